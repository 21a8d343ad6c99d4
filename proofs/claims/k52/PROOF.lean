import PyProof.Rows.All
import Wide.All
import OpenK.AllK
import Wide.FinOn
import HandS.ForMost
import HandS.ForExc
import HandS.Lambda
import HandS.Deep
import HandS.Zip
import HandS.CallSlots
import HandS.ExcInit
import HandS.ExcField
import HandS.TryMany
import HandS.ClsMeth
import HandS.Defaults
import HandS.SortInts
import HandS.TupSets
import HandS.IsInst
import KE.DatumOrd
import KE.SortData
import HandS.More
import HandS.NoneIn
import HandS.SetBool
import HandS.Strs
import HandS.Conv
import HandS.Style
import HandS.Nested
import HandS.EndOwn
import HandS.ExcIs
import HandS.MakeKwOnly
import KE.KMinKey
import HandS.SortKw
import HandS.DictComp
import HandS.Flow
import PySem.Challenge.RW_joinlarder_k52_whole_fewer_are_always_fo
set_option Elab.async false
set_option linter.all false
set_option maxRecDepth 100000
set_option maxHeartbeats 4000000
set_option autoImplicit false
namespace DL
open PySem L2

/-- the written part, and the tables of code objects -/
structure KTb where
  K : PySem.W.Frag
  T : List (Addr × Str)
/-- a value by its content: lists, tuples and dicts that are never changed any more stand as data, others by their address -/
inductive D where
  | non | bl (b : Bool) | int (i : Int) | str (x : Str) | ref (a : Addr)
  | tup (xs : List D) | lst (xs : List D) | dic (kvs : List (Key × D)) | scr (ns : List Int)
  | obj (C : Addr) (fs : List (Str × D)) | dit (kvs : List (List Key × D))
  | any (v : V) (P : Hp → Prop)

/-- a cell that may still be changed -/
inductive Cell where
  | lst (xs : List D) | dic (kvs : List (Key × D)) | dit (kvs : List (List Key × D)) | lkd (kvs : List (Key × D)) (u : HO) | ins (C : Addr) (fs : List (Str × D)) | opq (φ : List D → Prop)
abbrev Mp := Addr → Option Cell
def mup (M : Mp) (a : Addr) (c : Cell) : Mp := fun b => if b = a then some c else M b
def mdel (M : Mp) (a : Addr) : Mp := fun b => if b = a then none else M b
theorem mup_same {M : Mp} {a : Addr} {c : Cell} : mup M a c a = some c := if_pos rfl
theorem mup_ne {M : Mp} {a b : Addr} {c : Cell} (h : b ≠ a) : mup M a c b = M b := if_neg h
theorem mdel_same {M : Mp} {a : Addr} : mdel M a a = none := if_pos rfl
theorem mdel_ne {M : Mp} {a b : Addr} (h : b ≠ a) : mdel M a b = M b := if_neg h
theorem mdel_mup {M : Mp} {a : Addr} {c : Cell} (h : M a = none) : mdel (mup M a c) a = M := by
  funext b
  unfold mdel mup
  by_cases e : b = a
  · rw [if_pos e, e, h]
  · rw [if_neg e, if_neg e]
theorem mup_mup {M : Mp} {a : Addr} {c d : Cell} : mup (mup M a c) a d = mup M a d := by
  funext b
  unfold mup
  split <;> rfl
theorem mup_comm {M : Mp} {a b : Addr} {c d : Cell} (h : a ≠ b) : mup (mup M a c) b d = mup (mup M b d) a c := by
  funext x
  unfold mup
  by_cases e : x = b
  · rw [if_pos e, if_neg (fun z => h (z.symm.trans e)), if_pos e]
  · rw [if_neg e, if_neg e]
theorem mup_self {M : Mp} {a : Addr} {c : Cell} (h : M a = some c) : mup M a c = M := by
  funext x
  unfold mup
  by_cases e : x = a
  · rw [if_pos e, e, h]
  · rw [if_neg e]

/-- a list, a tuple of the written part -/
def WrL (K : PySem.W.Frag) (a : Addr) (xs : List V) : Prop := ∃ (o : Obj) (its : Array Value) (n : Nat), K.lookup a = some o ∧ o.cls = .type "list" ∧ o.dict = none ∧ o.data = .seq its n ∧ its.size ≤ sizeLine ∧ Vals xs its.toList
def WrT (K : PySem.W.Frag) (a : Addr) (xs : List V) : Prop := ∃ (o : Obj) (its : Array Value) (n : Nat), K.lookup a = some o ∧ o.cls = .type "tuple" ∧ o.data = .seq its n ∧ its.size ≤ sizeLine ∧ Vals xs its.toList

section
variable (K : KTb) (F : Hp)
mutual
inductive Rp : V → D → Prop
  | non : Rp .non .non
  | bl (b : Bool) : Rp (.bl b) (.bl b)
  | int (i : Int) : Rp (.int i) (.int i)
  | str (x : Str) : Rp (.str x) (.str x)
  | ref (a : Addr) : Rp (.ref a) (.ref a)
  | tup {a : Addr} {vs : List V} {ds : List D} : (F a = some (.tup vs) ∨ WrT K.K a vs) → Rps vs ds → Rp (.ref a) (.tup ds)
  | lst {a : Addr} {vs : List V} {ds : List D} : F a = some (.lst vs) → Rps vs ds → Rp (.ref a) (.lst ds)
  | dic {a : Addr} {kvs : List (Key × V)} {kds : List (Key × D)} : F a = some (.dK kvs) → RpK kvs kds → Rp (.ref a) (.dic kds)
  | scr {a : Addr} {ns : List Int} : (F a = some (.lst (ns.map V.int)) ∨ (∃ ob, F a = some (.frz ob (.lst (ns.map V.int)))) ∨ WrL K.K a (ns.map V.int)) → Rp (.ref a) (.scr ns)
  | obj {a C dx : Addr} {vs : List (Str × V)} {fs : List (Str × D)} : F a = some (.ins C dx vs) → RpS vs fs → Rp (.ref a) (.obj C fs)
  | dit {a : Addr} {kvs : List (List Key × V)} {kds : List (List Key × D)} : F a = some (.dT kvs) → RpT kvs kds → Rp (.ref a) (.dit kds)
  | any {v : V} {P : Hp → Prop} : v ≠ .non → (∀ F', Same F F' → P F') → Rp v (.any v P)
inductive Rps : List V → List D → Prop
  | nil : Rps [] []
  | cons {v : V} {vs : List V} {d : D} {ds : List D} : Rp v d → Rps vs ds → Rps (v :: vs) (d :: ds)
inductive RpK : List (Key × V) → List (Key × D) → Prop
  | nil : RpK [] []
  | cons {k : Key} {v : V} {vs : List (Key × V)} {d : D} {ds : List (Key × D)} : Rp v d → RpK vs ds → RpK ((k, v) :: vs) ((k, d) :: ds)
inductive RpT : List (List Key × V) → List (List Key × D) → Prop
  | nil : RpT [] []
  | cons {k : List Key} {v : V} {vs : List (List Key × V)} {d : D} {ds : List (List Key × D)} : Rp v d → RpT vs ds → RpT ((k, v) :: vs) ((k, d) :: ds)
inductive RpS : List (Str × V) → List (Str × D) → Prop
  | nil : RpS [] []
  | cons {k : Str} {v : V} {vs : List (Str × V)} {d : D} {ds : List (Str × D)} : Rp v d → RpS vs ds → RpS ((k, v) :: vs) ((k, d) :: ds)
end
end
section
variable {K : KTb} {F F' : Hp}
mutual
theorem Rp.mono (s : Same F F') : ∀ (d : D) (v : V), Rp K F v d → Rp K F' v d
  | .non, _, h => by cases h; exact .non
  | .bl b, _, h => by cases h; exact .bl b
  | .int i, _, h => by cases h; exact .int i
  | .str x, _, h => by cases h; exact .str x
  | .ref a, _, h => by cases h; exact .ref a
  | .tup ds, _, h => by
    cases h with
    | tup h1 h2 => exact .tup (h1.imp_left (s _ _)) (Rps.mono s ds _ h2)
  | .lst ds, _, h => by
    cases h with
    | lst h1 h2 => exact .lst (s _ _ h1) (Rps.mono s ds _ h2)
  | .dic ds, _, h => by
    cases h with
    | dic h1 h2 => exact .dic (s _ _ h1) (RpK.mono s ds _ h2)
  | .scr ns, _, h => by
    cases h with
    | scr h1 => exact .scr (h1.imp (s _ _) fun h1 => h1.imp_left fun ⟨ob, z⟩ => ⟨ob, s _ _ z⟩)
  | .obj C fs, _, h => by
    cases h with
    | obj h1 h2 => exact .obj (s _ _ h1) (RpS.mono s fs _ h2)
  | .dit ds, _, h => by
    cases h with
    | dit h1 h2 => exact .dit (s _ _ h1) (RpT.mono s ds _ h2)
  | .any v P, _, h => by
    cases h with
    | any n q => exact .any n fun F2 s2 => q F2 (s.trans s2)
theorem Rps.mono (s : Same F F') : ∀ (ds : List D) (vs : List V), Rps K F vs ds → Rps K F' vs ds
  | [], _, h => by cases h; exact .nil
  | d :: ds, _, h => by
    cases h with
    | cons h1 h2 => exact .cons (Rp.mono s d _ h1) (Rps.mono s ds _ h2)
theorem RpK.mono (s : Same F F') : ∀ (ds : List (Key × D)) (vs : List (Key × V)), RpK K F vs ds → RpK K F' vs ds
  | [], _, h => by cases h; exact .nil
  | (k, d) :: ds, _, h => by
    cases h with
    | cons h1 h2 => exact .cons (Rp.mono s d _ h1) (RpK.mono s ds _ h2)
theorem RpT.mono (s : Same F F') : ∀ (ds : List (List Key × D)) (vs : List (List Key × V)), RpT K F vs ds → RpT K F' vs ds
  | [], _, h => by cases h; exact .nil
  | (k, d) :: ds, _, h => by
    cases h with
    | cons h1 h2 => exact .cons (Rp.mono s d _ h1) (RpT.mono s ds _ h2)
theorem RpS.mono (s : Same F F') : ∀ (ds : List (Str × D)) (vs : List (Str × V)), RpS K F vs ds → RpS K F' vs ds
  | [], _, h => by cases h; exact .nil
  | (k, d) :: ds, _, h => by
    cases h with
    | cons h1 h2 => exact .cons (Rp.mono s d _ h1) (RpS.mono s ds _ h2)
end
theorem Rps.length : ∀ {vs : List V} {ds : List D}, Rps K F vs ds → vs.length = ds.length
  | _, _, .nil => rfl
  | _, _, .cons _ t => congrArg (· + 1) (Rps.length t)
theorem Rps.get : ∀ {vs : List V} {ds : List D} {i : Nat} {d : D}, Rps K F vs ds → ds[i]? = some d → ∃ v, vs[i]? = some v ∧ Rp K F v d
  | _, _, _, _, .nil, e => by simp at e
  | _, _, 0, _, .cons r _, e => by simp at e; subst e; exact ⟨_, rfl, r⟩
  | _, _, i + 1, x, .cons _ t, e => by
    obtain ⟨u, h1, h2⟩ := Rps.get (i := i) (d := x) t (by simpa using e)
    exact ⟨u, by simpa using h1, h2⟩
theorem Rps.getV : ∀ {vs : List V} {ds : List D} {i : Nat} {v : V}, Rps K F vs ds → vs[i]? = some v → ∃ d, ds[i]? = some d ∧ Rp K F v d
  | _, _, _, _, .nil, e => by simp at e
  | _, _, 0, _, .cons r _, e => by simp at e; subst e; exact ⟨_, rfl, r⟩
  | _, _, i + 1, x, .cons _ t, e => by
    obtain ⟨u, h1, h2⟩ := Rps.getV (i := i) (v := x) t (by simpa using e)
    exact ⟨u, by simpa using h1, h2⟩
theorem Rps.append : ∀ {xs ys : List V} {us ws : List D}, Rps K F xs us → Rps K F ys ws → Rps K F (xs ++ ys) (us ++ ws)
  | _, _, _, _, .nil, s => s
  | _, _, _, _, .cons r t, s => .cons r (Rps.append t s)
theorem Rps.set {x : V} {u : D} (r : Rp K F x u) : ∀ {xs : List V} {us : List D} (i : Nat), Rps K F xs us → Rps K F (xs.set i x) (us.set i u)
  | _, _, _, .nil => .nil
  | _, _, 0, .cons _ t => .cons r t
  | _, _, i + 1, .cons q t => .cons q (Rps.set r i t)
theorem Rps.take : ∀ {xs : List V} {us : List D} (n : Nat), Rps K F xs us → Rps K F (xs.take n) (us.take n)
  | _, _, 0, _ => .nil
  | _, _, _ + 1, .nil => .nil
  | _, _, n + 1, .cons r t => .cons r (Rps.take n t)
theorem Rps.drop : ∀ {xs : List V} {us : List D} (n : Nat), Rps K F xs us → Rps K F (xs.drop n) (us.drop n)
  | _, _, 0, r => r
  | _, _, _ + 1, .nil => .nil
  | _, _, n + 1, .cons _ t => Rps.drop n t
theorem Rps.ints : ∀ {vs : List V} {ns : List Int}, Rps K F vs (ns.map D.int) → vs = ns.map V.int
  | [], [], _ => rfl
  | [], _ :: _, h => by cases h
  | _ :: _, [], h => by cases h
  | v :: vs, n :: ns, h => by
    cases h with
    | cons h1 h2 =>
      cases h1
      rw [Rps.ints h2]
      rfl
theorem Rps.bls : ∀ {vs : List V} {ns : List Bool}, Rps K F vs (ns.map D.bl) → vs = ns.map V.bl
  | [], [], _ => rfl
  | [], _ :: _, h => by cases h
  | _ :: _, [], h => by cases h
  | v :: vs, n :: ns, h => by
    cases h with
    | cons h1 h2 =>
      cases h1
      rw [Rps.bls h2]
      rfl
theorem Rps.strs : ∀ {vs : List V} {ns : List Str}, Rps K F vs (ns.map D.str) → vs = ns.map V.str
  | [], [], _ => rfl
  | [], _ :: _, h => by cases h
  | _ :: _, [], h => by cases h
  | v :: vs, n :: ns, h => by
    cases h with
    | cons h1 h2 =>
      cases h1
      rw [Rps.strs h2]
      rfl
theorem Rps.ofInts : ∀ (ns : List Int), Rps K F (ns.map V.int) (ns.map D.int)
  | [] => .nil
  | n :: ns => .cons (.int n) (Rps.ofInts ns)
theorem Rps.ofStrs : ∀ (ns : List Str), Rps K F (ns.map V.str) (ns.map D.str)
  | [] => .nil
  | n :: ns => .cons (.str n) (Rps.ofStrs ns)
end

/-- fields: by name -/
def RpF (K : KTb) (F : Hp) : List (Str × V) → List (Str × D) → Prop := Paired fun (p : Str × V) (q : Str × D) => p.1 = q.1 ∧ Rp K F p.2 q.2
theorem Paired.mapP2 {α β : Type} {F G : α → β → Prop} : ∀ {l₁ : List α} {l₂ : List β}, Paired F l₁ l₂ → (∀ a b, F a b → G a b) → Paired G l₁ l₂
  | _, _, .nil, _ => .nil
  | _, _, .cons r t, f => .cons (f _ _ r) (Paired.mapP2 t f)
theorem RpF.mono {K : KTb} {F F' : Hp} {vs : List (Str × V)} {ds : List (Str × D)} (s : Same F F') (h : RpF K F vs ds) : RpF K F' vs ds := Paired.mapP2 h fun _ _ z => ⟨z.1, z.2.mono s⟩
theorem RpF.look {K : KTb} {F : Hp} {f : Str} {d : D} : ∀ {vs : List (Str × V)} {ds : List (Str × D)}, RpF K F vs ds → ds.lookup f = some d → ∃ v, vs.lookup f = some v ∧ Rp K F v d
  | _, _, .nil, e => by cases e
  | (g, v) :: vs, (g', d') :: ds, .cons r t, e => by
    obtain ⟨e1, r⟩ := r
    have e1 : g = g' := e1
    subst e1
    rw [List.lookup_cons] at e ⊢
    cases hb : f == g with
    | true =>
      rw [hb] at e
      have e : some d' = some d := e
      cases e
      exact ⟨v, rfl, r⟩
    | false =>
      rw [hb] at e
      exact RpF.look t e
theorem RpF.lookN {K : KTb} {F : Hp} {f : Str} : ∀ {vs : List (Str × V)} {ds : List (Str × D)}, RpF K F vs ds → ds.lookup f = none → vs.lookup f = none
  | _, _, .nil, _ => rfl
  | (g, v) :: vs, (g', d') :: ds, .cons r t, e => by
    obtain ⟨e1, r⟩ := r
    have e1 : g = g' := e1
    subst e1
    rw [List.lookup_cons] at e ⊢
    cases hb : f == g with
    | true =>
      rw [hb] at e
      cases e
    | false =>
      rw [hb] at e
      exact RpF.lookN t e

def RpC (K : KTb) (F : Hp) : Cell → HO → Prop
  | .lst ds, o => ∃ vs, o = .lst vs ∧ Rps K F vs ds
  | .dic ds, o => ∃ vs, o = .dK vs ∧ RpK K F vs ds
  | .dit ds, o => ∃ vs, o = .dT vs ∧ RpT K F vs ds
  | .lkd ds u, o => o = u ∧ ∃ od vs, u = .frz od (.dK vs) ∧ RpK K F vs ds
  | .ins C fs, o => ∃ dx vs, o = .ins C dx vs ∧ RpF K F vs fs
  | .opq φ, o => ∃ vs ds, φ ds ∧ o = .lst vs ∧ Rps K F vs ds
theorem RpC.mono {K : KTb} {F F' : Hp} (s : Same F F') : ∀ {c : Cell} {o : HO}, RpC K F c o → RpC K F' c o
  | .lst _, _, ⟨vs, e, h⟩ => ⟨vs, e, h.mono s⟩
  | .dic _, _, ⟨vs, e, h⟩ => ⟨vs, e, h.mono s⟩
  | .dit _, _, ⟨vs, e, h⟩ => ⟨vs, e, h.mono s⟩
  | .lkd _ _, _, ⟨e0, od, vs, e, h⟩ => ⟨e0, od, vs, e, h.mono s⟩
  | .ins _ _, _, ⟨dx, vs, e, h⟩ => ⟨dx, vs, e, h.mono s⟩
  | .opq _, _, ⟨vs, ds, e1, e2, h⟩ => ⟨vs, ds, e1, e2, h.mono s⟩

/-- it stands there, a dict perhaps locked -/
def Sd (H : Hp) (a : Addr) (o : HO) : Prop := H a = some o ∨ ((∃ kvs, o = .dK kvs) ∧ ∃ ob, H a = some (.frz ob o))
def Fk : HO → Prop
  | .lst _ => True
  | .tup _ => True
  | .dK _ => True
  | .dT _ => True
  | .ins _ _ _ => True
  | .frz _ (.lst _) => True
  | .ext _ => True
  | .xd _ => True
  | _ => False
/-- the frozen part F and the cells M stand in the heap H -/
structure Cc (K : KTb) (M : Mp) (F H : Hp) : Prop where
  tb : LamX.Tabs K.T H
  fk : ∀ a o, F a = some o → Fk o
  fr : ∀ a o, F a = some o → Sd H a o
  ow : ∀ a c, M a = some c → F a = none ∧ ∃ o, H a = some o ∧ RpC K F c o
section
variable {K : KTb} {M : Mp} {F F' H : Hp} {p : Addr}
theorem Sd.ne_none {a : Addr} {o : HO} (r : Sd H a o) (h : H a = none) : False := by
  rcases r with r | ⟨_, _, r⟩ <;> rw [h] at r <;> cases r
theorem Sd.rd {a : Addr} {o : HO} (r : Sd H a o) : Rd H a o := by
  rcases r with r | ⟨_, ob, r⟩
  · exact .inl r
  · exact .inr ⟨ob, r⟩
theorem Sd.lst {a : Addr} {xs : List V} (r : Sd H a (.lst xs)) : H a = some (.lst xs) := by
  rcases r with r | ⟨⟨_, e⟩, _⟩
  · exact r
  · cases e
theorem Sd.tup {a : Addr} {xs : List V} (r : Sd H a (.tup xs)) : H a = some (.tup xs) := by
  rcases r with r | ⟨⟨_, e⟩, _⟩
  · exact r
  · cases e
theorem Cc.Fnone (c : Cc K M F H) (h : H p = none) : F p = none := by
  cases e : F p with
  | none => rfl
  | some o => exact (Sd.ne_none (c.fr _ _ e) h).elim
theorem Cc.Mnone (c : Cc K M F H) (h : H p = none) : M p = none := by
  cases e : M p with
  | none => rfl
  | some o =>
    obtain ⟨_, o, e', _⟩ := c.ow _ _ e
    rw [h] at e'
    cases e'
theorem Sd.upd {a : Addr} {o u : HO} (r : Sd H a o) (h : a ≠ p) : Sd (upd H p u) a o := by
  rcases r with r | ⟨e, ob, r⟩
  · exact .inl (by rw [upd_ne h]; exact r)
  · exact .inr ⟨e, ob, by rw [upd_ne h]; exact r⟩
theorem Same.upd {o : HO} (h : F p = none) : Same F (upd F p o) := fun b u e => by
  rw [upd_ne (ne_of_none e h)]
  exact e
/-- the tables stay where p is none of their objects -/
theorem tabs_upd {T : List (Addr × Str)} {o : HO} (t : LamX.Tabs T H) (h : H p = none ∨ ∃ u, H p = some u ∧ (∀ ps, u ≠ .tbl ps) ∧ ∀ φ, u ≠ .ext φ) : LamX.Tabs T (upd H p o) := fun q hq => by
  obtain ⟨ps, e1, e2, e3⟩ := t q hq
  have ne : ∀ b u, H b = some u → ((∃ ps, u = .tbl ps) ∨ ∃ φ, u = .ext φ) → b ≠ p := fun b u e k z => by
    rw [z] at e
    rcases h with h | ⟨u', h, n1, n2⟩
    · rw [h] at e; cases e
    · rw [h] at e
      cases e
      rcases k with ⟨ps, k⟩ | ⟨φ, k⟩
      · exact n1 ps k
      · exact n2 φ k
  refine ⟨ps, by rw [upd_ne (ne _ _ e1 (.inl ⟨_, rfl⟩))]; exact e1, e2, fun pos cv hc => ?_⟩
  obtain ⟨c, e4, e5⟩ := e3 pos cv hc
  exact ⟨c, e4, by rw [upd_ne (ne _ _ e5 (.inr ⟨_, rfl⟩))]; exact e5⟩
theorem rpc_kind {F : Hp} {c : Cell} {o : HO} (r : RpC K F c o) : (∀ ps, o ≠ .tbl ps) ∧ ∀ φ, o ≠ .ext φ := by
  cases c with
  | lst ds => obtain ⟨vs, e, _⟩ := r; subst e; exact ⟨fun _ z => (by cases z), fun _ z => (by cases z)⟩
  | dic ds => obtain ⟨vs, e, _⟩ := r; subst e; exact ⟨fun _ z => (by cases z), fun _ z => (by cases z)⟩
  | dit ds => obtain ⟨vs, e, _⟩ := r; subst e; exact ⟨fun _ z => (by cases z), fun _ z => (by cases z)⟩
  | lkd ds u => obtain ⟨e0, od, vs, e, _⟩ := r; subst e0; subst e; exact ⟨fun _ z => (by cases z), fun _ z => (by cases z)⟩
  | ins C fs => obtain ⟨dx, vs, e, _⟩ := r; subst e; exact ⟨fun _ z => (by cases z), fun _ z => (by cases z)⟩
  | opq φ => obtain ⟨vs, ds, _, e, _⟩ := r; subst e; exact ⟨fun _ z => (by cases z), fun _ z => (by cases z)⟩
/-- a new thing that is frozen at once -/
theorem Cc.newF {o : HO} (c : Cc K M F H) (h : H p = none) (hk : Fk o := by exact True.intro) : Cc K M (upd F p o) (upd H p o) where
  tb := tabs_upd c.tb (.inl h)
  fk := fun a u e => by
    by_cases ha : a = p
    · subst ha
      rw [upd_same] at e
      cases e
      exact hk
    · rw [upd_ne ha] at e
      exact c.fk _ _ e
  fr := fun a u e => by
    by_cases ha : a = p
    · subst ha
      rw [upd_same] at e
      cases e
      exact .inl upd_same
    · rw [upd_ne ha] at e
      exact Sd.upd (c.fr _ _ e) ha
  ow := fun a u e => by
    obtain ⟨h1, o', h2, h3⟩ := c.ow _ _ e
    have ha : a ≠ p := fun z => by rw [z, h] at h2; cases h2
    exact ⟨by rw [upd_ne ha]; exact h1, o', by rw [upd_ne ha]; exact h2, h3.mono (Same.upd (c.Fnone h))⟩
/-- a new cell -/
theorem Cc.newM {o : HO} {x : Cell} (c : Cc K M F H) (h : H p = none) (r : RpC K F x o) : Cc K (mup M p x) F (upd H p o) where
  tb := tabs_upd c.tb (.inl h)
  fk := c.fk
  fr := fun a u e => by
    have ha : a ≠ p := fun z => by rw [z, c.Fnone h] at e; cases e
    exact Sd.upd (c.fr _ _ e) ha
  ow := fun a u e => by
    by_cases ha : a = p
    · subst ha
      rw [mup_same] at e
      cases e
      exact ⟨c.Fnone h, o, upd_same, r⟩
    · rw [mup_ne ha] at e
      obtain ⟨h1, o', h2, h3⟩ := c.ow _ _ e
      exact ⟨h1, o', by rw [upd_ne ha]; exact h2, h3⟩
/-- a cell is written -/
theorem Cc.write {o : HO} {x y : Cell} (c : Cc K M F H) (h : M p = some y) (r : RpC K F x o) : Cc K (mup M p x) F (upd H p o) where
  tb := by
    obtain ⟨_, o', h2, h3⟩ := c.ow _ _ h
    exact tabs_upd c.tb (.inr ⟨o', h2, rpc_kind h3⟩)
  fk := c.fk
  fr := fun a u e => by
    have ha : a ≠ p := fun z => by rw [z, (c.ow _ _ h).1] at e; cases e
    exact Sd.upd (c.fr _ _ e) ha
  ow := fun a u e => by
    by_cases ha : a = p
    · subst ha
      rw [mup_same] at e
      cases e
      exact ⟨(c.ow _ _ h).1, o, upd_same, r⟩
    · rw [mup_ne ha] at e
      obtain ⟨h1, o', h2, h3⟩ := c.ow _ _ e
      exact ⟨h1, o', by rw [upd_ne ha]; exact h2, h3⟩
/-- new things that nobody asks about, the tables grown -/
theorem Cc.ext {H' : Hp} (c : Cc K M F H) (s : LamX.ExtN H H') (t : LamX.Tabs K.T H') : Cc K M F H' where
  tb := t
  fk := c.fk
  fr := fun a u e => by
    have k := c.fk _ _ e
    refine (c.fr a u e).imp (fun q => s _ _ q fun ps z => by subst z; exact k) fun ⟨q, o, z⟩ => ⟨q, o, s _ _ z fun ps z => by cases z⟩
  ow := fun a u e => by
    obtain ⟨h1, o', h2, h3⟩ := c.ow _ _ e
    exact ⟨h1, o', s _ _ h2 (rpc_kind h3).1, h3⟩
theorem Cc.same {H' : Hp} (c : Cc K M F H) (s : Same H H') : Cc K M F H' := c.ext (LamX.ExtN.of s) (c.tb.ext s)
theorem Cc.less {M' : Mp} (c : Cc K M F H) (h : ∀ a u, M' a = some u → M a = some u) : Cc K M' F H := ⟨c.tb, c.fk, c.fr, fun a u e => c.ow a u (h a u e)⟩
/-- a cell is frozen -/
theorem Cc.freezeO {x : Cell} {o : HO} (c : Cc K M F H) (h : M p = some x) (ho : H p = some o) (hk : Fk o) : Same F (upd F p o) ∧ Cc K (mdel M p) (upd F p o) H := by
  obtain ⟨h1, o', h2, h3⟩ := c.ow _ _ h
  have s : Same F (upd F p o) := Same.upd h1
  refine ⟨s, c.tb, fun a u e => ?_, fun a u e => ?_, fun a u e => ?_⟩
  · by_cases ha : a = p
    · subst ha
      rw [upd_same] at e
      cases e
      exact hk
    · rw [upd_ne ha] at e
      exact c.fk _ _ e
  · by_cases ha : a = p
    · subst ha
      rw [upd_same] at e
      cases e
      exact .inl ho
    · rw [upd_ne ha] at e
      exact c.fr _ _ e
  · by_cases ha : a = p
    · subst ha
      rw [mdel_same] at e
      cases e
    · rw [mdel_ne ha] at e
      obtain ⟨g1, o', g2, g3⟩ := c.ow _ _ e
      exact ⟨by rw [upd_ne ha]; exact g1, o', g2, g3.mono s⟩
theorem Cc.freeze {ds : List D} (c : Cc K M F H) (h : M p = some (.lst ds)) : ∃ F', Same F F' ∧ Cc K (mdel M p) F' H ∧ Rp K F' (.ref p) (.lst ds) := by
  obtain ⟨h1, o, h2, vs, e, h3⟩ := c.ow _ _ h
  subst e
  obtain ⟨s, c2⟩ := c.freezeO h h2 True.intro
  exact ⟨_, s, c2, .lst upd_same (h3.mono s)⟩
theorem Cc.freezeD {ds : List (Key × D)} (c : Cc K M F H) (h : M p = some (.dic ds)) : ∃ F', Same F F' ∧ Cc K (mdel M p) F' H ∧ Rp K F' (.ref p) (.dic ds) := by
  obtain ⟨h1, o, h2, vs, e, h3⟩ := c.ow _ _ h
  subst e
  obtain ⟨s, c2⟩ := c.freezeO h h2 True.intro
  exact ⟨_, s, c2, .dic upd_same (h3.mono s)⟩
theorem rpS_of {K : KTb} {F : Hp} : ∀ {vs : List (Str × V)} {fs : List (Str × D)}, RpF K F vs fs → RpS K F vs fs
  | _, _, .nil => .nil
  | (g, v) :: vs, (g', d) :: fs, .cons r t => by
    obtain ⟨e1, r⟩ := r
    have e1 : g = g' := e1
    subst e1
    exact .cons r (rpS_of t)
theorem rpF_of {K : KTb} {F : Hp} : ∀ {vs : List (Str × V)} {fs : List (Str × D)}, RpS K F vs fs → RpF K F vs fs
  | _, _, .nil => .nil
  | _, _, .cons r t => .cons ⟨rfl, r⟩ (rpF_of t)
theorem Cc.freezeT {ds : List (List Key × D)} (c : Cc K M F H) (h : M p = some (.dit ds)) : ∃ F', Same F F' ∧ Cc K (mdel M p) F' H ∧ Rp K F' (.ref p) (.dit ds) := by
  obtain ⟨h1, o, h2, vs, e, h3⟩ := c.ow _ _ h
  subst e
  obtain ⟨s, c2⟩ := c.freezeO h h2 True.intro
  exact ⟨_, s, c2, .dit upd_same (h3.mono s)⟩
theorem Cc.freezeI {C : Addr} {fs : List (Str × D)} (c : Cc K M F H) (h : M p = some (.ins C fs)) : ∃ F', Same F F' ∧ Cc K (mdel M p) F' H ∧ Rp K F' (.ref p) (.obj C fs) := by
  obtain ⟨h1, o, h2, dx, vs, e, h3⟩ := c.ow _ _ h
  subst e
  obtain ⟨s, c2⟩ := c.freezeO h h2 True.intro
  exact ⟨_, s, c2, .obj upd_same (rpS_of (h3.mono s))⟩
theorem Cc.open {φ : List D → Prop} (c : Cc K M F H) (h : M p = some (.opq φ)) : ∃ ds, φ ds ∧ Cc K (mup M p (.lst ds)) F H := by
  obtain ⟨h1, o, h2, vs, ds, e1, e2, h3⟩ := c.ow _ _ h
  refine ⟨ds, e1, c.tb, c.fk, c.fr, fun a u e => ?_⟩
  by_cases ha : a = p
  · subst ha
    rw [mup_same] at e
    cases e
    exact ⟨h1, o, h2, vs, e2, h3⟩
  · rw [mup_ne ha] at e
    exact c.ow _ _ e
theorem Cc.close {φ : List D → Prop} {ds : List D} (c : Cc K M F H) (h : M p = some (.lst ds)) (hd : φ ds) : Cc K (mup M p (.opq φ)) F H := by
  obtain ⟨h1, o, h2, vs, e, h3⟩ := c.ow _ _ h
  refine ⟨c.tb, c.fk, c.fr, fun a u e => ?_⟩
  by_cases ha : a = p
  · subst ha
    rw [mup_same] at e
    cases e
    exact ⟨h1, o, h2, vs, ds, hd, by assumption, h3⟩
  · rw [mup_ne ha] at e
    exact c.ow _ _ e
end
end DL

namespace DL
open PySem L2

abbrev DG := List (Option D)
abbrev DQ := D → Mp → Prop
/-- an exception: the slots, the class's address, its fields, the cells -/
abbrev DXE := DG → Addr → List (Str × D) → Mp → Prop
abbrev DTE := DG → Mp → DQ → DXE → Prop
abbrev DTT := DG → Mp → (Bool → Mp → Prop) → DXE → Prop
abbrev DTA := DG → Mp → (List D → Mp → Prop) → DXE → Prop
structure DEnds where
  nx : DG → Mp → Prop
  rt : DQ
  bk : DG → Mp → Prop := fun _ _ => False
  ct : DG → Mp → Prop := fun _ _ => False
  ex : DXE := fun _ _ _ _ => False
abbrev DTS := DEnds → DG → Mp → Prop

structure RpG (K : KTb) (F : Hp) (σ : St) (Γ : DG) : Prop where
  len : σ.length = Γ.length
  at_ : ∀ (i : Nat) (d : D), Γ[i]? = some (some d) → ∃ v, σ[i]? = some (some v) ∧ Rp K F v d
theorem RpG.mono {K : KTb} {F F' : Hp} {σ : St} {Γ : DG} (g : RpG K F σ Γ) (s : Same F F') : RpG K F' σ Γ :=
  ⟨g.len, fun i d e => let ⟨v, e1, r⟩ := g.at_ i d e; ⟨v, e1, r.mono s⟩⟩
theorem RpG.set {K : KTb} {F : Hp} {σ : St} {Γ : DG} {v : V} {d : D} (g : RpG K F σ Γ) (r : Rp K F v d) (i : Nat) : RpG K F (σ.set i (some v)) (Γ.set i (some d)) := by
  refine ⟨by rw [List.length_set, List.length_set]; exact g.len, fun j e h => ?_⟩
  by_cases hj : i = j
  · subst hj
    by_cases hl : i < Γ.length
    · rw [List.getElem?_set_self hl] at h
      cases h
      exact ⟨v, by rw [List.getElem?_set_self (by rw [g.len]; exact hl)], r⟩
    · rw [List.getElem?_eq_none (by rw [List.length_set]; omega)] at h
      cases h
  · rw [List.getElem?_set_ne hj] at h ⊢
    exact g.at_ j e h
theorem RpG.unset {K : KTb} {F : Hp} {σ : St} {Γ : DG} (g : RpG K F σ Γ) (i : Nat) : RpG K F (σ.set i none) (Γ.set i none) := by
  refine ⟨by rw [List.length_set, List.length_set]; exact g.len, fun j e h => ?_⟩
  by_cases hj : i = j
  · subst hj
    by_cases hl : i < Γ.length
    · rw [List.getElem?_set_self hl] at h
      cases h
    · rw [List.getElem?_eq_none (by rw [List.length_set]; omega)] at h
      cases h
  · rw [List.getElem?_set_ne hj] at h ⊢
    exact g.at_ j e h

/-- what is wished of exceptions, the tables -/
structure WT where
  T : List (Addr × Str)
  w : WX
abbrev kt (X : Cx) (W : WT) : KTb := ⟨X.K, W.T⟩
/-- what is wished of an exception, from the frozen part F on -/
def Ew (K : KTb) (F : Hp) (E : DXE) (W : WX) : Prop := ∀ (F' H' : Hp) (σ : St) (Γ : DG) (C d : Addr) (vs : List (Str × V)) (fs : List (Str × D)) (M : Mp),
  Same F F' → Cc K M F' H' → RpG K F' σ Γ → H' d = some (.xd vs) → RpF K F' vs fs → E Γ C fs M → W (.ref C) (some d) σ H'
theorem Ew.mono {K : KTb} {F F1 : Hp} {E : DXE} {W : WX} (w : Ew K F E W) (s : Same F F1) : Ew K F1 E W := fun F' H' σ Γ C d vs fs M s1 => w F' H' σ Γ C d vs fs M (s.trans s1)
/-- where one stands -/
structure At (K : KTb) (W : WX) (σ : St) (H : Hp) (Γ : DG) (M : Mp) (F : Hp) (E : DXE) : Prop where
  c : Cc K M F H
  g : RpG K F σ Γ
  w : Ew K F E W
theorem At.next {K : KTb} {W : WX} {σ : St} {H H' F F' : Hp} {Γ : DG} {M M' : Mp} {E : DXE} (a : At K W σ H Γ M F E) (s : Same F F') (c : Cc K M' F' H') : At K W σ H' Γ M' F' E := ⟨c, a.g.mono s, a.w.mono s⟩

/-- what is to follow a value -/
def CoQ (K : KTb) (F : Hp) (Qd : DQ) (Q : VK) : Prop := ∀ (F' H' : Hp) (v : V) (d : D) (M' : Mp), Same F F' → Cc K M' F' H' → Rp K F' v d → Qd d M' → Q v H'
theorem CoQ.mono {K : KTb} {F F1 : Hp} {Qd : DQ} {Q : VK} (w : CoQ K F Qd Q) (s : Same F F1) : CoQ K F1 Qd Q := fun F' H' v d M s1 => w F' H' v d M (s.trans s1)
def upE (K : KTb) (W : WX) (t : DTE) : TE := fun σ H Q => ∃ (Γ : DG) (M : Mp) (F : Hp) (E : DXE) (Qd : DQ), At K W σ H Γ M F E ∧ t Γ M Qd E ∧ CoQ K F Qd Q
def upT (K : KTb) (W : WX) (t : DTT) : TT := fun σ H Q => ∃ (Γ : DG) (M : Mp) (F : Hp) (E : DXE) (Qd : Bool → Mp → Prop), At K W σ H Γ M F E ∧ t Γ M Qd E ∧
  ∀ (F' H' : Hp) (b : Bool) (M' : Mp), Same F F' → Cc K M' F' H' → Qd b M' → Q b H'
def upA (K : KTb) (W : WX) (t : DTA) : TA := fun σ H Q => ∃ (Γ : DG) (M : Mp) (F : Hp) (E : DXE) (Qd : List D → Mp → Prop), At K W σ H Γ M F E ∧ t Γ M Qd E ∧
  ∀ (F' H' : Hp) (vs : List V) (ds : List D) (M' : Mp), Same F F' → Cc K M' F' H' → Rps K F' vs ds → Qd ds M' → Q vs H'
def CoS (K : KTb) (F : Hp) (Qd : DG → Mp → Prop) (Q : St → Hp → Prop) : Prop := ∀ (F' H' : Hp) (σ' : St) (Γ' : DG) (M' : Mp), Same F F' → Cc K M' F' H' → RpG K F' σ' Γ' → Qd Γ' M' → Q σ' H'
theorem CoS.mono {K : KTb} {F F1 : Hp} {Qd : DG → Mp → Prop} {Q : St → Hp → Prop} (w : CoS K F Qd Q) (s : Same F F1) : CoS K F1 Qd Q := fun F' H' σ Γ M s1 => w F' H' σ Γ M (s.trans s1)
structure CoE (K : KTb) (F : Hp) (Dn : DEnds) (E : Ends) : Prop where
  nx : CoS K F Dn.nx E.nx
  rt : CoQ K F Dn.rt E.rt
  bk : CoS K F Dn.bk E.bk
  ct : CoS K F Dn.ct E.ct
theorem CoE.mono {K : KTb} {F F1 : Hp} {Dn : DEnds} {E : Ends} (w : CoE K F Dn E) (s : Same F F1) : CoE K F1 Dn E := ⟨w.nx.mono s, w.rt.mono s, w.bk.mono s, w.ct.mono s⟩
def upS (K : KTb) (W : WX) (t : DTS) : TS := fun E σ H => ∃ (Γ : DG) (M : Mp) (F : Hp) (Dn : DEnds), At K W σ H Γ M F Dn.ex ∧ t Dn Γ M ∧ CoE K F Dn E

structure DE (X : Cx) (W : WT) (e : Expr) (t : DTE) : Prop where
  pe : PE X e (upE (kt X W) W.w t)
structure DT (X : Cx) (W : WT) (e : Expr) (t : DTT) : Prop where
  pt : PT X e (upT (kt X W) W.w t)
structure DW (X : Cx) (W : WT) (e : Expr) (t : DTT) : Prop where
  pw : PW X e (upT (kt X W) W.w t)
structure DA (X : Cx) (W : WT) (es : List Expr) (t : DTA) : Prop where
  pa : PA X es (upA (kt X W) W.w t)
structure DS (X : Cx) (W : WT) (s : Stmt) (t : DTS) : Prop where
  ps : PS X s (upS (kt X W) W.w t)
structure DSs (X : Cx) (W : WT) (s : List Stmt) (t : DTS) : Prop where
  ps : PSs X s (upS (kt X W) W.w t)

section
variable {X : Cx} {W : WT} {e a b : Expr} {es : List Expr} {st : Stmt} {sts : List Stmt}
theorem peW {t t' : TE} (p : PE X e t) (h : ∀ σ H Q, t' σ H Q → t σ H Q) : PE X e t' := ⟨fun pins s σ H Q I q => p.run pins s σ H Q I (h σ H Q q)⟩
theorem ptW {t t' : TT} (p : PT X e t) (h : ∀ σ H Q, t' σ H Q → t σ H Q) : PT X e t' := ⟨fun pins s σ H Q I q => p.run pins s σ H Q I (h σ H Q q)⟩
theorem pwW {t t' : TT} (p : PW X e t) (h : ∀ σ H Q, t' σ H Q → t σ H Q) : PW X e t' := ⟨fun wh pins s σ H Q I q => p.run wh pins s σ H Q I (h σ H Q q)⟩
theorem paW {t t' : TA} (p : PA X es t) (h : ∀ σ H Q, t' σ H Q → t σ H Q) : PA X es t' := ⟨fun pos pins s σ H Q I q => p.run pos pins s σ H Q I (h σ H Q q)⟩
theorem psW {t t' : TS} (p : PS X st t) (h : ∀ D σ H, t' D σ H → t D σ H) : PS X st t' := ⟨fun pins s σ H D I q => p.run pins s σ H D I (h D σ H q)⟩
theorem pssW {t t' : TS} (p : PSs X sts t) (h : ∀ D σ H, t' D σ H → t D σ H) : PSs X sts t' := ⟨fun pins s σ H D I q => p.run pins s σ H D I (h D σ H q)⟩

/-! ### names, constants -/
def dVar (i : Nat) : DTE := fun Γ M Q _ => ∃ d, Γ[i]? = some (some d) ∧ Q d M
theorem dv (i : Nat) {x : Str} {pos : Pos} (hN : X.N[i]? = some x := by rfl) (hv : Vis X.env.scope x := by first | exact Or.inl rfl | exact Or.inr (Or.inl rfl) | exact Or.inr (Or.inr rfl)) (hd : (x == ("__debug__" : Str)) = false := by decide)
    (hcd : (x == ("__classdict__" : Str)) = false := by decide) : DE X W (.Name x pos) (dVar i) :=
  ⟨peW (pe_var (i := i) hN hv hd hcd) fun σ H Q ⟨Γ, M, F, E, Qd, a, ⟨d, e, q⟩, k⟩ => by
    obtain ⟨v, e1, r⟩ := a.g.at_ i d e
    exact ⟨v, e1, k F H v d M (Same.refl _) a.c r q⟩⟩
def dC (d : D) : DTE := fun _ M Q _ => Q d M
theorem deC {v : V} {d : D} (p : PE X e (tC v)) (r : ∀ F, Rp (kt X W) F v d) : DE X W e (dC d) :=
  ⟨peW p fun σ H Q ⟨Γ, M, F, E, Qd, a, q, k⟩ => k F H v d M (Same.refl _) a.c (r F) q⟩
theorem de_int {i j pos} : DE X W (.Constant (.int i) j pos) (dC (.int i)) := deC pe_int fun _ => .int i
theorem de_bl {b j pos} : DE X W (.Constant (.bool b) j pos) (dC (.bl b)) := deC pe_bl fun _ => .bl b
theorem de_non {j pos} : DE X W (.Constant .none j pos) (dC .non) := deC pe_non fun _ => .non
theorem de_str {x j pos} : DE X W (.Constant (.str x) j pos) (dC (.str x)) := deC pe_str fun _ => .str x
theorem de_glob {x : Str} {v : V} {d : D} {u : Value} {pos : Pos} (hg : Gl X x) (hm : X.mg x = some u) (r : RelV v u) (hr : ∀ F, Rp (kt X W) F v d) (hd : (x == ("__debug__" : Str)) = false := by decide) : DE X W (.Name x pos) (dC d) :=
  deC (pe_glob hg hm r hd) hr

/-! ### argument lists, tuples, lists -/
def dNil : DTA := fun _ M Q _ => Q [] M
def dCons (ta : DTE) (tr : DTA) : DTA := fun Γ M Q E => ta Γ M (fun x M1 => tr Γ M1 (fun xs M2 => Q (x :: xs) M2) E) E
theorem da_nil : DA X W [] dNil := ⟨paW pa_nil fun σ H Q ⟨Γ, M, F, E, Qd, a, q, k⟩ => k F H [] [] M (Same.refl _) a.c .nil q⟩
theorem da_cons {te : DTE} {t : DTA} (ha : DE X W e te) (hr : DA X W es t) (hs : starEach (e :: es) X.env = (false, eval e X.env) :: starEach es X.env := by rfl) : DA X W (e :: es) (dCons te t) :=
  ⟨paW (pa_cons ha.pe hr.pa hs) fun σ H Q ⟨Γ, M, F, E, Qd, a, q, k⟩ => ⟨Γ, M, F, E, _, a, q, fun F1 H1 v d M1 s1 c1 r1 q1 =>
    ⟨Γ, M1, F1, E, _, a.next s1 c1, q1, fun F2 H2 vs ds M2 s2 c2 r2 q2 => k F2 H2 _ _ M2 (s1.trans s2) c2 (.cons (r1.mono s2) r2) q2⟩⟩⟩
def dTup (t : DTA) : DTE := fun Γ M Q E => t Γ M (fun xs M1 => xs.length ≤ sizeLine ∧ Q (.tup xs) M1) E
theorem de_tup {x1 pos} {t : DTA} (h : DA X W es t) : DE X W (.Tuple es x1 pos) (dTup t) :=
  ⟨peW (pe_tup h.pa) fun σ H Q ⟨Γ, M, F, E, Qd, a, q, k⟩ => ⟨Γ, M, F, E, _, a, q, fun F1 H1 vs ds M1 s1 c1 r1 ⟨z, q1⟩ => ⟨by rw [r1.length]; exact z, fun p hp =>
    k _ _ _ _ M1 (s1.trans (Same.upd (c1.Fnone hp))) (c1.newF hp) (.tup (.inl upd_same) (r1.mono (Same.upd (c1.Fnone hp)))) q1⟩⟩⟩
/-- a new list, frozen at once -/
def dLst (t : DTA) : DTE := fun Γ M Q E => t Γ M (fun xs M1 => xs.length ≤ sizeLine ∧ Q (.lst xs) M1) E
theorem de_lst {pos} {t : DTA} (h : DA X W es t) : DE X W (.List es pos) (dLst t) :=
  ⟨peW (pe_lst h.pa) fun σ H Q ⟨Γ, M, F, E, Qd, a, q, k⟩ => ⟨Γ, M, F, E, _, a, q, fun F1 H1 vs ds M1 s1 c1 r1 ⟨z, q1⟩ => ⟨by rw [r1.length]; exact z, fun p hp =>
    k _ _ _ _ M1 (s1.trans (Same.upd (c1.Fnone hp))) (c1.newF hp) (.lst upd_same (r1.mono (Same.upd (c1.Fnone hp)))) q1⟩⟩⟩
/-- a new list, a cell -/
def dLstO (t : DTA) : DTE := fun Γ M Q E => t Γ M (fun xs M1 => xs.length ≤ sizeLine ∧ ∀ p, M1 p = none → Q (.ref p) (mup M1 p (.lst xs))) E
theorem de_lstO {pos} {t : DTA} (h : DA X W es t) : DE X W (.List es pos) (dLstO t) :=
  ⟨peW (pe_lst h.pa) fun σ H Q ⟨Γ, M, F, E, Qd, a, q, k⟩ => ⟨Γ, M, F, E, _, a, q, fun F1 H1 vs ds M1 s1 c1 r1 ⟨z, q1⟩ => ⟨by rw [r1.length]; exact z, fun p hp =>
    k _ _ _ _ _ s1 (c1.newM (x := .lst ds) hp ⟨vs, rfl, r1⟩) (.ref p) (q1 p (c1.Mnone hp))⟩⟩⟩

/-! ### operators by values -/
abbrev D2 := D → D → Mp → DQ → Prop
def Real2 (K : KTb) (r : R2) (rd : D2) : Prop := ∀ (F H : Hp) (M : Mp) (x y : V) (d e : D) (Qd : DQ) (Q : VK), Cc K M F H → Rp K F x d → Rp K F y e → rd d e M Qd → CoQ K F Qd Q → r x y H Q
def dOp (rd : D2) (ta tb : DTE) : DTE := fun Γ M Q E => ta Γ M (fun x M1 => tb Γ M1 (fun y M2 => rd x y M2 Q) E) E
theorem upOp {r : R2} {rd : D2} {ta tb : DTE} {σ : St} {H : Hp} {Q : VK} (hr : Real2 (kt X W) r rd) (h : upE (kt X W) W.w (dOp rd ta tb) σ H Q) : tOp r (upE (kt X W) W.w ta) (upE (kt X W) W.w tb) σ H Q := by
  obtain ⟨Γ, M, F, E, Qd, a, q, k⟩ := h
  exact ⟨Γ, M, F, E, _, a, q, fun F1 H1 v d M1 s1 c1 r1 q1 => ⟨Γ, M1, F1, E, _, a.next s1 c1, q1, fun F2 H2 w e M2 s2 c2 r2 q2 => hr F2 H2 M2 v w d e Qd Q c2 (r1.mono s2) r2 q2 (k.mono (s1.trans s2))⟩⟩
theorem de_op {op : Operator} {r : R2} {rd : D2} {ta tb : DTE} {pos : Pos} (ho : OpR X (binaryOp op) r) (hr : Real2 (kt X W) r rd) (ha : DE X W a ta) (hb : DE X W b tb) : DE X W (.BinOp a op b pos) (dOp rd ta tb) :=
  ⟨peW (pe_op ho ha.pe hb.pe) fun _ _ _ h => upOp hr h⟩
theorem de_cmp {op : CmpOp} {r : R2} {rd : D2} {ta tb : DTE} {pos : Pos} (ho : OpR X (compareOp op) r) (hr : Real2 (kt X W) r rd) (ha : DE X W a ta) (hb : DE X W b tb) (hm : behindInMarks op b = false) : DE X W (.Compare a [op] [b] pos) (dOp rd ta tb) :=
  ⟨peW (pe_cmpR ho ha.pe hb.pe hm) fun _ _ _ h => upOp hr h⟩
/-- a value as a test -/
def dTest (t : DTE) : DTT := fun Γ M Q E => t Γ M (fun x M1 => ∃ k, x = .bl k ∧ Q k M1) E
theorem upTest {t : DTE} {σ : St} {H : Hp} {Q : Bool → Hp → Prop} (h : upT (kt X W) W.w (dTest t) σ H Q) : upE (kt X W) W.w t σ H (fun x H' => ∃ k, x = V.bl k ∧ Q k H') := by
  obtain ⟨Γ, M, F, E, Qd, a, q, k⟩ := h
  refine ⟨Γ, M, F, E, _, a, q, fun F1 H1 v d M1 s1 c1 r1 ⟨b, e, q1⟩ => ?_⟩
  subst e
  cases r1
  exact ⟨b, rfl, k F1 H1 b M1 s1 c1 q1⟩
theorem dt_val {t : DTE} (h : DE X W e t) (he : ∀ whole, isTrue e X.env whole = (do let v ← whole; standAt e.pos; holding [v] (truthy v)) := by intro _; rfl) : DT X W e (dTest t) := ⟨ptW (pt_val h.pe he) fun σ H Q q => upTest q⟩
theorem dt_cmp {op : CmpOp} {r : R2} {rd : D2} {ta tb : DTE} {pos : Pos} (ho : OpR X (compareOp op) r) (hr : Real2 (kt X W) r rd) (ha : DE X W a ta) (hb : DE X W b tb) (hm : behindInMarks op b = false) : DT X W (.Compare a [op] [b] pos) (dTest (dOp rd ta tb)) :=
  ⟨ptW (pt_cmpR ho ha.pe hb.pe hm) fun σ H Q q => upOp hr (upTest q)⟩
/-- a op b op c -/
def dChain (rd rd' : D2) (ta tb tc : DTE) : DTE := fun Γ M Q E => ta Γ M (fun x M1 => tb Γ M1 (fun y M2 => rd x y M2 (fun z M3 => ∃ k, z = .bl k ∧
  (if k = true then tc Γ M3 (fun w M4 => rd' y w M4 Q) E else Q (.bl false) M3))) E) E
theorem upChain {r r' : R2} {rd rd' : D2} {ta tb tc : DTE} {σ : St} {H : Hp} {Q : VK} (hr : Real2 (kt X W) r rd) (hr' : Real2 (kt X W) r' rd') (h : upE (kt X W) W.w (dChain rd rd' ta tb tc) σ H Q) : tChain r r' (upE (kt X W) W.w ta) (upE (kt X W) W.w tb) (upE (kt X W) W.w tc) σ H Q := by
  obtain ⟨Γ, M, F, E, Qd, a, q, k⟩ := h
  refine ⟨Γ, M, F, E, _, a, q, fun F1 H1 v d M1 s1 c1 r1 q1 => ⟨Γ, M1, F1, E, _, a.next s1 c1, q1, fun F2 H2 w e M2 s2 c2 r2 q2 => hr F2 H2 M2 v w d e _ _ c2 (r1.mono s2) r2 q2 fun F3 H3 z dz M3 s3 c3 r3 ⟨b, eb, q3⟩ => ?_⟩⟩
  subst eb
  cases r3
  refine ⟨b, rfl, ?_⟩
  cases b with
  | false =>
    rw [if_neg Bool.false_ne_true] at q3 ⊢
    exact k F3 H3 _ _ M3 ((s1.trans s2).trans s3) c3 (.bl false) q3
  | true =>
    rw [if_pos rfl] at q3 ⊢
    exact ⟨Γ, M3, F3, E, _, a.next ((s1.trans s2).trans s3) c3, q3, fun F4 H4 u f M4 s4 c4 r4 q4 => hr' F4 H4 M4 w u e f Qd Q c4 (r2.mono (s3.trans s4)) r4 q4 (k.mono (((s1.trans s2).trans s3).trans s4))⟩
theorem de_chain {c : Expr} {op op' : CmpOp} {r r' : R2} {rd rd' : D2} {ta tb tc : DTE} {pos : Pos} (ho : OpR X (compareOp op) r) (ho' : OpR X (compareOp op') r') (hr : Real2 (kt X W) r rd) (hr' : Real2 (kt X W) r' rd') (ha : DE X W a ta) (hb : DE X W b tb) (hc : DE X W c tc)
    (hm : lastMarks [op, op'] [b, c] = false := by with_unfolding_all rfl) : DE X W (.Compare a [op, op'] [b, c] pos) (dChain rd rd' ta tb tc) :=
  ⟨peW (pe_chain ho ho' ha.pe hb.pe hc.pe hm) fun _ _ _ h => upChain hr hr' h⟩
theorem dt_chain {c : Expr} {op op' : CmpOp} {r r' : R2} {rd rd' : D2} {ta tb tc : DTE} {pos : Pos} (ho : OpR X (compareOp op) r) (ho' : OpR X (compareOp op') r') (hr : Real2 (kt X W) r rd) (hr' : Real2 (kt X W) r' rd') (ha : DE X W a ta) (hb : DE X W b tb) (hc : DE X W c tc)
    (hm : lastMarks [op, op'] [b, c] = false := by with_unfolding_all rfl) : DT X W (.Compare a [op, op'] [b, c] pos) (dTest (dChain rd rd' ta tb tc)) :=
  ⟨ptW (pt_chain ho ho' ha.pe hb.pe hc.pe hm) fun σ H Q q => upChain hr hr' (upTest q)⟩

/-! ### and, or, not -/
def dAnd (t u : DTT) : DTT := fun Γ M Q E => t Γ M (fun c M1 => if c = true then u Γ M1 Q E else Q false M1) E
def dOr (t u : DTT) : DTT := fun Γ M Q E => t Γ M (fun c M1 => if c = true then Q true M1 else u Γ M1 Q E) E
def dNot (t : DTT) : DTT := fun Γ M Q E => t Γ M (fun c M1 => Q (!c) M1) E
theorem upAnd {t u : DTT} {σ : St} {H : Hp} {Q : Bool → Hp → Prop} (h : upT (kt X W) W.w (dAnd t u) σ H Q) : tAnd (upT (kt X W) W.w t) (upT (kt X W) W.w u) σ H Q := by
  obtain ⟨Γ, M, F, E, Qd, a, q, k⟩ := h
  refine ⟨Γ, M, F, E, _, a, q, fun F1 H1 b M1 s1 c1 q1 => ?_⟩
  cases b with
  | false =>
    rw [if_neg Bool.false_ne_true] at q1 ⊢
    exact k F1 H1 _ M1 s1 c1 q1
  | true =>
    rw [if_pos rfl] at q1 ⊢
    exact ⟨Γ, M1, F1, E, _, a.next s1 c1, q1, fun F2 H2 b M2 s2 c2 q2 => k F2 H2 b M2 (s1.trans s2) c2 q2⟩
theorem upOr {t u : DTT} {σ : St} {H : Hp} {Q : Bool → Hp → Prop} (h : upT (kt X W) W.w (dOr t u) σ H Q) : tOr (upT (kt X W) W.w t) (upT (kt X W) W.w u) σ H Q := by
  obtain ⟨Γ, M, F, E, Qd, a, q, k⟩ := h
  refine ⟨Γ, M, F, E, _, a, q, fun F1 H1 b M1 s1 c1 q1 => ?_⟩
  cases b with
  | true =>
    rw [if_pos rfl] at q1 ⊢
    exact k F1 H1 _ M1 s1 c1 q1
  | false =>
    rw [if_neg Bool.false_ne_true] at q1 ⊢
    exact ⟨Γ, M1, F1, E, _, a.next s1 c1, q1, fun F2 H2 b M2 s2 c2 q2 => k F2 H2 b M2 (s1.trans s2) c2 q2⟩
theorem upNot {t : DTT} {σ : St} {H : Hp} {Q : Bool → Hp → Prop} (h : upT (kt X W) W.w (dNot t) σ H Q) : tNot (upT (kt X W) W.w t) σ H Q := by
  obtain ⟨Γ, M, F, E, Qd, a, q, k⟩ := h
  exact ⟨Γ, M, F, E, _, a, q, fun F1 H1 b M1 s1 c1 q1 => k F1 H1 _ M1 s1 c1 q1⟩
end
end DL

namespace DL
open PySem L2

/-- a list: frozen, a cell, the script -/
def sqD (M : Mp) : D → Option (List D)
  | .lst xs => some xs
  | .scr ns => some (ns.map D.int)
  | .ref p => match M p with
    | some (.lst xs) => some xs
    | _ => none
  | _ => none
/-- a list that is not the script -/
def sqX (M : Mp) : D → Option (List D)
  | .lst xs => some xs
  | .ref p => match M p with
    | some (.lst xs) => some xs
    | _ => none
  | _ => none
def tpD : D → Option (List D)
  | .tup xs => some xs
  | _ => none
/-- a list or a tuple -/
def seqD (M : Mp) (d : D) : Option (List D) := match tpD d with
  | some xs => some xs
  | none => sqD M d
/-- a cell's list read as data -/
def res (M : Mp) (d : D) : D := match sqD M d with
  | some xs => .lst xs
  | none => d
theorem sqD_lst {M : Mp} {xs : List D} : sqD M (.lst xs) = some xs := rfl
theorem sqX_lst {M : Mp} {xs : List D} : sqX M (.lst xs) = some xs := rfl
theorem sqD_ref {M : Mp} {p : Addr} {xs : List D} (h : M p = some (.lst xs)) : sqD M (.ref p) = some xs := by simp [sqD, h]
theorem sqX_ref {M : Mp} {p : Addr} {xs : List D} (h : M p = some (.lst xs)) : sqX M (.ref p) = some xs := by simp [sqX, h]

section
variable {K : KTb} {M : Mp} {F H : Hp} {v : V} {d : D} {xs : List D}
theorem sqX_sqD (h : sqX M d = some xs) : sqD M d = some xs := by
  cases d with
  | ref p =>
    cases e : M p with
    | none => simp [sqX, e] at h
    | some x => cases x <;> simp_all [sqX, sqD]
  | lst ys => exact h
  | _ => simp [sqX] at h
theorem sq_of (c : Cc K M F H) (r : Rp K F v d) (h : sqD M d = some xs) : ∃ a vs, v = .ref a ∧ SqL K.K H a vs ∧ Rps K F vs xs := by
  cases d with
  | lst ys =>
    cases h
    cases r with
    | lst h1 h2 => exact ⟨_, _, rfl, .inl (c.fr _ _ h1).rd, h2⟩
  | scr ns =>
    cases h
    cases r with
    | scr h1 =>
      rcases h1 with h1 | ⟨ob, h1⟩ | h1
      · exact ⟨_, _, rfl, .inl (c.fr _ _ h1).rd, .ofInts ns⟩
      · refine ⟨_, _, rfl, .inl (.inr ⟨ob, ?_⟩), .ofInts ns⟩
        rcases c.fr _ _ h1 with z | ⟨⟨_, z⟩, _⟩
        · exact z
        · cases z
      · exact ⟨_, _, rfl, .inr h1, .ofInts ns⟩
  | ref p =>
    cases r
    cases e : M p with
    | none => simp [sqD, e] at h
    | some x =>
      obtain ⟨_, o, h2, h3⟩ := c.ow _ _ e
      cases x with
      | lst ys =>
        simp [sqD, e] at h
        subst h
        obtain ⟨vs, e1, h4⟩ := h3
        exact ⟨p, vs, rfl, .inl (.inl (by rw [h2, e1])), h4⟩
      | dic ys => simp [sqD, e] at h
      | dit ys => simp [sqD, e] at h
      | lkd ys u => simp [sqD, e] at h
      | ins C fs => simp [sqD, e] at h
      | opq φ => simp [sqD, e] at h
  | _ => simp [sqD] at h
theorem sqx_of (c : Cc K M F H) (r : Rp K F v d) (h : sqX M d = some xs) : ∃ a vs, v = .ref a ∧ H a = some (.lst vs) ∧ Rps K F vs xs := by
  cases d with
  | lst ys =>
    cases h
    cases r with
    | lst h1 h2 => exact ⟨_, _, rfl, (c.fr _ _ h1).lst, h2⟩
  | ref p =>
    cases r
    cases e : M p with
    | none => simp [sqX, e] at h
    | some x =>
      obtain ⟨_, o, h2, h3⟩ := c.ow _ _ e
      cases x with
      | lst ys =>
        simp [sqX, e] at h
        subst h
        obtain ⟨vs, e1, h4⟩ := h3
        exact ⟨p, vs, rfl, by rw [h2, e1], h4⟩
      | dic ys => simp [sqX, e] at h
      | dit ys => simp [sqX, e] at h
      | lkd ys u => simp [sqX, e] at h
      | ins C fs => simp [sqX, e] at h
      | opq φ => simp [sqX, e] at h
  | _ => simp [sqX] at h
theorem tp_of (c : Cc K M F H) (r : Rp K F v (.tup xs)) : ∃ a vs, v = .ref a ∧ SqT K.K H a vs ∧ Rps K F vs xs := by
  cases r with
  | tup h1 h2 =>
    rcases h1 with h1 | h1
    · exact ⟨_, _, rfl, .inl (c.fr _ _ h1).rd, h2⟩
    · exact ⟨_, _, rfl, .inr h1, h2⟩
theorem tpD_eq (h : tpD d = some xs) : d = .tup xs := by
  cases d <;> simp [tpD] at h
  rw [h]
/-- a frozen or cell list told as data -/
theorem res_of (c : Cc K M F H) (r : Rp K F v d) : (∃ xs a vs, sqD M d = some xs ∧ res M d = .lst xs ∧ v = .ref a ∧ SqL K.K H a vs ∧ Rps K F vs xs) ∨ (sqD M d = none ∧ res M d = d) := by
  cases e : sqD M d with
  | none => exact .inr ⟨rfl, by simp [res, e]⟩
  | some xs =>
    obtain ⟨a, vs, h1, h2, h3⟩ := sq_of c r e
    exact .inl ⟨xs, a, vs, rfl, by simp [res, e], h1, h2, h3⟩
end

/-! ### data for == -/
mutual
def D.py : D → PyData
  | .non => .none
  | .bl b => .bool b
  | .int i => .int i
  | .str x => .str x
  | .ref _ => .dict []
  | .tup xs => .tuple (pys xs)
  | .lst xs => .list (pys xs)
  | .dic _ => .dict []
  | .scr _ => .dict []
  | .obj _ _ => .dict []
  | .dit _ => .dict []
  | .any _ _ => .dict []
def pys : List D → List PyData
  | [] => []
  | d :: ds => d.py :: pys ds
end
theorem pys_map : ∀ ds : List D, pys ds = ds.map D.py
  | [] => by simp [pys]
  | d :: ds => by simp [pys, pys_map ds]
mutual
theorem dp_of {K : KTb} {M : Mp} {F H : Hp} (c : Cc K M F H) : ∀ (d : D) (v : V), Rp K F v d → d.py.canLay0 = true → Dp K.K H v d.py
  | .non, _, r, _ => by cases r; simp only [D.py]; exact .non
  | .bl b, _, r, _ => by cases r; simp only [D.py]; exact .bl b
  | .int b, _, r, _ => by cases r; simp only [D.py]; exact .int b
  | .str b, _, r, _ => by cases r; simp only [D.py]; exact .str b
  | .ref p, _, r, h => by simp [D.py, PyData.canLay0] at h
  | .dic p, _, r, h => by simp [D.py, PyData.canLay0] at h
  | .scr p, _, r, h => by simp [D.py, PyData.canLay0] at h
  | .obj _ _, _, r, h => by simp [D.py, PyData.canLay0] at h
  | .dit _, _, r, h => by simp [D.py, PyData.canLay0] at h
  | .any p _, _, r, h => by simp [D.py, PyData.canLay0] at h
  | .tup xs, _, r, h => by
    obtain ⟨a, vs, rfl, h1, h2⟩ := tp_of c r
    simp only [D.py, PyData.canLay0] at h ⊢
    exact .tup h1 (dps_of c xs vs h2 h)
  | .lst xs, _, r, h => by
    obtain ⟨a, vs, rfl, h1, h2⟩ := sq_of c r (sqD_lst (xs := xs))
    simp only [D.py, PyData.canLay0] at h ⊢
    exact .lst h1 (dps_of c xs vs h2 h)
theorem dps_of {K : KTb} {M : Mp} {F H : Hp} (c : Cc K M F H) : ∀ (ds : List D) (vs : List V), Rps K F vs ds → PyData.canLayAll0 (pys ds) = true → DpAll K.K H vs (pys ds)
  | [], _, r, _ => by cases r; simp only [pys]; exact .nil
  | d :: ds, _, r, h => by
    cases r with
    | cons r1 r2 =>
      simp only [pys, PyData.canLayAll0, Bool.and_eq_true] at h ⊢
      exact .cons (dp_of c d _ r1 h.1) (dps_of c ds _ r2 h.2)
end
def shD (d : D) : Bool := SeqAt.shaped d.py
def deq (d e : D) : Bool := PyData.eqv d.py e.py
theorem shD_lay {d : D} (h : shD d = true) : d.py.canLay0 = true := SeqAt.canLay_of_shaped h
theorem dp_res {K : KTb} {M : Mp} {F H : Hp} {v : V} {d : D} (c : Cc K M F H) (r : Rp K F v d) (h : shD (res M d) = true) : Dp K.K H v (res M d).py := by
  rcases res_of c r with ⟨xs, a, vs, _, e2, e3, h1, h2⟩ | ⟨_, e⟩
  · subst e3
    rw [e2] at h ⊢
    have h' := shD_lay h
    simp only [D.py, PyData.canLay0] at h' ⊢
    exact .lst h1 (dps_of c xs vs h2 h')
  · rw [e] at h ⊢
    exact dp_of c d v r (shD_lay h)
def rdEq : D2 := fun x y M Q => shD (res M x) = true ∧ shD (res M y) = true ∧ Q (.bl (deq (res M x) (res M y))) M
def rdNe : D2 := fun x y M Q => shD (res M x) = true ∧ shD (res M y) = true ∧ Q (.bl (!deq (res M x) (res M y))) M
theorem real_eq {K : KTb} : Real2 K (rEqD K.K) rdEq := fun F H M x y d e Qd Q c rx ry ⟨h1, h2, q⟩ k => ⟨_, _, dp_res c rx h1, dp_res c ry h2, h1, h2, k F H _ _ M (Same.refl _) c (.bl _) q⟩
theorem real_ne {K : KTb} : Real2 K (rNeD K.K) rdNe := fun F H M x y d e Qd Q c rx ry ⟨h1, h2, q⟩ k => ⟨_, _, dp_res c rx h1, dp_res c ry h2, h1, h2, k F H _ _ M (Same.refl _) c (.bl _) q⟩
/-- x in a list -/
def rdIn (neg : Bool) : D2 := fun x y M Q => ∃ ys, res M y = .lst ys ∧ shD (res M x) = true ∧ shD (.lst ys) = true ∧ Q (.bl (if neg then !(ys.any fun z => deq z (res M x)) else ys.any fun z => deq z (res M x))) M
theorem real_in {K : KTb} : Real2 K (rInD K.K) (rdIn false) := fun F H M x y d e Qd Q c rx ry ⟨ys, e1, h1, h2, q⟩ k => by
  have hy := dp_res c ry (by rw [e1]; exact h2)
  rw [e1] at hy
  simp only [D.py] at hy
  refine ⟨_, pys ys, dp_res c rx h1, hy, h1, by simpa [shD, D.py] using h2, k F H _ _ M (Same.refl _) c (.bl _) ?_⟩
  rw [pys_map, List.any_map]
  simpa [deq, Function.comp_def] using q
theorem real_notIn {K : KTb} : Real2 K (rNotInD K.K) (rdIn true) := fun F H M x y d e Qd Q c rx ry ⟨ys, e1, h1, h2, q⟩ k => by
  have hy := dp_res c ry (by rw [e1]; exact h2)
  rw [e1] at hy
  simp only [D.py] at hy
  refine ⟨_, pys ys, dp_res c rx h1, hy, h1, by simpa [shD, D.py] using h2, k F H _ _ M (Same.refl _) c (.bl _) ?_⟩
  rw [pys_map, List.any_map]
  simpa [deq, Function.comp_def] using q

/-! ### ints -/
def rdI (g : Int → Int → D) : D2 := fun x y M Q => ∃ i j, x = .int i ∧ y = .int j ∧ Q (g i j) M
def rdIc (C : Int → Int → Prop) (g : Int → Int → D) : D2 := fun x y M Q => ∃ i j, x = .int i ∧ y = .int j ∧ C i j ∧ Q (g i j) M
theorem real_I {K : KTb} {g : Int → Int → V} {g' : Int → Int → D} (h : ∀ F i j, Rp K F (g i j) (g' i j)) : Real2 K (rI0 g) (rdI g') := fun F H M x y d e Qd Q c rx ry ⟨i, j, e1, e2, q⟩ k => by
  subst e1
  subst e2
  cases rx
  cases ry
  exact ⟨i, j, rfl, rfl, k F H _ _ M (Same.refl _) c (h F i j) q⟩
theorem real_Ic {K : KTb} {C : Int → Int → Prop} {g : Int → Int → V} {g' : Int → Int → D} (h : ∀ F i j, Rp K F (g i j) (g' i j)) : Real2 K (rI C g) (rdIc C g') := fun F H M x y d e Qd Q c rx ry ⟨i, j, e1, e2, hc, q⟩ k => by
  subst e1
  subst e2
  cases rx
  cases ry
  exact ⟨i, j, rfl, rfl, hc, k F H _ _ M (Same.refl _) c (h F i j) q⟩
theorem real_lt {K : KTb} : Real2 K (rI0 fun i j => .bl (decide (i < j))) (rdI fun i j => .bl (decide (i < j))) := real_I fun _ _ _ => .bl _
theorem real_le {K : KTb} : Real2 K (rI0 fun i j => .bl (decide (i ≤ j))) (rdI fun i j => .bl (decide (i ≤ j))) := real_I fun _ _ _ => .bl _
theorem real_gt {K : KTb} : Real2 K (rI0 fun i j => .bl (decide (j < i))) (rdI fun i j => .bl (decide (j < i))) := real_I fun _ _ _ => .bl _
theorem real_ge {K : KTb} : Real2 K (rI0 fun i j => .bl (decide (j ≤ i))) (rdI fun i j => .bl (decide (j ≤ i))) := real_I fun _ _ _ => .bl _
theorem real_sub {K : KTb} : Real2 K (rI0 fun i j => .int (i - j)) (rdI fun i j => .int (i - j)) := real_I fun _ _ _ => .int _
theorem real_mod {K : KTb} : Real2 K (rI (fun _ j => 0 < j) fun i j => .int (i % j)) (rdIc (fun _ j => 0 < j) fun i j => .int (i % j)) := real_Ic fun _ _ _ => .int _
theorem real_fdiv {K : KTb} : Real2 K (rI CDiv fun i j => .int (i / j)) (rdIc CDiv fun i j => .int (i / j)) := real_Ic fun _ _ _ => .int _
theorem real_pow {K : KTb} : Real2 K (rI CPow fun i j => .int (i ^ j.toNat)) (rdIc CPow fun i j => .int (i ^ j.toNat)) := real_Ic fun _ _ _ => .int _
theorem real_shl {K : KTb} : Real2 K (rI CPow fun i j => .int (i * 2 ^ j.toNat)) (rdIc CPow fun i j => .int (i * 2 ^ j.toNat)) := real_Ic fun _ _ _ => .int _
theorem real_and {K : KTb} : Real2 K (rI0 fun i j => .int (Builtin.bitAnd i j)) (rdI fun i j => .int (Builtin.bitAnd i j)) := real_I fun _ _ _ => .int _
theorem real_or {K : KTb} : Real2 K (rI0 fun i j => .int (Builtin.bitOr i j)) (rdI fun i j => .int (Builtin.bitOr i j)) := real_I fun _ _ _ => .int _
/-- a + b: ints, texts, lists (a new list, frozen) -/
def rdAdd : D2 := fun x y M Q => match x, y with
  | .int i, .int j => Q (.int (i + j)) M
  | .str i, .str j => i.length + j.length ≤ sizeLine ∧ Q (.str (i ++ j)) M
  | x, y => ∃ xs ys, sqX M x = some xs ∧ sqX M y = some ys ∧ xs.length + ys.length ≤ sizeLine ∧ Q (.lst (xs ++ ys)) M
def rAdd3 : R2 := fun x y H Q => rI0 (fun i j => .int (i + j)) x y H Q ∨ ((∃ i j, x = .str i ∧ y = .str j ∧ i.length + j.length ≤ sizeLine ∧ Q (.str (i ++ j)) H) ∨ rCat x y H Q)
theorem op_add3 {X : Cx} : OpR X (binaryOp .Add) rAdd3 := op_add.or (op_add_str.or op_cat)
theorem real_cat {K : KTb} : Real2 K rCat (fun x y M Q => ∃ xs ys, sqX M x = some xs ∧ sqX M y = some ys ∧ xs.length + ys.length ≤ sizeLine ∧ Q (.lst (xs ++ ys)) M) := fun F H M x y d e Qd Q c rx ry ⟨xs, ys, e1, e2, hz, q⟩ k => by
  obtain ⟨a, vs, rfl, h1, r1⟩ := sqx_of c rx e1
  obtain ⟨b, us, rfl, h2, r2⟩ := sqx_of c ry e2
  refine ⟨a, b, vs, us, rfl, rfl, h1, h2, by rw [r1.length, r2.length]; exact hz, fun p hp => ?_⟩
  have s := Same.upd (o := .lst (vs ++ us)) (c.Fnone hp)
  exact k _ _ _ _ M s (c.newF hp) (.lst upd_same ((r1.append r2).mono s)) q
theorem real_add {K : KTb} : Real2 K rAdd3 rdAdd := fun F H M x y d e Qd Q c rx ry q k => by
  unfold rdAdd at q
  split at q
  · exact .inl (real_I (g' := fun i j => .int (i + j)) (fun _ _ _ => .int _) F H M x y _ _ Qd Q c rx ry ⟨_, _, rfl, rfl, q⟩ k)
  · obtain ⟨h1, q⟩ := q
    cases rx
    cases ry
    exact .inr (.inl ⟨_, _, rfl, rfl, h1, k F H _ _ M (Same.refl _) c (.str _) q⟩)
  · exact .inr (.inr (real_cat F H M x y _ _ Qd Q c rx ry q k))
/-- a + b of lists, a cell -/
def rdCatO : D2 := fun x y M Q => ∃ xs ys, sqX M x = some xs ∧ sqX M y = some ys ∧ xs.length + ys.length ≤ sizeLine ∧ ∀ p, M p = none → Q (.ref p) (mup M p (.lst (xs ++ ys)))
theorem real_catO {K : KTb} : Real2 K rCat rdCatO := fun F H M x y d e Qd Q c rx ry ⟨xs, ys, e1, e2, hz, q⟩ k => by
  obtain ⟨a, vs, rfl, h1, r1⟩ := sqx_of c rx e1
  obtain ⟨b, us, rfl, h2, r2⟩ := sqx_of c ry e2
  refine ⟨a, b, vs, us, rfl, rfl, h1, h2, by rw [r1.length, r2.length]; exact hz, fun p hp => ?_⟩
  exact k _ _ _ _ _ (Same.refl _) (c.newM (x := .lst (xs ++ ys)) hp ⟨_, rfl, r1.append r2⟩) (.ref p) (q p (c.Mnone hp))
/-- a * b: ints, a list some times -/
def rdMul : D2 := fun x y M Q => match x, y with
  | .int i, .int j => CMul i j ∧ Q (.int (i * j)) M
  | x, y => ∃ xs k, sqX M x = some xs ∧ y = .int k ∧ -(2 ^ 63) ≤ k ∧ k < 2 ^ 63 ∧ xs.length * k.toNat ≤ sizeLine ∧ Q (.lst (List.replicate k.toNat xs).flatten) M
def rMul2 : R2 := fun x y H Q => rI CMul (fun i j => .int (i * j)) x y H Q ∨ rRep x y H Q
theorem op_mul2 {X : Cx} : OpR X (binaryOp .Mult) rMul2 := op_mul.or op_rep
theorem rps_rep {K : KTb} {F : Hp} {vs : List V} {ds : List D} (r : Rps K F vs ds) : ∀ n : Nat, Rps K F (List.replicate n vs).flatten (List.replicate n ds).flatten
  | 0 => .nil
  | n + 1 => by
    rw [List.replicate_succ, List.replicate_succ, List.flatten_cons, List.flatten_cons]
    exact r.append (rps_rep r n)
theorem real_mul {K : KTb} : Real2 K rMul2 rdMul := fun F H M x y d e Qd Q c rx ry q k => by
  unfold rdMul at q
  split at q
  · exact .inl (real_Ic (g' := fun i j => .int (i * j)) (fun _ _ _ => .int _) F H M x y _ _ Qd Q c rx ry ⟨_, _, rfl, rfl, q⟩ k)
  · obtain ⟨xs, n, e1, e2, h1, h2, h3, q⟩ := q
    subst e2
    cases ry
    obtain ⟨a, vs, rfl, h4, r1⟩ := sqx_of c rx e1
    refine .inr ⟨a, n, vs, rfl, rfl, h4, h1, h2, by rw [r1.length]; exact h3, fun p hp => ?_⟩
    have s := Same.upd (o := .lst (List.replicate n.toNat vs).flatten) (c.Fnone hp)
    exact k _ _ _ _ M s (c.newF hp) (.lst upd_same ((rps_rep r1 _).mono s)) q
/-- a list some times, a cell -/
def rdRepO : D2 := fun x y M Q => ∃ xs k, sqX M x = some xs ∧ y = .int k ∧ -(2 ^ 63) ≤ k ∧ k < 2 ^ 63 ∧ xs.length * k.toNat ≤ sizeLine ∧ ∀ p, M p = none → Q (.ref p) (mup M p (.lst (List.replicate k.toNat xs).flatten))
theorem real_repO {K : KTb} : Real2 K rRep rdRepO := fun F H M x y d e Qd Q c rx ry ⟨xs, n, e1, e2, h1, h2, h3, q⟩ k => by
  subst e2
  cases ry
  obtain ⟨a, vs, rfl, h4, r1⟩ := sqx_of c rx e1
  refine ⟨a, n, vs, rfl, rfl, h4, h1, h2, by rw [r1.length]; exact h3, fun p hp => ?_⟩
  exact k _ _ _ _ _ (Same.refl _) (c.newM (x := .lst _) hp ⟨_, rfl, rps_rep r1 _⟩) (.ref p) (q p (c.Mnone hp))
/-- is None, is not None -/
def rdIsN (neg : Bool) : D2 := fun x y M Q => y = .non ∧ Q (.bl (if neg then (match x with | .non => false | _ => true) else (match x with | .non => true | _ => false))) M
theorem real_isN {K : KTb} : Real2 K (fun x y H Q => y = .non ∧ Q (.bl (decide (x = .non))) H) (rdIsN false) := fun F H M x y d e Qd Q c rx ry ⟨e1, q⟩ k => by
  subst e1
  cases ry
  refine ⟨rfl, k F H _ _ M (Same.refl _) c ?_ q⟩
  cases rx with
  | any n _ =>
    rw [decide_eq_false n]
    exact .bl _
  | _ => exact .bl _
theorem real_notN {K : KTb} : Real2 K (fun x y H Q => y = .non ∧ Q (.bl (!decide (x = .non))) H) (rdIsN true) := fun F H M x y d e Qd Q c rx ry ⟨e1, q⟩ k => by
  subst e1
  cases ry
  refine ⟨rfl, k F H _ _ M (Same.refl _) c ?_ q⟩
  cases rx with
  | any n _ =>
    rw [decide_eq_false n]
    exact .bl _
  | _ => exact .bl _

/-! ### subscripts -/
def ixD (M : Mp) (x y : D) : Option D := match y with
  | .int i => match x with
    | .tup xs => atI xs i
    | .str z => if z.length ≤ sizeLine then (atI z.cps.toList i).map fun c => .str ⟨#[c]⟩ else none
    | x => (sqD M x).bind fun xs => atI xs i
  | _ => none
def rdIx : D2 := fun x y M Q => ∃ d, ixD M x y = some d ∧ Q d M
theorem atI_of {K : KTb} {F : Hp} {vs : List V} {ds : List D} {i : Int} {d : D} (r : Rps K F vs ds) (h : atI ds i = some d) : ∃ v, atI vs i = some v ∧ Rp K F v d := by
  unfold atI at h ⊢
  rw [r.length]
  cases e : ixN ds.length i with
  | none => rw [e] at h; cases h
  | some j =>
    rw [e] at h
    exact r.get h
theorem real_ix {K : KTb} : Real2 K (rIx K.K) rdIx := fun F H M x y d e Qd Q c rx ry ⟨z, h, q⟩ k => by
  cases e with
  | int i =>
    cases ry
    have lst : ∀ ys, sqD M d = some ys → atI ys i = some z → rIx K.K x (.int i) H Q := fun ys e1 e2 => by
      obtain ⟨a, vs, rfl, h1, r1⟩ := sq_of c rx e1
      obtain ⟨w, h2, r2⟩ := atI_of r1 e2
      exact .inl ⟨a, vs, _, w, rfl, rfl, h1, h2, k F H _ _ M (Same.refl _) c r2 q⟩
    cases d with
    | tup xs =>
      have h : atI xs i = some z := h
      obtain ⟨a, vs, rfl, h1, r1⟩ := tp_of c rx
      obtain ⟨w, h2, r2⟩ := atI_of r1 h
      exact .inr (.inl ⟨a, vs, i, w, rfl, rfl, h1, h2, k F H _ _ M (Same.refl _) c r2 q⟩)
    | str y =>
      have h : (if y.length ≤ sizeLine then (atI y.cps.toList i).map fun c => D.str ⟨#[c]⟩ else none) = some z := h
      split at h
      · rename_i hz
        cases e : atI y.cps.toList i with
        | none => rw [e] at h; cases h
        | some ch =>
          rw [e] at h
          cases h
          cases rx
          exact .inr (.inr ⟨y, i, ch, rfl, rfl, hz, e, k F H _ _ M (Same.refl _) c (.str _) q⟩)
      · cases h
    | lst ys =>
      have h : atI ys i = some z := h
      exact lst ys rfl h
    | ref p =>
      have h : ((sqD M (.ref p)).bind fun xs => atI xs i) = some z := h
      cases e : sqD M (.ref p) with
      | none => rw [e] at h; cases h
      | some ys => rw [e] at h; exact lst ys e h
    | scr ns =>
      have h : atI (ns.map D.int) i = some z := h
      exact lst _ rfl h
    | _ => cases h
  | _ => cases h
section
variable {X : Cx} {W : WT} {e a b : Expr} {es : List Expr}
theorem de_ix {ta tb : DTE} {pos : Pos} (ha : DE X W a ta) (hb : DE X W b tb) (hs : PlainIx b := by intro _ _; rfl) : DE X W (.Subscript a b pos) (dOp rdIx ta tb) :=
  ⟨peW (pe_ix ix_seq ha.pe hb.pe hs) fun _ _ _ h => upOp real_ix h⟩

/-! ### slices -/
abbrev DTO := DG → Mp → (Option Int → Mp → Prop) → DXE → Prop
def upO (K : KTb) (W : WX) (t : DTO) : TO := fun σ H Q => ∃ (Γ : DG) (M : Mp) (F : Hp) (E : DXE) (Qd : Option Int → Mp → Prop), At K W σ H Γ M F E ∧ t Γ M Qd E ∧
  ∀ (F' H' : Hp) (o : Option Int) (M' : Mp), Same F F' → Cc K M' F' H' → Qd o M' → Q o H'
structure DO (X : Cx) (W : WT) (e : Option Expr) (t : DTO) : Prop where
  po : PO X e (upO (kt X W) W.w t)
theorem poW {e : Option Expr} {t t' : TO} (p : PO X e t) (h : ∀ σ H Q, t' σ H Q → t σ H Q) : PO X e t' := ⟨fun pins s σ H Q I q => p.run pins s σ H Q I (h σ H Q q)⟩
def dNoPart : DTO := fun _ M Q _ => Q none M
def dPart (t : DTE) : DTO := fun Γ M Q E => t Γ M (fun x M1 => ∃ i, x = .int i ∧ Q (some i) M1) E
theorem do_none : DO X W none dNoPart := ⟨poW po_none fun σ H Q ⟨Γ, M, F, E, Qd, a, q, k⟩ => k F H _ M (Same.refl _) a.c q⟩
theorem do_some {t : DTE} (h : DE X W e t) : DO X W (some e) (dPart t) := ⟨poW (po_some h.pe) fun σ H Q ⟨Γ, M, F, E, Qd, a, q, k⟩ => ⟨Γ, M, F, E, _, a, q, fun F1 H1 v d M1 s1 c1 r1 ⟨i, e1, q1⟩ => by
  subst e1
  cases r1
  exact ⟨i, rfl, k F1 H1 _ M1 s1 c1 q1⟩⟩⟩
def cutD {α : Type} (xs : List α) (lo hi : Option Int) : List α := (xs.drop (HT.sIx xs.length 0 lo)).take (HT.sIx xs.length xs.length hi - HT.sIx xs.length 0 lo)
theorem rps_cut {K : KTb} {F : Hp} {vs : List V} {ds : List D} (r : Rps K F vs ds) (lo hi : Option Int) : Rps K F (cutV vs lo hi) (cutD ds lo hi) := by
  unfold cutV cutD
  rw [r.length]
  exact (r.drop _).take _
/-- a slice of a list (new, frozen), of a tuple (not the whole) -/
def rdSl : D → Option Int → Option Int → Mp → DQ → Prop := fun x lo hi M Q => match x with
  | .tup xs => ¬ (HT.sIx xs.length 0 lo = 0 ∧ HT.sIx xs.length xs.length hi = xs.length) ∧ Q (.tup (cutD xs lo hi)) M
  | x => ∃ xs, sqD M x = some xs ∧ Q (.lst (cutD xs lo hi)) M
def dSl (rd : D → Option Int → Option Int → Mp → DQ → Prop) (te : DTE) (tl th : DTO) : DTE := fun Γ M Q E => te Γ M (fun x M1 => tl Γ M1 (fun l M2 => th Γ M2 (fun u M3 => rd x l u M3 Q) E) E) E
def RealSl (K : KTb) (r : V → Option Int → Option Int → Hp → VK → Prop) (rd : D → Option Int → Option Int → Mp → DQ → Prop) : Prop := ∀ (F H : Hp) (M : Mp) (x : V) (d : D) (lo hi : Option Int) (Qd : DQ) (Q : VK), Cc K M F H → Rp K F x d → rd d lo hi M Qd → CoQ K F Qd Q → r x lo hi H Q
theorem upSl {r : V → Option Int → Option Int → Hp → VK → Prop} {rd : D → Option Int → Option Int → Mp → DQ → Prop} {te : DTE} {tl th : DTO} {σ : St} {H : Hp} {Q : VK} (hr : RealSl (kt X W) r rd) (h : upE (kt X W) W.w (dSl rd te tl th) σ H Q) : tSl r (upE (kt X W) W.w te) (upO (kt X W) W.w tl) (upO (kt X W) W.w th) σ H Q := by
  obtain ⟨Γ, M, F, E, Qd, a, q, k⟩ := h
  exact ⟨Γ, M, F, E, _, a, q, fun F1 H1 v d M1 s1 c1 r1 q1 => ⟨Γ, M1, F1, E, _, a.next s1 c1, q1, fun F2 H2 l M2 s2 c2 q2 => ⟨Γ, M2, F2, E, _, a.next (s1.trans s2) c2, q2, fun F3 H3 u M3 s3 c3 q3 =>
    hr F3 H3 M3 v d l u Qd Q c3 (r1.mono (s2.trans s3)) q3 (k.mono ((s1.trans s2).trans s3))⟩⟩⟩
def rSl2 (K : PySem.W.Frag) : V → Option Int → Option Int → Hp → VK → Prop := fun x lo hi H Q => rSlL K x lo hi H Q ∨ rSlT K x lo hi H Q
theorem sl_two : SlR X (rSl2 X.K) := SlR.or sl_list sl_tup
theorem real_sl {K : KTb} : RealSl K (rSl2 K.K) rdSl := fun F H M x d lo hi Qd Q c rx q k => by
  unfold rdSl at q
  split at q
  · obtain ⟨a, vs, rfl, h1, r1⟩ := tp_of c rx
    obtain ⟨h2, q⟩ := q
    refine .inr ⟨a, vs, rfl, h1, by rw [r1.length]; exact h2, fun p hp => ?_⟩
    have s := Same.upd (o := .tup (cutV vs lo hi)) (c.Fnone hp)
    exact k _ _ _ _ M s (c.newF hp) (.tup (.inl upd_same) ((rps_cut r1 lo hi).mono s)) q
  · obtain ⟨xs, e1, q⟩ := q
    obtain ⟨a, vs, rfl, h1, r1⟩ := sq_of c rx e1
    refine .inl ⟨a, vs, rfl, h1, fun p hp => ?_⟩
    have s := Same.upd (o := .lst (cutV vs lo hi)) (c.Fnone hp)
    exact k _ _ _ _ M s (c.newF hp) (.lst upd_same ((rps_cut r1 lo hi).mono s)) q
theorem de_sl {te : DTE} {tl th : DTO} {lo hi : Option Expr} {pos p2 : Pos} (he : DE X W e te) (hl : DO X W lo tl) (hu : DO X W hi th) : DE X W (.Subscript e (.Slice lo hi none p2) pos) (dSl rdSl te tl th) :=
  ⟨peW (pe_slice sl_two he.pe hl.po hu.po) fun _ _ _ h => upSl real_sl h⟩
/-- a slice of a list, a cell -/
def rdSlO : D → Option Int → Option Int → Mp → DQ → Prop := fun x lo hi M Q => ∃ xs, sqD M x = some xs ∧ ∀ p, M p = none → Q (.ref p) (mup M p (.lst (cutD xs lo hi)))
theorem real_slO {K : KTb} : RealSl K (rSlL K.K) rdSlO := fun F H M x d lo hi Qd Q c rx ⟨xs, e1, q⟩ k => by
  obtain ⟨a, vs, rfl, h1, r1⟩ := sq_of c rx e1
  exact ⟨a, vs, rfl, h1, fun p hp => k _ _ _ _ _ (Same.refl _) (c.newM (x := .lst _) hp ⟨_, rfl, rps_cut r1 lo hi⟩) (.ref p) (q p (c.Mnone hp))⟩
theorem de_slO {te : DTE} {tl th : DTO} {lo hi : Option Expr} {pos p2 : Pos} (he : DE X W e te) (hl : DO X W lo tl) (hu : DO X W hi th) : DE X W (.Subscript e (.Slice lo hi none p2) pos) (dSl rdSlO te tl th) :=
  ⟨peW (pe_slice sl_list he.pe hl.po hu.po) fun _ _ _ h => upSl real_slO h⟩

/-! ### calls of built-ins by values -/
abbrev D1s := List D → Mp → DQ → Prop
def Real1 (K : KTb) (r : List V → Hp → VK → Prop) (rd : D1s) : Prop := ∀ (F H : Hp) (M : Mp) (xs : List V) (ds : List D) (Qd : DQ) (Q : VK), Cc K M F H → Rps K F xs ds → rd ds M Qd → CoQ K F Qd Q → r xs H Q
def dCB (rd : D1s) (t : DTA) : DTE := fun Γ M Q E => t Γ M (fun ds M1 => rd ds M1 Q) E
theorem upCB {r : List V → Hp → VK → Prop} {rd : D1s} {t : DTA} {σ : St} {H : Hp} {Q : VK} (hr : Real1 (kt X W) r rd) (h : upE (kt X W) W.w (dCB rd t) σ H Q) : tCB r (upA (kt X W) W.w t) σ H Q := by
  obtain ⟨Γ, M, F, E, Qd, a, q, k⟩ := h
  exact ⟨Γ, M, F, E, _, a, q, fun F1 H1 vs ds M1 s1 c1 r1 q1 => hr F1 H1 M1 vs ds Qd Q c1 r1 q1 (k.mono s1)⟩
theorem de_callB {id : String} {x : Str} {p pos : Pos} {r : List V → Hp → VK → Prop} {rd : D1s} {t : DTA} (hc : CallR X (.builtin id) r) (hr : Real1 (kt X W) r rd) (hg : Gl X x) (hm : X.mg x = none) (hv : bootBuiltins x = some (.builtin id)) (ha : DA X W (e :: es) t) (hn : x ≠ "__name__" := by decide) (hdb : (x == ("__debug__" : Str)) = false := by decide)
    (he : starEach (e :: es) X.env = (false, eval e X.env) :: starEach es X.env := by rfl) (hpl : (backTo pos (starEach es X.env)).any (·.1) = false := by rfl) : DE X W (.Call (.Name x p) (e :: es) [] pos) (dCB rd t) :=
  ⟨peW (pe_callB hc hg hm hv ha.pa hn hdb he hpl) fun _ _ _ h => upCB hr h⟩
theorem de_callTy {T : String} {x : Str} {p pos : Pos} {r : List V → Hp → VK → Prop} {rd : D1s} {t : DTA} (hc : CallR X (.type T) r) (hr : Real1 (kt X W) r rd) (hg : Gl X x) (hm : X.mg x = none) (hv : bootBuiltins x = some (.type T)) (ha : DA X W (e :: es) t) (hn : x ≠ "__name__" := by decide) (hdb : (x == ("__debug__" : Str)) = false := by decide)
    (he : starEach (e :: es) X.env = (false, eval e X.env) :: starEach es X.env := by rfl) (hpl : (backTo pos (starEach es X.env)).any (·.1) = false := by rfl) : DE X W (.Call (.Name x p) (e :: es) [] pos) (dCB rd t) :=
  ⟨peW (pe_callTy hc hg hm hv ha.pa hn hdb he hpl) fun _ _ _ h => upCB hr h⟩
/-- len -/
def lenD (M : Mp) (d : D) : Option Nat := match d with
  | .tup xs => some xs.length
  | .str y => if y.length ≤ sizeLine then some y.length else none
  | d => (sqD M d).map List.length
def rdLen : D1s := fun ds M Q => ∃ d n, ds = [d] ∧ lenD M d = some n ∧ Q (.int (n : Nat)) M
theorem rps1 {K : KTb} {F : Hp} {vs : List V} {d : D} (r : Rps K F vs [d]) : ∃ v, vs = [v] ∧ Rp K F v d := by
  cases r with
  | cons r1 r2 =>
    cases r2
    exact ⟨_, rfl, r1⟩
theorem rps2 {K : KTb} {F : Hp} {vs : List V} {d e : D} (r : Rps K F vs [d, e]) : ∃ v w, vs = [v, w] ∧ Rp K F v d ∧ Rp K F w e := by
  cases r with
  | cons r1 r2 =>
    obtain ⟨w, rfl, r3⟩ := rps1 r2
    exact ⟨_, _, rfl, r1, r3⟩
theorem real_len {K : KTb} : Real1 K (fun xs H Q => ∃ x n, xs = [x] ∧ LenV K.K x H n ∧ Q (.int n) H) rdLen := fun F H M xs ds Qd Q c r ⟨d, n, e1, h, q⟩ k => by
  subst e1
  obtain ⟨v, rfl, rv⟩ := rps1 r
  refine ⟨v, n, rfl, ?_, k F H _ _ M (Same.refl _) c (.int _) q⟩
  have lst : (sqD M d).map List.length = some n → LenV K.K v H n := fun h => by
    cases e : sqD M d with
    | none => rw [e] at h; cases h
    | some ys =>
      rw [e] at h
      cases h
      obtain ⟨a, vs, rfl, h1, r1⟩ := sq_of c rv e
      exact .inl ⟨vs, h1, r1.length.symm⟩
  cases d with
  | tup xs =>
    obtain ⟨a, vs, rfl, h1, r1⟩ := tp_of c rv
    cases h
    exact .inr ⟨vs, h1, r1.length.symm⟩
  | str y =>
    have h : (if y.length ≤ sizeLine then some y.length else none) = some n := h
    cases rv
    split at h
    · rename_i hz
      cases h
      exact ⟨hz, rfl⟩
    · cases h
  | lst ys => exact lst h
  | ref p => exact lst h
  | _ => exact lst h
def rdInt2 (g : Int → Int → Int) : D1s := fun ds M Q => ∃ i j, ds = [.int i, .int j] ∧ Q (.int (g i j)) M
theorem real_int2 {K : KTb} {g : Int → Int → Int} : Real1 K (fun xs H Q => ∃ i j, xs = [.int i, .int j] ∧ Q (.int (g i j)) H) (rdInt2 g) := fun F H M xs ds Qd Q c r ⟨i, j, e1, q⟩ k => by
  subst e1
  obtain ⟨v, w, rfl, rv, rw⟩ := rps2 r
  cases rv
  cases rw
  exact ⟨i, j, rfl, k F H _ _ M (Same.refl _) c (.int _) q⟩
def rdAbs : D1s := fun ds M Q => ∃ i, ds = [.int i] ∧ Q (.int (if i < 0 then -i else i)) M
theorem real_abs {K : KTb} : Real1 K (fun xs H Q => ∃ i, xs = [.int i] ∧ Q (.int (if i < 0 then -i else i)) H) rdAbs := fun F H M xs ds Qd Q c r ⟨i, e1, q⟩ k => by
  subst e1
  obtain ⟨v, rfl, rv⟩ := rps1 r
  cases rv
  exact ⟨i, rfl, k F H _ _ M (Same.refl _) c (.int _) q⟩
/-- int(i), int(b) -/
def rdInt1 : D1s := fun ds M Q => (∃ i, ds = [.int i] ∧ Q (.int i) M) ∨ ∃ b, ds = [.bl b] ∧ Q (.int (if b then 1 else 0)) M
theorem real_int1 {K : KTb} : Real1 K (fun xs H Q => (∃ i, xs = [.int i] ∧ Q (.int i) H) ∨ ∃ k, xs = [.bl k] ∧ Q (.int (if k then 1 else 0)) H) rdInt1 := fun F H M xs ds Qd Q c r q k => by
  rcases q with ⟨i, e1, q⟩ | ⟨b, e1, q⟩
  · subst e1
    obtain ⟨v, rfl, rv⟩ := rps1 r
    cases rv
    exact .inl ⟨i, rfl, k F H _ _ M (Same.refl _) c (.int _) q⟩
  · subst e1
    obtain ⟨v, rfl, rv⟩ := rps1 r
    cases rv
    exact .inr ⟨b, rfl, k F H _ _ M (Same.refl _) c (.int _) q⟩
/-- sum, max, min of ints; any, all of truth values -/
def rdSum : D1s := fun ds M Q => ∃ (d : D) (ns : List Int), ds = [d] ∧ sqD M d = some (ns.map D.int) ∧ Q (.int ns.sum) M
theorem real_sum {K : KTb} : Real1 K (rSum K.K) rdSum := fun F H M xs ds Qd Q c r ⟨d, ns, e1, h, q⟩ k => by
  subst e1
  obtain ⟨v, rfl, rv⟩ := rps1 r
  obtain ⟨a, vs, rfl, h1, r1⟩ := sq_of c rv h
  rw [r1.ints] at h1
  exact ⟨a, ns, rfl, h1, k F H _ _ M (Same.refl _) c (.int _) q⟩
def rdMax : D1s := fun ds M Q => ∃ (d : D) (ns : List Int), ds = [d] ∧ sqD M d = some (ns.map D.int) ∧ 0 < ns.length ∧ ∀ m, m ∈ ns → (∀ y, y ∈ ns → y ≤ m) → Q (.int m) M
theorem real_max {K : KTb} : Real1 K (rMax K.K) rdMax := fun F H M xs ds Qd Q c r ⟨d, ns, e1, h, hl, q⟩ k => by
  subst e1
  obtain ⟨v, rfl, rv⟩ := rps1 r
  obtain ⟨a, vs, rfl, h1, r1⟩ := sq_of c rv h
  rw [r1.ints] at h1
  exact ⟨a, ns, rfl, h1, hl, fun m hm hy => k F H _ _ M (Same.refl _) c (.int _) (q m hm hy)⟩
def rdMin : D1s := fun ds M Q => ∃ (d : D) (ns : List Int), ds = [d] ∧ sqD M d = some (ns.map D.int) ∧ 0 < ns.length ∧ ∀ m, m ∈ ns → (∀ y, y ∈ ns → m ≤ y) → Q (.int m) M
theorem real_min {K : KTb} : Real1 K (rMin K.K) rdMin := fun F H M xs ds Qd Q c r ⟨d, ns, e1, h, hl, q⟩ k => by
  subst e1
  obtain ⟨v, rfl, rv⟩ := rps1 r
  obtain ⟨a, vs, rfl, h1, r1⟩ := sq_of c rv h
  rw [r1.ints] at h1
  exact ⟨a, ns, rfl, h1, hl, fun m hm hy => k F H _ _ M (Same.refl _) c (.int _) (q m hm hy)⟩
def rdAny : D1s := fun ds M Q => ∃ (d : D) (bs : List Bool), ds = [d] ∧ sqD M d = some (bs.map D.bl) ∧ Q (.bl (bs.any id)) M
theorem real_any {K : KTb} : Real1 K (rAny K.K) rdAny := fun F H M xs ds Qd Q c r ⟨d, bs, e1, h, q⟩ k => by
  subst e1
  obtain ⟨v, rfl, rv⟩ := rps1 r
  obtain ⟨a, vs, rfl, h1, r1⟩ := sq_of c rv h
  rw [r1.bls] at h1
  exact ⟨a, bs, rfl, h1, k F H _ _ M (Same.refl _) c (.bl _) q⟩
def rdAll : D1s := fun ds M Q => ∃ (d : D) (bs : List Bool), ds = [d] ∧ sqD M d = some (bs.map D.bl) ∧ Q (.bl (bs.all id)) M
theorem real_all {K : KTb} : Real1 K (rAll K.K) rdAll := fun F H M xs ds Qd Q c r ⟨d, bs, e1, h, q⟩ k => by
  subst e1
  obtain ⟨v, rfl, rv⟩ := rps1 r
  obtain ⟨a, vs, rfl, h1, r1⟩ := sq_of c rv h
  rw [r1.bls] at h1
  exact ⟨a, bs, rfl, h1, k F H _ _ M (Same.refl _) c (.bl _) q⟩
end
end DL

namespace DL
open PySem L2 PyProof.Rows

/-! ### what is walked -/
structure DIt where
  seq : List D
  ok : Mp → Prop
def RealIt (K : KTb) (F0 : Hp) (J : It) (it : DIt) : Prop := it.seq.length ≤ sizeLine ∧ ∀ (F H : Hp) (M : Mp) (i : Nat), Same F0 F → Cc K M F H → it.ok M →
  (∀ d, it.seq[i]? = some d → J.go i H ∧ ∀ x H', J.yld i H x H' → ∃ F', Same F F' ∧ Cc K M F' H' ∧ Rp K F' x d) ∧ (it.seq.length ≤ i → J.stop i H)
abbrev DTI := DG → Mp → (DIt → Mp → Prop) → DXE → Prop
def upI (K : KTb) (W : WX) (t : DTI) : TI := fun σ H R => ∃ (Γ : DG) (M : Mp) (F : Hp) (E : DXE) (Rd : DIt → Mp → Prop), At K W σ H Γ M F E ∧ t Γ M Rd E ∧
  ∀ (F' H' : Hp) (J : It) (it : DIt) (M' : Mp), Same F F' → Cc K M' F' H' → RealIt K F' J it → Rd it M' → R J H'
structure DI (X : Cx) (W : WT) (tg e : Expr) (t : DTI) : Prop where
  pi : PI X tg e (upI (kt X W) W.w t)
theorem piW {X : Cx} {tg e : Expr} {t t' : TI} (p : PI X tg e t) (h : ∀ σ H R, t' σ H R → t σ H R) : PI X tg e t' := ⟨fun pins s σ H Q I q => p.run pins s σ H Q I (h σ H Q q)⟩

/-- a list, a tuple, a text -/
def iAll (K : PySem.W.Frag) (tl : TE) : TI := fun σ H R => tl σ H fun x H1 => (∃ a xs, x = .ref a ∧ SqL K H1 a xs ∧ (xs.length ≤ sizeLine → R (Itl K a) H1)) ∨ (∃ a xs, x = .ref a ∧ SqT K H1 a xs ∧ (xs.length ≤ sizeLine → R (Itt K a) H1)) ∨ (∃ x', x = .str x' ∧ R (Its x') H1)
theorem pi_all {X : Cx} {tg l : Expr} {tl : TE} (hl : PE X l tl) : PI X tg l (iAll X.K tl) := by
  refine ⟨fun pins s σ H R I h => ?_⟩
  refine thn (hl.run pins s σ H _ I h) fun v s1 ⟨x, H1, I1, r1, q1⟩ => ?_
  rcases q1 with ⟨a, xs, e, hq, q⟩ | ⟨a, xs, e, hq, q⟩ | ⟨x', ex, q⟩
  · subst e
    cases r1
    obtain ⟨its, rv, p, hz⟩ := I1.list hq
    refine wpAny_pyIter_list p.isList ?_
    refine ⟨s1.heap.objs.size, [s1.heap.objs.size], _, _, H1, rfl, I1.kept (t' := s1.toks) fun b o e => Heap.get?_push_of_some _ e, turn_list a _, ⟨_, Heap.get?_push_size _ rfl, rfl, rfl⟩, fun b hb => ?_, q hz⟩
    have e : b = s1.heap.objs.size := by simpa using hb
    subst e
    exact I1.fpOk (Nat.le_refl _) (I1.hok.fresh (Nat.le_refl _))
  · subst e
    cases r1
    obtain ⟨its, rv, p, hz⟩ := I1.tuple hq
    refine wpAny_pyIter_tuple (show s1.heap.IsTuple a its.toArray from p) ?_
    refine ⟨s1.heap.objs.size, [s1.heap.objs.size], _, _, H1, rfl, I1.kept (t' := s1.toks) fun b o e => Heap.get?_push_of_some _ e, turn_tuple a _, ⟨_, Heap.get?_push_size _ rfl, rfl, rfl⟩, fun b hb => ?_, q hz⟩
    have e : b = s1.heap.objs.size := by simpa using hb
    subst e
    exact I1.fpOk (Nat.le_refl _) (I1.hok.fresh (Nat.le_refl _))
  · subst ex
    obtain ⟨t, rfl⟩ := r1
    cases ha : x'.cps.all (· < 128)
    · exact wpAny_pyIter_wide ha (pi_one (tk := s1.toks) I1 _ (turn_str _ x' t "str_iterator" (.inr rfl)) ⟨_, Heap.get?_push_size _ rfl, rfl, rfl⟩ q)
    · exact wpAny_pyIter_ascii ha (pi_one (tk := s1.toks) I1 _ (turn_str _ x' t "str_ascii_iterator" (.inl rfl)) ⟨_, Heap.get?_push_size _ rfl, rfl, rfl⟩ q)
/-- what is walked, by its value -/
def itD (M : Mp) (d : D) : Option (List D) := match d with
  | .tup xs => some xs
  | .str z => if z.length ≤ sizeLine then some (z.cps.toList.map fun c => .str ⟨#[c]⟩) else none
  | d => sqD M d
def dISeq (t : DTE) : DTI := fun Γ M R E => t Γ M (fun d M1 => ∃ xs, itD M1 d = some xs ∧ R ⟨xs, fun M2 => itD M2 d = some xs⟩ M1) E
section
variable {X : Cx} {W : WT} {e a b tg : Expr} {es : List Expr}
theorem di_seq {t : DTE} (h : DE X W e t) : DI X W tg e (dISeq t) := ⟨piW (pi_all h.pe) fun σ H R ⟨Γ, M, F, E, Rd, a, q, k⟩ => ⟨Γ, M, F, E, _, a, q, fun F1 H1 v d M1 s1 c1 r1 ⟨xs, e1, q1⟩ => by
  have lst : sqD M1 d = some xs → (∀ M2, itD M2 d = sqD M2 d) → (∃ a xs, v = .ref a ∧ SqL X.K H1 a xs ∧ (xs.length ≤ sizeLine → R (Itl X.K a) H1)) := fun h0 hM => by
    obtain ⟨p, vs, rfl, h1, r2⟩ := sq_of c1 r1 h0
    refine ⟨p, vs, rfl, h1, fun hz => k F1 H1 _ _ M1 s1 c1 ⟨by rw [← r2.length]; exact hz, fun F2 H2 M2 i s2 c2 ok => ?_⟩ q1⟩
    have ok : itD M2 d = some xs := ok
    rw [hM] at ok
    obtain ⟨p2, vs2, e2, h2, r3⟩ := sq_of c2 (r1.mono s2) ok
    cases e2
    refine ⟨fun d' hd => ?_, fun hl => ⟨vs2, h2, by rw [r3.length]; exact hl⟩⟩
    obtain ⟨v', e3, r4⟩ := r3.get hd
    refine ⟨⟨vs2, v', h2, e3⟩, fun x H' y => ?_⟩
    obtain ⟨eH, y⟩ := y
    have e5 := y vs2 h2
    rw [e3] at e5
    cases e5
    exact ⟨F2, Same.refl _, by rw [eH]; exact c2, r4⟩
  cases d with
  | lst ys => exact .inl (lst e1 fun _ => rfl)
  | ref p => exact .inl (lst e1 fun _ => rfl)
  | scr p => exact .inl (lst e1 fun _ => rfl)
  | tup ys =>
    cases e1
    obtain ⟨p, vs, rfl, h1, r2⟩ := tp_of c1 r1
    refine .inr (.inl ⟨p, vs, rfl, h1, fun hz => k F1 H1 _ _ M1 s1 c1 ⟨by rw [← r2.length]; exact hz, fun F2 H2 M2 i s2 c2 ok => ?_⟩ q1⟩)
    obtain ⟨p2, vs2, e2, h2, r3⟩ := tp_of c2 (r1.mono s2)
    cases e2
    refine ⟨fun d' hd => ?_, fun hl => ⟨vs2, h2, by rw [r3.length]; exact hl⟩⟩
    obtain ⟨v', e3, r4⟩ := r3.get hd
    refine ⟨⟨vs2, v', h2, e3⟩, fun x H' y => ?_⟩
    obtain ⟨eH, y⟩ := y
    have e5 := y vs2 h2
    rw [e3] at e5
    cases e5
    exact ⟨F2, Same.refl _, by rw [eH]; exact c2, r4⟩
  | str z =>
    have e1' : (if z.length ≤ sizeLine then some (z.cps.toList.map fun c => D.str ⟨#[c]⟩) else none) = some xs := e1
    split at e1'
    · rename_i hz
      cases e1'
      cases r1
      refine .inr (.inr ⟨z, rfl, k F1 H1 _ _ M1 s1 c1 ⟨by simpa [Str.length] using hz, fun F2 H2 M2 i s2 c2 ok => ⟨fun d' hd => ?_, fun hl => ?_⟩⟩ q1⟩)
      · simp only [List.getElem?_map, Option.map_eq_some_iff] at hd
        obtain ⟨ch, h1, h2⟩ := hd
        subst h2
        have hi : z.cps[i]? = some ch := by rw [← Array.getElem?_toList]; exact h1
        refine ⟨?_, fun x H' y => ?_⟩
        · obtain ⟨hi2, _⟩ := Array.getElem?_eq_some_iff.mp hi
          exact hi2
        · obtain ⟨eH, c', h3, e4⟩ := y
          rw [hi] at h3
          cases h3
          subst e4
          exact ⟨F2, Same.refl _, by rw [eH]; exact c2, .str _⟩
      · show z.cps.size ≤ i
        simpa using hl
    · cases e1'
  | _ => cases e1⟩⟩

/-! ### ranges -/
def rngD (lo c : Int) (n : Nat) : List D := (List.range n).map fun k => D.int (lo + (k : Nat) * c)
theorem real_rng {K : KTb} {F0 : Hp} {lo : Int} {n : Nat} (h : n ≤ sizeLine) : RealIt K F0 (Itr lo n) ⟨rngD lo 1 n, fun _ => True⟩ := by
  refine ⟨by simpa [rngD] using h, fun F H M i s c _ => ⟨fun d hd => ?_, fun hl => ?_⟩⟩
  · simp only [rngD, List.getElem?_map, Option.map_eq_some_iff] at hd
    obtain ⟨j, h1, rfl⟩ := hd
    obtain ⟨h2, h3⟩ := List.getElem?_eq_some_iff.mp h1
    simp at h2 h3
    subst h3
    refine ⟨h2, fun x H' y => ?_⟩
    obtain ⟨eH, ex⟩ := y
    subst ex
    rw [Int.mul_one]
    exact ⟨F, Same.refl _, by rw [eH]; exact c, .int _⟩
  · simp only [rngD, List.length_map, List.length_range] at hl
    exact hl
theorem real_rngC {K : KTb} {F0 : Hp} {lo cc : Int} {n : Nat} (h : n ≤ sizeLine) : RealIt K F0 (Itc lo cc n) ⟨rngD lo cc n, fun _ => True⟩ := by
  refine ⟨by simpa [rngD] using h, fun F H M i s c _ => ⟨fun d hd => ?_, fun hl => ?_⟩⟩
  · simp only [rngD, List.getElem?_map, Option.map_eq_some_iff] at hd
    obtain ⟨j, h1, rfl⟩ := hd
    obtain ⟨h2, h3⟩ := List.getElem?_eq_some_iff.mp h1
    simp at h2 h3
    subst h3
    refine ⟨h2, fun x H' y => ?_⟩
    obtain ⟨eH, ex⟩ := y
    subst ex
    exact ⟨F, Same.refl _, by rw [eH]; exact c, .int _⟩
  · simp only [rngD, List.length_map, List.length_range] at hl
    exact hl
def small (i : Int) : Prop := -10000000 ≤ i ∧ i ≤ 10000000
def dIRng1 (t : DTA) : DTI := fun Γ M R E => t Γ M (fun ds M1 => ∃ j : Int, ds = [.int j] ∧ small j ∧ R ⟨rngD 0 1 j.toNat, fun _ => True⟩ M1) E
theorem rps1' {K : KTb} {F : Hp} {vs : List V} {i : Int} (r : Rps K F vs [.int i]) : vs = [.int i] := by
  obtain ⟨v, rfl, rv⟩ := rps1 r
  cases rv
  rfl
theorem rps2' {K : KTb} {F : Hp} {vs : List V} {i j : Int} (r : Rps K F vs [.int i, .int j]) : vs = [.int i, .int j] := by
  obtain ⟨v, w, rfl, ra, rb⟩ := rps2 r
  cases ra
  cases rb
  rfl
theorem rps3' {K : KTb} {F : Hp} {vs : List V} {i j l : Int} (r : Rps K F vs [.int i, .int j, .int l]) : vs = [.int i, .int j, .int l] := by
  cases r with
  | cons r1 r2 =>
    cases r1
    rw [rps2' r2]
theorem szl : (sizeLine : Nat) = 16777216 := sizeLine_eq
theorem di_rng1 {t : DTA} {p pos : Pos} (hg : Gl X "range") (hm : X.mg "range" = none) (ha : DA X W [a] t) (hs : starEach [a] X.env = [(false, eval a X.env)] := by rfl) : DI X W tg (.Call (.Name "range" p) [a] [] pos) (dIRng1 t) :=
  ⟨piW (pi_range1 hg hm ha.pa hs) fun σ H R ⟨Γ, M, F, E, Rd, a, q, k⟩ => ⟨Γ, M, F, E, _, a, q, fun F1 H1 vs ds M1 s1 c1 r1 ⟨j, e1, h1, q1⟩ => by
    subst e1
    obtain ⟨h1, h2⟩ := h1
    exact ⟨j, rps1' r1, by omega, by omega, k F1 H1 _ _ M1 s1 c1 (real_rng (by rw [szl]; omega)) q1⟩⟩⟩
def dIRng2 (t : DTA) : DTI := fun Γ M R E => t Γ M (fun ds M1 => ∃ i j : Int, ds = [.int i, .int j] ∧ small i ∧ small j ∧ (j - i) ≤ 10000000 ∧ R ⟨rngD i 1 (j - i).toNat, fun _ => True⟩ M1) E
theorem di_rng2 {t : DTA} {p pos : Pos} (hg : Gl X "range") (hm : X.mg "range" = none) (ha : DA X W [a, b] t) (hs : starEach [a, b] X.env = [(false, eval a X.env), (false, eval b X.env)] := by rfl) (hs2 : starEach [b] X.env = [(false, eval b X.env)] := by rfl) : DI X W tg (.Call (.Name "range" p) [a, b] [] pos) (dIRng2 t) :=
  ⟨piW (pi_range2 hg hm ha.pa hs hs2) fun σ H R ⟨Γ, M, F, E, Rd, a, q, k⟩ => ⟨Γ, M, F, E, _, a, q, fun F1 H1 vs ds M1 s1 c1 r1 ⟨i, j, e1, h1, h2, h3, q1⟩ => by
    subst e1
    obtain ⟨h1, h1'⟩ := h1
    obtain ⟨h2, h2'⟩ := h2
    exact ⟨i, j, rps2' r1, by omega, k F1 H1 _ _ M1 s1 c1 (real_rng (by rw [szl]; omega)) q1⟩⟩⟩
/-- range(i, j, c), c above nought -/
def dIRng3 (t : DTA) : DTI := fun Γ M R E => t Γ M (fun ds M1 => ∃ (i j c : Int) (n : Nat), ds = [.int i, .int j, .int c] ∧ RgC i j c n ∧ n ≤ sizeLine ∧ R ⟨rngD i c n, fun _ => True⟩ M1) E
theorem di_rng3 {c : Expr} {t : DTA} {p pos : Pos} (hg : Gl X "range") (hm : X.mg "range" = none) (ha : DA X W [a, b, c] t) (hs : starEach [a, b, c] X.env = (false, eval a X.env) :: starEach [b, c] X.env := by rfl) (hpl : (backTo pos (starEach [b, c] X.env)).any (·.1) = false := by rfl) :
    DI X W tg (.Call (.Name "range" p) [a, b, c] [] pos) (dIRng3 t) :=
  ⟨piW (pi_range3 hg hm ha.pa hs hpl) fun σ H R ⟨Γ, M, F, E, Rd, a, q, k⟩ => ⟨Γ, M, F, E, _, a, q, fun F1 H1 vs ds M1 s1 c1 r1 ⟨i, j, c, n, e1, h1, h2, q1⟩ => by
    subst e1
    exact ⟨i, j, c, n, rps3' r1, h1, k F1 H1 _ _ M1 s1 c1 (real_rngC h2) q1⟩⟩⟩
/-! ### enumerate, zip -/
def enD (xs : List D) : List D := xs.zipIdx.map fun p => .tup [.int (p.2 : Nat), p.1]
def dIEn (t : DTA) : DTI := fun Γ M R E => t Γ M (fun ds M1 => ∃ d xs, ds = [d] ∧ sqD M1 d = some xs ∧ xs.length ≤ sizeLine ∧ R ⟨enD xs, fun M2 => sqD M2 d = some xs⟩ M1) E
theorem di_enum {elts : List Expr} {kk : Nat} {tpos p pos : Pos} {t : DTA} (hg : Gl X "enumerate") (hm : X.mg "enumerate" = none) (ha : DA X W [e] t) (hs : starEach [e] X.env = [(false, eval e X.env)] := by rfl) :
    DI X W (.Tuple elts kk tpos) (.Call (.Name "enumerate" p) [e] [] pos) (dIEn t) :=
  ⟨piW (pi_enum hg hm ha.pa hs) fun σ H R ⟨Γ, M, F, E, Rd, a, q, k⟩ => ⟨Γ, M, F, E, _, a, q, fun F1 H1 vs ds M1 s1 c1 r1 ⟨d, xs, e1, h1, hz, q1⟩ => by
    subst e1
    obtain ⟨v, rfl, rv⟩ := rps1 r1
    obtain ⟨p, vs, rfl, h2, r2⟩ := sq_of c1 rv h1
    refine ⟨p, vs, rfl, h2, k F1 H1 _ _ M1 s1 c1 ⟨by simpa [enD] using hz, fun F2 H2 M2 i s2 c2 ok => ?_⟩ q1⟩
    obtain ⟨p2, vs2, e2, h3, r3⟩ := sq_of c2 (rv.mono s2) ok
    cases e2
    refine ⟨fun d' hd => ?_, fun hl => ⟨vs2, h3, by rw [r3.length]; simpa [enD] using hl⟩⟩
    simp only [enD, List.getElem?_map, Option.map_eq_some_iff, List.getElem?_zipIdx] at hd
    obtain ⟨⟨y, j⟩, ⟨y', g1, g2⟩, g3⟩ := hd
    cases g2
    subst g3
    simp only [Nat.zero_add]
    obtain ⟨v', e3, r4⟩ := r3.get g1
    refine ⟨⟨vs2, v', h3, e3⟩, fun x H' y => ?_⟩
    obtain ⟨T, x', e4, e5, e6, e7⟩ := y
    have e8 := e7 vs2 h3
    rw [e3] at e8
    cases e8
    subst e4
    rw [e6]
    have s := Same.upd (o := .tup [.int (i : Nat), v']) (c2.Fnone e5)
    exact ⟨_, s, c2.newF e5, .tup (.inl upd_same) (.cons (.int _) (.cons (r4.mono s) .nil))⟩⟩⟩
def zipD (xs ys : List D) : List D := List.zipWith (fun a b => .tup [a, b]) xs ys
/-- of two lists, of two tuples -/
def zpD (M : Mp) (d e : D) : Option (List D × List D) := match d, e with
  | .tup xs, .tup ys => some (xs, ys)
  | d, e => (sqD M d).bind fun xs => (sqD M e).map fun ys => (xs, ys)
def dIZip (t : DTA) : DTI := fun Γ M R E => t Γ M (fun ds M1 => ∃ d e xs ys, ds = [d, e] ∧ zpD M1 d e = some (xs, ys) ∧ xs.length ≤ sizeLine ∧ R ⟨zipD xs ys, fun M2 => zpD M2 d e = some (xs, ys)⟩ M1) E
theorem zpD_tup {M : Mp} {xs ys : List D} : zpD M (.tup xs) (.tup ys) = some (xs, ys) := rfl
theorem zpD_cases {M : Mp} {d e : D} {xs ys : List D} (h : zpD M d e = some (xs, ys)) : (d = .tup xs ∧ e = .tup ys) ∨ (sqD M d = some xs ∧ sqD M e = some ys) := by
  unfold zpD at h
  split at h
  · cases h
    exact .inl ⟨rfl, rfl⟩
  · cases h1 : sqD M d with
    | none => rw [h1] at h; cases h
    | some as =>
      cases h2 : sqD M e with
      | none => rw [h1, h2] at h; cases h
      | some bs =>
        rw [h1, h2] at h
        cases h
        exact .inr ⟨rfl, rfl⟩
theorem zip_turn {K : KTb} {F H H' : Hp} {M : Mp} {x y : V} {d e : D} {T : Addr} (c : Cc K M F H) (h : H T = none) (eH : H' = upd H T (.tup [x, y])) (r1 : Rp K F x d) (r2 : Rp K F y e) : ∃ F', Same F F' ∧ Cc K M F' H' ∧ Rp K F' (.ref T) (.tup [d, e]) := by
  have s := Same.upd (o := .tup [x, y]) (c.Fnone h)
  rw [eH]
  exact ⟨_, s, c.newF h, .tup (.inl upd_same) (.cons (r1.mono s) (.cons (r2.mono s) .nil))⟩
theorem di_zip {elts : List Expr} {kk : Nat} {tpos p pos : Pos} {t : DTA} (hg : Gl X "zip") (hm : X.mg "zip" = none) (ha : DA X W [a, b] t)
    (hs : starEach [a, b] X.env = (false, eval a X.env) :: starEach [b] X.env := by rfl) (hpl : (backTo pos (starEach [b] X.env)).any (·.1) = false := by rfl) : DI X W (.Tuple elts kk tpos) (.Call (.Name "zip" p) [a, b] [] pos) (dIZip t) :=
  ⟨piW (RZ.pi_zipA hg hm ha.pa hs hpl) fun σ H R ⟨Γ, M, F, E, Rd, a, q, k⟩ => ⟨Γ, M, F, E, _, a, q, fun F1 H1 vs ds M1 s1 c1 r1 ⟨d, e, xs, ys, e1, h1, hz, q1⟩ => by
    subst e1
    obtain ⟨v, w, rfl, rv, rw⟩ := rps2 r1
    have len : (zipD xs ys).length ≤ sizeLine := by
      simp only [zipD, List.length_zipWith]
      omega
    have item : ∀ {i : Nat} {d' : D}, (zipD xs ys)[i]? = some d' → ∃ x y, xs[i]? = some x ∧ ys[i]? = some y ∧ d' = .tup [x, y] := fun {i d'} h => by
      simp only [zipD, List.getElem?_zipWith] at h
      cases hx : xs[i]? with
      | none => rw [hx] at h; simp at h
      | some x =>
        cases hy : ys[i]? with
        | none => rw [hx, hy] at h; simp at h
        | some y =>
          rw [hx, hy] at h
          simp at h
          exact ⟨x, y, rfl, rfl, h.symm⟩
    rcases zpD_cases h1 with ⟨rfl, rfl⟩ | ⟨g1, g2⟩
    · obtain ⟨p, us, rfl, h2, r2⟩ := tp_of c1 rv
      obtain ⟨p', us', rfl, h2', r2'⟩ := tp_of c1 rw
      refine ⟨p, p', us, us', rfl, .inr ⟨h2, h2', k F1 H1 _ _ M1 s1 c1 ⟨len, fun F2 H2 M2 i s2 c2 ok => ?_⟩ q1⟩⟩
      obtain ⟨p2, vs2, e2, h3, r3⟩ := tp_of c2 (rv.mono s2)
      cases e2
      obtain ⟨p2', vs2', e2', h3', r3'⟩ := tp_of c2 (rw.mono s2)
      cases e2'
      refine ⟨fun d' hd => ?_, fun hl => ⟨vs2, vs2', h3, h3', ?_⟩⟩
      · obtain ⟨x, y, hx, hy, rfl⟩ := item hd
        obtain ⟨vx, ex, rx⟩ := r3.get hx
        obtain ⟨vy, ey, ry⟩ := r3'.get hy
        refine ⟨⟨vs2, vs2', vx, vy, h3, h3', ex, ey⟩, fun u H' y' => ?_⟩
        obtain ⟨T, a1, a2, e4, e5, e6, e7, e8⟩ := y'
        have e9 := e7 vs2 h3
        rw [ex] at e9
        cases e9
        have e10 := e8 vs2' h3'
        rw [ey] at e10
        cases e10
        subst e4
        exact zip_turn c2 e5 e6 rx ry
      · simp only [zipD, List.length_zipWith] at hl
        rw [r3.length, r3'.length]
        omega
    · obtain ⟨p, us, rfl, h2, r2⟩ := sq_of c1 rv g1
      obtain ⟨p', us', rfl, h2', r2'⟩ := sq_of c1 rw g2
      refine ⟨p, p', us, us', rfl, .inl ⟨h2, h2', k F1 H1 _ _ M1 s1 c1 ⟨len, fun F2 H2 M2 i s2 c2 ok => ?_⟩ q1⟩⟩
      have ok : zpD M2 d e = some (xs, ys) := ok
      have g : sqD M2 d = some xs ∧ sqD M2 e = some ys := by
        rcases zpD_cases ok with ⟨rfl, rfl⟩ | g
        · simp [sqD] at g1
        · exact g
      obtain ⟨p2, vs2, e2, h3, r3⟩ := sq_of c2 (rv.mono s2) g.1
      cases e2
      obtain ⟨p2', vs2', e2', h3', r3'⟩ := sq_of c2 (rw.mono s2) g.2
      cases e2'
      refine ⟨fun d' hd => ?_, fun hl => ⟨vs2, vs2', h3, h3', ?_⟩⟩
      · obtain ⟨x, y, hx, hy, rfl⟩ := item hd
        obtain ⟨vx, ex, rx⟩ := r3.get hx
        obtain ⟨vy, ey, ry⟩ := r3'.get hy
        refine ⟨⟨vs2, vs2', vx, vy, h3, h3', ex, ey⟩, fun u H' y' => ?_⟩
        obtain ⟨T, a1, a2, e4, e5, e6, e7, e8⟩ := y'
        have e9 := e7 vs2 h3
        rw [ex] at e9
        cases e9
        have e10 := e8 vs2' h3'
        rw [ey] at e10
        cases e10
        subst e4
        exact zip_turn c2 e5 e6 rx ry
      · simp only [zipD, List.length_zipWith] at hl
        rw [r3.length, r3'.length]
        omega⟩⟩
end
end DL

namespace DL
open PySem L2

/-! ### blocks -/
def dNext : DTS := fun Dn Γ M => Dn.nx Γ M
def dSeq (t u : DTS) : DTS := fun Dn Γ M => t { Dn with nx := u Dn } Γ M
section
variable {X : Cx} {W : WT} {e a b tg : Expr} {es : List Expr} {st : Stmt} {sts rest : List Stmt} {pos : Pos}
theorem dss_nil : DSs X W [] dNext := ⟨pssW pss_nil fun E σ H ⟨Γ, M, F, Dn, a, h, k⟩ => k.nx F H σ Γ M (Same.refl _) a.c a.g h⟩
theorem upSeq {t u : DTS} {E : Ends} {σ : St} {H : Hp} (h : upS (kt X W) W.w (dSeq t u) E σ H) : tSeq (upS (kt X W) W.w t) (upS (kt X W) W.w u) E σ H := by
  obtain ⟨Γ, M, F, Dn, a, h, k⟩ := h
  exact ⟨Γ, M, F, { Dn with nx := u Dn }, a, h, ⟨fun F1 H1 σ1 Γ1 M1 s1 c1 g1 q1 => ⟨Γ1, M1, F1, Dn, ⟨c1, g1, a.w.mono s1⟩, q1, k.mono s1⟩, k.rt, k.bk, k.ct⟩⟩
theorem dss_cons {t u : DTS} (h1 : DS X W st t) (h2 : DSs X W rest u) : DSs X W (st :: rest) (dSeq t u) := ⟨pssW (pss_cons h1.ps h2.ps) fun _ _ _ h => upSeq h⟩
theorem dss_one {t : DTS} (h1 : DS X W st t) : DSs X W [st] t := ⟨pss_one h1.ps⟩
theorem ds_pass : DS X W (.Pass pos) dNext := ⟨psW ps_pass fun E σ H ⟨Γ, M, F, Dn, a, h, k⟩ => k.nx F H σ Γ M (Same.refl _) a.c a.g h⟩
theorem ds_doc {x j pos'} : DS X W (.Expr (.Constant (.str x) j pos) pos') dNext := ⟨psW ps_doc fun E σ H ⟨Γ, M, F, Dn, a, h, k⟩ => k.nx F H σ Γ M (Same.refl _) a.c a.g h⟩
def dBreak : DTS := fun Dn Γ M => Dn.bk Γ M
def dCont : DTS := fun Dn Γ M => Dn.ct Γ M
theorem ds_break : DS X W (.Break pos) dBreak := ⟨psW ps_break fun E σ H ⟨Γ, M, F, Dn, a, h, k⟩ => k.bk F H σ Γ M (Same.refl _) a.c a.g h⟩
theorem ds_continue : DS X W (.Continue pos) dCont := ⟨psW ps_continue fun E σ H ⟨Γ, M, F, Dn, a, h, k⟩ => k.ct F H σ Γ M (Same.refl _) a.c a.g h⟩
def dDrop (te : DTE) : DTS := fun Dn Γ M => te Γ M (fun _ M1 => Dn.nx Γ M1) Dn.ex
theorem ds_expr {te : DTE} (he : DE X W e te) (hs : swapsWith e none pos.line X.env = pure false := by rfl) : DS X W (.Expr e pos) (dDrop te) :=
  ⟨psW (ps_expr he.pe hs) fun E σ H ⟨Γ, M, F, Dn, a, h, k⟩ => ⟨Γ, M, F, _, _, a, h, fun F1 H1 v d M1 s1 c1 r1 q1 => k.nx F1 H1 σ Γ M1 s1 c1 (a.g.mono s1) q1⟩⟩
def dRet (te : DTE) : DTS := fun Dn Γ M => te Γ M Dn.rt Dn.ex
theorem ds_ret {te : DTE} (he : DE X W e te) : DS X W (.Return (some e) pos) (dRet te) :=
  ⟨psW (ps_ret he.pe) fun E σ H ⟨Γ, M, F, Dn, a, h, k⟩ => ⟨Γ, M, F, _, _, a, h, k.rt⟩⟩
def dRetN : DTS := fun Dn _ M => Dn.rt .non M
theorem ds_retN : DS X W (.Return none pos) dRetN := ⟨psW ps_retN fun E σ H ⟨Γ, M, F, Dn, a, h, k⟩ => k.rt F H _ _ M (Same.refl _) a.c .non h⟩
def dIfS (c : DTT) (t u : DTS) : DTS := fun Dn Γ M => c Γ M (fun b M1 => if b = true then t Dn Γ M1 else u Dn Γ M1) Dn.ex
theorem ds_if {c : Expr} {p q : List Stmt} {tc : DTT} {t u : DTS} (hc : DT X W c tc) (ha : DSs X W p t) (hb : DSs X W q u) : DS X W (.If c p q pos) (dIfS tc t u) :=
  ⟨psW (ps_if hc.pt ha.ps hb.ps) fun E σ H ⟨Γ, M, F, Dn, a, h, k⟩ => ⟨Γ, M, F, _, _, a, h, fun F1 H1 b M1 s1 c1 q1 => by
    cases b with
    | true =>
      rw [if_pos rfl] at q1 ⊢
      exact ⟨Γ, M1, F1, Dn, a.next s1 c1, q1, k.mono s1⟩
    | false =>
      rw [if_neg Bool.false_ne_true] at q1 ⊢
      exact ⟨Γ, M1, F1, Dn, a.next s1 c1, q1, k.mono s1⟩⟩⟩
theorem ds_never : DS X W st (fun _ _ _ => False) := ⟨psW ps_never fun E σ H ⟨Γ, M, F, Dn, a, h, k⟩ => h⟩
theorem dss_never : DSs X W sts (fun _ _ _ => False) := ⟨pssW pss_never fun E σ H ⟨Γ, M, F, Dn, a, h, k⟩ => h⟩

/-! ### tests: the rest -/
def dAndW (t u : DTT) : DTT := dAnd t u
theorem dw_and1 {tA : DTT} (ha : DT X W a tA) : DW X W (.BoolOp .And [a] pos) tA := ⟨pw_and1 ha.pt⟩
theorem dw_or1 {tA : DTT} (ha : DT X W a tA) : DW X W (.BoolOp .Or [a] pos) tA := ⟨pw_or1 ha.pt⟩
theorem dw_and {rest : List Expr} {tA tB : DTT} (ha : DT X W a tA) (hb : DW X W (.BoolOp .And (b :: rest) pos) tB) : DW X W (.BoolOp .And (a :: b :: rest) pos) (dAnd tA tB) := ⟨pwW (pw_and ha.pt hb.pw) fun _ _ _ h => upAnd h⟩
theorem dw_or {rest : List Expr} {tA tB : DTT} (ha : DT X W a tA) (hb : DW X W (.BoolOp .Or (b :: rest) pos) tB) : DW X W (.BoolOp .Or (a :: b :: rest) pos) (dOr tA tB) := ⟨pwW (pw_or ha.pt hb.pw) fun _ _ _ h => upOr h⟩
theorem dw_pt {tA : DTT} (ha : DW X W e tA) : DT X W e tA := ⟨ha.pw.pt⟩
theorem dt_not {tA : DTT} (ha : DT X W a tA) : DT X W (.UnaryOp .Not a pos) (dNot tA) := ⟨ptW (pt_not ha.pt) fun _ _ _ h => upNot h⟩
/-- as values -/
def dAndV (ta tb : DTE) : DTE := fun Γ M Q E => ta Γ M (fun x M1 => ∃ c, x = .bl c ∧ if c = true then tb Γ M1 Q E else Q (.bl false) M1) E
def dOrV (ta tb : DTE) : DTE := fun Γ M Q E => ta Γ M (fun x M1 => ∃ c, x = .bl c ∧ if c = true then Q (.bl true) M1 else tb Γ M1 Q E) E
def dNotV (ta : DTE) : DTE := fun Γ M Q E => ta Γ M (fun x M1 => ∃ c, x = .bl c ∧ Q (.bl (!c)) M1) E
theorem de_one {op} {t : DTE} (h : DE X W a t) : DE X W (.BoolOp op [a] pos) t := ⟨pe_one h.pe⟩
theorem de_and {rest : List Expr} {ta tb : DTE} (ha : DE X W a ta) (hb : DE X W (.BoolOp .And (b :: rest) pos) tb) : DE X W (.BoolOp .And (a :: b :: rest) pos) (dAndV ta tb) :=
  ⟨peW (pe_and ha.pe hb.pe) fun σ H Q ⟨Γ, M, F, E, Qd, a, q, k⟩ => ⟨Γ, M, F, E, _, a, q, fun F1 H1 v d M1 s1 c1 r1 ⟨c, e1, q1⟩ => by
    subst e1
    cases r1
    refine ⟨c, rfl, ?_⟩
    cases c with
    | true =>
      rw [if_pos rfl] at q1 ⊢
      exact ⟨Γ, M1, F1, E, Qd, a.next s1 c1, q1, k.mono s1⟩
    | false =>
      rw [if_neg Bool.false_ne_true] at q1 ⊢
      exact k F1 H1 _ _ M1 s1 c1 (.bl false) q1⟩⟩
theorem de_or {rest : List Expr} {ta tb : DTE} (ha : DE X W a ta) (hb : DE X W (.BoolOp .Or (b :: rest) pos) tb) : DE X W (.BoolOp .Or (a :: b :: rest) pos) (dOrV ta tb) :=
  ⟨peW (pe_or ha.pe hb.pe) fun σ H Q ⟨Γ, M, F, E, Qd, a, q, k⟩ => ⟨Γ, M, F, E, _, a, q, fun F1 H1 v d M1 s1 c1 r1 ⟨c, e1, q1⟩ => by
    subst e1
    cases r1
    refine ⟨c, rfl, ?_⟩
    cases c with
    | true =>
      rw [if_pos rfl] at q1 ⊢
      exact k F1 H1 _ _ M1 s1 c1 (.bl true) q1
    | false =>
      rw [if_neg Bool.false_ne_true] at q1 ⊢
      exact ⟨Γ, M1, F1, E, Qd, a.next s1 c1, q1, k.mono s1⟩⟩⟩
theorem de_not {ta : DTE} (ha : DE X W a ta) : DE X W (.UnaryOp .Not a pos) (dNotV ta) :=
  ⟨peW (pe_not ha.pe) fun σ H Q ⟨Γ, M, F, E, Qd, a, q, k⟩ => ⟨Γ, M, F, E, _, a, q, fun F1 H1 v d M1 s1 c1 r1 ⟨c, e1, q1⟩ => by
    subst e1
    cases r1
    exact ⟨c, rfl, k F1 H1 _ _ M1 s1 c1 (.bl _) q1⟩⟩⟩
def dIf (t : DTT) (ta tb : DTE) : DTE := fun Γ M Q E => t Γ M (fun c M1 => if c = true then ta Γ M1 Q E else tb Γ M1 Q E) E
theorem de_if {c : Expr} {tA : DTT} {ta tb : DTE} (hc : DT X W c tA) (ha : DE X W a ta) (hb : DE X W b tb) : DE X W (.IfExp c a b pos) (dIf tA ta tb) :=
  ⟨peW (pe_ifExp hc.pt ha.pe hb.pe) fun σ H Q ⟨Γ, M, F, E, Qd, a, q, k⟩ => ⟨Γ, M, F, E, _, a, q, fun F1 H1 c M1 s1 c1 q1 => by
    cases c with
    | true =>
      rw [if_pos rfl] at q1 ⊢
      exact ⟨Γ, M1, F1, E, Qd, a.next s1 c1, q1, k.mono s1⟩
    | false =>
      rw [if_neg Bool.false_ne_true] at q1 ⊢
      exact ⟨Γ, M1, F1, E, Qd, a.next s1 c1, q1, k.mono s1⟩⟩⟩
/-- -a -/
def dUn (g : Int → Int) (ta : DTE) : DTE := fun Γ M Q E => ta Γ M (fun x M1 => ∃ i, x = .int i ∧ Q (.int (g i)) M1) E
theorem de_neg {ta : DTE} (ha : DE X W a ta) : DE X W (.UnaryOp .USub a pos) (dUn (fun i => -i) ta) :=
  ⟨peW (pe_un un_neg ha.pe) fun σ H Q ⟨Γ, M, F, E, Qd, a, q, k⟩ => ⟨Γ, M, F, E, _, a, q, fun F1 H1 v d M1 s1 c1 r1 ⟨i, e1, q1⟩ => by
    subst e1
    cases r1
    exact ⟨i, rfl, k F1 H1 _ _ M1 s1 c1 (.int _) q1⟩⟩⟩

/-! ### targets -/
abbrev DTG := D → DG → Mp → (DG → Mp → Prop) → Prop
abbrev DTGs := List D → DG → Mp → (DG → Mp → Prop) → Prop
/-- the slots beside vs stay (a comprehension's own names) -/
def upG (K : KTb) (vs : Option (List Nat)) (t : DTG) : TG := fun v σ H Q => ∃ (d : D) (Γ : DG) (M : Mp) (F : Hp) (Qd : DG → Mp → Prop), Cc K M F H ∧ RpG K F σ Γ ∧ Rp K F v d ∧ t d Γ M Qd ∧
  ∀ (F' H' : Hp) (σ' : St) (Γ' : DG) (M' : Mp), Same F F' → Cc K M' F' H' → RpG K F' σ' Γ' → (∀ l, vs = some l → wipe σ' l = wipe σ l) → Qd Γ' M' → Q σ' H'
def upGs (K : KTb) (vs : Option (List Nat)) (t : DTGs) : TGs := fun v σ H Q => ∃ (d : List D) (Γ : DG) (M : Mp) (F : Hp) (Qd : DG → Mp → Prop), Cc K M F H ∧ RpG K F σ Γ ∧ Rps K F v d ∧ t d Γ M Qd ∧
  ∀ (F' H' : Hp) (σ' : St) (Γ' : DG) (M' : Mp), Same F F' → Cc K M' F' H' → RpG K F' σ' Γ' → (∀ l, vs = some l → wipe σ' l = wipe σ l) → Qd Γ' M' → Q σ' H'
structure DGt (X : Cx) (T : List (Addr × Str)) (vs : Option (List Nat)) (tg : Expr) (t : DTG) : Prop where
  pg : PG X tg (upG ⟨X.K, T⟩ vs t)
structure DGts (X : Cx) (T : List (Addr × Str)) (vs : Option (List Nat)) (tg : List Expr) (t : DTGs) : Prop where
  pg : PGs X tg (upGs ⟨X.K, T⟩ vs t)
theorem pgW {t t' : TG} (p : PG X tg t) (h : ∀ v σ H Q, t' v σ H Q → t v σ H Q) : PG X tg t' := ⟨fun pins s σ H v u Q I r q => p.run pins s σ H v u Q I r (h v σ H Q q)⟩
theorem pgsW {t t' : TGs} (p : PGs X es t) (h : ∀ v σ H Q, t' v σ H Q → t v σ H Q) : PGs X es t' := ⟨fun pins s σ H v u Q I r q => p.run pins s σ H v u Q I r (h v σ H Q q)⟩
theorem wipe_set {i : Nat} {v : Option V} : ∀ {vs : List Nat} {σ : St}, i ∈ vs → wipe (σ.set i v) vs = wipe σ vs := by
  intro vs
  induction vs with
  | nil => intro σ h; cases h
  | cons j vs ih =>
    intro σ h
    show (wipe (σ.set i v) vs).set j none = (wipe σ vs).set j none
    by_cases hi : i ∈ vs
    · rw [ih hi]
    · have e : i = j := by
        rcases List.mem_cons.mp h with e | e
        · exact e
        · exact absurd e hi
      subst e
      have comm : ∀ (l : List Nat) (σ : St), i ∉ l → wipe (σ.set i v) l = (wipe σ l).set i v := by
        intro l
        induction l with
        | nil => intro σ _; rfl
        | cons k l ihl =>
          intro σ hk
          show (wipe (σ.set i v) l).set k none = ((wipe σ l).set k none).set i v
          rw [ihl σ fun z => hk (List.mem_cons_of_mem _ z)]
          exact List.set_comm _ _ fun z => hk (by rw [z]; exact List.mem_cons_self)
      rw [comm vs σ hi, List.set_set]
def gdName (i : Nat) : DTG := fun d Γ M Q => Q (Γ.set i (some d)) M
theorem dg_name {i : Nat} {x : Str} {T : List (Addr × Str)} {vs : Option (List Nat)} (hN : X.N.Nodup) (hi : X.N[i]? = some x) (hx : Loc X.env.scope x) (hv : ∀ l, vs = some l → i ∈ l) (hf : X.fn x = true ∨ X.env.scope.names.lookup x = some .local := by first | exact .inl rfl | exact .inr rfl | assumption) : DGt X T vs (.Name x pos) (gdName i) :=
  ⟨pgW (pg_name hN hi hx hf) fun v σ H Q ⟨d, Γ, M, F, Qd, c, g, r, q, k⟩ => k F H _ _ M (Same.refl _) c (g.set r i) (fun l e => wipe_set (hv l e)) q⟩
def gdNil : DTGs := fun ds Γ M Q => ds = [] ∧ Q Γ M
def gdCons (t : DTG) (u : DTGs) : DTGs := fun ds Γ M Q => ∃ d r, ds = d :: r ∧ t d Γ M (fun Γ1 M1 => u r Γ1 M1 Q)
theorem dgs_nil {T : List (Addr × Str)} {vs : Option (List Nat)} : DGts X T vs [] gdNil := ⟨pgsW pgs_nil fun v σ H Q ⟨d, Γ, M, F, Qd, c, g, r, ⟨e, q⟩, k⟩ => by
  subst e
  cases r
  exact ⟨rfl, k F H σ Γ M (Same.refl _) c g (fun _ _ => rfl) q⟩⟩
theorem dgs_cons {T : List (Addr × Str)} {vs : Option (List Nat)} {t : DTG} {u : DTGs} (h1 : DGt X T vs e t) (h2 : DGts X T vs es u) (hs : (assignEach (e :: es) X.env).map (·.2) = assign e X.env :: (assignEach es X.env).map (·.2) := by rfl) : DGts X T vs (e :: es) (gdCons t u) :=
  ⟨pgsW (pgs_cons h1.pg h2.pg hs) fun v σ H Q ⟨d, Γ, M, F, Qd, c, g, r, ⟨d0, dr, e1, q⟩, k⟩ => by
    subst e1
    cases r with
    | cons r1 r2 => exact ⟨_, _, rfl, d0, Γ, M, F, _, c, g, r1, q, fun F1 H1 σ1 Γ1 M1 s1 c1 g1 w1 q1 => ⟨dr, Γ1, M1, F1, Qd, c1, g1, r2.mono s1, q1, fun F2 H2 σ2 Γ2 M2 s2 c2 g2 w2 q2 =>
        k F2 H2 σ2 Γ2 M2 (s1.trans s2) c2 g2 (fun l e => (w2 l e).trans (w1 l e)) q2⟩⟩⟩
def gdTup (n : Nat) (t : DTGs) : DTG := fun d Γ M Q => ∃ ds, tpD d = some ds ∧ ds.length = n ∧ t ds Γ M Q
theorem dg_tup {k : Nat} {T : List (Addr × Str)} {vs : Option (List Nat)} {t : DTGs} {n : Nat} (hc : X.calm = true) (h : DGts X T vs es t) (hn : (assignEach es X.env).length = n := by rfl) (hst : (assignEach es X.env).findIdx? (·.1) = none := by rfl) : DGt X T vs (.Tuple es k pos) (gdTup n t) :=
  ⟨pgW (pg_tup hc h.pg hn hst) fun v σ H Q ⟨d, Γ, M, F, Qd, c, g, r, ⟨ds, e1, hl, q⟩, k⟩ => by
    rw [tpD_eq e1] at r
    obtain ⟨a, us, rfl, h1, r1⟩ := tp_of c r
    exact ⟨a, us, rfl, h1, by rw [r1.length]; exact hl, ds, Γ, M, F, Qd, c, g, r1, q, k⟩⟩
/-- target = value -/
def dAsg (te : DTE) (g : DTG) : DTS := fun Dn Γ M => te Γ M (fun d M1 => g d Γ M1 Dn.nx) Dn.ex
theorem upAsg {te : DTE} {g : DTG} {E : Ends} {σ : St} {H : Hp} (h : upS (kt X W) W.w (dAsg te g) E σ H) : tAsg (upE (kt X W) W.w te) (upG (kt X W) none g) E σ H := by
  obtain ⟨Γ, M, F, Dn, a, h, k⟩ := h
  exact ⟨Γ, M, F, _, _, a, h, fun F1 H1 v d M1 s1 c1 r1 q1 => ⟨d, Γ, M1, F1, Dn.nx, c1, a.g.mono s1, r1, q1, fun F2 H2 σ2 Γ2 M2 s2 c2 g2 _ q2 => k.nx F2 H2 σ2 Γ2 M2 (s1.trans s2) c2 g2 q2⟩⟩
theorem ds_asg {te : DTE} {g : DTG} (he : DE X W e te) (hg : DGt X W.T none tg g) (hs : swapsWithSole [tg] e pos.line X.env = pure false := by rfl) (hw : swappedStores [tg] e X.env = pure none := by rfl) (h1 : (assignEach [tg] X.env).map (·.2) = [assign tg X.env] := by rfl) : DS X W (.Assign [tg] e pos) (dAsg te g) :=
  ⟨psW (ps_asg he.pe hg.pg hs hw h1) fun _ _ _ h => upAsg h⟩
def dSet (te : DTE) (i : Nat) : DTS := fun Dn Γ M => te Γ M (fun d M1 => Dn.nx (Γ.set i (some d)) M1) Dn.ex
theorem ds_set (i : Nat) {x : Str} {te : DTE} {pos' : Pos} (hN : X.N.Nodup) (he : DE X W e te) (hi : X.N[i]? = some x := by rfl) (hx : Loc X.env.scope x := by first | exact Or.inl rfl | exact Or.inr rfl) (hs : swapsWith e (some (.Name x pos')) pos.line X.env = pure false := by rfl) (hf : X.fn x = true ∨ X.env.scope.names.lookup x = some .local := by first | exact .inl rfl | exact .inr rfl | assumption) :
    DS X W (.Assign [.Name x pos'] e pos) (dSet te i) :=
  ⟨psW (ps_set hN hi hx he.pe hs hf) fun E σ H ⟨Γ, M, F, Dn, a, h, k⟩ => ⟨Γ, M, F, _, _, a, h, fun F1 H1 v d M1 s1 c1 r1 q1 => k.nx F1 H1 _ _ M1 s1 c1 ((a.g.mono s1).set r1 i) q1⟩⟩
/-- a, b = x, y with two local names -/
def dPar (i j : Nat) (ta : DTA) : DTS := fun Dn Γ M => ta Γ M (fun ds M1 => ∃ d e, ds = [d, e] ∧ Dn.nx ((Γ.set i (some d)).set j (some e)) M1) Dn.ex
theorem ds_par {i j : Nat} {x y : Str} {ta : DTA} {px py pt : Pos} {kt k2 pt2} (hc : X.calm = true) (hN : X.N.Nodup) (hij : i ≠ j)
    (ha : DA X W [a, b] ta) (hi : X.N[i]? = some x := by rfl) (hj : X.N[j]? = some y := by rfl) (hx : X.env.scope.names.lookup x = some .local := by rfl) (hy : X.env.scope.names.lookup y = some .local := by rfl)
    (hw : swappedStores [.Tuple [.Name x px, .Name y py] kt pt] (.Tuple [a, b] k2 pt2) X.env = pure (some [x, y]) := by rfl)
    (hs : swapsWithSole [.Tuple [.Name x px, .Name y py] kt pt] (.Tuple [a, b] k2 pt2) pos.line X.env = pure false := by rfl) :
    DS X W (.Assign [.Tuple [.Name x px, .Name y py] kt pt] (.Tuple [a, b] k2 pt2) pos) (dPar i j ta) :=
  ⟨psW (ps_par hc hN hi hj hij hx hy ha.pa hw hs) fun E σ H ⟨Γ, M, F, Dn, a, h, k⟩ => ⟨Γ, M, F, _, _, a, h, fun F1 H1 vs ds M1 s1 c1 r1 ⟨d, e, e1, q1⟩ => by
    subst e1
    obtain ⟨v, w, rfl, rv, rw⟩ := rps2 r1
    exact ⟨v, w, rfl, k.nx F1 H1 _ _ M1 s1 c1 (((a.g.mono s1).set rv i).set rw j) q1⟩⟩⟩
/-- name op= value -/
def dAug (i : Nat) (te : DTE) (rd : D2) : DTS := fun Dn Γ M => ∃ x, Γ[i]? = some (some x) ∧ te Γ M (fun y M1 => rd x y M1 (fun z M2 => Dn.nx (Γ.set i (some z)) M2)) Dn.ex
theorem ds_aug {i : Nat} {x : Str} {te : DTE} {op : Operator} {ti : TIp} {rd : D2} {pos' : Pos} (hN : X.N.Nodup) (he : DE X W e te) (ho : PIp X op ti) (hr : Real2 (kt X W) ti rd) (hi : X.N[i]? = some x := by rfl) (hx : Loc X.env.scope x := by first | exact Or.inl rfl | exact Or.inr rfl) (hf : X.fn x = true ∨ X.env.scope.names.lookup x = some .local := by first | exact .inl rfl | exact .inr rfl | assumption) :
    DS X W (.AugAssign (.Name x pos') op e pos) (dAug i te rd) :=
  ⟨psW (ps_aug hN hi hx he.pe ho hf) fun E σ H ⟨Γ, M, F, Dn, a, ⟨d, e1, h⟩, k⟩ => by
    obtain ⟨v, e2, r⟩ := a.g.at_ i d e1
    exact ⟨v, e2, Γ, M, F, _, _, a, h, fun F1 H1 w e M1 s1 c1 r1 q1 => hr F1 H1 M1 v w d e _ _ c1 (r.mono s1) r1 q1 fun F2 H2 z f M2 s2 c2 r2 q2 => k.nx F2 H2 _ _ M2 (s1.trans s2) c2 ((a.g.mono (s1.trans s2)).set r2 i) q2⟩⟩

/-! ### loops -/
def dWhile (c : DTT) (tb : DTS) : DTS := fun Dn Γ M => ∃ Wv : Nat → DG → Mp → Prop, (∃ m, Wv m Γ M) ∧ ∀ m Γ2 M2, Wv m Γ2 M2 → c Γ2 M2 (fun b M3 => if b = true then
  tb { Dn with nx := fun Γ4 M4 => ∃ m', m' < m ∧ Wv m' Γ4 M4, ct := fun Γ4 M4 => ∃ m', m' < m ∧ Wv m' Γ4 M4, bk := Dn.nx } Γ2 M3 else Dn.nx Γ2 M3) Dn.ex
theorem ds_while {c : Expr} {body : List Stmt} {tc : DTT} {tb : DTS} (hp : PassesOwn (model X.prog X.w) X.A X.env X.xe) (hc : DT X W c tc) (hb : DSs X W body tb) : DS X W (.While c body [] pos) (dWhile tc tb) :=
  ⟨psW (ps_while hp hc.pt hb.ps) fun E σ H ⟨Γ, M, F, Dn, a, ⟨Wv, ⟨m0, w0⟩, turn⟩, k⟩ => by
    refine ⟨fun m σ2 H2 => ∃ Γ2 M2 F2, Same F F2 ∧ At (kt X W) W.w σ2 H2 Γ2 M2 F2 Dn.ex ∧ Wv m Γ2 M2, ⟨m0, Γ, M, F, Same.refl _, a, w0⟩, fun m σ2 H2 ⟨Γ2, M2, F2, s2, a2, w2⟩ => ?_⟩
    refine ⟨Γ2, M2, F2, _, _, a2, turn m Γ2 M2 w2, fun F3 H3 b M3 s3 c3 q3 => ?_⟩
    cases b with
    | false =>
      rw [if_neg Bool.false_ne_true] at q3 ⊢
      exact k.nx F3 H3 _ _ M3 (s2.trans s3) c3 (a2.g.mono s3) q3
    | true =>
      rw [if_pos rfl] at q3 ⊢
      refine ⟨fun σ4 H4 => ∃ m', m' < m ∧ ∃ Γ2 M2 F2, Same F F2 ∧ At (kt X W) W.w σ4 H4 Γ2 M2 F2 Dn.ex ∧ Wv m' Γ2 M2, fun σ4 H4 q => q, Γ2, M3, F3, { Dn with nx := fun Γ4 M4 => ∃ m', m' < m ∧ Wv m' Γ4 M4, ct := fun Γ4 M4 => ∃ m', m' < m ∧ Wv m' Γ4 M4, bk := Dn.nx }, a2.next s3 c3, q3, ?_⟩
      have k3 := k.mono (s2.trans s3)
      have nx : CoS (kt X W) F3 (fun Γ4 M4 => ∃ m', m' < m ∧ Wv m' Γ4 M4) (fun σ4 H4 => ∃ m', m' < m ∧ ∃ Γ2 M2 F2, Same F F2 ∧ At (kt X W) W.w σ4 H4 Γ2 M2 F2 Dn.ex ∧ Wv m' Γ2 M2) := fun F4 H4 σ4 Γ4 M4 s4 c4 g4 ⟨m', hm, w4⟩ =>
        ⟨m', hm, Γ4, M4, F4, (s2.trans s3).trans s4, ⟨c4, g4, a2.w.mono (s3.trans s4)⟩, w4⟩
      exact ⟨nx, k3.rt, k3.nx, nx⟩⟩
def dFor (ti : DTI) (g : DTG) (tb : DTS) : DTS := fun Dn Γ M => ti Γ M (fun it M1 => ∃ Wv : Nat → DG → Mp → Prop, Wv 0 Γ M1 ∧ ∀ i Γ2 M2, i ≤ it.seq.length → Wv i Γ2 M2 → it.ok M2 ∧
  (∀ d, it.seq[i]? = some d → g d Γ2 M2 (fun Γ3 M3 => tb { Dn with nx := Wv (i + 1), ct := Wv (i + 1), bk := Dn.nx } Γ3 M3)) ∧ (i = it.seq.length → Dn.nx Γ2 M2)) Dn.ex
theorem ds_for {iter : Expr} {body : List Stmt} {ti : DTI} {g : DTG} {tb : DTS} (hp : PassesOwn (model X.prog X.w) X.A X.env X.xe) (hc : X.calm = true) (hi : DI X W tg iter ti) (hg : DGt X W.T none tg g) (hb : DSs X W body tb) (hs : ∀ x, foldedSetIterable iter X.env x = pure x := by intro _; rfl) :
    DS X W (.For tg iter body [] pos) (dFor ti g tb) :=
  ⟨psW (ps_for hp hc hi.pi hg.pg hb.ps hs) fun E σ H ⟨Γ, M, F, Dn, a, h, k⟩ => ⟨Γ, M, F, Dn.ex, _, a, h, fun F1 H1 J it M1 s1 c1 ⟨hz, rj⟩ ⟨Wv, w0, turn⟩ => by
    refine ⟨fun i m σ2 H2 => m = it.seq.length - i ∧ i ≤ it.seq.length ∧ ∃ Γ2 M2 F2, Same F1 F2 ∧ At (kt X W) W.w σ2 H2 Γ2 M2 F2 Dn.ex ∧ Wv i Γ2 M2, ⟨_, rfl, Nat.zero_le _, Γ, M1, F1, Same.refl _, a.next s1 c1, w0⟩, ?_⟩
    rintro i m σ2 H2 ⟨rfl, hi, Γ2, M2, F2, s2, a2, w2⟩
    obtain ⟨ok, t1, t2⟩ := turn i Γ2 M2 hi w2
    obtain ⟨j1, j2⟩ := rj F2 H2 M2 i s2 a2.c ok
    by_cases hlt : i < it.seq.length
    · obtain ⟨go, yl⟩ := j1 _ (List.getElem?_eq_getElem hlt)
      refine .inr ⟨go, fun σ4 H4 => ∃ Γ4 M4 F4, Same F1 F4 ∧ At (kt X W) W.w σ4 H4 Γ4 M4 F4 Dn.ex ∧ Wv (i + 1) Γ4 M4, fun σ4 H4 q => ⟨_, by omega, rfl, hlt, q⟩, fun x H' y => ?_⟩
      obtain ⟨F3, s3, c3, r3⟩ := yl x H' y
      refine ⟨_, Γ2, M2, F3, _, c3, a2.g.mono s3, r3, t1 _ (List.getElem?_eq_getElem hlt), fun F4 H4 σ4 Γ4 M4 s4 c4 g4 _ q4 => ?_⟩
      have k4 := k.mono (((s1.trans s2).trans s3).trans s4)
      have nx : CoS (kt X W) F4 (Wv (i + 1)) (fun σ4 H4 => ∃ Γ4 M4 F4, Same F1 F4 ∧ At (kt X W) W.w σ4 H4 Γ4 M4 F4 Dn.ex ∧ Wv (i + 1) Γ4 M4) := fun F5 H5 σ5 Γ5 M5 s5 c5 g5 w5 =>
        ⟨Γ5, M5, F5, ((s2.trans s3).trans s4).trans s5, ⟨c5, g5, a2.w.mono ((s3.trans s4).trans s5)⟩, w5⟩
      exact ⟨Γ4, M4, F4, { Dn with nx := Wv (i + 1), ct := Wv (i + 1), bk := Dn.nx }, ⟨c4, g4, a2.w.mono (s3.trans s4)⟩, q4, ⟨nx, k4.rt, k4.nx, nx⟩⟩
    · have e : i = it.seq.length := by omega
      exact .inl ⟨j2 (by omega), k.nx F2 H2 _ _ M2 (s1.trans s2) a2.c a2.g (t2 e)⟩⟩⟩

/-! ### comprehensions -/
def dwipe (Γ : DG) : List Nat → DG
  | [] => Γ
  | v :: vs => (dwipe Γ vs).set v none
theorem RpG.wipe {K : KTb} {F : Hp} {σ : St} {Γ : DG} (g : RpG K F σ Γ) : ∀ vs : List Nat, RpG K F (wipe σ vs) (dwipe Γ vs)
  | [] => g
  | v :: vs => (g.wipe vs).unset v
/-- M with more cells -/
def Ext (M M' : Mp) : Prop := ∀ a c, M a = some c → M' a = some c
theorem Ext.refl (M : Mp) : Ext M M := fun _ _ h => h
abbrev noW : WX := fun _ _ _ _ => False
abbrev noT (T : List (Addr × Str)) : WT := ⟨T, noW⟩
abbrev noE : DXE := fun _ _ _ _ => False
structure DTs (X : Cx) (W : WT) (ifs : List Expr) (t : DTT) : Prop where
  pt : PTs X ifs (upT (kt X W) W.w t)
theorem ptsW {ifs : List Expr} {t t' : TT} (p : PTs X ifs t) (h : ∀ σ H Q, t' σ H Q → t σ H Q) : PTs X ifs t' := ⟨fun pins s σ H Q I q => p.run pins s σ H Q I (h σ H Q q)⟩
def dYes : DTT := fun _ M Q _ => Q true M
theorem dts_nil : DTs X W [] dYes := ⟨ptsW pts_nil fun σ H Q ⟨Γ, M, F, E, Qd, a, q, k⟩ => k F H _ M (Same.refl _) a.c q⟩
theorem dts_one {t : DTT} (h : DT X W e t) : DTs X W [e] t := ⟨pts_one h.pt⟩
/-- the block's reading: each item gives P d (some y) or P d none, no cell is changed -/
def dLcBody (g : DTG) (tt : DTT) (te : DTE) (vs : List Nat) (Γ : DG) (M1 : Mp) (it : DIt) (P : D → Option D → Prop) : Prop := (∀ M', Ext M1 M' → it.ok M') ∧
  ∀ d, d ∈ it.seq → ∀ M', Ext M1 M' → g d (dwipe Γ vs) M' (fun Γ2 M3 => tt Γ2 M3 (fun b M4 => if b = true then te Γ2 M4 (fun y M5 => M5 = M' ∧ P d (some y)) noE else M4 = M' ∧ P d none) noE)
/-- all ways: os the elements' results -/
inductive All2 {α β : Type} (P : α → β → Prop) : List α → List β → Prop
  | nil : All2 P [] []
  | cons {a : α} {b : β} {as : List α} {bs : List β} : P a b → All2 P as bs → All2 P (a :: as) (b :: bs)
theorem All2.snoc {α β : Type} {P : α → β → Prop} {as : List α} {bs : List β} {a : α} {b : β} (h : All2 P as bs) (p : P a b) : All2 P (as ++ [a]) (bs ++ [b]) := by
  induction h with
  | nil => exact .cons p .nil
  | cons q _ ih => exact .cons q ih
theorem All2.length {α β : Type} {P : α → β → Prop} {as : List α} {bs : List β} (h : All2 P as bs) : as.length = bs.length := by
  induction h with
  | nil => rfl
  | cons _ _ ih => exact congrArg (· + 1) ih
def dLcN (ti : DTI) (g : DTG) (tt : DTT) (te : DTE) (vs : List Nat) : DTE := fun Γ M Q E => ti Γ M (fun it M1 => ∃ P : D → Option D → Prop, dLcBody g tt te vs Γ M1 it P ∧ ∀ os, All2 P it.seq os → Q (.lst (os.filterMap id)) M1) E
def dLcNO (ti : DTI) (g : DTG) (tt : DTT) (te : DTE) (vs : List Nat) : DTE := fun Γ M Q E => ti Γ M (fun it M1 => ∃ P : D → Option D → Prop, dLcBody g tt te vs Γ M1 it P ∧ ∀ os, All2 P it.seq os → ∀ p, M1 p = none → Q (.ref p) (mup M1 p (.lst (os.filterMap id)))) E
/-- one way -/
def dLcF (ti : DTI) (g : DTG) (tt : DTT) (te : DTE) (vs : List Nat) : DTE := fun Γ M Q E => ti Γ M (fun it M1 => ∃ f : D → Option D, dLcBody g tt te vs Γ M1 it (fun d o => o = f d) ∧ Q (.lst (it.seq.filterMap f)) M1) E
def dLcFO (ti : DTI) (g : DTG) (tt : DTT) (te : DTE) (vs : List Nat) : DTE := fun Γ M Q E => ti Γ M (fun it M1 => ∃ f : D → Option D, dLcBody g tt te vs Γ M1 it (fun d o => o = f d) ∧ ∀ p, M1 p = none → Q (.ref p) (mup M1 p (.lst (it.seq.filterMap f)))) E
theorem upLcX {ti : DTI} {g : DTG} {tt : DTT} {te : DTE} {vs : List Nat} {σ : St} {H : Hp} {Q : VK} {Γ : DG} {M F : _} {E : DXE} {Qf : List (Option D) → Mp → Addr → Prop} {Cn : DIt → Mp → Prop} (a : At (kt X W) W.w σ H Γ M F E)
    (h : ti Γ M Cn E) (hC : ∀ it M1, Cn it M1 → ∃ P : D → Option D → Prop, dLcBody g tt te vs Γ M1 it P ∧ ∀ os, All2 P it.seq os → ∀ p, M1 p = none → Qf os M1 p)
    (k : ∀ (F' H' : Hp) (os : List (Option D)) (M' : Mp) (p : Addr) (us : List V), Same F F' → Cc (kt X W) M' F' H' → F' p = none → M' p = none → H' p = some (.lst us) → Rps (kt X W) F' us (os.filterMap id) → Qf os M' p → Q (.ref p) H') :
    tLc (upI (kt X W) W.w ti) (upG (kt X W) (some vs) g) (upT (kt X W) noW tt) (upE (kt X W) noW te) vs σ H Q := by
  refine ⟨Γ, M, F, E, _, a, h, fun F1 H1 J it M1 s1 c1 ⟨hz, rj⟩ hc0 Dd hD => ?_⟩
  obtain ⟨P, ⟨okx, body⟩, q⟩ := hC it M1 hc0
  have m1 : M1 Dd = none := c1.Mnone hD
  -- the cells and the new list
  refine ⟨fun i m H2 => m = it.seq.length - i ∧ i ≤ it.seq.length ∧ ∃ F2 os us, Same F1 F2 ∧ All2 P (it.seq.take i) os ∧ Cc (kt X W) (mup M1 Dd (.lst (os.filterMap id))) F2 H2 ∧ H2 Dd = some (.lst us) ∧ us.length ≤ i ∧ Rps (kt X W) F2 us (os.filterMap id),
    ⟨_, rfl, Nat.zero_le _, F1, [], [], Same.refl _, .nil, c1.newM (x := .lst []) hD ⟨[], rfl, .nil⟩, upd_same, Nat.zero_le _, .nil⟩, ?_⟩
  rintro i m H2 ⟨rfl, hi, F2, os, us, s2, ho, c2, e2, hl, r2⟩
  have ext : Ext M1 (mup M1 Dd (.lst (os.filterMap id))) := fun b c hb => by
    rw [mup_ne fun z => by rw [z, m1] at hb; cases hb]
    exact hb
  obtain ⟨j1, j2⟩ := rj F2 H2 _ i s2 c2 (okx _ ext)
  by_cases hlt : i < it.seq.length
  · have hget : it.seq[i]? = some it.seq[i] := List.getElem?_eq_getElem hlt
    have ht : it.seq.take (i + 1) = it.seq.take i ++ [it.seq[i]] := by rw [List.take_add_one, hget]; rfl
    obtain ⟨go, yl⟩ := j1 _ hget
    refine .inr ⟨go, fun H4 => i + 1 ≤ it.seq.length ∧ ∃ F4 os us, Same F1 F4 ∧ All2 P (it.seq.take (i + 1)) os ∧ Cc (kt X W) (mup M1 Dd (.lst (os.filterMap id))) F4 H4 ∧ H4 Dd = some (.lst us) ∧ us.length ≤ i + 1 ∧ Rps (kt X W) F4 us (os.filterMap id),
      fun H4 qq => ⟨_, by omega, rfl, qq⟩, fun x H' y => ?_⟩
    obtain ⟨F3, s3, c3, r3⟩ := yl x H' y
    refine ⟨_, dwipe Γ vs, _, F3, _, c3, (a.g.mono ((s1.trans s2).trans s3)).wipe vs, r3, body _ (List.getElem_mem hlt) _ ext, fun F4 H4 σ4 Γ4 M4 s4 c4 g4 w4 q4 => ⟨?_, ?_⟩⟩
    · have z := w4 vs rfl
      rw [z]
      have wid : ∀ (l l2 : List Nat) (σ : St), (∀ j ∈ l, j ∈ l2) → wipe (wipe σ l2) l = wipe σ l2 := by
        intro l
        induction l with
        | nil => intro l2 σ _; rfl
        | cons j l ih =>
          intro l2 σ hj
          show (wipe (wipe σ l2) l).set j none = _
          rw [ih l2 σ fun j' hj' => hj j' (List.mem_cons_of_mem _ hj')]
          have hin : j ∈ l2 := hj j List.mem_cons_self
          have key : ∀ (l2 : List Nat) (σ : St), j ∈ l2 → (wipe σ l2).set j none = wipe σ l2 := by
            intro l2
            induction l2 with
            | nil => intro σ h; cases h
            | cons q l2 ih2 =>
              intro σ h
              show ((wipe σ l2).set q none).set j none = (wipe σ l2).set q none
              by_cases hq : q = j
              · subst hq
                rw [List.set_set]
              · have hm : j ∈ l2 := by
                  rcases List.mem_cons.mp h with e | e
                  · exact absurd e.symm hq
                  · exact e
                rw [List.set_comm _ _ hq, ih2 σ hm]
          exact key l2 σ hin
      exact wid vs vs σ fun _ hh => hh
    · refine ⟨Γ4, M4, F4, noE, _, ⟨c4, g4, fun _ _ _ _ _ _ _ _ _ _ _ _ _ _ z => z⟩, q4, fun F5 H5 b M5 s5 c5 q5 => ?_⟩
      have s15 := ((s2.trans s3).trans s4).trans s5
      cases b with
      | false =>
        rw [if_neg Bool.false_ne_true] at q5
        refine iteF ?_
        obtain ⟨e5, p5⟩ := q5
        subst e5
        obtain ⟨f5, o5, e6, us5, e7, r5⟩ := c5.ow Dd _ mup_same
        subst e7
        refine ⟨hlt, F5, os ++ [none], us5, s15, by rw [ht]; exact ho.snoc p5, ?_, e6, by rw [r5.length, ← r2.length]; omega, ?_⟩
        · rw [List.filterMap_append]
          simpa using c5
        · rw [List.filterMap_append]
          simpa using r5
      | true =>
        rw [if_pos rfl] at q5
        refine iteT ?_
        refine ⟨Γ4, M5, F5, noE, _, ⟨c5, g4.mono s5, fun _ _ _ _ _ _ _ _ _ _ _ _ _ _ z => z⟩, q5, fun F6 H6 v d M6 s6 c6 r6 ⟨e6, p6⟩ => ?_⟩
        subst e6
        obtain ⟨f7, o7, e7, us7, e8, r7⟩ := c6.ow Dd _ mup_same
        subst e8
        have hus : us7.length ≤ i := by rw [r7.length, ← r2.length]; exact hl
        refine ⟨us7, e7, by omega, hlt, F6, os ++ [some d], us7 ++ [v], s15.trans s6, by rw [ht]; exact ho.snoc p6, ?_, upd_same, by rw [List.length_append, List.length_singleton]; omega, ?_⟩
        · rw [List.filterMap_append]
          have c8 := c6.write (p := Dd) (x := .lst (os.filterMap id ++ [d])) (o := .lst (us7 ++ [v])) mup_same ⟨_, rfl, r7.append (.cons r6 .nil)⟩
          rw [mup_mup] at c8
          simpa using c8
        · rw [List.filterMap_append]
          simpa using r7.append (.cons r6 .nil)
  · have e : i = it.seq.length := by omega
    refine .inl ⟨j2 (by omega), ?_⟩
    rw [e, List.take_length] at ho
    have cl : Cc (kt X W) M1 F2 H2 := c2.less fun b u hb => by
      rw [mup_ne fun z => by rw [z, m1] at hb; cases hb]
      exact hb
    exact k F2 H2 os M1 Dd us (s1.trans s2) cl (c2.ow Dd _ mup_same).1 m1 e2 r2 (q os ho Dd m1)
theorem ownNew {K : KTb} {M : Mp} {F H : Hp} {p : Addr} {us : List V} {ds : List D} (c : Cc K M F H) (fp : F p = none) (mp : M p = none) (hp : H p = some (.lst us)) (r : Rps K F us ds) : Cc K (mup M p (.lst ds)) F H :=
  ⟨c.tb, c.fk, c.fr, fun b u e => by
    by_cases hb : b = p
    · subst hb
      rw [mup_same] at e
      cases e
      exact ⟨fp, _, hp, us, rfl, r⟩
    · rw [mup_ne hb] at e
      exact c.ow _ _ e⟩
theorem freezeNew {K : KTb} {M : Mp} {F H : Hp} {p : Addr} {us : List V} {ds : List D} (c : Cc K M F H) (fp : F p = none) (mp : M p = none) (hp : H p = some (.lst us)) (r : Rps K F us ds) : ∃ F', Same F F' ∧ Cc K M F' H ∧ Rp K F' (.ref p) (.lst ds) := by
  obtain ⟨F', s, c2, r2⟩ := (ownNew c fp mp hp r).freeze mup_same
  rw [mdel_mup mp] at c2
  exact ⟨F', s, c2, r2⟩
theorem all2_fun {f : D → Option D} : ∀ {xs : List D} {os : List (Option D)}, All2 (fun d o => o = f d) xs os → os.filterMap id = xs.filterMap f
  | _, _, .nil => rfl
  | _, _, .cons (a := a) h t => by
    subst h
    have ih := all2_fun t
    cases e : f a <;> simp [e, ih]
theorem upLcN {ti : DTI} {g : DTG} {tt : DTT} {te : DTE} {vs : List Nat} {σ : St} {H : Hp} {Q : VK} (h : upE (kt X W) W.w (dLcN ti g tt te vs) σ H Q) : tLc (upI (kt X W) W.w ti) (upG (kt X W) (some vs) g) (upT (kt X W) noW tt) (upE (kt X W) noW te) vs σ H Q := by
  obtain ⟨Γ, M, F, E, Qd, a, q, k⟩ := h
  refine upLcX (Qf := fun os M1 p => Qd (.lst (os.filterMap id)) M1) a q (fun it M1 ⟨P, b, hq⟩ => ⟨P, b, fun os ho _ _ => hq os ho⟩) fun F' H' os M' p us s c fp mp hp r qq => ?_
  obtain ⟨F2, s2, c2, r2⟩ := freezeNew c fp mp hp r
  exact k F2 H' _ _ M' (s.trans s2) c2 r2 qq
theorem upLcNO {ti : DTI} {g : DTG} {tt : DTT} {te : DTE} {vs : List Nat} {σ : St} {H : Hp} {Q : VK} (h : upE (kt X W) W.w (dLcNO ti g tt te vs) σ H Q) : tLc (upI (kt X W) W.w ti) (upG (kt X W) (some vs) g) (upT (kt X W) noW tt) (upE (kt X W) noW te) vs σ H Q := by
  obtain ⟨Γ, M, F, E, Qd, a, q, k⟩ := h
  refine upLcX (Qf := fun os M1 p => Qd (.ref p) (mup M1 p (.lst (os.filterMap id)))) a q (fun it M1 ⟨P, b, hq⟩ => ⟨P, b, fun os ho p hp => hq os ho p hp⟩) fun F' H' os M' p us s c fp mp hp r qq => ?_
  exact k F' H' _ _ _ s (ownNew c fp mp hp r) (.ref p) qq
theorem upLcF {ti : DTI} {g : DTG} {tt : DTT} {te : DTE} {vs : List Nat} {σ : St} {H : Hp} {Q : VK} (h : upE (kt X W) W.w (dLcF ti g tt te vs) σ H Q) : tLc (upI (kt X W) W.w ti) (upG (kt X W) (some vs) g) (upT (kt X W) noW tt) (upE (kt X W) noW te) vs σ H Q := by
  obtain ⟨Γ, M, F, E, Qd, a, q, k⟩ := h
  refine upLcX (Qf := fun os M1 p => Qd (.lst (os.filterMap id)) M1) a q (fun it M1 ⟨f, b, hq⟩ => ⟨_, b, fun os ho _ _ => by rw [all2_fun ho]; exact hq⟩) fun F' H' os M' p us s c fp mp hp r qq => ?_
  obtain ⟨F2, s2, c2, r2⟩ := freezeNew c fp mp hp r
  exact k F2 H' _ _ M' (s.trans s2) c2 r2 qq
theorem upLcFO {ti : DTI} {g : DTG} {tt : DTT} {te : DTE} {vs : List Nat} {σ : St} {H : Hp} {Q : VK} (h : upE (kt X W) W.w (dLcFO ti g tt te vs) σ H Q) : tLc (upI (kt X W) W.w ti) (upG (kt X W) (some vs) g) (upT (kt X W) noW tt) (upE (kt X W) noW te) vs σ H Q := by
  obtain ⟨Γ, M, F, E, Qd, a, q, k⟩ := h
  refine upLcX (Qf := fun os M1 p => Qd (.ref p) (mup M1 p (.lst (os.filterMap id)))) a q (fun it M1 ⟨f, b, hq⟩ => ⟨_, b, fun os ho p hp => by rw [all2_fun ho]; exact hq p hp⟩) fun F' H' os M' p us s c fp mp hp r qq => ?_
  exact k F' H' _ _ _ s (ownNew c fp mp hp r) (.ref p) qq
/-- the parts of a comprehension: its walk, target, tests, element, within the block -/
structure LcOk (X : Cx) (W : WT) (elt tg iter : Expr) (ifs : List Expr) (scope : Scope) (own : List (Str × Nat)) (ti : DTI) (g : DTG) (tt : DTT) (te : DTE) : Prop where
  hc : X.calm = true
  hN : X.N.Nodup
  hi : DI X W tg iter ti
  ok : BlkOk X.N X.env.scope scope own
  hg : ∀ (s : Shared) (H : Hp) (C : Addr) (cl : List (Str × Addr)) (fp : List Addr), DGt (X.blk s H scope (compEnvC scope cl C X.env) fp) W.T (some (own.map (·.2))) tg g
  ht : ∀ (s : Shared) (H : Hp) (C : Addr) (cl : List (Str × Addr)) (fp : List Addr), DTs (X.blk s H scope (compEnvC scope cl C X.env) fp) (noT W.T) ifs tt
  he : ∀ (s : Shared) (H : Hp) (C : Addr) (cl : List (Str × Addr)) (fp : List Addr), DE (X.blk s H scope (compEnvC scope cl C X.env) fp) (noT W.T) elt te
section
variable {elt iter : Expr} {ifs : List Expr} {scope : Scope} {own : List (Str × Nat)} {ti : DTI} {g : DTG} {tt : DTT} {te : DTE}
theorem de_lcG {t : DTE} (L : LcOk X W elt tg iter ifs scope own ti g tt te) (h : ∀ σ H Q, upE (kt X W) W.w t σ H Q → tLc (upI (kt X W) W.w ti) (upG (kt X W) (some (own.map (·.2))) g) (upT (kt X W) noW tt) (upE (kt X W) noW te) (own.map (·.2)) σ H Q) (hs : ∀ x, foldedSetIterable iter X.env x = pure x := by intro _; rfl) :
    DE X W (.ListComp elt [⟨tg, iter, ifs, 0⟩] scope pos) t :=
  ⟨peW (pe_lc L.hc L.hN L.hi.pi L.ok (fun s H C cl fp => (L.hg s H C cl fp).pg) (fun s H C cl fp => (L.ht s H C cl fp).pt) (fun s H C cl fp => (L.he s H C cl fp).pe) hs) h⟩
theorem de_lcN (L : LcOk X W elt tg iter ifs scope own ti g tt te) (hs : ∀ x, foldedSetIterable iter X.env x = pure x := by intro _; rfl) : DE X W (.ListComp elt [⟨tg, iter, ifs, 0⟩] scope pos) (dLcN ti g tt te (own.map (·.2))) := de_lcG L (fun _ _ _ h => upLcN h) hs
theorem de_lcNO (L : LcOk X W elt tg iter ifs scope own ti g tt te) (hs : ∀ x, foldedSetIterable iter X.env x = pure x := by intro _; rfl) : DE X W (.ListComp elt [⟨tg, iter, ifs, 0⟩] scope pos) (dLcNO ti g tt te (own.map (·.2))) := de_lcG L (fun _ _ _ h => upLcNO h) hs
theorem de_lcF (L : LcOk X W elt tg iter ifs scope own ti g tt te) (hs : ∀ x, foldedSetIterable iter X.env x = pure x := by intro _; rfl) : DE X W (.ListComp elt [⟨tg, iter, ifs, 0⟩] scope pos) (dLcF ti g tt te (own.map (·.2))) := de_lcG L (fun _ _ _ h => upLcF h) hs
theorem de_lcFO (L : LcOk X W elt tg iter ifs scope own ti g tt te) (hs : ∀ x, foldedSetIterable iter X.env x = pure x := by intro _; rfl) : DE X W (.ListComp elt [⟨tg, iter, ifs, 0⟩] scope pos) (dLcFO ti g tt te (own.map (·.2))) := de_lcG L (fun _ _ _ h => upLcFO h) hs
/-- name = [..], the name a local, on one line -/
theorem ds_setLcG {i : Nat} {y : Str} {py pos2 : Pos} {t : DTE} (L : LcOk X W elt tg iter ifs scope own ti g tt te) (h : ∀ σ H Q, upE (kt X W) W.w t σ H Q → tLc (upI (kt X W) W.w ti) (upG (kt X W) (some (own.map (·.2))) g) (upT (kt X W) noW tt) (upE (kt X W) noW te) (own.map (·.2)) σ H Q)
    (hy : X.N[i]? = some y) (hyl : X.env.scope.names.lookup y = some .local) (hsw : swapsWith (.ListComp elt [⟨tg, iter, ifs, 0⟩] scope pos) (some (.Name y py)) pos2.line X.env = pure true) (hs : ∀ x, foldedSetIterable iter X.env x = pure x := by intro _; rfl) :
    DS X W (.Assign [.Name y py] (.ListComp elt [⟨tg, iter, ifs, 0⟩] scope pos) pos2) (dSet t i) :=
  ⟨psW (ps_setLc L.hc L.hN hy hyl hsw L.hi.pi L.ok (fun s H C cl fp => (L.hg s H C cl fp).pg) (fun s H C cl fp => (L.ht s H C cl fp).pt) (fun s H C cl fp => (L.he s H C cl fp).pe) hs) fun E σ H ⟨Γ, M, F, Dn, a, q, k⟩ =>
    h σ H _ ⟨Γ, M, F, _, _, a, q, fun F1 H1 v d M1 s1 c1 r1 q1 => k.nx F1 H1 _ _ M1 s1 c1 ((a.g.mono s1).set r1 i) q1⟩⟩
theorem ds_setLcN (i : Nat) {y : Str} {py pos2 : Pos} (L : LcOk X W elt tg iter ifs scope own ti g tt te) (hsw : swapsWith (.ListComp elt [⟨tg, iter, ifs, 0⟩] scope pos) (some (.Name y py)) pos2.line X.env = pure true) (hy : X.N[i]? = some y := by rfl) (hyl : X.env.scope.names.lookup y = some .local := by rfl) (hs : ∀ x, foldedSetIterable iter X.env x = pure x := by intro _; rfl) : DS X W (.Assign [.Name y py] (.ListComp elt [⟨tg, iter, ifs, 0⟩] scope pos) pos2) (dSet (dLcN ti g tt te (own.map (·.2))) i) := ds_setLcG L (fun _ _ _ h => upLcN h) hy hyl hsw hs
theorem ds_setLcNO (i : Nat) {y : Str} {py pos2 : Pos} (L : LcOk X W elt tg iter ifs scope own ti g tt te) (hsw : swapsWith (.ListComp elt [⟨tg, iter, ifs, 0⟩] scope pos) (some (.Name y py)) pos2.line X.env = pure true) (hy : X.N[i]? = some y := by rfl) (hyl : X.env.scope.names.lookup y = some .local := by rfl) (hs : ∀ x, foldedSetIterable iter X.env x = pure x := by intro _; rfl) : DS X W (.Assign [.Name y py] (.ListComp elt [⟨tg, iter, ifs, 0⟩] scope pos) pos2) (dSet (dLcNO ti g tt te (own.map (·.2))) i) := ds_setLcG L (fun _ _ _ h => upLcNO h) hy hyl hsw hs
theorem ds_setLcF (i : Nat) {y : Str} {py pos2 : Pos} (L : LcOk X W elt tg iter ifs scope own ti g tt te) (hsw : swapsWith (.ListComp elt [⟨tg, iter, ifs, 0⟩] scope pos) (some (.Name y py)) pos2.line X.env = pure true) (hy : X.N[i]? = some y := by rfl) (hyl : X.env.scope.names.lookup y = some .local := by rfl) (hs : ∀ x, foldedSetIterable iter X.env x = pure x := by intro _; rfl) : DS X W (.Assign [.Name y py] (.ListComp elt [⟨tg, iter, ifs, 0⟩] scope pos) pos2) (dSet (dLcF ti g tt te (own.map (·.2))) i) := ds_setLcG L (fun _ _ _ h => upLcF h) hy hyl hsw hs
theorem ds_setLcFO (i : Nat) {y : Str} {py pos2 : Pos} (L : LcOk X W elt tg iter ifs scope own ti g tt te) (hsw : swapsWith (.ListComp elt [⟨tg, iter, ifs, 0⟩] scope pos) (some (.Name y py)) pos2.line X.env = pure true) (hy : X.N[i]? = some y := by rfl) (hyl : X.env.scope.names.lookup y = some .local := by rfl) (hs : ∀ x, foldedSetIterable iter X.env x = pure x := by intro _; rfl) : DS X W (.Assign [.Name y py] (.ListComp elt [⟨tg, iter, ifs, 0⟩] scope pos) pos2) (dSet (dLcFO ti g tt te (own.map (·.2))) i) := ds_setLcG L (fun _ _ _ h => upLcFO h) hy hyl hsw hs
end
end
end DL

namespace DL
open PySem L2

/-! ### a def's promise by data -/
abbrev DXK := Addr → List (Str × D) → Mp → Prop
abbrev DSp := List D → Mp → DQ → DXK → Prop
def CoX (K : KTb) (F : Hp) (Ed : DXK) (E : XK) : Prop := ∀ (F' H' : Hp) (C d : Addr) (us : List (Str × V)) (fs : List (Str × D)) (M' : Mp), Same F F' → Cc K M' F' H' → H' d = some (.xd us) → RpF K F' us fs → Ed C fs M' → E (.ref C) (some d) H'
theorem CoX.mono {K : KTb} {F F1 : Hp} {Ed : DXK} {E : XK} (w : CoX K F Ed E) (s : Same F F1) : CoX K F1 Ed E := fun F' H' C d us fs M s1 => w F' H' C d us fs M (s.trans s1)
def spUp (K : KTb) (sp : DSp) : Sp := fun vs H Q E => ∃ (ds : List D) (M : Mp) (F : Hp) (Qd : DQ) (Ed : DXK), Cc K M F H ∧ Rps K F vs ds ∧ sp ds M Qd Ed ∧ CoQ K F Qd Q ∧ CoX K F Ed E
/-- a value handed back may be frozen, cells may be let go -/
def Fin (K : KTb) (Qd : DQ) : DQ := fun d M => ∀ (F H : Hp) (v : V), Cc K M F H → Rp K F v d → ∃ (F2 : Hp) (d2 : D) (M2 : Mp), Same F F2 ∧ Cc K M2 F2 H ∧ Rp K F2 v d2 ∧ Qd d2 M2
theorem Fin.same {K : KTb} {Qd : DQ} {d : D} {M : Mp} (h : Qd d M) : Fin K Qd d M := fun F H v c r => ⟨F, d, M, Same.refl _, c, r, h⟩
theorem Fin.less {K : KTb} {Qd : DQ} {d : D} {M M2 : Mp} (h : Qd d M2) (e : ∀ a u, M2 a = some u → M a = some u) : Fin K Qd d M := fun F H v c r => ⟨F, d, M2, Same.refl _, c.less e, r, h⟩
theorem Fin.frz {K : KTb} {Qd : DQ} {p : Addr} {xs : List D} {M : Mp} (e : M p = some (.lst xs)) (h : Qd (.lst xs) (mdel M p)) : Fin K Qd (.ref p) M := fun F H v c r => by
  cases r
  obtain ⟨F2, s, c2, r2⟩ := c.freeze e
  exact ⟨F2, _, _, s, c2, r2, h⟩
/-- the new list at p is handed back frozen -/
theorem Fin.frzN {K : KTb} {Qd : DQ} {p : Addr} {xs : List D} {M : Mp} (e : M p = none) (h : Qd (.lst xs) M) : Fin K Qd (.ref p) (mup M p (.lst xs)) := Fin.frz mup_same (by rw [mdel_mup e]; exact h)
theorem Fin.lessN {K : KTb} {Qd : DQ} {d : D} {p : Addr} {x : Cell} {M : Mp} (e : M p = none) (h : Qd d M) : Fin K Qd d (mup M p x) := Fin.less h fun a u q => by
  rw [mup_ne fun z => by rw [z, e] at q; cases q]
  exact q
abbrev wOf (T : List (Addr × Str)) (E : XK) : WT := ⟨T, fun cls d _ H => E cls d H⟩
def dstart (N : List Str) (ds : List D) : DG := ds.map some ++ List.replicate (N.length - ds.length) none
theorem start_rp {K : KTb} {F : Hp} {N : List Str} {vs : List V} {ds : List D} (r : Rps K F vs ds) (hl : vs.length ≤ N.length) : RpG K F (start N vs) (dstart N ds) := by
  refine ⟨by simp [L2.start, dstart, r.length], fun i d h => ?_⟩
  unfold dstart at h
  unfold L2.start
  by_cases hi : i < ds.length
  · rw [List.getElem?_append_left (by simpa using hi), List.getElem?_map] at h
    rw [List.getElem?_append_left (by simpa [r.length] using hi), List.getElem?_map]
    cases e : ds[i]? with
    | none => rw [e] at h; cases h
    | some d' =>
      rw [e] at h
      cases h
      obtain ⟨v, h1, h2⟩ := r.get e
      exact ⟨v, by rw [h1] <;> rfl, h2⟩
  · rw [List.getElem?_append_right (by simpa using hi), List.getElem?_replicate] at h
    split at h <;> cases h

/-- a def as it stands behind the top, whatever its defaults are -/
structure FunK (K : PySem.W.Frag) (x qual : Str) (st : Stmt) (f : Addr) (fd : FuncData) : Prop where
  ex : ∃ (oc : Value) (od : Option Addr) (dV kV doc pm : Value) (an : Option Addr) (cdv ct : Value) (osl : Array (Option Value)),
    fd = PySem.W.fnOf x qual (defArgs st) (defBody st) (defScope st) dV kV doc pm an cdv ct ∧ K.lookup f = some ⟨oc, od, .func fd, osl⟩ ∧ PySem.W.codeIn K cdv qual = true
  kp : PySem.W.keepIn K (.ref f) = true
theorem FunK.of {K : PySem.W.Frag} {x qual : Str} {st : Stmt} {f : Addr} {fd : FuncData} (F : Fun K x qual st f fd) : FunK K x qual st f fd := by
  obtain ⟨oc, od, kV, doc, pm, an, cdv, ct, osl, h1, h2, h3⟩ := F.ex
  exact ⟨⟨oc, od, .none, kV, doc, pm, an, cdv, ct, osl, h1, h2, h3⟩, F.kp⟩
theorem FunK.ofD {K : PySem.W.Frag} {x qual : Str} {st : Stmt} {f : Addr} {fd : FuncData} {dvs : List V} {kws : List (Str × V)} (F : FunD K x qual (defArgs st) (defBody st) (defScope st) dvs kws f fd) : FunK K x qual st f fd := by
  obtain ⟨oc, od, dV, kV, doc, pm, an, cdv, ct, osl, h1, h2, h3, _⟩ := F.ex
  exact ⟨⟨oc, od, dV, kV, doc, pm, an, cdv, ct, osl, h1, h2, h3⟩, F.kp⟩
section
variable {P : Program} {w : World} {K : PySem.W.Frag} {T : List (Addr × Str)} {mg : Str → Option Value} {base : Heap}
/-- as Fun.okX -/
theorem FunK.okX {x qual : Str} {st : Stmt} {f : Addr} {fd : FuncData} {N ps : List Str} {k : Nat} {sp : Sp} (F : FunK K x qual st f fd) (S : FnScope N ps (defScope st)) (len : ∀ vs H Q E, sp vs H Q E → vs.length = ps.length)
    (hbody : ∀ (cdv : Value) (A : Around) (outer : List Env) (s : Shared) (H : Hp) (vs : List V) (Q : VK) (E : XK), Room k (A.deeper (PyProof.Rows.envOfC qual (defScope st) s.heap.objs.size f cdv)) → sp vs H Q E →
      ∃ t, PSs (cxOf (L2.CX P w) P w K mg base N qual (defScope st) f cdv A outer s H E) (defBody st) t ∧ t { nx := fun _ H' => Q .non H', rt := Q } (L2.start N vs) H) : FnOk P w K mg base (L2.CX P w) (k + 1) f fd ps sp := by
  obtain ⟨oc, od, dV, kV, doc, pm, an, cdv, ct, osl, rfl, lk, hcd⟩ := F.ex
  exact fn_of lk hcd S len fun A outer s H vs Q E hr hsp => hbody cdv A outer s H vs Q E hr hsp
/-- THE RULE for a def: its body's reading, over data -/
theorem dfn {x qual : Str} {st : Stmt} {f : Addr} {fd : FuncData} {N ps : List Str} {k : Nat} {sp : DSp} (Fn : FunK K x qual st f fd) (S : FnScope N ps (defScope st)) (len : ∀ ds M Q E, sp ds M Q E → ds.length = ps.length)
    (hbody : ∀ (cdv : Value) (A : Around) (outer : List Env) (s : Shared) (H : Hp) (E : XK), Room k (A.deeper (PyProof.Rows.envOfC qual (defScope st) s.heap.objs.size f cdv)) → ∃ t, DSs (cxOf (L2.CX P w) P w K mg base N qual (defScope st) f cdv A outer s H E) (wOf T E) (defBody st) t ∧
      ∀ (ds : List D) (M : Mp) (Qd : DQ) (Ed : DXK) (F : Hp) (H : Hp), sp ds M Qd Ed → Cc ⟨K, T⟩ M F H → ∃ (F2 : Hp) (M2 : Mp), Same F F2 ∧ Cc ⟨K, T⟩ M2 F2 H ∧ t { nx := fun _ M' => Fin ⟨K, T⟩ Qd .non M', rt := Fin ⟨K, T⟩ Qd, ex := fun _ C fs M' => Ed C fs M' } (dstart N ds) M2) : FnOk P w K mg base (L2.CX P w) (k + 1) f fd ps (spUp ⟨K, T⟩ sp) := by
  have hlen : ∀ vs H Q E, spUp ⟨K, T⟩ sp vs H Q E → vs.length = ps.length := fun vs H Q E ⟨ds, M, F, Qd, Ed, c, r, h, _, _⟩ => by rw [r.length]; exact len _ _ _ _ h
  refine Fn.okX S hlen fun cdv A outer s H vs Q E hr h => ?_
  have hl := hlen _ _ _ _ h
  obtain ⟨ds, M, F, Qd, Ed, c, r, h, kq, kx⟩ := h
  obtain ⟨t, ht, hb⟩ := hbody cdv A outer s H E hr
  refine ⟨_, ht.ps, ?_⟩
  obtain ⟨F2, M2, s2, c2, hb⟩ := hb ds M Qd Ed F H h c
  have hpl : ps.length ≤ N.length := by have := congrArg List.length S.pre; rw [List.length_take] at this; omega
  refine ⟨dstart N ds, M2, F2, _, ⟨c2, start_rp (r.mono s2) (by omega), fun F' H' σ Γ C d us fs M' s1 c1 _ hd rf q => kx F' H' C d us fs M' (s2.trans s1) c1 hd rf q⟩, hb, ?_, ?_, fun _ _ _ _ _ _ _ _ z => z.elim, fun _ _ _ _ _ _ _ _ z => z.elim⟩
  · intro F' H' σ' Γ' M' s1 c1 g1 q1
    obtain ⟨F3, d2, M3, s3, c3, r3, q3⟩ := q1 F' H' .non c1 .non
    exact kq F3 H' _ _ _ ((s2.trans s1).trans s3) c3 r3 q3
  · intro F' H' v d M' s1 c1 r1 q1
    obtain ⟨F3, d2, M3, s3, c3, r3, q3⟩ := q1 F' H' v c1 r1
    exact kq F3 H' _ _ _ ((s2.trans s1).trans s3) c3 r3 q3
/-- a def of the module, where its text stands; it binds its parameters ps, dds the defaults that fill up -/
structure DefAt (K : PySem.W.Frag) (mg : Str → Option Value) (x : Str) (st : Stmt) (ps : List Str) : Prop where
  ex : ∃ f fd, mg x = some (.ref f) ∧ FunK K x x st f fd ∧ Binds K fd ps []
/-- a def of the module keeps a promise over data -/
structure Dfk (P : Program) (w : World) (K : PySem.W.Frag) (mg : Str → Option Value) (base : Heap) (T : List (Addr × Str)) (x : Str) (k : Nat) (ps : List Str) (sp : DSp) : Prop where
  ex : ∃ f fd, FnOk P w K mg base (L2.CX P w) k f fd ps (spUp ⟨K, T⟩ sp) ∧ mg x = some (.ref f) ∧ PySem.W.keepIn K (.ref f) = true ∧ Binds K fd ps []
theorem Dfk.imp {x : Str} {k : Nat} {ps : List Str} {sp sp' : DSp} (h : Dfk P w K mg base T x k ps sp) (i : ∀ ds M Q E, sp' ds M Q E → sp ds M Q E) : Dfk P w K mg base T x k ps sp' := by
  obtain ⟨f, fd, h1, h2⟩ := h.ex
  exact ⟨f, fd, h1.imp fun vs H Q E ⟨ds, M, F, Qd, Ed, c, r, q, k⟩ => ⟨ds, M, F, Qd, Ed, c, r, i _ _ _ _ q, k⟩, h2⟩
theorem Dfk.mono {x : Str} {k k' : Nat} {ps : List Str} {sp : DSp} (h : Dfk P w K mg base T x k ps sp) (i : k ≤ k') : Dfk P w K mg base T x k' ps sp := by
  obtain ⟨f, fd, h1, h2⟩ := h.ex
  exact ⟨f, fd, h1.mono i, h2⟩
/-- THE RULE for a def of the module whose cells need no opening -/
theorem DefAt.ok {x : Str} {st : Stmt} {N ps : List Str} {k : Nat} {sp : DSp} (Fn : DefAt K mg x st ps) (S : FnScope N ps (defScope st)) (len : ∀ ds M Q E, sp ds M Q E → ds.length = ps.length)
    (hbody : ∀ (f : Addr) (cdv : Value) (A : Around) (outer : List Env) (s : Shared) (H : Hp) (E : XK), Room k (A.deeper (PyProof.Rows.envOfC x (defScope st) s.heap.objs.size f cdv)) → ∃ t, DSs (cxOf (L2.CX P w) P w K mg base N x (defScope st) f cdv A outer s H E) (wOf T E) (defBody st) t ∧
      ∀ (ds : List D) (M : Mp) (Qd : DQ) (Ed : DXK), sp ds M Qd Ed → t { nx := fun _ M' => Fin ⟨K, T⟩ Qd .non M', rt := Fin ⟨K, T⟩ Qd, ex := fun _ C fs M' => Ed C fs M' } (dstart N ds) M) : Dfk P w K mg base T x (k + 1) ps sp := by
  obtain ⟨f, fd, h1, h2, h3⟩ := Fn.ex
  refine ⟨f, fd, dfn h2 S len fun cdv A outer s H E hr => ?_, h1, h2.kp, h3⟩
  obtain ⟨t, ht, hq⟩ := hbody f cdv A outer s H E hr
  exact ⟨t, ht, fun ds M Qd Ed F H h c => ⟨F, M, Same.refl _, c, hq ds M Qd Ed h⟩⟩
end

section
variable {X : Cx} {W : WT} {e : Expr} {es : List Expr} {pos : Pos}
/-! ### a call of a def -/
def dCall (sp : DSp) (dds : List D) (t : DTA) : DTE := fun Γ M Q E => t Γ M (fun ds M1 => sp (ds ++ dds) M1 Q (fun C fs M2 => E Γ C fs M2)) E
theorem up_sp {sp : DSp} {F H : Hp} {M : Mp} {vs dvs : List V} {ds dds : List D} {Qd : DQ} {Q : VK} {σ : St} {Γ : DG} {E : DXE} (c : Cc (kt X W) M F H) (r : Rps (kt X W) F vs ds) (hd : ∀ F, Rps (kt X W) F dvs dds) (g : RpG (kt X W) F σ Γ) (w : Ew (kt X W) F E W.w)
    (q : sp (ds ++ dds) M Qd (fun C fs M2 => E Γ C fs M2)) (k : CoQ (kt X W) F Qd Q) : spUp (kt X W) sp (vs ++ dvs) H Q (fun cls d H => W.w cls d σ H) :=
  ⟨ds ++ dds, M, F, Qd, _, c, r.append (hd F), q, k, fun F' H' C d us fs M' s c hd rf q => w F' H' σ Γ C d us fs M' s c (g.mono s) hd rf q⟩
theorem de_call {k : Nat} {f : Addr} {fd : FuncData} {ps : List Str} {sp : DSp} {dvs : List V} {dds : List D} {vds : List Value} {x : Str} {p : Pos} {t : DTA} (Fn : FnOk X.prog X.w X.K X.mg X.base (L2.CX X.prog X.w) k f fd ps (spUp (kt X W) sp)) (hr : Room k X.A) (hm : X.mg x = some (.ref f)) (hk : PySem.W.keepIn X.K (.ref f) = true) (hb : Binds X.K fd ps vds) (hd : Vals dvs vds) (hdd : ∀ F, Rps (kt X W) F dvs dds) (tk : Takes X W.w)
    (ha : DA X W (e :: es) t) (hg : Gl X x := by rfl) (hdb : (x == ("__debug__" : Str)) = false := by decide) (he : starEach (e :: es) X.env = (false, eval e X.env) :: starEach es X.env := by rfl) (hpl : (backTo pos (starEach es X.env)).any (·.1) = false := by rfl) :
    DE X W (.Call (.Name x p) (e :: es) [] pos) (dCall sp dds t) :=
  ⟨peW (pe_callSD (E := fun σ cls d H => W.w cls d σ H) Fn hr hg hm hk hb hd (fun σ => passAt tk σ) ha.pa hdb he hpl) fun σ H Q ⟨Γ, M, F, E, Qd, a, q, k⟩ => ⟨Γ, M, F, E, _, a, q, fun F1 H1 vs ds M1 s1 c1 r1 q1 =>
    up_sp c1 r1 hdd (a.g.mono s1) (a.w.mono s1) q1 (k.mono s1)⟩⟩
/-- all parameters given -/
theorem de_callA {k : Nat} {ps : List Str} {sp : DSp} {x : Str} {p : Pos} {t : DTA} (Fn : Dfk X.prog X.w X.K X.mg X.base W.T x k ps sp) (hr : Room k X.A) (tk : Takes X W.w)
    (ha : DA X W (e :: es) t) (hg : Gl X x := by rfl) (hdb : (x == ("__debug__" : Str)) = false := by decide) (he : starEach (e :: es) X.env = (false, eval e X.env) :: starEach es X.env := by rfl) (hpl : (backTo pos (starEach es X.env)).any (·.1) = false := by rfl) :
    DE X W (.Call (.Name x p) (e :: es) [] pos) (dCall sp [] t) := by
  obtain ⟨f, fd, h1, h2, h3, h4⟩ := Fn.ex
  exact de_call h1 hr h2 h3 h4 .nil (fun _ => .nil) tk ha hg hdb he hpl

/-! ### what is appended, stored -/
def dAppend (tx te : DTE) : DTE := fun Γ M Q E => tx Γ M (fun d M1 => (∃ xs, sqX M1 d = some xs) ∧ te Γ M1 (fun y M2 => ∃ p xs, d = .ref p ∧ M2 p = some (.lst xs) ∧ xs.length < sizeLine ∧ Q .non (mup M2 p (.lst (xs ++ [y])))) E) E
theorem ty_list {K : KTb} {M : Mp} {F H : Hp} {v : V} {d : D} {xs : List D} (c : Cc K M F H) (r : Rp K F v d) (h : sqX M d = some xs) : tyV K.K "list" v H := by
  obtain ⟨a, vs, rfl, h1, _⟩ := sqx_of c r h
  exact .inl ⟨rfl, vs, .inl (.inl h1)⟩
theorem de_append {xs y : Expr} {apos cpos : Pos} {tx te : DTE} (hx : DE X W xs tx) (hy : DE X W y te)
    (hbase : attributeBase xs "append" X.env (eval xs X.env) = eval xs X.env := by rfl)
    (hfew : ((backTo cpos (starEach [y] X.env)).all (fun x => !x.1) && (backToKw cpos (keywordEach [] X.env)).all (fun x => x.1.isSome) && decide (([y] : List Expr).length + ([] : List Keyword).length + (if ([] : List Keyword).isEmpty then 0 else 1) < 30)) = true := by rfl)
    (hline : (apos.endLine == cpos.line) = true := by rfl) (hs : starEach [y] X.env = (false, eval y X.env) :: starEach [] X.env := by rfl) : DE X W (.Call (.Attribute xs "append" apos) [y] [] cpos) (dAppend tx te) :=
  ⟨peW (pe_bm PySem.F.plainAttrs_list PySem.F.slot_list_append PySem.F.type_list_append mt_append hx.pe (pa_cons hy.pe pa_nil hs) hbase hfew hline hs rfl) fun σ H Q ⟨Γ, M, F, E, Qd, a, q, k⟩ => ⟨Γ, M, F, E, _, a, q, fun F1 H1 v d M1 s1 c1 r1 ⟨⟨xs, e1⟩, q1⟩ => ⟨ty_list c1 r1 e1,
    Γ, M1, F1, E, _, a.next s1 c1, q1, fun F2 H2 w e M2 s2 c2 r2 ⟨p, ys, e2, e3, hz, q2⟩ => by
      subst e2
      cases r1
      obtain ⟨f, o, e4, us, e5, r5⟩ := c2.ow _ _ e3
      subst e5
      exact ⟨p, us, w, rfl, rfl, e4, by rw [r5.length]; exact hz, k _ _ _ _ _ (s1.trans s2) (c2.write (x := .lst _) e3 ⟨_, rfl, r5.append (.cons r2 .nil)⟩) .non q2⟩⟩⟩⟩
/-- o[i] = e, o a list -/
def gdSub (to ti : DTE) : DTG := fun d Γ M Q => to Γ M (fun o M1 => ti Γ M1 (fun i M2 => ∃ p xs k j, o = .ref p ∧ i = .int k ∧ M2 p = some (.lst xs) ∧ ixN xs.length k = some j ∧ Q Γ (mup M2 p (.lst (xs.set j d)))) noE) noE
theorem dg_sub {o i : Expr} {to ti : DTE} {T : List (Addr × Str)} (ho : DE X (noT T) o to) (hi : DE X (noT T) i ti)
    (ha : ∀ v, assign (.Subscript o i pos) X.env v = (do
      let ov ← holding [v] (eval o X.env)
      let iv ← holding [v, ov] (eval i X.env)
      standAt pos
      holding [v, ov, iv] (setItem ov iv v)
      release [v, ov, iv] []) := by intro _; rfl) : DGt X T none (.Subscript o i pos) (gdSub to ti) :=
  ⟨pgW (pg_sub ho.pe hi.pe set_list ha) fun v σ H Q ⟨d, Γ, M, F, Qd, c, g, r, q, k⟩ => ⟨Γ, M, F, noE, _, ⟨c, g, fun _ _ _ _ _ _ _ _ _ _ _ _ _ _ z => z⟩, q, fun F1 H1 x o M1 s1 c1 r1 q1 => ⟨Γ, M1, F1, noE, _, ⟨c1, g.mono s1, fun _ _ _ _ _ _ _ _ _ _ _ _ _ _ z => z⟩, q1, fun F2 H2 y i M2 s2 c2 r2 ⟨p, xs, kk, j, e1, e2, e3, hj, q2⟩ => by
    subst e1
    subst e2
    cases r1
    cases r2
    obtain ⟨f, o, e4, us, e5, r5⟩ := c2.ow _ _ e3
    subst e5
    exact ⟨p, us, kk, j, rfl, rfl, e4, by rw [r5.length]; exact hj, k _ _ _ _ _ (s1.trans s2) (c2.write (x := .lst _) e3 ⟨_, rfl, r5.set (r.mono (s1.trans s2)) j⟩) (g.mono (s1.trans s2)) (fun _ e => nomatch e) q2⟩⟩⟩⟩

/-! ### ghost steps ahead of a statement -/
/-- what is known may be told otherwise -/
def GhS (K : KTb) (P : DG → Mp → Prop) : DG → Mp → Prop := fun Γ M => ∀ (F H : Hp) (σ : St), Cc K M F H → RpG K F σ Γ → ∃ (F2 : Hp) (Γ2 : DG) (M2 : Mp), Same F F2 ∧ Cc K M2 F2 H ∧ RpG K F2 σ Γ2 ∧ P Γ2 M2
theorem dss_gh {sts : List Stmt} {t : DTS} (h : DSs X W sts t) : DSs X W sts (fun Dn Γ M => GhS (kt X W) (t Dn) Γ M) := ⟨pssW h.ps fun E σ H ⟨Γ, M, F, Dn, a, q, k⟩ => by
  obtain ⟨F2, Γ2, M2, s, c, g, q⟩ := q F H σ a.c a.g
  exact ⟨Γ2, M2, F2, Dn, ⟨c, g, a.w.mono s⟩, q, k.mono s⟩⟩
theorem GhS.same {K : KTb} {P : DG → Mp → Prop} {Γ : DG} {M : Mp} (h : P Γ M) : GhS K P Γ M := fun F H σ c g => ⟨F, Γ, M, Same.refl _, c, g, h⟩
/-- the cell at p in slot i is frozen -/
theorem GhS.frz {K : KTb} {P : DG → Mp → Prop} {Γ : DG} {M : Mp} {i : Nat} {p : Addr} {xs : List D} (h1 : Γ[i]? = some (some (.ref p))) (h2 : M p = some (.lst xs)) (h : P (Γ.set i (some (.lst xs))) (mdel M p)) : GhS K P Γ M := fun F H σ c g => by
  obtain ⟨F2, s, c2, r2⟩ := c.freeze h2
  obtain ⟨v, e, r⟩ := g.at_ i _ h1
  cases r
  have g2 := (g.mono s).set r2 i
  have es : σ.set i (some (.ref p)) = σ := by
    obtain ⟨hl, e'⟩ := List.getElem?_eq_some_iff.mp e
    rw [← e']
    exact List.set_getElem_self hl
  rw [es] at g2
  exact ⟨F2, _, _, s, c2, g2, h⟩
/-- slots forgotten, cells let go -/
theorem GhS.less {K : KTb} {P : DG → Mp → Prop} {Γ Γ2 : DG} {M M2 : Mp} (hl : Γ2.length = Γ.length) (h1 : ∀ (i : Nat) (d : D), Γ2[i]? = some (some d) → Γ[i]? = some (some d)) (h2 : ∀ a u, M2 a = some u → M a = some u) (h : P Γ2 M2) : GhS K P Γ M := fun F H σ c g =>
  ⟨F, Γ2, M2, Same.refl _, c.less h2, ⟨by rw [g.len, hl], fun i d e => g.at_ i d (h1 i d e)⟩, h⟩
end
end DL

namespace DL
open PySem L2

/-! ### own exceptions: classes whose __init__ calls a base's, then stores -/
section
variable {X : Cx} {CX : CXT} {k : Nat} {f : Addr} {fd : FuncData} {ps : List Str} {sp : Sp} {E : XK} {x m : Str} {CL : Addr} {mc : Value} {p1 p2 pos : Pos} {e : Expr} {es : List Expr} {t : TA} {pl : Sem Bool}
/-- C.m(e, ..), C a class of the module, m a def of it: called as it is -/
theorem pe_clscall (hm : X.mg x = some (.ref CL)) (r : ClX.CRead X.K CL mc) (kk : PySem.W.findCls X.K (.ref CL) mc m = some (.val (.ref f))) (Fn : FnOk X.prog X.w X.K X.mg X.base CX k f fd ps sp) (hr : Room k X.A) (hk : PySem.W.keepIn X.K (.ref f) = true) (hb : Binds X.K fd ps []) (hx : Passes CX X E)
    (ha : PA X (e :: es) t) (hg : Gl X x := by rfl) (hdb : (x == ("__debug__" : Str)) = false := by decide)
    (hst : starEach (e :: es) X.env = (false, eval e X.env) :: starEach es X.env := by rfl) (hpl : (backTo pos (starEach es X.env)).any (·.1) = false := by rfl)
    (ht : eval (.Call (.Attribute (.Name x p1) m p2) (e :: es) [] pos) X.env = (do
      let ov ← eval (.Name x p1) X.env
      standAt p2.atName
      let (f, first) ← holding [ov] (getMethod ov m pl)
      callWith pos f first (backTo pos (starEach (e :: es) X.env)) (backToKw pos (keywordEach [] X.env))) := by rfl) :
    PE X (.Call (.Attribute (.Name x p1) m p2) (e :: es) [] pos) (tCall sp [] E t) := by
  refine ⟨fun pins s σ H Q I h => ?_⟩
  refine PySem.W.methodCall_KW (pl := pl) (ld_glob I hg hm ?_ hdb) ht
  refine PySem.W.method_cls I.kIn r.ga (ClX.getcval_ok I r (v := .ref f) ⟨kk, rfl⟩ fun s' I' => ?_)
  refine PySem.W.callWith_K (h₀ := X.base) I'.ok.mod.kin hk (thn (ha.run pos pins s' σ H _ I' h) fun us s1 ⟨vs, H1, I1, r, q⟩ => ⟨I1.kIn, ?_⟩) hst hpl
  exact run_fn Fn hr hb .nil hx I1 r q
end
/-- __init__ of an exception's class: what it leaves -/
def spIni (C : Addr) (n : Nat) (fs : List V → List (Str × V)) : Sp := fun vs H Q _ => ∃ (a : Addr) (ws : List V), vs = .ref a :: ws ∧ ws.length = n ∧ H a = some (exo a C none) ∧
  ∀ (d : Addr) (H' : Hp), H d = none → d ≠ a → H' a = some (exo a C (some d)) → H' d = some (exd d (fs ws)) → (∀ b, b ≠ a → b ≠ d → H' b = H b) → Q .non H'
/-- .. of the base, for any class above it that has no attribute of the name -/
def spBase (K : PySem.W.Frag) (f : Str) : Sp := fun vs H Q _ => ∃ (a C : Addr) (v : V), vs = [.ref a, v] ∧ OexC K C ∧ PySem.W.findIn K (.ref C) f = some none ∧ H a = some (exo a C none) ∧
  ∀ (d : Addr), H d = none → d ≠ a → Q .non (upd (upd H d (exd d [(f, v)])) a (exo a C (some d)))
/-- a base: its class, its __init__ -/
structure ExB (P : Program) (w : World) (K : PySem.W.Frag) (mg : Str → Option Value) (base : Heap) (x : Str) (fw : Str) : Prop where
  ex : ∃ (CL f : Addr) (fd : FuncData) (mc : Value), mg x = some (.ref CL) ∧ ClX.CRead K CL mc ∧ PySem.W.findCls K (.ref CL) mc "__init__" = some (.val (.ref f)) ∧ FnOk P w K mg base (L2.CX P w) 1 f fd ["self", "word"] (spBase K fw) ∧ PySem.W.keepIn K (.ref f) = true ∧ Binds K fd ["self", "word"] []
/-- a class that is raised: n arguments, its fields by them (the last one stored first) -/
structure ExC (P : Program) (w : World) (K : PySem.W.Frag) (mg : Str → Option Value) (base : Heap) (x : Str) (C : Addr) (n : Nat) (fs : List V → List (Str × V)) : Prop where
  T : OexC K C
  mgC : mg x = some (.ref C)
  ex : ∃ (f : Addr) (fd : FuncData) (ps : List Str), PySem.W.findIn K (.ref C) "__init__" = some (some (.ref f)) ∧ PySem.W.typeIn K (.ref f) = some (.type "function") ∧ FnOk P w K mg base (L2.CX P w) 2 f fd ps (spIni C n fs) ∧ Binds K fd ps []

theorem passL0 {X : Cx} : Passes (L2.CX X.prog X.w) X (fun _ _ _ => False) := fun _ _ _ _ _ _ _ h => by
  obtain ⟨_, _, _, _, _, _, _, _, _, _, _, _, z⟩ := h
  exact z.elim
section
variable {P : Program} {w : World} {K : PySem.W.Frag} {mg : Str → Option Value} {base : Heap}
/-- def __init__(self, word): self.word = word -/
theorem okBase {qual f : Str} {st : Stmt} {g : Addr} {fd : FuncData} (F : FunK K "__init__" qual st g fd) (S : FnScope ["self", "word"] ["self", "word"] (defScope st))
    (hps : ∀ (cdv : Value) (A : Around) (outer : List Env) (s : Shared) (H : Hp) (E : XK), PSs (cxOf (L2.CX P w) P w K mg base ["self", "word"] qual (defScope st) g cdv A outer s H E) (defBody st) (tOst K f (tVar 0) (tVar 1))) :
    FnOk P w K mg base (L2.CX P w) 1 g fd ["self", "word"] (spBase K f) := by
  refine F.okX S (fun vs H Q E ⟨a, C, v, e, _⟩ => by subst e; rfl) fun cdv A outer s H vs Q E hr h => ?_
  obtain ⟨a, C, v, rfl, T, hno, ha, k⟩ := h
  refine ⟨_, hps cdv A outer s H E, ?_⟩
  exact ⟨v, rfl, .ref a, rfl, a, C, rfl, T, hno, .inl ⟨ha, fun d hd hne => k d hd hne⟩⟩
/-- def __init__(self): B.__init__(self, 'word') -/
theorem okIni0 {qual bx wd : Str} {st : Stmt} {C g : Addr} {fd : FuncData} (B : ExB P w K mg base bx "word") (T : OexC K C) (hno : PySem.W.findIn K (.ref C) "word" = some none) (F : FunK K "__init__" qual st g fd) (S : FnScope ["self"] ["self"] (defScope st))
    (hps : ∀ (CL f : Addr) (fdb : FuncData) (mc : Value), mg bx = some (.ref CL) → ClX.CRead K CL mc → PySem.W.findCls K (.ref CL) mc "__init__" = some (.val (.ref f)) → FnOk P w K mg base (L2.CX P w) 1 f fdb ["self", "word"] (spBase K "word") → PySem.W.keepIn K (.ref f) = true → Binds K fdb ["self", "word"] [] →
      ∀ (cdv : Value) (A : Around) (outer : List Env) (s : Shared) (H : Hp) (E : XK), Room 1 (A.deeper (PyProof.Rows.envOfC qual (defScope st) s.heap.objs.size g cdv)) → PSs (cxOf (L2.CX P w) P w K mg base ["self"] qual (defScope st) g cdv A outer s H E) (defBody st) (tDrop (tCall (spBase K "word") [] (fun _ _ _ => False) (tCons (tVar 0) (tCons (tC (.str wd)) tNil))))) :
    FnOk P w K mg base (L2.CX P w) 2 g fd ["self"] (spIni C 0 fun _ => [("word", .str wd)]) := by
  refine F.okX S (fun vs H Q E ⟨a, ws, e, hl, _⟩ => by
    subst e
    have : ws = [] := List.length_eq_zero_iff.mp hl
    subst this
    rfl) fun cdv A outer s H vs Q E hr h => ?_
  obtain ⟨a, ws, rfl, hl, ha, k⟩ := h
  have e : ws = [] := List.length_eq_zero_iff.mp hl
  subst e
  obtain ⟨CL, f, fdb, mc, m1, r, kk, Fb, kp, bb⟩ := B.ex
  refine ⟨_, hps CL f fdb mc m1 r kk Fb kp bb cdv A outer s H E hr, ?_⟩
  refine ⟨.ref a, rfl, a, C, .str wd, rfl, T, hno, ha, fun d hd hne => ?_⟩
  refine k d _ hd hne upd_same (by rw [upd_ne hne, upd_same]) fun b h1 h2 => by rw [upd_ne h1, upd_ne h2]
/-- def __init__(self, y): B.__init__(self, 'word'); self.y = y -/
theorem okIni1 {qual bx wd y : Str} {st : Stmt} {C g : Addr} {fd : FuncData} (B : ExB P w K mg base bx "word") (T : OexC K C) (hno : PySem.W.findIn K (.ref C) "word" = some none) (hno2 : PySem.W.findIn K (.ref C) y = some none) (F : FunK K "__init__" qual st g fd) (S : FnScope ["self", y] ["self", y] (defScope st))
    (hps : ∀ (CL f : Addr) (fdb : FuncData) (mc : Value), mg bx = some (.ref CL) → ClX.CRead K CL mc → PySem.W.findCls K (.ref CL) mc "__init__" = some (.val (.ref f)) → FnOk P w K mg base (L2.CX P w) 1 f fdb ["self", "word"] (spBase K "word") → PySem.W.keepIn K (.ref f) = true → Binds K fdb ["self", "word"] [] →
      ∀ (cdv : Value) (A : Around) (outer : List Env) (s : Shared) (H : Hp) (E : XK), Room 1 (A.deeper (PyProof.Rows.envOfC qual (defScope st) s.heap.objs.size g cdv)) → PSs (cxOf (L2.CX P w) P w K mg base ["self", y] qual (defScope st) g cdv A outer s H E) (defBody st)
        (tSeq (tDrop (tCall (spBase K "word") [] (fun _ _ _ => False) (tCons (tVar 0) (tCons (tC (.str wd)) tNil)))) (tOst K y (tVar 0) (tVar 1)))) :
    FnOk P w K mg base (L2.CX P w) 2 g fd ["self", y] (spIni C 1 fun ws => [(y, ws.headD .non), ("word", .str wd)]) := by
  refine F.okX S (fun vs H Q E ⟨a, ws, e, hl, _⟩ => by
    subst e
    match ws, hl with
    | [v], _ => rfl) fun cdv A outer s H vs Q E hr h => ?_
  obtain ⟨a, ws, rfl, hl, ha, k⟩ := h
  match ws, hl with
  | [v], _ =>
  obtain ⟨CL, f, fdb, mc, m1, r, kk, Fb, kp, bb⟩ := B.ex
  refine ⟨_, hps CL f fdb mc m1 r kk Fb kp bb cdv A outer s H E hr, ?_⟩
  refine ⟨.ref a, rfl, a, C, .str wd, rfl, T, hno, ha, fun d hd hne => ?_⟩
  refine ⟨v, rfl, .ref a, rfl, a, C, rfl, T, hno2, .inr ⟨d, [("word", .str wd)], upd_same, by rw [upd_ne hne, upd_same], Nat.le_of_ble_eq_true rfl, ?_⟩⟩
  refine k d _ hd hne (by rw [upd_ne (Ne.symm hne), upd_same]) upd_same fun b h1 h2 => by rw [upd_ne h2, upd_ne h1, upd_ne h2]
end

/-! ### raise C(..) -/
section
variable {X : Cx} {CX : CXT} {k : Nat} {C fI : Addr} {fd : FuncData} {ps : List Str} {sp : Sp} {x : Str} {p pos : Pos}
/-- C() -/
theorem pmk_oex0 (T : OexC X.K C) (iC : PySem.W.findIn X.K (.ref C) "__init__" = some (some (.ref fI))) (tI : PySem.W.typeIn X.K (.ref fI) = some (.type "function"))
    (F1 : FnOk X.prog X.w X.K X.mg X.base CX k fI fd ps sp) (hr : Room (k + 1) X.A) (hb : Binds X.K fd ps []) (hx : Passes CX X (fun _ _ _ => False)) (hg : Gl X x) (hm : X.mg x = some (.ref C)) (hdb : (x == ("__debug__" : Str)) = false := by decide) :
    PMk X (.Call (.Name x p) [] [] pos) (tMkO C sp [] tNil) := by
  intro pins s σ H Q I1 h
  obtain ⟨nm, q, N, bs, bm, sn, sub, ab, col, dd, k0, k1, k2, k3, k5, hC, hbm⟩ := T.cls
  obtain ⟨hz, q1⟩ := (show _ ∧ _ from h)
  refine wpAny_Call_Name_kw (ld_glob I1 hg hm ?_ hdb)
  refine PySem.W.callWith_K0 I1.kIn T.kC ?_
  obtain ⟨hp, g, dr, tk, os⟩ := s
  have hsz : hp.objs.size ≤ hp.objs.size + 1 := Nat.le_succ _
  have hn : H (hp.objs.size + 1) = none := I1.hok.fresh hsz
  have hq := q1 (hp.objs.size + 1) hn
  have kk : ∀ b o, hp.get? b = some o → ((hp.push (PySem.W.kdv_tup [])).push (PySem.HandSPX.excO C hp.objs.size)).get? b = some o := fun b o e => Heap.get?_push_of_some _ (Heap.get?_push_of_some _ e)
  have hget : ((hp.push (PySem.W.kdv_tup [])).push (PySem.HandSPX.excO C hp.objs.size)).get? (hp.objs.size + 1) = some (PySem.HandSPX.excO C hp.objs.size) := by heap_get
  have I2 : Inv X pins σ (upd H (hp.objs.size + 1) (exo (hp.objs.size + 1) C none)) ⟨(hp.push (PySem.W.kdv_tup [])).push (PySem.HandSPX.excO C hp.objs.size), g, dr, tk, os⟩ :=
    I1.laid (t' := tk) (a := hp.objs.size + 1) (o := exo (hp.objs.size + 1) C none) (h' := (hp.push (PySem.W.kdv_tup [])).push (PySem.HandSPX.excO C hp.objs.size)) kk hsz (exo_ok hget)
  have r2 : Vals [V.ref (hp.objs.size + 1)] [Value.ref (hp.objs.size + 1)] := .cons rfl .nil
  have hl : ([Value.ref (hp.objs.size + 1)] ++ []).length = ps.length := F1.len _ _ _ _ hq
  refine wpAny_call (PySem.HandSPX.call_own PySem.F.excBase_ValueError (fun Y => PySem.HandSPX.refsVE_contains Y bm hbm) (I1.kIn _ _ hC) (PySem.W.looks_findIn I1.kIn iC) (fun self => PySem.W.bind_fn I1.kIn self tI) (by decide)
    (codeAny_mono (F1.run _ X.stack _ _ ⟨[Value.ref (hp.objs.size + 1)], []⟩ [Value.ref (hp.objs.size + 1)] _ _ (fun _ _ _ => False) (hr.make C [] []) (I2.env0.make C [] []) (hb _ (Value.ref (hp.objs.size + 1) :: []) I2.kIn hl) r2 hq) fun r s' hq' => ?_))
  cases r with
  | error er => exact hx pins σ _ _ er s' I2 hq'
  | ok fl =>
    cases fl with
    | ret u =>
      obtain ⟨v, H2, os2, bare2, un2, hok2, rv, ev, d, fs, ea, ed, hd1, q2⟩ := hq'
      subst ev
      obtain ⟨h2, g2, d2, t2, os'⟩ := s'
      exact ⟨rv, mk_end (raises_own T.exC T.tyC) I1 hsz kk un2 hok2 os2 bare2 ea ed hd1 q2⟩
    | next => exact False.elim hq'
    | brk => exact False.elim hq'
    | cont => exact False.elim hq'
end
section
variable {X : Cx} {W : WT} {e : Expr} {es : List Expr} {x : Str} {p pos pos2 : Pos} {C : Addr} {n : Nat} {fs : List V → List (Str × V)} {fd : List D → List (Str × D)} {t : DTA}
/-- raise C(..): fd the fields by the arguments -/
def dRaise (C : Addr) (n : Nat) (fd : List D → List (Str × D)) (t : DTA) : DTS := fun Dn Γ M => t Γ M (fun ds M1 => ds.length = n ∧ Dn.ex Γ C (fd ds) M1) Dn.ex
theorem upRaise {ta : TA} {E : Ends} {σ : St} {H : Hp} (hn : n ≤ 1000) (hfd : ∀ F ws ds, Rps (kt X W) F ws ds → RpF (kt X W) F (fs ws) (fd ds)) (hta : ∀ Q, upA (kt X W) W.w t σ H Q → ta σ H Q) (h : upS (kt X W) W.w (dRaise C n fd t) E σ H) :
    tMkO C (spIni C n fs) [] ta σ H (fun cls d H' => W.w cls d σ H') := by
  obtain ⟨Γ, M, F, Dn, a, q, k⟩ := h
  refine hta _ ⟨Γ, M, F, _, _, a, q, fun F1 H1 vs ds M1 s1 c1 r1 ⟨hl, q1⟩ => ⟨by rw [r1.length, hl]; exact hn, fun b hb => ?_⟩⟩
  refine ⟨b, vs, by simp, by rw [r1.length, hl], upd_same, fun d H' hd hne e1 e2 e3 => ⟨rfl, d, fs vs, e1, e2, ?_, ?_⟩⟩
  · rw [upd_ne hne] at hd
    exact hd
  · rw [upd_ne hne] at hd
    have sm : Same H1 (upd (del H' b) d (.xd (fs vs))) := fun y o ey => by
      have h1 : y ≠ b := ne_of_none ey hb
      have h2 : y ≠ d := ne_of_none ey hd
      rw [upd_ne h2, del_ne h1, e3 y h1 h2, upd_ne h1]
      exact ey
    exact a.w F1 _ σ Γ C d (fs vs) (fd ds) M1 s1 (c1.same sm) (a.g.mono s1) upd_same (hfd F1 vs ds r1) q1
theorem ds_raise (Ec : ExC X.prog X.w X.K X.mg X.base x C n fs) (hn : n ≤ 1000) (hfd : ∀ F ws ds, Rps (kt X W) F ws ds → RpF (kt X W) F (fs ws) (fd ds)) (hr : Room 3 X.A) (hc : X.calm = true) (tk : Takes X W.w) (ha : DA X W (e :: es) t) (hg : Gl X x := by rfl) (hdb : (x == ("__debug__" : Str)) = false := by decide)
    (he : starEach (e :: es) X.env = (false, eval e X.env) :: starEach es X.env := by rfl) (hpl : (backTo pos (starEach es X.env)).any (·.1) = false := by rfl) : DS X W (.Raise (some (.Call (.Name x p) (e :: es) [] pos)) none pos2) (dRaise C n fd t) := by
  obtain ⟨f, fdd, ps, h1, h2, h3, h4⟩ := Ec.ex
  exact ⟨psW (ps_raise hc tk (pmk_oex Ec.T h1 h2 h3 hr h4 .nil passL0 hg Ec.mgC ha.pa hdb he hpl)) fun E σ H h => upRaise hn hfd (fun Q q => q) h⟩
theorem ds_raise0 (Ec : ExC X.prog X.w X.K X.mg X.base x C 0 fs) (hfd : ∀ F ws ds, Rps (kt X W) F ws ds → RpF (kt X W) F (fs ws) (fd ds)) (hr : Room 3 X.A) (hc : X.calm = true) (tk : Takes X W.w) (hg : Gl X x := by rfl) (hdb : (x == ("__debug__" : Str)) = false := by decide) : DS X W (.Raise (some (.Call (.Name x p) [] [] pos)) none pos2) (dRaise C 0 fd dNil) := by
  obtain ⟨f, fdd, ps, h1, h2, h3, h4⟩ := Ec.ex
  exact ⟨psW (ps_raise hc tk (pmk_oex0 Ec.T h1 h2 h3 hr h4 passL0 hg Ec.mgC hdb)) fun E σ H h => upRaise (t := dNil) (by decide) hfd (fun Q ⟨Γ, M, F, E, Qd, a, q, k⟩ => k F H [] [] M (Same.refl _) a.c .nil q) h⟩
/-- BadX(): its word -/
def fd0 (wd : Str) : List D → List (Str × D) := fun _ => [("word", .str wd)]
theorem rf0 {K : KTb} {wd : Str} : ∀ F ws ds, Rps K F ws ds → RpF K F ((fun _ => [(("word" : Str), V.str wd)]) ws) (fd0 wd ds) := fun F ws ds _ => .cons ⟨rfl, .str _⟩ .nil
def fd1 (y wd : Str) : List D → List (Str × D) := fun ds => [(y, ds.headD .non), ("word", .str wd)]
theorem rf1 {K : KTb} {y wd : Str} : ∀ F ws ds, Rps K F ws ds → RpF K F ((fun ws : List V => [(y, ws.headD .non), (("word" : Str), V.str wd)]) ws) (fd1 y wd ds) := fun F ws ds r => by
  refine .cons ⟨rfl, ?_⟩ (.cons ⟨rfl, .str _⟩ .nil)
  cases r with
  | nil => exact .non
  | cons h _ => exact h
end
end DL

/-! sorted: of ints, of tuples of ints, any number of them -/
namespace DLS
open PySem PyProof.Rows SrtO Srt
abbrev lexLt := HT.lexLt
theorem lex_refl : ∀ l : List Int, lexLt l l = false
  | [] => rfl
  | x :: l => by
    show (if x = x then lexLt l l else _) = false
    rw [if_pos rfl]
    exact lex_refl l
/-- of one length: a strict weak (even total) order -/
theorem lex_asym : ∀ (l m : List Int), l.length = m.length → lexLt l m = true → lexLt m l = false
  | [], [], _, h => by cases h
  | [], _ :: _, h, _ => by cases h
  | _ :: _, [], h, _ => by cases h
  | x :: l, y :: m, hl, h => by
    have h : (if x = y then lexLt l m else decide (x < y)) = true := h
    show (if y = x then lexLt m l else decide (y < x)) = false
    by_cases e : x = y
    · subst e
      rw [if_pos rfl] at h ⊢
      exact lex_asym l m (by simpa using hl) h
    · rw [if_neg e] at h
      rw [if_neg (Ne.symm e)]
      have := of_decide_eq_true h
      exact decide_eq_false (by omega)
theorem lex_tot : ∀ (l m : List Int), l.length = m.length → lexLt l m = false → lexLt m l = false → l = m
  | [], [], _, _, _ => rfl
  | [], _ :: _, h, _, _ => by cases h
  | _ :: _, [], h, _, _ => by cases h
  | x :: l, y :: m, hl, h, h2 => by
    have h : (if x = y then lexLt l m else decide (x < y)) = false := h
    have h2 : (if y = x then lexLt m l else decide (y < x)) = false := h2
    by_cases e : x = y
    · subst e
      rw [if_pos rfl] at h h2
      rw [lex_tot l m (by simpa using hl) h h2]
    · rw [if_neg e] at h
      rw [if_neg (Ne.symm e)] at h2
      have := of_decide_eq_false h
      have := of_decide_eq_false h2
      omega
theorem lex_trans : ∀ (l m n : List Int), l.length = m.length → m.length = n.length → lexLt l m = true → lexLt m n = true → lexLt l n = true
  | [], [], _, _, _, h, _ => by cases h
  | [], _ :: _, _, h, _, _, _ => by cases h
  | _ :: _, [], _, h, _, _, _ => by cases h
  | _ :: _, _ :: _, [], _, h, _, _ => by cases h
  | x :: l, y :: m, z :: n, h1, h2, a, b => by
    have a : (if x = y then lexLt l m else decide (x < y)) = true := a
    have b : (if y = z then lexLt m n else decide (y < z)) = true := b
    show (if x = z then lexLt l n else decide (x < z)) = true
    by_cases e : x = y
    · subst e
      rw [if_pos rfl] at a
      by_cases f : x = z
      · subst f
        rw [if_pos rfl] at b ⊢
        exact lex_trans l m n (by simpa using h1) (by simpa using h2) a b
      · rw [if_neg f] at b ⊢
        exact b
    · rw [if_neg e] at a
      have a := of_decide_eq_true a
      by_cases f : y = z
      · subst f
        rw [if_neg e]
        exact decide_eq_true a
      · rw [if_neg f] at b
        have b := of_decide_eq_true b
        rw [if_neg (by omega)]
        exact decide_eq_true (by omega)
/-- the order on values by their ints; of other length: by the length -/
def lexK (d : Nat) (l m : List Int) : Bool := if l.length = d ∧ m.length = d then lexLt l m else decide (l.length = d ∧ m.length ≠ d)
theorem swo_lexK (d : Nat) (k : Value → List Int) : Swo fun v u => lexK d (k v) (k u) := by
  refine ⟨fun x y h => ?_, fun x y z h1 h2 => ?_⟩
  · unfold lexK at h ⊢
    by_cases a : (k x).length = d <;> by_cases b : (k y).length = d <;> simp [a, b] at h ⊢
    exact lex_asym _ _ (a.trans b.symm) h
  · unfold lexK at h1 h2 ⊢
    by_cases a : (k x).length = d <;> by_cases b : (k y).length = d <;> by_cases c : (k z).length = d <;> simp [a, b, c] at h1 h2 ⊢
    -- not less is passed on
    cases e : lexLt (k z) (k x) with
    | false => rfl
    | true =>
      exfalso
      cases e2 : lexLt (k x) (k y) with
      | true =>
        have := lex_trans _ _ _ (c.trans a.symm) (a.trans b.symm) e e2
        rw [h2] at this
        cases this
      | false =>
        have := lex_tot _ _ (a.trans b.symm) e2 h1
        rw [this, h2] at e
        cases e
section
variable {prog : Program} {w : World} {A : Around} {E : Value → Shared → Prop} {s : Shared}
theorem kat_ints {Q : Bool → Shared → Prop} : ∀ (us vs : List Value) (l m : List Int) (i : Nat), IntsAre us l → IntsAre vs m → l.length = m.length → Q (lexLt l m) s → PySem.W.KatLex prog w A true false Q (us.zip vs) i s
  | _, _, _, _, i, .nil, .nil, _, q => PySem.W.kat_nil q
  | _, _, _, _, i, .nil, .cons .., h, _ => by cases h
  | _, _, _, _, i, .cons .., .nil, h, _ => by cases h
  | _, _, _, _, i, .cons (vs := us) (ns := l) x t hu, .cons (vs := vs) (ns := m) y u hv, h, q => by
    refine PySem.W.kat_cons (SeqAt.EqAt.int_int x t y u prog w _ _ ?_)
    have q : Q (if x = y then lexLt l m else decide (x < y)) s := q
    refine PySem.W.kat_go (fun e1 => ?_) (fun e1 => ?_)
    · have ex : x = y := by simpa using e1
      rw [if_pos ex] at q
      exact PySem.W.kat_yes (kat_ints us vs l m (i + 1) hu hv (by simpa using h) q)
    · have ex : ¬ x = y := by simpa using e1
      rw [if_neg ex] at q
      by_cases hi : i = 0
      · subst hi
        exact PySem.W.kat_no (oneLt_int q)
      · have hb : (true && i == 0) = false := by simp [hi]
        refine PySem.W.kat_no ?_
        rw [hb]
        exact PySem.W.kat_one _ _ (PyProof.Rows.lt_int q)
theorem tups_cmp {vs : List Value} {d : Nat} {k : Value → List Int} (hp : ∀ v ∈ vs, TS.TupInts s.heap v (k v) ∧ (k v).length = d) : Cmp prog w A s (tuples' true) (fun p => p.1 ∈ vs) (lt2 fun v u => lexK d (k v) (k u)) := by
  intro p q hm hm'
  obtain ⟨h1, l1⟩ := hp _ hm
  obtain ⟨h2, l2⟩ := hp _ hm'
  show wpAny (model prog w) A (keyLt' (tuples' true) p.1 q.1) (fun r s' => s' = s ∧ r = lexK d (k p.1) (k q.1)) (fun _ _ => False) s
  have el : lexK d (k p.1) (k q.1) = lexLt (k p.1) (k q.1) := by
    unfold lexK
    rw [if_pos ⟨l1, l2⟩]
  rw [el]
  have ll := l1.trans l2.symm
  generalize k p.1 = l at h1 ll ⊢
  generalize k q.1 = m at h2 ll ⊢
  obtain ⟨a, xs, e, ⟨o, ho, hc, n, hd⟩, hi⟩ := h1
  obtain ⟨a', xs', e', ⟨o', ho', hc', n', hd'⟩, hi'⟩ := h2
  rw [e, e']
  refine PySem.W.kat_lt ho hd ho' hd' ?_
  have hs : (decide (xs.size < xs'.size)) = false := by
    have h1 := hi.length
    have h2 := hi'.length
    rw [Array.length_toList] at h1 h2
    exact decide_eq_false (by omega)
  rw [hs]
  exact kat_ints _ _ _ _ 0 hi hi' ll ⟨rfl, rfl⟩
theorem tupKeep {h h' : Heap} {v : Value} {ns : List Int} (x : TS.TupInts h v ns) (k : ∀ b o, h.get? b = some o → o.cls = .type "tuple" → h'.get? b = some o) : TS.TupInts h' v ns := by
  obtain ⟨a, xs, e, ⟨o, ho, hc, r⟩, hi⟩ := x
  exact ⟨a, xs, e, ⟨o, k _ _ ho hc, hc, r⟩, hi⟩
theorem firsts_tups {h : Heap} {d : Nat} (hd : 1 ≤ d) : ∀ {vs : List Value} {k : Value → List Int}, (∀ v ∈ vs, TS.TupInts h v (k v) ∧ (k v).length = d) → ∃ fs, PySem.W.KatTups h vs fs ∧ fs.length = vs.length ∧ ∀ f ∈ fs, ∃ x t, f = Value.int x t
  | [], _, _ => ⟨[], .nil, rfl, fun f hf => by cases hf⟩
  | v :: vs, k, hp => by
    obtain ⟨fs, h1, h2, h3⟩ := firsts_tups hd (vs := vs) (k := k) fun u hu => hp u (List.mem_cons_of_mem _ hu)
    obtain ⟨⟨a, xs, e, ⟨o, ho, hc, n, hdt⟩, hi⟩, l⟩ := hp v List.mem_cons_self
    have hlen : 0 < xs.toList.length := by rw [hi.length, l]; omega
    obtain ⟨f, hf⟩ : ∃ f, xs.toList[0]? = some f := ⟨xs.toList[0], List.getElem?_eq_getElem hlen⟩
    have hint : ∃ x t, f = Value.int x t := by
      clear l hlen
      generalize xs.toList = ys at hi hf
      generalize k v = kk at hi
      cases hi with
      | nil => cases hf
      | cons x t r =>
        cases hf
        exact ⟨x, t, rfl⟩
    refine ⟨f :: fs, ?_, congrArg (· + 1) h2, fun g hg => ?_⟩
    · rw [e]
      exact .cons ho hc hdt (by rw [← Array.getElem?_toList]; exact hf) h1
    · rcases List.mem_cons.mp hg with z | z
      · rw [z]; exact hint
      · exact h3 g z
theorem tups_sortableO {a : Addr} {vs : List Value} {d : Nat} {k : Value → List Int} (h0 : 0 < vs.length) (hd : 1 ≤ d) (hp : ∀ v ∈ vs, TS.TupInts s.heap v (k v) ∧ (k v).length = d) (ha : ∀ o, s.heap.get? a = some o → o.cls ≠ .type "tuple") : SortableO prog w A s a vs fun v u => lexK d (k v) (k u) := by
  intro h' keep
  have hp' : ∀ v ∈ vs, TS.TupInts h' v (k v) ∧ (k v).length = d := fun v hm => ⟨tupKeep (hp v hm).1 fun b o e c => keep b o (fun z => by subst z; exact ha o e c) e, (hp v hm).2⟩
  obtain ⟨fs, h1, h2, h3⟩ := firsts_tups hd hp'
  refine ⟨tuples' true, fun Q E hq => ?_, tups_cmp hp'⟩
  refine PySem.W.kat_kind (T := .type "int") h1 (by omega) (fun f hm => ?_) (by rfl) ?_
  · obtain ⟨x, t, rfl⟩ := h3 f hm
    exact PySem.W.Looks.now
  · have e : (Value.type "int" != Value.type "tuple") = true := by first | decide +kernel | rfl | decide
    rw [e]
    exact hq
/-- sorted(l) of tuples of d ints, any number of them -/
theorem sorted_tupsO {l : Addr} {vs : List Value} {d : Nat} {k : Value → List Int} {Q : Value → Shared → Prop} (hd : 1 ≤ d) (hl : s.heap.IsList l vs.toArray) (hz : vs.length ≤ sizeLine) (hp : ∀ v ∈ vs, TS.TupInts s.heap v (k v) ∧ (k v).length = d)
    (h : ∀ (h' : Heap) (dd : Addr) (out : List Value), Srtd (fun v u => lexK d (k v) (k u)) out → out.Perm vs → (∀ b o, s.heap.get? b = some o → h'.get? b = some o) → s.heap.objs.size ≤ dd → (∃ n, h'.get? dd = some (seqObj "list" out.toArray n)) → Q (.ref dd) { s with heap := h' }) :
    wpAny (model prog w) A (call (.builtin "sorted") [.ref l]) Q E s := by
  refine sorted_ord (swo_lexK d k) hl hz (fun h2 h₁ a ha kk => ?_) fun out hs hb => ?_
  · refine tups_sortableO (s := { s with heap := h₁ }) (by omega) hd (fun v hm => ⟨tupKeep (hp v hm).1 fun b o e _ => (kk b o e).2, (hp v hm).2⟩) fun o e => ?_
    have e' : some o = some (seqObj "list" vs.toArray 0) := e.symm.trans ha
    cases e'
    intro c
    exact absurd (Value.type.inj c) (by decide)
  · exact h _ _ out hs hb.perm (fun b o e => sortedAll_old e) (Nat.le_succ _) (sortedAll_at s.heap vs out.toArray)
end
end DLS

namespace DL
open PySem L2

abbrev tupI (ks : List Int) : D := .tup (ks.map D.int)
/-! ### sorted -/
def rSortedTs (K : PySem.W.Frag) : List V → Hp → VK → Prop := fun vs H Q => ∃ (a : Addr) (L : List (Addr × List Int)) (d : Nat), vs = [V.ref a] ∧ SqL K H a (L.map fun p => V.ref p.1) ∧ 1 ≤ d ∧ (∀ p ∈ L, SqT K H p.1 (p.2.map V.int) ∧ p.2.length = d) ∧
  ∀ (L' : List (Addr × List Int)) (p : Addr), L'.Perm L → L'.Pairwise (fun x y => HT.lexLt y.2 x.2 = false) → H p = none → Q (.ref p) (upd H p (.lst (L'.map fun p => V.ref p.1)))
theorem vals_refs : ∀ {L : List (Addr × List Int)} {us : List Value}, Vals (L.map fun p => V.ref p.1) us → us = L.map fun p => Value.ref p.1
  | [], _, .nil => rfl
  | p :: L, _, .cons r t => by
    cases r
    rw [vals_refs t]
    rfl
theorem refs_vals : ∀ (L : List (Addr × List Int)), Vals (L.map fun p => V.ref p.1) (L.map fun p => Value.ref p.1)
  | [] => .nil
  | p :: L => .cons rfl (refs_vals L)
def adr : Value → Addr
  | .ref a => a
  | _ => 0
theorem cr_sortedTs {X : Cx} : CallR X (.builtin "sorted") (rSortedTs X.K) := by
  intro pins s σ H vs us Q I r h
  obtain ⟨a, L, d, rfl, hs, hd, hL, q⟩ := h
  obtain ⟨its, rv, hl, hz⟩ := I.list hs
  obtain ⟨u, rfl, ru⟩ := vals1 r
  obtain rfl : u = Value.ref a := ru
  have eits := vals_refs rv
  have tup : ∀ p ∈ L, TS.TupInts s.heap (.ref p.1) p.2 := fun p hp => tupI_raw I (hL p hp).1
  have hk : ∀ v ∈ its, TS.TupInts s.heap v (TS.intsOf s.heap v) ∧ (TS.intsOf s.heap v).length = d := fun v hv => by
    rw [eits] at hv
    obtain ⟨p, hp, rfl⟩ := List.mem_map.mp hv
    rw [(tup p hp).ints]
    exact ⟨tup p hp, (hL p hp).2⟩
  refine DLS.sorted_tupsO hd hl.isList (by rw [← rv.length]; exact hz) hk fun h' dd out h1 h2 kp hdd hn => ?_
  obtain ⟨n, hn⟩ := hn
  -- the pairs of the values that came
  have eL : L = its.map fun v => (adr v, TS.intsOf s.heap v) := by
    rw [eits, List.map_map]
    have : ∀ p ∈ L, p = ((fun v => (adr v, TS.intsOf s.heap v)) ∘ fun p => Value.ref p.1) p := fun p hp => by
      show p = (p.1, TS.intsOf s.heap (.ref p.1))
      rw [(tup p hp).ints]
    calc L = L.map id := by simp
      _ = _ := List.map_congr_left this
  have perm : (out.map fun v => (adr v, TS.intsOf s.heap v)).Perm L := by
    have z := h2.map fun v => (adr v, TS.intsOf s.heap v)
    rw [← eL] at z
    exact z
  have eo : out = (out.map fun v => (adr v, TS.intsOf s.heap v)).map fun p => Value.ref p.1 := by
    rw [List.map_map]
    have : ∀ v ∈ out, v = ((fun p : Addr × List Int => Value.ref p.1) ∘ fun v => (adr v, TS.intsOf s.heap v)) v := fun v hv => by
      have hv := h2.mem_iff.mp hv
      rw [eits] at hv
      obtain ⟨p, hp, rfl⟩ := List.mem_map.mp hv
      rfl
    calc out = out.map id := by simp
      _ = _ := List.map_congr_left this
  have pw : (out.map fun v => (adr v, TS.intsOf s.heap v)).Pairwise fun x y => HT.lexLt y.2 x.2 = false := by
    rw [List.pairwise_map]
    refine List.Pairwise.imp_of_mem (fun {x y} hx hy hxy => ?_) h1
    have l1 := (hk x (h2.mem_iff.mp hx)).2
    have l2 := (hk y (h2.mem_iff.mp hy)).2
    have hxy : DLS.lexK d (TS.intsOf s.heap y) (TS.intsOf s.heap x) = false := hxy
    unfold DLS.lexK at hxy
    rw [if_pos ⟨l2, l1⟩] at hxy
    exact hxy
  have hlen : ((out.map fun v => (adr v, TS.intsOf s.heap v)).map fun p => V.ref p.1).length ≤ sizeLine := by
    rw [List.length_map, List.length_map, h2.length_eq, ← rv.length]
    exact hz
  exact ⟨.ref dd, upd H dd (.lst ((out.map fun v => (adr v, TS.intsOf s.heap v)).map fun p => V.ref p.1)), I.laid (o := .lst ((out.map fun v => (adr v, TS.intsOf s.heap v)).map fun p => V.ref p.1)) (t' := s.toks) kp hdd ⟨hlen, out, n, (congrArg (Vals _) eo.symm).mp (refs_vals _), hn⟩, rfl, q _ dd perm pw (I.hok.fresh hdd)⟩
def rdSortedT : D1s := fun ds M Q => ∃ (d : D) (Ls : List (List Int)) (n : Nat), ds = [d] ∧ sqD M d = some (Ls.map tupI) ∧ 1 ≤ n ∧ (∀ k ∈ Ls, k.length = n) ∧
  ∀ (Ls' : List (List Int)) (p : Addr), Ls'.Perm Ls → Ls'.Pairwise (fun x y => HT.lexLt y x = false) → M p = none → Q (.ref p) (mup M p (.lst (Ls'.map tupI)))
theorem tups_of {K : KTb} {M : Mp} {F H : Hp} (c : Cc K M F H) : ∀ {vs : List V} {Ls : List (List Int)}, Rps K F vs (Ls.map tupI) → ∃ L : List (Addr × List Int), vs = L.map (fun p => V.ref p.1) ∧ Ls = L.map (·.2) ∧ ∀ p ∈ L, SqT K.K H p.1 (p.2.map V.int) ∧ Rp K F (.ref p.1) (tupI p.2)
  | [], [], _ => ⟨[], rfl, rfl, fun p hp => by cases hp⟩
  | [], _ :: _, r => by cases r
  | _ :: _, [], r => by cases r
  | v :: vs, k :: Ls, r => by
    cases r with
    | cons r1 r2 =>
      obtain ⟨L, h1, h2, h3⟩ := tups_of c r2
      obtain ⟨a, us, rfl, h4, h5⟩ := tp_of c r1
      rw [h5.ints] at h4
      refine ⟨(a, k) :: L, by rw [h1]; rfl, by rw [h2]; rfl, fun p hp => ?_⟩
      rcases List.mem_cons.mp hp with e | hp
      · subst e
        exact ⟨h4, r1⟩
      · exact h3 p hp
theorem real_sortedT {K : KTb} : Real1 K (rSortedTs K.K) rdSortedT := fun F H M xs ds Qd Q c r ⟨d, Ls, n, e1, h, hn, hl, q⟩ k => by
  subst e1
  obtain ⟨v, rfl, rv⟩ := rps1 r
  obtain ⟨a, vs, rfl, h1, r1⟩ := sq_of c rv h
  obtain ⟨L, rfl, rfl, h3⟩ := tups_of c r1
  refine ⟨a, L, n, rfl, h1, hn, fun p hp => ⟨(h3 p hp).1, hl _ (List.mem_map.mpr ⟨p, hp, rfl⟩)⟩, fun L' p pm pw hp => ?_⟩
  have rr : ∀ L'' : List (Addr × List Int), (∀ p ∈ L'', p ∈ L) → Rps K F (L''.map fun p => V.ref p.1) ((L''.map (·.2)).map tupI) := by
    intro L''
    induction L'' with
    | nil => intro _; exact .nil
    | cons p L'' ih => intro hh; exact .cons (h3 p (hh p List.mem_cons_self)).2 (ih fun q hq => hh q (List.mem_cons_of_mem _ hq))
  exact k _ _ _ _ _ (Same.refl _) (c.newM (x := .lst ((L'.map (·.2)).map tupI)) hp ⟨_, rfl, rr L' fun p hp => pm.mem_iff.mp hp⟩) (.ref p) (q (L'.map (·.2)) p (pm.map _) (by rw [List.pairwise_map]; exact pw) (c.Mnone hp))
def rdSortedI : D1s := fun ds M Q => ∃ (d : D) (ns : List Int), ds = [d] ∧ sqD M d = some (ns.map D.int) ∧ ∀ (ns' : List Int) (p : Addr), ns'.Perm ns → ns'.Pairwise (· ≤ ·) → M p = none → Q (.ref p) (mup M p (.lst (ns'.map D.int)))
theorem real_sortedI {K : KTb} : Real1 K (rSortedI K.K) rdSortedI := fun F H M xs ds Qd Q c r ⟨d, ns, e1, h, q⟩ k => by
  subst e1
  obtain ⟨v, rfl, rv⟩ := rps1 r
  obtain ⟨a, vs, rfl, h1, r1⟩ := sq_of c rv h
  rw [r1.ints] at h1
  exact ⟨a, ns, rfl, h1, fun ns' p pm pw hp => k _ _ _ _ _ (Same.refl _) (c.newM (x := .lst (ns'.map D.int)) hp ⟨_, rfl, Rps.ofInts ns'⟩) (.ref p) (q ns' p pm pw (c.Mnone hp))⟩
theorem CallR.orr {X : Cx} {f : Value} {r r' : List V → Hp → VK → Prop} (h : CallR X f r) (h' : CallR X f r') : CallR X f (fun x H Q => r x H Q ∨ r' x H Q) := by
  intro pins s σ H xs us Q I r1 q
  rcases q with q | q
  · exact h pins s σ H xs us Q I r1 q
  · exact h' pins s σ H xs us Q I r1 q
theorem Real1.orr {K : KTb} {r r' : List V → Hp → VK → Prop} {rd rd' : D1s} (h : Real1 K r rd) (h' : Real1 K r' rd') : Real1 K (fun x H Q => r x H Q ∨ r' x H Q) (fun ds M Q => rd ds M Q ∨ rd' ds M Q) := fun F H M xs ds Qd Q c rr q k =>
  q.imp (fun q => h F H M xs ds Qd Q c rr q k) fun q => h' F H M xs ds Qd Q c rr q k
/-- sorted of ints, of tuples of ints: a cell -/
def rdSorted : D1s := fun ds M Q => rdSortedI ds M Q ∨ rdSortedT ds M Q
section
variable {X : Cx} {W : WT} {e a b : Expr} {es : List Expr} {pos : Pos}
theorem de_sorted {x : Str} {p : Pos} {t : DTA} (hm : X.mg x = none) (hv : bootBuiltins x = some (.builtin "sorted")) (ha : DA X W (e :: es) t) (hg : Gl X x := by rfl) (hn : x ≠ "__name__" := by decide) (hdb : (x == ("__debug__" : Str)) = false := by decide)
    (he : starEach (e :: es) X.env = (false, eval e X.env) :: starEach es X.env := by rfl) (hpl : (backTo pos (starEach es X.env)).any (·.1) = false := by rfl) : DE X W (.Call (.Name x p) (e :: es) [] pos) (dCB rdSorted t) :=
  de_callB (CallR.orr cr_sortedI cr_sortedTs) (real_sortedI.orr real_sortedT) hg hm hv ha hn hdb he hpl
/-- a cell handed on is frozen -/
def dFrz (t : DTE) : DTE := fun Γ M Q E => t Γ M (fun d M1 => ∃ p xs, d = .ref p ∧ M1 p = some (.lst xs) ∧ Q (.lst xs) (mdel M1 p)) E
theorem de_frz {t : DTE} (h : DE X W e t) : DE X W e (dFrz t) := ⟨peW h.pe fun σ H Q ⟨Γ, M, F, E, Qd, a, q, k⟩ => ⟨Γ, M, F, E, _, a, q, fun F1 H1 v d M1 s1 c1 r1 ⟨p, xs, e1, e2, q1⟩ => by
  subst e1
  cases r1
  obtain ⟨F2, s2, c2, r2⟩ := c1.freeze e2
  exact k F2 H1 _ _ _ (s1.trans s2) c2 r2 q1⟩⟩
/-- list(xs), list(t): a cell -/
def rdList : D1s := fun ds M Q => ∃ d xs, ds = [d] ∧ seqD M d = some xs ∧ ∀ p, M p = none → Q (.ref p) (mup M p (.lst xs))
end
end DL

namespace DLS
open PySem PySem.W PySem.SeqAt PyProof.Rows L2
/-! ### max(a, b), min(a, b) of two tuples of ints -/
theorem reads_ints {h : Heap} : ∀ {us : List Value} {ns : List Int}, IntsAre us ns → ReadsAll h us (ns.map .int) []
  | _, _, .nil => .nil
  | _, _, .cons n t r => ReadsAll.cons (.int n t) (reads_ints r)
theorem alike_ints : ∀ {ns ms : List Int}, ns.length = ms.length → alikeAll (ns.map .int) (ms.map .int) = true
  | [], [], _ => by simp [alikeAll]
  | n :: ns, m :: ms, e => by
    have := alike_ints (ns := ns) (ms := ms) (by simpa using e)
    simp [alikeAll, alike, this]
theorem toks_ints : ∀ (ns ms : List Int), ns.length = ms.length → PyProof.Rows.lexLt itemOrd (keyToksAll (ns.map .int)) (keyToksAll (ms.map .int)) = HT.lexLt ns ms
  | [], [], _ => by
    simp [keyToksAll, PyProof.Rows.lexLt, HT.lexLt]
    try decide
  | n :: ns, m :: ms, e => by
    have ih := toks_ints ns ms (by simpa using e)
    show PyProof.Rows.lexLt itemOrd (keyToksAll (PyData.int n :: ns.map .int)) (keyToksAll (PyData.int m :: ms.map .int)) = _
    rw [dataLt_cons (by simp [alike]), HT.lexLt_cons, ih, dataLt_int]
    by_cases h : n = m
    · simp [PyData.eqv, h]
    · simp [PyData.eqv, h]
theorem depth_ints : ∀ (ns : List Int), PyData.depthAll (ns.map .int) = 0
  | [] => by simp [PyData.depthAll]
  | n :: ns => by
    have := depth_ints ns
    simp only [List.map_cons, PyData.depthAll, PyData.depth, this]
    rfl
theorem reads_tupInts {h : Heap} {v : Value} {ns : List Int} (x : TS.TupInts h v ns) : Reads h v (.tuple (ns.map .int)) [] := by
  obtain ⟨a, xs, rfl, ⟨o, ho, hc, n, hd⟩, i⟩ := x
  exact .tuple ho hc hd (reads_ints i)
section
variable {prog : Program} {w : World} {A : Around} {E : Value → Shared → Prop} {s : Shared}
theorem call_max_twoH {a b : Value} {Q : Value → Shared → Prop}
    (h : wpAny (model prog w) A.in1 (pyIter (.ref s.heap.objs.size)) (fun it s₂ => ∃ I fp wr G n P St H bt, it = .ref I ∧ WalksS prog w A.in1 I fp wr G n P St ∧ St 0 s₂ ∧ (∀ b ∈ fp, b < s₂.heap.objs.size) ∧ 0 < n ∧
      (∀ b o, H.get? b = some o → b ∉ wr) ∧ (∀ b o, H.get? b = some o → s₂.heap.get? b = some o) ∧ CmpIn prog w A.in1 .Gt H P bt ∧ ∀ v s', P (argBest bt (n - 1)) v → Moved wr G s₂ s' → Q v s') E
      { s with heap := s.heap.push { cls := .type "tuple", data := .seq #[a, b] } }) :
    wpAny (model prog w) A (call (.builtin "max") [a, b]) Q E s := by
  have hname : (toString "max" ++ toString ".loop" : String) = "max.loop" := by decide
  refine call_function_tree F.kind_max F.plain_max F.entry_max (F.args_max2 _ _) ?_
  show wpAny _ A.in1 (Builtin.Builtins.bindParams "max" ["key", "default"] 0 ⟨[], []⟩ >>= _) _ _ s
  refine wpAny_bind (wpAny_of_eq (show Builtin.Builtins.bindParams "max" ["key", "default"] 0 ⟨[], []⟩ = pure [none, none] from rfl) ?_)
  show wpAny _ A.in1 (newTuple [a, b] >>= _) _ _ s
  refine wpAny_bind (wpAny_newObj_type ?_)
  refine wpAny_bind (wpAny_mono h (fun it s₂ h₂ => ?_) fun _ _ e => e)
  obtain ⟨I, fp, wr, G, n, P, St, H, bt, rfl, W, hst, hfp, hn, hw, hkeep, hcmp, hQ⟩ := h₂
  refine wpAny_bind (wpAny_newObj_type ?_)
  have hSf : s₂.heap.objs.size ∉ fp := fun hm => Nat.lt_irrefl _ (hfp _ hm)
  rw [hname]
  refine wpAny_pure ⟨plainId_quiet F.plain_max_loop _, codeAny_max_loop_firstH W H hw bt hcmp s₂.heap.objs.size hSf (fresh_in hkeep) _ hn (fun b o e => Heap.get?_push_of_some _ (hkeep b o e)) (W.frame 0 s₂ _ s₂.toks hst (Nat.le_refl _) fun b _ o e => Heap.get?_push_of_some _ e) (Heap.get?_push_size _ rfl) fun v s' hP hm => ?_⟩
  exact hQ v s' hP (Moved.drop_new (tk := s₂.toks) hm (Nat.le_refl _))
theorem call_min_twoH {a b : Value} {Q : Value → Shared → Prop}
    (h : wpAny (model prog w) A.in1 (pyIter (.ref s.heap.objs.size)) (fun it s₂ => ∃ I fp wr G n P St H bt, it = .ref I ∧ WalksS prog w A.in1 I fp wr G n P St ∧ St 0 s₂ ∧ (∀ b ∈ fp, b < s₂.heap.objs.size) ∧ 0 < n ∧
      (∀ b o, H.get? b = some o → b ∉ wr) ∧ (∀ b o, H.get? b = some o → s₂.heap.get? b = some o) ∧ CmpIn prog w A.in1 .Lt H P bt ∧ ∀ v s', P (argBest bt (n - 1)) v → Moved wr G s₂ s' → Q v s') E
      { s with heap := s.heap.push { cls := .type "tuple", data := .seq #[a, b] } }) :
    wpAny (model prog w) A (call (.builtin "min") [a, b]) Q E s := by
  have hname : (toString "min" ++ toString ".loop" : String) = "min.loop" := by decide
  refine call_function_tree F.kind_min F.plain_min F.entry_min (F.args_min2 _ _) ?_
  show wpAny _ A.in1 (Builtin.Builtins.bindParams "min" ["key", "default"] 0 ⟨[], []⟩ >>= _) _ _ s
  refine wpAny_bind (wpAny_of_eq (show Builtin.Builtins.bindParams "min" ["key", "default"] 0 ⟨[], []⟩ = pure [none, none] from rfl) ?_)
  show wpAny _ A.in1 (newTuple [a, b] >>= _) _ _ s
  refine wpAny_bind (wpAny_newObj_type ?_)
  refine wpAny_bind (wpAny_mono h (fun it s₂ h₂ => ?_) fun _ _ e => e)
  obtain ⟨I, fp, wr, G, n, P, St, H, bt, rfl, W, hst, hfp, hn, hw, hkeep, hcmp, hQ⟩ := h₂
  refine wpAny_bind (wpAny_newObj_type ?_)
  have hSf : s₂.heap.objs.size ∉ fp := fun hm => Nat.lt_irrefl _ (hfp _ hm)
  rw [hname]
  refine wpAny_pure ⟨plainId_quiet F.plain_min_loop _, codeAny_min_loop_firstH W H hw bt hcmp s₂.heap.objs.size hSf (fresh_in hkeep) _ hn (fun b o e => Heap.get?_push_of_some _ (hkeep b o e)) (W.frame 0 s₂ _ s₂.toks hst (Nat.le_refl _) fun b _ o e => Heap.get?_push_of_some _ e) (Heap.get?_push_size _ rfl) fun v s' hP hm => ?_⟩
  exact hQ v s' hP (Moved.drop_new (tk := s₂.toks) hm (Nat.le_refl _))
theorem alike_two {ns ms : List Int} (e : ns.length = ms.length) : AlikeAll [.tuple (ns.map .int), .tuple (ms.map .int)] := by
  have h : ∀ x ∈ [ns, ms], ∀ y ∈ [ns, ms], alike (.tuple (x.map .int)) (.tuple (y.map .int)) = true := fun x hx y hy => by
    have : x.length = y.length := by
      simp only [List.mem_cons, List.not_mem_nil, or_false] at hx hy
      rcases hx with rfl | rfl <;> rcases hy with rfl | rfl <;> first | rfl | exact e | exact e.symm
    simp [alike, alike_ints this]
  refine ⟨fun x hx y hy => ?_, fun x hx => ?_⟩
  · simp only [List.mem_cons, List.not_mem_nil, or_false] at hx hy
    rcases hx with rfl | rfl <;> rcases hy with rfl | rfl <;> exact h _ (by simp) _ (by simp)
  · simp only [List.mem_cons, List.not_mem_nil, or_false] at hx
    rcases hx with rfl | rfl <;> simp
theorem reads_two {h : Heap} {a b : Value} {ns ms : List Int} (ha : TS.TupInts h a ns) (hb : TS.TupInts h b ms) : ReadsAll h [a, b] [.tuple (ns.map .int), .tuple (ms.map .int)] [] :=
  ReadsAll.cons (reads_tupInts ha) (ReadsAll.cons (reads_tupInts hb) .nil)
theorem lt_two (ns ms : List Int) (e : ns.length = ms.length) : dataLt (.tuple (ns.map .int)) (.tuple (ms.map .int)) = HT.lexLt ns ms := by
  rw [dataLt_tuple, toks_ints ns ms e]
theorem max_two_tups {a b : Value} {ns ms : List Int} {Q : Value → Shared → Prop} (hh : A.handled = none) (hu : A.units + 8 < cLine) (ha : TS.TupInts s.heap a ns) (hb : TS.TupInts s.heap b ms) (e : ns.length = ms.length)
    (h : ∀ h' tk, (∀ c o, s.heap.get? c = some o → h'.get? c = some o) → Q (if HT.lexLt ns ms then b else a) { s with heap := h', toks := tk }) :
    wpAny (model prog w) A (call (.builtin "max") [a, b]) Q E s := by
  have hT : (s.heap.push { cls := .type "tuple", data := .seq #[a, b] }).IsTuple s.heap.objs.size #[a, b] := ⟨_, Heap.get?_push_size _ rfl, rfl, 0, rfl⟩
  refine call_max_twoH ?_
  refine iter_tupleW (A := A.in1) hh hT fun s₂ e2 W st hfp hw hk => ?_
  have kp' : ∀ x o, s.heap.get? x = some o → (s.heap.push { cls := .type "tuple", data := .seq #[a, b] }).get? x = some o := fun b o e => Heap.get?_push_of_some _ e
  have dd : PyData.depthAll [.tuple (ns.map .int), .tuple (ms.map .int)] ≤ 1 := by
    simp [PyData.depthAll, PyData.depth, depth_ints]
  refine ⟨_, _, _, _, _, _, _, s.heap, _, rfl, W, st, hfp, by simp, fun b o e => hw b o (kp' b o e), fun b o e => hk b o (kp' b o e), cmpIn_gt (A := A.in1) (as := []) (xs := [.tuple (ns.map .int), .tuple (ms.map .int)]) (reads_two ha hb) (alike_two e) (by show A.units + 1 + _ < _; omega), fun v s' hP m => ?_⟩
  obtain ⟨h', tk, rfl, hk'⟩ := moved_old e2 rfl m
  have := h h' tk fun c o e => hk' c o (kp' c o e)
  have hv : v = if HT.lexLt ns ms then b else a := by
    have hP' : (#[a, b] : Array Value)[argBest (fun i j => dataLt (([PyData.tuple (ns.map .int), .tuple (ms.map .int)] : List PyData).getD j .none) (([PyData.tuple (ns.map .int), .tuple (ms.map .int)] : List PyData).getD i .none)) 1]? = some v := hP
    by_cases c : HT.lexLt ns ms = true
    · have e1 : argBest (fun i j => dataLt (([PyData.tuple (ns.map .int), .tuple (ms.map .int)] : List PyData).getD j .none) (([PyData.tuple (ns.map .int), .tuple (ms.map .int)] : List PyData).getD i .none)) 1 = 1 := by
        simp [argBest, lt_two ns ms e, c]
      rw [e1] at hP'
      simpa [c] using hP'.symm
    · have e1 : argBest (fun i j => dataLt (([PyData.tuple (ns.map .int), .tuple (ms.map .int)] : List PyData).getD j .none) (([PyData.tuple (ns.map .int), .tuple (ms.map .int)] : List PyData).getD i .none)) 1 = 0 := by
        simp [argBest, lt_two ns ms e, c]
      rw [e1] at hP'
      simpa [c] using hP'.symm
  rw [hv]
  exact this
theorem min_two_tups {a b : Value} {ns ms : List Int} {Q : Value → Shared → Prop} (hh : A.handled = none) (hu : A.units + 8 < cLine) (ha : TS.TupInts s.heap a ns) (hb : TS.TupInts s.heap b ms) (e : ns.length = ms.length)
    (h : ∀ h' tk, (∀ c o, s.heap.get? c = some o → h'.get? c = some o) → Q (if HT.lexLt ms ns then b else a) { s with heap := h', toks := tk }) :
    wpAny (model prog w) A (call (.builtin "min") [a, b]) Q E s := by
  have hT : (s.heap.push { cls := .type "tuple", data := .seq #[a, b] }).IsTuple s.heap.objs.size #[a, b] := ⟨_, Heap.get?_push_size _ rfl, rfl, 0, rfl⟩
  refine call_min_twoH ?_
  refine iter_tupleW (A := A.in1) hh hT fun s₂ e2 W st hfp hw hk => ?_
  have kp' : ∀ x o, s.heap.get? x = some o → (s.heap.push { cls := .type "tuple", data := .seq #[a, b] }).get? x = some o := fun b o e => Heap.get?_push_of_some _ e
  have dd : PyData.depthAll [.tuple (ns.map .int), .tuple (ms.map .int)] ≤ 1 := by
    simp [PyData.depthAll, PyData.depth, depth_ints]
  refine ⟨_, _, _, _, _, _, _, s.heap, _, rfl, W, st, hfp, by simp, fun b o e => hw b o (kp' b o e), fun b o e => hk b o (kp' b o e), cmpIn_lt (A := A.in1) (as := []) (xs := [.tuple (ns.map .int), .tuple (ms.map .int)]) (reads_two ha hb) (alike_two e) (by show A.units + 1 + _ < _; omega), fun v s' hP m => ?_⟩
  obtain ⟨h', tk, rfl, hk'⟩ := moved_old e2 rfl m
  have := h h' tk fun c o e => hk' c o (kp' c o e)
  have hv : v = if HT.lexLt ms ns then b else a := by
    have hP' : (#[a, b] : Array Value)[argBest (fun i j => dataLt (([PyData.tuple (ns.map .int), .tuple (ms.map .int)] : List PyData).getD i .none) (([PyData.tuple (ns.map .int), .tuple (ms.map .int)] : List PyData).getD j .none)) 1]? = some v := hP
    by_cases c : HT.lexLt ms ns = true
    · have e1 : argBest (fun i j => dataLt (([PyData.tuple (ns.map .int), .tuple (ms.map .int)] : List PyData).getD i .none) (([PyData.tuple (ns.map .int), .tuple (ms.map .int)] : List PyData).getD j .none)) 1 = 1 := by
        simp [argBest, lt_two ms ns e.symm, c]
      rw [e1] at hP'
      simpa [c] using hP'.symm
    · have e1 : argBest (fun i j => dataLt (([PyData.tuple (ns.map .int), .tuple (ms.map .int)] : List PyData).getD i .none) (([PyData.tuple (ns.map .int), .tuple (ms.map .int)] : List PyData).getD j .none)) 1 = 0 := by
        simp [argBest, lt_two ms ns e.symm, c]
      rw [e1] at hP'
      simpa [c] using hP'.symm
  rw [hv]
  exact this
end
end DLS
namespace DL
open PySem L2
def rTwoT (K : PySem.W.Frag) (g : List Int → List Int → Bool) : List V → Hp → VK → Prop := fun vs H Q => ∃ (a b : Addr) (ns ms : List Int), vs = [V.ref a, V.ref b] ∧ SqT K H a (ns.map V.int) ∧ SqT K H b (ms.map V.int) ∧ ns.length = ms.length ∧ Q (if g ns ms then .ref b else .ref a) H
theorem cr_max2T {X : Cx} (hc : X.calm = true) (hu : X.A.units + 8 < cLine) : CallR X (.builtin "max") (rTwoT X.K fun x y => HT.lexLt x y) := by
  intro pins s σ H vs us Q I r h
  obtain ⟨a, b, ns, ms, rfl, ha, hb, e, q⟩ := h
  obtain ⟨u, w', rfl, r1, r2⟩ := vals2 r
  obtain rfl : u = Value.ref a := r1
  obtain rfl : w' = Value.ref b := r2
  refine DLS.max_two_tups (I.ok.hd hc) hu (tupI_raw I ha) (tupI_raw I hb) e fun h' tk k => ⟨_, H, I.kept k, ?_, q⟩
  by_cases hj : HT.lexLt ns ms = true
  · rw [if_pos hj, if_pos hj]; rfl
  · rw [if_neg hj, if_neg hj]; rfl
theorem cr_min2T {X : Cx} (hc : X.calm = true) (hu : X.A.units + 8 < cLine) : CallR X (.builtin "min") (rTwoT X.K fun x y => HT.lexLt y x) := by
  intro pins s σ H vs us Q I r h
  obtain ⟨a, b, ns, ms, rfl, ha, hb, e, q⟩ := h
  obtain ⟨u, w', rfl, r1, r2⟩ := vals2 r
  obtain rfl : u = Value.ref a := r1
  obtain rfl : w' = Value.ref b := r2
  refine DLS.min_two_tups (I.ok.hd hc) hu (tupI_raw I ha) (tupI_raw I hb) e fun h' tk k => ⟨_, H, I.kept k, ?_, q⟩
  by_cases hj : HT.lexLt ms ns = true
  · rw [if_pos hj, if_pos hj]; rfl
  · rw [if_neg hj, if_neg hj]; rfl
def rdTwoT (g : List Int → List Int → Bool) : D1s := fun ds M Q => ∃ ns ms : List Int, ds = [tupI ns, tupI ms] ∧ ns.length = ms.length ∧ Q (if g ns ms then tupI ms else tupI ns) M
theorem real_twoT {K : KTb} {g : List Int → List Int → Bool} : Real1 K (rTwoT K.K g) (rdTwoT g) := fun F H M xs ds Qd Q c r ⟨ns, ms, e1, h, q⟩ k => by
  subst e1
  obtain ⟨v, w, rfl, r1, r2⟩ : ∃ v w, xs = [v, w] ∧ Rp K F v (tupI ns) ∧ Rp K F w (tupI ms) := by
    cases r with
    | cons r1 r2 => cases r2 with
      | cons r3 r4 => cases r4; exact ⟨_, _, rfl, r1, r3⟩
  obtain ⟨a, us, rfl, h4, h5⟩ := tp_of c r1
  obtain ⟨b, us2, rfl, h6, h7⟩ := tp_of c r2
  rw [h5.ints] at h4
  rw [h7.ints] at h6
  refine ⟨a, b, ns, ms, rfl, h4, h6, h, ?_⟩
  by_cases g1 : g ns ms = true
  · rw [if_pos g1] at q ⊢
    exact k _ _ _ _ _ (Same.refl _) c r2 q
  · rw [if_neg g1] at q ⊢
    exact k _ _ _ _ _ (Same.refl _) c r1 q
/-- max of two: ints or tuples of ints -/
def rdMax2 : D1s := fun ds M Q => rdInt2 (fun i j => if j > i then j else i) ds M Q ∨ rdTwoT (fun x y => HT.lexLt x y) ds M Q
def rdMin2 : D1s := fun ds M Q => rdInt2 (fun i j => if j < i then j else i) ds M Q ∨ rdTwoT (fun x y => HT.lexLt y x) ds M Q
end DL

namespace DL
open PySem L2
section
variable {X : Cx} {W : WT} {e : Expr} {pos : Pos}
open PyProof.Rows in
theorem pget_list : PGet X (rIxL X.K) := by
  intro pins s σ H x y v u Q I rx ry h
  obtain ⟨p, xs, i, z, rfl, rfl, hq, he, q⟩ := h
  cases rx
  obtain ⟨t, rfl⟩ := ry
  obtain ⟨its, r, pl, hz⟩ := I.list hq
  obtain ⟨j, h1, h2, h3, h4, h5⟩ := atI_get he
  obtain ⟨w, ew, rw'⟩ := r.get h2
  have hl := r.length
  have hn := line63
  have fin : EP X pins σ Q w s := ⟨z, H, I, rw', q⟩
  by_cases h0 : 0 ≤ i
  · have hj : i.toNat = j := by
      rw [seqIndex_of h0 h5] at h1
      exact Option.some.inj h1
    exact wpAny_getItem_list pl.isList h0 (by omega) (by rw [hj]; simpa using ew) fin
  · have hj : (i + (its.toArray.size : Int)).toNat = j := by
      rw [seqIndex_neg (by omega) h4] at h1
      rw [List.size_toArray, ← hl]
      exact Option.some.inj h1
    exact wpAny_getItem_list_neg pl.isList (by omega) (by rw [List.size_toArray] <;> omega) (by omega) (by rw [hj]; simpa using ew) fin
/-- o[i] op= e: a list's cell, ints -/
def dAugS (to ti te : DTE) (g : Int → Int → Int) : DTS := fun Dn Γ M => to Γ M (fun o M1 => ti Γ M1 (fun i M2 => ∃ p xs k j a, o = .ref p ∧ i = .int k ∧ M2 p = some (.lst xs) ∧ ixN xs.length k = some j ∧ atI xs k = some (.int a) ∧
  te Γ M2 (fun y M3 => ∃ b ys, y = .int b ∧ M3 p = some (.lst ys) ∧ ixN ys.length k = some j ∧ Dn.nx Γ (mup M3 p (.lst (ys.set j (.int (g a b)))))) Dn.ex) Dn.ex) Dn.ex
theorem ds_augS {o i e : Expr} {to ti te : DTE} {op : Operator} {tpos : Pos} {g : Int → Int → Int} (ho : DE X W o to) (hi : DE X W i ti) (he : DE X W e te) (hp : PIp X op (ipI g))
    (ha : ∀ ov iv new, augStore i ov iv new = (do holding [new, ov, iv] (setItem ov iv new); release [new, ov, iv] []; pure .next) := by intros; rfl) : DS X W (.AugAssign (.Subscript o i tpos) op e pos) (dAugS to ti te g) :=
  ⟨psW (ps_augS ho.pe hi.pe pget_list he.pe hp set_list ha) fun E σ H ⟨Γ, M, F, Dn, a, q, k⟩ => ⟨Γ, M, F, _, _, a, q, fun F1 H1 v d M1 s1 c1 r1 q1 => ⟨Γ, M1, F1, _, _, a.next s1 c1, q1, fun F2 H2 w e M2 s2 c2 r2 ⟨p, xs, kk, j, x, e1, e2, e3, hj, hx, q2⟩ => by
    subst e1
    subst e2
    cases r1
    cases r2
    obtain ⟨f, o, e4, us, e5, r5⟩ := c2.ow _ _ e3
    subst e5
    obtain ⟨z, h2, rz⟩ := atI_of r5 hx
    cases rz
    refine ⟨p, us, kk, _, rfl, rfl, .inl (.inl e4), h2, ?_⟩
    refine ⟨Γ, M2, F2, _, _, a.next (s1.trans s2) c2, q2, fun F3 H3 y d M3 s3 c3 r3 ⟨b, ys, e6, e7, hj2, q3⟩ => ?_⟩
    subst e6
    cases r3
    obtain ⟨f3, o3, e8, us3, e9, r9⟩ := c3.ow _ _ e7
    subst e9
    refine ⟨x, b, rfl, rfl, p, us3, kk, j, rfl, rfl, e8, by rw [r9.length]; exact hj2, ?_⟩
    exact k.nx _ _ _ _ _ ((s1.trans s2).trans s3) (c3.write (x := .lst _) e7 ⟨_, rfl, r9.set (.int _) j⟩) (a.g.mono ((s1.trans s2).trans s3)) q3⟩⟩⟩
end
theorem Room.un65 {k : Nat} {A : Around} (r : Room k A) : A.units + 65 < cLine := by have := r.un; omega
theorem Room.un8 {k : Nat} {A : Around} (r : Room k A) : A.units + 8 < cLine := by have := r.un; omega
/-- list(xs), list(t): a cell; frozen -/
theorem real_list {K : KTb} : Real1 K (fun xs H Q => ∃ p ys, xs = [.ref p] ∧ (SqL K.K H p ys ∨ SqT K.K H p ys) ∧ ∀ l, H l = none → Q (.ref l) (upd H l (.lst ys))) rdList := fun F H M xs ds Qd Q c r ⟨d, ys, e1, h, q⟩ k => by
  subst e1
  obtain ⟨v, rfl, rv⟩ := rps1 r
  have go : ∃ p vs, v = .ref p ∧ (SqL K.K H p vs ∨ SqT K.K H p vs) ∧ Rps K F vs ys := by
    unfold seqD at h
    cases e : tpD d with
    | some zs =>
      rw [e] at h
      cases h
      obtain rfl := tpD_eq e
      obtain ⟨a, vs, rfl, h1, r1⟩ := tp_of c rv
      exact ⟨a, vs, rfl, .inr h1, r1⟩
    | none =>
      rw [e] at h
      obtain ⟨a, vs, rfl, h1, r1⟩ := sq_of c rv h
      exact ⟨a, vs, rfl, .inl h1, r1⟩
  obtain ⟨p, vs, rfl, h1, r1⟩ := go
  exact ⟨p, vs, rfl, h1, fun l hl => k _ _ _ _ _ (Same.refl _) (c.newM (x := .lst ys) hl ⟨_, rfl, r1⟩) (.ref l) (q l (c.Mnone hl))⟩
end DL

namespace DL
open PySem L2
theorem real_ipI {K : KTb} {g : Int → Int → Int} : Real2 K (ipI g) (rdI fun i j => .int (g i j)) := fun F H M x y d e Qd Q c rx ry ⟨i, j, e1, e2, q⟩ k => by
  subst e1
  subst e2
  cases rx
  cases ry
  exact ⟨i, j, rfl, rfl, k F H _ _ M (Same.refl _) c (.int _) q⟩
section
variable {X : Cx} {W : WT} {pos : Pos}
theorem de_globI {x : Str} {i : Int} (hm : ∃ t, X.mg x = some (.int i t)) (hg : Gl X x := by rfl) (hd : (x == ("__debug__" : Str)) = false := by decide) : DE X W (.Name x pos) (dC (.int i)) := by
  obtain ⟨t, hm⟩ := hm
  exact de_glob hg hm (v := .int i) ⟨t, rfl⟩ (fun _ => .int i) hd
end
section
variable {X : Cx} {W : WT} {a b c d : Expr} {pos : Pos}
open PyProof.Rows in
/-- a op b op c op d -/
def tChain3 (r r' r'' : R2) (ta tb tc td : TE) : TE := fun σ H Q => ta σ H fun x H1 => tb σ H1 fun y H2 => r x y H2 fun z H3 => ∃ k, z = .bl k ∧
  (if k = true then tc σ H3 fun w H4 => r' y w H4 fun z H5 => ∃ k, z = .bl k ∧ (if k = true then td σ H5 fun u H6 => r'' w u H6 Q else Q (.bl false) H5) else Q (.bl false) H3)
open PyProof.Rows in
theorem pe_chain3 {op op' op2 : CmpOp} {r r' r2 : R2} {ta tb tc td : TE} (ho : OpR X (compareOp op) r) (ho' : OpR X (compareOp op') r') (ho2 : OpR X (compareOp op2) r2) (ha : PE X a ta) (hb : PE X b tb) (hc : PE X c tc) (hd : PE X d td)
    (hm : lastMarks [op, op', op2] [b, c, d] = false := by with_unfolding_all rfl) : PE X (.Compare a [op, op', op2] [b, c, d] pos) (tChain3 r r' r2 ta tb tc td) := by
  refine ⟨fun pins s σ H Q I h => ?_⟩
  refine Compare_chain (thn (ha.run pins s σ H _ I h) fun v s1 ⟨x, H1, I1, r1, q1⟩ => chain_link (thn (hb.run pins s1 σ H1 _ I1 q1) fun u s2 ⟨y, H2, I2, r2, q2⟩ =>
    thn (ho pins s2 σ H2 x y v u _ I2 r1 r2 q2) fun d s3 ⟨z, H3, I3, r3, k, e, q3⟩ => ?_)) hm
  subst e
  cases r3
  refine wpAny_truthy_bool ?_
  cases k with
  | false => exact ite_ff ⟨.bl false, H3, I3, rfl, q3⟩
  | true =>
    refine ite_tt (chain_link (thn (hc.run pins s3 σ H3 _ I3 q3) fun w' s4 ⟨z', H4, I4, r4, q4⟩ => thn (ho' pins s4 σ H4 y z' u w' _ I4 r2 r4 q4) fun d2 s5 ⟨z2, H5, I5, r5, k2, e2, q5⟩ => ?_))
    subst e2
    cases r5
    refine wpAny_truthy_bool ?_
    cases k2 with
    | false => exact ite_ff ⟨.bl false, H5, I5, rfl, q5⟩
    | true => exact ite_tt (chain_last (thn (hd.run pins s5 σ H5 _ I5 q5) fun w3 s6 ⟨z3, H6, I6, r6, q6⟩ => ho2 pins s6 σ H6 z' z3 w' w3 Q I6 r4 r6 q6))
def dChain3 (rd rd' rd2 : D2) (ta tb tc td : DTE) : DTE := fun Γ M Q E => ta Γ M (fun x M1 => tb Γ M1 (fun y M2 => rd x y M2 (fun z M3 => ∃ k, z = .bl k ∧
  (if k = true then tc Γ M3 (fun w M4 => rd' y w M4 (fun z M5 => ∃ k, z = .bl k ∧ (if k = true then td Γ M5 (fun u M6 => rd2 w u M6 Q) E else Q (.bl false) M5))) E else Q (.bl false) M3))) E) E
theorem upChain3 {r r' r2 : R2} {rd rd' rd2 : D2} {ta tb tc td : DTE} {σ : St} {H : Hp} {Q : VK} (hr : Real2 (kt X W) r rd) (hr' : Real2 (kt X W) r' rd') (hr2 : Real2 (kt X W) r2 rd2) (h : upE (kt X W) W.w (dChain3 rd rd' rd2 ta tb tc td) σ H Q) : tChain3 r r' r2 (upE (kt X W) W.w ta) (upE (kt X W) W.w tb) (upE (kt X W) W.w tc) (upE (kt X W) W.w td) σ H Q := by
  obtain ⟨Γ, M, F, E, Qd, a, q, k⟩ := h
  refine ⟨Γ, M, F, E, _, a, q, fun F1 H1 v d M1 s1 c1 r1 q1 => ⟨Γ, M1, F1, E, _, a.next s1 c1, q1, fun F2 H2 w e M2 s2 c2 r2 q2 => hr F2 H2 M2 v w d e _ _ c2 (r1.mono s2) r2 q2 fun F3 H3 z dz M3 s3 c3 r3 ⟨b, eb, q3⟩ => ?_⟩⟩
  subst eb
  cases r3
  refine ⟨b, rfl, ?_⟩
  cases b with
  | false =>
    rw [if_neg Bool.false_ne_true] at q3 ⊢
    exact k F3 H3 _ _ M3 ((s1.trans s2).trans s3) c3 (.bl false) q3
  | true =>
    rw [if_pos rfl] at q3 ⊢
    refine ⟨Γ, M3, F3, E, _, a.next ((s1.trans s2).trans s3) c3, q3, fun F4 H4 u f M4 s4 c4 r4 q4 => hr' F4 H4 M4 w u e f _ _ c4 (r2.mono (s3.trans s4)) r4 q4 fun F5 H5 z5 d5 M5 s5 c5 r5 ⟨b5, eb5, q5⟩ => ?_⟩
    subst eb5
    cases r5
    refine ⟨b5, rfl, ?_⟩
    have s15 := (((s1.trans s2).trans s3).trans s4).trans s5
    cases b5 with
    | false =>
      rw [if_neg Bool.false_ne_true] at q5 ⊢
      exact k F5 H5 _ _ M5 s15 c5 (.bl false) q5
    | true =>
      rw [if_pos rfl] at q5 ⊢
      exact ⟨Γ, M5, F5, E, _, a.next s15 c5, q5, fun F6 H6 y6 d6 M6 s6 c6 r6 q6 => hr2 F6 H6 M6 u y6 f d6 Qd Q c6 (r4.mono (s5.trans s6)) r6 q6 (k.mono (s15.trans s6))⟩
theorem de_chain3 {op op' op2 : CmpOp} {r r' r2 : R2} {rd rd' rd2 : D2} {ta tb tc td : DTE} (ho : OpR X (compareOp op) r) (ho' : OpR X (compareOp op') r') (ho2 : OpR X (compareOp op2) r2) (hr : Real2 (kt X W) r rd) (hr' : Real2 (kt X W) r' rd') (hr2 : Real2 (kt X W) r2 rd2) (ha : DE X W a ta) (hb : DE X W b tb) (hc : DE X W c tc) (hd : DE X W d td)
    (hm : lastMarks [op, op', op2] [b, c, d] = false := by with_unfolding_all rfl) : DE X W (.Compare a [op, op', op2] [b, c, d] pos) (dChain3 rd rd' rd2 ta tb tc td) :=
  ⟨peW (pe_chain3 ho ho' ho2 ha.pe hb.pe hc.pe hd.pe hm) fun _ _ _ h => upChain3 hr hr' hr2 h⟩
end
/-! ### rules that compute the readings -/
theorem vEq {i : Nat} {Γ : DG} {M : Mp} {Q : DQ} {E : DXE} {d : D} (h : Γ[i]? = some (some d)) : dVar i Γ M Q E = Q d M := by
  unfold dVar
  rw [h]
  simp
theorem ixd_tup {M : Mp} {xs : List D} {i : Int} : ixD M (.tup xs) (.int i) = atI xs i := rfl
theorem ixd_lst {M : Mp} {xs : List D} {i : Int} : ixD M (.lst xs) (.int i) = atI xs i := rfl
theorem ixd_ref {M : Mp} {p : Addr} {xs : List D} {i : Int} (h : M p = some (.lst xs)) : ixD M (.ref p) (.int i) = atI xs i := by
  show (sqD M (.ref p)).bind _ = _
  rw [sqD_ref h]
  rfl
theorem at0 {α : Type} {x : α} {xs : List α} : atI (x :: xs) 0 = some x := by simp [atI, ixN]
theorem at1 {α : Type} {x y : α} {xs : List α} : atI (x :: y :: xs) 1 = some y := by
  unfold atI ixN
  rw [if_pos (by omega), if_pos (by simp only [List.length_cons]; omega)]
  rfl
theorem at2 {α : Type} {x y z : α} {xs : List α} : atI (x :: y :: z :: xs) 2 = some z := by
  unfold atI ixN
  rw [if_pos (by omega), if_pos (by simp only [List.length_cons]; omega)]
  rfl
theorem at3 {α : Type} {x y z u : α} {xs : List α} : atI (x :: y :: z :: u :: xs) 3 = some u := by
  unfold atI ixN
  rw [if_pos (by omega), if_pos (by simp only [List.length_cons]; omega)]
  rfl
theorem atN {α : Type} {xs : List α} {i : Nat} {x : α} (h : xs[i]? = some x) : atI xs (i : Int) = some x := by
  have hi : i < xs.length := (List.getElem?_eq_some_iff.mp h).1
  unfold atI ixN
  rw [if_pos (by omega), if_pos (by omega)]
  simpa using h
theorem ix0 {n : Nat} (h : 0 < n) : ixN n 0 = some 0 := by simp [ixN]; omega
theorem ix1 {n : Nat} (h : 1 < n) : ixN n 1 = some 1 := by simp [ixN]; omega
theorem ix2 {n : Nat} (h : 2 < n) : ixN n 2 = some 2 := by simp [ixN]; omega
theorem ix3 {n : Nat} (h : 3 < n) : ixN n 3 = some 3 := by simp [ixN]; omega
/-- ints and texts by == -/
theorem deq_int {i j : Int} : deq (.int i) (.int j) = decide (i = j) := by
  unfold deq D.py PyData.eqv
  rfl
/-- a datum of depth ≤ n without objects -/
def lay (n : Nat) (d : D) : Prop := d.py.canLay0 = true ∧ d.py.depth ≤ n
theorem lay_int (n : Nat) (i : Int) : lay n (.int i) := ⟨by simp [D.py, PyData.canLay0], by simp [D.py, PyData.depth]⟩
theorem lay_bl (n : Nat) (b : Bool) : lay n (.bl b) := ⟨by simp [D.py, PyData.canLay0], by simp [D.py, PyData.depth]⟩
theorem lay_non (n : Nat) : lay n .non := ⟨by simp [D.py, PyData.canLay0], by simp [D.py, PyData.depth]⟩
theorem lays {n : Nat} : ∀ {xs : List D}, (∀ x ∈ xs, lay n x) → PyData.canLayAll0 (pys xs) = true ∧ PyData.depthAll (pys xs) ≤ n
  | [], _ => ⟨by simp [pys, PyData.canLayAll0], by simp [pys, PyData.depthAll]⟩
  | x :: xs, h => by
    obtain ⟨h1, h2⟩ := h x List.mem_cons_self
    obtain ⟨h3, h4⟩ := lays (xs := xs) fun y hy => h y (List.mem_cons_of_mem _ hy)
    exact ⟨by simp [pys, PyData.canLayAll0, h1, h3], by simp only [pys, PyData.depthAll]; omega⟩
theorem lay_tup {n : Nat} {xs : List D} (h : ∀ x ∈ xs, lay n x) : lay (n + 1) (.tup xs) := by
  obtain ⟨h1, h2⟩ := lays h
  exact ⟨by simp [D.py, PyData.canLay0, h1], by simp only [D.py, PyData.depth]; omega⟩
theorem lay_lst {n : Nat} {xs : List D} (h : ∀ x ∈ xs, lay n x) : lay (n + 1) (.lst xs) := by
  obtain ⟨h1, h2⟩ := lays h
  exact ⟨by simp [D.py, PyData.canLay0, h1], by simp only [D.py, PyData.depth]; omega⟩
theorem sh_of {n : Nat} {d : D} (h : lay n d) (hn : n ≤ 64 := by decide) : shD d = true := by
  have h1 := h.1
  have h2 : d.py.depth ≤ 64 := Nat.le_trans h.2 hn
  unfold shD SeqAt.shaped
  simp [h1, h2]
theorem lay_tupI (ns : List Int) : lay 1 (tupI ns) := lay_tup fun x hx => by
  obtain ⟨i, _, rfl⟩ := List.mem_map.mp hx
  exact lay_int 0 i
theorem sh_int {i : Int} : shD (.int i) = true := sh_of (lay_int 0 i)
theorem deqs {α : Type} [DecidableEq α] {f : α → D} (h : ∀ a b, deq (f a) (f b) = decide (a = b)) : ∀ (as bs : List α), PyData.eqvAll (pys (as.map f)) (pys (bs.map f)) = decide (as = bs)
  | [], [] => by simp [pys, PyData.eqvAll]
  | [], b :: bs => by simp [pys, PyData.eqvAll]
  | a :: as, [] => by simp [pys, PyData.eqvAll]
  | a :: as, b :: bs => by
    have h1 := h a b
    unfold deq at h1
    simp [pys, PyData.eqvAll, h1, deqs h as bs]
theorem deq_tupM {α : Type} [DecidableEq α] {f : α → D} (h : ∀ a b, deq (f a) (f b) = decide (a = b)) (as bs : List α) : deq (.tup (as.map f)) (.tup (bs.map f)) = decide (as = bs) := by
  have := deqs h as bs
  simpa [deq, D.py, PyData.eqv] using this
theorem deq_lstM {α : Type} [DecidableEq α] {f : α → D} (h : ∀ a b, deq (f a) (f b) = decide (a = b)) (as bs : List α) : deq (.lst (as.map f)) (.lst (bs.map f)) = decide (as = bs) := by
  have := deqs h as bs
  simpa [deq, D.py, PyData.eqv] using this
theorem deq_tupI (ns ms : List Int) : deq (tupI ns) (tupI ms) = decide (ns = ms) := deq_tupM (fun _ _ => deq_int) ns ms
/-- spans, marks as data -/
def spD (s : Int × Int) : D := .tup [.int s.1, .int s.2]
def mkD (m : Int × Int × Int) : D := .tup [.int m.1, .int m.2.1, .int m.2.2]
theorem spD_eq (s : Int × Int) : spD s = tupI [s.1, s.2] := rfl
theorem mkD_eq (m : Int × Int × Int) : mkD m = tupI [m.1, m.2.1, m.2.2] := rfl
theorem deq_spD (s t : Int × Int) : deq (spD s) (spD t) = decide (s = t) := by
  rw [spD_eq, spD_eq, deq_tupI]
  obtain ⟨a, b⟩ := s
  obtain ⟨c, d⟩ := t
  simp
theorem deq_mkD (s t : Int × Int × Int) : deq (mkD s) (mkD t) = decide (s = t) := by
  rw [mkD_eq, mkD_eq, deq_tupI]
  obtain ⟨a, b, e⟩ := s
  obtain ⟨c, d, f⟩ := t
  simp
theorem lay_spD (s : Int × Int) : lay 1 (spD s) := lay_tupI [s.1, s.2]
theorem lay_mkD (s : Int × Int × Int) : lay 1 (mkD s) := lay_tupI [s.1, s.2.1, s.2.2]
theorem lay_mapL {α : Type} {f : α → D} {n : Nat} (h : ∀ a, lay n (f a)) (as : List α) : lay (n + 1) (.lst (as.map f)) := lay_lst fun x hx => by
  obtain ⟨a, _, rfl⟩ := List.mem_map.mp hx
  exact h a
theorem res_int {M : Mp} {i : Int} : res M (.int i) = .int i := rfl
theorem res_tup {M : Mp} {xs : List D} : res M (.tup xs) = .tup xs := rfl
theorem res_lst {M : Mp} {xs : List D} : res M (.lst xs) = .lst xs := rfl
theorem res_ref {M : Mp} {p : Addr} {xs : List D} (h : M p = some (.lst xs)) : res M (.ref p) = .lst xs := by unfold res; rw [sqD_ref h]
theorem addI {i j : Int} {M : Mp} {Q : DQ} : rdAdd (.int i) (.int j) M Q = Q (.int (i + j)) M := rfl
theorem iffB {b : Bool} {P Q : Prop} : (if b = true then P else Q) ↔ ((b = true → P) ∧ (b = false → Q)) := by cases b <;> simp
theorem notB {b : Bool} : (!b) = true ↔ b = false := by cases b <;> simp
theorem gdCons_eq {t : DTG} {u : DTGs} {d : D} {r : List D} {Γ : DG} {M : Mp} {Q : DG → Mp → Prop} : gdCons t u (d :: r) Γ M Q = t d Γ M (fun Γ1 M1 => u r Γ1 M1 Q) := by
  unfold gdCons
  refine propext ⟨fun ⟨d', r', e, h⟩ => ?_, fun h => ⟨_, _, rfl, h⟩⟩
  cases e
  exact h
theorem gdNil_eq {Γ : DG} {M : Mp} {Q : DG → Mp → Prop} : gdNil [] Γ M Q = Q Γ M := by simp [gdNil]
theorem rdI_eq {g : Int → Int → D} {i j : Int} {M : Mp} {Q : DQ} : rdI g (.int i) (.int j) M Q = Q (g i j) M := by
  unfold rdI
  refine propext ⟨fun ⟨d', r', e, e2, h⟩ => ?_, fun h => ⟨_, _, rfl, rfl, h⟩⟩
  cases e
  cases e2
  exact h
theorem rdIc_eq {C : Int → Int → Prop} {g : Int → Int → D} {i j : Int} {M : Mp} {Q : DQ} : rdIc C g (.int i) (.int j) M Q = (C i j ∧ Q (g i j) M) := by
  unfold rdIc
  refine propext ⟨fun ⟨d', r', e, e2, h⟩ => ?_, fun h => ⟨_, _, rfl, rfl, h⟩⟩
  cases e
  cases e2
  exact h
theorem rdInt2_eq {g : Int → Int → Int} {i j : Int} {M : Mp} {Q : DQ} : rdInt2 g [.int i, .int j] M Q = Q (.int (g i j)) M := by
  unfold rdInt2
  refine propext ⟨fun ⟨d', r', e, h⟩ => ?_, fun h => ⟨_, _, rfl, h⟩⟩
  cases e
  exact h
theorem lenL {xs : List D} {M : Mp} {Q : DQ} : rdLen [.lst xs] M Q = Q (.int (xs.length : Nat)) M := by
  unfold rdLen
  refine propext ⟨fun ⟨d', r', e, e2, h⟩ => ?_, fun h => ⟨_, _, rfl, rfl, h⟩⟩
  cases e
  cases e2
  exact h
theorem lenR {p : Addr} {xs : List D} {M : Mp} {Q : DQ} (h : M p = some (.lst xs)) : rdLen [.ref p] M Q = Q (.int (xs.length : Nat)) M := by
  have e0 : lenD M (.ref p) = some xs.length := by
    show (sqD M (.ref p)).map List.length = _
    rw [sqD_ref h]
    rfl
  unfold rdLen
  refine propext ⟨fun ⟨d', r', e, e2, h⟩ => ?_, fun h => ⟨_, _, rfl, e0, h⟩⟩
  cases e
  rw [e0] at e2
  cases e2
  exact h
theorem isN_non {M : Mp} {Q : DQ} {b : Bool} : rdIsN b .non .non M Q = Q (.bl (!b)) M := by cases b <;> simp [rdIsN]
theorem isN_tup {M : Mp} {Q : DQ} {b : Bool} {xs : List D} : rdIsN b (.tup xs) .non M Q = Q (.bl b) M := by cases b <;> simp [rdIsN]
theorem isN_int {M : Mp} {Q : DQ} {b : Bool} {i : Int} : rdIsN b (.int i) .non M Q = Q (.bl b) M := by cases b <;> simp [rdIsN]
theorem parEq {α : Type} {x y : α} {P : α → α → Prop} : (∃ d e, (x = d ∧ y = e) ∧ P d e) = P x y := by
  refine propext ⟨fun ⟨d', r', ⟨e, e2⟩, h⟩ => ?_, fun h => ⟨_, _, ⟨rfl, rfl⟩, h⟩⟩
  subst e
  subst e2
  exact h
/-- the chain's and the conjunction's truth -/
theorem bAnd {p q : Prop} [Decidable p] [Decidable q] {A B : Prop} (h1 : p → A) (h2 : ¬ p → B) : (decide p = true → A) ∧ (decide p = false → B) :=
  ⟨fun h => h1 (of_decide_eq_true h), fun h => h2 (of_decide_eq_false h)⟩
end DL

namespace DL
open PySem L2
theorem GhS.open {K : KTb} {P : DG → Mp → Prop} {Γ : DG} {M : Mp} {p : Addr} {φ : List D → Prop} (h : M p = some (.opq φ)) (k : ∀ ds, φ ds → P Γ (mup M p (.lst ds))) : GhS K P Γ M := fun F H σ c g => by
  obtain ⟨ds, h1, c2⟩ := c.open h
  exact ⟨F, Γ, _, Same.refl _, c2, g, k ds h1⟩
theorem Fin.close {K : KTb} {Qd : DQ} {d : D} {p : Addr} {φ : List D → Prop} {ds : List D} {M : Mp} (e : M p = some (.lst ds)) (hd : φ ds) (h : Qd d (mup M p (.opq φ))) : Fin K Qd d M := fun F H v c r => ⟨F, d, _, Same.refl _, c.close e hd, r, h⟩
section
variable {X : Cx} {W : WT} {st : Stmt} {rest : List Stmt}
/-- what holds between two statements is told -/
def dCut (t u : DTS) : DTS := fun Dn Γ M => ∃ I : DG → Mp → Prop, t { Dn with nx := I } Γ M ∧ ∀ Γ' M', I Γ' M' → u Dn Γ' M'
theorem dss_cut {t u : DTS} (h1 : DS X W st t) (h2 : DSs X W rest u) : DSs X W (st :: rest) (dCut t u) := ⟨pssW (pss_cons h1.ps h2.ps) fun E σ H ⟨Γ, M, F, Dn, a, ⟨I, h, n⟩, k⟩ =>
  ⟨Γ, M, F, { Dn with nx := I }, a, h, ⟨fun F1 H1 σ1 Γ1 M1 s1 c1 g1 q1 => ⟨Γ1, M1, F1, Dn, ⟨c1, g1, a.w.mono s1⟩, n _ _ q1, k.mono s1⟩, k.rt, k.bk, k.ct⟩⟩⟩
end
theorem ixS {M : Mp} {b : Addr} {xs : List D} {i : Int} : ixD (mup M b (.lst xs)) (.ref b) (.int i) = atI xs i := ixd_ref mup_same
theorem lenI {ns : List Int} {M : Mp} {Q : DQ} {n : Nat} (h : ns.length = n) : rdLen [.lst (ns.map D.int)] M Q = Q (.int (n : Nat)) M := by rw [lenL, List.length_map, h]
theorem sqI {M : Mp} {ns : List Int} : sqD M (.scr ns) = some (ns.map D.int) := rfl
theorem mulI {i j : Int} {M : Mp} {Q : DQ} : rdMul (.int i) (.int j) M Q = (CMul i j ∧ Q (.int (i * j)) M) := rfl
theorem eqI {i j : Int} {M : Mp} {Q : DQ} : rdEq (.int i) (.int j) M Q = Q (.bl (decide (i = j))) M := by
  unfold rdEq
  rw [res_int, res_int, sh_int, sh_int, deq_int]
  simp
theorem neI {i j : Int} {M : Mp} {Q : DQ} : rdNe (.int i) (.int j) M Q = Q (.bl (!decide (i = j))) M := by
  unfold rdNe
  rw [res_int, res_int, sh_int, sh_int, deq_int]
  simp
theorem xN4_0 : ixN 4 0 = some 0 := by decide
theorem xN4_1 : ixN 4 1 = some 1 := by decide
theorem xN4_2 : ixN 4 2 = some 2 := by decide
theorem xN4_3 : ixN 4 3 = some 3 := by decide
theorem atJ {α : Type} {f : α → D} {xs : List α} {i : Int} (h0 : 0 ≤ i) (h1 : i < xs.length) : ∃ z, z ∈ xs ∧ xs[i.toNat]? = some z ∧ atI (xs.map f) i = some (f z) := by
  have hi : i.toNat < xs.length := by omega
  refine ⟨xs[i.toNat], List.getElem_mem hi, List.getElem?_eq_getElem hi, ?_⟩
  unfold atI ixN
  rw [List.length_map, if_pos h0, if_pos h1]
  simp [hi]
theorem sz4 : (4 : Nat) ≤ sizeLine := by rw [szl]; decide
theorem szOf {n : Nat} (h : n ≤ 16777216) : n ≤ sizeLine := by rw [szl]; exact h
theorem rdAbs_eq {i : Int} {M : Mp} {Q : DQ} : rdAbs [.int i] M Q = Q (.int (if i < 0 then -i else i)) M := by
  unfold rdAbs
  refine propext ⟨fun ⟨d', e, h⟩ => ?_, fun h => ⟨_, rfl, h⟩⟩
  cases e
  exact h
end DL

namespace DL
open PySem L2
/-! ### loops by an invariant -/
def FI (it : DIt) (g : DTG) (tb : DTS) (Dn : DEnds) (Γ : DG) (M : Mp) : Prop := ∃ Wv : Nat → DG → Mp → Prop, Wv 0 Γ M ∧ ∀ i Γ2 M2, i ≤ it.seq.length → Wv i Γ2 M2 → it.ok M2 ∧
  (∀ d, it.seq[i]? = some d → g d Γ2 M2 (fun Γ3 M3 => tb { Dn with nx := Wv (i + 1), ct := Wv (i + 1), bk := Dn.nx } Γ3 M3)) ∧ (i = it.seq.length → Dn.nx Γ2 M2)
theorem dFor_eq {ti : DTI} {g : DTG} {tb : DTS} {Dn : DEnds} {Γ : DG} {M : Mp} : dFor ti g tb Dn Γ M = ti Γ M (fun it M1 => FI it g tb Dn Γ M1) Dn.ex := rfl
theorem forBy {α : Type} {f : α → D} {xs : List α} {ok : Mp → Prop} {g : DTG} {tb : DTS} {Dn : DEnds} {Γ : DG} {M : Mp} (I : Nat → DG → Mp → Prop) (h0 : I 0 Γ M) (hok : ∀ i Γ2 M2, I i Γ2 M2 → ok M2)
    (step : ∀ i x Γ2 M2, xs[i]? = some x → I i Γ2 M2 → g (f x) Γ2 M2 (fun Γ3 M3 => tb { Dn with nx := I (i + 1), ct := I (i + 1), bk := Dn.nx } Γ3 M3)) (fin : ∀ Γ2 M2, I xs.length Γ2 M2 → Dn.nx Γ2 M2) :
    FI ⟨xs.map f, ok⟩ g tb Dn Γ M := by
  refine ⟨I, h0, fun i Γ2 M2 hi h => ⟨hok i Γ2 M2 h, fun d hd => ?_, fun e => ?_⟩⟩
  · have hd : (xs.map f)[i]? = some d := hd
    rw [List.getElem?_map, Option.map_eq_some_iff] at hd
    obtain ⟨x, hx, rfl⟩ := hd
    exact step i x Γ2 M2 hx h
  · have e : i = (xs.map f).length := e
    rw [List.length_map] at e
    subst e
    exact fin Γ2 M2 h
/-- a loop whose steps keep what holds -/
theorem forInv {α : Type} {f : α → D} {xs : List α} {ok : Mp → Prop} {g : DTG} {tb : DTS} {Dn : DEnds} {Γ : DG} {M : Mp} (I : DG → Mp → Prop) (h0 : I Γ M) (hok : ∀ Γ2 M2, I Γ2 M2 → ok M2)
    (step : ∀ x Γ2 M2, x ∈ xs → I Γ2 M2 → g (f x) Γ2 M2 (fun Γ3 M3 => tb { Dn with nx := I, ct := I, bk := Dn.nx } Γ3 M3)) (fin : ∀ Γ2 M2, I Γ2 M2 → Dn.nx Γ2 M2) : FI ⟨xs.map f, ok⟩ g tb Dn Γ M :=
  forBy (fun _ => I) h0 (fun _ => hok) (fun i x Γ2 M2 hx h => step x Γ2 M2 (List.mem_of_getElem? hx) h) fin
/-- over range -/
theorem forRng {lo : Int} {n : Nat} {ok : Mp → Prop} {g : DTG} {tb : DTS} {Dn : DEnds} {Γ : DG} {M : Mp} (I : Nat → DG → Mp → Prop) (h0 : I 0 Γ M) (hok : ∀ M2, ok M2)
    (step : ∀ i Γ2 M2, i < n → I i Γ2 M2 → g (.int (lo + (i : Nat))) Γ2 M2 (fun Γ3 M3 => tb { Dn with nx := I (i + 1), ct := I (i + 1), bk := Dn.nx } Γ3 M3)) (fin : ∀ Γ2 M2, I n Γ2 M2 → Dn.nx Γ2 M2) :
    FI ⟨rngD lo 1 n, ok⟩ g tb Dn Γ M :=
  forBy (xs := List.range n) (f := fun k => D.int (lo + (k : Nat) * 1)) I h0 (fun _ _ _ _ => hok _) (fun i x Γ2 M2 hx h => by
    have hi := (List.getElem?_eq_some_iff.mp hx).1
    rw [List.length_range] at hi
    rw [List.getElem?_range hi] at hx
    cases hx
    rw [Int.mul_one]
    exact step i Γ2 M2 hi h) (fun Γ2 M2 h => fin Γ2 M2 (by rwa [List.length_range] at h))
theorem rngD_eq {lo c : Int} {n : Nat} : rngD lo c n = (List.range n).map fun k => D.int (lo + (k : Nat) * c) := rfl
theorem enD_eq {α : Type} {f : α → D} {xs : List α} : enD (xs.map f) = xs.zipIdx.map fun p => D.tup [.int (p.2 : Nat), f p.1] := by
  unfold enD
  rw [List.zipIdx_map, List.map_map]
  rfl
/-! ### a list wherever it stands -/
theorem sq_cases {M : Mp} {d : D} {xs : List D} (h : sqD M d = some xs) : (d = .lst xs) ∨ (∃ p, d = .ref p ∧ M p = some (.lst xs)) ∨ ∃ ns, d = .scr ns ∧ xs = ns.map D.int := by
  cases d with
  | lst ys => cases h; exact .inl rfl
  | ref p =>
    have h : (match M p with | some (.lst xs) => some xs | _ => none) = some xs := h
    split at h
    · rename_i e
      cases h
      exact .inr (.inl ⟨p, rfl, e⟩)
    · cases h
  | scr ns => cases h; exact .inr (.inr ⟨ns, rfl, rfl⟩)
  | _ => cases h
theorem itSq {M : Mp} {d : D} {xs : List D} (h : sqD M d = some xs) : itD M d = some xs := by
  rcases sq_cases h with rfl | ⟨p, rfl, e⟩ | ⟨ns, rfl, rfl⟩
  · rfl
  · exact h
  · rfl
theorem ixSq {M : Mp} {d : D} {xs : List D} {i : Int} (h : sqD M d = some xs) : ixD M d (.int i) = atI xs i := by
  rcases sq_cases h with rfl | ⟨p, rfl, e⟩ | ⟨ns, rfl, rfl⟩
  · rfl
  · exact ixd_ref e
  · rfl
theorem lenSq {M : Mp} {d : D} {xs : List D} {Q : DQ} (h : sqD M d = some xs) : rdLen [d] M Q = Q (.int (xs.length : Nat)) M := by
  have e0 : lenD M d = some xs.length := by
    rcases sq_cases h with rfl | ⟨p, rfl, e⟩ | ⟨ns, rfl, rfl⟩
    · rfl
    · show (sqD M (.ref p)).map List.length = _
      rw [h]
      rfl
    · show (sqD M (.scr ns)).map List.length = _
      rw [h]
      rfl
  unfold rdLen
  refine propext ⟨fun ⟨d', r', e, e2, h⟩ => ?_, fun h => ⟨_, _, rfl, e0, h⟩⟩
  cases e
  rw [e0] at e2
  cases e2
  exact h
theorem resSq {M : Mp} {d : D} {xs : List D} (h : sqD M d = some xs) : res M d = .lst xs := by unfold res; rw [h]
/-- xs[i], i in range -/
theorem atL {xs : List D} {i : Int} (h0 : 0 ≤ i) (h1 : i < xs.length) : ∃ x, x ∈ xs ∧ xs[i.toNat]? = some x ∧ atI xs i = some x := by
  have := atJ (f := id) h0 h1
  simpa using this
theorem atMn {α : Type} {f : α → D} {xs : List α} {i : Nat} {x : α} (h : xs[i]? = some x) : atI (xs.map f) (i : Int) = some (f x) := atN (by rw [List.getElem?_map, h]; rfl)
theorem atLast {α : Type} {f : α → D} {xs : List α} (h : xs ≠ []) : atI (xs.map f) (-1) = some (f (xs.getLast h)) := by
  have hl : 0 < xs.length := List.length_pos_iff.mpr h
  unfold atI ixN
  rw [if_neg (by decide), if_pos (by rw [List.length_map]; omega)]
  simp only [Option.bind_some, List.length_map]
  have e : (-1 + (xs.length : Int)).toNat = xs.length - 1 := by omega
  rw [e, List.getElem?_map, List.getLast_eq_getElem, List.getElem?_eq_getElem (by omega)]
  rfl
theorem getLast_eq {α : Type} {xs : List α} {x : α} (h : xs.getLast? = some x) : ∃ h' : xs ≠ [], xs.getLast h' = x := by
  have h' : xs ≠ [] := by intro e; subst e; cases h
  rw [List.getLast?_eq_some_getLast h'] at h
  exact ⟨h', Option.some.inj h⟩
/-! ### sorted, of spans and of marks -/
theorem rdSortedT_by {α : Type} {f : α → List Int} {g : List Int → α} {n : Nat} {d : D} {as : List α} {M : Mp} {Q : DQ} (hg : ∀ a, g (f a) = a) (hd : sqD M d = some (as.map fun a => tupI (f a))) (hn : 1 ≤ n) (hl : ∀ a, (f a).length = n)
    (h : ∀ (L : List α) (p : Addr), L.Perm as → L.Pairwise (fun x y => HT.lexLt (f y) (f x) = false) → M p = none → Q (.ref p) (mup M p (.lst (L.map fun a => tupI (f a))))) : rdSorted [d] M Q := by
  refine .inr ⟨d, as.map f, n, rfl, by rw [List.map_map]; exact hd, hn, fun k hk => by obtain ⟨a, _, rfl⟩ := List.mem_map.mp hk; exact hl a, fun Ls' p pm pw hp => ?_⟩
  have e1 : Ls' = (Ls'.map g).map f := by
    rw [List.map_map]
    have : ∀ x ∈ Ls', x = (f ∘ g) x := fun x hx => by
      obtain ⟨a, _, rfl⟩ := List.mem_map.mp (pm.mem_iff.mp hx)
      show f a = f (g (f a))
      rw [hg]
    calc Ls' = Ls'.map id := by simp
      _ = _ := List.map_congr_left this
  have pm2 : (Ls'.map g).Perm as := by
    have z := pm.map g
    rw [List.map_map] at z
    have : as.map (g ∘ f) = as := by
      have : ∀ x ∈ as, (g ∘ f) x = x := fun x _ => hg x
      rw [List.map_congr_left this]
      simp
    rw [this] at z
    exact z
  have pw2 : (Ls'.map g).Pairwise (fun x y => HT.lexLt (f y) (f x) = false) := by
    rw [e1, List.pairwise_map] at pw
    exact pw
  have := h _ p pm2 pw2 hp
  rw [show (Ls'.map g).map (fun a => tupI (f a)) = Ls'.map tupI by
    conv => rhs; rw [e1]
    simp [List.map_map]] at this
  exact this
/-- the order of spans, of marks -/
def spLt (a b : Int × Int) : Prop := a.1 < b.1 ∨ (a.1 = b.1 ∧ a.2 < b.2)
def mkLt (a b : Int × Int × Int) : Prop := a.1 < b.1 ∨ (a.1 = b.1 ∧ (a.2.1 < b.2.1 ∨ (a.2.1 = b.2.1 ∧ a.2.2 < b.2.2)))
theorem lexSp {a b : Int × Int} : HT.lexLt [a.1, a.2] [b.1, b.2] = true ↔ spLt a b := by
  unfold spLt
  simp only [HT.lexLt]
  repeat' split
  all_goals (simp; try omega)
theorem lexMk {a b : Int × Int × Int} : HT.lexLt [a.1, a.2.1, a.2.2] [b.1, b.2.1, b.2.2] = true ↔ mkLt a b := by
  unfold mkLt
  simp only [HT.lexLt]
  repeat' split
  all_goals (simp; try omega)
theorem rdSortedSp {d : D} {as : List (Int × Int)} {M : Mp} {Q : DQ} (hd : sqD M d = some (as.map spD))
    (h : ∀ (L : List (Int × Int)) (p : Addr), L.Perm as → L.Pairwise (fun x y => ¬ spLt y x) → M p = none → Q (.ref p) (mup M p (.lst (L.map spD)))) : rdSorted [d] M Q :=
  rdSortedT_by (f := fun s : Int × Int => [s.1, s.2]) (g := fun l => (l.headD 0, l.tail.headD 0)) (n := 2) (fun _ => rfl) hd (by decide) (fun _ => rfl) fun L p pm pw hp => h L p pm (pw.imp fun z e => by rw [lexSp.mpr e] at z; cases z) hp
theorem rdSortedMk {d : D} {as : List (Int × Int × Int)} {M : Mp} {Q : DQ} (hd : sqD M d = some (as.map mkD))
    (h : ∀ (L : List (Int × Int × Int)) (p : Addr), L.Perm as → L.Pairwise (fun x y => ¬ mkLt y x) → M p = none → Q (.ref p) (mup M p (.lst (L.map mkD)))) : rdSorted [d] M Q :=
  rdSortedT_by (f := fun s : Int × Int × Int => [s.1, s.2.1, s.2.2]) (g := fun l => (l.headD 0, l.tail.headD 0, l.tail.tail.headD 0)) (n := 3) (fun _ => rfl) hd (by decide) (fun _ => rfl) fun L p pm pw hp => h L p pm (pw.imp fun z e => by rw [lexMk.mpr e] at z; cases z) hp
theorem rdSortedIn {d : D} {ns : List Int} {M : Mp} {Q : DQ} (hd : sqD M d = some (ns.map D.int))
    (h : ∀ (L : List Int) (p : Addr), L.Perm ns → L.Pairwise (· ≤ ·) → M p = none → Q (.ref p) (mup M p (.lst (L.map D.int)))) : rdSorted [d] M Q :=
  .inl ⟨d, ns, rfl, hd, h⟩
/-! ### == of typed data -/
theorem eqNilR {α : Type} {f : α → D} {bs : List α} {p : Addr} {M : Mp} {Q : DQ} {n : Nat} (hf : ∀ a, lay n (f a)) (hn : n ≤ 63 := by decide) : rdEq (.ref p) (.lst []) (mup M p (.lst (bs.map f))) Q = Q (.bl bs.isEmpty) (mup M p (.lst (bs.map f))) := by
  have h1 : shD (.lst (bs.map f)) = true := sh_of (lay_mapL hf bs) (by omega)
  have h2 : shD (.lst []) = true := sh_of (lay_mapL (f := D.int) (lay_int 0) []) (by decide)
  have h3 : deq (.lst (bs.map f)) (.lst []) = bs.isEmpty := by
    cases bs <;> simp [deq, D.py, pys, PyData.eqv, PyData.eqvAll]
  unfold rdEq
  rw [res_ref mup_same, res_lst, h1, h2, h3]
  simp
theorem neSp {s t : Int × Int} {M : Mp} {Q : DQ} : rdNe (spD s) (spD t) M Q = Q (.bl (!decide (s = t))) M := by
  unfold rdNe
  show (shD (spD s) = true ∧ shD (spD t) = true ∧ Q (.bl (!deq (spD s) (spD t))) M) = _
  rw [sh_of (lay_spD s), sh_of (lay_spD t), deq_spD]
  simp
theorem eqSp {s t : Int × Int} {M : Mp} {Q : DQ} : rdEq (spD s) (spD t) M Q = Q (.bl (decide (s = t))) M := by
  unfold rdEq
  show (shD (spD s) = true ∧ shD (spD t) = true ∧ Q (.bl (deq (spD s) (spD t))) M) = _
  rw [sh_of (lay_spD s), sh_of (lay_spD t), deq_spD]
  simp
theorem eqMk {s t : Int × Int × Int} {M : Mp} {Q : DQ} : rdEq (mkD s) (mkD t) M Q = Q (.bl (decide (s = t))) M := by
  unfold rdEq
  show (shD (mkD s) = true ∧ shD (mkD t) = true ∧ Q (.bl (deq (mkD s) (mkD t))) M) = _
  rw [sh_of (lay_mkD s), sh_of (lay_mkD t), deq_mkD]
  simp
theorem neMk {s t : Int × Int × Int} {M : Mp} {Q : DQ} : rdNe (mkD s) (mkD t) M Q = Q (.bl (!decide (s = t))) M := by
  unfold rdNe
  show (shD (mkD s) = true ∧ shD (mkD t) = true ∧ Q (.bl (!deq (mkD s) (mkD t))) M) = _
  rw [sh_of (lay_mkD s), sh_of (lay_mkD t), deq_mkD]
  simp
theorem inD {α : Type} [DecidableEq α] {f : α → D} {n : Nat} {x : α} {ys : List α} {d : D} {M : Mp} {Q : DQ} (hf : ∀ a, lay n (f a)) (he : ∀ a b, deq (f a) (f b) = decide (a = b)) (hr : res M (f x) = f x) (hd : sqD M d = some (ys.map f)) (hn : n ≤ 63) :
    rdIn false (f x) d M Q ↔ Q (.bl (decide (x ∈ ys))) M := by
  have e : ((ys.map f).any fun z => deq z (f x)) = decide (x ∈ ys) := by
    induction ys with
    | nil => simp
    | cons y ys ih =>
      simp only [List.map_cons, List.any_cons, he]
      have : ((ys.map f).any fun z => deq z (f x)) = decide (x ∈ ys) := by
        clear ih hd
        induction ys with
        | nil => simp
        | cons y ys ih => simp only [List.map_cons, List.any_cons, he, ih]; simp [eq_comm]
      rw [this]
      simp [eq_comm]
  unfold rdIn
  constructor
  · rintro ⟨zs, h1, _, _, q⟩
    rw [resSq hd] at h1
    cases h1
    rw [hr, if_neg Bool.false_ne_true, e] at q
    exact q
  · intro q
    refine ⟨_, resSq hd, by rw [hr]; exact sh_of (hf x) (by omega), sh_of (lay_mapL hf ys) (by omega), ?_⟩
    rw [hr, if_neg Bool.false_ne_true, e]
    exact q
theorem exX {M : Mp} {p : Addr} {ys : List D} : (∃ xs, sqX (mup M p (.lst ys)) (.ref p) = some xs) = True := by
  rw [sqX_ref mup_same]
  simp
/-! ### cells kept -/
theorem Ext.up {M M' : Mp} {p : Addr} {c : Cell} (h : Ext M M') (hp : M p = none) : Ext M (mup M' p c) := fun a u e => by
  rw [mup_ne fun z => by rw [z, hp] at e; cases e]
  exact h a u e
theorem Ext.trans {M M' M2 : Mp} (h : Ext M M') (h2 : Ext M' M2) : Ext M M2 := fun a u e => h2 a u (h a u e)
theorem sq_ext {M M' : Mp} {d : D} {xs : List D} (x : Ext M M') (h : sqD M d = some xs) : sqD M' d = some xs := by
  rcases sq_cases h with rfl | ⟨p, rfl, e⟩ | ⟨ns, rfl, rfl⟩
  · rfl
  · exact sqD_ref (x _ _ e)
  · rfl
theorem Fin.frzE {K : KTb} {Qd : DQ} {p : Addr} {xs : List D} {M M3 : Mp} (e : M p = some (.lst xs)) (hp : M3 p = none) (x : Ext M3 M) (h : Qd (.lst xs) M3) : Fin K Qd (.ref p) M := fun F H v c r => by
  cases r
  obtain ⟨F2, s, c2, r2⟩ := c.freeze e
  refine ⟨F2, _, M3, s, c2.less fun a u q => ?_, r2, h⟩
  have ha : a ≠ p := fun z => by rw [z, hp] at q; cases q
  unfold mdel
  rw [if_neg ha]
  exact x a u q
theorem Fin.ownE {K : KTb} {Qd : DQ} {p : Addr} {xs : List D} {M M3 : Mp} (e : M p = some (.lst xs)) (x : Ext M3 M) (h : Qd (.ref p) (mup M3 p (.lst xs))) : Fin K Qd (.ref p) M := Fin.less h fun a u q => by
  by_cases ha : a = p
  · subst ha
    rw [mup_same] at q
    rw [e, q]
  · rw [mup_ne ha] at q
    exact x a u q
theorem Fin.lessE {K : KTb} {Qd : DQ} {d : D} {M M3 : Mp} (x : Ext M3 M) (h : Qd d M3) : Fin K Qd d M := Fin.less h x
end DL

namespace DL
open PySem L2
/-! ### comprehensions by typed items -/
def LI (it : DIt) (g : DTG) (tt : DTT) (te : DTE) (vs : List Nat) (Γ : DG) (M : Mp) (Q : DQ) : Prop := ∃ P : D → Option D → Prop, dLcBody g tt te vs Γ M it P ∧ ∀ os, All2 P it.seq os → Q (.lst (os.filterMap id)) M
def LIO (it : DIt) (g : DTG) (tt : DTT) (te : DTE) (vs : List Nat) (Γ : DG) (M : Mp) (Q : DQ) : Prop := ∃ P : D → Option D → Prop, dLcBody g tt te vs Γ M it P ∧ ∀ os, All2 P it.seq os → ∀ p, M p = none → Q (.ref p) (mup M p (.lst (os.filterMap id)))
theorem dLcN_eq {ti : DTI} {g : DTG} {tt : DTT} {te : DTE} {vs : List Nat} {Γ : DG} {M : Mp} {Q : DQ} {E : DXE} : dLcN ti g tt te vs Γ M Q E = ti Γ M (fun it M1 => LI it g tt te vs Γ M1 Q) E := rfl
theorem dLcNO_eq {ti : DTI} {g : DTG} {tt : DTT} {te : DTE} {vs : List Nat} {Γ : DG} {M : Mp} {Q : DQ} {E : DXE} : dLcNO ti g tt te vs Γ M Q E = ti Γ M (fun it M1 => LIO it g tt te vs Γ M1 Q) E := rfl
/-- one item's part -/
def LB (g : DTG) (tt : DTT) (te : DTE) (Γ : DG) (M : Mp) (d : D) (R : Option D → Prop) : Prop := g d Γ M (fun Γ2 M3 => tt Γ2 M3 (fun b M4 => if b = true then te Γ2 M4 (fun y M5 => M5 = M ∧ R (some y)) noE else M4 = M ∧ R none) noE)
section
variable {α : Type} {F : α → D} {xs : List α} {ok : Mp → Prop} {g : DTG} {tt : DTT} {te : DTE} {vs : List Nat} {Γ : DG} {M : Mp} {Q : DQ}
theorem all2_fn {H : α → Option D} : ∀ {xs : List α} {os : List (Option D)}, All2 (fun x o => o = H x) xs os → os.filterMap id = xs.filterMap H
  | [], [], _ => rfl
  | [], _ :: _, h => by cases h
  | x :: xs, [], h => by cases h
  | x :: xs, o :: os, h => by
    cases h with
    | cons h1 h2 =>
      subst h1
      have ih := all2_fn h2
      cases e : H x <;> simp [e, ih]
theorem bodyR (inj : ∀ a b, F a = F b → a = b) {R : α → Option D → Prop} (hok : ∀ M', Ext M M' → ok M') (body : ∀ x, x ∈ xs → ∀ M', Ext M M' → LB g tt te (dwipe Γ vs) M' (F x) (R x)) : ∃ P, dLcBody g tt te vs Γ M ⟨xs.map F, ok⟩ P ∧ ∀ os, All2 P (xs.map F) os → All2 R xs os := by
  cases xs with
  | nil => exact ⟨fun _ _ => True, ⟨hok, fun d hd => by cases hd⟩, fun os h => by cases h; exact .nil⟩
  | cons x0 t =>
    classical
    let inv : D → α := fun d => if h : ∃ x, F x = d then h.choose else x0
    have hinv : ∀ x, inv (F x) = x := fun x => by
      have h : ∃ y, F y = F x := ⟨x, rfl⟩
      show (if h : ∃ y, F y = F x then h.choose else x0) = x
      rw [dif_pos h]
      exact inj _ _ h.choose_spec
    refine ⟨fun d o => R (inv d) o, ⟨hok, fun d hd M' x' => ?_⟩, fun os => ?_⟩
    · obtain ⟨x, hx, rfl⟩ := List.mem_map.mp hd
      have b := body x hx M' x'
      simp only [hinv]
      exact b
    · have : ∀ (l : List α) (os : List (Option D)), All2 (fun d o => R (inv d) o) (l.map F) os → All2 R l os := by
        intro l
        induction l with
        | nil => intro os h; cases h; exact .nil
        | cons y l ih =>
          intro os h
          cases h with
          | cons h1 h2 =>
            rw [hinv] at h1
            exact .cons h1 (ih _ h2)
      exact this _ os
theorem LI_R (inj : ∀ a b, F a = F b → a = b) (R : α → Option D → Prop) (hok : ∀ M', Ext M M' → ok M') (body : ∀ x, x ∈ xs → ∀ M', Ext M M' → LB g tt te (dwipe Γ vs) M' (F x) (R x)) (q : ∀ os, All2 R xs os → Q (.lst (os.filterMap id)) M) : LI ⟨xs.map F, ok⟩ g tt te vs Γ M Q := by
  obtain ⟨P, h1, h2⟩ := bodyR inj hok body
  exact ⟨P, h1, fun os h => q os (h2 os h)⟩
theorem LI_F (inj : ∀ a b, F a = F b → a = b) (H : α → Option D) (hok : ∀ M', Ext M M' → ok M') (body : ∀ x, x ∈ xs → ∀ M', Ext M M' → LB g tt te (dwipe Γ vs) M' (F x) (fun o => o = H x)) (q : Q (.lst (xs.filterMap H)) M) : LI ⟨xs.map F, ok⟩ g tt te vs Γ M Q :=
  LI_R inj (fun x o => o = H x) hok body fun os h => by rw [all2_fn h]; exact q
theorem LIO_R (inj : ∀ a b, F a = F b → a = b) (R : α → Option D → Prop) (hok : ∀ M', Ext M M' → ok M') (body : ∀ x, x ∈ xs → ∀ M', Ext M M' → LB g tt te (dwipe Γ vs) M' (F x) (R x)) (q : ∀ os, All2 R xs os → ∀ p, M p = none → Q (.ref p) (mup M p (.lst (os.filterMap id)))) : LIO ⟨xs.map F, ok⟩ g tt te vs Γ M Q := by
  obtain ⟨P, h1, h2⟩ := bodyR inj hok body
  exact ⟨P, h1, fun os h => q os (h2 os h)⟩
theorem LIO_F (inj : ∀ a b, F a = F b → a = b) (H : α → Option D) (hok : ∀ M', Ext M M' → ok M') (body : ∀ x, x ∈ xs → ∀ M', Ext M M' → LB g tt te (dwipe Γ vs) M' (F x) (fun o => o = H x)) (q : ∀ p, M p = none → Q (.ref p) (mup M p (.lst (xs.filterMap H)))) : LIO ⟨xs.map F, ok⟩ g tt te vs Γ M Q :=
  LIO_R inj (fun x o => o = H x) hok body fun os h => by rw [all2_fn h]; exact q
end
section
variable {X : Cx} {es : List Expr} {pos : Pos}
def gdUnl (n : Nat) (t : DTGs) : DTG := fun d Γ M Q => ∃ ds, sqD M d = some ds ∧ ds.length = n ∧ t ds Γ M Q
theorem dg_unl {k : Nat} {T : List (Addr × Str)} {vs : Option (List Nat)} {t : DTGs} {n : Nat} (hc : X.calm = true) (h : DGts X T vs es t) (hn : (assignEach es X.env).length = n := by rfl) (hst : (assignEach es X.env).findIdx? (·.1) = none := by rfl) : DGt X T vs (.Tuple es k pos) (gdUnl n t) :=
  ⟨pgW (pg_unl hc h.pg hn hst) fun v σ H Q ⟨d, Γ, M, F, Qd, c, g, r, ⟨ds, e1, hl, q⟩, k⟩ => by
    obtain ⟨a, us, rfl, h1, r1⟩ := sq_of c r e1
    exact ⟨a, us, rfl, h1, by rw [r1.length]; exact hl, ds, Γ, M, F, Qd, c, g, r1, q, k⟩⟩
end
theorem all2_vals {α β : Type} {f : β → D} {P : β → Prop} : ∀ {xs : List α} {os : List (Option D)}, All2 (fun _ o => ∃ z, o = some (f z) ∧ P z) xs os → ∃ zs : List β, os.filterMap id = zs.map f ∧ (∀ z ∈ zs, P z) ∧ zs.length = xs.length
  | _, _, .nil => ⟨[], rfl, (fun _ h => by cases h), rfl⟩
  | _, _, .cons h1 h2 => by
    obtain ⟨z, rfl, hz⟩ := h1
    obtain ⟨zs, e, h3, hl⟩ := all2_vals h2
    refine ⟨z :: zs, by simp [e], fun y hy => ?_, by simp [hl]⟩
    rcases List.mem_cons.mp hy with rfl | hy
    · exact hz
    · exact h3 y hy
theorem sorted2 {a b : Int} {L : List Int} (pm : L.Perm [a, b]) (pw : L.Pairwise (· ≤ ·)) : ∃ x y, L = [x, y] ∧ x ≤ y ∧ (x = a ∨ x = b) ∧ (y = a ∨ y = b) := by
  have hl := pm.length_eq
  match L, hl with
  | [x, y], _ =>
    have hx := pm.mem_iff.mp (show x ∈ [x, y] by simp)
    have hy := pm.mem_iff.mp (show y ∈ [x, y] by simp)
    simp only [List.mem_cons, List.not_mem_nil, or_false] at hx hy
    exact ⟨x, y, rfl, by simpa using pw, hx, hy⟩
theorem inT {α : Type} [DecidableEq α] {f : α → D} {n : Nat} {x : α} {ys : List α} {d : D} {M : Mp} {Q : DQ} (hf : ∀ a, lay n (f a)) (he : ∀ a b, deq (f a) (f b) = decide (a = b)) (hr : res M (f x) = f x) (hd : sqD M d = some (ys.map f)) (hn : n ≤ 63) (hx : x ∈ ys) (h : Q (.bl true) M) : rdIn false (f x) d M Q :=
  (inD hf he hr hd hn).mpr (by rw [decide_eq_true hx]; exact h)
theorem inF {α : Type} [DecidableEq α] {f : α → D} {n : Nat} {x : α} {ys : List α} {d : D} {M : Mp} {Q : DQ} (hf : ∀ a, lay n (f a)) (he : ∀ a b, deq (f a) (f b) = decide (a = b)) (hr : res M (f x) = f x) (hd : sqD M d = some (ys.map f)) (hn : n ≤ 63) (hx : x ∉ ys) (h : Q (.bl false) M) : rdIn false (f x) d M Q :=
  (inD hf he hr hd hn).mpr (by rw [decide_eq_false hx]; exact h)
instance (a b : Int × Int × Int) : Decidable (mkLt a b) := by unfold mkLt; infer_instance
instance (a b : Int × Int) : Decidable (spLt a b) := by unfold spLt; infer_instance
theorem minMk {a c : Int × Int × Int} {M : Mp} {Q : DQ} (h : Q (mkD (if mkLt c a then c else a)) M) : rdTwoT (fun x y => HT.lexLt y x) [.tup [.int a.1, .int a.2.1, .int a.2.2], .tup [.int c.1, .int c.2.1, .int c.2.2]] M Q := by
  refine ⟨[a.1, a.2.1, a.2.2], [c.1, c.2.1, c.2.2], rfl, rfl, ?_⟩
  by_cases e : mkLt c a
  · rw [if_pos (lexMk.mpr e)]
    rw [if_pos e] at h
    exact h
  · rw [if_neg fun z => e (lexMk.mp z)]
    rw [if_neg e] at h
    exact h
theorem maxMk {a c : Int × Int × Int} {M : Mp} {Q : DQ} (h : Q (mkD (if mkLt a c then c else a)) M) : rdTwoT (fun x y => HT.lexLt x y) [.tup [.int a.1, .int a.2.1, .int a.2.2], .tup [.int c.1, .int c.2.1, .int c.2.2]] M Q := by
  refine ⟨[a.1, a.2.1, a.2.2], [c.1, c.2.1, c.2.2], rfl, rfl, ?_⟩
  by_cases e : mkLt a c
  · rw [if_pos (lexMk.mpr e)]
    rw [if_pos e] at h
    exact h
  · rw [if_neg fun z => e (lexMk.mp z)]
    rw [if_neg e] at h
    exact h
theorem cut_to {α : Type} {f : α → D} {xs : List α} {n : Nat} : cutD (xs.map f) none (some (n : Int)) = (xs.take n).map f := by
  unfold cutD HT.sIx
  simp only [List.length_map]
  rw [if_neg (by omega)]
  simp only [Int.toNat_natCast, List.drop_zero, Nat.sub_zero]
  rw [List.map_take, Nat.min_def]
  split
  · rfl
  · rw [List.take_of_length_le (by simp), List.take_of_length_le (by simp; omega)]
theorem slL {xs ys : List D} {lo hi : Option Int} {M : Mp} {Q : DQ} (e : cutD xs lo hi = ys) (h : Q (.lst ys) M) : rdSl (.lst xs) lo hi M Q := ⟨xs, rfl, by rw [e]; exact h⟩
theorem allT {ds : List D} {M : Mp} {Q : DQ} (bs : List Bool) (e : ds = bs.map D.bl) (h : Q (.bl (bs.all id)) M) : rdAll [.lst ds] M Q := ⟨.lst ds, bs, rfl, by rw [e]; rfl, h⟩
theorem anyT {ds : List D} {M : Mp} {Q : DQ} (bs : List Bool) (e : ds = bs.map D.bl) (h : Q (.bl (bs.any id)) M) : rdAny [.lst ds] M Q := ⟨.lst ds, bs, rfl, by rw [e]; rfl, h⟩
theorem addL {xs ys : List D} {M : Mp} {Q : DQ} : rdAdd (.lst xs) (.lst ys) M Q = (xs.length + ys.length ≤ sizeLine ∧ Q (.lst (xs ++ ys)) M) := by
  refine propext ⟨fun h => ?_, fun h => ⟨xs, ys, rfl, rfl, h⟩⟩
  obtain ⟨a, b, e1, e2, h⟩ := (show ∃ a b, sqX M (.lst xs) = some a ∧ sqX M (.lst ys) = some b ∧ a.length + b.length ≤ sizeLine ∧ Q (.lst (a ++ b)) M from h)
  cases e1
  cases e2
  exact h
theorem sz0 : (0 ≤ sizeLine) = True := by simp
theorem sz1 : (1 ≤ sizeLine) = True := by rw [szl]; decide
theorem sz2 : (2 ≤ sizeLine) = True := by rw [szl]; decide
theorem sz3 : (3 ≤ sizeLine) = True := by rw [szl]; decide
theorem injSp : ∀ a b : Int × Int, spD a = spD b → a = b := fun a b h => by
  unfold spD at h
  simp only [D.tup.injEq, List.cons.injEq, D.int.injEq, and_true] at h
  exact Prod.ext h.1 h.2
theorem injMk : ∀ a b : Int × Int × Int, mkD a = mkD b → a = b := fun a b h => by
  unfold mkD at h
  simp only [D.tup.injEq, List.cons.injEq, D.int.injEq, and_true] at h
  exact Prod.ext h.1 (Prod.ext h.2.1 h.2.2)
theorem injRng {lo c : Int} (hc : c ≠ 0) : ∀ a b : Nat, D.int (lo + (a : Nat) * c) = D.int (lo + (b : Nat) * c) → a = b := fun a b h => by
  rw [D.int.injEq] at h
  have : (a : Int) * c = b * c := by omega
  have := Int.eq_of_mul_eq_mul_right hc this
  omega
theorem all2_mem {α β : Type} {R : α → β → Prop} : ∀ {xs : List α} {os : List β}, All2 R xs os → ∀ o ∈ os, ∃ x ∈ xs, R x o
  | _, _, .nil, o, h => by cases h
  | _, _, .cons h1 h2, o, h => by
    rcases List.mem_cons.mp h with e | h
    · subst e
      exact ⟨_, List.mem_cons_self, h1⟩
    · obtain ⟨x, hx, r⟩ := all2_mem h2 o h
      exact ⟨x, List.mem_cons_of_mem _ hx, r⟩
theorem filterMap_some {α β : Type} {f : α → β} (xs : List α) : xs.filterMap (fun x => some (f x)) = xs.map f := by simp
end DL

namespace DL
open PySem L2
/-! ### the law's own head -/
theorem lawIn {K : PySem.W.Frag} {H : Hp} {a : Addr} {ns : List Int} {sp : DSp} (hsp : ∀ (ns : List Int) (M : Mp) (Q : DQ), ns.length ≤ 63 → (∀ M2, Q (.bl true) M2) → sp [.scr ns] M Q (fun _ _ _ => False)) (hl : ns.length ≤ 63) (hO : Only H) (hS : SqL K H a (ns.map V.int)) :
    spUp ⟨K, []⟩ sp [.ref a] H (fun v _ => v = .bl true) (fun _ _ _ => False) := by
  refine ⟨[.scr ns], fun _ => none, H, fun d _ => d = .bl true, fun _ _ _ => False, ⟨(fun p hp => nomatch hp), (fun b o e => ?_), (fun b o e => .inl e), (fun b c e => nomatch e)⟩, .cons (.scr ?_) .nil, hsp ns _ _ hl (fun _ => rfl), fun F' H' v d M' _ _ r e => ?_, fun _ _ _ _ _ _ _ _ _ _ _ z => z.elim⟩
  · rcases hO b with h | ⟨ob, xs, h⟩
    · rw [h] at e
      cases e
    · rw [h] at e
      cases e
      trivial
  · rcases hS with h | h
    · rcases h with h | h
      · exact .inl h
      · exact .inr (.inl h)
    · exact .inr (.inr h)
  · subst e
    cases r
    rfl
section
variable {P : Program} {w : World} {K : PySem.W.Frag} {mg : Str → Option Value} {base : Heap}
theorem FunK.okS {T : List (Addr × Str)} {x : Str} {st : Stmt} {f : Addr} {fd : FuncData} {N ps : List Str} {k : Nat} {sp : DSp} (Fn : FunK K x x st f fd) (S : FnScope N ps (defScope st)) (len : ∀ ds M Q E, sp ds M Q E → ds.length = ps.length)
    (hbody : ∀ (cdv : Value) (A : Around) (outer : List Env) (s : Shared) (H : Hp) (E : XK), Room k (A.deeper (PyProof.Rows.envOfC x (defScope st) s.heap.objs.size f cdv)) → ∃ t, DSs (cxOf (L2.CX P w) P w K mg base N x (defScope st) f cdv A outer s H E) (wOf T E) (defBody st) t ∧
      ∀ (ds : List D) (M : Mp) (Qd : DQ) (Ed : DXK), sp ds M Qd Ed → t { nx := fun _ M' => Fin ⟨K, T⟩ Qd .non M', rt := Fin ⟨K, T⟩ Qd, ex := fun _ C fs M' => Ed C fs M' } (dstart N ds) M) : FnOk P w K mg base (L2.CX P w) (k + 1) f fd ps (spUp ⟨K, T⟩ sp) :=
  dfn Fn S len fun cdv A outer s H E hr => by
    obtain ⟨t, ht, hq⟩ := hbody cdv A outer s H E hr
    exact ⟨t, ht, fun ds M Qd Ed F H h c => ⟨F, M, Same.refl _, c, hq ds M Qd Ed h⟩⟩
theorem exB_of {x qual : Str} {st : Stmt} {CL f : Addr} {mc : Value} {fd : FuncData} (m : mg x = some (.ref CL)) (rd : PySem.W.readsIn K CL mc = true) (ga : PySem.W.specialIn K (.ref CL) "__getattribute__" = some (some (.builtin "type.__getattribute__")))
    (kk : PySem.W.findCls K (.ref CL) mc "__init__" = some (.val (.ref f))) (F : Fun K "__init__" qual st f fd) (S : FnScope ["self", "word"] ["self", "word"] (defScope st)) (b : Binds K fd ["self", "word"] [])
    (hps : ∀ (cdv : Value) (A : Around) (outer : List Env) (s : Shared) (H : Hp) (E : XK), PSs (cxOf (L2.CX P w) P w K mg base ["self", "word"] qual (defScope st) f cdv A outer s H E) (defBody st) (tOst K "word" (tVar 0) (tVar 1))) : ExB P w K mg base x "word" :=
  ⟨⟨CL, f, fd, mc, m, ⟨rd, ga⟩, kk, okBase (FunK.of F) S hps, F.kp, b⟩⟩
end
end DL

namespace DLC
open PySem PySem.Spec PyProof.Rows L2 PpSet
/-! ### set comprehensions, whatever is added: the part behind the first clause's tests is `tl` -/
abbrev TL := L2.St → Hp → (Hp → Prop) → Prop
section
variable {prog : Program} {w : World} {A : Around} {R : Result → Shared → Prop} {s : Shared} {env : Env} {elt tg iter : Expr} {ifs : List Expr} {rest : List Comprehension} {scope : Scope} {pos : Pos} {it acc : Value} {tl : (Unit → Sem PySem.Fin) → Sem PySem.Fin} {gens : List Comprehension}
/-- one turn of a clause, told by what follows its tests -/
def TurnIs (e0 : Expr) (k : Nat) (tg iter : Expr) (ifs : List Expr) (it acc : Value) (env : Env) (tl : (Unit → Sem PySem.Fin) → Sem PySem.Fin) : Prop :=
  compTurn e0 k it acc env = (do
    standAt iter.pos
    match ← pyNext it with
    | none => pure (.done .next)
    | some v =>
      letOwnedTupleGo tg it v
      assign tg env v
      let mut ok := true
      for c in ifs do
        if ok then ok ← isTrue c env (eval c env)
      if ok = true then tl (fun _ => again (.compLoop e0 k it acc env)) else again (.compLoop e0 k it acc env))
/-- it comes through to what follows -/
def Thru (prog : Program) (w : World) (A : Around) (tl : (Unit → Sem PySem.Fin) → Sem PySem.Fin) (P : Shared → Prop) (s : Shared) : Prop := ∀ (Q : PySem.Fin → Shared → Prop) (E : Value → Shared → Prop) (k : Unit → Sem PySem.Fin), (∀ s', P s' → wpAny (model prog w) A (k ()) Q E s') → wpAny (model prog w) A (tl k) Q E s
abbrev Sure {α : Type} (prog : Program) (w : World) (A : Around) (t : Sem α) (Q : α → Shared → Prop) (s : Shared) : Prop := wpAny (model prog w) A t Q (fun _ _ => False) s
theorem Sure.to {α : Type} {t : Sem α} {Q Q' : α → Shared → Prop} {E : Value → Shared → Prop} (h : Sure prog w A t Q s) (k : ∀ a s', Q a s' → Q' a s') : wpAny (model prog w) A t Q' E s := wpAny_mono h k fun _ _ z => z.elim
theorem turns {k : Nat} (ht : TurnIs (.SetComp elt gens scope pos) k tg iter ifs it acc env tl) (I : Nat → Shared → Prop)
    (turn : ∀ n s, I n s → Sure prog w A (pyNext it) (fun r s1 => match r with
      | none => R (.ok .next) s1
      | some v => Sure prog w A (letOwnedTupleGo tg it v) (fun _ s2 => Sure prog w A (assign tg env v) (fun _ s3 =>
          Sure prog w A (forIn ifs true fun c r => if r = true then do let ok ← isTrue c env (eval c env); pure (ForInStep.yield ok) else pure (ForInStep.yield r)) (fun ok s4 =>
            if ok = true then Thru prog w A tl (fun s5 => ∃ m, m < n ∧ I m s5) s4 else ∃ m, m < n ∧ I m s4) s3) s2) s1) s)
    (n : Nat) (h : I n s) : codeAny (model prog w) A (.compLoop (.SetComp elt gens scope pos) k it acc env) R s := by
  refine codeAny_loop rfl I (fun n s hI => ?_) n h
  show wpAny _ A ((compTurn (.SetComp elt gens scope pos) k it acc env).onRaise (fun x => do noteFrame x env; theTreesLotGoes x)) _ _ s
  refine wpAny_noted ?_
  rw [show compTurn (.SetComp elt gens scope pos) k it acc env = _ from ht]
  refine wpAny_bind (wpAny_standAt (wpAny_bind ((turn n s hI).to fun r s1 h1 => ?_)))
  cases r with
  | none => exact wpAny_pure h1
  | some v =>
    refine wpAny_bind (Sure.to h1 fun _ s2 h2 => wpAny_bind (Sure.to h2 fun _ s3 h3 => wpAny_bind (Sure.to h3 fun ok s4 h4 => ?_)))
    cases ok with
    | false => exact wpAny_pure ⟨rfl, h4⟩
    | true => exact h4 _ _ _ fun s5 h5 => wpAny_pure ⟨rfl, h5⟩
end
section
variable {X : Cx}
/-- the comprehension's reading: D the new set, S0 what it is at first -/
def tSet (S0 : Addr → HO) (wi : TI) (g : TG) (tt : TT) (tl : Addr → TL) (vs : List Nat) : TE := fun σ H Q => wi σ H fun J H1 => ∀ D, H1 D = none → ∃ W : Nat → Nat → Hp → Prop, (∃ m, W 0 m (upd H1 D (S0 D))) ∧ ∀ i m H2, W i m H2 →
  (J.stop i H2 ∧ Q (.ref D) H2) ∨ (J.go i H2 ∧ ∃ Nx : Hp → Prop, (∀ H', Nx H' → ∃ m', m' < m ∧ W (i + 1) m' H') ∧ ∀ x H', J.yld i H2 x H' → g x (wipe σ vs) H' fun σ2 H3 => wipe σ2 vs = wipe σ vs ∧ tt σ2 H3 fun b H4 => if b = true then tl D σ2 H4 Nx else Nx H4)
/-- what follows the tests, in the block: it leaves the slots but the block's own -/
def TailOk (X : Cx) (vs : List Nat) (p : (Unit → Sem PySem.Fin) → Sem PySem.Fin) (t : TL) : Prop := ∀ (pins : List (Addr × Obj)) (s : Shared) (σ : L2.St) (H : Hp) (Nx : Hp → Prop), L2.Inv X pins σ H s → t σ H Nx →
  Thru X.prog X.w X.A p (fun s' => ∃ (σ' : L2.St) (H' : Hp), L2.Inv X pins σ' H' s' ∧ σ.length = σ'.length ∧ (∀ (j : Nat) v, (wipe σ vs)[j]? = some (some v) → σ'[j]? = some (some v)) ∧ Nx H') s
def freshSet (w : World) : Obj := { cls := .type "set", dict := none, data := .set #[] 0 (.fresh 0 0 (!w.params.followText "set-order")) }
theorem pe_set {S0 : Addr → HO} {elt tg iter : Expr} {ifs : List Expr} {rest : List Comprehension} {scope : Scope} {own : List (Str × Nat)} {pos : Pos} {wi : TI} {g : TG} {tt : TT} {tl : Addr → TL} {p : Value → Env → (Unit → Sem PySem.Fin) → Sem PySem.Fin}
    (hc : X.calm = true) (hN : X.N.Nodup) (hi : PI X tg iter wi) (ok : BlkOk X.N X.env.scope scope own)
    (hS : ∀ (H : Hp) (h : Heap) (a : Addr), h.get? a = some (freshSet X.w) → ObjOk X.prog X.w H h a (S0 a))
    (ht : ∀ it acc env, TurnIs (.SetComp elt (⟨tg, iter, ifs, 0⟩ :: rest) scope pos) 0 tg iter ifs it acc env (p acc env))
    (hg : ∀ (s : Shared) (H : Hp) (C : Addr) (cl : List (Str × Addr)) (fp : List Addr), PG (X.blk s H scope (compEnvC scope cl C X.env) fp) tg g)
    (hb : ∀ (s : Shared) (H : Hp) (C : Addr) (cl : List (Str × Addr)) (fp : List Addr), PTs (X.blk s H scope (compEnvC scope cl C X.env) fp) ifs tt)
    (hl : ∀ (s : Shared) (H : Hp) (C : Addr) (cl : List (Str × Addr)) (fp : List Addr) (D : Addr), TailOk (X.blk s H scope (compEnvC scope cl C X.env) fp) (own.map (·.2)) (p (.ref D) (compEnvC scope cl C X.env)) (tl D))
    (hs : ∀ x, foldedSetIterable iter X.env x = pure x := by intro _; rfl) :
    PE X (.SetComp elt (⟨tg, iter, ifs, 0⟩ :: rest) scope pos) (tSet S0 wi g tt tl (own.map (·.2))) := by
  refine ⟨fun pins s σ H Q I h => ?_⟩
  rw [eval_SetComp]
  have clo : ∀ y ∈ scope.names, y.2 = .free → ∃ c, X.env.cells.lookup y.1 = some c := fun y hy e => (ok.free y hy e).elim (fun k => I.ok.has _ (.inl k)) fun k => I.ok.has _ (.inr k)
  refine wpAny_comprehension_free (use := none) rfl hs (closure_ok clo) ok.kind (fun y hy e => by rw [ok.uniq y hy, e]) (thn (hi.run pins s σ H _ I h) fun v0 sa ha => thn ha fun iv sb hb0 => ?_)
  obtain ⟨I0, fp, tn, J, Hb, e, Ib, Tr, stb, fpb, q⟩ := hb0
  subst e
  refine newSet_ok (newEnv_comp ?_)
  -- the new set at D
  obtain ⟨D, hD⟩ : ∃ D, sb.heap.objs.size = D := ⟨_, rfl⟩
  rw [hD]
  have dn : Hb D = none := Ib.hok.fresh (Nat.le_of_eq hD)
  obtain ⟨W, ⟨m0, w0⟩, turn⟩ := q D dn
  obtain ⟨sc, hsc⟩ : ∃ sc : Shared, sc = { sb with heap := sb.heap.push (freshSet X.w) } := ⟨_, rfl⟩
  have hch : sc.heap = sb.heap.push (freshSet X.w) := by rw [hsc]
  obtain ⟨Hc, hHc⟩ : ∃ Hc, Hc = upd Hb D (S0 D) := ⟨_, rfl⟩
  have Ic : Inv X pins σ Hc sc := by
    rw [hHc, hsc]
    refine Ib.laid (t' := sb.toks) (fun b o e => Heap.get?_push_of_some _ e) (Nat.le_of_eq hD) ?_
    rw [← hD]
    exact hS _ _ _ (Heap.get?_push_size _ rfl)
  have old : ∀ b ∈ fp, b < sb.heap.objs.size := fun b hb => by
    obtain ⟨o, e, _⟩ := Tr.obj _ _ stb b hb
    exact Heap.lt_size e
  have fpc : ∀ b ∈ fp, FpOk X pins Hc b ∧ b < sc.heap.objs.size := fun b hb => by
    have lt := old b hb
    refine ⟨⟨?_, (fpb b hb).2⟩, by rw [hch, Heap.size_push]; exact Nat.lt_succ_of_lt lt⟩
    rw [hHc, upd_ne (by rw [← hD]; exact Nat.ne_of_lt lt)]
    exact (fpb b hb).1
  have stc : tn 0 sc.heap := Tr.keep _ _ _ stb fun b _ o e => by rw [hch]; exact Heap.get?_push_of_some _ e
  have Id := block_start Ic ok hN fpc
  rw [← hHc] at w0
  have e4 : ({ sb with heap := sb.heap.push { cls := .type "set", dict := none, data := .set #[] 0 (.fresh 0 0 (!X.w.params.followText "set-order")) } } : Shared) = sc := by rw [hsc]; rfl
  rw [e4]
  obtain ⟨cl, hcl⟩ : ∃ cl, cl = cellsFrom (sc.heap.objs.size + 1) scope.names (cloFrom X.env.cells scope.names []) := ⟨_, rfl⟩
  rw [← hcl] at Id ⊢
  obtain ⟨C, hC⟩ : ∃ C, C = sc.heap.objs.size := ⟨_, rfl⟩
  rw [← hC] at Id ⊢
  have pg := hg sc Hc C cl fp
  have pb := hb sc Hc C cl fp
  have pl := hl sc Hc C cl fp D
  have cC : (compEnvC scope cl C X.env).locals = C := rfl
  have nfp : ∀ b ∈ fp, Hc b = none := fun b hb => (fpc b hb).1.1
  obtain ⟨sd, hsd⟩ : ∃ sd : Shared, sd = { sc with heap := pushCells (sc.heap.push { cls := .type "dict", data := .dict #[] }) scope.names } := ⟨_, rfl⟩
  rw [← hsd] at Id
  have std : tn 0 sd.heap := Tr.keep _ _ _ stc fun b _ o e => by rw [hsd]; exact pushCells_keeps _ _ _ _ (Heap.get?_push_of_some _ e)
  have still : ∀ {σ' : L2.St} {H' : Hp} {s' : Shared}, L2.Inv (X.blk sc Hc scope (compEnvC scope cl C X.env) fp) [] σ' H' s' → (∀ b ∈ fp, H' b = none) → ∀ b ∈ fp, FpOk (X.blk sc Hc scope (compEnvC scope cl C X.env) fp) [] H' b := fun J' hn b hb =>
    ⟨hn b hb, (J'.ok.exf b hb).1, J'.ok.exfs b hb, .inl hb, (fun x c e => (J'.ok.exf b hb).2 x c e), fun q hq => by simp at hq⟩
  have loop : codeAny (model X.prog X.w) X.A (.compLoop (.SetComp elt (⟨tg, iter, ifs, 0⟩ :: rest) scope pos) 0 (.ref I0) (.ref D) (compEnvC scope cl C X.env)) (compPost (model X.prog X.w) X.A X.xe none (EP X pins σ Q) (.ref D) C) sd := by
    refine turns (ht _ _ _) (fun n s' => ∃ i H', L2.Inv (X.blk sc Hc scope (compEnvC scope cl C X.env) fp) [] (wipe σ (own.map (·.2))) H' s' ∧ tn i s'.heap ∧ (∀ b ∈ fp, H' b = none) ∧ W i n H') ?_ m0 ⟨0, Hc, Id, std, nfp, w0⟩
    rintro n s5 ⟨i, H5, I5, st5, n5, w5⟩
    rcases turn i n H5 w5 with ⟨stop, qq⟩ | ⟨go, Nx, hNx, step⟩
    · -- the end
      refine Sure.to (Tr.done (X.blk sc Hc scope (compEnvC scope cl C X.env) fp) rfl rfl rfl hc i [] s5 _ H5 (fun _ _ => False) I5 (still I5 n5) st5 stop) fun r s6 ⟨hr, I6⟩ => ?_
      subst hr
      have I7 : L2.Inv X pins σ H5 s6 := Ic.call' (ch := fp) I6.os I6.base I6.hok I6.bare fun b hb => ⟨(fpc b hb).1.2.2.2.1, (fpc b hb).1.2.1, (fpc b hb).1.2.2.2.2.1, (fpc b hb).1.2.2.2.2.2⟩
      have nC : H5 C = none := I6.free
      obtain ⟨m, hn, _⟩ := I6.loc
      have hn : s6.heap.Ns C m := hn
      obtain ⟨f0, f1, f2, f3, f4, f5⟩ := Ic.fpOk (b := C) (by rw [hC]; exact Nat.le_refl _) nC
      exact ⟨m, hn, fun h'' sb => ⟨.ref D, H5, I7.turned (t' := s6.toks) (fun b o hb e => (sb.2 b hb).trans e) f0 f1 f3 f4 f5, rfl, qq⟩⟩
    · -- one item
      refine Sure.to (Tr.item (X.blk sc Hc scope (compEnvC scope cl C X.env) fp) rfl rfl rfl hc i [] s5 _ H5 (fun _ _ => False) I5 (still I5 n5) st5 go) fun r s6 ⟨u, hr, h6⟩ => ?_
      subst hr
      refine Sure.to h6 fun _ s7 ⟨x, H7, I7, r7, y7, st7, n7⟩ => ?_
      have I8 := I7.pinned (still I7 n7) (Tr.obj _ _ st7)
      refine Sure.to (pg.run _ s7 _ H7 x u _ I8 r7 (step x H7 y7)) fun _ s8 ⟨σ8, H8, J8, hw8, q8⟩ => ?_
      refine Sure.to (pb.run _ s8 σ8 H8 _ J8 q8) fun b s9 ⟨H9, I9, q9⟩ => ?_
      have over : ∀ {σ9 : L2.St} {s' : Shared} {H' : Hp}, L2.Inv (X.blk sc Hc scope (compEnvC scope cl C X.env) fp) ([] ++ pinsAt fp s7.heap) σ9 H' s' → σ8.length = σ9.length → (∀ (j : Nat) v, (wipe σ8 (own.map (·.2)))[j]? = some (some v) → σ9[j]? = some (some v)) → Nx H' →
          ∃ m, m < n ∧ ∃ i H', L2.Inv (X.blk sc Hc scope (compEnvC scope cl C X.env) fp) [] (wipe σ (own.map (·.2))) H' s' ∧ tn i s'.heap ∧ (∀ b ∈ fp, H' b = none) ∧ W i m H' := fun {σ9 s' H'} J' hl hk nx => by
        obtain ⟨m', hm, w'⟩ := hNx H' nx
        have pin : ∀ b ∈ fp, ∀ o, s7.heap.get? b = some o → s'.heap.get? b = some o ∧ H' b = none := fun b hb o e => by
          have z := J'.pin (b, o) (List.mem_append_right _ (List.mem_append_right _ (mem_pinsAt hb e)))
          exact ⟨z.1, z.2.1⟩
        refine ⟨m', hm, i + 1, H', (J'.unpinned (pins := [])).weak (by rw [← hw8, wipe_length]; exact hl) (fun j v e => ?_), Tr.keep _ _ _ st7 fun b hb o e => (pin b hb o e).1, fun b hb => ?_, w'⟩
        · rw [← hw8] at e
          exact hk j v e
        · obtain ⟨o, e, _⟩ := Tr.obj _ _ st7 b hb
          exact (pin b hb o e).2
      cases b with
      | false =>
        rw [if_neg Bool.false_ne_true] at q9 ⊢
        exact over I9 rfl (fun j v e => (wipe_some e).1) q9
      | true =>
        rw [if_pos rfl] at q9 ⊢
        exact fun Qf Ef kf hf => pl _ s9 σ8 H9 Nx I9 q9 Qf Ef kf fun s10 ⟨σ9, H10, I10, hl, hk, nx⟩ => hf s10 (over I10 hl hk nx)
  have go := codeAny_compStart_set loop (Tr.self X.A 0 _ _ _ std loop)
  rw [hsd] at go
  exact go
/-! ### what follows the tests: the element is added, or one more clause -/
def addIt (elt : Expr) (acc : Value) (env : Env) (k : Unit → Sem PySem.Fin) : Sem PySem.Fin := do
  let u ← (do
    let v ← eval elt env
    standAt elt.pos
    let _ ← call (.builtin "set.add") [acc, v])
  k u
def tAdd (r : V → List V → Hp → VK → Prop) (te : TE) (D : Addr) : TL := fun σ H Nx => te σ H fun y H1 => r (.ref D) [y] H1 fun _ H2 => Nx H2
theorem turn_one (elt tg iter : Expr) (ifs : List Expr) (scope : Scope) (pos : Pos) (it acc : Value) (env : Env) : TurnIs (.SetComp elt [⟨tg, iter, ifs, 0⟩] scope pos) 0 tg iter ifs it acc env (addIt elt acc env) := by
  unfold TurnIs addIt
  rfl
theorem turn_in (elt tg iter tg1 iter1 : Expr) (ifs ifs1 : List Expr) (scope : Scope) (pos : Pos) (it acc : Value) (env : Env) : TurnIs (.SetComp elt [⟨tg, iter, ifs, 0⟩, ⟨tg1, iter1, ifs1, 0⟩] scope pos) 1 tg1 iter1 ifs1 it acc env (addIt elt acc env) := by
  unfold TurnIs addIt
  rfl
def further (e0 iter1 : Expr) (acc : Value) (env : Env) (k : Unit → Sem PySem.Fin) : Sem PySem.Fin := do
  let x ← eval iter1 env
  standAt iter1.pos
  let x ← foldedSetIterable iter1 env x
  let _ ← runOwn (.compStart e0 1 (← holding [x] (pyIter x)) acc env) env
  k ()
theorem turn_out (elt tg iter tg1 iter1 : Expr) (ifs ifs1 : List Expr) (scope : Scope) (pos : Pos) (it acc : Value) (env : Env) : TurnIs (.SetComp elt [⟨tg, iter, ifs, 0⟩, ⟨tg1, iter1, ifs1, 0⟩] scope pos) 0 tg iter ifs it acc env (further (.SetComp elt [⟨tg, iter, ifs, 0⟩, ⟨tg1, iter1, ifs1, 0⟩] scope pos) iter1 acc env) := by
  unfold TurnIs further
  rfl
theorem tail_add {vs : List Nat} {elt : Expr} {te : TE} {r : V → List V → Hp → VK → Prop} {D : Addr} (he : PE X elt te) (hr : MtR X "set.add" r) (hx : X.xe = fun _ _ => False) : TailOk X vs (addIt elt (.ref D) X.env) (tAdd r te D) := fun pins s σ H Nx I h Qf Ef kf hf => by
  unfold addIt
  refine wpAny_bind ?_
  have := he.run pins s σ H _ I h
  rw [hx] at this
  refine wpAny_bind (Sure.to this fun u s1 ⟨y, H1, I1, ry, q⟩ => ?_)
  have z := hr pins s1 σ H1 (.ref D) [y] (.ref D) [u] _ I1 rfl (.cons ry .nil) q
  rw [hx] at z
  refine wpAny_bind (wpAny_standAt (wpAny_bind (Sure.to z fun _ s2 ⟨_, H2, I2, _, nx⟩ => wpAny_pure ?_)))
  exact hf s2 ⟨σ, H2, I2, rfl, fun j v e => (wipe_some e).1, nx⟩
/-- one more clause -/
def tMore (wi : TI) (g : TG) (tt : TT) (tl : TL) (vs : List Nat) : TL := fun σ H Nx => wi σ H fun J H1 => ∃ W : Nat → Nat → Hp → Prop, (∃ m, W 0 m H1) ∧ ∀ j m H2, W j m H2 →
  (J.stop j H2 ∧ Nx H2) ∨ (J.go j H2 ∧ ∃ Ny : Hp → Prop, (∀ H', Ny H' → ∃ m', m' < m ∧ W (j + 1) m' H') ∧ ∀ x H', J.yld j H2 x H' → g x (wipe σ vs) H' fun σ2 H3 => wipe σ2 vs = wipe σ vs ∧ tt σ2 H3 fun b H4 => if b = true then tl σ2 H4 Ny else Ny H4)
section
variable {prog : Program} {w : World} {A : Around} {R : Result → Shared → Prop} {s : Shared} {env : Env} {elt tg iter tg1 iter1 : Expr} {ifs ifs1 : List Expr} {scope : Scope} {pos : Pos} {it acc : Value}
theorem begin1 (h0 : codeAny (model prog w) A (.compLoop (.SetComp elt [⟨tg, iter, ifs, 0⟩, ⟨tg1, iter1, ifs1, 0⟩] scope pos) 1 it acc env) R s)
    (h : Sure prog w A (pyIter it) (fun i2 s' => codeAny (model prog w) A (.compLoop (.SetComp elt [⟨tg, iter, ifs, 0⟩, ⟨tg1, iter1, ifs1, 0⟩] scope pos) 1 i2 acc env) R s') s) :
    codeAny (model prog w) A (.compStart (.SetComp elt [⟨tg, iter, ifs, 0⟩, ⟨tg1, iter1, ifs1, 0⟩] scope pos) 1 it acc env) R s := by
  refine codeAny_of_tree ?_
  show wpAny _ _ ((compStart (.SetComp elt [⟨tg, iter, ifs, 0⟩, ⟨tg1, iter1, ifs1, 0⟩] scope pos) 1 it acc env).onRaise (fun x => do noteFrame x env; standAt theWindowsPlace)) _ _ s
  refine wpAny_notedAt ?_
  unfold compStart
  show wpAny _ _ (ask >>= _) _ _ s
  refine wpAny_bind (wpAny_askSetting (wpAny_ite ?_))
  split
  · first
      | exact wpAny_pure (And.intro rfl h0)
      | exact wpAny_bind (wpAny_pure (wpAny_pure (And.intro rfl h0)))
  · refine wpAny_bind (wpAny_rule ?_)
    first
      | exact wpAny_bind (wpAny_standAt (wpAny_bind (Sure.to h fun i2 s' h' => wpAny_pure (And.intro rfl h'))))
      | (show wpAny _ _ (standAt iter1.pos >>= _) _ _ s; exact wpAny_bind (wpAny_standAt (wpAny_bind (Sure.to h fun i2 s' h' => wpAny_pure (And.intro rfl h')))))
end
theorem tail_more {vs vs1 : List Nat} {elt tg iter tg1 iter1 : Expr} {ifs ifs1 : List Expr} {scope : Scope} {pos : Pos} {wi : TI} {g : TG} {tt : TT} {tl : TL} {D : Addr}
    (hc : X.calm = true) (hi : PI X tg1 iter1 wi) (hg : PG X tg1 g) (hb : PTs X ifs1 tt) (hl : TailOk X vs1 (addIt elt (.ref D) X.env) tl) (hv : ∀ i ∈ vs1, i ∈ vs) (hx : X.xe = fun _ _ => False) (hs : ∀ x, foldedSetIterable iter1 X.env x = pure x) :
    TailOk X vs (further (.SetComp elt [⟨tg, iter, ifs, 0⟩, ⟨tg1, iter1, ifs1, 0⟩] scope pos) iter1 (.ref D) X.env) (tMore wi g tt tl vs1) := fun pins s σ H Nx I h Qf Ef kf hf => by
  unfold further
  have z := hi.run pins s σ H _ I h
  rw [hx] at z
  refine wpAny_bind (Sure.to z fun xv s1 h1 => ?_)
  refine wpAny_bind (wpAny_standAt (wpAny_bind (wpAny_of_eq (hs xv) (wpAny_bind (wpAny_holding (Sure.to h1 fun iv s2 h2 => ?_))))))
  obtain ⟨I0, fp, tn, J, H2, e, I2, Tr, st2, f2, W, ⟨m0, w0⟩, turn⟩ := h2
  subst e
  refine wpAny_bind (wpAny_runOwn ?_)
  rw [Around.mark_none]
  have still : ∀ {H' : Hp}, (∀ b ∈ fp, H' b = none) → ∀ b ∈ fp, FpOk X pins H' b := fun hn b hb => ⟨hn b hb, (f2 b hb).2⟩
  have loop : codeAny (model X.prog X.w) X.A (.compLoop (.SetComp elt [⟨tg, iter, ifs, 0⟩, ⟨tg1, iter1, ifs1, 0⟩] scope pos) 1 (.ref I0) (.ref D) X.env)
      (fun r s' => match r with
        | .ok _ => ∃ H', L2.Inv X pins (wipe σ vs1) H' s' ∧ Nx H'
        | .error _ => False) s2 := by
    refine turns (turn_in elt tg iter tg1 iter1 ifs ifs1 scope pos _ _ _) (fun n s' => ∃ j H', L2.Inv X pins (wipe σ vs1) H' s' ∧ tn j s'.heap ∧ (∀ b ∈ fp, H' b = none) ∧ W j n H') ?_ m0 ⟨0, H2, I2.weak (wipe_length _ _) (fun j v e => (wipe_some e).1), st2, fun b hb => (f2 b hb).1, w0⟩
    rintro n s5 ⟨j, H5, I5, st5, n5, w5⟩
    rcases turn j n H5 w5 with ⟨stop, nx⟩ | ⟨go, Ny, hNy, step⟩
    · have td := Tr.done X rfl rfl rfl hc j _ s5 (wipe σ vs1) H5 (fun _ _ => False) I5 (still n5) st5 stop
      refine Sure.to td fun r s6 ⟨hr, I6⟩ => ?_
      subst hr
      exact ⟨H5, I6, nx⟩
    · have ti := Tr.item X rfl rfl rfl hc j _ s5 (wipe σ vs1) H5 (fun _ _ => False) I5 (still n5) st5 go
      refine Sure.to ti fun r s6 ⟨u, hr, h6⟩ => ?_
      subst hr
      refine Sure.to h6 fun _ s7 ⟨x, H7, I7, r7, y7, st7, n7⟩ => ?_
      have I8 := I7.pinned (still n7) (Tr.obj _ _ st7)
      have zg := hg.run _ s7 (wipe σ vs1) H7 x u _ I8 r7 (step x H7 y7)
      rw [hx] at zg
      refine Sure.to zg fun _ s8 ⟨σ8, H8, J8, hw8, q8⟩ => ?_
      have zb := hb.run _ s8 σ8 H8 _ J8 q8
      rw [hx] at zb
      refine Sure.to zb fun b s9 ⟨H9, I9, q9⟩ => ?_
      have over : ∀ {σ9 : L2.St} {s' : Shared} {H' : Hp}, L2.Inv X (pins ++ pinsAt fp s7.heap) σ9 H' s' → σ8.length = σ9.length → (∀ (i : Nat) v, (wipe σ8 vs1)[i]? = some (some v) → σ9[i]? = some (some v)) → Ny H' →
          ∃ m, m < n ∧ ∃ j H', L2.Inv X pins (wipe σ vs1) H' s' ∧ tn j s'.heap ∧ (∀ b ∈ fp, H' b = none) ∧ W j m H' := fun {σ9 s' H'} J' hl hk ny => by
        obtain ⟨m', hm, w'⟩ := hNy H' ny
        have pin : ∀ b ∈ fp, ∀ o, s7.heap.get? b = some o → s'.heap.get? b = some o ∧ H' b = none := fun b hb o e => by
          have z := J'.pin (b, o) (List.mem_append_right _ (List.mem_append_right _ (mem_pinsAt hb e)))
          exact ⟨z.1, z.2.1⟩
        refine ⟨m', hm, j + 1, H', J'.unpinned.weak (by rw [← hw8, wipe_length]; exact hl) (fun i v e => ?_), Tr.keep _ _ _ st7 fun b hb o e => (pin b hb o e).1, fun b hb => ?_, w'⟩
        · rw [← hw8] at e
          exact hk i v e
        · obtain ⟨o, e, _⟩ := Tr.obj _ _ st7 b hb
          exact (pin b hb o e).2
      cases b with
      | false =>
        rw [if_neg Bool.false_ne_true] at q9 ⊢
        exact over I9 rfl (fun i v e => (wipe_some e).1) q9
      | true =>
        rw [if_pos rfl] at q9 ⊢
        exact fun Qg Eg kg hg' => hl _ s9 σ8 H9 Ny I9 q9 Qg Eg kg fun s10 ⟨σ9, H10, I10, hl', hk, ny⟩ => hg' s10 (over I10 hl' hk ny)
  have go := begin1 loop (Tr.self X.A 0 _ _ _ st2 loop)
  refine codeAny_mono go fun r s' hr => ?_
  cases r with
  | error e => exact hr.elim
  | ok f =>
    obtain ⟨H', J', nx⟩ := hr
    have fin : wpAny (model X.prog X.w) X.A (kf ()) Qf Ef s' := hf s' ⟨wipe σ vs1, H', J', (wipe_length _ _).symm, fun j v e => by
      obtain ⟨e1, e2⟩ := wipe_some e
      rw [wipe_out fun z => e2 (hv j z)]
      exact e1, nx⟩
    first
      | exact fin
      | exact wpAny_bind (wpAny_pure fin)
      | exact wpAny_pure fin
end
end DLC

namespace DLC
open PySem PySem.Spec PyProof.Rows L2
/-! ### set.add of a tuple of ints -/
def rTAdd (K : PySem.W.Frag) (P : Program) (w : World) : V → List V → Hp → VK → Prop := fun x xs H Q => ∃ (a b : Addr) (k : List Int) (L : List (Addr × List Int)), x = V.ref a ∧ xs = [V.ref b] ∧ H a = some (SetTO P w a L) ∧ SqT K H b (k.map V.int) ∧ (∀ p ∈ L, SqT K H p.1 (p.2.map V.int)) ∧ L.length + 1 < 64 ∧
  ∀ L' : List (Addr × List Int), (k ∈ L.map (·.2) → L' = L) → (k ∉ L.map (·.2) → L'.Perm ((b, k) :: L)) → Q .non (upd H a (SetTO P w a L'))
theorem mt_tadd {X : Cx} (hu0 : X.A.units + 64 < cLine) : MtR X "set.add" (rTAdd X.K X.prog X.w) := by
  intro pins s σ H x xs v us Q I rx rxs h
  have hu : X.A.in1.units < cLine := by show X.A.units + 1 < cLine; omega
  obtain ⟨a, b, k, L, rfl, rfl, ha, hk, hL, hf, q⟩ := h
  cases rx
  cases rxs with
  | cons ry rt =>
    cases rt
    cases ry
    have R0 : SetT0 X.prog X.w s.heap a L := (I.hok a _ ha).1
    obtain ⟨es, ep, t, R⟩ := R0.full fun p hp => I.isT (hL p hp)
    have hx : IsT X.prog X.w s.heap k b := I.isT hk
    have tyS : s.TypeIs (.ref a) "set" := by
      obtain ⟨o, ho, hex, hd⟩ := R.ob
      exact ⟨o, ho, hex.1⟩
    refine wpAny_call_entry PySem.F.slot_set_add tyS PySem.F.entry_set_add ?_ (PySem.F.args_set_add_2 _ _)
    unfold Builtin.«set.add» Builtin.Frozenset.oneOther
    simp only [List.isEmpty_nil, bind_assoc]
    unfold Builtin.Frozenset.addrOf setAdd
    refine wpAny_bind (wpAny_pure ?_)
    try dsimp only
    refine wpAny_bind (wpAny_pure ?_)
    try dsimp only
    refine wpAny_bind (wpAny_holding (wpAny_bind (wpAny_pyHash_tuple hu hx ?_)))
    refine add_at (s := { s with toks := s.toks + (k.length + 1) }) R hx hu hf fun b' h' L' es' ep' t' sb R' c1 c2 => ?_
    show wpAny _ _ (ret Value.none) _ _ _
    have he : ∃ u, h'.get? a = some u := by
      obtain ⟨o, ho, _⟩ := R'.ob
      exact ⟨o, ho⟩
    refine wpAny_pure ⟨_, rfl, ?_⟩
    exact ⟨.non, upd H a (SetTO X.prog X.w a L'), I.write (e := a) (t' := s.toks + (k.length + 1)) (by rw [ha]; trivial) (.inl rfl) (fun b u hb hu => (sb.2 b hb).trans hu) he (setTO_new R'.t0), rfl, q L' c1 c2⟩
theorem newI {w : World} {P : Program} (H : Hp) (h : Heap) (a : Addr) (e : h.get? a = some (freshSet w)) : ObjOk P w H h a (SetO w a (fun _ => false) 0) := by
  refine setO_new ⟨_, #[], 0, _, e, ⟨rfl, rfl, rfl⟩, rfl, (fun e he => by simp at he), (by simp), (fun k => by simp), (by decide), (by rfl), rfl, List.Pairwise.nil, ?_⟩
  show _ ∨ (!w.params.followText "set-order") = true
  cases w.params.followText "set-order"
  · exact .inr rfl
  · exact .inl rfl
theorem newT {w : World} {P : Program} (H : Hp) (h : Heap) (a : Addr) (e : h.get? a = some (freshSet w)) : ObjOk P w H h a (SetTO P w a []) := setTO_new (setTR_fresh e).t0
end DLC

namespace DL
open PySem L2
theorem sqTS {K : PySem.W.Frag} {H H' : Hp} {a : Addr} {xs : List V} (e : Same H H') (h : SqT K H a xs) : SqT K H' a xs := by
  rcases h with h | h
  · rcases h with h | ⟨ob, h⟩
    · exact .inl (.inl (e _ _ h))
    · exact .inl (.inr ⟨ob, e _ _ h⟩)
  · exact .inr h
/-- pairs in [0, B): by the code they stand in their order -/
theorem code2 {B x y x' y' : Int} (h : TS.code B [x, y] ≤ TS.code B [x', y']) (b : 0 ≤ y ∧ y < B) (b' : 0 ≤ y' ∧ y' < B) : x < x' ∨ (x = x' ∧ y ≤ y') := by
  have e : ∀ u v : Int, TS.code B [u, v] = u * B + v := fun u v => by
    show u * B ^ 1 + (v * B ^ 0 + 0) = u * B + v
    have e1 : B ^ 1 = B := by rw [Int.pow_succ, Int.pow_zero, Int.one_mul]
    rw [e1, Int.pow_zero, Int.mul_one, Int.add_zero]
  rw [e, e] at h
  rcases Int.lt_trichotomy x x' with c | c | c
  · exact .inl c
  · subst c
    exact .inr ⟨rfl, by omega⟩
  · exfalso
    have : (x - x') * B ≥ 1 * B := Int.mul_le_mul_of_nonneg_right (by omega) (by omega)
    rw [Int.sub_mul] at this
    omega
section
variable {X : Cx} {W : WT} {e : Expr} {x : Str}
/-- sorted({x for x in xs}), xs a list of spans -/
def dSetSp (i : Nat) (t : DTE) : DTE := fun Γ M Q E => i < Γ.length ∧ t Γ M (fun d M1 => ∃ (as : List (Int × Int)) (B : Int), sqD M1 d = some (as.map spD) ∧ as.length < 64 ∧ (∀ s ∈ as, 0 ≤ s.1 ∧ s.1 < B ∧ 0 ≤ s.2 ∧ s.2 < B) ∧
  ∀ (L : List (Int × Int)) (p : Addr), (∀ s, s ∈ L ↔ s ∈ as) → L.length ≤ as.length → L.Pairwise spLt → M1 p = none → Q (.ref p) (mup M1 p (.lst (L.map spD)))) E
theorem upSetSp {i : Nat} {t : DTE} {σ : St} {H : Hp} {Q : VK} {P : Program} {w : World} (h : upE (kt X W) W.w (dSetSp i t) σ H Q) :
    tCB (rSortedT X.K P w) (tCons (DLC.tSet (fun D => SetTO P w D []) (iAll X.K (upE (kt X W) W.w t)) (gName i) tYes (DLC.tAdd (DLC.rTAdd X.K P w) (tVar i)) [i]) tNil) σ H Q := by
  obtain ⟨Γ, M, F, E, Qd, a, ⟨hi, q⟩, k⟩ := h
  have hil : i < σ.length := by rw [a.g.len]; exact hi
  refine ⟨Γ, M, F, E, _, a, q, fun F1 H1 v d M1 s1 c1 r1 ⟨as, B, hd, hl, hB, q1⟩ => .inl ?_⟩
  obtain ⟨ad, vs, rfl, hq, rv⟩ := sq_of c1 r1 hd
  have em : as.map spD = (as.map fun s => [s.1, s.2]).map tupI := by rw [List.map_map]; rfl
  rw [em] at rv
  obtain ⟨L, rfl, eL, hL⟩ := tups_of c1 rv
  have lenL : L.length = as.length := by have := congrArg List.length eL; simpa using this.symm
  refine ⟨ad, _, rfl, hq, fun _ D hD => ?_⟩
  have sm : ∀ o, Same H1 (upd H1 D o) := fun o => Same.upd hD
  have memL : ∀ k : List Int, k ∈ L.map (·.2) ↔ ∃ s ∈ as, [s.1, s.2] = k := fun k => by rw [← eL, List.mem_map]
  refine ⟨fun j m H2 => m = L.length - j ∧ j ≤ L.length ∧ ∃ S : List (Addr × List Int), H2 = upd H1 D (SetTO P w D S) ∧ (∀ p ∈ S, p ∈ L) ∧ (∀ p ∈ L.take j, p.2 ∈ S.map (·.2)) ∧ S.length ≤ j, ⟨_, rfl, Nat.zero_le _, [], rfl, (fun p hp => by cases hp), (fun p hp => by simp at hp), Nat.le_refl _⟩, ?_⟩
  rintro j m H2 ⟨rfl, hj, S, rfl, hS1, hS2, hS3⟩
  by_cases hlt : j < L.length
  · have hget : L[j]? = some L[j] := List.getElem?_eq_getElem hlt
    have hgv : (L.map fun p => V.ref p.1)[j]? = some (V.ref (L[j]).1) := by rw [List.getElem?_map, hget]; rfl
    refine .inr ⟨⟨_, _, (sm _).seq hq, hgv⟩, fun H' => j + 1 ≤ L.length ∧ ∃ S : List (Addr × List Int), H' = upd H1 D (SetTO P w D S) ∧ (∀ p ∈ S, p ∈ L) ∧ (∀ p ∈ L.take (j + 1), p.2 ∈ S.map (·.2)) ∧ S.length ≤ j + 1, fun H' hh => ⟨_, by omega, rfl, hh⟩, ?_⟩
    rintro x H' ⟨rfl, y⟩
    have ex := y _ ((sm _).seq hq)
    rw [hgv] at ex
    cases ex
    refine ⟨?_, ?_⟩
    · show ((σ.set i none).set i (some _)).set i none = σ.set i none
      simp [List.set_set]
    · unfold tYes
      dsimp only
      rw [if_pos rfl]
      refine ⟨_, by show ((σ.set i none).set i (some _))[i]? = _; rw [List.set_set, List.getElem?_set_self hil], ?_⟩
      refine ⟨D, (L[j]).1, (L[j]).2, S, rfl, rfl, upd_same, sqTS (sm _) (hL _ (List.getElem_mem hlt)).1, fun p hp => sqTS (sm _) (hL p (hS1 p hp)).1, by omega, fun S' c1' c2' => ?_⟩
      refine ⟨hlt, S', by rw [upd_upd], ?_⟩
      have ht : L.take (j + 1) = L.take j ++ [L[j]] := by rw [List.take_add_one, hget]; rfl
      by_cases hk : (L[j]).2 ∈ S.map (·.2)
      · rw [c1' hk]
        refine ⟨hS1, fun p hp => ?_, by omega⟩
        rw [ht] at hp
        rcases List.mem_append.mp hp with hp | hp
        · exact hS2 p hp
        · obtain rfl : p = L[j] := by simpa using hp
          exact hk
      · have pm := c2' hk
        refine ⟨fun p hp => ?_, fun p hp => ?_, by rw [pm.length_eq]; simp; exact hS3⟩
        · rcases List.mem_cons.mp (pm.mem_iff.mp hp) with e | hp
          · rw [e]
            exact List.getElem_mem hlt
          · exact hS1 p hp
        · rw [(pm.map (·.2)).mem_iff]
          rw [ht] at hp
          rcases List.mem_append.mp hp with hp | hp
          · exact List.mem_cons_of_mem _ (hS2 p hp)
          · obtain rfl : p = L[j] := by simpa using hp
            exact List.mem_cons_self
  · have e : j = L.length := by omega
    subst e
    rw [List.take_length] at hS2
    refine .inl ⟨⟨_, (sm _).seq hq, by simp⟩, ?_⟩
    show rSortedT X.K P w [V.ref D] _ Q
    have hSt : ∀ p ∈ S, p.2 ∈ L.map (·.2) := fun p hp => List.mem_map.mpr ⟨p, hS1 p hp, rfl⟩
    refine ⟨D, S, 2, B, rfl, upd_same, fun p hp => sqTS (sm _) (hL p (hS1 p hp)).1, by decide, fun p hp => ?_, fun L' p pm nd lt pw hp => ?_⟩
    · obtain ⟨s, hs, e⟩ := (memL _).mp (hSt p hp)
      have b := hB s hs
      rw [← e]
      refine ⟨rfl, fun m hm => ?_⟩
      simp only [List.mem_cons, List.not_mem_nil, or_false] at hm
      rcases hm with rfl | rfl <;> omega
    · -- the spans of the sorted list
      have key : ∀ p ∈ L', ∃ s ∈ as, p.2 = [s.1, s.2] := fun p hp => by
        obtain ⟨s, hs, e⟩ := (memL _).mp (hSt p (pm.mem_iff.mp hp))
        exact ⟨s, hs, e.symm⟩
      let sp : Addr × List Int → Int × Int := fun p => (p.2.headD 0, p.2.tail.headD 0)
      have hsp : ∀ p ∈ L', p.2 = [(sp p).1, (sp p).2] ∧ sp p ∈ as := fun p hp => by
        obtain ⟨s, hs, e⟩ := key p hp
        have : sp p = s := by show (p.2.headD 0, p.2.tail.headD 0) = s; rw [e]; rfl
        rw [this]
        exact ⟨e, hs⟩
      have hpD : H1 p = none := by
        by_cases z : p = D
        · subst z
          rw [upd_same] at hp
          cases hp
        · rw [upd_ne z] at hp
          exact hp
      have rr : ∀ L2 : List (Addr × List Int), (∀ p ∈ L2, p ∈ L') → Rps (kt X W) F1 (L2.map fun p => V.ref p.1) ((L2.map sp).map spD) := by
        intro L2
        induction L2 with
        | nil => intro _; exact .nil
        | cons p L2 ih =>
          intro hh
          have hp' := hh p List.mem_cons_self
          have r0 := (hL p (hS1 p (pm.mem_iff.mp hp'))).2
          rw [(hsp p hp').1] at r0
          exact .cons r0 (ih fun q hq => hh q (List.mem_cons_of_mem _ hq))
      have c2 : Cc (kt X W) M1 F1 (upd H1 D (SetTO P w D S)) := c1.same (sm _)
      refine k F1 _ _ _ _ s1 (c2.newM (x := .lst ((L'.map sp).map spD)) hp ⟨_, rfl, rr L' fun p hp => hp⟩) (.ref p) (q1 (L'.map sp) p (fun s => ?_) ?_ ?_ (c2.Mnone hp))
      · rw [List.mem_map]
        constructor
        · rintro ⟨p, hp, rfl⟩
          exact (hsp p hp).2
        · intro hs
          have h1 : [s.1, s.2] ∈ L.map (·.2) := (memL _).mpr ⟨s, hs, rfl⟩
          obtain ⟨p0, hp0, e0⟩ := List.mem_map.mp h1
          have h2 : [s.1, s.2] ∈ S.map (·.2) := by rw [← e0]; exact hS2 p0 hp0
          obtain ⟨p, hp, e⟩ := List.mem_map.mp h2
          have hp' := pm.mem_iff.mpr hp
          refine ⟨p, hp', ?_⟩
          have e2 : p.2 = [s.1, s.2] := e
          show (p.2.headD 0, p.2.tail.headD 0) = s
          rw [e2]
          rfl
      · rw [List.length_map, pm.length_eq]
        omega
      · rw [List.pairwise_map]
        have nd2 : L'.Pairwise fun p q => p.2 ≠ q.2 := List.pairwise_map.mp nd
        refine (pw.and nd2).imp_of_mem fun {p q} hp hq ⟨h1, h2⟩ => ?_
        obtain ⟨ep, mp⟩ := hsp p hp
        obtain ⟨eq, mq⟩ := hsp q hq
        rw [ep, eq] at h1 h2
        have bp := hB _ mp
        have bq := hB _ mq
        rcases code2 h1 ⟨bp.2.2.1, bp.2.2.2⟩ ⟨bq.2.2.1, bq.2.2.2⟩ with c | ⟨c, c2⟩
        · exact .inl c
        · refine .inr ⟨c, ?_⟩
          by_cases z : (sp p).2 = (sp q).2
          · exact absurd (by rw [c, z]) h2
          · omega
end
end DL

namespace DL
open PySem L2
section
variable {X : Cx} {W : WT} {e : Expr} {x y : Str}
theorem loc_blk {s : Shared} {H : Hp} {scope : Scope} {cl : List (Str × Addr)} {C : Addr} {fp : List Addr} (h : scope.names.lookup x = some .local) : (X.blk s H scope (compEnvC scope cl C X.env) fp).env.scope.names.lookup x = some .local := lookup_relabel_local h
theorem de_sortedSetSp (i : Nat) {t : DTE} {scope : Scope} {p p1 p2 pos1 pos2 : Pos} (hc : X.calm = true) (hN : X.N.Nodup) (hu : X.A.units + 64 < cLine) (hm : X.mg "sorted" = none) (h : DE X W e t) (ok : BlkOk X.N X.env.scope scope [(x, i)]) (hi : X.N[i]? = some x := by rfl) (hx : scope.names.lookup x = some .local := by rfl)
    (hd : (x == ("__debug__" : Str)) = false := by decide) (hcd : (x == ("__classdict__" : Str)) = false := by decide) (hg : Gl X "sorted" := by rfl) (hs : ∀ x, foldedSetIterable e X.env x = pure x := by intro _; rfl)
    (hst : starEach [.SetComp (.Name x p1) [⟨.Name x p2, e, [], 0⟩] scope pos1] X.env = (false, eval (.SetComp (.Name x p1) [⟨.Name x p2, e, [], 0⟩] scope pos1) X.env) :: starEach [] X.env := by rfl) (hpl : (backTo pos2 (starEach [] X.env)).any (·.1) = false := by rfl) :
    DE X W (.Call (.Name "sorted" p) [.SetComp (.Name x p1) [⟨.Name x p2, e, [], 0⟩] scope pos1] [] pos2) (dSetSp i t) :=
  ⟨peW (pe_callB (cr_sortedT hc) hg hm rfl (pa_cons (DLC.pe_set (S0 := fun D => SetTO X.prog X.w D []) hc hN (pi_all h.pe) ok DLC.newT (DLC.turn_one _ _ _ _ _ _) (fun s H C cl fp => pg_name hN hi (.inl (loc_blk hx)) (.inr (loc_blk hx))) (fun s H C cl fp => pts_nil)
    (fun s H C cl fp D => DLC.tail_add (pe_var hi (.inl (loc_blk hx)) hd hcd) (DLC.mt_tadd (X := X.blk s H scope (compEnvC scope cl C X.env) fp) hu) rfl) hs) pa_nil hst) (by decide) (by decide) hst hpl) fun σ H Q q => upSetSp q⟩
/-- sorted({p for x in xs for p in x}), xs a list of spans -/
def dSetIn (i j : Nat) (t : DTE) : DTE := fun Γ M Q E => i < Γ.length ∧ j < Γ.length ∧ i ≠ j ∧ t Γ M (fun d M1 => ∃ (as : List (Int × Int)), sqD M1 d = some (as.map spD) ∧ 2 * as.length < 64 ∧
  ∀ (L : List Int) (p : Addr), (∀ z, z ∈ L ↔ ∃ s ∈ as, z = s.1 ∨ z = s.2) → L.length ≤ 2 * as.length → L.Pairwise (· < ·) → M1 p = none → Q (.ref p) (mup M1 p (.lst (L.map D.int)))) E
theorem upSetIn {i j : Nat} {t : DTE} {σ : St} {H : Hp} {Q : VK} {w : World} (h : upE (kt X W) W.w (dSetIn i j t) σ H Q) :
    tCB (rSortedSet w) (tCons (DLC.tSet (fun D => SetO w D (fun _ => false) 0) (iAll X.K (upE (kt X W) W.w t)) (gName i) tYes (fun D => DLC.tMore (iAll X.K (tVar i)) (gName j) tYes (DLC.tAdd (rSAdd w) (tVar j) D) [j]) [i, j]) tNil) σ H Q := by
  obtain ⟨Γ, M, F, E, Qd, a, ⟨hi, hj, hij, q⟩, k⟩ := h
  have hil : i < σ.length := by rw [a.g.len]; exact hi
  have hjl : j < σ.length := by rw [a.g.len]; exact hj
  refine ⟨Γ, M, F, E, _, a, q, fun F1 H1 v d M1 s1 c1 r1 ⟨as, hd, hl, q1⟩ => .inl ?_⟩
  obtain ⟨ad, vs, rfl, hq, rv⟩ := sq_of c1 r1 hd
  have em : as.map spD = (as.map fun s => [s.1, s.2]).map tupI := by rw [List.map_map]; rfl
  rw [em] at rv
  obtain ⟨L, rfl, eL, hL⟩ := tups_of c1 rv
  have lenL : L.length = as.length := by have := congrArg List.length eL; simpa using this.symm
  refine ⟨ad, _, rfl, hq, fun _ D hD => ?_⟩
  have sm : ∀ o, Same H1 (upd H1 D o) := fun o => Same.upd hD
  have memL : ∀ k : List Int, k ∈ L.map (·.2) ↔ ∃ s ∈ as, [s.1, s.2] = k := fun k => by rw [← eL, List.mem_map]
  have two : ∀ p ∈ L, ∃ u v : Int, p.2 = [u, v] := fun p hp => by
    obtain ⟨s, _, e⟩ := (memL p.2).mp (List.mem_map.mpr ⟨p, hp, rfl⟩)
    exact ⟨_, _, e.symm⟩
  refine ⟨fun n m H2 => m = L.length - n ∧ n ≤ L.length ∧ ∃ (S : Int → Bool) (c : Nat), H2 = upd H1 D (SetO w D S c) ∧ (∀ z, S z = true ↔ ∃ p ∈ L.take n, z ∈ p.2) ∧ c ≤ 2 * n, ⟨_, rfl, Nat.zero_le _, _, 0, rfl, (fun z => by simp), Nat.le_refl _⟩, ?_⟩
  rintro n m H2 ⟨rfl, hn, S, c, rfl, hS, hcn⟩
  by_cases hlt : n < L.length
  · have hget : L[n]? = some L[n] := List.getElem?_eq_getElem hlt
    have hgv : (L.map fun p => V.ref p.1)[n]? = some (V.ref (L[n]).1) := by rw [List.getElem?_map, hget]; rfl
    have ht : L.take (n + 1) = L.take n ++ [L[n]] := by rw [List.take_add_one, hget]; rfl
    obtain ⟨u, v, euv⟩ := two _ (List.getElem_mem hlt)
    have hsq := (hL _ (List.getElem_mem hlt)).1
    rw [euv] at hsq
    refine .inr ⟨⟨_, _, (sm _).seq hq, hgv⟩, fun H' => n + 1 ≤ L.length ∧ ∃ (S : Int → Bool) (c : Nat), H' = upd H1 D (SetO w D S c) ∧ (∀ z, S z = true ↔ ∃ p ∈ L.take (n + 1), z ∈ p.2) ∧ c ≤ 2 * (n + 1), fun H' hh => ⟨_, by omega, rfl, hh⟩, ?_⟩
    rintro x H' ⟨rfl, y⟩
    have ex := y _ ((sm _).seq hq)
    rw [hgv] at ex
    cases ex
    refine ⟨?_, ?_⟩
    · show ((((σ.set j none).set i none).set i (some _)).set j none).set i none = (σ.set j none).set i none
      rw [List.set_set, List.set_comm _ _ hij, List.set_set, List.set_set]
    · unfold tYes
      dsimp only
      rw [if_pos rfl]
      have hσ : (List.set (wipe σ [i, j]) i (some (V.ref (L[n]).1)))[i]? = some (some (V.ref (L[n]).1)) := by
        show (((σ.set j none).set i none).set i (some _))[i]? = _
        rw [List.set_set, List.getElem?_set_self (by rw [List.length_set]; exact hil)]
      refine ⟨_, hσ, .inr (.inl ⟨_, _, rfl, sqTS (sm _) hsq, fun _ => ?_⟩)⟩
      generalize hτ : List.set (wipe σ [i, j]) i (some (V.ref (L[n]).1)) = τ
      have hτl : j < τ.length := by rw [← hτ, List.length_set, wipe_length]; exact hjl
      -- the two places of one span
      refine ⟨fun g m H2 => m = 2 - g ∧ g ≤ 2 ∧ ∃ (S : Int → Bool) (c : Nat), H2 = upd H1 D (SetO w D S c) ∧ (∀ z, S z = true ↔ (∃ p ∈ L.take n, z ∈ p.2) ∨ z ∈ ([u, v] : List Int).take g) ∧ c ≤ 2 * n + g, ⟨_, rfl, Nat.zero_le _, S, c, rfl, (fun z => by rw [hS]; simp), hcn⟩, ?_⟩
      rintro g m H2 ⟨rfl, hg, S2, c2, rfl, hS2, hc2⟩
      by_cases hg2 : g < 2
      · obtain ⟨z0, hz0⟩ : ∃ z0, ([u, v] : List Int)[g]? = some z0 := ⟨_, List.getElem?_eq_getElem (by simpa using hg2)⟩
        have hz1 : (([u, v] : List Int).map V.int)[g]? = some (V.int z0) := by rw [List.getElem?_map, hz0]; rfl
        have ht2 : ([u, v] : List Int).take (g + 1) = ([u, v] : List Int).take g ++ [z0] := by rw [List.take_add_one, hz0]; rfl
        refine .inr ⟨⟨_, _, sqTS (sm _) hsq, hz1⟩, fun H' => g + 1 ≤ 2 ∧ ∃ (S : Int → Bool) (c : Nat), H' = upd H1 D (SetO w D S c) ∧ (∀ z, S z = true ↔ (∃ p ∈ L.take n, z ∈ p.2) ∨ z ∈ ([u, v] : List Int).take (g + 1)) ∧ c ≤ 2 * n + (g + 1), fun H' hh => ⟨_, by omega, rfl, hh⟩, ?_⟩
        rintro x H' ⟨rfl, y⟩
        have ex := y _ (sqTS (sm _) hsq)
        rw [hz1] at ex
        cases ex
        refine ⟨?_, ?_⟩
        · show ((τ.set j none).set j (some _)).set j none = τ.set j none
          simp [List.set_set]
        · dsimp only
          rw [if_pos rfl]
          refine ⟨_, by show ((τ.set j none).set j (some _))[j]? = _; rw [List.set_set, List.getElem?_set_self hτl], ?_⟩
          refine ⟨D, z0, S2, c2, rfl, rfl, upd_same, Nat.lt_of_lt_of_le (show c2 + 1 < 100 by omega) (by decide), ?_⟩
          refine ⟨hg2, _, _, by rw [upd_upd], fun z => ?_, by split <;> omega⟩
          rw [ht2, List.mem_append, List.mem_singleton, Bool.or_eq_true, hS2, decide_eq_true_eq]
          constructor
          · rintro ((h | h) | h)
            · exact .inl h
            · exact .inr (.inl h)
            · exact .inr (.inr h)
          · rintro (h | h | h)
            · exact .inl (.inl h)
            · exact .inl (.inr h)
            · exact .inr h
      · obtain rfl : g = 2 := by omega
        refine .inl ⟨⟨_, sqTS (sm _) hsq, by simp⟩, hlt, S2, c2, rfl, fun z => ?_, by omega⟩
        rw [hS2]
        constructor
        · rintro (⟨p, hp, hz⟩ | h)
          · exact ⟨p, by rw [ht]; exact List.mem_append_left _ hp, hz⟩
          · exact ⟨L[n], by rw [ht]; exact List.mem_append_right _ (List.mem_singleton.mpr rfl), by rw [euv]; exact h⟩
        · rintro ⟨p, hp, hz⟩
          rw [ht] at hp
          rcases List.mem_append.mp hp with hp | hp
          · exact .inl ⟨p, hp, hz⟩
          · obtain rfl : p = L[n] := by simpa using hp
            rw [euv] at hz
            exact .inr hz
  · have e : n = L.length := by omega
    subst e
    rw [List.take_length] at hS
    refine .inl ⟨⟨_, (sm _).seq hq, by simp⟩, ?_⟩
    show rSortedSet w [V.ref D] _ Q
    refine ⟨D, S, c, rfl, upd_same, by omega, fun ns p pw hm hln hp => ?_⟩
    have c2 : Cc (kt X W) M1 F1 (upd H1 D (SetO w D S c)) := c1.same (sm _)
    refine k F1 _ _ _ _ s1 (c2.newM (x := .lst (ns.map DL.D.int)) hp ⟨_, rfl, Rps.ofInts ns⟩) (.ref p) (q1 ns p (fun z => ?_) (by omega) pw (c2.Mnone hp))
    rw [hm, hS]
    constructor
    · rintro ⟨p, hp, hz⟩
      obtain ⟨s, hs, e⟩ := (memL p.2).mp (List.mem_map.mpr ⟨p, hp, rfl⟩)
      rw [← e] at hz
      exact ⟨s, hs, by simpa using hz⟩
    · rintro ⟨s, hs, hz⟩
      obtain ⟨p, hp, e⟩ := List.mem_map.mp ((memL _).mpr ⟨s, hs, rfl⟩)
      exact ⟨p, hp, by rw [show p.2 = _ from e]; simpa using hz⟩
/-- the rule -/
theorem de_sortedSetIn (i j : Nat) {t : DTE} {scope : Scope} {p p1 p2 p3 p4 pos1 pos2 : Pos} (hc : X.calm = true) (hN : X.N.Nodup) (hm : X.mg "sorted" = none) (h : DE X W e t) (ok : BlkOk X.N X.env.scope scope [(x, i), (y, j)]) (hi : X.N[i]? = some x := by rfl) (hj : X.N[j]? = some y := by rfl) (hx : scope.names.lookup x = some .local := by rfl) (hy : scope.names.lookup y = some .local := by rfl)
    (hd : (y == ("__debug__" : Str)) = false := by decide) (hcd : (y == ("__classdict__" : Str)) = false := by decide) (hd2 : (x == ("__debug__" : Str)) = false := by decide) (hcd2 : (x == ("__classdict__" : Str)) = false := by decide) (hg : Gl X "sorted" := by rfl) (hs : ∀ x, foldedSetIterable e X.env x = pure x := by intro _; rfl)
    (hst : starEach [.SetComp (.Name y p1) [⟨.Name x p2, e, [], 0⟩, ⟨.Name y p3, .Name x p4, [], 0⟩] scope pos1] X.env = (false, eval (.SetComp (.Name y p1) [⟨.Name x p2, e, [], 0⟩, ⟨.Name y p3, .Name x p4, [], 0⟩] scope pos1) X.env) :: starEach [] X.env := by rfl) (hpl : (backTo pos2 (starEach [] X.env)).any (·.1) = false := by rfl) :
    DE X W (.Call (.Name "sorted" p) [.SetComp (.Name y p1) [⟨.Name x p2, e, [], 0⟩, ⟨.Name y p3, .Name x p4, [], 0⟩] scope pos1] [] pos2) (dSetIn i j t) :=
  ⟨peW (pe_callB (cr_sortedSet hc) hg hm rfl (pa_cons (DLC.pe_set (S0 := fun D => SetO X.w D (fun _ => false) 0) hc hN (pi_all h.pe) ok DLC.newI (DLC.turn_out _ _ _ _ _ _ _ _ _) (fun s H C cl fp => pg_name hN hi (.inl (loc_blk hx)) (.inr (loc_blk hx))) (fun s H C cl fp => pts_nil)
    (fun s H C cl fp D => DLC.tail_more (vs1 := [j]) hc (pi_all (X := X.blk s H scope (compEnvC scope cl C X.env) fp) (pe_var hi (.inl (loc_blk hx)) hd2 hcd2)) (pg_name hN hj (.inl (loc_blk hy)) (.inr (loc_blk hy))) pts_nil (DLC.tail_add (pe_var hj (.inl (loc_blk hy)) hd hcd) mt_sadd rfl) (by simp) rfl (by intro _; rfl)) hs) pa_nil hst) (by decide) (by decide) hst hpl) fun σ H Q q => upSetIn q⟩
end
end DL

namespace DL
open PySem L2
theorem wipe_mem {j : Nat} : ∀ (l2 : List Nat) (σ : St), j ∈ l2 → (wipe σ l2).set j none = wipe σ l2 := by
  intro l2
  induction l2 with
  | nil => intro σ h; cases h
  | cons q l2 ih2 =>
    intro σ h
    show ((wipe σ l2).set q none).set j none = (wipe σ l2).set q none
    by_cases hq : q = j
    · subst hq
      rw [List.set_set]
    · have hm : j ∈ l2 := by
        rcases List.mem_cons.mp h with e | e
        · exact absurd e.symm hq
        · exact e
      rw [List.set_comm _ _ hq, ih2 σ hm]
theorem wipe_idem (σ : St) (vs : List Nat) : wipe (wipe σ vs) vs = wipe σ vs := by
  have : ∀ (l l2 : List Nat) (σ : St), (∀ j ∈ l, j ∈ l2) → wipe (wipe σ l2) l = wipe σ l2 := by
    intro l
    induction l with
    | nil => intro l2 σ _; rfl
    | cons j l ih =>
      intro l2 σ hj
      show (wipe (wipe σ l2) l).set j none = _
      rw [ih l2 σ fun j' hj' => hj j' (List.mem_cons_of_mem _ hj'), wipe_mem l2 σ (hj j List.mem_cons_self)]
  exact this vs vs σ fun _ h => h
/-- the inner clause's items -/
def L2in (g : DTG) (tt : DTT) (te : DTE) (vs : List Nat) (Γ : DG) (M1 : Mp) (it : DIt) (R : List D → Prop) : Prop := (∀ M', Ext M1 M' → it.ok M') ∧ ∃ P : D → Option D → Prop,
  (∀ d, d ∈ it.seq → ∀ M', Ext M1 M' → g d (dwipe Γ vs) M' (fun Γ2 M3 => tt Γ2 M3 (fun b M4 => if b = true then te Γ2 M4 (fun y M5 => M5 = M' ∧ P d (some y)) noE else M4 = M' ∧ P d none) noE)) ∧ ∀ os, All2 P it.seq os → R (os.filterMap id)
/-- [elt for tg in it if .. for tg1 in it1 if ..]: a cell. B bounds the inner ones -/
def dLc2O (ti : DTI) (g : DTG) (tt : DTT) (ti1 : DTI) (g1 : DTG) (tt1 : DTT) (te : DTE) (vs vs1 : List Nat) : DTE := fun Γ M Q E => ti Γ M (fun it M1 => ∃ (P : D → List D → Prop) (B : Nat), it.seq.length * B ≤ sizeLine ∧ (∀ M', Ext M1 M' → it.ok M') ∧
  (∀ d, d ∈ it.seq → ∀ M', Ext M1 M' → g d (dwipe Γ vs) M' (fun Γ2 M3 => tt Γ2 M3 (fun b M4 => if b = true then ti1 Γ2 M4 (fun it1 M5 => M5 = M' ∧ it1.seq.length ≤ B ∧ L2in g1 tt1 te vs1 Γ2 M1 it1 (P d)) noE else M4 = M' ∧ P d []) noE)) ∧
  ∀ rs : List (List D), All2 P it.seq rs → ∀ p, M1 p = none → Q (.ref p) (mup M1 p (.lst rs.flatten))) E
section
variable {X : Cx} {W : WT}
theorem upLc2O {ti ti1 : DTI} {g g1 : DTG} {tt tt1 : DTT} {te : DTE} {vs vs1 : List Nat} {σ : St} {H : Hp} {Q : VK} (h : upE (kt X W) W.w (dLc2O ti g tt ti1 g1 tt1 te vs vs1) σ H Q) :
    tLc2 (upI (kt X W) W.w ti) (upG (kt X W) (some vs) g) (upT (kt X W) noW tt) (upI (kt X W) noW ti1) (upG (kt X W) (some vs1) g1) (upT (kt X W) noW tt1) (upE (kt X W) noW te) vs vs1 σ H Q := by
  obtain ⟨Γ, M, F, E, Qd, a, q, k⟩ := h
  refine ⟨Γ, M, F, E, _, a, q, fun F1 H1 J it M1 s1 c1 ⟨hz, rj⟩ ⟨P, B, hB, okx, body, q0⟩ Dd hD => ?_⟩
  have m1 : M1 Dd = none := c1.Mnone hD
  have ext : ∀ x, Ext M1 (mup M1 Dd x) := fun x b c hb => by
    rw [mup_ne fun z => by rw [z, m1] at hb; cases hb]
    exact hb
  have nE : ∀ {F : Hp}, Ew (kt X W) F noE noW := fun _ _ _ _ _ _ _ _ _ _ _ _ _ _ z => z
  let St1 : Nat → Hp → Prop := fun i H2 => i ≤ it.seq.length ∧ ∃ (F2 : Hp) (rs : List (List D)) (us : List V), Same F1 F2 ∧ All2 P (it.seq.take i) rs ∧ Cc (kt X W) (mup M1 Dd (.lst rs.flatten)) F2 H2 ∧ H2 Dd = some (.lst us) ∧ us.length ≤ i * B ∧ Rps (kt X W) F2 us rs.flatten
  refine ⟨fun i m H2 => m = it.seq.length - i ∧ St1 i H2, ⟨_, rfl, Nat.zero_le _, F1, [], [], Same.refl _, .nil, c1.newM (x := .lst []) hD ⟨[], rfl, .nil⟩, upd_same, Nat.zero_le _, .nil⟩, ?_⟩
  rintro i m H2 ⟨rfl, hi, F2, rs, us, s2, hr, c2, e2, hl, r2⟩
  obtain ⟨j1, j2⟩ := rj F2 H2 _ i s2 c2 (okx _ (ext _))
  by_cases hlt : i < it.seq.length
  · have hget : it.seq[i]? = some it.seq[i] := List.getElem?_eq_getElem hlt
    have ht : it.seq.take (i + 1) = it.seq.take i ++ [it.seq[i]] := by rw [List.take_add_one, hget]; rfl
    obtain ⟨go, yl⟩ := j1 _ hget
    have hBi : i * B + B ≤ sizeLine := by
      have : (i + 1) * B ≤ it.seq.length * B := Nat.mul_le_mul_right B hlt
      rw [Nat.succ_mul] at this
      omega
    refine .inr ⟨go, St1 (i + 1), fun H4 qq => ⟨_, by omega, rfl, qq⟩, fun x H' y => ?_⟩
    obtain ⟨F3, s3, c3, r3⟩ := yl x H' y
    refine ⟨_, dwipe Γ vs, _, F3, _, c3, (a.g.mono ((s1.trans s2).trans s3)).wipe vs, r3, body _ (List.getElem_mem hlt) _ (ext _), fun F4 H4 σ4 Γ4 M4 s4 c4 g4 w4 q4 => ⟨?_, ?_⟩⟩
    · rw [w4 vs rfl, wipe_idem]
    refine ⟨Γ4, M4, F4, noE, _, ⟨c4, g4, nE⟩, q4, fun F5 H5 b M5 s5 c5 q5 => ?_⟩
    have s15 := ((s2.trans s3).trans s4).trans s5
    cases b with
    | false =>
      rw [if_neg Bool.false_ne_true] at q5
      refine iteF ?_
      obtain ⟨e5, p5⟩ := q5
      subst e5
      obtain ⟨f5, o5, e6, us5, e7, r5⟩ := c5.ow Dd _ mup_same
      subst e7
      have hfl : (rs ++ [[]]).flatten = rs.flatten := by simp
      refine ⟨hlt, F5, rs ++ [[]], us5, s15, by rw [ht]; exact hr.snoc p5, by rw [hfl]; exact c5, e6, ?_, by rw [hfl]; exact r5⟩
      rw [r5.length, ← r2.length, Nat.succ_mul]
      omega
    | true =>
      rw [if_pos rfl] at q5
      refine iteT ?_
      refine ⟨Γ4, M5, F5, noE, _, ⟨c5, g4.mono s5, nE⟩, q5, fun F6 H6 J1 it1 M6 s6 c6 ⟨hz1, rj1⟩ ⟨e6, hB1, ok1, P1, body1, fin1⟩ => ?_⟩
      subst e6
      obtain ⟨f7, o7, e7, us7, e8, r7⟩ := c6.ow Dd _ mup_same
      subst e8
      have hus : us7.length ≤ i * B := by rw [r7.length, ← r2.length]; exact hl
      let St2 : Nat → Hp → Prop := fun j H2 => j ≤ it1.seq.length ∧ ∃ (F2 : Hp) (os : List (Option D)) (us : List V), Same F6 F2 ∧ All2 P1 (it1.seq.take j) os ∧ Cc (kt X W) (mup M1 Dd (.lst (rs.flatten ++ os.filterMap id))) F2 H2 ∧ H2 Dd = some (.lst us) ∧ us.length ≤ i * B + j ∧ Rps (kt X W) F2 us (rs.flatten ++ os.filterMap id)
      refine ⟨fun j m H2 => m = it1.seq.length - j ∧ St2 j H2, ⟨_, rfl, Nat.zero_le _, F6, [], us7, Same.refl _, .nil, by simpa using c6, e7, hus, by simpa using r7⟩, ?_⟩
      rintro j m H8 ⟨rfl, hj, F8, os, us8, s8, ho, c8, e8, hl8, r8⟩
      obtain ⟨k1, k2⟩ := rj1 F8 H8 _ j s8 c8 (ok1 _ (ext _))
      by_cases hlt1 : j < it1.seq.length
      · have hget1 : it1.seq[j]? = some it1.seq[j] := List.getElem?_eq_getElem hlt1
        have ht1 : it1.seq.take (j + 1) = it1.seq.take j ++ [it1.seq[j]] := by rw [List.take_add_one, hget1]; rfl
        obtain ⟨go1, yl1⟩ := k1 _ hget1
        refine .inr ⟨go1, St2 (j + 1), fun H4 qq => ⟨_, by omega, rfl, qq⟩, fun x1 H1' y1 => ?_⟩
        obtain ⟨F9, s9, c9, r9⟩ := yl1 x1 H1' y1
        have s49 := ((s5.trans s6).trans s8).trans s9
        refine ⟨_, dwipe Γ4 vs1, _, F9, _, c9, (g4.mono s49).wipe vs1, r9, body1 _ (List.getElem_mem hlt1) _ (ext _), fun Fa Ha σa Γa Ma sa ca ga wa qa => ⟨?_, ?_⟩⟩
        · rw [wa vs1 rfl, wipe_idem]
        refine ⟨Γa, Ma, Fa, noE, _, ⟨ca, ga, nE⟩, qa, fun Fb Hb b Mb sb cb qb => ?_⟩
        have s6b := ((s8.trans s9).trans sa).trans sb
        cases b with
        | false =>
          rw [if_neg Bool.false_ne_true] at qb
          refine iteF ?_
          obtain ⟨eb, pb⟩ := qb
          subst eb
          obtain ⟨fb, ob, ec, usb, ed, rb⟩ := cb.ow Dd _ mup_same
          subst ed
          refine ⟨hlt1, Fb, os ++ [none], usb, s6b, by rw [ht1]; exact ho.snoc pb, ?_, ec, by rw [rb.length, ← r8.length]; omega, ?_⟩
          · rw [List.filterMap_append]
            simpa using cb
          · rw [List.filterMap_append]
            simpa using rb
        | true =>
          rw [if_pos rfl] at qb
          refine iteT ?_
          refine ⟨Γa, Mb, Fb, noE, _, ⟨cb, ga.mono sb, nE⟩, qb, fun Fc Hc v d Mc sc cc rc ⟨ec, pc⟩ => ?_⟩
          subst ec
          obtain ⟨fd, od, ed, usd, ee, rd⟩ := cc.ow Dd _ mup_same
          subst ee
          have husd : usd.length ≤ i * B + j := by rw [rd.length, ← r8.length]; exact hl8
          refine ⟨usd, ed, by omega, hlt1, Fc, os ++ [some d], usd ++ [v], s6b.trans sc, by rw [ht1]; exact ho.snoc pc, ?_, upd_same, by rw [List.length_append, List.length_singleton]; omega, ?_⟩
          · have c10 := cc.write (p := Dd) (x := .lst (rs.flatten ++ os.filterMap id ++ [d])) (o := .lst (usd ++ [v])) mup_same ⟨_, rfl, rd.append (.cons rc .nil)⟩
            rw [mup_mup] at c10
            rw [List.filterMap_append]
            simpa [List.append_assoc] using c10
          · rw [List.filterMap_append]
            simpa [List.append_assoc] using rd.append (.cons rc .nil)
      · have ej : j = it1.seq.length := by omega
        refine .inl ⟨k2 (by omega), ?_⟩
        rw [ej, List.take_length] at ho
        have hfl : (rs ++ [os.filterMap id]).flatten = rs.flatten ++ os.filterMap id := by simp
        refine ⟨hlt, F8, rs ++ [os.filterMap id], us8, (s15.trans s6).trans s8, by rw [ht]; exact hr.snoc (fin1 os ho), by rw [hfl]; exact c8, e8, ?_, by rw [hfl]; exact r8⟩
        rw [Nat.succ_mul]
        omega
  · have e : i = it.seq.length := by omega
    refine .inl ⟨j2 (by omega), ?_⟩
    rw [e, List.take_length] at hr
    exact k F2 H2 _ _ _ (s1.trans s2) c2 (.ref Dd) (q0 rs hr Dd m1)
/-- the rule -/
theorem de_lc2O {elt tg iter tg1 iter1 : Expr} {ifs ifs1 : List Expr} {scope : Scope} {own : List (Str × Nat)} (vs1 : List Nat) {pos : Pos} {ti ti1 : DTI} {g g1 : DTG} {tt tt1 : DTT} {te : DTE} (hc : X.calm = true) (hN : X.N.Nodup) (hi : DI X W tg iter ti) (ok : BlkOk X.N X.env.scope scope own)
    (hg : ∀ (s : Shared) (H : Hp) (C : Addr) (cl : List (Str × Addr)) (fp : List Addr), DGt (X.blk s H scope (compEnvC scope cl C X.env) fp) W.T (some (own.map (·.2))) tg g)
    (ht : ∀ (s : Shared) (H : Hp) (C : Addr) (cl : List (Str × Addr)) (fp : List Addr), DTs (X.blk s H scope (compEnvC scope cl C X.env) fp) (noT W.T) ifs tt)
    (hi1 : ∀ (s : Shared) (H : Hp) (C : Addr) (cl : List (Str × Addr)) (fp : List Addr), DI (X.blk s H scope (compEnvC scope cl C X.env) fp) (noT W.T) tg1 iter1 ti1)
    (hg1 : ∀ (s : Shared) (H : Hp) (C : Addr) (cl : List (Str × Addr)) (fp : List Addr), DGt (X.blk s H scope (compEnvC scope cl C X.env) fp) W.T (some vs1) tg1 g1)
    (ht1 : ∀ (s : Shared) (H : Hp) (C : Addr) (cl : List (Str × Addr)) (fp : List Addr), DTs (X.blk s H scope (compEnvC scope cl C X.env) fp) (noT W.T) ifs1 tt1)
    (he : ∀ (s : Shared) (H : Hp) (C : Addr) (cl : List (Str × Addr)) (fp : List Addr), DE (X.blk s H scope (compEnvC scope cl C X.env) fp) (noT W.T) elt te)
    (hv : ∀ i ∈ vs1, i ∈ own.map (·.2) := by decide) (hs : ∀ x, foldedSetIterable iter X.env x = pure x := by intro _; rfl) (hs1 : ∀ env x, foldedSetIterable iter1 env x = pure x := by intro _ _; rfl) :
    DE X W (.ListComp elt [⟨tg, iter, ifs, 0⟩, ⟨tg1, iter1, ifs1, 0⟩] scope pos) (dLc2O ti g tt ti1 g1 tt1 te (own.map (·.2)) vs1) :=
  ⟨peW (pe_lc2 hc hN hi.pi ok hv (fun s H C cl fp => (hg s H C cl fp).pg) (fun s H C cl fp => (ht s H C cl fp).pt) (fun s H C cl fp => (hi1 s H C cl fp).pi) (fun s H C cl fp => (hg1 s H C cl fp).pg) (fun s H C cl fp => (ht1 s H C cl fp).pt) (fun s H C cl fp => (he s H C cl fp).pe) hs hs1) fun _ _ _ h => upLc2O h⟩
end
end DL

namespace DL
open PySem L2
/-- the name of a datum's type -/
def tyD (M : Mp) : D → Option String
  | .non => some "NoneType"
  | .bl _ => some "bool"
  | .int _ => some "int"
  | .str _ => some "str"
  | .tup _ => some "tuple"
  | .lst _ => some "list"
  | .scr _ => some "list"
  | .ref p => match M p with
    | some (.lst _) => some "list"
    | _ => none
  | _ => none
theorem tyL {K : PySem.W.Frag} {H : Hp} {a : Addr} {xs : List V} (h : SqL K H a xs) : TyX K H (.ref a) (.type "list") := by
  rcases h with (h | ⟨ob, h⟩) | ⟨o, its, n, h1, h2, _⟩
  · exact .base (.lst h)
  · exact .base (.frz h)
  · exact .kList h1 h2
theorem tyT {K : PySem.W.Frag} {H : Hp} {a : Addr} {xs : List V} (h : SqT K H a xs) : TyX K H (.ref a) (.type "tuple") := by
  rcases h with (h | ⟨ob, h⟩) | ⟨o, its, n, h1, h2, _⟩
  · exact .base (.tup h)
  · exact .fTuple h
  · exact .kTuple h1 h2
theorem ty_of {K : KTb} {M : Mp} {F H : Hp} {v : V} {d : D} {n : String} (c : Cc K M F H) (r : Rp K F v d) (h : tyD M d = some n) : TyX K.K H v (.type n) := by
  have lst : ∀ xs, sqD M d = some xs → n = "list" → TyX K.K H v (.type n) := fun xs e en => by
    obtain ⟨a, vs, rfl, h1, _⟩ := sq_of c r e
    rw [en]
    exact tyL h1
  cases d with
  | non => cases h; cases r; exact .base .non
  | bl b => cases h; cases r; exact .base (.bl b)
  | int i => cases h; cases r; exact .base (.int i)
  | str x => cases h; cases r; exact .base (.str x)
  | tup xs =>
    cases h
    obtain ⟨a, vs, rfl, h1, _⟩ := tp_of c r
    exact tyT h1
  | lst xs => cases h; exact lst xs rfl rfl
  | scr ns => cases h; exact lst _ rfl rfl
  | ref p =>
    have h : (match M p with | some (.lst _) => some "list" | _ => none) = some n := h
    split at h
    · rename_i xs e
      cases h
      exact lst xs (sqD_ref e) rfl
    · cases h
  | dic _ => cases h
  | dit _ => cases h
  | obj _ _ => cases h
  | any _ _ => cases h
def isa (a b : String) : Bool := a == b || (a == "bool" && b == "int")
def tys : List String := ["NoneType", "bool", "int", "str", "tuple", "list"]
def tcs : List String := ["bool", "int", "str", "tuple", "list"]
theorem ty_in {M : Mp} {d : D} {n : String} (h : tyD M d = some n) : n ∈ tys := by
  unfold tyD at h
  repeat' split at h
  all_goals first
    | (cases h; done)
    | (cases h; decide)
theorem isa_ok : ∀ a ∈ tys, ∀ b ∈ tcs, kitB a b = some (isa a b) := by decide +kernel
section
variable {X : Cx} {W : WT} {e : Expr}
theorem pe_ty {n : String} {x : Str} {pos : Pos} (hm : X.mg x = none) (hv : bootBuiltins x = some (.type n)) (hg : Gl X x := by rfl) (hn : x ≠ "__name__" := by decide) (hdb : (x == ("__debug__" : Str)) = false := by decide) : PE X (.Name x pos) (tC (.ty n)) :=
  ⟨fun pins s σ H Q I h => ld_blt I hg hm hv ⟨.ty n, H, I, rfl, h⟩ hn hdb⟩
def dIsi (te : DTE) (c : String) : DTE := fun Γ M Q E => te Γ M (fun d M1 => ∃ n, tyD M1 d = some n ∧ Q (.bl (isa n c)) M1) E
theorem de_isi {te : DTE} {c : String} {x y : Str} {p p2 pos : Pos} (he : DE X W e te) (hm : X.mg x = none) (hx : bootBuiltins x = some (.builtin "isinstance")) (hmy : X.mg y = none) (hy : bootBuiltins y = some (.type c)) (hc : c ∈ tcs := by decide) (hg : Gl X x := by rfl) (hgy : Gl X y := by rfl) (hn : x ≠ "__name__" := by decide) (hdb : (x == ("__debug__" : Str)) = false := by decide)
    (hny : y ≠ "__name__" := by decide) (hdby : (y == ("__debug__" : Str)) = false := by decide) (hs : starEach [e, .Name y p2] X.env = (false, eval e X.env) :: starEach [.Name y p2] X.env := by rfl) (hs2 : starEach [.Name y p2] X.env = (false, eval (.Name y p2) X.env) :: starEach [] X.env := by rfl) (hpl : (backTo pos (starEach [.Name y p2] X.env)).any (·.1) = false := by rfl) :
    DE X W (.Call (.Name x p) [e, .Name y p2] [] pos) (dIsi te c) :=
  ⟨peW (pe_callB call_isi hg hm hx (pa_cons he.pe (pa_cons (pe_ty hmy hy hgy hny hdby) pa_nil hs2) hs) hn hdb hs hpl) fun σ H Q ⟨Γ, M, F, E, Qd, a, q, k⟩ => ⟨Γ, M, F, E, _, a, q, fun F1 H1 v d M1 s1 c1 r1 ⟨n, e1, q1⟩ =>
    ⟨v, .ty c, .type n, .type c, isa n c, rfl, .ty c, ty_of c1 r1 e1, kit_ty (isa_ok n (ty_in e1) c hc), k F1 H1 _ _ M1 s1 c1 (.bl _) q1⟩⟩⟩
def dIsi2 (te : DTE) (c c' : String) : DTE := fun Γ M Q E => te Γ M (fun d M1 => ∃ n, tyD M1 d = some n ∧ Q (.bl (isa n c || isa n c')) M1) E
theorem de_isi2 {te : DTE} {c c' : String} {x y z : Str} {k1 : Nat} {p p2 p3 pt pos : Pos} (he : DE X W e te) (hm : X.mg x = none) (hx : bootBuiltins x = some (.builtin "isinstance")) (hmy : X.mg y = none) (hy : bootBuiltins y = some (.type c)) (hmz : X.mg z = none) (hz : bootBuiltins z = some (.type c')) (hc : c ∈ tcs := by decide) (hc' : c' ∈ tcs := by decide) (hg : Gl X x := by rfl) (hgy : Gl X y := by rfl) (hgz : Gl X z := by rfl) (hn : x ≠ "__name__" := by decide) (hdb : (x == ("__debug__" : Str)) = false := by decide)
    (hny : y ≠ "__name__" := by decide) (hdby : (y == ("__debug__" : Str)) = false := by decide) (hnz : z ≠ "__name__" := by decide) (hdbz : (z == ("__debug__" : Str)) = false := by decide)
    (hs : starEach [e, .Tuple [.Name y p2, .Name z p3] k1 pt] X.env = (false, eval e X.env) :: starEach [.Tuple [.Name y p2, .Name z p3] k1 pt] X.env := by rfl) (hs2 : starEach [.Tuple [.Name y p2, .Name z p3] k1 pt] X.env = (false, eval (.Tuple [.Name y p2, .Name z p3] k1 pt) X.env) :: starEach [] X.env := by rfl) (hpl : (backTo pos (starEach [.Tuple [.Name y p2, .Name z p3] k1 pt] X.env)).any (·.1) = false := by rfl)
    (hs3 : starEach [.Name y p2, .Name z p3] X.env = (false, eval (.Name y p2) X.env) :: starEach [.Name z p3] X.env := by rfl) (hs4 : starEach [.Name z p3] X.env = (false, eval (.Name z p3) X.env) :: starEach [] X.env := by rfl) :
    DE X W (.Call (.Name x p) [e, .Tuple [.Name y p2, .Name z p3] k1 pt] [] pos) (dIsi2 te c c') :=
  ⟨peW (pe_callB call_isiT hg hm hx (pa_cons he.pe (pa_cons (pe_tup (pa_cons (pe_ty hmy hy hgy hny hdby) (pa_cons (pe_ty hmz hz hgz hnz hdbz) pa_nil hs4) hs3)) pa_nil hs2) hs) hn hdb hs hpl) fun σ H Q ⟨Γ, M, F, E, Qd, a, q, k⟩ => ⟨Γ, M, F, E, _, a, q, fun F1 H1 v d M1 s1 c1 r1 ⟨n, e1, q1⟩ =>
    ⟨show 2 ≤ sizeLine from szOf (by decide), fun tp hp => ⟨v, tp, [.ty c, .ty c'], .type n, [.type c, .type c'], isa n c || isa n c', rfl, upd_same, .cons (.ty c) (.cons (.ty c') .nil), ty_of (c1.same (Same.upd hp)) r1 e1, by
      have h1 := isa_ok n (ty_in e1) c hc
      have h2 := isa_ok n (ty_in e1) c' hc'
      refine kitAny_cons (kit_ty h1) (fun hb => ?_) fun hb => by rw [hb]; rfl
      rw [hb, Bool.false_or]
      exact kitAny_cons (kit_ty h2) (fun hb => by rw [hb]; exact kitAny_nil) fun hb => hb, k F1 _ _ _ M1 s1 (c1.same (Same.upd hp)) (.bl _) q1⟩⟩⟩⟩
end
theorem tyI {M : Mp} {i : Int} : tyD M (.int i) = some "int" := rfl
theorem tyB {M : Mp} {b : Bool} : tyD M (.bl b) = some "bool" := rfl
theorem tyN {M : Mp} : tyD M .non = some "NoneType" := rfl
theorem tyTu {M : Mp} {xs : List D} : tyD M (.tup xs) = some "tuple" := rfl
theorem tyLs {M : Mp} {xs : List D} : tyD M (.lst xs) = some "list" := rfl
end DL

namespace DL
open PySem L2
/-! ### a comprehension within a comprehension -/
theorem lookup_rel {env : Env} : ∀ {names : List (Str × NameKind)} {x : Str}, (names.lookup x = some .cell ∨ names.lookup x = some .free) →
    ((names.map fun (n, k) => if (k == NameKind.free && env.scope.kind == .function && env.kindOf n == some .cell) then (n, NameKind.cell) else (n, k)).lookup x = some .cell ∨
    (names.map fun (n, k) => if (k == NameKind.free && env.scope.kind == .function && env.kindOf n == some .cell) then (n, NameKind.cell) else (n, k)).lookup x = some .free)
  | [], x, h => by rcases h with h | h <;> cases h
  | (n, k) :: r, x, h => by
    have ih := @lookup_rel env r x
    simp only [List.map_cons]
    by_cases hx : x == n
    · simp only [List.lookup, hx] at h
      by_cases c : (k == NameKind.free && env.scope.kind == .function && env.kindOf n == some .cell) = true
      · simp only [c, if_true, List.lookup, hx]
        exact .inl trivial
      · simp only [c, if_false, List.lookup, hx, Bool.false_eq_true]
        exact h
    · have hx' : (x == n) = false := by simpa using hx
      simp only [List.lookup, hx'] at h
      by_cases c : (k == NameKind.free && env.scope.kind == .function && env.kindOf n == some .cell) = true
      · simp only [c, if_true, List.lookup, hx']
        exact ih h
      · simp only [c, if_false, List.lookup, hx', Bool.false_eq_true]
        exact ih h
theorem blkOk_rel {N : List Str} {sc scope : Scope} {own : List (Str × Nat)} {env : Env} (h : blkC N sc scope own = true) : BlkOk N (relabel sc env) scope own := by
  have b := blkOk_by h
  exact ⟨b.kind, b.uniq, b.ix, fun y hy e => lookup_rel (b.free y hy e), b.own⟩
/-! ### list(range(a, b)) -/
theorem rgV_eq (a b : Int) : ∀ F (K : KTb), Rps K F (rgV a b) (rngD a 1 (b - a).toNat) := fun F K => by
  have : ∀ l : List Nat, Rps K F (l.map fun i => V.int (a + (i : Nat))) (l.map fun k => D.int (a + (k : Nat) * 1)) := by
    intro l
    induction l with
    | nil => exact .nil
    | cons x l ih =>
      refine .cons ?_ ih
      show Rp K F (V.int (a + (x : Nat))) (D.int (a + (x : Nat) * 1))
      rw [Int.mul_one]
      exact .int _
  exact this _
section
variable {X : Cx} {W : WT} {a b : Expr}
def dListRg (ta tb : DTE) : DTE := fun Γ M Q E => ta Γ M (fun x M1 => ∃ i : Int, x = .int i ∧ tb Γ M1 (fun y M2 => ∃ j : Int, y = .int j ∧ RgOk i j ∧ ∀ p, M2 p = none → Q (.ref p) (mup M2 p (.lst (rngD i 1 (j - i).toNat)))) E) E
theorem de_listRg {ta tb : DTE} {p p2 pos pos2 : Pos} (hc : X.calm = true) (hml : X.mg "list" = none) (hmr : X.mg "range" = none) (ha : DE X W a ta) (hb : DE X W b tb) (hgl : Gl X "list" := by rfl) (hgr : Gl X "range" := by rfl)
    (n0 : starEach [.Call (.Name "range" p2) [a, b] [] pos2] X.env = (false, eval (.Call (.Name "range" p2) [a, b] [] pos2) X.env) :: starEach [] X.env := by rfl)
    (n1 : starEach [a, b] X.env = (false, eval a X.env) :: starEach [b] X.env := by rfl) (n2 : starEach [b] X.env = (false, eval b X.env) :: starEach [] X.env := by rfl) (hp : (backTo pos2 (starEach [b] X.env)).any (·.1) = false := by rfl) :
    DE X W (.Call (.Name "list" p) [.Call (.Name "range" p2) [a, b] [] pos2] [] pos) (dListRg ta tb) :=
  ⟨peW (pe_listRg hc hgl hml (prg_2 hgr hmr ha.pe hb.pe n1 n2 hp) n0) fun σ H Q ⟨Γ, M, F, E, Qd, at0, q, k⟩ => ⟨Γ, M, F, E, _, at0, q, fun F1 H1 v d M1 s1 c1 r1 ⟨i, e1, q1⟩ => by
    subst e1
    cases r1
    refine ⟨Γ, M1, F1, E, _, at0.next s1 c1, q1, fun F2 H2 w d2 M2 s2 c2 r2 ⟨j, e2, ok, q2⟩ => ?_⟩
    subst e2
    cases r2
    exact ⟨i, j, rfl, rfl, ok, fun q hq => k F2 _ _ _ _ (s1.trans s2) (c2.newM (x := .lst _) hq ⟨_, rfl, rgV_eq i j F2 _⟩) (.ref q) (q2 q (c2.Mnone hq))⟩⟩⟩
end
end DL

namespace DL
open PySem L2
theorem neSpU {a b c d : Int} {M : Mp} {Q : DQ} : rdNe (.tup [.int a, .int b]) (.tup [.int c, .int d]) M Q = Q (.bl (!decide ((a, b) = (c, d)))) M := neSp (s := (a, b)) (t := (c, d))
theorem eqSpU {a b c d : Int} {M : Mp} {Q : DQ} : rdEq (.tup [.int a, .int b]) (.tup [.int c, .int d]) M Q = Q (.bl (decide ((a, b) = (c, d)))) M := eqSp (s := (a, b)) (t := (c, d))
theorem neMkU {a b e c d f : Int} {M : Mp} {Q : DQ} : rdNe (.tup [.int a, .int b, .int e]) (.tup [.int c, .int d, .int f]) M Q = Q (.bl (!decide ((a, b, e) = (c, d, f)))) M := neMk (s := (a, b, e)) (t := (c, d, f))
theorem eqMkU {a b e c d f : Int} {M : Mp} {Q : DQ} : rdEq (.tup [.int a, .int b, .int e]) (.tup [.int c, .int d, .int f]) M Q = Q (.bl (decide ((a, b, e) = (c, d, f)))) M := eqMk (s := (a, b, e)) (t := (c, d, f))
theorem deq_bl {a b : Bool} : deq (.bl a) (.bl b) = decide (a = b) := by cases a <;> cases b <;> rfl
theorem eqB {a b : Bool} {M : Mp} {Q : DQ} : rdEq (.bl a) (.bl b) M Q = Q (.bl (decide (a = b))) M := by
  unfold rdEq
  show (shD (.bl a) = true ∧ shD (.bl b) = true ∧ Q (.bl (deq (.bl a) (.bl b))) M) = _
  rw [sh_of (lay_bl 0 a), sh_of (lay_bl 0 b), deq_bl]
  simp
theorem neB {a b : Bool} {M : Mp} {Q : DQ} : rdNe (.bl a) (.bl b) M Q = Q (.bl (!decide (a = b))) M := by
  unfold rdNe
  show (shD (.bl a) = true ∧ shD (.bl b) = true ∧ Q (.bl (!deq (.bl a) (.bl b))) M) = _
  rw [sh_of (lay_bl 0 a), sh_of (lay_bl 0 b), deq_bl]
  simp
theorem isN_bl {M : Mp} {Q : DQ} {b c : Bool} : rdIsN b (.bl c) .non M Q = Q (.bl b) M := by cases b <;> simp [rdIsN]
theorem isN_lst {M : Mp} {Q : DQ} {b : Bool} {xs : List D} : rdIsN b (.lst xs) .non M Q = Q (.bl b) M := by cases b <;> simp [rdIsN]
theorem isN_ref {M : Mp} {Q : DQ} {b : Bool} {p : Addr} : rdIsN b (.ref p) .non M Q = Q (.bl b) M := by cases b <;> simp [rdIsN]
/-- a list told with [] -/
theorem neNilL {α : Type} {f : α → D} {bs : List α} {M : Mp} {Q : DQ} {n : Nat} (hf : ∀ a, lay n (f a)) (hn : n ≤ 63 := by decide) : rdNe (.lst (bs.map f)) (.lst []) M Q = Q (.bl (!bs.isEmpty)) M := by
  have h1 : shD (.lst (bs.map f)) = true := sh_of (lay_mapL hf bs) (by omega)
  have h2 : shD (.lst []) = true := sh_of (lay_mapL (f := D.int) (lay_int 0) []) (by decide)
  have h3 : deq (.lst (bs.map f)) (.lst []) = bs.isEmpty := by
    cases bs <;> simp [deq, D.py, pys, PyData.eqv, PyData.eqvAll]
  unfold rdNe
  rw [res_lst, res_lst, h1, h2, h3]
  simp
theorem isaBB : isa "bool" "bool" = true := by decide
theorem isaBL : isa "bool" "list" = false := by decide
theorem isaBT : isa "bool" "tuple" = false := by decide
theorem isaBI : isa "bool" "int" = true := by decide
theorem isaBS : isa "bool" "str" = false := by decide
theorem L2in_F {α : Type} {F : α → D} {xs : List α} {ok : Mp → Prop} {g : DTG} {tt : DTT} {te : DTE} {vs : List Nat} {Γ : DG} {M : Mp} {R : List D → Prop} (inj : ∀ a b, F a = F b → a = b) (H : α → Option D) (hok : ∀ M', Ext M M' → ok M')
    (body : ∀ x, x ∈ xs → ∀ M', Ext M M' → LB g tt te (dwipe Γ vs) M' (F x) (fun o => o = H x)) (q : R (xs.filterMap H)) : L2in g tt te vs Γ M ⟨xs.map F, ok⟩ R := by
  obtain ⟨P, ⟨h1, h2⟩, h3⟩ := bodyR inj hok body
  exact ⟨h1, P, h2, fun os h => by rw [all2_fn (h3 os h)]; exact q⟩
theorem injI : ∀ a b : Int, D.int a = D.int b → a = b := fun a b h => by cases h; rfl
end DL

namespace DL
open PySem L2
theorem zip_map {α β : Type} {f : α → D} {g : β → D} (as : List α) (bs : List β) : zipD (as.map f) (bs.map g) = (as.zip bs).map fun p => D.tup [f p.1, g p.2] := by
  induction as generalizing bs with
  | nil => rfl
  | cons a as ih =>
    cases bs with
    | nil => rfl
    | cons b bs =>
      show D.tup [f a, g b] :: zipD (as.map f) (bs.map g) = _
      rw [ih]
      rfl
theorem zpL {M : Mp} {xs ys : List D} : zpD M (.lst xs) (.lst ys) = some (xs, ys) := rfl
theorem lenT {xs : List D} {M : Mp} {Q : DQ} : rdLen [.tup xs] M Q = Q (.int (xs.length : Nat)) M := by
  unfold rdLen
  refine propext ⟨fun ⟨d', r', e, e2, h⟩ => ?_, fun h => ⟨_, _, rfl, rfl, h⟩⟩
  cases e
  cases e2
  exact h
theorem all_zip {α : Type} [DecidableEq α] : ∀ {as bs : List α}, as.length = bs.length → ((as.zip bs).map fun p => decide (p.1 = p.2)).all id = decide (as = bs)
  | [], [], _ => by simp
  | a :: as, b :: bs, h => by
    have ih := all_zip (as := as) (bs := bs) (by simpa using h)
    simp only [List.zip_cons_cons, List.map_cons, List.all_cons, id, ih]
    simp
theorem isaTL : isa "tuple" "list" = false := by decide
theorem isaTT : isa "tuple" "tuple" = true := by decide
theorem isaLL : isa "list" "list" = true := by decide
theorem isaLT : isa "list" "tuple" = false := by decide
theorem isaIB : isa "int" "bool" = false := by decide
theorem isaII : isa "int" "int" = true := by decide
theorem isaIS : isa "int" "str" = false := by decide
theorem isaIL : isa "int" "list" = false := by decide
theorem isaIT : isa "int" "tuple" = false := by decide
theorem injPr {α β : Type} {f : α → D} {g : β → D} (hf : ∀ a b, f a = f b → a = b) (hg : ∀ a b, g a = g b → a = b) : ∀ p q : α × β, D.tup [f p.1, g p.2] = D.tup [f q.1, g q.2] → p = q := fun p q h => by
  simp only [D.tup.injEq, List.cons.injEq, and_true] at h
  exact Prod.ext (hf _ _ h.1) (hg _ _ h.2)
end DL

namespace DL
open PySem L2
theorem rps_rev {K : KTb} {F : Hp} : ∀ {vs : List V} {ds : List D}, Rps K F vs ds → Rps K F vs.reverse ds.reverse
  | _, _, .nil => .nil
  | _, _, .cons r t => by
    rw [List.reverse_cons, List.reverse_cons]
    exact (rps_rev t).append (.cons r .nil)
section
variable {X : Cx} {W : WT} {e : Expr}
/-- xs[::-1], a list: frozen -/
def dRev (te : DTE) : DTE := fun Γ M Q E => te Γ M (fun d M1 => ∃ xs, sqD M1 d = some xs ∧ Q (.lst xs.reverse) M1) E
theorem de_rev {te : DTE} {k : Nat} {p1 p2 p3 pos : Pos} (he : DE X W e te) : DE X W (.Subscript e (.Slice none none (some (.UnaryOp .USub (.Constant (.int 1) k p1) p2)) p3) pos) (dRev te) :=
  ⟨peW (pe_revL he.pe) fun σ H Q ⟨Γ, M, F, E, Qd, a, q, k⟩ => ⟨Γ, M, F, E, _, a, q, fun F1 H1 v d M1 s1 c1 r1 ⟨xs, e1, q1⟩ => by
    obtain ⟨ad, vs, rfl, h1, rv⟩ := sq_of c1 r1 e1
    refine ⟨ad, vs, rfl, h1, fun p hp => ?_⟩
    have s := Same.upd (o := .lst vs.reverse) (c1.Fnone hp)
    exact k _ _ _ _ M1 (s1.trans s) (c1.newF hp) (.lst upd_same ((rps_rev rv).mono s)) q1⟩⟩
end
end DL

namespace DL
open PySem PySem.Spec PyProof.Rows L2 LamX NdefX
/-! ### lambdas: made, tracked, called -/
/-- the object at f is the lambda of the words G and the body be -/
def LmO (f : Addr) (G : NF) (be : Expr) : HO := .ext fun h => ∃ pm ctv, h.get? f = some (PySem.W.kla_obj G.name G.qual G.params be G.scope G.cl pm G.c ctv)
theorem lmO_at {P : Program} {w : World} {H : Hp} {h : Heap} {f : Addr} {G : NF} {be : Expr} (ok : HOk P w H h) (z : H f = some (LmO f G be)) : ∃ pm ctv, h.get? f = some (PySem.W.kla_obj G.name G.qual G.params be G.scope G.cl pm G.c ctv) := (ok f _ z).1
section
variable {X : Cx} {pins : List (Addr × Obj)} {σ : L2.St} {H : Hp} {s : Shared}
theorem inv_lm {G : NF} {be : Expr} {o : Obj} {tk : Nat} {pm ctv : Value} (J : Inv X pins σ H s) (eo : o = PySem.W.kla_obj G.name G.qual G.params be G.scope G.cl pm G.c ctv) :
    Inv X pins σ (upd H s.heap.objs.size (LmO s.heap.objs.size G be)) { s with heap := s.heap.push o, toks := tk } := by
  subst eo
  have z : (s.heap.push (PySem.W.kla_obj G.name G.qual G.params be G.scope G.cl pm G.c ctv)).get? s.heap.objs.size = some (PySem.W.kla_obj G.name G.qual G.params be G.scope G.cl pm G.c ctv) := Heap.get?_push_size _ rfl
  exact J.laid (a := s.heap.objs.size) (fun b u e => Heap.get?_push_of_some _ e) (Nat.le_refl _) ⟨⟨pm, ctv, z⟩, ⟨_, z⟩, fun h1 h2 ⟨p, t, y⟩ st => ⟨p, t, st _ y⟩⟩
/-- the words of a lambda that is made in X -/
abbrev lamF (X : Cx) (params : Arguments) (scope : Scope) (c : Addr) : NF := ⟨"<lambda>", X.env.qual ++ "<lambda>", params, [], scope, cloFrom X.env.cells scope.names [], c⟩
theorem lam_mk {T : List (Addr × Str)} {c P : Addr} {params : Arguments} {be : Expr} {scope : Scope} {pos : Pos} {E : Value → Shared → Prop} {Q : Value → Shared → Prop} (J : Inv X pins σ H s) (TB : TabB X.base X.mg c P) (hcd : X.env.code = .ref c)
    (hP : (P, X.env.qual ++ "<lambda>") ∈ T) (hone : ∀ p ∈ T, p.1 = P → p.2 = X.env.qual ++ "<lambda>") (hT : Tabs T H) (hdf : defaultsOf params X.env = ([], [])) (hfr : ∀ y ∈ scope.names, y.2 = .free → ∃ c, X.env.cells.lookup y.1 = some c)
    (k : ∀ (f c1 : Addr) (H1 : Hp) (s1 : Shared), Inv X pins σ H1 s1 → ExtN H H1 → Tabs T H1 → H f = none → H1 f = some (LmO f (lamF X params scope c1) be) → H1 c1 = some (CodeO c1 (X.env.qual ++ "<lambda>")) → Q (.ref f) s1) :
    wpAny (model X.prog X.w) X.A (eval (.Lambda params be scope pos) X.env) Q E s := by
  obtain ⟨ps, tP, tOk, tAll⟩ := hT _ hP
  have bP : s.heap.BuiltinsAt X.mg P := TB.bm.keeps J.bk
  have gP : s.heap.get? P = some { cls := .none, data := .fields ps } := J.hok P _ tP
  refine PySem.W.kla_eval hdf ?_
  cases ea : codeAmong pos ps.toList with
  | some cv =>
    obtain ⟨c1, e1, e2⟩ := tAll pos cv ea
    subst e1
    refine PySem.W.kla_makeFunctionHit (mg := X.mg) (c := c) (P := P) (ps := ps) (closure_ok hfr) J.ok.glob (J.mod.glob.keeps J.bk) hcd (TB.code.keeps J.bk) gP tOk ea bP fun ctv h' tk x1 x2 => ?_
    have J1 : Inv X pins σ H { s with heap := h', toks := tk } := J.kept x1
    have nw : H h'.objs.size = none := J1.hok.fresh (Nat.le_refl _)
    have J2 := inv_lm (G := lamF X params scope c1) (be := be) (tk := tk) (pm := (X.mg "__name__").getD .none) (ctv := ctv) J1 rfl
    have st : ∀ (b : Addr) (o : HO), H b = some o → upd H h'.objs.size (LmO h'.objs.size (lamF X params scope c1) be) b = some o := fun b o e => (upd_ne (ne_of_none e nw)).trans e
    exact k h'.objs.size c1 _ _ J2 (fun b o e _ => st b o e) (hT.ext st) nw upd_same (st _ _ e2)
  | none =>
    refine PySem.W.kla_makeFunction (mg := X.mg) (c := c) (P := P) (ps := ps) (closure_ok hfr) J.ok.glob (J.mod.glob.keeps J.bk) hcd (TB.code.keeps J.bk) gP tOk ea TB.gP bP fun c1 ctv h' tk x1 x2 x3 x4 x5 => ?_
    obtain ⟨c2, oc, vs, tt, y1, y2, y3, y4⟩ := x4
    cases y1
    have nC : H c1 = none := J.hok.fresh x2
    have J1 := inv_table (t' := tk) (more := #[rawInt pos.line, rawInt pos.col, .ref c1]) (h' := h') J tP (fun b o hb e => x1 b o hb e) x5 x2 ⟨oc, vs, tt, y2, y3, y4⟩
    generalize eH : upd (upd H P (.tbl (ps ++ #[rawInt pos.line, rawInt pos.col, .ref c1]))) c1 (CodeO c1 (X.env.qual ++ "<lambda>")) = H1 at J1
    have kp : ExtN H H1 := fun b o e n => by
      subst eH
      have n1 : b ≠ P := fun z => by
        rw [z, tP] at e
        exact n ps (Option.some.inj e).symm
      rw [upd_ne (ne_of_none e nC), upd_ne n1]
      exact e
    have hc1 : H1 c1 = some (CodeO c1 (X.env.qual ++ "<lambda>")) := by rw [← eH]; exact upd_same
    have hP1 : H1 P = some (.tbl (ps ++ #[rawInt pos.line, rawInt pos.col, .ref c1])) := by rw [← eH, upd_ne (ne_of_none tP nC), upd_same]
    have eqL : (ps ++ #[rawInt pos.line, rawInt pos.col, .ref c1]).toList = ps.toList ++ [rawInt pos.line, rawInt pos.col, .ref c1] := by simp
    have T1 : Tabs T H1 := fun p hp => by
      by_cases hb : p.1 = P
      · rw [hone p hp hb, hb]
        refine ⟨_, hP1, eqL ▸ PySem.TriplesOk_snoc _ _ _ _ tOk, fun p2 cv hcv => ?_⟩
        rw [eqL] at hcv
        rcases among_app _ tOk hcv with z | z
        · obtain ⟨c0, e1, e2⟩ := tAll p2 cv z
          exact ⟨c0, e1, kp _ _ e2 codeO_ne⟩
        · exact ⟨c1, z, hc1⟩
      · obtain ⟨qs, a1, a2, a3⟩ := hT p hp
        have a4 : H1 p.1 = some (.tbl qs) := by rw [← eH, upd_ne (ne_of_none a1 nC), upd_ne hb]; exact a1
        refine ⟨qs, a4, a2, fun p2 cv hcv => ?_⟩
        obtain ⟨c0, e1, e2⟩ := a3 p2 cv hcv
        exact ⟨c0, e1, kp _ _ e2 codeO_ne⟩
    have nw : H1 h'.objs.size = none := J1.hok.fresh (Nat.le_refl _)
    have J2 := inv_lm (G := lamF X params scope c1) (be := be) (tk := tk) (pm := (X.mg "__name__").getD .none) (ctv := ctv) J1 rfl
    refine k h'.objs.size c1 _ _ J2 (fun b o e n => ?_) (T1.ext fun b o e => ?_) (J.hok.fresh (Nat.le_trans x2 (Nat.le_of_lt x3))) upd_same ?_
    · exact (upd_ne (ne_of_none (kp b o e n) nw)).trans (kp b o e n)
    · exact (upd_ne (ne_of_none e nw)).trans e
    · exact (upd_ne (ne_of_none hc1 nw)).trans hc1
/-- the lambda's reading -/
def tLm (T : List (Addr × Str)) (q : Str) (mk : Addr → NF) (be : Expr) : TE := fun σ H Q => Tabs T H ∧ ∀ (f c : Addr) (H1 : Hp), ExtN H H1 → Tabs T H1 → H f = none → H1 f = some (LmO f (mk c) be) → H1 c = some (CodeO c q) → Q (.ref f) H1
theorem pe_lam {T : List (Addr × Str)} {c P : Addr} {params : Arguments} {be : Expr} {scope : Scope} {pos : Pos} (TB : TabB X.base X.mg c P) (hcd : X.env.code = .ref c)
    (hP : (P, X.env.qual ++ "<lambda>") ∈ T) (hone : ∀ p ∈ T, p.1 = P → p.2 = X.env.qual ++ "<lambda>") (hdf : defaultsOf params X.env = ([], [])) (hfr : ∀ y ∈ scope.names, y.2 = .free → X.env.scope.names.lookup y.1 = some .cell ∨ X.env.scope.names.lookup y.1 = some .free) :
    PE X (.Lambda params be scope pos) (tLm T (X.env.qual ++ "<lambda>") (lamF X params scope) be) := ⟨fun pins s σ H Q J ⟨hT, k⟩ =>
  lam_mk J TB hcd hP hone hT hdf (fun y hy e => (hfr y hy e).elim (fun z => J.ok.has _ (.inl z)) fun z => J.ok.has _ (.inr z)) fun f c1 H1 s1 J1 a b c d e => ⟨.ref f, H1, J1, rfl, k f c1 H1 a b c d e⟩⟩
end
/-- what captured cells held at the frame's begin they hold still -/
theorem cells_later {X : Cx} {pins : List (Addr × Obj)} {σ : L2.St} {H : Hp} {s : Shared} {cl : List (Str × Addr)} {fr : List Str} {ws : List (Option V)} (C : CellsAt cl fr ws X.s_0.heap X.H_0) (hx : X.ex = []) (J : Inv X pins σ H s) : CellsAt cl fr ws s.heap H := by
  have nx : ∀ b : Addr, b ∉ X.ex := fun b z => by rw [hx] at z; cases z
  have still : ∀ (c : Addr) (v : Option Value), X.H_0 c = none → X.s_0.heap.IsCell c v → s.heap.IsCell c v := fun c v n ⟨o, ho, hd⟩ => by
    obtain ⟨sl, q⟩ := J.base.any ho n (nx c)
    exact ⟨_, q, hd⟩
  refine ⟨C.len, fun y c e => ?_, C.inj, fun i y e => ?_⟩
  · obtain ⟨n, v, z⟩ := C.all y c e
    refine ⟨?_, v, still c v n z⟩
    obtain ⟨o, ho, _⟩ := z
    exact J.base.free c o ho n (nx c)
  · obtain ⟨c, hc, hv⟩ := C.has i y e
    refine ⟨c, hc, fun v ev => ?_⟩
    obtain ⟨u, r, z⟩ := hv v ev
    exact ⟨u, r, still c _ (C.all y c hc).1 z⟩
section
variable {P : Program} {w : World} {K : PySem.W.Frag} {mg : Str → Option Value} {base : Heap}
/-- a lambda is called: its body's reading -/
theorem lm_run {CX : CXT} {N ps fr : List Str} {G : NF} {be : Expr} {f : Addr} {A : Around} {outer : List Env} {s : Shared} {H : Hp} {E : XK} {us : List Value} {vs : List V} {ws : List (Option V)} {Q : VK} {k : Nat} (S : NScope N ps fr G.scope)
    (hb : ∀ (pm ctv : Value) (us : List Value), us.length = ps.length → bindArgs (PySem.W.kla_fn G.name G.qual G.params be G.scope G.cl pm (.ref G.c) ctv) ⟨us, []⟩ = pure (ps.zip us))
    (hr : Room (k + 1) A) (e0 : Env0 P w K mg base A outer s H) (hf : H f = some (LmO f G be)) (hc : H G.c = some (CodeO G.c G.qual)) (C : CellsAt G.cl fr ws s.heap H) (r : Vals vs us) (hl : vs.length = ps.length)
    (hbody : Room k (A.deeper (envF G f s.heap.objs.size)) → ∃ t, PE (ncx CX P w K mg base N G f A outer s H E) be t ∧ t (startF N vs ws) H Q) :
    codeAny (model P w) A (.call (.ref f) ⟨us, []⟩) (CR CX outer P w H s Q E) s := by
  have lim : s.heap.NoLimit := e0.mod.nolimit.keeps fun b o e => (e0.bs b o e).1
  obtain ⟨pm, ctv, ho⟩ := lmO_at e0.hok hf
  refine PySem.W.kla_callFunE hr.depth ho rfl S.co S.gen rfl (codeO_at e0.hok hc) ?_
  rw [hb pm ctv us (r.length ▸ hl)]
  refine wpAny_pure (wpAny_newFunctionEnv S.nocell (fun ⟨n, _⟩ hy => S.par n (List.of_mem_zip hy).1) (fun h₁ hns hsb => ⟨lim.fresh _ hsb, ?_⟩) S.kind)
  have kp : ∀ b o, s.heap.get? b = some o → h₁.get? b = some o := fun b o e => hsb.extBut b o (Nat.ne_of_lt (Heap.lt_size e)) (Heap.get?_push_of_some _ e)
  have J : Inv (ncx CX P w K mg base N G f A outer s H E) [] (startF N vs ws) H { s with heap := h₁, toks := s.toks + (ps.zip us).length } := inv_startN S hr.hd e0 hl r C hns kp
  obtain ⟨t, ht, hq⟩ := hbody (hr.deeper _)
  refine PySem.W.kla_codeExpr (env := envF G f s.heap.objs.size) (wpAny_mono (ht.run [] _ _ H _ J hq) (fun v s' hs => ?_) fun e s' hs => hs)
  obtain ⟨v', H', J', rv, q⟩ := hs
  exact ⟨v', H', J'.os, J'.bare, J'.base, J'.hok, rv, q⟩
/-- the promise of a lambda, by data: wd what is known of the captured names -/
structure LmK (P : Program) (w : World) (K : PySem.W.Frag) (mg : Str → Option Value) (base : Heap) (T : List (Addr × Str)) (k : Nat) (G : NF) (be : Expr) (fr : List Str) (wd : DG) (sp : DSp) : Prop where
  run : ∀ (f : Addr) (A : Around) (outer : List Env) (s : Shared) (H : Hp) (us : List Value) (vs : List V) (ws : List (Option V)) (Q : VK) (E : XK) (ds : List D) (M : Mp) (F : Hp) (Qd : DQ) (Ed : DXK), Room k A → Env0 P w K mg base A outer s H → H f = some (LmO f G be) → H G.c = some (CodeO G.c G.qual) → CellsAt G.cl fr ws s.heap H → Vals vs us →
    Cc ⟨K, T⟩ M F H → Rps ⟨K, T⟩ F vs ds → RpG ⟨K, T⟩ F ws wd → sp ds M Qd Ed → CoQ ⟨K, T⟩ F Qd Q → CoX ⟨K, T⟩ F Ed E → codeAny (model P w) A (.call (.ref f) ⟨us, []⟩) (CR (L2.CX P w) outer P w H s Q E) s
/-- the slots at a lambda's begin -/
def startL (N : List Str) (ds : List D) (wd : DG) : DG := ds.map some ++ (wd ++ List.replicate (N.length - ds.length - wd.length) none)
theorem startL_rp {K : KTb} {F : Hp} {N : List Str} {vs : List V} {ds : List D} {ws : List (Option V)} {wd : DG} (r : Rps K F vs ds) (g : RpG K F ws wd) : RpG K F (startF N vs ws) (startL N ds wd) := by
  have hl := r.length
  have hg := g.len
  refine ⟨by simp [startF, startL, hl, hg], fun i d h => ?_⟩
  unfold startL at h
  unfold startF
  by_cases h1 : i < ds.length
  · rw [List.getElem?_append_left (by simpa using h1), List.getElem?_map] at h
    rw [List.getElem?_append_left (by simpa [hl] using h1), List.getElem?_map]
    cases e : ds[i]? with
    | none => rw [e] at h; cases h
    | some d1 =>
      rw [e] at h
      cases h
      obtain ⟨v, q1, q2⟩ := r.get e
      exact ⟨v, by rw [q1] <;> rfl, q2⟩
  · rw [List.getElem?_append_right (by simpa using h1), List.length_map] at h
    rw [List.getElem?_append_right (by simpa [hl] using h1), List.length_map, hl]
    by_cases h2 : i - ds.length < wd.length
    · rw [List.getElem?_append_left h2] at h
      rw [List.getElem?_append_left (by rw [hg]; exact h2)]
      exact g.at_ _ d h
    · rw [List.getElem?_append_right (by omega), List.getElem?_replicate] at h
      split at h <;> cases h
/-- a lambda's promise is its body's reading -/
def spLm (N : List Str) (n : Nat) (wd : DG) (t : DTE) : DSp := fun ds M Q E => ds.length = n ∧ t (startL N ds wd) M Q (fun _ C fs M2 => E C fs M2)
theorem lmk_of {T : List (Addr × Str)} {N ps fr : List Str} {G : NF} {be : Expr} {k : Nat} {wd : DG} {t : DTE} (S : NScope N ps fr G.scope)
    (hb : ∀ (pm ctv : Value) (us : List Value), us.length = ps.length → bindArgs (PySem.W.kla_fn G.name G.qual G.params be G.scope G.cl pm (.ref G.c) ctv) ⟨us, []⟩ = pure (ps.zip us))
    (hbody : ∀ (f : Addr) (A : Around) (outer : List Env) (s : Shared) (H : Hp) (E : XK), Room k (A.deeper (envF G f s.heap.objs.size)) → DE (ncx (L2.CX P w) P w K mg base N G f A outer s H E) (wOf T E) be t) :
    LmK P w K mg base T (k + 1) G be fr wd (spLm N ps.length wd t) := by
  refine ⟨fun f A outer s H us vs ws Q E ds M F Qd Ed hr e0 hf hc C r c rd g ⟨hl, q⟩ kq kx => ?_⟩
  refine lm_run S hb hr e0 hf hc C r (rd.length.trans hl) fun hr2 => ⟨_, (hbody f A outer s H E hr2).pe, ?_⟩
  exact ⟨startL N ds wd, M, F, _, Qd, ⟨c, startL_rp rd g, fun F1 H1 σ Γ C d us fs M1 s1 c1 _ hd rf q1 => kx F1 H1 C d us fs M1 s1 c1 hd rf q1⟩, q, kq⟩
end
end DL

namespace DL
open PySem L2
/-! ### _law_same over any data -/
mutual
def sameD : D → D → Bool
  | .non, .non => true
  | .bl a, .bl b => decide (a = b)
  | .int a, .int b => decide (a = b)
  | .str a, .str b => decide (a = b)
  | .tup xs, .tup ys => samesD xs ys
  | .lst xs, .lst ys => samesD xs ys
  | _, _ => false
def samesD : List D → List D → Bool
  | [], [] => true
  | x :: xs, y :: ys => sameD x y && samesD xs ys
  | _, _ => false
end
def flatD : D → Prop
  | .non => True
  | .bl _ => True
  | .int _ => True
  | .str x => PyData.strOk x = true
  | _ => False
/-- data of depth n -/
def dep : Nat → D → Prop
  | 0, d => flatD d
  | n + 1, d => flatD d ∨ ∃ xs, (d = .tup xs ∨ d = .lst xs) ∧ xs.length ≤ 16000000 ∧ ∀ x ∈ xs, dep n x
theorem dep_up {n : Nat} : ∀ {d : D}, dep n d → dep (n + 1) d := by
  induction n with
  | zero => intro d h; exact .inl h
  | succ n ih =>
    intro d h
    rcases h with h | ⟨xs, e, hl, h⟩
    · exact .inl h
    · exact .inr ⟨xs, e, hl, fun x hx => ih (h x hx)⟩
theorem dep_flat {n : Nat} {d : D} (h : flatD d) : dep n d := by
  cases n with
  | zero => exact h
  | succ n => exact .inl h
theorem dep_lst {n : Nat} {α : Type} {f : α → D} {as : List α} (h : ∀ a ∈ as, dep n (f a)) (hl : as.length ≤ 16000000) : dep (n + 1) (.lst (as.map f)) := .inr ⟨_, .inr rfl, by rw [List.length_map]; exact hl, fun x hx => by
  obtain ⟨a, ha, rfl⟩ := List.mem_map.mp hx
  exact h a ha⟩
theorem dep_tup {n : Nat} {xs : List D} (h : ∀ a ∈ xs, dep n a) (hl : xs.length ≤ 16000000) : dep (n + 1) (.tup xs) := .inr ⟨_, .inl rfl, hl, h⟩
theorem dep_lstX {n : Nat} {xs : List D} (h : ∀ a ∈ xs, dep n a) (hl : xs.length ≤ 16000000) : dep (n + 1) (.lst xs) := .inr ⟨_, .inr rfl, hl, h⟩
theorem dep_int {n : Nat} {i : Int} : dep n (.int i) := dep_flat trivial
theorem dep_bl {n : Nat} {i : Bool} : dep n (.bl i) := dep_flat trivial
theorem dep_str {n : Nat} {i : Str} (h : PyData.strOk i = true) : dep n (.str i) := dep_flat h
theorem dep_non {n : Nat} : dep n .non := dep_flat trivial
theorem dep_spD {n : Nat} {s : Int × Int} : dep (n + 1) (spD s) := dep_tup (fun a ha => by
  simp only [List.mem_cons, List.not_mem_nil, or_false] at ha
  rcases ha with rfl | rfl <;> exact dep_int) (by simp)
theorem dep_mkD {n : Nat} {s : Int × Int × Int} : dep (n + 1) (mkD s) := dep_tup (fun a ha => by
  simp only [List.mem_cons, List.not_mem_nil, or_false] at ha
  rcases ha with rfl | rfl | rfl <;> exact dep_int) (by simp)
/-- the type's name of a resolved datum -/
def tyR : D → String
  | .non => "NoneType"
  | .bl _ => "bool"
  | .int _ => "int"
  | .str _ => "str"
  | .tup _ => "tuple"
  | _ => "list"
theorem sq_res {M : Mp} {d : D} {xs : List D} (h : res M d = .lst xs) : sqD M d = some xs := by
  cases e : sqD M d with
  | some ys =>
    rw [resSq e] at h
    cases h
    rfl
  | none =>
    have e2 : res M d = d := by unfold res; rw [e]
    rw [e2] at h
    subst h
    cases e
theorem nsq_res {M : Mp} {d : D} (h : ∀ xs, res M d ≠ .lst xs) : res M d = d := by
  cases e : sqD M d with
  | some ys => exact absurd (resSq e) (h ys)
  | none => unfold res; rw [e]
theorem tyRes {M : Mp} {d : D} {n : Nat} (h : dep n (res M d)) : tyD M d = some (tyR (res M d)) := by
  have go : (∃ xs, res M d = .lst xs) → tyD M d = some (tyR (res M d)) := fun ⟨xs, e⟩ => by
    rw [e]
    rcases sq_cases (sq_res e) with rfl | ⟨p, rfl, e2⟩ | ⟨ns, rfl, _⟩
    · rfl
    · simp [tyD, e2, tyR]
    · rfl
  by_cases hx : ∃ xs, res M d = .lst xs
  · exact go hx
  · have e := nsq_res fun xs z => hx ⟨xs, z⟩
    rw [e] at h ⊢
    have fl : flatD d → tyD M d = some (tyR d) := fun z => by cases d <;> first | rfl | exact z.elim
    cases n with
    | zero => exact fl h
    | succ n =>
      rcases h with h | ⟨xs, rfl | rfl, _⟩
      · exact fl h
      · rfl
      · rfl
theorem samesD_zip : ∀ {xs ys : List D}, xs.length = ys.length → ((xs.zip ys).map fun p => sameD p.1 p.2).all id = samesD xs ys
  | [], [], _ => by simp [samesD]
  | x :: xs, y :: ys, h => by
    have ih := samesD_zip (xs := xs) (ys := ys) (by simpa using h)
    simp only [List.zip_cons_cons, List.map_cons, List.all_cons, id, ih, samesD]
theorem samesD_len : ∀ {xs ys : List D}, samesD xs ys = true → xs.length = ys.length
  | [], [], _ => rfl
  | x :: xs, y :: ys, h => by
    simp only [samesD, Bool.and_eq_true] at h
    simp [samesD_len h.2]
  | [], y :: ys, h => by simp [samesD] at h
  | x :: xs, [], h => by simp [samesD] at h
/-! ### typed -/
theorem samesD_map {α : Type} [DecidableEq α] {f : α → D} (hf : ∀ a b, sameD (f a) (f b) = decide (a = b)) : ∀ (as bs : List α), samesD (as.map f) (bs.map f) = decide (as = bs)
  | [], [] => by simp [samesD]
  | [], b :: bs => by simp [samesD]
  | a :: as, [] => by simp [samesD]
  | a :: as, b :: bs => by simp [samesD, hf, samesD_map hf as bs]
theorem sameD_int (a b : Int) : sameD (.int a) (.int b) = decide (a = b) := by simp [sameD]
theorem sameD_bl (a b : Bool) : sameD (.bl a) (.bl b) = decide (a = b) := by simp [sameD]
theorem sameD_str (a b : Str) : sameD (.str a) (.str b) = decide (a = b) := by simp [sameD]
theorem sameD_lst {α : Type} [DecidableEq α] {f : α → D} (hf : ∀ a b, sameD (f a) (f b) = decide (a = b)) (as bs : List α) : sameD (.lst (as.map f)) (.lst (bs.map f)) = decide (as = bs) := by
  simp only [sameD]
  exact samesD_map hf as bs
theorem sameD_spD (s t : Int × Int) : sameD (spD s) (spD t) = decide (s = t) := by
  obtain ⟨a, b⟩ := s
  obtain ⟨c, d⟩ := t
  simp [sameD, samesD, spD]
theorem sameD_mkD (s t : Int × Int × Int) : sameD (mkD s) (mkD t) = decide (s = t) := by
  obtain ⟨a, b, e⟩ := s
  obtain ⟨c, d, f⟩ := t
  simp [sameD, samesD, mkD]
mutual
theorem sameD_refl : ∀ (n : Nat) (d : D), dep n d → sameD d d = true
  | _, .non, _ => by simp [sameD]
  | _, .bl b, _ => by simp [sameD]
  | _, .int b, _ => by simp [sameD]
  | _, .str b, _ => by simp [sameD]
  | 0, .tup xs, h => h.elim
  | 0, .lst xs, h => h.elim
  | n + 1, .tup xs, h => by
    rcases h with h | ⟨ys, e, _, h⟩
    · exact h.elim
    · simp only [D.tup.injEq, reduceCtorEq, or_false] at e
      subst e
      simp only [sameD]
      exact samesD_refl n xs h
  | n + 1, .lst xs, h => by
    rcases h with h | ⟨ys, e, _, h⟩
    · exact h.elim
    · simp only [D.lst.injEq, reduceCtorEq, false_or] at e
      subst e
      simp only [sameD]
      exact samesD_refl n xs h
  | n, .ref _, h => by cases n with | zero => exact h.elim | succ n => rcases h with h | ⟨_, e | e, _⟩ <;> first | exact h.elim | cases e
  | n, .dic _, h => by cases n with | zero => exact h.elim | succ n => rcases h with h | ⟨_, e | e, _⟩ <;> first | exact h.elim | cases e
  | n, .scr _, h => by cases n with | zero => exact h.elim | succ n => rcases h with h | ⟨_, e | e, _⟩ <;> first | exact h.elim | cases e
  | n, .obj _ _, h => by cases n with | zero => exact h.elim | succ n => rcases h with h | ⟨_, e | e, _⟩ <;> first | exact h.elim | cases e
  | n, .dit _, h => by cases n with | zero => exact h.elim | succ n => rcases h with h | ⟨_, e | e, _⟩ <;> first | exact h.elim | cases e
  | n, .any _ _, h => by cases n with | zero => exact h.elim | succ n => rcases h with h | ⟨_, e | e, _⟩ <;> first | exact h.elim | cases e
theorem samesD_refl : ∀ (n : Nat) (xs : List D), (∀ x ∈ xs, dep n x) → samesD xs xs = true
  | _, [], _ => by simp [samesD]
  | n, x :: xs, h => by
    simp only [samesD, Bool.and_eq_true]
    exact ⟨sameD_refl n x (h x List.mem_cons_self), samesD_refl n xs fun y hy => h y (List.mem_cons_of_mem _ hy)⟩
end
/-! ### by type names -/
theorem lenDr {M : Mp} {d : D} {xs : List D} (h : res M d = .lst xs ∨ (d = .tup xs)) {Q : DQ} : rdLen [d] M Q = Q (.int (xs.length : Nat)) M := by
  rcases h with h | rfl
  · exact lenSq (sq_res h)
  · exact lenT
theorem zipPr (xs ys : List D) : zipD xs ys = (xs.zip ys).map fun p => D.tup [p.1, p.2] := by
  have := zip_map (f := id) (g := id) xs ys
  simpa using this
theorem injPair : ∀ p q : D × D, D.tup [p.1, p.2] = D.tup [q.1, q.2] → p = q := fun p q h => by
  simp only [D.tup.injEq, List.cons.injEq, and_true] at h
  exact Prod.ext h.1 h.2
theorem deq_flat {x y : D} (hx : flatD x) (hy : flatD y) (ht : isa (tyR x) "bool" = isa (tyR y) "bool") (h2 : isa (tyR x) "int" = isa (tyR y) "int") (h3 : isa (tyR x) "str" = isa (tyR y) "str") (h4 : (match x with | .non => true | _ => false) = (match y with | .non => true | _ => false)) : deq x y = sameD x y := by
  cases x <;> cases y <;> first | exact hx.elim | exact hy.elim | (simp [tyR, isa] at ht h2 h3 h4; done) | (simp [deq, D.py, PyData.eqv, sameD]; done) | rfl | (rename_i a b; cases a <;> cases b <;> rfl) | (simp_all [deq, D.py, PyData.eqv, sameD, tyR, isa]; done)
theorem lay_str {n : Nat} {x : Str} (h : PyData.strOk x = true) : lay n (.str x) := ⟨by simp only [D.py, PyData.canLay0]; exact h, by simp [D.py, PyData.depth]⟩
theorem sh_flat {x : D} (h : flatD x) : shD x = true := by
  cases x with
  | non => exact sh_of (lay_non 0)
  | bl b => exact sh_of (lay_bl 0 b)
  | int i => exact sh_of (lay_int 0 i)
  | str s => exact sh_of (lay_str (n := 0) h)
  | _ => exact h.elim
end DL

namespace DL
open PySem L2
theorem isa_No_bo : isa "NoneType" "bool" = false := by decide
theorem isa_No_in : isa "NoneType" "int" = false := by decide
theorem isa_No_st : isa "NoneType" "str" = false := by decide
theorem isa_No_tu : isa "NoneType" "tuple" = false := by decide
theorem isa_No_li : isa "NoneType" "list" = false := by decide
theorem isa_bo_bo : isa "bool" "bool" = true := by decide
theorem isa_bo_in : isa "bool" "int" = true := by decide
theorem isa_bo_st : isa "bool" "str" = false := by decide
theorem isa_bo_tu : isa "bool" "tuple" = false := by decide
theorem isa_bo_li : isa "bool" "list" = false := by decide
theorem isa_in_bo : isa "int" "bool" = false := by decide
theorem isa_in_in : isa "int" "int" = true := by decide
theorem isa_in_st : isa "int" "str" = false := by decide
theorem isa_in_tu : isa "int" "tuple" = false := by decide
theorem isa_in_li : isa "int" "list" = false := by decide
theorem isa_st_bo : isa "str" "bool" = false := by decide
theorem isa_st_in : isa "str" "int" = false := by decide
theorem isa_st_st : isa "str" "str" = true := by decide
theorem isa_st_tu : isa "str" "tuple" = false := by decide
theorem isa_st_li : isa "str" "list" = false := by decide
theorem isa_tu_bo : isa "tuple" "bool" = false := by decide
theorem isa_tu_in : isa "tuple" "int" = false := by decide
theorem isa_tu_st : isa "tuple" "str" = false := by decide
theorem isa_tu_tu : isa "tuple" "tuple" = true := by decide
theorem isa_tu_li : isa "tuple" "list" = false := by decide
theorem isa_li_bo : isa "list" "bool" = false := by decide
theorem isa_li_in : isa "list" "int" = false := by decide
theorem isa_li_st : isa "list" "str" = false := by decide
theorem isa_li_tu : isa "list" "tuple" = false := by decide
theorem isa_li_li : isa "list" "list" = true := by decide
theorem tyStr {M : Mp} {x : Str} : tyD M (.str x) = some "str" := rfl
theorem isN_str {M : Mp} {Q : DQ} {b : Bool} {i : Str} : rdIsN b (.str i) .non M Q = Q (.bl b) M := by cases b <;> simp [rdIsN]
theorem eqSq {x y : D} {M : Mp} {Q : DQ} {b : Bool} (h1 : shD (res M x) = true) (h2 : shD (res M y) = true) (e : deq (res M x) (res M y) = b) (q : Q (.bl b) M) : rdEq x y M Q := ⟨h1, h2, by rw [e]; exact q⟩
theorem neSq {x y : D} {M : Mp} {Q : DQ} {b : Bool} (h1 : shD (res M x) = true) (h2 : shD (res M y) = true) (e : deq (res M x) (res M y) = !b) (q : Q (.bl b) M) : rdNe x y M Q := ⟨h1, h2, by rw [e, Bool.not_not]; exact q⟩
theorem nSq_flat {x : D} (h : flatD x) : ∀ M, res M x = x := fun M => nsq_res fun xs z => by
  have e : sqD M x = none := by cases x <;> first | exact h.elim | rfl
  have : res M x = x := by unfold res; rw [e]
  rw [this] at z
  subst z
  exact h
theorem zpRes {M : Mp} {d e : D} {xs ys : List D} (h1 : res M d = .lst xs) (h2 : res M e = .lst ys) : zpD M d e = some (xs, ys) := by
  have e1 := sq_res h1
  have e2 := sq_res h2
  unfold zpD
  split
  · cases e1
  · rw [e1, e2]
    rfl
/-- the loop of all(..) over the pairs -/
theorem dep_mem {n : Nat} {xs : List D} (h : dep (n + 1) (.lst xs) ∨ dep (n + 1) (.tup xs)) : xs.length ≤ 16000000 ∧ ∀ x ∈ xs, dep n x := by
  rcases h with (h | ⟨ys, e, hl, h⟩) | (h | ⟨ys, e, hl, h⟩)
  · exact h.elim
  · rcases e with e | e
    · cases e
    · cases e; exact ⟨hl, h⟩
  · exact h.elim
  · rcases e with e | e
    · cases e; exact ⟨hl, h⟩
    · cases e
theorem res_dep {n : Nat} {x : D} (h : dep n x) : ∀ M, res M x = x := fun M => by
  cases n with
  | zero => exact nSq_flat h M
  | succ n =>
    rcases h with h | ⟨xs, rfl | rfl, _⟩
    · exact nSq_flat h M
    · rfl
    · rfl
theorem dep_kinds {n : Nat} {x : D} (h : dep n x) : flatD x ∨ (∃ xs, x = .tup xs) ∨ ∃ xs, x = .lst xs := by
  cases n with
  | zero => exact .inl h
  | succ n =>
    rcases h with h | ⟨xs, rfl | rfl, _⟩
    · exact .inl h
    · exact .inr (.inl ⟨xs, rfl⟩)
    · exact .inr (.inr ⟨xs, rfl⟩)
theorem same_no {x y : D} (h : ∀ xs, x ≠ .lst xs) (e : ∃ ys, y = .lst ys) : sameD x y = false := by
  obtain ⟨ys, rfl⟩ := e
  cases x <;> first | rfl | (rename_i z; exact absurd rfl (h z)) | simp [sameD]
theorem same_noT {x y : D} (h : ∀ xs, x ≠ .tup xs) (e : ∃ ys, y = .tup ys) : sameD x y = false := by
  obtain ⟨ys, rfl⟩ := e
  cases x <;> first | rfl | (rename_i z; exact absurd rfl (h z)) | simp [sameD]
theorem deq_str {i j : Str} : deq (.str i) (.str j) = decide (i = j) := by
  simp only [deq, D.py, PyData.eqv]
  by_cases h : i = j
  · subst h; simp
  · rw [decide_eq_false h]
    simpa using h
theorem isN_sq {d : D} {xs : List D} {b : Bool} {M : Mp} {Q : DQ} (h : res M d = .lst xs) : rdIsN b d .non M Q = Q (.bl b) M := by
  rcases sq_cases (sq_res h) with rfl | ⟨p, rfl, _⟩ | ⟨ns, rfl, _⟩
  · exact isN_lst
  · exact isN_ref
  · cases b <;> simp [rdIsN]
end DL

namespace DL
open PySem L2
section
variable {X : Cx} {W : WT}
/-- xs.insert(i, y) -/
def dInsert (tx ti te : DTE) : DTE := fun Γ M Q E => tx Γ M (fun d M1 => (∃ xs, sqX M1 d = some xs) ∧ ti Γ M1 (fun i M2 => te Γ M2 (fun y M3 => ∃ p xs k, d = .ref p ∧ i = .int k ∧ M3 p = some (.lst xs) ∧ xs.length < sizeLine ∧ 0 ≤ k ∧ k < 2 ^ 63 ∧ Q .non (mup M3 p (.lst (xs.take k.toNat ++ [y] ++ xs.drop k.toNat)))) E) E) E
theorem de_insert {xs i y : Expr} {apos cpos : Pos} {tx ti te : DTE} (hx : DE X W xs tx) (hi : DE X W i ti) (hy : DE X W y te)
    (hb : attributeBase xs "insert" X.env (eval xs X.env) = eval xs X.env := by rfl)
    (hf : ((backTo cpos (starEach [i, y] X.env)).all (fun z => !z.1) && (backToKw cpos (keywordEach [] X.env)).all (fun z => z.1.isSome) && decide (([i, y] : List Expr).length + ([] : List Keyword).length + (if ([] : List Keyword).isEmpty then 0 else 1) < 30)) = true := by rfl)
    (hl : (apos.endLine == cpos.line) = true := by rfl) (hs : starEach [i, y] X.env = (false, eval i X.env) :: starEach [y] X.env := by rfl) (hs2 : starEach [y] X.env = (false, eval y X.env) :: starEach [] X.env := by rfl) (hp : (backTo cpos (starEach [y] X.env)).any (·.1) = false := by rfl) :
    DE X W (.Call (.Attribute xs "insert" apos) [i, y] [] cpos) (dInsert tx ti te) :=
  ⟨peW (pe_bm PySem.F.plainAttrs_list PySem.F.slot_list_insert PySem.F.type_list_insert mt_insert hx.pe (pa_cons hi.pe (pa_cons hy.pe pa_nil hs2) hs) hb hf hl hs hp) fun σ H Q ⟨Γ, M, F, E, Qd, a, q, k⟩ => ⟨Γ, M, F, E, _, a, q, fun F1 H1 v d M1 s1 c1 r1 ⟨⟨xs, e1⟩, q1⟩ => ⟨ty_list c1 r1 e1,
    Γ, M1, F1, E, _, a.next s1 c1, q1, fun F2 H2 w e M2 s2 c2 r2 q2 => ⟨Γ, M2, F2, E, _, a.next (s1.trans s2) c2, q2, fun F3 H3 u f M3 s3 c3 r3 ⟨p, ys, j, e2, e3, e4, hz, h0, h63, q3⟩ => by
      subst e2
      subst e3
      cases r1
      cases r2
      obtain ⟨fz, o, e5, us, e6, r5⟩ := c3.ow _ _ e4
      subst e6
      refine ⟨p, us, j, u, rfl, rfl, e5, by rw [r5.length]; exact hz, h0, h63, k _ _ _ _ _ ((s1.trans s2).trans s3) (c3.write (x := .lst _) e4 ⟨_, rfl, ?_⟩) .non q3⟩
      exact ((r5.take _).append (.cons r3 .nil)).append (r5.drop _)⟩⟩⟩⟩
end
end DL

/-! ### try with several except clauses, each with a name -/
namespace DL
open PySem PySem.Spec PyProof.Rows L2
abbrev HdT := Value × Nat × (Addr → Value → Option Addr → TS)
/-- what stands behind a clause: the name's slot is empty -/
def offS (i : Nat) (D : Ends) : Ends := { nx := fun τ G => D.nx (τ.set i none) G, rt := D.rt, bk := fun τ G => D.bk (τ.set i none) G, ct := fun τ G => D.ct (τ.set i none) G }
def wNm (K : PySem.W.Frag) (Wout : WX) (D : Ends) : List HdT → WX
  | [] => Wout
  | (c, i, ts) :: r => fun cls d τ G => ∃ b, PySem.W.exmOne K cls c = some b ∧ (b = true → ∀ p, G p = none → ts p cls d (offS i D) (τ.set i (some (.ref p))) G) ∧ (b = false → wNm K Wout D r cls d τ G)
inductive HdN (X : Cx) : List ExceptHandler → List HdT → Prop
  | nil : HdN X [] []
  | cons {x n : Str} {c : Value} {i : Nat} {ts : Addr → Value → Option Addr → TS} {b0 : Stmt} {su : List Stmt} {np ps : Pos} {hds : List ExceptHandler} {l : List HdT} (hc : Names X x c) (hi : X.N[i]? = some n) (hn : X.env.kindOf n = some .local)
      (hsu : ∀ (p : Addr) (oe : Obj) (cls : Value) (d : Option Addr) (pn : List (Addr × Obj)), Zc cls d oe → (∃ vs, oe.data = .fields vs) → PSs (X.suite p ((p, oe) :: pn)) (b0 :: su) (ts p cls d)) (r : HdN X hds l) :
      HdN X (.ExceptHandler (some (.Name x np)) (some n) (b0 :: su) ps :: hds) ((c, i, ts) :: l)
section
variable {X : Cx} {body : List Stmt} {h0 : ExceptHandler} {hds : List ExceptHandler} {l : List HdT} {pos : Pos} {tb : WX → TS} {Wout : WX}
theorem ps_tryN (hst : X.stack = X.env :: X.outer) (hfr : X.env.frame = some X.env.locals) (hN : X.N.Nodup) (tk : Takes X Wout)
    (hb : ∀ (W : WX) (pn : List (Addr × Obj)) (xe : Value → Shared → Prop), Takes (X.tr pn xe) W → PSs (X.tr pn xe) body (tb W)) (hh : HdN X (h0 :: hds) l) :
    PS X (.Try body (h0 :: hds) [] [] pos) (fun D σ H => tb (wNm X.K Wout D l) D σ H) := by
  refine ⟨fun pins s σ H D J q0 => ?_⟩
  have okX := J.ok
  have frA : X.A.frames = some (X.env :: X.outer) := by rw [okX.frames, hst]
  let catch_ : Value → Shared → Prop := fun u z1 => wpAny (model X.prog X.w) X.A (noteFrame u X.env) (fun _ z2 => wpAny (model X.prog X.w) X.A (setFlight u none) (fun _ z3 => wpAny (model X.prog X.w) X.A (handleBy u X.env (h0 :: hds)) (SP X pins D) X.xe z3) X.xe z2) X.xe z1
  have tkB : Takes (X.tr (X.pn ++ pins) catch_) (wNm X.K Wout D l) := fun u s2 big => by
    obtain ⟨p, B, sI, pinsB, τ, G, cls, d, rfl, JB, nb, up, sky, np, os, ag, w⟩ := big
    have J1 : Inv X pins τ G sI := JB.ofTry okX
    have sky1 : Sky B (X.env :: X.outer) p (Zc cls d) X.env.locals s2.heap := hst ▸ sky
    show wpAny (model X.prog X.w) X.A (noteFrame (.ref p) X.env) _ _ _
    refine Sky.land Zc.steady frA hfr sky1 fun g fl upg => ?_
    have J2 : Inv X pins τ G { s2 with heap := g } := J1.landed nb fl.1 (up.trans upg) os ag
    obtain ⟨oe, vs, ge, ze, de⟩ := fl.there
    have pfr : p ∉ frs (X.env :: X.outer) := fun hm => by
      obtain ⟨_, o1, e1, nf⟩ := fl.2.2.1.mem hm
      rw [ge] at e1
      cases e1
      exact nf _ de
    have pL : p ≠ X.env.locals := fun z => pfr (List.mem_filterMap.mpr ⟨X.env, List.mem_cons_self, by rw [hfr, z]⟩)
    have pF : p ∉ X.fs := fun hm => by
      obtain ⟨ev, h1, h2⟩ := List.mem_filterMap.mp hm
      exact pfr (List.mem_filterMap.mpr ⟨ev, List.mem_cons_of_mem _ h1, h2⟩)
    have JS := J2.suite ge de np pL pF
    have walk : ∀ {hds' : List ExceptHandler} {l' : List HdT}, HdN X hds' l' → wNm X.K Wout D l' cls d τ G → wpAny (model X.prog X.w) X.A (handleBy (.ref p) X.env hds') (SP X pins D) X.xe { s2 with heap := g } := by
      intro hds' l' hk
      induction hk with
      | nil =>
        intro w
        refine wpAny_handleBy_nil ?_
        obtain ⟨k1, k2, k3, o3, vs3, T3, oT, ts3, q1, q2, q3, q4, q5⟩ := id fl
        unfold PySem.passOn
        refine wpAny_bind (wpAny_field q1 q3 q4 ?_)
        rw [if_neg (show ¬ ((Value.ref T3 == Value.none) = true) by simp)]
        have out : wpAny (model X.prog X.w) X.A (setFlight (.ref p) X.env.frame) (fun _ z4 => wpAny (model X.prog X.w) X.A (throw (.ref p) : Sem Flow) (SP X pins D) X.xe z4) X.xe { s2 with heap := g } := by
          rw [hfr]
          refine HandSPX.setFlight_upZ fl fun g4 hg4 up4 => wpAny_throw (tk _ _ ?_)
          exact ⟨p, B, sI, pins, τ, G, cls, d, rfl, J1, nb, (up.trans upg).trans up4, .inr (.inr (hst ▸ hg4)), np, os, ag, w⟩
        first | exact wpAny_bind (wpAny_pure (wpAny_bind out)) | exact wpAny_bind out
      | @cons x n c i ts b0 su npos pss hds2 l2 hc hi hn hsu r ih =>
        intro w
        obtain ⟨b, eb, yes, no⟩ := w
        refine wpAny_handleBy_cons (codeAny_handlers_test ?_) (by intro z; cases z)
        have lt1 : PySem.W.Looks (model X.prog X.w) g (typeOf (.ref p)) cls := fun A Q E z k q => wpAny_typeOf_ref (k _ _ ge) (by rw [ze.1]; exact q)
        have lm1 := PySem.W.exm_one (M := model X.prog X.w) J2.kIn lt1 eb
        have nameOf : ∀ {Q : Value → Shared → Prop} {E : Value → Shared → Prop}, Q c { s2 with heap := g } → wpAny (model X.prog X.w) (X.A.mark (some (.ref p))) (eval (.Name x npos) X.env) Q E { s2 with heap := g } := fun {Q E} q => by
          obtain ⟨g1, g2, g3 | ⟨g3, g4, g5⟩⟩ := hc
          · exact ld_glob (X := X.suite p ((p, oe) :: (X.pn ++ pins))) JS g1 g3 q g2
          · exact ld_blt (X := X.suite p ((p, oe) :: (X.pn ++ pins))) JS g1 g3 g4 q g5 g2
        refine nameOf (lm1.here ?_)
        cases b with
        | false =>
          show wpAny _ X.A (handleBy (.ref p) X.env hds2) _ _ _
          exact ih (no rfl)
        | true =>
          refine codeAny_handlers_suite_as ?_
          refine HandSPX.lands_againZ fl fun g4 fl4 up4 => ?_
          have J4 : Inv X pins τ G { s2 with heap := g4 } := J1.landed nb fl4.1 ((up.trans upg).trans up4) os ag
          obtain ⟨oe4, vs4, ge4, ze4, de4⟩ := fl4.there
          have JS4 := J4.suite ge4 de4 np pL pF
          refine store_ok (X := X.suite p ((p, oe4) :: (X.pn ++ pins))) (v := .ref p) JS4 hN hi (.inl hn) rfl (fun z5 J5 => ?_) (.inr hn)
          refine wpAny_mono ((hsu p oe4 cls d (X.pn ++ pins) ze4 ⟨_, de4⟩).run [] z5 _ G _ J5 (yes rfl p np)) (fun fl6 z6 hs6 => ?_) (fun _ _ z => z.elim)
          have close : ∀ {τ6 : L2.St} {G6 : Hp} {R : Shared → Prop}, Inv (X.suite p ((p, oe4) :: (X.pn ++ pins))) [] τ6 G6 z6 → (∀ z7, Inv X pins (τ6.set i none) G6 z7 → R z7) →
              wpAny (model X.prog X.w) X.A (do bindName X.env n .none; unbindBehindTheSuite X.env n pss) (fun _ z7 => R z7) X.xe z6 := fun {τ6 G6 R} J6 hq => gone_ok (J6.unsuite okX) hN hi hn hq
          cases fl6 with
          | ret u =>
            obtain ⟨v6, τ6, G6, J6, r6, q6⟩ := hs6
            exact close J6 fun z7 J7 => ⟨v6, _, _, J7, r6, q6⟩
          | next =>
            obtain ⟨τ6, G6, J6, q6⟩ := hs6
            exact close J6 fun z7 J7 => ⟨_, G6, J7, q6⟩
          | brk =>
            obtain ⟨τ6, G6, J6, q6⟩ := hs6
            exact close J6 fun z7 J7 => ⟨_, G6, J7, q6⟩
          | cont =>
            obtain ⟨τ6, G6, J6, q6⟩ := hs6
            exact close J6 fun z7 J7 => ⟨_, G6, J7, q6⟩
    exact walk hh w
  refine wpAny_Try_except ?_
  refine wpAny_mono ((hb (wNm X.K Wout D l) (X.pn ++ pins) catch_ tkB).run [] s σ H D (J.toTry _) q0) (fun fl s1 hs => ?_) (fun e s1 he => he)
  cases fl with
  | ret u =>
    obtain ⟨v, τ, G, J1, r, q⟩ := hs
    exact ⟨v, τ, G, J1.ofTry okX, r, q⟩
  | next =>
    obtain ⟨τ, G, J1, q⟩ := hs
    exact wpAny_execs_nil ⟨τ, G, J1.ofTry okX, q⟩
  | brk =>
    obtain ⟨τ, G, J1, q⟩ := hs
    exact ⟨τ, G, J1.ofTry okX, q⟩
  | cont =>
    obtain ⟨τ, G, J1, q⟩ := hs
    exact ⟨τ, G, J1.ofTry okX, q⟩
end
end DL

/-! ### by data: try, a caught exception's field; lambdas as arguments -/
namespace DL
open PySem PySem.Spec PyProof.Rows L2 LamX NdefX
section
variable {K : KTb} {M : Mp} {F H : Hp}
/-- a thing that stands in H is known from now on -/
theorem Cc.known {a : Addr} {o : HO} (c : Cc K M F H) (e : H a = some o) (hk : Fk o) (h1 : ∀ x F', ¬ RpC K F' x o) (h2 : ∀ kvs, o ≠ .dK kvs) (h3 : ∀ ob u, o ≠ .frz ob u) : ∃ F1, Same F F1 ∧ Cc K M F1 H ∧ F1 a = some o := by
  cases e1 : F a with
  | some u =>
    have : H a = some u ∨ _ := c.fr a u e1
    rcases this with z | ⟨_, ob, z⟩
    · rw [e] at z
      cases z
      exact ⟨F, Same.refl _, c, e1⟩
    · rw [e] at z
      cases z
      exact absurd rfl (h3 ob u)
  | none =>
    have mN : M a = none := by
      cases em : M a with
      | none => rfl
      | some x =>
        obtain ⟨_, o1, z1, z2⟩ := c.ow a x em
        rw [e] at z1
        cases z1
        exact absurd z2 (h1 x F)
    have sm : Same F (upd F a o) := Same.upd e1
    refine ⟨upd F a o, sm, ⟨c.tb, fun b u eb => ?_, fun b u eb => ?_, fun b x eb => ?_⟩, upd_same⟩
    · by_cases hb : b = a
      · subst hb
        rw [upd_same] at eb
        cases eb
        exact hk
      · rw [upd_ne hb] at eb
        exact c.fk b u eb
    · by_cases hb : b = a
      · subst hb
        rw [upd_same] at eb
        cases eb
        exact .inl e
      · rw [upd_ne hb] at eb
        exact c.fr b u eb
    · obtain ⟨f1, o1, z1, z2⟩ := c.ow b x eb
      have hb : b ≠ a := fun z => by rw [z, mN] at eb; cases eb
      exact ⟨by rw [upd_ne hb]; exact f1, o1, z1, z2.mono sm⟩
theorem Cc.at_ext {a : Addr} {φ : Heap → Prop} (c : Cc K M F H) (e : F a = some (.ext φ)) : H a = some (.ext φ) := by
  rcases c.fr a _ e with z | ⟨⟨_, z⟩, _⟩
  · exact z
  · cases z
theorem Cc.at_xd {a : Addr} {vs : List (Str × V)} (c : Cc K M F H) (e : F a = some (.xd vs)) : H a = some (.xd vs) := by
  rcases c.fr a _ e with z | ⟨⟨_, z⟩, _⟩
  · exact z
  · cases z
theorem rpc_xd {K : KTb} {x : Cell} {F : Hp} {vs : List (Str × V)} : ¬ RpC K F x (.xd vs) := fun r => by
  cases x with
  | lst ds => obtain ⟨_, z, _⟩ := r; cases z
  | dic ds => obtain ⟨_, z, _⟩ := r; cases z
  | dit ds => obtain ⟨_, z, _⟩ := r; cases z
  | lkd ds u => obtain ⟨e, _, _, z, _⟩ := r; subst e; cases z
  | ins C fs => obtain ⟨_, _, z, _⟩ := r; cases z
  | opq φ => obtain ⟨_, _, _, z, _⟩ := r; cases z
theorem rpc_ext {K : KTb} {x : Cell} {F : Hp} {φ : Heap → Prop} : ¬ RpC K F x (.ext φ) := fun r => (rpc_kind r).2 _ rfl
end
/-- a caught exception at a, its fields -/
def excD (K : KTb) (a d : Addr) (fs : List (Str × D)) : D := .any (.ref a) fun F => ∃ vs, F d = some (.xd vs) ∧ RpF K F vs fs
/-- a lambda's value; wd: what is known of the names that it captured -/
def lamD (K : KTb) (f : Addr) (G : NF) (be : Expr) (ws : List (Option V)) (wd : DG) : D := .any (.ref f) fun F => F f = some (LmO f G be) ∧ F G.c = some (CodeO G.c G.qual) ∧ RpG K F ws wd
section
variable {X : Cx} {W : WT}
/-! #### e.word -/
def dXf (K : KTb) (a : Addr) (cls : Value) (d : Option Addr) (n : Str) (te : DTE) : DTE := fun Γ M Q E => te Γ M (fun x M1 => ∃ (C dd : Addr) (fs : List (Str × D)) (v : D), cls = .ref C ∧ XfC K.K C ∧ PySem.W.findIn K.K (.ref C) n = some none ∧ d = some dd ∧ x = excD K a dd fs ∧ fs.lookup n = some v ∧ Q v M1) E
theorem de_xfX {a : Addr} {oe : Obj} {cls : Value} {d : Option Addr} {pn : List (Addr × Obj)} {e : Expr} {te : DTE} {pos : Pos} {n : Str} (hz : Zc cls d oe) (hf : ∃ vs, oe.data = .fields vs) (he : DE (X.suite a ((a, oe) :: pn)) W e te) (hb : attributeBase e n X.env (eval e X.env) = eval e X.env := by rfl) :
    DE (X.suite a ((a, oe) :: pn)) W (.Attribute e n pos) (dXf (kt X W) a cls d n te) := by
  refine ⟨⟨fun pins s σ H Q J ⟨Γ, M, F, E, Qd, at1, q, k⟩ => ?_⟩⟩
  by_cases hC : ∃ C, cls = .ref C ∧ XfC X.K C ∧ PySem.W.findIn X.K (.ref C) n = some none
  · obtain ⟨C, ec, T, no⟩ := hC
    refine (pe_xf T no hz hf he.pe hb).run pins s σ H Q J ?_
    refine ⟨Γ, M, F, E, _, at1, q, fun F1 H1 v dv M1 s1 c1 r1 ⟨C2, dd, fs, w, _, _, _, e4, e5, e6, q1⟩ => ?_⟩
    subst e5
    cases r1 with
    | any _ r1 =>
      obtain ⟨vs, z1, z2⟩ := r1 F1 (Same.refl _)
      obtain ⟨u, l1, l2⟩ := z2.look e6
      exact ⟨rfl, ec, dd, vs, u, e4, c1.at_xd z1, l1, k F1 H1 u w M1 s1 c1 l2 q1⟩
  · have he2 : DE (X.suite a ((a, oe) :: pn)) W e te := he
    refine attr_of hb (thn (he2.pe.run pins s σ H (fun _ _ => False) J ⟨Γ, M, F, E, _, at1, q, fun F1 H1 v dv M1 s1 c1 r1 ⟨C2, dd, fs, w, e1, e2, e3, _⟩ => absurd ⟨C2, e1, e2, e3⟩ hC⟩) fun u s1 hh => ?_)
    obtain ⟨_, _, _, _, z⟩ := hh
    exact z.elim
theorem de_xf {K : KTb} {a : Addr} {oe : Obj} {cls : Value} {d : Option Addr} {pn : List (Addr × Obj)} {e : Expr} {te : DTE} {pos : Pos} {n : Str} (hK : kt X W = K) (hz : Zc cls d oe) (hf : ∃ vs, oe.data = .fields vs) (he : DE (X.suite a ((a, oe) :: pn)) W e te) (hb : attributeBase e n X.env (eval e X.env) = eval e X.env := by rfl) :
    DE (X.suite a ((a, oe) :: pn)) W (.Attribute e n pos) (dXf K a cls d n te) := hK ▸ de_xfX hz hf he hb
/-! #### the statement -/
abbrev HdD := Addr × Nat × (Addr → Value → Option Addr → DTS)
def offD (i : Nat) (Dn : DEnds) : DEnds := { nx := fun Γ M => Dn.nx (Γ.set i none) M, rt := Dn.rt, bk := fun Γ M => Dn.bk (Γ.set i none) M, ct := fun Γ M => Dn.ct (Γ.set i none) M }
def exN (K : KTb) (Dn : DEnds) : List HdD → DXE
  | [] => Dn.ex
  | (B, i, td) :: r => fun Γ C fs M => ∃ b, PySem.W.exmOne K.K (.ref C) (.ref B) = some b ∧ (b = true → ∀ p dd, td p (.ref C) (some dd) (offD i Dn) (Γ.set i (some (excD K p dd fs))) M) ∧ (b = false → exN K Dn r Γ C fs M)
inductive HdsN (X : Cx) (T : List (Addr × Str)) : List ExceptHandler → List HdD → Prop
  | nil : HdsN X T [] []
  | cons {x n : Str} {B : Addr} {i : Nat} {td : Addr → Value → Option Addr → DTS} {b0 : Stmt} {su : List Stmt} {np ps : Pos} {hds : List ExceptHandler} {l : List HdD} (hc : Names X x (.ref B)) (hi : X.N[i]? = some n) (hn : X.env.kindOf n = some .local)
      (hsu : ∀ (p : Addr) (oe : Obj) (cls : Value) (d : Option Addr) (pn : List (Addr × Obj)), Zc cls d oe → (∃ vs, oe.data = .fields vs) → DSs (X.suite p ((p, oe) :: pn)) (noT T) (b0 :: su) (td p cls d)) (r : HdsN X T hds l) :
      HdsN X T (.ExceptHandler (some (.Name x np)) (some n) (b0 :: su) ps :: hds) ((B, i, td) :: l)
def hdU (K : KTb) : List HdD → List HdT
  | [] => []
  | (B, i, td) :: r => (.ref B, i, fun p cls d => upS K noW (td p cls d)) :: hdU K r
theorem hdU_ok {hds : List ExceptHandler} {l : List HdD} (h : HdsN X W.T hds l) : HdN X hds (hdU (kt X W) l) := by
  induction h with
  | nil => exact .nil
  | cons hc hi hn hsu _ ih => exact .cons hc hi hn (fun p oe cls d pn hz hf => (hsu p oe cls d pn hz hf).ps) ih
theorem CoS.off {K : KTb} {F : Hp} {Qd : DG → Mp → Prop} {Q : L2.St → Hp → Prop} (i : Nat) (k : CoS K F Qd Q) : CoS K F (fun Γ M => Qd (Γ.set i none) M) (fun τ G => Q (τ.set i none) G) := fun F1 H1 τ Γ M s c g q => k F1 H1 _ _ M s c (g.unset i) q
theorem ew_N {K : KTb} {W0 : WX} {D : Ends} : ∀ {l : List HdD} {F : Hp} {Dn : DEnds}, CoE K F Dn D → Ew K F Dn.ex W0 → Ew K F (exN K Dn l) (wNm K.K W0 D (hdU K l))
  | [], F, Dn, k, w => w
  | (B, i, td) :: r, F, Dn, k, w => fun F1 H1 σ Γ C d vs fs M s1 c1 g1 hd rf ⟨b, eb, yes, no⟩ => by
    refine ⟨b, eb, fun hb p np => ?_, fun hb => ew_N k w F1 H1 σ Γ C d vs fs M s1 c1 g1 hd rf (no hb)⟩
    obtain ⟨F2, s2, c2, e2⟩ := c1.known (a := d) hd trivial (fun x F' => rpc_xd) (fun kvs z => by cases z) (fun ob u z => by cases z)
    have rx : Rp K F2 (.ref p) (excD K p d fs) := .any (fun z => by cases z) fun F3 s3 => ⟨vs, s3 _ _ e2, (rf.mono s2).mono s3⟩
    have k2 := k.mono (s1.trans s2)
    exact ⟨Γ.set i (some (excD K p d fs)), M, F2, offD i Dn, ⟨c2, (g1.mono s2).set rx i, fun _ _ _ _ _ _ _ _ _ _ _ _ _ _ z => z⟩, yes hb p d, ⟨k2.nx.off i, k2.rt, k2.bk.off i, k2.ct.off i⟩⟩
def dTryN (K : KTb) (tb : DTS) (l : List HdD) : DTS := fun Dn Γ M => tb { Dn with ex := exN K Dn l } Γ M
theorem ds_tryN {body : List Stmt} {h0 : ExceptHandler} {hds : List ExceptHandler} {l : List HdD} {pos : Pos} {tb : DTS} (hst : X.stack = X.env :: X.outer) (hfr : X.env.frame = some X.env.locals) (hN : X.N.Nodup) (tk : Takes X W.w)
    (hb : ∀ (W1 : WX) (pn : List (Addr × Obj)) (xe : Value → Shared → Prop), Takes (X.tr pn xe) (WT.w ⟨W.T, W1⟩) → DSs (X.tr pn xe) ⟨W.T, W1⟩ body tb) (hh : HdsN X W.T (h0 :: hds) l) :
    DS X W (.Try body (h0 :: hds) [] [] pos) (dTryN (kt X W) tb l) :=
  ⟨psW (ps_tryN (tb := fun W1 => upS (kt X W) W1 tb) hst hfr hN tk (fun W1 pn xe t => (hb W1 pn xe t).ps) (hdU_ok hh)) fun D σ H ⟨Γ, M, F, Dn, a, q, k⟩ => ⟨Γ, M, F, { Dn with ex := exN (kt X W) Dn l }, ⟨a.c, a.g, ew_N k a.w⟩, q, ⟨k.nx, k.rt, k.bk, k.ct⟩⟩⟩
end
end DL

/-! ### lambdas as arguments, by data -/
namespace DL
open PySem PySem.Spec PyProof.Rows L2 LamX NdefX
theorem lamD_of {K : KTb} {F : Hp} {v : V} {f : Addr} {G : NF} {be : Expr} {ws : List (Option V)} {wd : DG} (r : Rp K F v (lamD K f G be ws wd)) : v = .ref f ∧ F f = some (LmO f G be) ∧ F G.c = some (CodeO G.c G.qual) ∧ RpG K F ws wd := by
  cases r with
  | any _ q => exact ⟨rfl, q F (Same.refl _)⟩
theorem lamD_rp {K : KTb} {F : Hp} {f : Addr} {G : NF} {be : Expr} {ws : List (Option V)} {wd : DG} (h1 : F f = some (LmO f G be)) (h2 : F G.c = some (CodeO G.c G.qual)) (g : RpG K F ws wd) : Rp K F (.ref f) (lamD K f G be ws wd) :=
  .any (fun z => by cases z) fun F1 s => ⟨s _ _ h1, s _ _ h2, g.mono s⟩
/-- the cells of a lambda hold what they held, wherever the frame X stands -/
def Holds (X : Cx) (G : NF) (fr : List Str) (ws : List (Option V)) : Prop := ∀ (pins : List (Addr × Obj)) (σ : L2.St) (H : Hp) (s : Shared), Inv X pins σ H s → CellsAt G.cl fr ws s.heap H
theorem Holds.start {X : Cx} {G : NF} {fr : List Str} {ws : List (Option V)} (C : CellsAt G.cl fr ws X.s_0.heap X.H_0) (hx : X.ex = []) : Holds X G fr ws := fun _ _ _ _ J => cells_later C hx J
theorem Holds.closed {X : Cx} {G : NF} (h : G.cl = []) : Holds X G [] [] := fun _ _ _ _ _ => by
  rw [h]
  exact ⟨rfl, (fun y c e => by cases e), (fun x y c e => by cases e), fun i y e => by simp at e⟩
/-- x(..), x a parameter that holds the lambda -/
def dAct (K : KTb) (j : Nat) (G : NF) (be : Expr) (ws : List (Option V)) (wd : DG) (sp : DSp) (t : DTA) : DTE := fun Γ M Q E => ∃ f, Γ[j]? = some (some (lamD K f G be ws wd)) ∧ t Γ M (fun ds M1 => sp ds M1 Q (fun C fs M2 => E Γ C fs M2)) E
section
variable {X : Cx} {W : WT} {e : Expr} {es : List Expr} {t : DTA} {j k : Nat} {a : Str} {G : NF} {be : Expr} {fr : List Str} {ws : List (Option V)} {wd : DG} {sp : DSp} {p pos : Pos}
theorem lm_at {pins : List (Addr × Obj)} {σ : L2.St} {H F : Hp} {M : Mp} {s : Shared} {f : Addr} (J : Inv X pins σ H s) (c : Cc (kt X W) M F H) (e : F f = some (LmO f G be)) : H f = some (LmO f G be) ∧ PySem.W.FnAt f s.heap := by
  have z : H f = some (LmO f G be) := c.at_ext e
  obtain ⟨pm, ctv, ho⟩ := lmO_at J.hok z
  exact ⟨z, _, _, _, _, ho⟩
theorem act_run {pins : List (Addr × Obj)} {σ : L2.St} {H F : Hp} {M : Mp} {s : Shared} {f : Addr} {us : List Value} {vs : List V} {ds : List D} {Qd : DQ} {Q : VK} {Γ : DG} {E : DXE} (LK : LmK X.prog X.w X.K X.mg X.base W.T k G be fr wd sp) (C : Holds X G fr ws) (hr : Room k X.A) (tk : Takes X W.w)
    (J : Inv X pins σ H s) (c : Cc (kt X W) M F H) (g : RpG (kt X W) F σ Γ) (ew : Ew (kt X W) F E W.w) (e1 : F f = some (LmO f G be)) (e2 : F G.c = some (CodeO G.c G.qual)) (gw : RpG (kt X W) F ws wd) (r : Vals vs us) (rd : Rps (kt X W) F vs ds) (q : sp ds M Qd (fun C fs M2 => E Γ C fs M2)) (kq : CoQ (kt X W) F Qd Q) :
    wpAny (model X.prog X.w) X.A (call (.ref f) us) (EP X pins σ Q) X.xe s := by
  refine wpAny_call (codeAny_mono (LK.run f X.A X.stack s H us vs ws Q (fun cls d H => W.w cls d σ H) ds M F Qd _ hr J.env0 (lm_at J c e1).1 (c.at_ext e2) (C pins σ H s J) r c rd gw q kq fun F1 H1 C1 d us1 fs M1 s1 c1 hd rf q1 => ew F1 H1 σ Γ C1 d us1 fs M1 s1 c1 (g.mono s1) hd rf q1) fun r1 s1 hq => ?_)
  cases r1 with
  | error er => exact passAt tk σ pins H s er s1 J hq
  | ok fl =>
    cases fl with
    | ret u => exact J.after hq
    | next => exact hq.elim
    | brk => exact hq.elim
    | cont => exact hq.elim
theorem de_actX (LK : LmK X.prog X.w X.K X.mg X.base W.T k G be fr wd sp) (C : Holds X G fr ws) (hr : Room k X.A) (tk : Takes X W.w) (ha : DA X W (e :: es) t) (hN : X.N[j]? = some a := by rfl) (hv : Vis X.env.scope a := by first | exact Or.inl rfl | exact Or.inr (Or.inl rfl) | exact Or.inr (Or.inr rfl)) (hd : (a == ("__debug__" : Str)) = false := by decide) (hcd : (a == ("__classdict__" : Str)) = false := by decide)
    (he : starEach (e :: es) X.env = (false, eval e X.env) :: starEach es X.env := by rfl) (hpl : (backTo pos (starEach es X.env)).any (·.1) = false := by rfl) :
    DE X W (.Call (.Name a p) (e :: es) [] pos) (dAct (kt X W) j G be ws wd sp t) := by
  refine ⟨⟨fun pins s σ H Q J ⟨Γ, M, F, E, Qd, at1, ⟨f, hj, q⟩, kq⟩ => ?_⟩⟩
  obtain ⟨v, ev, rv⟩ := at1.g.at_ j _ hj
  obtain ⟨rfl, e1, e2, gw⟩ := lamD_of rv
  refine wpAny_Call_Name_kw (thn ((pe_var (pos := p) (i := j) hN hv hd hcd).run pins s σ H (fun v H1 => v = .ref f ∧ H1 = H) J ⟨.ref f, ev, rfl, rfl⟩) fun u s1 ⟨v, H1, J1, r1, z1, z2⟩ => ?_)
  subst z1
  subst z2
  obtain rfl : u = Value.ref f := r1
  refine PySem.W.callWith_F (first := []) (lm_at J1 at1.c e1).2 (thn (ha.pa.run pos pins s1 σ H1 _ J1 ⟨Γ, M, F, E, _, at1, q, fun F2 H2 vs ds M2 s2 c2 r2 q2 => (⟨ds, M2, F2, s2, c2, r2, q2⟩ : ∃ ds M2 F2, Same F F2 ∧ Cc (kt X W) M2 F2 H2 ∧ Rps (kt X W) F2 vs ds ∧ sp ds M2 Qd (fun C fs M2 => E Γ C fs M2))⟩) fun us s2 ⟨vs, H2, J2, r, ds, M2, F2, sm, c2, rd, q2⟩ => ?_) he hpl
  exact ⟨(lm_at J2 c2 (sm _ _ e1)).2, act_run LK C hr tk J2 c2 (at1.g.mono sm) (at1.w.mono sm) (sm _ _ e1) (sm _ _ e2) (gw.mono sm) r rd q2 (kq.mono sm)⟩
theorem de_act0X (LK : LmK X.prog X.w X.K X.mg X.base W.T k G be fr wd sp) (C : Holds X G fr ws) (hr : Room k X.A) (tk : Takes X W.w) (hN : X.N[j]? = some a := by rfl) (hv : Vis X.env.scope a := by first | exact Or.inl rfl | exact Or.inr (Or.inl rfl) | exact Or.inr (Or.inr rfl)) (hd : (a == ("__debug__" : Str)) = false := by decide) (hcd : (a == ("__classdict__" : Str)) = false := by decide) :
    DE X W (.Call (.Name a p) [] [] pos) (dAct (kt X W) j G be ws wd sp dNil) := by
  refine ⟨⟨fun pins s σ H Q J ⟨Γ, M, F, E, Qd, at1, ⟨f, hj, q⟩, kq⟩ => ?_⟩⟩
  obtain ⟨v, ev, rv⟩ := at1.g.at_ j _ hj
  obtain ⟨rfl, e1, e2, gw⟩ := lamD_of rv
  refine wpAny_Call_Name_kw (thn ((pe_var (pos := p) (i := j) hN hv hd hcd).run pins s σ H (fun v H1 => v = .ref f ∧ H1 = H) J ⟨.ref f, ev, rfl, rfl⟩) fun u s1 ⟨v, H1, J1, r1, z1, z2⟩ => ?_)
  subst z1
  subst z2
  obtain rfl : u = Value.ref f := r1
  exact PySem.W.callWith_F0 (first := []) (lm_at J1 at1.c e1).2 (act_run (us := []) (vs := []) (ds := []) LK C hr tk J1 at1.c at1.g at1.w e1 e2 gw .nil .nil q kq)
theorem de_act {K : KTb} (hK : kt X W = K) (LK : LmK X.prog X.w X.K X.mg X.base W.T k G be fr wd sp) (C : Holds X G fr ws) (hr : Room k X.A) (tk : Takes X W.w) (ha : DA X W (e :: es) t) (hN : X.N[j]? = some a := by rfl) (hv : Vis X.env.scope a := by first | exact Or.inl rfl | exact Or.inr (Or.inl rfl) | exact Or.inr (Or.inr rfl)) (hd : (a == ("__debug__" : Str)) = false := by decide) (hcd : (a == ("__classdict__" : Str)) = false := by decide)
    (he : starEach (e :: es) X.env = (false, eval e X.env) :: starEach es X.env := by rfl) (hpl : (backTo pos (starEach es X.env)).any (·.1) = false := by rfl) :
    DE X W (.Call (.Name a p) (e :: es) [] pos) (dAct K j G be ws wd sp t) := hK ▸ de_actX LK C hr tk ha hN hv hd hcd he hpl
theorem de_act0 {K : KTb} (hK : kt X W = K) (LK : LmK X.prog X.w X.K X.mg X.base W.T k G be fr wd sp) (C : Holds X G fr ws) (hr : Room k X.A) (tk : Takes X W.w) (hN : X.N[j]? = some a := by rfl) (hv : Vis X.env.scope a := by first | exact Or.inl rfl | exact Or.inr (Or.inl rfl) | exact Or.inr (Or.inr rfl)) (hd : (a == ("__debug__" : Str)) = false := by decide) (hcd : (a == ("__classdict__" : Str)) = false := by decide) :
    DE X W (.Call (.Name a p) [] [] pos) (dAct K j G be ws wd sp dNil) := hK ▸ de_act0X LK C hr tk hN hv hd hcd
end
/-! #### a def that gets a lambda -/
section
variable {P : Program} {w : World} {K : PySem.W.Frag} {mg : Str → Option Value} {base : Heap} {T : List (Addr × Str)}
/-- the def x keeps the promise sp, told by the lambda's value and promise -/
structure Hof (P : Program) (w : World) (K : PySem.W.Frag) (mg : Str → Option Value) (base : Heap) (T : List (Addr × Str)) (x : Str) (k kl : Nat) (ps : List Str) (sp : D → DSp → DSp) : Prop where
  ex : ∃ g, mg x = some (.ref g) ∧ PySem.W.keepIn K (.ref g) = true ∧ ∀ (G : NF) (be : Expr) (fr : List Str) (wd : DG) (spL : DSp), LmK P w K mg base T kl G be fr wd spL →
    ∀ (f : Addr) (ws : List (Option V)) (A : Around) (outer : List Env) (s : Shared) (H : Hp) (us : List Value) (vs : List V) (Q : VK) (E : XK) (ds : List D) (M : Mp) (F : Hp) (Qd : DQ) (Ed : DXK), Room k A → Env0 P w K mg base A outer s H → CellsAt G.cl fr ws s.heap H → Vals vs us →
      Cc ⟨K, T⟩ M F H → Rps ⟨K, T⟩ F vs ds → sp (lamD ⟨K, T⟩ f G be ws wd) spL ds M Qd Ed → CoQ ⟨K, T⟩ F Qd Q → CoX ⟨K, T⟩ F Ed E → codeAny (model P w) A (.call (.ref g) ⟨us, []⟩) (CR (L2.CX P w) outer P w H s Q E) s
theorem Hof.mono {x : Str} {k k2 kl : Nat} {ps : List Str} {sp : D → DSp → DSp} (h : Hof P w K mg base T x k kl ps sp) (i : k ≤ k2) : Hof P w K mg base T x k2 kl ps sp := by
  obtain ⟨g, h1, h2, h3⟩ := h.ex
  exact ⟨g, h1, h2, fun G be fr wd spL LK f ws A outer s H us vs Q E ds M F Qd Ed hr => h3 G be fr wd spL LK f ws A outer s H us vs Q E ds M F Qd Ed (hr.mono i)⟩
theorem hof_of {x : Str} {st : Stmt} {N ps : List Str} {k kl : Nat} {sp : D → DSp → DSp} (Dd : DefAt K mg x st ps) (S : FnScope N ps (defScope st)) (len : ∀ L spL ds M Q E, sp L spL ds M Q E → ds.length = ps.length)
    (hbody : ∀ (G : NF) (be : Expr) (fr : List Str) (ws : List (Option V)) (wd : DG) (spL : DSp), LmK P w K mg base T kl G be fr wd spL → ∀ (g : Addr) (cdv : Value) (A : Around) (outer : List Env) (s : Shared) (H : Hp) (E : XK), CellsAt G.cl fr ws s.heap H → Room k (A.deeper (PyProof.Rows.envOfC x (defScope st) s.heap.objs.size g cdv)) →
      ∃ t, DSs (cxOf (L2.CX P w) P w K mg base N x (defScope st) g cdv A outer s H E) (wOf T E) (defBody st) t ∧
        ∀ (f : Addr) (ds : List D) (M : Mp) (Qd : DQ) (Ed : DXK), sp (lamD ⟨K, T⟩ f G be ws wd) spL ds M Qd Ed → t { nx := fun _ M' => Fin ⟨K, T⟩ Qd .non M', rt := Fin ⟨K, T⟩ Qd, ex := fun _ C fs M' => Ed C fs M' } (dstart N ds) M) : Hof P w K mg base T x (k + 1) kl ps sp := by
  obtain ⟨g, fd, h1, h2, h3⟩ := Dd.ex
  obtain ⟨oc, od, dV, kV, doc, pm, an, cdv, ct, osl, rfl, lk, hcd⟩ := h2.ex
  refine ⟨g, h1, h2.kp, fun G be fr wd spL LK f ws A outer s H us vs Q E ds M F Qd Ed hr e0 C r c rd q kq kx => ?_⟩
  have hl : vs.length = ps.length := rd.length.trans (len _ _ _ _ _ _ q)
  have kin : K.In s.heap := e0.mod.kin.keeps fun b o e => (e0.bs b o e).1
  have bd := h3 s us kin (by rw [List.append_nil, ← r.length]; exact hl)
  rw [List.append_nil] at bd
  refine run_ofS (N := N) lk hcd S hr e0 bd r hl fun hr2 => ?_
  obtain ⟨t, ht, hq⟩ := hbody G be fr ws wd spL LK g cdv A outer s H E C hr2
  refine ⟨_, ht.ps, ?_⟩
  have hpl : ps.length ≤ N.length := by have := congrArg List.length S.pre; rw [List.length_take] at this; omega
  refine ⟨dstart N ds, M, F, _, ⟨c, start_rp rd (by omega), fun F1 H1 σ Γ C1 d us1 fs M1 s1 c1 _ hd rf q1 => kx F1 H1 C1 d us1 fs M1 s1 c1 hd rf q1⟩, hq f ds M Qd Ed q, ?_, ?_, fun _ _ _ _ _ _ _ _ z => z.elim, fun _ _ _ _ _ _ _ _ z => z.elim⟩
  · intro F1 H1 σ1 Γ1 M1 s1 c1 g1 q1
    obtain ⟨F3, d2, M3, s3, c3, r3, q3⟩ := q1 F1 H1 .non c1 .non
    exact kq F3 H1 _ _ _ (s1.trans s3) c3 r3 q3
  · intro F1 H1 v d M1 s1 c1 r1 q1
    obtain ⟨F3, d2, M3, s3, c3, r3, q3⟩ := q1 F1 H1 v c1 r1
    exact kq F3 H1 _ _ _ (s1.trans s3) c3 r3 q3
end
/-! #### x(.., lambda ..: ..) -/
/-- what the frame's slots js tell -/
def capD (Γ : DG) (js : List Nat) : DG := js.map fun j => (Γ[j]?).join
theorem capD_rp {K : KTb} {F : Hp} {σ : L2.St} {Γ : DG} (g : RpG K F σ Γ) (js : List Nat) : RpG K F (js.map (slotAt σ)) (capD Γ js) := by
  refine ⟨by simp [capD], fun i d h => ?_⟩
  unfold capD at h
  rw [List.getElem?_map] at h
  cases ej : js[i]? with
  | none => rw [ej] at h; cases h
  | some j =>
    rw [ej] at h
    have h : (Γ[j]?).join = some d := by simpa using h
    cases eg : Γ[j]? with
    | none => rw [eg] at h; cases h
    | some o =>
      rw [eg] at h
      have h : o = some d := h
      subst h
      obtain ⟨v, e1, r⟩ := g.at_ j d eg
      exact ⟨v, by rw [List.getElem?_map, ej]; exact congrArg some (slotAt_of e1), r⟩
/-- where lambdas of the def's text are made: its code object's table -/
structure LamAt (X : Cx) (T : List (Addr × Str)) : Prop where
  ex : ∃ c Pt, TabB X.base X.mg c Pt ∧ X.env.code = .ref c ∧ (Pt, X.env.qual ++ "<lambda>") ∈ T ∧ ∀ p ∈ T, p.1 = Pt → p.2 = X.env.qual ++ "<lambda>"
theorem Cc.lam {K : KTb} {M : Mp} {F H H1 : Hp} {f c : Addr} {G : NF} {be : Expr} (cc : Cc K M F H) (x : ExtN H H1) (t : Tabs K.T H1) (e1 : H1 f = some (LmO f G be)) (e2 : H1 c = some (CodeO c G.qual)) : ∃ F1, Same F F1 ∧ Cc K M F1 H1 ∧ F1 f = some (LmO f G be) ∧ F1 c = some (CodeO c G.qual) := by
  have c1 := cc.ext x t
  obtain ⟨F1, s1, c2, z1⟩ := c1.known e1 trivial (fun x F' => rpc_ext) (fun kvs z => by cases z) (fun ob u z => by cases z)
  obtain ⟨F2, s2, c3, z2⟩ := c2.known e2 trivial (fun x F' => rpc_ext) (fun kvs z => by cases z) (fun ob u z => by cases z)
  exact ⟨F2, s1.trans s2, c3, s2 _ _ z1, z2⟩
/-- the reading: sp the def's promise, spL the lambda's -/
def dHof (K : KTb) (sp : D → DSp → DSp) (mk : Addr → NF) (be : Expr) (js : List Nat) (spL : DG → DSp) (t : DTA) : DTE := fun Γ M Q E => t Γ M (fun ds M1 => ∀ f c ws, sp (lamD K f (mk c) be ws (capD Γ js)) (spL (capD Γ js)) (ds ++ [lamD K f (mk c) be ws (capD Γ js)]) M1 Q (fun C fs M2 => E Γ C fs M2)) E
section
variable {X : Cx} {W : WT} {e : Expr} {es : List Expr} {ta : TA} {k kl : Nat} {x : Str} {ps fr : List Str} {sp : D → DSp → DSp} {be : Expr} {params : Arguments} {scope : Scope} {js : List Nat} {spL : DG → DSp} {p pos lpos : Pos}
theorem pe_hof {mk : Addr → NF} {cl : List (Str × Addr)} (Hf : Hof X.prog X.w X.K X.mg X.base W.T x k kl ps sp) (LK : ∀ c wd, LmK X.prog X.w X.K X.mg X.base W.T kl (mk c) be fr wd (spL wd)) (hcl : ∀ c, (mk c).cl = cl) (cp : X.Ok → Caps X cl fr js) (hr : Room k X.A) (tk : Takes X W.w) (ha : PA X (e :: es) ta) (hg : Gl X x) (hdb : (x == ("__debug__" : Str)) = false)
    (he : starEach (e :: es) X.env = (false, eval e X.env) :: starEach es X.env) (hpl : (backTo pos (starEach es X.env)).any (·.1) = false) :
    PE X (.Call (.Name x p) (e :: es) [] pos) (fun σ H Q => ta σ H fun vs H2 => ∃ (f c : Addr) (ds : List D) (M : Mp) (F : Hp) (Γ : DG) (E : DXE) (Qd : DQ), At (kt X W) W.w σ H2 Γ M F E ∧ Rps (kt X W) F vs ds ∧ sp (lamD (kt X W) f (mk c) be (js.map (slotAt σ)) (capD Γ js)) (spL (capD Γ js)) ds M Qd (fun C fs M2 => E Γ C fs M2) ∧ CoQ (kt X W) F Qd Q) := by
  obtain ⟨g, h1, h2, h3⟩ := Hf.ex
  refine ⟨fun pins s σ H Q J q => ?_⟩
  refine wpAny_Call_Name_kw (ld_glob J hg h1 ?_ hdb)
  refine PySem.W.callWith_K (h₀ := X.base) J.ok.mod.kin h2 (thn (ha.run pos pins s σ H _ J q) fun us s1 ⟨vs, H1, J1, r, f, c, ds, M, F, Γ, E, Qd, a, rd, q1, kq⟩ => ⟨J1.kIn, ?_⟩) he hpl
  refine wpAny_call (codeAny_mono (h3 (mk c) be fr (capD Γ js) (spL (capD Γ js)) (LK c _) f (js.map (slotAt σ)) X.A X.stack s1 H1 us vs Q (fun cls d H => W.w cls d σ H) ds M F Qd _ hr J1.env0 (by rw [hcl]; exact cells_of J1 (cp J1.ok)) r a.c rd q1 kq fun F1 H2 C1 d us1 fs M1 s2 c1 hd rf q2 => a.w F1 H2 σ Γ C1 d us1 fs M1 s2 c1 (a.g.mono s2) hd rf q2) fun r1 s2 hq => ?_)
  cases r1 with
  | error er => exact passAt tk σ pins H1 s1 er s2 J1 hq
  | ok fl =>
    cases fl with
    | ret u => exact J1.after hq
    | next => exact hq.elim
    | brk => exact hq.elim
    | cont => exact hq.elim
theorem lam_tail {σ : L2.St} {H : Hp} {vs : List V} {ds : List D} {Q : VK} {Γ : DG} {M : Mp} {F : Hp} {E : DXE} {Qd : DQ} (a : At (kt X W) W.w σ H Γ M F E) (rd : Rps (kt X W) F vs ds) (kq : CoQ (kt X W) F Qd Q)
    (q : ∀ f c ws, sp (lamD (kt X W) f (lamF X params scope c) be ws (capD Γ js)) (spL (capD Γ js)) (ds ++ [lamD (kt X W) f (lamF X params scope c) be ws (capD Γ js)]) M Qd (fun C fs M2 => E Γ C fs M2)) :
    tLm W.T (X.env.qual ++ "<lambda>") (lamF X params scope) be σ H (fun v H2 => ∃ (f c : Addr) (ds' : List D) (M : Mp) (F : Hp) (Γ : DG) (E : DXE) (Qd : DQ), At (kt X W) W.w σ H2 Γ M F E ∧ Rps (kt X W) F (vs ++ [v]) ds' ∧ sp (lamD (kt X W) f (lamF X params scope c) be (js.map (slotAt σ)) (capD Γ js)) (spL (capD Γ js)) ds' M Qd (fun C fs M2 => E Γ C fs M2) ∧ CoQ (kt X W) F Qd Q) := by
  refine ⟨a.c.tb, fun f c H1 x1 t1 n1 e1 e2 => ?_⟩
  obtain ⟨F1, s1, c1, z1, z2⟩ := a.c.lam (G := lamF X params scope c) x1 t1 e1 e2
  exact ⟨f, c, _, M, F1, Γ, E, Qd, a.next s1 c1, (rd.mono s1).append (.cons (lamD_rp z1 z2 (capD_rp (a.g.mono s1) js)) .nil), q f c _, kq.mono s1⟩
/-- x(lambda ..: ..) -/
theorem de_hof0 (Hf : Hof X.prog X.w X.K X.mg X.base W.T x k kl ps sp) (LA : LamAt X W.T) (LK : ∀ c wd, LmK X.prog X.w X.K X.mg X.base W.T kl (lamF X params scope c) be fr wd (spL wd)) (hndf : ndefB X.env.scope scope fr = true) (hjs : js.map (fun j => X.N[j]?) = fr.map some) (hr : Room k X.A) (tk : Takes X W.w) (hdf : defaultsOf params X.env = ([], []))
    (hg : Gl X x := by rfl) (hdb : (x == ("__debug__" : Str)) = false := by decide)
    (he : starEach [.Lambda params be scope lpos] X.env = (false, eval (.Lambda params be scope lpos) X.env) :: starEach [] X.env := by rfl) (hpl : (backTo pos (starEach [] X.env)).any (·.1) = false := by rfl) :
    DE X W (.Call (.Name x p) [.Lambda params be scope lpos] [] pos) (dHof (kt X W) sp (lamF X params scope) be js spL dNil) := by
  obtain ⟨c, Pt, TB, hc, hm, hu⟩ := LA.ex
  have hl := pe_lam (be := be) (pos := lpos) TB hc hm hu hdf (ndef_free hndf)
  refine ⟨peW (pe_hof (mk := lamF X params scope) (fr := fr) (js := js) Hf LK (fun _ => rfl) (fun ok => Caps.made ok (ndef_free hndf) (ndef_fr hndf) hjs) hr tk (pa_cons hl pa_nil he) hg hdb he hpl) fun σ H Q ⟨Γ, M, F, E, Qd, a, q, kq⟩ => ?_⟩
  exact lam_tail (vs := []) (ds := []) a .nil kq q
/-- x(e, lambda ..: ..) -/
theorem de_hof1 {te : DTE} (Hf : Hof X.prog X.w X.K X.mg X.base W.T x k kl ps sp) (LA : LamAt X W.T) (LK : ∀ c wd, LmK X.prog X.w X.K X.mg X.base W.T kl (lamF X params scope c) be fr wd (spL wd)) (hndf : ndefB X.env.scope scope fr = true) (hjs : js.map (fun j => X.N[j]?) = fr.map some) (hr : Room k X.A) (tk : Takes X W.w) (hdf : defaultsOf params X.env = ([], [])) (h1 : DE X W e te)
    (hg : Gl X x := by rfl) (hdb : (x == ("__debug__" : Str)) = false := by decide)
    (he : starEach [e, .Lambda params be scope lpos] X.env = (false, eval e X.env) :: starEach [.Lambda params be scope lpos] X.env := by rfl) (he2 : starEach [.Lambda params be scope lpos] X.env = (false, eval (.Lambda params be scope lpos) X.env) :: starEach [] X.env := by rfl) (hpl : (backTo pos (starEach [.Lambda params be scope lpos] X.env)).any (·.1) = false := by rfl) :
    DE X W (.Call (.Name x p) [e, .Lambda params be scope lpos] [] pos) (dHof (kt X W) sp (lamF X params scope) be js spL (dCons te dNil)) := by
  obtain ⟨c, Pt, TB, hc, hm, hu⟩ := LA.ex
  have hl := pe_lam (be := be) (pos := lpos) TB hc hm hu hdf (ndef_free hndf)
  refine ⟨peW (pe_hof (mk := lamF X params scope) (fr := fr) (js := js) Hf LK (fun _ => rfl) (fun ok => Caps.made ok (ndef_free hndf) (ndef_fr hndf) hjs) hr tk (pa_cons h1.pe (pa_cons hl pa_nil he2) he) hg hdb he hpl) fun σ H Q ⟨Γ, M, F, E, Qd, a, q, kq⟩ => ?_⟩
  refine ⟨Γ, M, F, E, _, a, q, fun F1 H1 v d M1 s1 c1 r1 q1 => ?_⟩
  exact lam_tail (vs := [v]) (ds := [d]) (a.next s1 c1) (.cons r1 .nil) (kq.mono s1) q1
end
end DL

/-! ### defs that hold lambdas; the end with their tables -/
namespace DL
open PySem PySem.Spec PyProof.Rows L2 LamX NdefX
section
variable {P : Program} {w : World} {K : PySem.W.Frag} {mg : Str → Option Value} {base : Heap} {T : List (Addr × Str)}
theorem LmK.mono {k k2 : Nat} {G : NF} {be : Expr} {fr : List Str} {wd : DG} {sp : DSp} (h : LmK P w K mg base T k G be fr wd sp) (i : k ≤ k2) : LmK P w K mg base T k2 G be fr wd sp :=
  ⟨fun f A outer s H us vs ws Q E ds M F Qd Ed hr => h.run f A outer s H us vs ws Q E ds M F Qd Ed (hr.mono i)⟩
/-- the name of a lambda's code object -/
def lq (x : Str) (st : Stmt) : Str := (PyProof.Rows.envOfC x (defScope st) 0 0 .none).qual ++ "<lambda>"
/-- as FunK, the code object told -/
structure FunC (K : PySem.W.Frag) (x : Str) (st : Stmt) (f : Addr) (fd : FuncData) (cdv : Value) : Prop where
  ex : ∃ (oc : Value) (od : Option Addr) (dV kV doc pm : Value) (an : Option Addr) (ct : Value) (osl : Array (Option Value)),
    fd = PySem.W.fnOf x x (defArgs st) (defBody st) (defScope st) dV kV doc pm an cdv ct ∧ K.lookup f = some ⟨oc, od, .func fd, osl⟩ ∧ PySem.W.codeIn K cdv x = true
  kp : PySem.W.keepIn K (.ref f) = true
/-- the table of the def's lambdas -/
structure TabC (mg : Str → Option Value) (base : Heap) (T : List (Addr × Str)) (x : Str) (st : Stmt) (cdv : Value) : Prop where
  ex : ∃ c Pt, TabB base mg c Pt ∧ cdv = .ref c ∧ (Pt, lq x st) ∈ T ∧ ∀ p ∈ T, p.1 = Pt → p.2 = lq x st
theorem TabC.at_ {x : Str} {st : Stmt} {cdv : Value} (h : TabC mg base T x st cdv) {N : List Str} {f : Addr} {A : Around} {outer : List Env} {s : Shared} {H : Hp} {E : XK} : LamAt (cxOf (L2.CX P w) P w K mg base N x (defScope st) f cdv A outer s H E) T := by
  obtain ⟨c, Pt, h1, h2, h3, h4⟩ := h.ex
  exact ⟨⟨c, Pt, h1, h2, h3, h4⟩⟩
structure DefT (K : PySem.W.Frag) (mg : Str → Option Value) (base : Heap) (T : List (Addr × Str)) (x : Str) (st : Stmt) (ps : List Str) : Prop where
  ex : ∃ f fd cdv, mg x = some (.ref f) ∧ FunC K x st f fd cdv ∧ Binds K fd ps [] ∧ TabC mg base T x st cdv
/-- a def's promise from its body, the code object told -/
theorem FunC.ok {x : Str} {st : Stmt} {f : Addr} {fd : FuncData} {cdv : Value} {N ps : List Str} {k : Nat} {sp : DSp} (Fn : FunC K x st f fd cdv) (S : FnScope N ps (defScope st)) (len : ∀ ds M Q E, sp ds M Q E → ds.length = ps.length)
    (hbody : ∀ (A : Around) (outer : List Env) (s : Shared) (H : Hp) (E : XK), Room k (A.deeper (PyProof.Rows.envOfC x (defScope st) s.heap.objs.size f cdv)) → ∃ t, DSs (cxOf (L2.CX P w) P w K mg base N x (defScope st) f cdv A outer s H E) (wOf T E) (defBody st) t ∧
      ∀ (ds : List D) (M : Mp) (Qd : DQ) (Ed : DXK), sp ds M Qd Ed → t { nx := fun _ M' => Fin ⟨K, T⟩ Qd .non M', rt := Fin ⟨K, T⟩ Qd, ex := fun _ C fs M' => Ed C fs M' } (dstart N ds) M) : FnOk P w K mg base (L2.CX P w) (k + 1) f fd ps (spUp ⟨K, T⟩ sp) := by
  have hlen : ∀ vs H Q E, spUp ⟨K, T⟩ sp vs H Q E → vs.length = ps.length := fun vs H Q E ⟨ds, M, F, Qd, Ed, c, r, h, _, _⟩ => r.length.trans (len _ _ _ _ h)
  obtain ⟨oc, od, dV, kV, doc, pm, an, ct, osl, rfl, lk, hcd⟩ := Fn.ex
  refine fn_of lk hcd S hlen fun A outer s H vs Q E hr h => ?_
  have hl := hlen _ _ _ _ h
  obtain ⟨ds, M, F, Qd, Ed, c, r, h, kq, kx⟩ := h
  obtain ⟨t, ht, hb⟩ := hbody A outer s H E hr
  refine ⟨_, ht.ps, ?_⟩
  have hpl : ps.length ≤ N.length := by have := congrArg List.length S.pre; rw [List.length_take] at this; omega
  refine ⟨dstart N ds, M, F, _, ⟨c, start_rp r (by omega), fun F1 H1 σ Γ C d us fs M1 s1 c1 _ hd rf q => kx F1 H1 C d us fs M1 s1 c1 hd rf q⟩, hb ds M Qd Ed h, ?_, ?_, fun _ _ _ _ _ _ _ _ z => z.elim, fun _ _ _ _ _ _ _ _ z => z.elim⟩
  · intro F1 H1 σ1 Γ1 M1 s1 c1 g1 q1
    obtain ⟨F3, d2, M3, s3, c3, r3, q3⟩ := q1 F1 H1 .non c1 .non
    exact kq F3 H1 _ _ _ (s1.trans s3) c3 r3 q3
  · intro F1 H1 v d M1 s1 c1 r1 q1
    obtain ⟨F3, d2, M3, s3, c3, r3, q3⟩ := q1 F1 H1 v c1 r1
    exact kq F3 H1 _ _ _ (s1.trans s3) c3 r3 q3
theorem DefT.ok {x : Str} {st : Stmt} {N ps : List Str} {k : Nat} {sp : DSp} (Fn : DefT K mg base T x st ps) (S : FnScope N ps (defScope st)) (len : ∀ ds M Q E, sp ds M Q E → ds.length = ps.length)
    (hbody : ∀ (f : Addr) (cdv : Value) (A : Around) (outer : List Env) (s : Shared) (H : Hp) (E : XK), LamAt (cxOf (L2.CX P w) P w K mg base N x (defScope st) f cdv A outer s H E) T → Room k (A.deeper (PyProof.Rows.envOfC x (defScope st) s.heap.objs.size f cdv)) → ∃ t, DSs (cxOf (L2.CX P w) P w K mg base N x (defScope st) f cdv A outer s H E) (wOf T E) (defBody st) t ∧
      ∀ (ds : List D) (M : Mp) (Qd : DQ) (Ed : DXK), sp ds M Qd Ed → t { nx := fun _ M' => Fin ⟨K, T⟩ Qd .non M', rt := Fin ⟨K, T⟩ Qd, ex := fun _ C fs M' => Ed C fs M' } (dstart N ds) M) : Dfk P w K mg base T x (k + 1) ps sp := by
  obtain ⟨f, fd, cdv, h1, h2, h3, h4⟩ := Fn.ex
  exact ⟨f, fd, h2.ok S len fun A outer s H E hr => hbody f cdv A outer s H E h4.at_ hr, h1, h2.kp, h3⟩
/-- the law itself -/
structure FunT (K : PySem.W.Frag) (mg : Str → Option Value) (base : Heap) (T : List (Addr × Str)) (x : Str) (st : Stmt) (f : Addr) (fd : FuncData) : Prop where
  ex : ∃ cdv, FunC K x st f fd cdv ∧ TabC mg base T x st cdv
theorem FunT.okS {x : Str} {st : Stmt} {f : Addr} {fd : FuncData} {N ps : List Str} {k : Nat} {sp : DSp} (Fn : FunT K mg base T x st f fd) (S : FnScope N ps (defScope st)) (len : ∀ ds M Q E, sp ds M Q E → ds.length = ps.length)
    (hbody : ∀ (cdv : Value) (A : Around) (outer : List Env) (s : Shared) (H : Hp) (E : XK), LamAt (cxOf (L2.CX P w) P w K mg base N x (defScope st) f cdv A outer s H E) T → Room k (A.deeper (PyProof.Rows.envOfC x (defScope st) s.heap.objs.size f cdv)) → ∃ t, DSs (cxOf (L2.CX P w) P w K mg base N x (defScope st) f cdv A outer s H E) (wOf T E) (defBody st) t ∧
      ∀ (ds : List D) (M : Mp) (Qd : DQ) (Ed : DXK), sp ds M Qd Ed → t { nx := fun _ M' => Fin ⟨K, T⟩ Qd .non M', rt := Fin ⟨K, T⟩ Qd, ex := fun _ C fs M' => Ed C fs M' } (dstart N ds) M) : FnOk P w K mg base (L2.CX P w) (k + 1) f fd ps (spUp ⟨K, T⟩ sp) := by
  obtain ⟨cdv, h1, h2⟩ := Fn.ex
  exact h1.ok S len fun A outer s H E hr => hbody cdv A outer s H E h2.at_ hr
/-- an exception's class that a try with `except B1 as e: .. except B2 as e: ..` lands -/
structure ExW (K : PySem.W.Frag) (B1 B2 C : Addr) : Prop where
  one : ∃ b, PySem.W.exmOne K (.ref C) (.ref B1) = some b ∧ (b = false → PySem.W.exmOne K (.ref C) (.ref B2) = some true)
  fld : XfC K C
  nof : PySem.W.findIn K (.ref C) "word" = some none
theorem takes_lam {N : List Str} {G : NF} {f : Addr} {A : Around} {outer : List Env} {s : Shared} {H : Hp} {E : XK} : Takes (ncx (L2.CX P w) P w K mg base N G f A outer s H E) (wOf T E).w := takes_of rfl rfl rfl rfl
end
/-! #### the end -/
/-- the def x stands with an empty table -/
def TabOf (mg : Str → Option Value) (h : Heap) (x : Str) : Prop := ∃ (a : Addr) (o : Obj) (fd : FuncData) (c Pt : Addr), mg x = some (.ref a) ∧ h.get? a = some o ∧ o.data = .func fd ∧ fd.code = .ref c ∧ PySem.W.CodeHd h c Pt ∧ h.get? Pt = some { cls := .none, data := .fields #[] }
theorem walk_ofD {l : PySem.W.OpenLaw} {n k : Nat} {q : Program} {loose : List Str} {XP : (Str → Option Value) → Heap → Prop} {YP : World → Heap → Prop} {d : DefRec} {K : Params → PySem.W.Frag} {CX : World → CXT} {x : Str}
    (hn : l.most = some n) (hn2 : n ≤ sizeLine) (hdf : d.params.defaults = []) (hr : Room k callerA) (hY : ∀ (w : World) (h : Heap), YP w h → (K w.params).In h)
    (F : ∀ (w : World) (mg : Str → Option Value) (fa : Addr) (h : Heap), (K w.params).In h → h.Ns mainGlobals mg → mg d.name = some (.ref fa) → (∀ y, ((recsOf q).any fun e => e.name == y) = true → TabOf mg h y) → LawAtS l w (K w.params) (CX w) k n x mg fa h)
    (hCX : ∀ (w : World) (H : Hp) (s : Shared) (e : Value) (s' : Shared), CX w [] H s (fun _ _ _ => False) e s' → False) :
    PySem.W.WalkO q loose XP YP l.row.toRowW d [] (fun f vs => PySem.call f vs) := by
  refine Att.attach_callB hn hdf fun w s₀ s₁ mg mb fa o pm cd doc a vs ns G Y ho hd hcd hmg hobj hints hlen hbits hg => ?_
  have kin := hY w _ Y
  have tabs : ∀ y, ((recsOf q).any fun e => e.name == y) = true → TabOf mg s₁.heap y := fun y hy => by
    obtain ⟨dL, hm, hn1⟩ := List.any_eq_true.mp hy
    obtain rfl : dL.name = y := beq_iff_eq.mp hn1
    obtain ⟨a1, o1, fd1, c1, P1, h1, h2, h3, h4, h5, h6⟩ := G.T.tab dL hm
    exact ⟨a1, o1, fd1, c1, P1, h1, h2, h3, h4, PySem.W.CodeHd.of h5 h6, h6.2⟩
  obtain ⟨fd, cs, sp, hT, nT, C, hb, hsp, hF⟩ := F w mg fa _ kin G.T.g hmg tabs
  exact law_callTs kin G.T.g G.T.b G.T.builtins G.T.nolimit hg hT nT C G.T.bmain hobj hints (Nat.le_trans hlen hn2) hr hF hb (fun H hH hS => hsp H a ns hlen hbits hH hS) fun H e s' => hCX w H s₁ e s'
/-- .. K tells where the table lies -/
theorem TabOf.at_ {K : PySem.W.Frag} {mg : Str → Option Value} {h : Heap} {y : Str} {f c Pt : Addr} {oc ec : Value} {od dc : Option Addr} {fd : FuncData} {osl slc : Array (Option Value)} {vs : Array Value} (t : TabOf mg h y) (kin : K.In h) (m : mg y = some (.ref f)) (l : K.lookup f = some ⟨oc, od, .func fd, osl⟩) (ec' : fd.code = .ref c)
    (lc : K.lookup c = some ⟨ec, dc, .fields vs, slc⟩) (lp : vs[11]? = some (.ref Pt)) : PySem.W.CodeHd h c Pt ∧ h.get? Pt = some { cls := .none, data := .fields #[] } := by
  obtain ⟨a, o, fd1, c1, P1, h1, h2, h3, h4, h5, h6⟩ := t
  rw [m] at h1
  cases h1
  have g1 := kin _ _ l
  rw [h2] at g1
  cases g1
  cases h3
  rw [ec'] at h4
  cases h4
  have g2 := kin _ _ lc
  have h5' := h5
  obtain ⟨o5, us, file, tf, flags, tg, inF, text, tt, q1, q2, q3, q4, _⟩ := h5'
  rw [g2] at q1
  cases q1
  cases q3
  rw [lp] at q4
  cases q4
  exact ⟨h5, h6⟩
theorem tabC_mk {mg : Str → Option Value} {base : Heap} {cs : List (Addr × Addr)} {q : Addr → Str} {x : Str} {st : Stmt} {c Pt : Addr} (TB : ∀ p ∈ cs, TabB base mg p.1 p.2) (hm : (c, Pt) ∈ cs) (hq : q Pt = lq x st) : TabC mg base (cs.map fun p => (p.2, q p.2)) x st (.ref c) :=
  ⟨⟨c, Pt, TB _ hm, rfl, List.mem_map.mpr ⟨_, hm, by rw [hq]⟩, fun p hp e => by
    obtain ⟨d, _, rfl⟩ := List.mem_map.mp hp
    show q d.2 = _
    rw [show d.2 = Pt from e, hq]⟩⟩
theorem lawInT {K : PySem.W.Frag} {H : Hp} {a : Addr} {ns : List Int} {sp : DSp} {cs : List (Addr × Addr)} {q : Addr → Str} (hsp : ∀ (ns : List Int) (M : Mp) (Q : DQ), ns.length ≤ 63 → (∀ M2, Q (.bl true) M2) → sp [.scr ns] M Q (fun _ _ _ => False)) (hl : ns.length ≤ 63) (hT : ∀ p ∈ cs, H p.2 = some (.tbl #[])) (hS : SqL K H a (ns.map V.int)) :
    spUp ⟨K, cs.map fun p => (p.2, q p.2)⟩ sp [.ref a] H (fun v _ => v = .bl true) (fun _ _ _ => False) := by
  have tb : Tabs (cs.map fun p => (p.2, q p.2)) H := fun p hp => by
    obtain ⟨c, hc, rfl⟩ := List.mem_map.mp hp
    exact TabS.nil (hT c hc)
  have go : ∀ F : Hp, (∀ b o, F b = some o → Fk o) → (∀ b o, F b = some o → H b = some o) → Rp ⟨K, cs.map fun p => (p.2, q p.2)⟩ F (.ref a) (.scr ns) → spUp ⟨K, cs.map fun p => (p.2, q p.2)⟩ sp [.ref a] H (fun v _ => v = .bl true) (fun _ _ _ => False) := fun F f1 f2 r =>
    ⟨[.scr ns], fun _ => none, F, fun d _ => d = .bl true, fun _ _ _ => False, ⟨tb, f1, fun b o e => .inl (f2 b o e), fun b c e => nomatch e⟩, .cons r .nil, hsp ns _ _ hl (fun _ => rfl), fun F1 H1 v d M1 _ _ r1 e => by
      subst e
      cases r1
      rfl, fun _ _ _ _ _ _ _ _ _ _ _ z => z.elim⟩
  have one : ∀ o, H a = some o → Fk o → Rp ⟨K, cs.map fun p => (p.2, q p.2)⟩ (fun b => if b = a then some o else none) (.ref a) (.scr ns) → spUp ⟨K, cs.map fun p => (p.2, q p.2)⟩ sp [.ref a] H (fun v _ => v = .bl true) (fun _ _ _ => False) := fun o ho hk r => by
    refine go _ (fun b u e => ?_) (fun b u e => ?_) r
    · by_cases hb : b = a
      · rw [if_pos hb] at e
        cases e
        exact hk
      · rw [if_neg hb] at e
        cases e
    · by_cases hb : b = a
      · rw [if_pos hb] at e
        cases e
        rw [hb]
        exact ho
      · rw [if_neg hb] at e
        cases e
  rcases hS with (z | ⟨ob, z⟩) | z
  · exact one _ z trivial (.scr (.inl (if_pos rfl)))
  · exact one _ z trivial (.scr (.inr (.inl ⟨ob, if_pos rfl⟩)))
  · exact go (fun _ => none) (fun b o e => nomatch e) (fun b o e => nomatch e) (.scr (.inr (.inr z)))
end DL

namespace DL
open PySem L2
section
variable {X : Cx} {W : WT} {a b c d f : Expr} {pos : Pos}
/-- a op b op c op d op f -/
def tChain4 (r r' r2 r3 : R2) (ta tb tc td tf : TE) : TE := fun σ H Q => ta σ H fun x H1 => tb σ H1 fun y H2 => r x y H2 fun z H3 => ∃ k, z = .bl k ∧
  (if k = true then tc σ H3 fun w H4 => r' y w H4 fun z H5 => ∃ k, z = .bl k ∧ (if k = true then td σ H5 fun u H6 => r2 w u H6 fun z H7 => ∃ k, z = .bl k ∧ (if k = true then tf σ H7 fun t H8 => r3 u t H8 Q else Q (.bl false) H7) else Q (.bl false) H5) else Q (.bl false) H3)
open PyProof.Rows in
theorem pe_chain4 {op op' op2 op3 : CmpOp} {r r' r2 r3 : R2} {ta tb tc td tf : TE} (ho : OpR X (compareOp op) r) (ho' : OpR X (compareOp op') r') (ho2 : OpR X (compareOp op2) r2) (ho3 : OpR X (compareOp op3) r3) (ha : PE X a ta) (hb : PE X b tb) (hc : PE X c tc) (hd : PE X d td) (hf : PE X f tf)
    (hm : lastMarks [op, op', op2, op3] [b, c, d, f] = false := by with_unfolding_all rfl) : PE X (.Compare a [op, op', op2, op3] [b, c, d, f] pos) (tChain4 r r' r2 r3 ta tb tc td tf) := by
  refine ⟨fun pins s σ H Q J h => ?_⟩
  refine Compare_chain (thn (ha.run pins s σ H _ J h) fun v s1 ⟨x, H1, J1, v1, q1⟩ => chain_link (thn (hb.run pins s1 σ H1 _ J1 q1) fun u s2 ⟨y, H2, J2, v2, q2⟩ =>
    thn (ho pins s2 σ H2 x y v u _ J2 v1 v2 q2) fun e0 s3 ⟨z, H3, J3, v3, k, e, q3⟩ => ?_)) hm
  subst e
  cases v3
  refine wpAny_truthy_bool ?_
  cases k with
  | false => exact ite_ff ⟨.bl false, H3, J3, rfl, q3⟩
  | true =>
    refine ite_tt (chain_link (thn (hc.run pins s3 σ H3 _ J3 q3) fun w1 s4 ⟨z4, H4, J4, v4, q4⟩ => thn (ho' pins s4 σ H4 y z4 u w1 _ J4 v2 v4 q4) fun e1 s5 ⟨z5, H5, J5, v5, k5, e5, q5⟩ => ?_))
    subst e5
    cases v5
    refine wpAny_truthy_bool ?_
    cases k5 with
    | false => exact ite_ff ⟨.bl false, H5, J5, rfl, q5⟩
    | true =>
      refine ite_tt (chain_link (thn (hd.run pins s5 σ H5 _ J5 q5) fun w2 s6 ⟨z6, H6, J6, v6, q6⟩ => thn (ho2 pins s6 σ H6 z4 z6 w1 w2 _ J6 v4 v6 q6) fun e2 s7 ⟨z7, H7, J7, v7, k7, e7, q7⟩ => ?_))
      subst e7
      cases v7
      refine wpAny_truthy_bool ?_
      cases k7 with
      | false => exact ite_ff ⟨.bl false, H7, J7, rfl, q7⟩
      | true => exact ite_tt (chain_last (thn (hf.run pins s7 σ H7 _ J7 q7) fun w3 s8 ⟨z8, H8, J8, v8, q8⟩ => ho3 pins s8 σ H8 z6 z8 w2 w3 Q J8 v6 v8 q8))
def dChain4 (rd rd' rd2 rd3 : D2) (ta tb tc td tf : DTE) : DTE := fun Γ M Q E => ta Γ M (fun x M1 => tb Γ M1 (fun y M2 => rd x y M2 (fun z M3 => ∃ k, z = .bl k ∧
  (if k = true then tc Γ M3 (fun w M4 => rd' y w M4 (fun z M5 => ∃ k, z = .bl k ∧ (if k = true then td Γ M5 (fun u M6 => rd2 w u M6 (fun z M7 => ∃ k, z = .bl k ∧ (if k = true then tf Γ M7 (fun t M8 => rd3 u t M8 Q) E else Q (.bl false) M7))) E else Q (.bl false) M5))) E else Q (.bl false) M3))) E) E
theorem upChain4 {r r' r2 r3 : R2} {rd rd' rd2 rd3 : D2} {ta tb tc td tf : DTE} {σ : St} {H : Hp} {Q : VK} (hr : Real2 (kt X W) r rd) (hr' : Real2 (kt X W) r' rd') (hr2 : Real2 (kt X W) r2 rd2) (hr3 : Real2 (kt X W) r3 rd3) (h : upE (kt X W) W.w (dChain4 rd rd' rd2 rd3 ta tb tc td tf) σ H Q) :
    tChain4 r r' r2 r3 (upE (kt X W) W.w ta) (upE (kt X W) W.w tb) (upE (kt X W) W.w tc) (upE (kt X W) W.w td) (upE (kt X W) W.w tf) σ H Q := by
  obtain ⟨Γ, M, F, E, Qd, a, q, k⟩ := h
  refine ⟨Γ, M, F, E, _, a, q, fun F1 H1 v d M1 s1 c1 r1 q1 => ⟨Γ, M1, F1, E, _, a.next s1 c1, q1, fun F2 H2 w e M2 s2 c2 v2 q2 => hr F2 H2 M2 v w d e _ _ c2 (r1.mono s2) v2 q2 fun F3 H3 z dz M3 s3 c3 v3 ⟨b, eb, q3⟩ => ?_⟩⟩
  subst eb
  cases v3
  refine ⟨b, rfl, ?_⟩
  have s13 := (s1.trans s2).trans s3
  cases b with
  | false =>
    rw [if_neg Bool.false_ne_true] at q3 ⊢
    exact k F3 H3 _ _ M3 s13 c3 (.bl false) q3
  | true =>
    rw [if_pos rfl] at q3 ⊢
    refine ⟨Γ, M3, F3, E, _, a.next s13 c3, q3, fun F4 H4 u f M4 s4 c4 v4 q4 => hr' F4 H4 M4 w u e f _ _ c4 (v2.mono (s3.trans s4)) v4 q4 fun F5 H5 z5 d5 M5 s5 c5 v5 ⟨b5, eb5, q5⟩ => ?_⟩
    subst eb5
    cases v5
    refine ⟨b5, rfl, ?_⟩
    have s15 := (s13.trans s4).trans s5
    cases b5 with
    | false =>
      rw [if_neg Bool.false_ne_true] at q5 ⊢
      exact k F5 H5 _ _ M5 s15 c5 (.bl false) q5
    | true =>
      rw [if_pos rfl] at q5 ⊢
      refine ⟨Γ, M5, F5, E, _, a.next s15 c5, q5, fun F6 H6 y6 d6 M6 s6 c6 v6 q6 => hr2 F6 H6 M6 u y6 f d6 _ _ c6 (v4.mono (s5.trans s6)) v6 q6 fun F7 H7 z7 d7 M7 s7 c7 v7 ⟨b7, eb7, q7⟩ => ?_⟩
      subst eb7
      cases v7
      refine ⟨b7, rfl, ?_⟩
      have s17 := (s15.trans s6).trans s7
      cases b7 with
      | false =>
        rw [if_neg Bool.false_ne_true] at q7 ⊢
        exact k F7 H7 _ _ M7 s17 c7 (.bl false) q7
      | true =>
        rw [if_pos rfl] at q7 ⊢
        exact ⟨Γ, M7, F7, E, _, a.next s17 c7, q7, fun F8 H8 y8 d8 M8 s8 c8 v8 q8 => hr3 F8 H8 M8 y6 y8 d6 d8 Qd Q c8 (v6.mono (s7.trans s8)) v8 q8 (k.mono (s17.trans s8))⟩
theorem de_chain4 {op op' op2 op3 : CmpOp} {r r' r2 r3 : R2} {rd rd' rd2 rd3 : D2} {ta tb tc td tf : DTE} (ho : OpR X (compareOp op) r) (ho' : OpR X (compareOp op') r') (ho2 : OpR X (compareOp op2) r2) (ho3 : OpR X (compareOp op3) r3) (hr : Real2 (kt X W) r rd) (hr' : Real2 (kt X W) r' rd') (hr2 : Real2 (kt X W) r2 rd2) (hr3 : Real2 (kt X W) r3 rd3)
    (ha : DE X W a ta) (hb : DE X W b tb) (hc : DE X W c tc) (hd : DE X W d td) (hf : DE X W f tf) (hm : lastMarks [op, op', op2, op3] [b, c, d, f] = false := by with_unfolding_all rfl) : DE X W (.Compare a [op, op', op2, op3] [b, c, d, f] pos) (dChain4 rd rd' rd2 rd3 ta tb tc td tf) :=
  ⟨peW (pe_chain4 ho ho' ho2 ho3 ha.pe hb.pe hc.pe hd.pe hf.pe hm) fun _ _ _ h => upChain4 hr hr' hr2 hr3 h⟩
end
theorem deq_tup2 {a b c d : D} : deq (.tup [a, b]) (.tup [c, d]) = (deq a c && deq b d) := by
  simp [deq, D.py, pys, PyData.eqv, PyData.eqvAll]
theorem lay_tup2 {n : Nat} {a b : D} (h1 : lay n a) (h2 : lay n b) : lay (n + 1) (.tup [a, b]) := lay_tup fun x hx => by
  simp only [List.mem_cons, List.not_mem_nil, or_false] at hx
  rcases hx with rfl | rfl
  · exact h1
  · exact h2
end DL

namespace DL
open PySem L2
/-- tuple(xs), a list; tuple(t) -/
def rdTuple : D1s := fun ds M Q => ∃ d, ds = [d] ∧ ((∃ xs, sqD M d = some xs ∧ Q (.tup xs) M) ∨ ∃ xs, d = .tup xs ∧ Q (.tup xs) M)
theorem real_tuple {K : KTb} : Real1 K (fun xs H Q => ∃ p ys, xs = [.ref p] ∧ ((SqL K.K H p ys ∧ ∀ l, H l = none → Q (.ref l) (upd H l (.tup ys))) ∨ (SqT K.K H p ys ∧ Q (.ref p) H))) rdTuple := fun F H M xs ds Qd Q c r ⟨d, e1, q⟩ k => by
  subst e1
  obtain ⟨v, rfl, rv⟩ := rps1 r
  rcases q with ⟨ys, h, q⟩ | ⟨ys, rfl, q⟩
  · obtain ⟨a, vs, rfl, h1, r1⟩ := sq_of c rv h
    refine ⟨a, vs, rfl, .inl ⟨h1, fun l hl => ?_⟩⟩
    have s := Same.upd (o := .tup vs) (c.Fnone hl)
    exact k _ _ _ _ M s (c.newF hl) (.tup (.inl upd_same) (r1.mono s)) q
  · obtain ⟨a, vs, rfl, h1, r1⟩ := tp_of c rv
    exact ⟨a, vs, rfl, .inr ⟨h1, k _ _ _ _ M (Same.refl _) c rv q⟩⟩
theorem rdTuple_sq {d : D} {xs : List D} {M : Mp} {Q : DQ} (h : sqD M d = some xs) (q : Q (.tup xs) M) : rdTuple [d] M Q := ⟨d, rfl, .inl ⟨xs, h, q⟩⟩
theorem rdSl_sq {x : D} {xs : List D} {lo hi : Option Int} {M : Mp} {Q : DQ} (h : sqD M x = some xs) (q : Q (.lst (cutD xs lo hi)) M) : rdSl x lo hi M Q := by
  rcases sq_cases h with rfl | ⟨p, rfl, _⟩ | ⟨ns, rfl, _⟩ <;> exact ⟨_, h, q⟩
theorem rdSl_to {α : Type} {f : α → D} {x : D} {xs : List α} {n : Nat} {M : Mp} {Q : DQ} (h : sqD M x = some (xs.map f)) (q : Q (.lst ((xs.take n).map f)) M) : rdSl x none (some (n : Int)) M Q := rdSl_sq h (by rw [cut_to]; exact q)
theorem cut_from {α : Type} {f : α → D} {xs : List α} {n : Nat} : cutD (xs.map f) (some (n : Int)) none = (xs.drop n).map f := by
  unfold cutD HT.sIx
  simp only [List.length_map]
  rw [if_neg (by omega)]
  simp only [Int.toNat_natCast]
  by_cases h : n ≤ xs.length
  · rw [Nat.min_eq_left h, List.map_drop, List.take_of_length_le (by simp)]
  · rw [Nat.min_eq_right (by omega), List.drop_of_length_le (by simp), List.drop_of_length_le (by omega)]
    simp
theorem rdSl_from {α : Type} {f : α → D} {x : D} {xs : List α} {n : Nat} {M : Mp} {Q : DQ} (h : sqD M x = some (xs.map f)) (q : Q (.lst ((xs.drop n).map f)) M) : rdSl x (some (n : Int)) none M Q := rdSl_sq h (by rw [cut_from]; exact q)
end DL

namespace DL
open PySem L2
/-! ### == and != where a tuple holds cells -/
def resT (M : Mp) (d : D) : D := match d with
  | .tup xs => .tup (xs.map (res M))
  | d => res M d
theorem dps_res {K : KTb} {M : Mp} {F H : Hp} (c : Cc K M F H) : ∀ (ds : List D) (vs : List V), Rps K F vs ds → (∀ d ∈ ds, shD (res M d) = true) → DpAll K.K H vs (pys (ds.map (res M)))
  | [], _, r, _ => by cases r; simp only [List.map_nil, pys]; exact .nil
  | d :: ds, _, r, h => by
    cases r with
    | cons r1 r2 =>
      simp only [List.map_cons, pys]
      exact .cons (dp_res c r1 (h d List.mem_cons_self)) (dps_res c ds _ r2 fun e he => h e (List.mem_cons_of_mem _ he))
def shT (M : Mp) (d : D) : Prop := shD (resT M d) = true ∧ ∀ xs, d = .tup xs → ∀ e ∈ xs, shD (res M e) = true
theorem dp_resT {K : KTb} {M : Mp} {F H : Hp} {v : V} {d : D} (c : Cc K M F H) (r : Rp K F v d) (h : shT M d) : Dp K.K H v (resT M d).py := by
  cases d with
  | tup xs =>
    obtain ⟨a, vs, rfl, h1, h2⟩ := tp_of c r
    simp only [resT, D.py]
    exact .tup h1 (dps_res c xs vs h2 (h.2 xs rfl))
  | _ => exact dp_res c r h.1
def rdEqT : D2 := fun x y M Q => shT M x ∧ shT M y ∧ Q (.bl (deq (resT M x) (resT M y))) M
def rdNeT : D2 := fun x y M Q => shT M x ∧ shT M y ∧ Q (.bl (!deq (resT M x) (resT M y))) M
theorem real_eqT {K : KTb} : Real2 K (rEqD K.K) rdEqT := fun F H M x y d e Qd Q c rx ry ⟨h1, h2, q⟩ k => ⟨_, _, dp_resT c rx h1, dp_resT c ry h2, h1.1, h2.1, k F H _ _ M (Same.refl _) c (.bl _) q⟩
theorem real_neT {K : KTb} : Real2 K (rNeD K.K) rdNeT := fun F H M x y d e Qd Q c rx ry ⟨h1, h2, q⟩ k => ⟨_, _, dp_resT c rx h1, dp_resT c ry h2, h1.1, h2.1, k F H _ _ M (Same.refl _) c (.bl _) q⟩
/-- two pairs that resolve to the same pair -/
theorem neT2 {a b a2 b2 x y : D} {M : Mp} {Q : DQ} {n : Nat} (h1 : res M a = x) (h2 : res M b = y) (h3 : res M a2 = x) (h4 : res M b2 = y) (lx : lay n x) (ly : lay n y) (ex : deq x x = true) (ey : deq y y = true) (q : Q (.bl false) M) (hn : n ≤ 63 := by decide) : rdNeT (.tup [a, b]) (.tup [a2, b2]) M Q := by
  have hs : shD (.tup [x, y]) = true := sh_of (lay_tup2 lx ly) (by omega)
  have sx : shD x = true := sh_of lx (by omega)
  have sy : shD y = true := sh_of ly (by omega)
  have e : ∀ {c d : D}, res M c = x → res M d = y → resT M (.tup [c, d]) = .tup [x, y] := fun h1 h2 => by simp [resT, h1, h2]
  have s : ∀ {c d : D}, res M c = x → res M d = y → shT M (.tup [c, d]) := fun h1 h2 => ⟨by rw [e h1 h2]; exact hs, fun xs hx z hz => by
    obtain rfl := D.tup.inj hx
    simp only [List.mem_cons, List.not_mem_nil, or_false] at hz
    rcases hz with rfl | rfl
    · rw [h1]; exact sx
    · rw [h2]; exact sy⟩
  refine ⟨s h1 h2, s h3 h4, ?_⟩
  rw [e h1 h2, e h3 h4, deq_tup2, ex, ey]
  exact q
end DL

namespace DL
open PySem L2
/-! ### calls with keyword-only parameters -/
section
open PySem.Spec PyProof.Rows
variable {X : Cx} {CX : CXT} {k n : Nat} {f : Addr} {fd : FuncData} {ps ks : List Str} {sp : Sp} {E : L2.St → XK} {x : Str} {p pos : Pos} {e : Expr} {es : List Expr} {kws : List Keyword} {t tk : TA} {g : List Value → List Value → List Value} {gV : List V → List V → List V}
def tCallSDK (n m : Nat) (sp : Sp) (gV : List V → List V → List V) (E : L2.St → XK) (t tk : TA) : TE := fun σ H Q => t σ H fun vs H1 => tk σ H1 fun zs H2 => vs.length = n ∧ zs.length = m ∧ sp (gV vs zs) H2 Q (E σ)
theorem run_fnSDK {pins : List (Addr × Obj)} {σ : L2.St} {H : Hp} {s : Shared} {Q : VK} {us ws : List Value} {vs zs : List V} (F : FnOk X.prog X.w X.K X.mg X.base CX k f fd ps sp) (hr : Room k X.A) (hb : KBn X.K fd ps n ks g gV) (hx : PassesAt CX X σ (E σ))
    (I : Inv X pins σ H s) (r : Vals vs us) (rz : Vals zs ws) (l1 : vs.length = n) (l2 : zs.length = ks.length) (h : sp (gV vs zs) H Q (E σ)) : wpAny (model X.prog X.w) X.A (call (.ref f) us (ks.zip ws)) (EP X pins σ Q) X.xe s := by
  have r2 := hb.rel r rz
  refine wpAny_call (codeAny_mono (F.run X.A X.stack s H ⟨us, ks.zip ws⟩ (g us ws) (gV vs zs) Q (E σ) hr I.env0 (hb.to s us ws I.kIn (r.length.symm.trans l1) (rz.length.symm.trans l2)) r2 h) fun r s' hq => ?_)
  cases r with
  | error e => exact hx pins H s e s' I hq
  | ok fl =>
    cases fl with
    | ret u => exact I.after hq
    | next => exact False.elim hq
    | brk => exact False.elim hq
    | cont => exact False.elim hq
theorem pe_callSDK (F : FnOk X.prog X.w X.K X.mg X.base CX k f fd ps sp) (hr : Room k X.A) (hg : Gl X x) (hm : X.mg x = some (.ref f)) (hk : PySem.W.keepIn X.K (.ref f) = true) (hb : KBn X.K fd ps n ks g gV) (hx : ∀ σ, PassesAt CX X σ (E σ))
    (ha : PA X (e :: es) t) (hkw : PK X kws tk) (hall : (backToKw pos (keywordEach kws X.env)).all (·.1.isSome) = true := by rfl) (hks : (backToKw pos (keywordEach kws X.env)).filterMap (·.1) = ks := by rfl)
    (hdb : (x == ("__debug__" : Str)) = false := by decide) (he : starEach (e :: es) X.env = (false, eval e X.env) :: starEach es X.env := by rfl)
    (hpl : ((backTo pos (starEach (e :: es) X.env)).any (·.1) || (backToKw pos (keywordEach kws X.env)).any (·.1.isNone)) = false := by rfl) :
    PE X (.Call (.Name x p) (e :: es) kws pos) (tCallSDK n ks.length sp gV E t tk) := by
  refine ⟨fun pins s σ H Q I h => ?_⟩
  refine wpAny_Call_Name_kw (ld_glob I hg hm ?_ hdb)
  refine PySem.W.callWith_KW (h₀ := X.base) I.ok.mod.kin hk hall (thn (ha.run pos pins s σ H _ I h) fun us s1 ⟨vs, H1, I1, r, q⟩ => ?_) hpl he
  refine thn (hkw.run pos pins s1 σ H1 _ I1 q) fun ws s2 ⟨zs, H2, I2, rz, l1, l2, q2⟩ => ⟨I2.kIn, ?_⟩
  rw [hks]
  exact run_fnSDK F hr hb (hx σ) I2 r rz l1 l2 q2
end
/-- a def of the module with keyword-only parameters (names ks, their defaults kd) behind n others -/
structure DefAtK (K : PySem.W.Frag) (mg : Str → Option Value) (x : Str) (st : Stmt) (ps : List Str) (n : Nat) (ks : List Str) (dvs : List V) : Prop where
  ex : ∃ f fd, mg x = some (.ref f) ∧ FunK K x x st f fd ∧ KBn K fd ps n ks (fun us ws => us ++ ws) (fun vs zs => vs ++ zs) ∧ ∃ vds, Vals dvs vds ∧ Binds K fd ps vds
structure DfkK (P : Program) (w : World) (K : PySem.W.Frag) (mg : Str → Option Value) (base : Heap) (T : List (Addr × Str)) (x : Str) (k : Nat) (ps : List Str) (n : Nat) (ks : List Str) (dvs : List V) (sp : DSp) : Prop where
  ex : ∃ f fd, FnOk P w K mg base (L2.CX P w) k f fd ps (spUp ⟨K, T⟩ sp) ∧ mg x = some (.ref f) ∧ PySem.W.keepIn K (.ref f) = true ∧ KBn K fd ps n ks (fun us ws => us ++ ws) (fun vs zs => vs ++ zs) ∧ ∃ vds, Vals dvs vds ∧ Binds K fd ps vds
section
variable {P : Program} {w : World} {K : PySem.W.Frag} {T : List (Addr × Str)} {mg : Str → Option Value} {base : Heap}
theorem DefAtK.ok {x : Str} {st : Stmt} {N ps ks : List Str} {n : Nat} {dvs : List V} {k : Nat} {sp : DSp} (Fn : DefAtK K mg x st ps n ks dvs) (S : FnScope N ps (defScope st)) (len : ∀ ds M Q E, sp ds M Q E → ds.length = ps.length)
    (hbody : ∀ (f : Addr) (cdv : Value) (A : Around) (outer : List Env) (s : Shared) (H : Hp) (E : XK), Room k (A.deeper (PyProof.Rows.envOfC x (defScope st) s.heap.objs.size f cdv)) → ∃ t, DSs (cxOf (L2.CX P w) P w K mg base N x (defScope st) f cdv A outer s H E) (wOf T E) (defBody st) t ∧
      ∀ (ds : List D) (M : Mp) (Qd : DQ) (Ed : DXK), sp ds M Qd Ed → t { nx := fun _ M' => Fin ⟨K, T⟩ Qd .non M', rt := Fin ⟨K, T⟩ Qd, ex := fun _ C fs M' => Ed C fs M' } (dstart N ds) M) : DfkK P w K mg base T x (k + 1) ps n ks dvs sp := by
  obtain ⟨f, fd, h1, h2, h3⟩ := Fn.ex
  refine ⟨f, fd, dfn h2 S len fun cdv A outer s H E hr => ?_, h1, h2.kp, h3⟩
  obtain ⟨t, ht, hq⟩ := hbody f cdv A outer s H E hr
  exact ⟨t, ht, fun ds M Qd Ed F H h c => ⟨F, M, Same.refl _, c, hq ds M Qd Ed h⟩⟩
end
/-- one keyword-only parameter with a default, n others without -/
theorem defK_mk {K : PySem.W.Frag} {mg : Str → Option Value} {x y : Str} {st : Stmt} {f : Addr} {oc : Value} {od an : Option Addr} {osl : Array (Option Value)} {Dk : Addr} {doc pm cdv ct u : Value} {v : V} {ps : List Str} {n : Nat} (hn : n + 1 = ps.length) (m : mg x = some (.ref f))
    (l : K.lookup f = some ⟨oc, od, .func (PySem.W.fnOf x x (defArgs st) (defBody st) (defScope st) .none (.ref Dk) doc pm an cdv ct), osl⟩) (c : PySem.W.codeIn K cdv x = true) (k : PySem.W.keepIn K (.ref f) = true) (hy : PySem.W.nsIn K Dk y = some (some u)) (hv : RelV v u)
    (h1 : ∀ (D : Addr) (doc pm : Value) (an : Option Addr) (cdv ct : Value) (us ks : List Value), us.length = n → ks.length = 1 → KwChain D ([y].zip ks) (PySem.bindArgs (PySem.W.fnOf x x (defArgs st) (defBody st) (defScope st) .none (.ref D) doc pm an cdv ct) ⟨us, []⟩) (ps.zip (us ++ ks)))
    (h2 : ∀ (D : Addr) (doc pm : Value) (an : Option Addr) (cdv ct : Value) (us ws : List Value), us.length = n → ws.length = 1 → PySem.bindArgs (PySem.W.fnOf x x (defArgs st) (defBody st) (defScope st) .none (.ref D) doc pm an cdv ct) ⟨us, [y].zip ws⟩ = pure (ps.zip (us ++ ws))) :
    DefAtK K mg x st ps n [y] [v] := by
  have F : FunD K x x (defArgs st) (defBody st) (defScope st) [] [(y, v)] f _ := ⟨⟨oc, od, .none, .ref Dk, doc, pm, an, cdv, ct, osl, rfl, l, c, .inl ⟨rfl, rfl⟩, .inr ⟨Dk, rfl, fun q hq => by
    simp only [List.mem_cons, List.not_mem_nil, or_false] at hq
    subst hq
    exact ⟨u, hy, hv⟩⟩⟩, k⟩
  obtain ⟨ds, r, b⟩ := F.binds0 (ps := ps) n (by simp) hn fun D doc pm an cdv ct us ks l1 l2 => h1 D doc pm an cdv ct us ks l1 l2
  obtain ⟨mv, kb⟩ := F.kbinds0 (ps := ps) n [y] [] (fun us _ ws => us ++ ws) (by simp) (fun q hq => by cases hq) (fun r1 r2 r3 => r1.append r3) fun D doc pm an cdv ct us mv ws l1 l2 l3 => by
    cases mv with
    | nil => exact h2 D doc pm an cdv ct us ws l1 l3
    | cons a b => cases l2
  exact ⟨_, _, m, FunK.ofD F, kb, ds, r, b⟩
section
variable {X : Cx} {W : WT} {e : Expr} {es : List Expr} {pos : Pos}
structure DK (X : Cx) (W : WT) (ks : List Keyword) (t : DTA) : Prop where
  pk : PK X ks (upA (kt X W) W.w t)
theorem pkW {ks : List Keyword} {t t' : TA} (h : PK X ks t) (i : ∀ σ H Q, t' σ H Q → t σ H Q) : PK X ks t' := ⟨fun pos pins s σ H Q I q => h.run pos pins s σ H Q I (i σ H Q q)⟩
theorem dk_one {te : DTE} {nm : Option Str} {kp : Pos} (ha : DE X W e te) : DK X W [⟨nm, e, kp⟩] (dCons te dNil) :=
  ⟨pkW (pk_cons ha.pe pk_nil) fun σ H Q ⟨Γ, M, F, E, Qd, a, q, k⟩ => ⟨Γ, M, F, E, _, a, q, fun F1 H1 v d M1 s1 c1 r1 q1 => k F1 H1 [v] [d] M1 s1 c1 (.cons r1 .nil) q1⟩⟩
def dCallK (n m : Nat) (sp : DSp) (t tk : DTA) : DTE := fun Γ M Q E => t Γ M (fun ds M1 => tk Γ M1 (fun zs M2 => ds.length = n ∧ zs.length = m ∧ sp (ds ++ zs) M2 Q (fun C fs M3 => E Γ C fs M3)) E) E
/-- f(e, .., y = v) -/
theorem de_callK {k n : Nat} {ps ks : List Str} {kws : List Keyword} {dvs : List V} {sp : DSp} {x : Str} {p : Pos} {t tkw : DTA} (Fn : DfkK X.prog X.w X.K X.mg X.base W.T x k ps n ks dvs sp) (hr : Room k X.A) (tk : Takes X W.w)
    (ha : DA X W (e :: es) t) (hkw : DK X W kws tkw) (hall : (backToKw pos (keywordEach kws X.env)).all (·.1.isSome) = true := by rfl) (hks : (backToKw pos (keywordEach kws X.env)).filterMap (·.1) = ks := by rfl) (hg : Gl X x := by rfl) (hdb : (x == ("__debug__" : Str)) = false := by decide) (he : starEach (e :: es) X.env = (false, eval e X.env) :: starEach es X.env := by rfl)
    (hpl : ((backTo pos (starEach (e :: es) X.env)).any (·.1) || (backToKw pos (keywordEach kws X.env)).any (·.1.isNone)) = false := by rfl) :
    DE X W (.Call (.Name x p) (e :: es) kws pos) (dCallK n ks.length sp t tkw) := by
  obtain ⟨f, fd, h1, h2, h3, h4, h5⟩ := Fn.ex
  exact ⟨peW (pe_callSDK (E := fun σ cls d H => W.w cls d σ H) h1 hr hg h2 h3 h4 (fun σ => passAt tk σ) ha.pa hkw.pk hall hks hdb he hpl) fun σ H Q ⟨Γ, M, F, E, Qd, a, q, k⟩ => ⟨Γ, M, F, E, _, a, q, fun F1 H1 vs ds M1 s1 c1 r1 q1 =>
    ⟨Γ, M1, F1, E, _, a.next s1 c1, q1, fun F2 H2 zs es M2 s2 c2 r2 ⟨l1, l2, q2⟩ => ⟨by rw [r1.length]; exact l1, by rw [r2.length]; exact l2,
      ⟨ds ++ es, M2, F2, _, _, c2, (r1.mono s2).append r2, q2, k.mono (s1.trans s2), fun F' H' C d us fs M' s c hd rf q => a.w F' H' σ Γ C d us fs M' (s1.trans (s2.trans s)) c (a.g.mono (s1.trans (s2.trans s))) hd rf q⟩⟩⟩⟩⟩
/-- f(e, ..): the defaults of the keyword-only ones fill up -/
theorem de_callD {k n : Nat} {ps ks : List Str} {dvs : List V} {dds : List D} {sp : DSp} {x : Str} {p : Pos} {t : DTA} (Fn : DfkK X.prog X.w X.K X.mg X.base W.T x k ps n ks dvs sp) (hdd : ∀ F, Rps (kt X W) F dvs dds) (hr : Room k X.A) (tk : Takes X W.w)
    (ha : DA X W (e :: es) t) (hg : Gl X x := by rfl) (hdb : (x == ("__debug__" : Str)) = false := by decide) (he : starEach (e :: es) X.env = (false, eval e X.env) :: starEach es X.env := by rfl) (hpl : (backTo pos (starEach es X.env)).any (·.1) = false := by rfl) :
    DE X W (.Call (.Name x p) (e :: es) [] pos) (dCall sp dds t) := by
  obtain ⟨f, fd, h1, h2, h3, h4, vds, h5, h6⟩ := Fn.ex
  exact de_call h1 hr h2 h3 h6 h5 hdd tk ha hg hdb he hpl
theorem rps_int {K : KTb} {i : Int} : ∀ F, Rps K F [.int i] [.int i] := fun F => .cons (.int i) .nil
end
theorem int1_bl {b : Bool} {M : Mp} {Q : DQ} (q : Q (.int (if b = true then 1 else 0)) M) : rdInt1 [.bl b] M Q := .inr ⟨b, rfl, q⟩
end DL

namespace DL
open PySem PySem.Spec PyProof.Rows L2 LamX NdefX
/-! ### lambdas whose parameters are cells (a comprehension in the body reads them) -/
structure InF (s₀ : Shared) (L : Addr) (m : Str → Option Value) (ko : Str → Option NameKind) (cs : List (Str × Addr)) (cm : Str → Option Value) (s : Shared) : Prop where
  toInCall : InCall s₀ L m s
  cell : ∀ n c, cs.lookup n = some c → s.heap.IsCell c (cm n)
  inj : ∀ x y c, cs.lookup x = some c → cs.lookup y = some c → x = y
  neL : ∀ n c, cs.lookup n = some c → c ≠ L
  new : ∀ n c, ko n = some .cell → cs.lookup n = some c → L < c
section
variable {M : Model} {A : Around} {E : Value → Shared → Prop} {s₀ s : Shared} {m cm : Str → Option Value} {env : Env}
theorem stLF {n : Str} {v : Value} {Q : Unit → Shared → Prop} (x : InF s₀ env.locals m env.kindOf env.cells cm s) (hk : env.scope.kind = .function) (hl : env.kindOf n = some .local)
    (h : ∀ s', InF s₀ env.locals (fun y => if y = n then some v else m y) env.kindOf env.cells cm s' → Q () s') : wpAny M A (storeName env n v) Q E s := by
  refine wpAny_storeName_local hl x.toInCall.ns (fun h' hn' hs' => h _ ⟨⟨?_, hn', fun b o e => ?_, x.toInCall.fresh⟩, fun k c hc => ?_, x.inj, x.neL, x.new⟩) (by rw [hk]; rfl)
  · obtain ⟨h₁, tk, rfl⟩ := x.toInCall.same
    exact ⟨h', _, rfl⟩
  · exact hs'.extBut b o (Nat.ne_of_lt (Nat.lt_of_lt_of_le (Heap.lt_size e) x.toInCall.fresh)) (x.toInCall.keep b o e)
  · exact (x.cell k c hc).sameBut hs' (x.neL k c hc)
theorem stCF {n : Str} {c : Addr} {v : Value} {Q : Unit → Shared → Prop} (x : InF s₀ env.locals m env.kindOf env.cells cm s) (hk : env.scope.kind = .function) (hl : env.kindOf n = some .cell)
    (hc : env.cells.lookup n = some c)
    (h : ∀ s', InF s₀ env.locals m env.kindOf env.cells (fun y => if y = n then some v else cm y) s' → Q () s') : wpAny M A (storeName env n v) Q E s := by
  have hLc := x.new n c hl hc
  refine wpAny_storeName_cell hk hl hc (x.cell n c hc) fun h' hc' hs' => h _ ⟨⟨?_, x.toInCall.ns.sameBut hs' (Nat.ne_of_lt hLc), fun b o e => ?_, x.toInCall.fresh⟩, fun k c' hk' => ?_, x.inj, x.neL, x.new⟩
  · obtain ⟨h₁, tk, rfl⟩ := x.toInCall.same
    exact ⟨h', _, rfl⟩
  · exact hs'.extBut b o (Nat.ne_of_lt (Nat.lt_trans (Nat.lt_of_lt_of_le (Heap.lt_size e) x.toInCall.fresh) hLc)) (x.toInCall.keep b o e)
  · by_cases hkn : k = n
    · subst hkn
      rw [hc] at hk'; cases hk'
      simpa using hc'
    · rw [if_neg hkn]
      exact (x.cell k c' hk').sameBut hs' fun e => hkn (x.inj k n c (e ▸ hk') hc)
theorem wpAny_bindParamsF (f : Str × Value → PUnit → Sem (ForInStep PUnit)) (hf : ∀ n v u, f (n, v) u = (do storeName env n v; pure (.yield ⟨⟩))) (hk : env.scope.kind = .function) :
    ∀ (binds : List (Str × Value)) (m cm : Str → Option Value) (s : Shared) (Q : PUnit → Shared → Prop), InF s₀ env.locals m env.kindOf env.cells cm s →
      (∀ x ∈ binds, env.kindOf x.1 = some .local ∨ (env.kindOf x.1 = some .cell ∧ (env.cells.lookup x.1).isSome = true)) →
      (∀ s', InF s₀ env.locals (bindL env.kindOf binds m) env.kindOf env.cells (bindC env.kindOf binds cm) s' → Q ⟨⟩ s') → wpAny M A (forIn binds ⟨⟩ f) Q E s
  | [], m, cm, s, Q, x, _, h => by rw [List.forIn_nil]; exact wpAny_pure (h s x)
  | (n, v) :: r, m, cm, s, Q, x, hkind, h => by
    rw [List.forIn_cons, hf]
    have hr : ∀ y ∈ r, env.kindOf y.1 = some .local ∨ (env.kindOf y.1 = some .cell ∧ (env.cells.lookup y.1).isSome = true) := fun y hy => hkind y (List.mem_cons_of_mem _ hy)
    rcases hkind (n, v) List.mem_cons_self with hl | ⟨hl, hc⟩
    · refine wpAny_bind (wpAny_bind (stLF x hk hl fun s' x' => wpAny_pure (wpAny_bindParamsF f hf hk r _ _ s' Q x' hr fun s'' x'' => h s'' ?_)))
      unfold bindL bindC; rw [if_pos hl, if_pos hl]; exact x''
    · obtain ⟨c, hc⟩ := Option.isSome_iff_exists.mp hc
      have hnl : ¬ env.kindOf n = some .local := by rw [hl]; decide
      refine wpAny_bind (wpAny_bind (stCF x hk hl hc fun s' x' => wpAny_pure (wpAny_bindParamsF f hf hk r _ _ s' Q x' hr fun s'' x'' => h s'' ?_)))
      unfold bindL bindC; rw [if_neg hnl, if_neg hnl]; exact x''
end
/-- the cells of a frame: its own, then the captured ones -/
structure CsF (h : Heap) (lo : Nat) (cl cs : List (Str × Addr)) : Prop where
  of : ∀ n c, cs.lookup n = some c → (lo ≤ c ∧ h.IsCell c none) ∨ cl.lookup n = some c
  inj : ∀ x y c, lo ≤ c → cs.lookup x = some c → cs.lookup y = some c → x = y
theorem csF_ok {cl : List (Str × Addr)} {lo : Nat} (hcl : ∀ n c, cl.lookup n = some c → c < lo) : ∀ (names : List (Str × NameKind)) (h : Heap) (acc : List (Str × Addr)), CsF h lo cl acc → lo ≤ h.objs.size →
    CsF (pushCells h names) lo cl (cellsFrom h.objs.size names acc)
  | [], _, _, x, _ => x
  | (name, kind) :: r, h, acc, x, hlo => by
    unfold pushCells cellsFrom
    split
    · have hno : ∀ n, acc.lookup n ≠ some h.objs.size := fun n z => by
        rcases x.of n _ z with ⟨_, q⟩ | q
        · exact Nat.lt_irrefl _ q.lt
        · exact Nat.lt_irrefl _ (Nat.lt_of_lt_of_le (hcl n _ q) hlo)
      have := csF_ok hcl r (h.push { cls := .type "cell", data := .cell none }) ((name, h.objs.size) :: acc)
        ⟨fun n c hm => by
            rw [List.lookup_cons] at hm
            cases hb : n == name with
            | true =>
              rw [hb] at hm
              cases hm
              exact .inl ⟨hlo, _, Heap.get?_push_size _ rfl, rfl⟩
            | false =>
              rw [hb] at hm
              exact (x.of n c hm).imp_left fun q => ⟨q.1, q.2.keeps fun b o e => Heap.get?_push_of_some _ e⟩,
          fun a b c hc ha hb => by
            rw [List.lookup_cons] at ha hb
            cases ea : a == name with
            | true =>
              rw [ea] at ha
              cases ha
              cases eb : b == name with
              | true => rw [beq_iff_eq.mp ea, beq_iff_eq.mp eb]
              | false =>
                rw [eb] at hb
                exact absurd hb (hno b)
            | false =>
              rw [ea] at ha
              cases eb : b == name with
              | true =>
                rw [eb] at hb
                cases hb
                exact absurd ha (hno a)
              | false =>
                rw [eb] at hb
                exact x.inj a b c hc ha hb⟩ (by rw [Heap.size_push]; omega)
      rwa [Heap.size_push] at this
    · exact csF_ok hcl r h acc x hlo
theorem cellsFrom_keep {x : Str} : ∀ (names : List (Str × NameKind)) (n : Nat) (acc : List (Str × Addr)), (∀ y ∈ names, y.2 = .cell → y.1 ≠ x) → (cellsFrom n names acc).lookup x = acc.lookup x
  | [], _, _, _ => rfl
  | (name, kind) :: r, n, acc, h => by
    unfold cellsFrom
    have hr : ∀ y ∈ r, y.2 = .cell → y.1 ≠ x := fun y hy => h y (List.mem_cons_of_mem _ hy)
    split
    · rename_i hk
      rw [cellsFrom_keep r _ _ hr, List.lookup_cons]
      have := h (name, kind) List.mem_cons_self (by simpa using hk)
      have e : (x == name) = false := by simpa using fun z : x = name => this z.symm
      rw [e]
    · exact cellsFrom_keep r _ _ hr
theorem cellsFrom_isSome {x : Str} : ∀ (names : List (Str × NameKind)) (n : Nat) (acc : List (Str × Addr)), ((x, NameKind.cell) ∈ names ∨ (acc.lookup x).isSome = true) → ((cellsFrom n names acc).lookup x).isSome = true
  | [], _, _, h => by
    rcases h with h | h
    · cases h
    · exact h
  | (name, kind) :: r, n, acc, h => by
    unfold cellsFrom
    split
    · rename_i hk
      refine cellsFrom_isSome r _ _ ?_
      by_cases e : x = name
      · right
        rw [List.lookup_cons, beq_iff_eq.mpr e]
        rfl
      · rcases h with h | h
        · rcases List.mem_cons.mp h with h | h
          · cases h
            exact absurd rfl e
          · exact .inl h
        · right
          have e2 : (x == name) = false := by simpa using e
          rw [List.lookup_cons, e2]
          exact h
    · rename_i hk
      refine cellsFrom_isSome r _ _ ?_
      rcases h with h | h
      · rcases List.mem_cons.mp h with h | h
        · cases h
          exact absurd (by rfl) hk
        · exact .inl h
      · exact .inr h
section
variable {M : Model} {A : Around} {E : Value → Shared → Prop} {s : Shared}
theorem wpAny_newFunctionEnv_F {scope : Scope} {globals : Addr} {cl : List (Str × Addr)} {binds : List (Str × Value)} {qual : Str} {func : Option Addr} {code : Value} {builtins : Addr} {cv : Str → Option Value} {Q : Env → Shared → Prop}
    (hk : scope.kind = .function) (hcl : ∀ n c, cl.lookup n = some c → s.heap.IsCell c (cv n)) (hinj : ∀ x y c, cl.lookup x = some c → cl.lookup y = some c → x = y) (hfr : ∀ y ∈ scope.names, y.2 = .cell → cl.lookup y.1 = none)
    (hkind : ∀ x ∈ binds, scope.names.lookup x.1 = some .local ∨ scope.names.lookup x.1 = some .cell)
    (hQ : ∀ env, env = newEnv scope s.heap.objs.size globals (cellsFrom (s.heap.objs.size + 1) scope.names cl) qual func code none builtins →
      ∀ s' cm0, (∀ n c, cl.lookup n = some c → cm0 n = cv n) → InF s env.locals (bindL env.kindOf binds fun _ => none) env.kindOf env.cells (bindC env.kindOf binds cm0) s' → Q env s') :
    wpAny M A (newFunctionEnv scope globals cl binds qual func code none builtins) Q E s := by
  simp only [newFunctionEnv, Option.isSome_none, Bool.false_eq_true, if_false]
  refine wpAny_bind (wpAny_alloc ?_)
  refine wpAny_bind (wpAny_layCells _ (fun name kind cells => by cases hkc : kind == NameKind.cell <;> simp [hkc]) _ _ _ _ ?_)
  have lt : ∀ n c, cl.lookup n = some c → c < s.heap.objs.size + 1 := fun n c h => Nat.lt_succ_of_lt (hcl n c h).lt
  have ok := csF_ok lt scope.names (s.heap.push { cls := .type "frame", data := .dict #[] }) cl ⟨fun n c h => .inr h, fun x y c hc h1 _ => absurd (lt x c h1) (Nat.not_lt_of_le hc)⟩ (by rw [Heap.size_push]; exact Nat.le_refl _)
  rw [Heap.size_push] at ok
  rw [show ({ s with heap := s.heap.push { cls := .type "frame", data := .dict #[] } } : Shared).heap.objs.size = s.heap.objs.size + 1 from Heap.size_push ..]
  have cn : ∀ y c, scope.names.lookup y = some .cell → (cellsFrom (s.heap.objs.size + 1) scope.names cl).lookup y = some c → s.heap.objs.size + 1 ≤ c := fun y c e h => by
    rcases ok.of y c h with q | q
    · exact q.1
    · rw [hfr _ (PySem.mem_of_lookup e) rfl] at q
      cases q
  let cm0 : Str → Option Value := fun n => if (cl.lookup n).isSome = true then cv n else none
  refine wpAny_bind (wpAny_bindParamsF (s₀ := s) (env := newEnv scope s.heap.objs.size globals (cellsFrom (s.heap.objs.size + 1) scope.names cl) qual func code none builtins)
    _ (fun _ _ _ => rfl) hk binds (fun _ => none) cm0 _ _
    ⟨⟨⟨_, _, rfl⟩, (Heap.Ns.new s.heap (.type "frame")).keeps (pushCells_keeps _ _), fun b o e => pushCells_keeps _ _ b o (Heap.get?_push_of_some _ e), Nat.le_refl _⟩,
      fun n c hc => ?_, fun x y c h1 h2 => ?_, fun n c hc => ?_, fun n c e h => cn n c e h⟩
    (fun x hx => (hkind x hx).imp_right fun e => ⟨e, cellsFrom_isSome _ _ _ (.inl (PySem.mem_of_lookup e))⟩) fun s' x => wpAny_pure (hQ _ rfl s' cm0 (fun n c h => by show (if _ then _ else _) = _; rw [h]; rfl) x))
  · have hc : (cellsFrom (s.heap.objs.size + 1) scope.names cl).lookup n = some c := hc
    show Heap.IsCell _ c (if (cl.lookup n).isSome = true then cv n else none)
    by_cases hcell : ∃ y ∈ scope.names, y.2 = .cell ∧ y.1 = n
    · obtain ⟨y, hy, h1, rfl⟩ := hcell
      rw [hfr y hy h1]
      rcases ok.of _ c hc with q | q
      · exact q.2
      · rw [hfr y hy h1] at q
        cases q
    · have hc2 := hc
      rw [cellsFrom_keep _ _ _ fun y hy h1 h2 => hcell ⟨y, hy, h1, h2⟩] at hc2
      rw [hc2]
      exact (hcl n c hc2).keeps fun b o e => pushCells_keeps _ _ b o (Heap.get?_push_of_some _ e)
  · by_cases hlo : s.heap.objs.size + 1 ≤ c
    · exact ok.inj x y c hlo h1 h2
    · rcases ok.of x c h1 with q | q
      · exact absurd q.1 hlo
      · rcases ok.of y c h2 with q2 | q2
        · exact absurd q2.1 hlo
        · exact hinj x y c q q2
  · show c ≠ s.heap.objs.size
    rcases ok.of n c hc with q | q
    · exact Nat.ne_of_gt q.1
    · exact Nat.ne_of_lt (hcl n c q).lt
end
/-- the names of such a lambda: parameters (locals or cells), then the captured ones, then its locals -/
structure NScopeC (N ps fr : List Str) (sc : Scope) : Prop where
  kind : sc.kind = .function
  co : sc.isCoroutine = false
  gen : sc.isGenerator = false
  nd : N.Nodup
  pre : N.take (ps.length + fr.length) = ps ++ fr
  par : ∀ x ∈ ps, sc.names.lookup x = some .local ∨ sc.names.lookup x = some .cell
  cellp : ∀ y ∈ sc.names, y.2 = .cell → y.1 ∈ ps ∧ sc.names.lookup y.1 = some .cell
  free : ∀ y ∈ sc.names, y.2 = .free → y.1 ∈ fr
  frk : ∀ x ∈ fr, sc.names.lookup x = some .free
def nscCB (N ps fr : List Str) (sc : Scope) : Bool :=
  decide (sc.kind = .function) && !sc.isCoroutine && !sc.isGenerator && decide N.Nodup && decide (N.take (ps.length + fr.length) = ps ++ fr) && ps.all (fun x => decide (sc.names.lookup x = some .local) || decide (sc.names.lookup x = some .cell)) && sc.names.all (fun y => !decide (y.2 = .cell) || (decide (y.1 ∈ ps) && decide (sc.names.lookup y.1 = some .cell))) && sc.names.all (fun y => !decide (y.2 = .free) || decide (y.1 ∈ fr)) && fr.all (fun x => decide (sc.names.lookup x = some .free))
theorem nscopeC_by {N ps fr : List Str} {sc : Scope} (h : nscCB N ps fr sc = true) : NScopeC N ps fr sc := by
  unfold nscCB at h
  simp only [Bool.and_eq_true, Bool.not_eq_true', decide_eq_true_eq, List.all_eq_true, Bool.or_eq_true, decide_eq_false_iff_not] at h
  obtain ⟨⟨⟨⟨⟨⟨⟨⟨h1, h2⟩, h3⟩, h4⟩, h5⟩, h6⟩, h7⟩, h8⟩, h9⟩ := h
  exact ⟨h1, h2, h3, h4, h5, h6, fun y hy e => (h7 y hy).elim (fun z => absurd e z) id, fun y hy e => (h8 y hy).elim (fun z => absurd e z) id, h9⟩
/-- the words of the frame: its own cells ahead -/
abbrev ownC (G : NF) (L : Addr) : NF := { G with cl := cellsFrom (L + 1) G.scope.names G.cl }
section
variable {CX : CXT} {P : Program} {w : World} {K : PySem.W.Frag} {mg : Str → Option Value} {base : Heap} {N ps fr : List Str} {G : NF} {be : Expr} {f : Addr} {A : Around} {outer : List Env} {s s1 : Shared} {H : Hp} {E : XK} {us : List Value} {vs : List V} {ws : List (Option V)} {k : Nat}
theorem inv_startC {cv cm0 : Str → Option Value} (S : NScopeC N ps fr G.scope) (hd : A.handled = none) (e0 : Env0 P w K mg base A outer s H) (hl : vs.length = ps.length) (r : Vals vs us) (C : CellsAt G.cl fr ws s.heap H)
    (hfr : ∀ n c, G.cl.lookup n = some c → n ∈ fr) (hcv : ∀ n c, G.cl.lookup n = some c → s.heap.IsCell c (cv n)) (hcm : ∀ n c, G.cl.lookup n = some c → cm0 n = cv n)
    (x : InF s s.heap.objs.size (bindL (envF (ownC G s.heap.objs.size) f s.heap.objs.size).kindOf (ps.zip us) fun _ => none) (envF (ownC G s.heap.objs.size) f s.heap.objs.size).kindOf (cellsFrom (s.heap.objs.size + 1) G.scope.names G.cl) (bindC (envF (ownC G s.heap.objs.size) f s.heap.objs.size).kindOf (ps.zip us) cm0) s1) :
    Inv (ncx CX P w K mg base N (ownC G s.heap.objs.size) f A outer s H E) [] (startF N vs ws) H s1 := by
  have hpl : ps.length + fr.length ≤ N.length := by
    have q := congrArg List.length S.pre
    rw [List.length_take, List.length_append] at q
    omega
  obtain ⟨h1, tk, rfl, hk⟩ := x.toInCall.same.elim fun h ⟨tk, e⟩ => (⟨h, tk, e, by have := x.toInCall.keep; rw [e] at this; exact this⟩ : ∃ h' tk, s1 = { s with heap := h', toks := tk } ∧ ∀ b o, s.heap.get? b = some o → h'.get? b = some o)
  have noA : ∀ b : Addr, b ∉ (ncx CX P w K mg base N (ownC G s.heap.objs.size) f A outer s H E).ex := fun b z => absurd (show b ∈ ([] : List Addr) from z) (by simp)
  have ndP : (ps ++ fr).Nodup := by
    have q := S.nd.sublist (List.take_sublist (ps.length + fr.length) N)
    rw [S.pre] at q
    exact q
  have frC : ∀ y ∈ fr, ∀ z ∈ G.scope.names, z.2 = .cell → z.1 ≠ y := fun y hy z hz e1 e2 => (List.nodup_append.mp ndP).2.2 z.1 (S.cellp z hz e1).1 y hy e2
  have frL : ∀ y ∈ fr, (cellsFrom (s.heap.objs.size + 1) G.scope.names G.cl).lookup y = G.cl.lookup y := fun y hy => cellsFrom_keep _ _ _ (frC y hy)
  refine ⟨⟨e0.mod, S.kind, rfl, rfl, Nat.le_refl _, x.inj, fun y hy => ?_, fun y c z _ => ?_, fun _ => hd, Around.frames_deeper e0.frames, .inr ⟨rfl, rfl⟩, fun b z => absurd z (noA b), e0.bs, e0.bsz, fun b _ _ => noA b,
      fun b z => absurd z (noA b), e0.funs, e0.frf⟩,
    rfl, e0.bare, Un.kept hk, ⟨_, x.toInCall.ns, fun i y v e1 e2 e3 => ?_⟩, fun y c e => ⟨_, x.cell y c e⟩, e0.hok.fresh (Nat.le_refl _), fun y c e => ?_, fun q hq => absurd (show q ∈ ([] : List (Addr × Obj)) ++ [] from hq) (by simp), e0.hok.kept hk, ?_⟩
  · have hy : G.scope.names.lookup y = some .cell ∨ G.scope.names.lookup y = some .free := hy
    rcases hy with hy | hy
    · exact Option.isSome_iff_exists.mp (cellsFrom_isSome _ _ _ (.inl (PySem.mem_of_lookup hy)))
    · have hm := S.free _ (PySem.mem_of_lookup hy) rfl
      obtain ⟨i, hi⟩ := List.mem_iff_getElem?.mp hm
      obtain ⟨c, hc, _⟩ := C.has i y hi
      exact ⟨c, (frL y hm).trans hc⟩
  · have z : false = true := z
    cases z
  · have e1 : N[i]? = some y := e1
    have clen := C.len
    unfold startF at e2
    by_cases h1 : i < ps.length
    · have hq : (ps ++ fr)[i]? = some y := by
        rw [← S.pre, List.getElem?_take_of_lt (by omega)]
        exact e1
      rw [List.getElem?_append_left h1] at hq
      rw [List.getElem?_append_left (by rw [List.length_map]; omega), List.getElem?_map] at e2
      have ha : vs[i]? = some v := by
        cases e : vs[i]? with
        | none => rw [e] at e2; cases e2
        | some a => rw [e] at e2; cases e2; rfl
      obtain ⟨u, hu, rv⟩ := r.get ha
      have nd1 : ps.Nodup := (List.nodup_append.mp ndP).1
      refine ⟨u, rv, ?_⟩
      rcases S.par y (List.mem_of_getElem? hq) with k | k
      · exact .inl ⟨k, bindL_get nd1 hq hu k⟩
      · obtain ⟨c, e⟩ := Option.isSome_iff_exists.mp (cellsFrom_isSome (x := y) G.scope.names (s.heap.objs.size + 1) G.cl (.inl (PySem.mem_of_lookup k)))
        refine .inr ⟨.inl k, c, e, ?_⟩
        have q := x.cell y c e
        rw [bindC_get nd1 hq hu (by show G.scope.names.lookup y ≠ _; rw [k]; decide)] at q
        exact q
    · rw [List.getElem?_append_right (by rw [List.length_map]; omega), List.length_map] at e2
      by_cases h2 : i < ps.length + fr.length
      · have hq : (ps ++ fr)[i]? = some y := by
          rw [← S.pre, List.getElem?_take_of_lt (by omega)]
          exact e1
        rw [List.getElem?_append_right (by omega)] at hq
        rw [List.getElem?_append_left (by omega), hl] at e2
        have hm := List.mem_of_getElem? hq
        obtain ⟨c, hc, hv⟩ := C.has (i - ps.length) y hq
        obtain ⟨u, ru, hu⟩ := hv v e2
        exact ⟨u, ru, .inr ⟨.inr (S.frk y hm), c, (frL y hm).trans hc, hu.keeps hk⟩⟩
      · rw [List.getElem?_append_right (by omega), List.getElem?_replicate] at e2
        split at e2 <;> cases e2
  · by_cases hm : y ∈ fr
    · have e : (cellsFrom (s.heap.objs.size + 1) G.scope.names G.cl).lookup y = some c := e
      rw [frL y hm] at e
      exact (C.all y c e).1
    · have e : (cellsFrom (s.heap.objs.size + 1) G.scope.names G.cl).lookup y = some c := e
      by_cases hcell : ∃ z ∈ G.scope.names, z.2 = .cell ∧ z.1 = y
      · obtain ⟨z, hz, h1, rfl⟩ := hcell
        exact e0.hok.fresh (Nat.le_of_lt (x.new z.1 c (S.cellp z hz h1).2 e))
      · rw [cellsFrom_keep _ _ _ fun z hz h1 h2 => hcell ⟨z, hz, h1, h2⟩] at e
        exact absurd (hfr y c e) hm
  · have clen := C.len
    unfold startF
    show _ = N.length
    rw [List.length_append, List.length_append, List.length_map, List.length_replicate]
    omega
/-- such a lambda is called -/
theorem lm_runC {Q : VK} (S : NScopeC N ps fr G.scope) (hfr : ∀ n c, G.cl.lookup n = some c → n ∈ fr)
    (hb : ∀ (pm ctv : Value) (us : List Value), us.length = ps.length → bindArgs (PySem.W.kla_fn G.name G.qual G.params be G.scope G.cl pm (.ref G.c) ctv) ⟨us, []⟩ = pure (ps.zip us))
    (hr : Room (k + 1) A) (e0 : Env0 P w K mg base A outer s H) (hf : H f = some (LmO f G be)) (hc : H G.c = some (CodeO G.c G.qual)) (C : CellsAt G.cl fr ws s.heap H) (r : Vals vs us) (hl : vs.length = ps.length)
    (hbody : Room k (A.deeper (envF (ownC G s.heap.objs.size) f s.heap.objs.size)) → ∃ t, PE (ncx CX P w K mg base N (ownC G s.heap.objs.size) f A outer s H E) be t ∧ t (startF N vs ws) H Q) :
    codeAny (model P w) A (.call (.ref f) ⟨us, []⟩) (CR CX outer P w H s Q E) s := by
  have lim : s.heap.NoLimit := e0.mod.nolimit.keeps fun b o e => (e0.bs b o e).1
  obtain ⟨pm, ctv, ho⟩ := lmO_at e0.hok hf
  obtain ⟨cv, hcv⟩ := Classical.axiomOfChoice (show ∀ n : Str, ∃ v : Option Value, ∀ c, G.cl.lookup n = some c → s.heap.IsCell c v from fun n => by
    cases e : G.cl.lookup n with
    | none => exact ⟨none, fun c z => by cases z⟩
    | some c =>
      obtain ⟨_, v, hv⟩ := C.all n c e
      exact ⟨v, fun c2 z => by cases z; exact hv⟩)
  have ndP : (ps ++ fr).Nodup := by
    have q := S.nd.sublist (List.take_sublist (ps.length + fr.length) N)
    rw [S.pre] at q
    exact q
  have hno : ∀ y ∈ G.scope.names, y.2 = .cell → G.cl.lookup y.1 = none := fun y hy e => by
    cases z : G.cl.lookup y.1 with
    | none => rfl
    | some c => exact absurd rfl ((List.nodup_append.mp ndP).2.2 y.1 (S.cellp y hy e).1 y.1 (hfr _ c z))
  refine PySem.W.kla_callFunE hr.depth ho rfl S.co S.gen rfl (codeO_at e0.hok hc) ?_
  rw [hb pm ctv us (r.length ▸ hl)]
  refine wpAny_pure (wpAny_newFunctionEnv_F (cv := cv) S.kind (fun n c e => hcv n c e) C.inj hno (fun ⟨n, _⟩ hy => S.par n (List.of_mem_zip hy).1) fun env he s1 cm0 hcm x => ?_)
  subst he
  refine ⟨lim.keeps x.toInCall.keep, ?_⟩
  have J : Inv (ncx CX P w K mg base N (ownC G s.heap.objs.size) f A outer s H E) [] (startF N vs ws) H s1 := inv_startC S hr.hd e0 hl r C hfr (fun n c e => hcv n c e) hcm x
  obtain ⟨t, ht, hq⟩ := hbody (hr.deeper _)
  refine PySem.W.kla_codeExpr (env := envF (ownC G s.heap.objs.size) f s.heap.objs.size) (wpAny_mono (ht.run [] _ _ H _ J hq) (fun v s' hs => ?_) fun e s' hs => hs)
  obtain ⟨v', H', J', rv, q⟩ := hs
  exact ⟨v', H', J'.os, J'.bare, J'.base, J'.hok, rv, q⟩
theorem lmk_ofC {T : List (Addr × Str)} {wd : DG} {t : DTE} (S : NScopeC N ps fr G.scope) (hfr : ∀ n c, G.cl.lookup n = some c → n ∈ fr)
    (hb : ∀ (pm ctv : Value) (us : List Value), us.length = ps.length → bindArgs (PySem.W.kla_fn G.name G.qual G.params be G.scope G.cl pm (.ref G.c) ctv) ⟨us, []⟩ = pure (ps.zip us))
    (hbody : ∀ (f : Addr) (L : Addr) (A : Around) (outer : List Env) (s : Shared) (H : Hp) (E : XK), L = s.heap.objs.size → Room k (A.deeper (envF (ownC G L) f s.heap.objs.size)) → DE (ncx (L2.CX P w) P w K mg base N (ownC G L) f A outer s H E) (wOf T E) be t) :
    LmK P w K mg base T (k + 1) G be fr wd (spLm N ps.length wd t) := by
  refine ⟨fun f A outer s H us vs ws Q E ds M F Qd Ed hr e0 hf hc C r c rd g ⟨hl, q⟩ kq kx => ?_⟩
  refine lm_runC S hfr hb hr e0 hf hc C r (rd.length.trans hl) fun hr2 => ⟨_, (hbody f _ A outer s H E rfl hr2).pe, ?_⟩
  exact ⟨startL N ds wd, M, F, _, Qd, ⟨c, startL_rp rd g, fun F1 H1 σ Γ C d us fs M1 s1 c1 _ hd rf q1 => kx F1 H1 C d us fs M1 s1 c1 hd rf q1⟩, q, kq⟩
theorem clo_in {cells : List (Str × Addr)} {n : Str} {c : Addr} : ∀ {names : List (Str × NameKind)} {acc : List (Str × Addr)}, (cloFrom cells names acc).lookup n = some c → (n, NameKind.free) ∈ names ∨ acc.lookup n = some c
  | [], _, h => .inr h
  | (m, kd) :: r, acc, h => by
    unfold cloFrom at h
    split at h
    · rename_i hk
      have e : kd = .free := by simpa using hk
      subst e
      rcases clo_in h with q | q
      · exact .inl (List.mem_cons_of_mem _ q)
      · rw [List.lookup_cons] at q
        cases hb : n == m with
        | true =>
          rw [beq_iff_eq.mp hb]
          exact .inl List.mem_cons_self
        | false =>
          rw [hb] at q
          exact .inr q
    · exact (clo_in h).imp_left (List.mem_cons_of_mem _)
theorem clo_fr {cells : List (Str × Addr)} (S : NScopeC N ps fr G.scope) (e : G.cl = cloFrom cells G.scope.names []) : ∀ n c, G.cl.lookup n = some c → n ∈ fr := fun n c h => by
  rw [e] at h
  rcases clo_in h with q | q
  · exact S.free _ q rfl
  · cases q
end
end DL

namespace DL
open PySem PySem.Spec PyProof.Rows L2 LamX NdefX
/-! ### the law at the claim's own caller: no guard stands (so repr of data has a rule) -/
structure RunG (P : Program) (w : World) (K : PySem.W.Frag) (mg : Str → Option Value) (base : Heap) (CX : CXT) (f : Addr) (sp : Sp) : Prop where
  run : ∀ (s : Shared) (H : Hp) (a : Addr), Env0 P w K mg base callerA [] s H → sp [.ref a] H (fun v _ => v = .bl true) (fun _ _ _ => False) →
    codeAny (model P w) callerA (.call (.ref f) ⟨[.ref a], []⟩) (CR CX [] P w H s (fun v _ => v = .bl true) fun _ _ _ => False) s
theorem law_callG {P : Program} {w : World} {K : PySem.W.Frag} {mg mb : Str → Option Value} {CX : CXT} {fa a : Addr} {cs : List (Addr × Addr)} {sp : Sp} {s₁ : Shared} {vs : List Value} {ns : List Int}
    (KX : K.In s₁.heap) (hns : s₁.heap.Ns mainGlobals mg) (hb : s₁.heap.Ns builtinsNs mb) (hbb : ∀ x : Str, x ≠ "__name__" → mb x = bootBuiltins x) (hlim : s₁.heap.NoLimit) (hg : s₁.gens = #[])
    (hT : ∀ p ∈ cs, s₁.heap.get? p.2 = some { cls := .none, data := .fields #[] }) (nT : ∀ p ∈ cs, K.lookup p.2 = none) (C : ∀ p ∈ cs, PySem.W.CodeHd s₁.heap p.1 p.2)
    (hbm : ∃ (bm : Addr) (ob : Obj), mg "__builtins__" = some (.ref bm) ∧ bm ≠ builtinsNs ∧ s₁.heap.get? bm = some ob ∧ ob.cls = .type "module" ∧ ob.dict = some builtinsNs ∧ ob.data = .plain)
    (ha : s₁.heap.get? a = some { cls := .type "list", data := .seq vs.toArray }) (hi : IntsAre vs ns) (hl : ns.length ≤ sizeLine)
    (F : ∀ base : Heap, K.In base → base.Ns mainGlobals mg → (∀ p ∈ cs, TabB base mg p.1 p.2) → RunG P w K mg base CX fa sp)
    (hsp : ∀ H : Hp, (∀ p ∈ cs, H p.2 = some (.tbl #[])) → SqL K H a (ns.map V.int) → sp [.ref a] H (fun v _ => v = .bl true) fun _ _ _ => False)
    (hCX : ∀ H e s', CX [] H s₁ (fun _ _ _ => False) e s' → False) :
    codeAny (model P w) callerA (.call (.ref fa) ⟨[.ref a], []⟩) (fun r s' => r = .ok (.ret (.bool true)) ∧ OldK s₁.heap s'.heap ∧ s'.os = s₁.os ∧ AllBare s'.gens) s₁ := by
  have rv := vals_ints hi
  have lenV := hi.length
  let tab : Addr → Prop := fun b => ∃ p ∈ cs, p.2 = b
  have obT : ∀ b, tab b → s₁.heap.get? b = some { cls := .none, data := .fields #[] } := fun b ⟨p, hp, e⟩ => by rw [← e]; exact hT p hp
  have aT : ¬ tab a := fun z => by
    have q := obT a z
    rw [ha] at q
    cases Option.some.inj q
  obtain ⟨H, h1, h2, h3⟩ : ∃ H : Hp, (∀ b, tab b → H b = some (.tbl #[])) ∧ (K.lookup a = none → H a = some (.frz { cls := .type "list", data := .seq vs.toArray } (.lst (ns.map V.int)))) ∧
      ∀ b u, H b = some u → (tab b ∧ u = .tbl #[]) ∨ (b = a ∧ K.lookup a = none ∧ u = .frz { cls := .type "list", data := .seq vs.toArray } (.lst (ns.map V.int))) := by
    classical
    refine ⟨fun b => if tab b then some (.tbl #[]) else if b = a ∧ K.lookup a = none then some (.frz { cls := .type "list", data := .seq vs.toArray } (.lst (ns.map V.int))) else none, fun b z => if_pos z, fun z => ?_, fun b u z => ?_⟩
    · exact (if_neg aT).trans (if_pos ⟨rfl, z⟩)
    · have z : (if tab b then some (HO.tbl #[]) else if b = a ∧ K.lookup a = none then some (.frz { cls := .type "list", data := .seq vs.toArray } (.lst (ns.map V.int))) else none) = some u := z
      by_cases t : tab b
      · rw [if_pos t] at z
        exact .inl ⟨t, (Option.some.inj z).symm⟩
      · rw [if_neg t] at z
        by_cases t2 : b = a ∧ K.lookup a = none
        · rw [if_pos t2] at z
          exact .inr ⟨t2.1, t2.2, (Option.some.inj z).symm⟩
        · rw [if_neg t2] at z
          cases z
  have seq : SqL K H a (ns.map V.int) := by
    cases hk : K.lookup a with
    | none => exact .inl (.inr ⟨_, h2 hk⟩)
    | some o =>
      have e := KX a o hk
      rw [ha] at e
      cases e
      exact .inr ⟨_, vs.toArray, _, hk, rfl, rfl, rfl, by rw [List.size_toArray, lenV]; exact hl, by simpa using rv⟩
  have hok : HOk P w H s₁.heap := fun b u z => by
    rcases h3 b u z with ⟨t, rfl⟩ | ⟨rfl, _, rfl⟩
    · exact obT b t
    · exact ⟨ha, by rw [List.length_map]; exact hl, vs, _, rv, ha⟩
  have free : ∀ {b : Addr} {o : Obj}, s₁.heap.get? b = some o → (∀ ws n, o.data ≠ .seq ws n) → o.data ≠ .fields #[] → H b = none := fun {b o} e d1 d2 => by
    cases q : H b with
    | none => rfl
    | some u =>
      rcases h3 b u q with ⟨t, _⟩ | ⟨rfl, _, _⟩
      · rw [obT b t] at e
        cases e
        exact absurd rfl d2
      · rw [ha] at e
        cases e
        exact absurd rfl (d1 _ _)
  have down : ∀ {b : Addr} {o : Obj}, s₁.heap.get? b = some o → (∀ ws n, o.data ≠ .seq ws n) → o.data ≠ .fields #[] → (hidT s₁.heap H).get? b = some o := fun e d1 d2 => hidT_get e (free e d1 d2)
  have dict : ∀ {b : Addr} {m : Str → Option Value}, s₁.heap.Ns b m → (hidT s₁.heap H).Ns b m := fun {b m} ⟨o, es, ep, e, d, r⟩ => ⟨o, es, ep, down e (fun _ _ z => by rw [d] at z; cases z) (fun z => by rw [d] at z; cases z), d, r⟩
  have KB : K.In (hidT s₁.heap H) := fun b o e => hidT_get (KX b o e) (by
    cases q : H b with
    | none => rfl
    | some u =>
      rcases h3 b u q with ⟨⟨p, hp, rfl⟩, _⟩ | ⟨rfl, n, _⟩
      · rw [nT p hp] at e
        cases e
      · rw [n] at e
        cases e)
  have TB : ∀ p ∈ cs, TabB (hidT s₁.heap H) mg p.1 p.2 := fun p hp => by
    refine ⟨?_, ?_, fun z => ?_⟩
    · obtain ⟨o, us, file, tf, flags, tg, inF, text, tt, e1, r1, r2, r3, rest⟩ := C p hp
      exact ⟨o, us, file, tf, flags, tg, inF, text, tt, down e1 (fun _ _ z => by rw [r2] at z; cases z) (fun z => by rw [r2] at z; cases z; simp at r3), r1, r2, r3, rest⟩
    · obtain ⟨bm, ob, b1, b2, b3, b4, b5, b6⟩ := hbm
      refine ⟨bm, ob, b1, b2, fun q => ?_, fun q => ?_, down b3 (fun _ _ z => by rw [b6] at z; cases z) (fun z => by rw [b6] at z; cases z), b4, b5, b6⟩
      · obtain ⟨o, es, ep, e, hd, _⟩ := hns
        rw [q, e] at b3
        cases b3
        rw [hd] at b6
        cases b6
      · rw [q, hT p hp] at b3
        cases b3
        cases b6
    · obtain ⟨o, es, ep, e, hd, _⟩ := hns
      rw [z, hT p hp] at e
      cases e
      cases hd
  have tb : ∀ p ∈ cs, H p.2 = some (.tbl #[]) := fun p hp => h1 p.2 ⟨p, hp, rfl⟩
  have e0 : Env0 P w K mg (hidT s₁.heap H) callerA [] s₁ H := ⟨rfl, ⟨KB, dict hns, ⟨mb, dict hb, hbb⟩, let ⟨mc, q1, q2⟩ := hlim; ⟨mc, dict q1, q2⟩⟩, fun b o e => of_hidT e, Nat.le_of_eq (hidT_size _ _), trivial, fun b z => absurd (show b ∈ ([] : List Addr) from z) (by simp), hok, .of_eq hg⟩
  refine codeAny_mono ((F _ KB (dict hns) TB).run s₁ H a e0 (hsp H tb seq)) fun r s' h => ?_
  match r, h with
  | .error e, h => exact (hCX H e s' h).elim
  | .ok (.ret u), ⟨v, H2, os, bare, un, ok2, ru, q⟩ =>
    have q : v = .bl true := q
    subst q
    obtain rfl : u = Value.bool true := ru
    have same : ∀ b o, ¬ tab b → s₁.heap.get? b = some o → s'.heap.get? b = some o := fun b o nt e => by
      cases q : H b with
      | none => exact un.keep b o e q (fun z => absurd (show b ∈ ([] : List Addr) from z) (by simp)) (by simp)
      | some x =>
        rcases h3 b x q with ⟨t, _⟩ | ⟨rfl, _, rfl⟩
        · exact absurd t nt
        · have g1 := (hok b _ q).1
          have g2 := (ok2 b _ (un.frzs b _ _ q)).1
          rw [e] at g1
          cases g1
          exact g2
    have grow : ∀ p ∈ cs, ∃ more : Array Value, s'.heap.get? p.2 = some { cls := .none, data := .fields more } := fun p hp => by
      obtain ⟨more, z⟩ := un.tbls p.2 #[] (tb p hp)
      exact ⟨_, ok2 p.2 _ z⟩
    refine ⟨rfl, ⟨fun b o e => ?_, fun b o e => ?_⟩, os, bare⟩
    · by_cases t : tab b
      · obtain ⟨p, hp, rfl⟩ := t
        obtain ⟨more, hm⟩ := grow p hp
        rw [hT p hp] at e
        cases e
        exact .inr (.inl ⟨((C p hp).tab (hT p hp)).isCodeTable, rfl, #[], more, rfl, by rw [Array.empty_append]; exact hm⟩)
      · exact .inl (same b o t e)
    · by_cases t : tab b
      · obtain ⟨p, hp, rfl⟩ := t
        obtain ⟨more, hm⟩ := grow p hp
        exact ⟨_, hm⟩
      · exact ⟨o, same b o t e⟩
  | .ok .next, h => exact False.elim h
  | .ok .brk, h => exact False.elim h
  | .ok .cont, h => exact False.elim h
/-- what is known of the law's promise at the head's heap h -/
def LawAtG (l : PySem.W.OpenLaw) (w : World) (K : PySem.W.Frag) (CX : CXT) (n : Nat) (mg : Str → Option Value) (fa : Addr) (h : Heap) : Prop :=
  ∃ (cs : List (Addr × Addr)) (sp : Sp), (∀ p ∈ cs, h.get? p.2 = some { cls := .none, data := .fields #[] }) ∧ (∀ p ∈ cs, K.lookup p.2 = none) ∧ (∀ p ∈ cs, PySem.W.CodeHd h p.1 p.2) ∧
    (∀ (H : Hp) (a : Addr) (ns : List Int), ns.length ≤ n → (∀ p ∈ cs, H p.2 = some (.tbl #[])) → SqL K H a (ns.map V.int) → sp [.ref a] H (fun v _ => v = .bl true) fun _ _ _ => False) ∧
    ∀ base : Heap, K.In base → base.Ns mainGlobals mg → (∀ p ∈ cs, TabB base mg p.1 p.2) → RunG l.prog w K mg base CX fa sp
theorem walk_ofG {l : PySem.W.OpenLaw} {n : Nat} {q : Program} {loose : List Str} {XP : (Str → Option Value) → Heap → Prop} {YP : World → Heap → Prop} {d : DefRec} {K : Params → PySem.W.Frag} {CX : World → CXT}
    (hn : l.most = some n) (hn2 : n ≤ sizeLine) (hdf : d.params.defaults = []) (hY : ∀ (w : World) (h : Heap), YP w h → (K w.params).In h)
    (F : ∀ (w : World) (mg : Str → Option Value) (fa : Addr) (h : Heap), (K w.params).In h → h.Ns mainGlobals mg → mg d.name = some (.ref fa) → (∀ y, ((recsOf q).any fun e => e.name == y) = true → TabOf mg h y) → LawAtG l w (K w.params) (CX w) n mg fa h)
    (hCX : ∀ (w : World) (H : Hp) (s : Shared) (e : Value) (s' : Shared), CX w [] H s (fun _ _ _ => False) e s' → False) :
    PySem.W.WalkO q loose XP YP l.row.toRowW d [] (fun f vs => PySem.call f vs) := by
  refine Att.attach_callB hn hdf fun w s₀ s₁ mg mb fa o pm cd doc a vs ns G Y ho hd hcd hmg hobj hints hlen hbits hg => ?_
  have kin := hY w _ Y
  have tabs : ∀ y, ((recsOf q).any fun e => e.name == y) = true → TabOf mg s₁.heap y := fun y hy => by
    obtain ⟨dL, hm, hn1⟩ := List.any_eq_true.mp hy
    obtain rfl : dL.name = y := beq_iff_eq.mp hn1
    obtain ⟨a1, o1, fd1, c1, P1, h1, h2, h3, h4, h5, h6⟩ := G.T.tab dL hm
    exact ⟨a1, o1, fd1, c1, P1, h1, h2, h3, h4, PySem.W.CodeHd.of h5 h6, h6.2⟩
  obtain ⟨cs, sp, hT, nT, C, hsp, hF⟩ := F w mg fa _ kin G.T.g hmg tabs
  exact law_callG kin G.T.g G.T.b G.T.builtins G.T.nolimit hg hT nT C G.T.bmain hobj hints (Nat.le_trans hlen hn2) hF (fun H hH hS => hsp H a ns hlen hH hS) fun H e s' => hCX w H s₁ e s'
section
variable {P : Program} {w : World} {K : PySem.W.Frag} {mg : Str → Option Value} {base : Heap} {T : List (Addr × Str)}
/-- the law's promise from its body; the caller's guards are told -/
theorem FunT.okG {x y : Str} {st : Stmt} {f : Addr} {fd : FuncData} {N : List Str} {k : Nat} {sp : DSp} (Fn : FunT K mg base T x st f fd) (hbind : ∀ (s : Shared) (u : Value), BindsTo s fd ⟨[u], []⟩ [(y, u)]) (hr : Room (k + 1) callerA) (S : FnScope N [y] (defScope st)) (len : ∀ ds M Q E, sp ds M Q E → ds.length = ([y] : List Str).length)
    (hbody : ∀ (cdv : Value) (A : Around) (outer : List Env) (s : Shared) (H : Hp) (E : XK), LamAt (cxOf (L2.CX P w) P w K mg base N x (defScope st) f cdv A outer s H E) T → Room k (A.deeper (PyProof.Rows.envOfC x (defScope st) s.heap.objs.size f cdv)) → (A.deeper (PyProof.Rows.envOfC x (defScope st) s.heap.objs.size f cdv)).guards = some [] → ∃ t, DSs (cxOf (L2.CX P w) P w K mg base N x (defScope st) f cdv A outer s H E) (wOf T E) (defBody st) t ∧
      ∀ (ds : List D) (M : Mp) (Qd : DQ) (Ed : DXK), sp ds M Qd Ed → t { nx := fun _ M' => Fin ⟨K, T⟩ Qd .non M', rt := Fin ⟨K, T⟩ Qd, ex := fun _ C fs M' => Ed C fs M' } (dstart N ds) M) : RunG P w K mg base (L2.CX P w) f (spUp ⟨K, T⟩ sp) := by
  obtain ⟨cdv, h1, h2⟩ := Fn.ex
  obtain ⟨oc, od, dV, kV, doc, pm, an, ct, osl, rfl, lk, hcd⟩ := h1.ex
  refine ⟨fun s H a e0 hsp => ?_⟩
  have KX : K.In s.heap := e0.mod.kin.keeps fun b o e => (e0.bs b o e).1
  have lim : s.heap.NoLimit := e0.mod.nolimit.keeps fun b o e => (e0.bs b o e).1
  have rl : Vals [V.ref a] [Value.ref a] := .cons rfl .nil
  refine codeAny_call_function hr.depth (KX _ _ lk) rfl S.co S.gen rfl (PySem.W.codeRec_of KX hcd) (hbind s (.ref a) _ _ _ _ ?_)
  refine wpAny_newFunctionEnv_cells S.kind (fun ⟨n, v⟩ hy => ?_) fun env he s1 x => ?_
  · rcases S.par n (by simp at hy; simp [hy.1]) with q | q
    · exact .inl q
    · exact .inr ⟨q, PySem.W.cellsFrom_some _ _ _ (.inl q)⟩
  subst he
  refine ⟨lim.keeps x.toInCall.keep, codeAny_func ?_⟩
  obtain ⟨ds, M, F, Qd, Ed, c, r, h, kq, kx⟩ := hsp
  have hl := len _ _ _ _ h
  obtain ⟨t, ht, hb⟩ := hbody cdv callerA [] s H (fun _ _ _ => False) h2.at_ (hr.deeper _) rfl
  have I : Inv (cxOf (L2.CX P w) P w K mg base N _ (defScope st) f cdv callerA [] s H fun _ _ _ => False) [] (L2.start N [V.ref a]) H s1 := inv_start S hr.hd e0 rfl rl x
  have hpl : ([y] : List Str).length ≤ N.length := by have := congrArg List.length S.pre; rw [List.length_take] at this; omega
  have up := ht.ps
  refine wpAny_mono (up.run [] s1 (L2.start N [V.ref a]) H { nx := fun _ H' => V.non = .bl true, rt := fun v _ => v = .bl true } I ⟨dstart N ds, M, F, _, ⟨c, start_rp r (by simp at hpl ⊢; omega), fun F1 H1 σ Γ C d us fs M1 s1 c1 _ hd rf q => kx F1 H1 C d us fs M1 s1 c1 hd rf q⟩, hb ds M Qd Ed h, ?_, ?_, fun _ _ _ _ _ _ _ _ z => z.elim, fun _ _ _ _ _ _ _ _ z => z.elim⟩) (fun fl s' hs => ?_) fun e s' hs => hs
  · intro F1 H1 σ1 Γ1 M1 s1 c1 g1 q1
    obtain ⟨F3, d2, M3, s3, c3, r3, q3⟩ := q1 F1 H1 .non c1 .non
    exact kq F3 H1 _ _ _ (s1.trans s3) c3 r3 q3
  · intro F1 H1 v d M1 s1 c1 r1 q1
    obtain ⟨F3, d2, M3, s3, c3, r3, q3⟩ := q1 F1 H1 v c1 r1
    exact kq F3 H1 _ _ _ (s1.trans s3) c3 r3 q3
  · cases fl with
    | ret u =>
      obtain ⟨v, σ', H', J, rv, q⟩ := hs
      exact ⟨v, H', J.os, J.bare, J.base, J.hok, rv, q⟩
    | next =>
      obtain ⟨σ', H', J, q⟩ := hs
      cases q
    | brk =>
      obtain ⟨_, _, _, q⟩ := hs
      exact False.elim q
    | cont =>
      obtain ⟨_, _, _, q⟩ := hs
      exact False.elim q
end
/-! ### repr of data -/
section
variable {X : Cx}
def rRepr (K : PySem.W.Frag) : List V → Hp → VK → Prop := fun xs H Q => ∃ a d, xs = [V.ref a] ∧ Dp K H (.ref a) d ∧ d.showable = true ∧ d.hasDict = false ∧ d.depth ≤ 64 ∧ d.shown.length ≤ sizeLine ∧ Q (.str d.shown) H
theorem call_repr (hg : X.A.guards = some []) (hu : X.A.units + 70 < cLine) : CallR X (.builtin "repr") (rRepr X.K) := by
  intro pins s σ H xs us Q I r h
  obtain ⟨a, d, rfl, hd, h1, h2, h3, h4, q⟩ := h
  obtain ⟨u, rfl, ru⟩ := vals1 r
  obtain rfl : u = Value.ref a := ru
  obtain ⟨as, rd⟩ := Dp.reads I d (.ref a) (.ref a) hd rfl
  exact PySem.repr_of_reads' rd h1 (fun z => by rw [h2] at z; cases z) hg (by omega) (fun _ _ e => e) (fun h' u tk hk => ⟨.str _, H, I.kept hk, ⟨_, rfl⟩, q⟩) h4
end
def rdRepr : D1s := fun ds M Q => ∃ (d : D) (xs : List D), ds = [d] ∧ (res M d = .lst xs ∨ res M d = .tup xs) ∧ shD (res M d) = true ∧ (res M d).py.showable = true ∧ (res M d).py.hasDict = false ∧ (res M d).py.shown.length ≤ sizeLine ∧ Q (.str (res M d).py.shown) M
theorem real_repr {K : KTb} : Real1 K (rRepr K.K) rdRepr := fun F H M vs ds Qd Q c r ⟨d, xs, e1, e2, h1, h2, h3, h4, q⟩ k => by
  subst e1
  obtain ⟨v, rfl, rv⟩ := rps1 r
  have hd := dp_res c rv h1
  have : ∃ a, v = .ref a := by
    rcases e2 with e2 | e2
    · rw [e2] at hd
      simp only [D.py] at hd
      cases hd
      exact ⟨_, rfl⟩
    · rw [e2] at hd
      simp only [D.py] at hd
      cases hd
      exact ⟨_, rfl⟩
  obtain ⟨a, rfl⟩ := this
  have hdp : (res M d).py.depth ≤ 64 := SeqAt.depth_of_shaped h1
  exact ⟨a, _, rfl, hd, h2, h3, hdp, h4, k _ _ _ _ M (Same.refl _) c (.str _) q⟩
end DL

namespace DL
open PySem L2
theorem Room.un70 {k : Nat} {A : Around} (r : Room k A) : A.units + 70 < cLine := by have := r.un; omega
/-! ### == and != of strings -/
def rdEqS : D2 := fun x y M Q => ∃ a b, x = .str a ∧ y = .str b ∧ Q (.bl (decide (a = b))) M
def rdNeS : D2 := fun x y M Q => ∃ a b, x = .str a ∧ y = .str b ∧ Q (.bl (!decide (a = b))) M
theorem real_eqS {K : KTb} : Real2 K rEq rdEqS := fun F H M x y d e Qd Q c rx ry ⟨a, b, e1, e2, q⟩ k => by
  subst e1
  subst e2
  cases rx
  cases ry
  refine ⟨rfl, ?_⟩
  have : decide (V.str a = V.str b) = decide (a = b) := by simp
  rw [this]
  exact k _ _ _ _ M (Same.refl _) c (.bl _) q
theorem real_neS {K : KTb} : Real2 K rNe rdNeS := fun F H M x y d e Qd Q c rx ry ⟨a, b, e1, e2, q⟩ k => by
  subst e1
  subst e2
  cases rx
  cases ry
  refine ⟨rfl, ?_⟩
  have : decide (V.str a = V.str b) = decide (a = b) := by simp
  rw [this]
  exact k _ _ _ _ M (Same.refl _) c (.bl _) q
/-! ### lists of lists of small ints: repr -/
def lotD (cs : List Int) : D := .lst (cs.map D.int)
theorem lay_lotD (cs : List Int) : lay 1 (lotD cs) := lay_mapL (lay_int 0) cs
theorem showAll_of : ∀ {xs : List PyData}, (∀ x ∈ xs, x.showable = true) → PyData.showableAll xs = true
  | [], _ => by simp [PyData.showableAll]
  | x :: xs, h => by
    simp only [PyData.showableAll, Bool.and_eq_true]
    exact ⟨h x List.mem_cons_self, showAll_of fun y hy => h y (List.mem_cons_of_mem _ hy)⟩
theorem dictAll_of : ∀ {xs : List PyData}, (∀ x ∈ xs, x.hasDict = false) → PyData.hasDictAll xs = false
  | [], _ => by simp [PyData.hasDictAll]
  | x :: xs, h => by
    simp only [PyData.hasDictAll, Bool.or_eq_false_iff]
    exact ⟨h x List.mem_cons_self, dictAll_of fun y hy => h y (List.mem_cons_of_mem _ hy)⟩
theorem shortAll_of {B : Nat} : ∀ {xs : List PyData}, (∀ x ∈ xs, x.leavesShort B = true) → PyData.leavesShortAll B xs = true
  | [], _ => by simp [PyData.leavesShortAll]
  | x :: xs, h => by
    simp only [PyData.leavesShortAll, Bool.and_eq_true]
    exact ⟨h x List.mem_cons_self, shortAll_of fun y hy => h y (List.mem_cons_of_mem _ hy)⟩
theorem bulkAll_le {w : Nat} : ∀ {xs : List PyData}, (∀ x ∈ xs, x.bulk ≤ w) → PyData.bulkAll xs ≤ xs.length * (w + 1)
  | [], _ => by simp [PyData.bulkAll]
  | x :: xs, h => by
    have h1 := h x List.mem_cons_self
    have h2 := bulkAll_le (xs := xs) fun y hy => h y (List.mem_cons_of_mem _ hy)
    simp only [PyData.bulkAll, List.length_cons]
    rw [Nat.add_mul]
    omega
theorem short_small : ∀ c : _root_.Fin 1001, (PyData.shown (.int (c.val : Int))).length ≤ 8 := by decide +kernel
theorem repr_lots {L : List (List Int)} {M : Mp} {Q : DQ} {d : D} (hd : res M d = .lst (L.map lotD)) (h1 : L.length ≤ 100) (h2 : ∀ cs ∈ L, cs.length ≤ 1000 ∧ ∀ c ∈ cs, 0 ≤ c ∧ c ≤ 1000) (q : Q (.str (D.lst (L.map lotD)).py.shown) M) : rdRepr [d] M Q := by
  have hl : shD (.lst (L.map lotD)) = true := sh_of (lay_mapL lay_lotD L) (by decide)
  have ev : ∀ x ∈ (L.map lotD).map D.py, ∃ cs ∈ L, x = .list (cs.map PyData.int) := fun x hx => by
    obtain ⟨y, hy, rfl⟩ := List.mem_map.mp hx
    obtain ⟨cs, hcs, rfl⟩ := List.mem_map.mp hy
    refine ⟨cs, hcs, ?_⟩
    simp only [lotD, D.py, pys_map, List.map_map]
    congr 1
  have ep : (D.lst (L.map lotD)).py = .list ((L.map lotD).map D.py) := by simp [D.py, pys_map]
  have lg : ∀ cs ∈ L, ∀ c ∈ cs, c.natAbs.log2 < 1920 := fun cs hcs c hc => by
    have := (h2 cs hcs).2 c hc
    have h3 : c.natAbs < 2 ^ 1920 := Nat.lt_of_lt_of_le (show c.natAbs < 2 ^ 10 by omega) (Nat.pow_le_pow_right (n := 2) (by decide) (show 10 ≤ 1920 by decide))
    by_cases h0 : c.natAbs = 0
    · rw [h0]
      decide
    · exact (Nat.log2_lt h0).mpr h3
  refine ⟨d, _, rfl, .inl hd, by rw [hd]; exact hl, ?_, ?_, ?_, by rw [hd]; exact q⟩
  · rw [hd, ep]
    simp only [PyData.showable]
    refine showAll_of fun x hx => ?_
    obtain ⟨cs, hcs, rfl⟩ := ev x hx
    simp only [PyData.showable]
    refine showAll_of fun y hy => ?_
    obtain ⟨c, hc, rfl⟩ := List.mem_map.mp hy
    simp only [PyData.showable]
    exact decide_eq_true (lg cs hcs c hc)
  · rw [hd, ep]
    simp only [PyData.hasDict]
    refine dictAll_of fun x hx => ?_
    obtain ⟨cs, hcs, rfl⟩ := ev x hx
    simp only [PyData.hasDict]
    refine dictAll_of fun y hy => ?_
    obtain ⟨c, hc, rfl⟩ := List.mem_map.mp hy
    simp [PyData.hasDict]
  · rw [hd, ep]
    refine PyData.shown_fits_bulk (B := 8) (by decide) (by decide) ?_ ?_
    · simp only [PyData.leavesShort]
      refine shortAll_of fun x hx => ?_
      obtain ⟨cs, hcs, rfl⟩ := ev x hx
      simp only [PyData.leavesShort]
      refine shortAll_of fun y hy => ?_
      obtain ⟨c, hc, rfl⟩ := List.mem_map.mp hy
      have hb := (h2 cs hcs).2 c hc
      simp only [PyData.leavesShort]
      have := short_small ⟨c.toNat, by omega⟩
      rw [show ((⟨c.toNat, by omega⟩ : _root_.Fin 1001).val : Int) = c from Int.toNat_of_nonneg hb.1] at this
      exact decide_eq_true this
    · simp only [PyData.bulk]
      have h3 := bulkAll_le (w := 1000) (xs := (L.map lotD).map D.py) fun x hx => by
        obtain ⟨cs, hcs, rfl⟩ := ev x hx
        simp only [PyData.bulk]
        have h4 := bulkAll_le (w := 0) (xs := cs.map PyData.int) fun y hy => by
          obtain ⟨c, hc, rfl⟩ := List.mem_map.mp hy
          simp [PyData.bulk]
        rw [List.length_map] at h4
        have := (h2 cs hcs).1
        omega
      rw [List.length_map, List.length_map] at h3
      have : L.length * (1000 + 1) ≤ 100 * 1001 := Nat.mul_le_mul_right _ h1
      omega
end DL

namespace DL
open PySem PySem.Spec PyProof.Rows L2
/-! ### max(xs, default=d) of ints -/
theorem args_maxDf (a v : Value) : argsOk "max" ⟨[a], [(Str.ofString "default", v)]⟩ := by unfold argsOk; kernel_rfl
section
variable {prog : Program} {w : World} {A : Around} {R : Result → Shared → Prop} {I S : Addr} {fp wr : List Addr} {n : Nat} {P : Nat → Value → Prop} {St : Nat → Heap → Prop} {d : Value}
/-- what the loop has chosen so far: twice in its list -/
def bestSq : Option Value → Array Value
  | none => #[]
  | some v => #[v, v]
theorem maxD_loop (W : Walks prog w A.in1 I fp wr n P St) (bt : Nat → Nat → Bool) (hcmp : CmpOf prog w A.in1 .Gt P bt) (hSf : S ∉ fp) :
    ∀ (k j : Nat) (s : Shared) (old : Option Value) (c : Nat), n - j = k → j ≤ n → St j s.heap →
    s.heap.get? S = some { cls := .type "list", dict := none, data := .seq (bestSq old) c, slots := #[] } →
    (old = none ∧ j = 0 ∨ ∃ v, old = some v ∧ 0 < j ∧ P (argBest bt (j - 1)) v) →
    (∀ v h' tk, (n = 0 ∧ v = d ∨ 0 < n ∧ P (argBest bt (n - 1)) v) → (∀ b o, b ∉ wr → b ≠ S → s.heap.get? b = some o → h'.get? b = some o) → R (.ok (.ret v)) { s with heap := h', toks := tk }) →
    codeAny (model prog w) A (.builtin "max.loop" ⟨[.ref I, .none, .ref S], [(Str.ofString "default", d)]⟩) R s := by
  have hSw : S ∉ wr := fun h => hSf (W.sub _ h)
  have hname : (toString "max" ++ toString ".loop" : String) = "max.loop" := by decide
  intro k
  induction k with
  | zero =>
    intro j s old c hk hj hst hS ho hR
    have hin : j = n := by omega
    subst hin
    refine codeAny_builtin F.entry_max_loop ?_
    rw [Around.under_plainId F.plain_max_loop _]
    show wpAny _ A.in1 (seqItems? (.ref S) >>= _) _ _ s
    refine wpAny_bind (wpAny_seqItems hS rfl ?_)
    show wpAny _ A.in1 (tryCatch (pyNext (.ref I)) _ >>= _) _ _ s
    refine wpAny_bind (wpAny_tryCatch (W.done s _ _ hst fun h' tk hk' => ?_))
    have hS' := hk' S _ hSw hS
    rcases ho with ⟨rfl, rfl⟩ | ⟨v, rfl, h0, hP⟩
    · show wpAny _ A.in1 (rule _ >>= _) _ _ _
      exact wpAny_bind (wpAny_rule (wpAny_pure (hR d h' tk (.inl ⟨rfl, rfl⟩) fun b o hbw _ e => hk' b o hbw e)))
    · have sz2 : (bestSq (some v)).size ≤ sizeLine := by
        show 2 ≤ sizeLine
        rw [szl]
        decide
      show wpAny _ A.in1 (updateSeq S (fun _ => #[]) >>= _) _ _ _
      refine wpAny_bind ?_
      refine wpAny_updateSeq (hz := sz2) hS' rfl (wpAny_bind (wpAny_letGo (wpAny_pure ?_)))
      exact hR v _ tk (.inr ⟨h0, hP⟩) fun b o hbw hbS e => (Heap.get?_update_other _ _ (Ne.symm hbS)).trans (hk' b o hbw e)
  | succ k ih =>
    intro j s old c hk hj hst hS ho hR
    have hlt : j < n := by omega
    refine codeAny_builtin F.entry_max_loop ?_
    rw [Around.under_plainId F.plain_max_loop _]
    show wpAny _ A.in1 (seqItems? (.ref S) >>= _) _ _ s
    refine wpAny_bind (wpAny_seqItems hS rfl ?_)
    show wpAny _ A.in1 (tryCatch (pyNext (.ref I)) _ >>= _) _ _ s
    refine wpAny_bind (wpAny_tryCatch (W.item j s _ _ hlt hst fun v h' tk hP hst' hk' => ?_))
    have hS' := hk' S _ hSw hS
    rcases ho with ⟨rfl, rfl⟩ | ⟨vb, rfl, h0, hPb⟩
    · show wpAny _ A.in1 (updateSeq S (fun _ => #[v, v]) >>= _) _ _ _
      refine wpAny_bind ?_
      refine wpAny_updateSeq hS' rfl ?_
      rw [hname]
      refine wpAny_pure ⟨plainId_quiet F.plain_max_loop _, ih 1 _ (some v) _ (by omega) hlt (W.frame _ _ _ hst' fun b hbf o e => ?_) (Heap.get?_update_self _ hS' rfl) (.inr ⟨v, rfl, by decide, hP⟩) fun v' h'' tk'' hP' hk'' => ?_⟩
      · exact (Heap.get?_update_other _ _ (fun h : S = b => hSf (by rw [h]; exact hbf))).trans e
      · exact hR v' h'' tk'' hP' fun b o hbw hbS e => hk'' b o hbw hbS ((Heap.get?_update_other _ _ (Ne.symm hbS)).trans (hk' b o hbw e))
    · obtain ⟨i, rfl⟩ : ∃ i, j = i + 1 := ⟨j - 1, by omega⟩
      have hPb : P (argBest bt i) vb := hPb
      show wpAny _ A.in1 (tryCatch (holding [v, v] (richCompare .Gt v vb >>= _)) _ >>= _) _ _ _
      refine wpAny_bind (wpAny_tryCatch (wpAny_holding (wpAny_bind (hcmp (i + 1) (argBest bt i) v vb _ _ _ hP hPb ?_))))
      refine wpAny_bind (wpAny_holding (wpAny_truthy_bool ?_))
      refine wpAny_bind (wpAny_letGo (wpAny_pure ?_))
      cases hb : bt (i + 1) (argBest bt i) with
      | true =>
        simp only [if_true]
        refine wpAny_bind ?_
        have sz2 : (bestSq (some vb)).size ≤ sizeLine := by
          show 2 ≤ sizeLine
          rw [szl]
          decide
        refine wpAny_updateSeq (hz := sz2) hS' rfl (wpAny_bind (wpAny_letGo ?_))
        rw [hname]
        refine wpAny_pure ⟨plainId_quiet F.plain_max_loop _, ih (i + 2) _ (some v) _ (by omega) hlt (W.frame _ _ _ hst' fun b hbf o e => ?_) (Heap.get?_update_self _ hS' rfl) (.inr ⟨v, rfl, by omega, by show P (argBest bt (i + 1)) v; simp only [argBest, hb, if_true]; exact hP⟩)
          fun v' h'' tk'' hP' hk'' => ?_⟩
        · exact (Heap.get?_update_other _ _ (fun h : S = b => hSf (by rw [h]; exact hbf))).trans e
        · exact hR v' h'' tk'' hP' fun b o hbw hbS e => hk'' b o hbw hbS ((Heap.get?_update_other _ _ (Ne.symm hbS)).trans (hk' b o hbw e))
      | false =>
        simp only [Bool.false_eq_true, if_false]
        refine wpAny_bind (wpAny_letGo ?_)
        rw [hname]
        refine wpAny_pure ⟨plainId_quiet F.plain_max_loop _, ih (i + 2) _ (some vb) c (by omega) hlt hst' hS' (.inr ⟨vb, rfl, by omega, by show P (argBest bt (i + 1)) vb; simp only [argBest, hb, Bool.false_eq_true, if_false]; exact hPb⟩) fun v' h'' tk'' hP' hk'' => ?_⟩
        exact hR v' h'' tk'' hP' fun b o hbw hbS e => hk'' b o hbw hbS (hk' b o hbw e)
end
section
variable {prog : Program} {w : World} {A : Around} {E : Value → Shared → Prop} {s : Shared} {d : Value}
theorem maxD_walk {x : Value} {Q : Value → Shared → Prop}
    (h : wpAny (model prog w) A.in1 (pyIter x) (fun it s₂ => ∃ I fp wr n P St bt, it = .ref I ∧ Walks prog w A.in1 I fp wr n P St ∧ St 0 s₂.heap ∧ (∀ b ∈ fp, b < s₂.heap.objs.size) ∧ CmpOf prog w A.in1 .Gt P bt ∧
      ∀ v h' tk, (n = 0 ∧ v = d ∨ 0 < n ∧ P (argBest bt (n - 1)) v) → (∀ b o, b ∉ wr → s₂.heap.get? b = some o → h'.get? b = some o) → Q v { s₂ with heap := h', toks := tk }) E s) :
    wpAny (model prog w) A (call (.builtin "max") [x] [(Str.ofString "default", d)]) Q E s := by
  have hname : (toString "max" ++ toString ".loop" : String) = "max.loop" := by decide
  refine kmk_tree F.kind_max F.plain_max F.entry_max (args_maxDf _ _) ?_
  show wpAny _ A.in1 (Builtin.Builtins.bindParams "max" ["key", "default"] 0 ⟨[], [(Str.ofString "default", d)]⟩ >>= _) _ _ s
  refine wpAny_bind (wpAny_of_eq (show Builtin.Builtins.bindParams "max" ["key", "default"] 0 ⟨[], [(Str.ofString "default", d)]⟩ = pure [none, some d] from rfl) ?_)
  refine wpAny_bind (wpAny_pure ?_)
  refine wpAny_bind (wpAny_mono h (fun it s₂ h₂ => ?_) fun _ _ e => e)
  obtain ⟨I, fp, wr, n, P, St, bt, rfl, W, hst, hfp, hcmp, hQ⟩ := h₂
  refine wpAny_bind (wpAny_newObj_type ?_)
  have hSf : s₂.heap.objs.size ∉ fp := fun hm => Nat.lt_irrefl _ (hfp _ hm)
  rw [hname]
  refine wpAny_pure ⟨plainId_quiet F.plain_max_loop _, maxD_loop W bt hcmp hSf _ 0 _ none _ rfl (Nat.zero_le _) (W.frame _ _ _ hst fun b _ o e => Heap.get?_push_of_some _ e) (Heap.get?_push_size _ rfl) (.inl ⟨rfl, rfl⟩) fun v h' tk hP hk => ?_⟩
  exact hQ v h' tk hP fun b o hbw e => hk b o hbw (Nat.ne_of_lt (Heap.lt_size e)) (Heap.get?_push_of_some _ e)
theorem maxD_intList {xs : Array (Int × Tok)} {l : Addr} {Q : Value → Shared → Prop} (hh : A.handled = none) (hl : s.heap.IsList l (intItems xs))
    (h : ∀ v h' tk, (xs.size = 0 ∧ v = d ∨ 0 < xs.size ∧ (intItems xs)[argBest (fun i j => decide (numAt xs i > numAt xs j)) (xs.size - 1)]? = some v) → (∀ b o, s.heap.get? b = some o → h'.get? b = some o) → Q v { s with heap := h', toks := tk }) :
    wpAny (model prog w) A (call (.builtin "max") [.ref l] [(Str.ofString "default", d)]) Q E s := by
  refine maxD_walk (iter_intList hl fun s₂ e st hfp hlI => ?_)
  subst e
  refine ⟨_, _, _, _, _, _, _, rfl, Walks.list (A := A.in1) hh _ l hlI (intItems xs), st, hfp, CmpOf.ints_gt (numAt xs) (fun _ _ => intItems_at), fun v h' tk hP hk => ?_⟩
  exact h v h' tk (by simpa [intItems] using hP) (old_kept hk)
end
def rMaxDf (K : PySem.W.Frag) : List V → List V → Hp → VK → Prop := fun xs zs H Q => ∃ (a : Addr) (ns : List Int) (d : Int), xs = [V.ref a] ∧ zs = [V.int d] ∧ SqL K H a (ns.map V.int) ∧ (ns = [] → Q (.int d) H) ∧ ∀ m, m ∈ ns → (∀ y, y ∈ ns → y ≤ m) → Q (.int m) H
theorem cr_maxDf {X : Cx} (hc : X.calm = true) : CallRK X (.builtin "max") ["default"] (rMaxDf X.K) := by
  intro pins s σ H xs zs us ws Q I r1 r2 h
  obtain ⟨a, ns, d, rfl, rfl, hs, q0, q⟩ := h
  obtain ⟨its, rv, hl, _⟩ := I.list hs
  rw [Vals.ref1 r1]
  obtain ⟨u, rfl, t, rfl⟩ := vals1 r2
  obtain ⟨ys, e⟩ := rv.ints.allInts.items
  have hn : numsOf (intItems ys).toList = ns := by rw [← e]; exact rv.ints.numsOf
  rw [nums_intItems] at hn
  subst hn
  have hl := hl.isList
  rw [e] at hl
  refine maxD_intList (I.ok.hd hc) hl fun v h' tk hv hk => ?_
  rcases hv with ⟨hz, rfl⟩ | ⟨hp, hv⟩
  · refine ⟨.int d, H, I.kept hk, ⟨_, rfl⟩, q0 ?_⟩
    have : ys = #[] := Array.eq_empty_of_size_eq_zero hz
    rw [this]
    rfl
  · obtain ⟨t2, rfl⟩ := intItems_at hv
    obtain ⟨h1, h2⟩ := argBest_gt (numAt ys) (ys.size - 1)
    refine ⟨.int _, H, I.kept hk, ⟨_, rfl⟩, q _ ?_ fun y hy => ?_⟩
    · rw [numAt_eq]
      exact PySem.getD_mem (by rw [List.length_map, Array.length_toList]; omega)
    · obtain ⟨j, hj, rfl⟩ := mem_getD hy
      rw [List.length_map, Array.length_toList] at hj
      rw [← numAt_eq]
      exact h2 j (by omega)
/-- over data -/
def rdMaxDf : List D → List D → Mp → DQ → Prop := fun ds es M Q => ∃ (d : D) (ns : List Int) (i : Int), ds = [d] ∧ es = [.int i] ∧ sqD M d = some (ns.map D.int) ∧ (ns = [] → Q (.int i) M) ∧ ∀ m, m ∈ ns → (∀ y, y ∈ ns → y ≤ m) → Q (.int m) M
def dCBK (rd : List D → List D → Mp → DQ → Prop) (t tk : DTA) : DTE := fun Γ M Q E => t Γ M (fun ds M1 => tk Γ M1 (fun es M2 => rd ds es M2 Q) E) E
def Real1K (K : KTb) (r : List V → List V → Hp → VK → Prop) (rd : List D → List D → Mp → DQ → Prop) : Prop := ∀ (F H : Hp) (M : Mp) (xs zs : List V) (ds es : List D) (Qd : DQ) (Q : VK), Cc K M F H → Rps K F xs ds → Rps K F zs es → rd ds es M Qd → CoQ K F Qd Q → r xs zs H Q
theorem real_maxDf {K : KTb} : Real1K K (rMaxDf K.K) rdMaxDf := fun F H M xs zs ds es Qd Q c r1 r2 ⟨d, ns, i, e1, e2, hd, q0, q⟩ k => by
  subst e1
  subst e2
  obtain ⟨v, rfl, rv⟩ := rps1 r1
  obtain ⟨u, rfl, ru⟩ := rps1 r2
  cases ru
  obtain ⟨a, vs, rfl, h1, h2⟩ := sq_of c rv hd
  have ev : vs = ns.map V.int := by
    clear h1 hd q0 q k rv r1 r2
    induction ns generalizing vs with
    | nil => cases h2; rfl
    | cons n ns ih =>
      cases h2 with
      | cons a b =>
        cases a
        rw [ih _ b]
        rfl
  subst ev
  exact ⟨a, ns, i, rfl, rfl, h1, fun e => k _ _ _ _ M (Same.refl _) c (.int _) (q0 e), fun m hm hy => k _ _ _ _ M (Same.refl _) c (.int _) (q m hm hy)⟩
section
variable {X : Cx} {W : WT} {e : Expr} {es : List Expr} {pos p : Pos} {kws : List Keyword} {x : Str} {id : String} {ks : List Str}
theorem de_callBK {r : List V → List V → Hp → VK → Prop} {rd : List D → List D → Mp → DQ → Prop} {t tk : DTA} (hc : CallRK X (.builtin id) ks r) (hr : Real1K (kt X W) r rd) (hg : Gl X x) (hm : X.mg x = none) (hv : bootBuiltins x = some (.builtin id)) (ha : DA X W (e :: es) t) (hk : DK X W kws tk) (hn : x ≠ "__name__" := by decide) (hdb : (x == ("__debug__" : Str)) = false := by decide)
    (he : backTo pos (starEach (e :: es) X.env) = (false, eval e X.env) :: backTo pos (starEach es X.env) := by rfl) (hpl : (backTo pos (starEach (e :: es) X.env)).any (·.1) = false := by rfl)
    (hall : (backToKw pos (keywordEach kws X.env)).all (·.1.isSome) = true := by rfl) (hnone : (backToKw pos (keywordEach kws X.env)).any (·.1.isNone) = false := by rfl) (hks : (backToKw pos (keywordEach kws X.env)).filterMap (·.1) = ks := by rfl) :
    DE X W (.Call (.Name x p) (e :: es) kws pos) (dCBK rd t tk) :=
  ⟨peW (pe_callBK hc hg hm hv ha.pa hk.pk hn hdb he hpl hall hnone hks) fun σ H Q ⟨Γ, M, F, E, Qd, a, q, k⟩ => ⟨Γ, M, F, E, _, a, q, fun F1 H1 vs ds M1 s1 c1 r1 q1 =>
    ⟨Γ, M1, F1, E, _, a.next s1 c1, q1, fun F2 H2 zs es M2 s2 c2 r2 q2 => hr F2 H2 M2 vs zs ds es Qd Q c2 (r1.mono s2) r2 q2 (k.mono (s1.trans s2))⟩⟩⟩
end
end DL

namespace DL
open PySem L2
/-- a triple whose last part is a cell is handed back: the cell is frozen -/
theorem Fin.frzT3 {K : KTb} {Qd : DQ} {a b : D} {p : Addr} {xs : List D} {M M3 : Mp} (e : M p = some (.lst xs)) (hp : M3 p = none) (x : Ext M3 M) (h : Qd (.tup [a, b, .lst xs]) M3) : Fin K Qd (.tup [a, b, .ref p]) M := fun F H v c r => by
  obtain ⟨l, vs, rfl, h1, h2⟩ := (show ∃ l vs, v = .ref l ∧ (F l = some (.tup vs) ∨ WrT K.K l vs) ∧ Rps K F vs [a, b, .ref p] by cases r with | tup h1 h2 => exact ⟨_, _, rfl, h1, h2⟩)
  obtain ⟨F2, s, c2, r2⟩ := c.freeze e
  cases h2 with
  | cons ra h2 => cases h2 with
    | cons rb h2 => cases h2 with
      | cons rc h2 =>
        cases h2
        cases rc
        refine ⟨F2, .tup [a, b, .lst xs], M3, s, c2.less fun q u z => ?_, .tup (h1.imp_left (s _ _)) (.cons (ra.mono s) (.cons (rb.mono s) (.cons r2 .nil))), h⟩
        have ha : q ≠ p := fun y => by rw [y, hp] at z; cases z
        unfold mdel
        rw [if_neg ha]
        exact x q u z
theorem maxDf_of {d : D} {ns : List Int} {i : Int} {M : Mp} {Q : DQ} (hd : sqD M d = some (ns.map D.int)) (q : ∀ m, (ns = [] ∧ m = i ∨ m ∈ ns ∧ ∀ y, y ∈ ns → y ≤ m) → Q (.int m) M) : rdMaxDf [d] [.int i] M Q :=
  ⟨d, ns, i, rfl, rfl, hd, fun e => q i (.inl ⟨e, rfl⟩), fun m h1 h2 => q m (.inr ⟨h1, h2⟩)⟩
end DL

namespace DL
open PySem L2
theorem inDB {α : Type} [DecidableEq α] {f : α → D} {n : Nat} {x : α} {ys : List α} {d : D} {M : Mp} {Q : DQ} (hf : ∀ a, lay n (f a)) (he : ∀ a b, deq (f a) (f b) = decide (a = b)) (hr : res M (f x) = f x) (hd : sqD M d = some (ys.map f)) (hn : n ≤ 63)
    (q : ∀ b : Bool, (b = true ↔ x ∈ ys) → Q (.bl b) M) : rdIn false (f x) d M Q := (inD hf he hr hd hn).mpr (q _ (by simp))
theorem inDN {α : Type} [DecidableEq α] {f : α → D} {n : Nat} {x : α} {ys : List α} {d : D} {M : Mp} {Q : DQ} (hf : ∀ a, lay n (f a)) (he : ∀ a b, deq (f a) (f b) = decide (a = b)) (hr : res M (f x) = f x) (hd : sqD M d = some (ys.map f)) (hn : n ≤ 63)
    (q : ∀ b : Bool, (b = true ↔ x ∉ ys) → Q (.bl b) M) : rdIn true (f x) d M Q := by
  obtain ⟨zs, h1, h2, h3, q⟩ := inDB (Q := fun v M2 => ∀ b, v = .bl b → Q (.bl (!b)) M2) hf he hr hd hn fun b hb c e => by
    cases e
    refine q _ ?_
    rw [← hb]
    cases b <;> simp
  have := q _ rfl
  exact ⟨zs, h1, h2, h3, by simpa using this⟩
theorem eqNilL {α : Type} {f : α → D} {bs : List α} {M : Mp} {Q : DQ} {n : Nat} (hf : ∀ a, lay n (f a)) (hn : n ≤ 63 := by decide) : rdEq (.lst (bs.map f)) (.lst []) M Q = Q (.bl bs.isEmpty) M := by
  have h1 : shD (.lst (bs.map f)) = true := sh_of (lay_mapL hf bs) (by omega)
  have h2 : shD (.lst []) = true := sh_of (lay_mapL (f := D.int) (lay_int 0) []) (by decide)
  have h3 : deq (.lst (bs.map f)) (.lst []) = bs.isEmpty := by
    cases bs <;> simp [deq, D.py, pys, PyData.eqv, PyData.eqvAll]
  unfold rdEq
  rw [res_lst, res_lst, h1, h2, h3]
  simp
theorem GhS.two {K : KTb} {P : DG → Mp → Prop} {Γ : DG} {M : Mp} (h : GhS K (GhS K P) Γ M) : GhS K P Γ M := fun F H σ c g => by
  obtain ⟨F2, Γ2, M2, s2, c2, g2, h2⟩ := h F H σ c g
  obtain ⟨F3, Γ3, M3, s3, c3, g3, h3⟩ := h2 F2 H σ c2 g2
  exact ⟨F3, Γ3, M3, s2.trans s3, c3, g3, h3⟩
theorem cut_map {α β : Type} {f : α → β} {xs : List α} {lo hi : Option Int} : cutD (xs.map f) lo hi = (cutD xs lo hi).map f := by
  unfold cutD
  rw [List.length_map, List.map_take, List.map_drop]
theorem cut_len {α : Type} {xs : List α} {lo hi : Option Int} : (cutD xs lo hi).length ≤ xs.length := by
  unfold cutD
  rw [List.length_take, List.length_drop]
  omega
theorem cut_sub {α : Type} {xs : List α} {lo hi : Option Int} {x : α} (h : x ∈ cutD xs lo hi) : x ∈ xs := List.mem_of_mem_drop (List.mem_of_mem_take h)
theorem addSq {d : D} {xs ys : List D} {M : Mp} {Q : DQ} (h : sqX M d = some xs) (hz : xs.length + ys.length ≤ sizeLine) (q : Q (.lst (xs ++ ys)) M) : rdAdd d (.lst ys) M Q := by
  cases d with
  | lst zs =>
    cases h
    exact ⟨_, _, rfl, rfl, hz, q⟩
  | ref p => exact ⟨_, _, h, rfl, hz, q⟩
  | _ => cases h
section
variable {X : Cx} {W : WT}
/-- xs.pop() -/
def dPop (tx : DTE) : DTE := fun Γ M Q E => tx Γ M (fun d M1 => ∃ p xs y, d = .ref p ∧ M1 p = some (.lst xs) ∧ xs.getLast? = some y ∧ Q y (mup M1 p (.lst xs.dropLast))) E
theorem de_pop {xs : Expr} {apos cpos : Pos} {tx : DTE} (hx : DE X W xs tx)
    (hb : attributeBase xs "pop" X.env (eval xs X.env) = eval xs X.env := by rfl) (hl : (apos.endLine == cpos.line) = true := by rfl) :
    DE X W (.Call (.Attribute xs "pop" apos) [] [] cpos) (dPop tx) :=
  ⟨peW (pe_bm0 PySem.F.plainAttrs_list PySem.F.slot_list_pop PySem.F.type_list_pop mt_pop hx.pe hb hl) fun σ H Q ⟨Γ, M, F, E, Qd, a, q, k⟩ => ⟨Γ, M, F, E, _, a, q, fun F1 H1 v d M1 s1 c1 r1 ⟨p, xs, y, e1, e2, e3, q1⟩ => by
    subst e1
    refine ⟨ty_list c1 r1 (sqX_ref e2), ?_⟩
    cases r1
    obtain ⟨fz, o, e5, us, e6, r5⟩ := c1.ow _ _ e2
    subst e6
    have hne : xs ≠ [] := by intro e; subst e; cases e3
    have hgl : xs[xs.length - 1]? = some y := by rw [← List.getLast?_eq_getElem?]; exact e3
    obtain ⟨u, hu, ru⟩ := r5.get hgl
    refine ⟨p, us, u, rfl, rfl, e5, by rw [r5.length]; exact hu, k _ _ _ _ _ s1 (c1.write (x := .lst _) e2 ⟨_, rfl, ?_⟩) ru q1⟩
    have hd1 : us.dropLast = us.take (us.length - 1) := List.dropLast_eq_take
    have hd2 : xs.dropLast = xs.take (us.length - 1) := by rw [r5.length]; exact List.dropLast_eq_take
    rw [hd1, hd2]
    exact r5.take _⟩⟩
end
/-! ### repr of small data -/
structure RepOk (n w : Nat) (d : D) : Prop where
  l : lay n d
  s : d.py.showable = true
  h : d.py.hasDict = false
  b : d.py.leavesShort 8 = true
  k : d.py.bulk ≤ w
theorem RepOk.mono {n w n' w' : Nat} {d : D} (r : RepOk n w d) (h1 : n ≤ n') (h2 : w ≤ w') : RepOk n' w' d := ⟨⟨r.l.1, Nat.le_trans r.l.2 h1⟩, r.s, r.h, r.b, Nat.le_trans r.k h2⟩
theorem rep_int {i : Int} (h0 : 0 ≤ i) (h1 : i ≤ 1000) : RepOk 0 0 (.int i) := by
  refine ⟨lay_int 0 i, ?_, ?_, ?_, ?_⟩
  · simp only [D.py, PyData.showable]
    refine decide_eq_true ?_
    have h3 : i.natAbs < 2 ^ 1920 := Nat.lt_of_lt_of_le (show i.natAbs < 2 ^ 10 by omega) (Nat.pow_le_pow_right (n := 2) (by decide) (show 10 ≤ 1920 by decide))
    by_cases hz : i.natAbs = 0
    · rw [hz]
      decide
    · exact (Nat.log2_lt hz).mpr h3
  · simp [D.py, PyData.hasDict]
  · simp only [D.py, PyData.leavesShort]
    have := short_small ⟨i.toNat, by omega⟩
    rw [show ((⟨i.toNat, by omega⟩ : _root_.Fin 1001).val : Int) = i from Int.toNat_of_nonneg h0] at this
    exact decide_eq_true this
  · simp [D.py, PyData.bulk]
theorem rep_seq {n w : Nat} {xs : List D} (h : ∀ x ∈ xs, RepOk n w x) : RepOk (n + 1) (xs.length * (w + 1)) (.lst xs) ∧ RepOk (n + 1) (xs.length * (w + 1)) (.tup xs) := by
  have h1 : PyData.showableAll (xs.map D.py) = true := showAll_of fun y hy => by
    obtain ⟨x, hx, rfl⟩ := List.mem_map.mp hy
    exact (h x hx).s
  have h2 : PyData.hasDictAll (xs.map D.py) = false := dictAll_of fun y hy => by
    obtain ⟨x, hx, rfl⟩ := List.mem_map.mp hy
    exact (h x hx).h
  have h3 : PyData.leavesShortAll 8 (xs.map D.py) = true := shortAll_of fun y hy => by
    obtain ⟨x, hx, rfl⟩ := List.mem_map.mp hy
    exact (h x hx).b
  have h4 : PyData.bulkAll (xs.map D.py) ≤ xs.length * (w + 1) := by
    have := bulkAll_le (w := w) (xs := xs.map D.py) fun y hy => by
      obtain ⟨x, hx, rfl⟩ := List.mem_map.mp hy
      exact (h x hx).k
    rwa [List.length_map] at this
  exact ⟨⟨lay_lst fun x hx => (h x hx).l, by simp only [D.py, pys_map, PyData.showable]; exact h1, by simp only [D.py, pys_map, PyData.hasDict]; exact h2, by simp only [D.py, pys_map, PyData.leavesShort]; exact h3, by simp only [D.py, pys_map, PyData.bulk]; exact h4⟩,
    ⟨lay_tup fun x hx => (h x hx).l, by simp only [D.py, pys_map, PyData.showable]; exact h1, by simp only [D.py, pys_map, PyData.hasDict]; exact h2, by simp only [D.py, pys_map, PyData.leavesShort]; exact h3, by simp only [D.py, pys_map, PyData.bulk]; exact h4⟩⟩
theorem rep_lst {n w m : Nat} {xs : List D} (h : ∀ x ∈ xs, RepOk n w x) (hm : xs.length ≤ m) : RepOk (n + 1) (m * (w + 1)) (.lst xs) := (rep_seq h).1.mono (Nat.le_refl _) (Nat.mul_le_mul_right _ hm)
theorem rep_tup {n w m : Nat} {xs : List D} (h : ∀ x ∈ xs, RepOk n w x) (hm : xs.length ≤ m) : RepOk (n + 1) (m * (w + 1)) (.tup xs) := (rep_seq h).2.mono (Nat.le_refl _) (Nat.mul_le_mul_right _ hm)
theorem rep_mapL {α : Type} {f : α → D} {n w m : Nat} {as : List α} (h : ∀ a ∈ as, RepOk n w (f a)) (hm : as.length ≤ m) : RepOk (n + 1) (m * (w + 1)) (.lst (as.map f)) := rep_lst (fun x hx => by
  obtain ⟨a, ha, rfl⟩ := List.mem_map.mp hx
  exact h a ha) (by rw [List.length_map]; exact hm)
theorem rep_spD {s : Int × Int} (h : 0 ≤ s.1 ∧ s.1 ≤ 1000 ∧ 0 ≤ s.2 ∧ s.2 ≤ 1000) : RepOk 1 2 (spD s) := rep_tup (n := 0) (w := 0) (m := 2) (fun x hx => by
  simp only [List.mem_cons, List.not_mem_nil, or_false] at hx
  rcases hx with rfl | rfl
  · exact rep_int h.1 h.2.1
  · exact rep_int h.2.2.1 h.2.2.2) (by simp)
theorem rep_mkD {s : Int × Int × Int} (h : 0 ≤ s.1 ∧ s.1 ≤ 1000 ∧ 0 ≤ s.2.1 ∧ s.2.1 ≤ 1000 ∧ 0 ≤ s.2.2 ∧ s.2.2 ≤ 1000) : RepOk 1 3 (mkD s) := rep_tup (n := 0) (w := 0) (m := 3) (fun x hx => by
  simp only [List.mem_cons, List.not_mem_nil, or_false] at hx
  rcases hx with rfl | rfl | rfl
  · exact rep_int h.1 h.2.1
  · exact rep_int h.2.2.1 h.2.2.2.1
  · exact rep_int h.2.2.2.2.1 h.2.2.2.2.2) (by simp)
theorem repr_of {n w : Nat} {d e : D} {xs : List D} {M : Mp} {Q : DQ} (hd : res M d = e) (he : e = .lst xs ∨ e = .tup xs) (r : RepOk n w e) (hn : n ≤ 64) (hw : w ≤ 100100) (q : Q (.str e.py.shown) M) : rdRepr [d] M Q :=
  ⟨d, xs, rfl, by rw [hd]; exact he, by rw [hd]; exact sh_of r.l hn, by rw [hd]; exact r.s, by rw [hd]; exact r.h, by rw [hd]; exact PyData.shown_fits_bulk (B := 8) (by decide) (by decide) r.b (by have := r.k; omega), by rw [hd]; exact q⟩
end DL

/-! ### methods and makers where what is raised is wished for at the caller's slots -/
namespace DL
open PySem PySem.Spec PyProof.Rows L2
section
variable {X : Cx} {CX : CXT} {k : Nat} {f C : Addr} {fd : FuncData} {ps : List Str} {sp : Sp} {E : L2.St → XK} {x m : Str} {p pos apos : Pos} {e o : Expr} {es : List Expr} {ta : TE} {t : TA}
def tMethQ (C : Addr) (m : Str) (sp : Sp) (E : L2.St → XK) (ta : TE) (t : TA) : TE := fun σ H Q => ta σ H fun x H1 => ∃ a dx fs, x = .ref a ∧ H1 a = some (.ins C dx fs) ∧ fs.lookup m = none ∧ t σ H1 fun vs H2 => sp (x :: vs) H2 Q (E σ)
theorem pe_methQ {pl : Sem Bool} (hO : PE X o ta) (hC : Cls X.K C) (hM : Meth X.K C m f) (hF : FnOk X.prog X.w X.K X.mg X.base CX k f fd ps sp) (hr : Room k X.A) (hb : L2.Binds X.K fd ps []) (hx : ∀ σ, PassesAt CX X σ (E σ)) (hA : PA X (e :: es) t)
    (hst : starEach (e :: es) X.env = (false, eval e X.env) :: starEach es X.env := by rfl) (hpl : (backTo pos (starEach es X.env)).any (·.1) = false := by rfl)
    (ht : eval (.Call (.Attribute o m apos) (e :: es) [] pos) X.env = (do
      let ov ← eval o X.env
      standAt apos.atName
      let (g, fst) ← holding [ov] (getMethod ov m pl)
      callWith pos g fst (backTo pos (starEach (e :: es) X.env)) (backToKw pos (keywordEach [] X.env))) := by rfl) :
    PE X (.Call (.Attribute o m apos) (e :: es) [] pos) (tMethQ C m sp E ta t) := by
  refine ⟨fun pins s σ H Q J q0 => ?_⟩
  refine PySem.W.methodCall_KW (pl := pl) (thn (hO.run pins s σ H _ J q0) fun u s1 ⟨y, H1, J1, ry, a, dx, fs, ey, ea, l, q1⟩ => ?_) ht
  subst ey
  obtain rfl : u = Value.ref a := ry
  refine getmeth_ok J1 ea hC hM l (PySem.W.callWith_K (first := [.ref a]) (h₀ := X.base) J.ok.mod.kin hM.kp (thn (hA.run pos pins s1 σ H1 _ J1 q1) fun us s2 ⟨vs, H2, J2, r, q2⟩ => ⟨J2.kIn, ?_⟩) hst hpl)
  exact run_fnS (us := .ref a :: us) (vs := .ref a :: vs) hF hr hb (hx σ) J2 (.cons rfl r) q2
theorem pe_meth0Q {pl : Sem Bool} (hO : PE X o ta) (hC : Cls X.K C) (hM : Meth X.K C m f) (hF : FnOk X.prog X.w X.K X.mg X.base CX k f fd ps sp) (hr : Room k X.A) (hb : L2.Binds X.K fd ps []) (hx : ∀ σ, PassesAt CX X σ (E σ))
    (ht : eval (.Call (.Attribute o m apos) [] [] pos) X.env = (do
      let ov ← eval o X.env
      standAt apos.atName
      let (g, fst) ← holding [ov] (getMethod ov m pl)
      callWith pos g fst (backTo pos (starEach [] X.env)) (backToKw pos (keywordEach [] X.env))) := by rfl) :
    PE X (.Call (.Attribute o m apos) [] [] pos) (tMethQ C m sp E ta tNil) := by
  refine ⟨fun pins s σ H Q J q0 => ?_⟩
  refine PySem.W.methodCall_KW (pl := pl) (thn (hO.run pins s σ H _ J q0) fun u s1 ⟨y, H1, J1, ry, a, dx, fs, ey, ea, l, q1⟩ => ?_) ht
  subst ey
  obtain rfl : u = Value.ref a := ry
  exact getmeth_ok J1 ea hC hM l (PySem.W.callWith_K0 (first := [.ref a]) J1.kIn hM.kp (run_fnS (us := [.ref a]) (vs := [.ref a]) hF hr hb (hx σ) J1 (.cons rfl .nil) q1))
def tMakeQ (C : Addr) (sp : Sp) (E : L2.St → XK) (t : TA) : TE := fun σ H Q => t σ H fun vs H1 => ∀ y dx, H1 y = none → H1 dx = none → dx ≠ y → sp (.ref y :: vs) (upd (upd H1 dx (.own y)) y (.ins C dx [])) (fun v H2 => v = .non ∧ Q (.ref y) H2) (E σ)
/-- what is raised in __init__ is wished for where the new instance stands, too -/
theorem run_makeQ {pins : List (Addr × Obj)} {σ : L2.St} {H : Hp} {s : Shared} {Q : VK} {us : List Value} {vs : List V} (M : Mk X.K C f) (hF : FnOk X.prog X.w X.K X.mg X.base CX k f fd ps sp) (hr : Room (k + 1) X.A) (hb : L2.Binds X.K fd ps [])
    (hx : ∀ σ, PassesAt CX X σ (E σ)) (J : Inv X pins σ H s) (r : Vals vs us)
    (q : ∀ y dx, H y = none → H dx = none → dx ≠ y → sp (.ref y :: vs) (upd (upd H dx (.own y)) y (.ins C dx [])) (fun v H2 => v = .non ∧ Q (.ref y) H2) (E σ)) :
    wpAny (model X.prog X.w) X.A (call (.ref C) us) (EP X pins σ Q) X.xe s := by
  have q0 := q (s.heap.objs.size + 1) s.heap.objs.size (J.hok.fresh (Nat.le_succ _)) (J.hok.fresh (Nat.le_refl _)) (Nat.ne_of_lt (Nat.lt_succ_self _))
  have J2 := Inv.made (C := C) J
  have r2 : Vals (V.ref (s.heap.objs.size + 1) :: vs) (Value.ref (s.heap.objs.size + 1) :: us) := .cons rfl r
  have hl : (Value.ref (s.heap.objs.size + 1) :: us).length = ps.length := r2.length.symm.trans (hF.len _ _ _ _ q0)
  have bb := hb { s with heap := (s.heap.push PySem.W.emptyDict).push (PySem.W.instObj C s.heap.objs.size) } (Value.ref (s.heap.objs.size + 1) :: us) J2.kIn (by rw [List.append_nil]; exact hl)
  rw [List.append_nil] at bb
  refine wpAny_call (make_map (f := f) J.kIn M.makes M.init (beq_iff_eq.mp M.fn) (codeAny_mono (hF.run _ X.stack _ _ ⟨Value.ref (s.heap.objs.size + 1) :: us, []⟩ _ _ _ (E σ) (hr.make C us []) (J2.env0.make C us []) bb r2 q0) fun r s' hq => ?_))
  cases r with
  | error e => exact hx σ pins _ _ e s' J2 hq
  | ok fl =>
    cases fl with
    | ret u =>
      obtain ⟨v, H', J3, rv, ev, q3⟩ := J2.after hq
      subst ev
      exact ⟨rv, ⟨V.ref (s.heap.objs.size + 1), H', J3, rfl, q3⟩⟩
    | next => exact False.elim hq
    | brk => exact False.elim hq
    | cont => exact False.elim hq
theorem pe_makeQ (M : Mk X.K C f) (hF : FnOk X.prog X.w X.K X.mg X.base CX k f fd ps sp) (hr : Room (k + 1) X.A) (hg : Gl X x) (hm : X.mg x = some (.ref C)) (hb : L2.Binds X.K fd ps []) (hx : ∀ σ, PassesAt CX X σ (E σ))
    (hA : PA X (e :: es) t) (hdb : (x == ("__debug__" : Str)) = false := by decide) (he : starEach (e :: es) X.env = (false, eval e X.env) :: starEach es X.env := by rfl) (hpl : (backTo pos (starEach es X.env)).any (·.1) = false := by rfl) :
    PE X (.Call (.Name x p) (e :: es) [] pos) (tMakeQ C sp E t) := by
  refine ⟨fun pins s σ H Q J q0 => ?_⟩
  refine wpAny_Call_Name_kw (ld_glob J hg hm (PySem.W.callWith_K (h₀ := X.base) J.ok.mod.kin M.kp (thn (hA.run pos pins s σ H _ J q0) fun us s1 ⟨vs, H1, J1, r, q⟩ => ⟨J1.kIn, ?_⟩) he hpl) hdb)
  exact run_makeQ M hF hr hb hx J1 r q
end
/-! ### instances by content -/
def insD (M : Mp) : D → Option (Addr × List (Str × D))
  | .obj C fs => some (C, fs)
  | .ref p => match M p with
    | some (.ins C fs) => some (C, fs)
    | _ => none
  | _ => none
theorem ins_of {K : KTb} {M : Mp} {F H : Hp} {v : V} {d : D} {C : Addr} {fs : List (Str × D)} (c : Cc K M F H) (r : Rp K F v d) (h : insD M d = some (C, fs)) : ∃ a dx vs, v = .ref a ∧ H a = some (.ins C dx vs) ∧ RpF K F vs fs := by
  cases d with
  | obj C' fs' =>
    cases h
    cases r with
    | obj h1 h2 =>
      rcases c.fr _ _ h1 with z | ⟨⟨_, z⟩, _⟩
      · exact ⟨_, _, _, rfl, z, rpF_of h2⟩
      · cases z
  | ref p =>
    cases r
    cases e : M p with
    | none => simp [insD, e] at h
    | some x =>
      obtain ⟨_, o, h2, h3⟩ := c.ow _ _ e
      cases x with
      | ins C' fs' =>
        simp [insD, e] at h
        obtain ⟨rfl, rfl⟩ := h
        obtain ⟨dx, vs, e1, h4⟩ := h3
        exact ⟨p, dx, vs, rfl, by rw [h2, e1], h4⟩
      | _ => simp [insD, e] at h
  | _ => simp [insD] at h
theorem RpF.lookO {K : KTb} {F : Hp} {f : Str} {vs : List (Str × V)} {fs : List (Str × D)} (h : RpF K F vs fs) (e : fs.lookup f = none) : vs.lookup f = none := h.lookN e
def putD (f : Str) (v : D) : List (Str × D) → List (Str × D)
  | [] => [(f, v)]
  | (g, x) :: r => if g = f then (g, v) :: r else (g, x) :: putD f v r
theorem RpF.put {K : KTb} {F : Hp} {f : Str} {v : V} {d : D} (r : Rp K F v d) : ∀ {vs : List (Str × V)} {fs : List (Str × D)}, RpF K F vs fs → RpF K F (putF f v vs) (putD f d fs)
  | _, _, .nil => .cons ⟨rfl, r⟩ .nil
  | (g, u) :: vs, (g', u') :: fs, .cons q t => by
    obtain ⟨e1, q⟩ := q
    have e1 : g = g' := e1
    subst e1
    show RpF K F (if g = f then (g, v) :: vs else (g, u) :: putF f v vs) (if g = f then (g, d) :: fs else (g, u') :: putD f d fs)
    by_cases z : g = f
    · rw [if_pos z, if_pos z]
      exact .cons ⟨rfl, r⟩ t
    · rw [if_neg z, if_neg z]
      exact .cons ⟨rfl, q⟩ (RpF.put r t)
theorem RpF.len {K : KTb} {F : Hp} : ∀ {vs : List (Str × V)} {fs : List (Str × D)}, RpF K F vs fs → vs.length = fs.length
  | _, _, .nil => rfl
  | _, _, .cons _ t => congrArg (· + 1) (RpF.len t)
section
variable {X : Cx} {W : WT} {e o a : Expr} {es : List Expr} {pos pos' apos : Pos} {C : Addr} {f m : Str}
/-- o.f -/
def dFld (C : Addr) (f : Str) (to : DTE) : DTE := fun Γ M Q E => to Γ M (fun x M1 => ∃ fs d, insD M1 x = some (C, fs) ∧ fs.lookup f = some d ∧ Q d M1) E
theorem de_fld {to : DTE} (hC : Cls X.K C) (hn : NoAttr X.K C f) (ho : DE X W o to) (hb : attributeBase o f X.env (eval o X.env) = eval o X.env := by rfl) : DE X W (.Attribute o f pos) (dFld C f to) :=
  ⟨peW (pe_fld ho.pe hb) fun σ H Q ⟨Γ, M, F, E, Qd, a, q, k⟩ => ⟨Γ, M, F, E, _, a, q, fun F1 H1 v d M1 s1 c1 r1 ⟨fs, d1, e1, e2, q1⟩ => by
    obtain ⟨b, dx, vs, rfl, hH, rf⟩ := ins_of c1 r1 e1
    obtain ⟨u, l1, l2⟩ := rf.look e2
    exact ⟨b, C, dx, vs, u, rfl, hH, hC, hn, l1, k F1 H1 u d1 M1 s1 c1 l2 q1⟩⟩⟩
/-- o.f = e -/
def dPut (C : Addr) (f : Str) (to te : DTE) : DTS := fun Dn Γ M => te Γ M (fun d M1 => to Γ M1 (fun x M2 => ∃ p fs, x = .ref p ∧ M2 p = some (.ins C fs) ∧ fs.length < 1000 ∧ Dn.nx Γ (mup M2 p (.ins C (putD f d fs)))) Dn.ex) Dn.ex
theorem ds_put {to te : DTE} (hC : Cls X.K C) (hn : NoAttr X.K C f) (ho : DE X W o to) (he : DE X W e te) (hs : swapsWith e (some (.Attribute o f pos')) pos.line X.env = pure false := by rfl) : DS X W (.Assign [.Attribute o f pos'] e pos) (dPut C f to te) :=
  ⟨psW (ps_fld ho.pe he.pe hs) fun E σ H ⟨Γ, M, F, Dn, a, h, k⟩ => ⟨Γ, M, F, _, _, a, h, fun F1 H1 v d M1 s1 c1 r1 q1 => ⟨Γ, M1, F1, _, _, a.next s1 c1, q1, fun F2 H2 w x M2 s2 c2 r2 ⟨p, fs, e1, e2, hl, q2⟩ => by
    subst e1
    cases r2
    obtain ⟨fz, u, h2, dx, vs, e3, rf⟩ := c2.ow _ _ e2
    subst e3
    exact ⟨p, C, dx, vs, rfl, h2, hC, hn, by rw [rf.len]; exact hl, k.nx F2 _ _ _ _ (s1.trans s2) (c2.write (x := .ins C (putD f d fs)) e2 ⟨dx, _, rfl, rf.put (r1.mono s2)⟩) (a.g.mono (s1.trans s2)) q2⟩⟩⟩⟩
end
/-! ### methods -/
section
variable {P : Program} {w : World} {K : PySem.W.Frag} {T : List (Addr × Str)} {mg : Str → Option Value} {base : Heap}
/-- the method m of the class at C, as it stands in the text -/
structure MethAt (K : PySem.W.Frag) (C : Addr) (m qual : Str) (st : Stmt) (ps : List Str) : Prop where
  ex : ∃ f fd, Meth K C m f ∧ FunK K m qual st f fd ∧ L2.Binds K fd ps []
/-- it keeps a promise over data -/
structure Mfk (P : Program) (w : World) (K : PySem.W.Frag) (mg : Str → Option Value) (base : Heap) (T : List (Addr × Str)) (C : Addr) (m : Str) (k : Nat) (ps : List Str) (sp : DSp) : Prop where
  ex : ∃ f fd, FnOk P w K mg base (L2.CX P w) k f fd ps (spUp ⟨K, T⟩ sp) ∧ Meth K C m f ∧ L2.Binds K fd ps []
theorem MethAt.ok {C : Addr} {m qual : Str} {st : Stmt} {N ps : List Str} {k : Nat} {sp : DSp} (Fn : MethAt K C m qual st ps) (S : FnScope N ps (defScope st)) (len : ∀ ds M Q E, sp ds M Q E → ds.length = ps.length)
    (hbody : ∀ (f : Addr) (cdv : Value) (A : Around) (outer : List Env) (s : Shared) (H : Hp) (E : XK), Room k (A.deeper (PyProof.Rows.envOfC qual (defScope st) s.heap.objs.size f cdv)) → ∃ t, DSs (cxOf (L2.CX P w) P w K mg base N qual (defScope st) f cdv A outer s H E) (wOf T E) (defBody st) t ∧
      ∀ (ds : List D) (M : Mp) (Qd : DQ) (Ed : DXK), sp ds M Qd Ed → t { nx := fun _ M' => Fin ⟨K, T⟩ Qd .non M', rt := Fin ⟨K, T⟩ Qd, ex := fun _ C fs M' => Ed C fs M' } (dstart N ds) M) : Mfk P w K mg base T C m (k + 1) ps sp := by
  obtain ⟨f, fd, h1, h2, h3⟩ := Fn.ex
  refine ⟨f, fd, dfn h2 S len fun cdv A outer s H E hr => ?_, h1, h3⟩
  obtain ⟨t, ht, hq⟩ := hbody f cdv A outer s H E hr
  exact ⟨t, ht, fun ds M Qd Ed F H h c => ⟨F, M, Same.refl _, c, hq ds M Qd Ed h⟩⟩
end
section
variable {X : Cx} {W : WT} {e o : Expr} {es : List Expr} {pos apos p : Pos} {C : Addr} {x m : Str}
/-- o.m(..) -/
def dMeth (C : Addr) (m : Str) (sp : DSp) (to : DTE) (t : DTA) : DTE := fun Γ M Q E => to Γ M (fun x M1 => (∃ fs, insD M1 x = some (C, fs) ∧ fs.lookup m = none) ∧ t Γ M1 (fun ds M2 => sp (x :: ds) M2 Q (fun C fs M3 => E Γ C fs M3)) E) E
theorem up_methE {sp : DSp} {F H : Hp} {M : Mp} {vs : List V} {ds : List D} {Qd : DQ} {Q : VK} {σ : L2.St} {Γ : DG} {E : DXE} (c : Cc (kt X W) M F H) (r : Rps (kt X W) F vs ds) (g : RpG (kt X W) F σ Γ) (w : Ew (kt X W) F E W.w)
    (q : sp ds M Qd (fun C fs M2 => E Γ C fs M2)) (k : CoQ (kt X W) F Qd Q) : spUp (kt X W) sp vs H Q (fun cls d H => W.w cls d σ H) :=
  ⟨ds, M, F, Qd, _, c, r, q, k, fun F' H' C d us fs M' s c hd rf q => w F' H' σ Γ C d us fs M' s c (g.mono s) hd rf q⟩
theorem de_meth {k : Nat} {ps : List Str} {sp : DSp} {to : DTE} {t : DTA} {pl : Sem Bool} (Fn : Mfk X.prog X.w X.K X.mg X.base W.T C m k ps sp) (hC : Cls X.K C) (hr : Room k X.A) (tk : Takes X W.w) (ho : DE X W o to) (ha : DA X W (e :: es) t)
    (hst : starEach (e :: es) X.env = (false, eval e X.env) :: starEach es X.env := by rfl) (hpl : (backTo pos (starEach es X.env)).any (·.1) = false := by rfl)
    (ht : eval (.Call (.Attribute o m apos) (e :: es) [] pos) X.env = (do
      let ov ← eval o X.env
      standAt apos.atName
      let (g, fst) ← holding [ov] (getMethod ov m pl)
      callWith pos g fst (backTo pos (starEach (e :: es) X.env)) (backToKw pos (keywordEach [] X.env))) := by rfl) :
    DE X W (.Call (.Attribute o m apos) (e :: es) [] pos) (dMeth C m sp to t) := by
  obtain ⟨f, fd, h1, h2, h3⟩ := Fn.ex
  exact ⟨peW (pe_methQ (E := fun σ cls d H => W.w cls d σ H) ho.pe hC h2 h1 hr h3 (fun σ => passAt tk σ) ha.pa hst hpl ht) fun σ H Q ⟨Γ, M, F, E, Qd, a, q, k⟩ => ⟨Γ, M, F, E, _, a, q, fun F1 H1 v d M1 s1 c1 r1 ⟨⟨fs, e1, e2⟩, q1⟩ => by
    obtain ⟨b, dx, vs, rfl, hH, rf⟩ := ins_of c1 r1 e1
    exact ⟨b, dx, vs, rfl, hH, rf.lookO e2, Γ, M1, F1, E, _, a.next s1 c1, q1, fun F2 H2 us ds M2 s2 c2 r2 q2 => up_methE c2 (.cons (r1.mono s2) r2) (a.g.mono (s1.trans s2)) (a.w.mono (s1.trans s2)) q2 (k.mono (s1.trans s2))⟩⟩⟩
theorem de_meth0 {k : Nat} {ps : List Str} {sp : DSp} {to : DTE} {pl : Sem Bool} (Fn : Mfk X.prog X.w X.K X.mg X.base W.T C m k ps sp) (hC : Cls X.K C) (hr : Room k X.A) (tk : Takes X W.w) (ho : DE X W o to)
    (ht : eval (.Call (.Attribute o m apos) [] [] pos) X.env = (do
      let ov ← eval o X.env
      standAt apos.atName
      let (g, fst) ← holding [ov] (getMethod ov m pl)
      callWith pos g fst (backTo pos (starEach [] X.env)) (backToKw pos (keywordEach [] X.env))) := by rfl) :
    DE X W (.Call (.Attribute o m apos) [] [] pos) (dMeth C m sp to dNil) := by
  obtain ⟨f, fd, h1, h2, h3⟩ := Fn.ex
  exact ⟨peW (pe_meth0Q (E := fun σ cls d H => W.w cls d σ H) ho.pe hC h2 h1 hr h3 (fun σ => passAt tk σ) ht) fun σ H Q ⟨Γ, M, F, E, Qd, a, q, k⟩ => ⟨Γ, M, F, E, _, a, q, fun F1 H1 v d M1 s1 c1 r1 ⟨⟨fs, e1, e2⟩, q1⟩ => by
    obtain ⟨b, dx, vs, rfl, hH, rf⟩ := ins_of c1 r1 e1
    exact ⟨b, dx, vs, rfl, hH, rf.lookO e2, up_methE c1 (.cons r1 .nil) (a.g.mono s1) (a.w.mono s1) q1 (k.mono s1)⟩⟩⟩
/-- C(..): a cell -/
def dMake (C : Addr) (sp : DSp) (t : DTA) : DTE := fun Γ M Q E => t Γ M (fun ds M1 => ∀ p, M1 p = none → sp (.ref p :: ds) (mup M1 p (.ins C [])) (fun d M2 => d = .non ∧ Q (.ref p) M2) (fun C fs M3 => E Γ C fs M3)) E
/-- a class of the text that is made by its __init__ -/
structure Mkk (P : Program) (w : World) (K : PySem.W.Frag) (mg : Str → Option Value) (base : Heap) (T : List (Addr × Str)) (x : Str) (C : Addr) (k : Nat) (ps : List Str) (sp : DSp) : Prop where
  ex : ∃ f fd, FnOk P w K mg base (L2.CX P w) k f fd ps (spUp ⟨K, T⟩ sp) ∧ Mk K C f ∧ L2.Binds K fd ps [] ∧ mg x = some (.ref C)
theorem de_make {k : Nat} {ps : List Str} {sp : DSp} {t : DTA} (Fn : Mkk X.prog X.w X.K X.mg X.base W.T x C k ps sp) (hr : Room (k + 1) X.A) (tk : Takes X W.w) (ha : DA X W (e :: es) t)
    (hg : Gl X x := by rfl) (hdb : (x == ("__debug__" : Str)) = false := by decide) (he : starEach (e :: es) X.env = (false, eval e X.env) :: starEach es X.env := by rfl) (hpl : (backTo pos (starEach es X.env)).any (·.1) = false := by rfl) :
    DE X W (.Call (.Name x p) (e :: es) [] pos) (dMake C sp t) := by
  obtain ⟨f, fd, h1, h2, h3, h4⟩ := Fn.ex
  exact ⟨peW (pe_makeQ (E := fun σ cls d H => W.w cls d σ H) h2 h1 hr hg h4 h3 (fun σ => passAt tk σ) ha.pa hdb he hpl) fun σ H Q ⟨Γ, M, F, E, Qd, a, q, k⟩ => ⟨Γ, M, F, E, _, a, q, fun F1 H1 vs ds M1 s1 c1 r1 q1 y dx hy hdx hne => by
    have sm := Same.upd (o := HO.own y) hdx
    have c2 := c1.same sm
    have hy2 : upd H1 dx (HO.own y) y = none := by rw [upd_ne (Ne.symm hne)]; exact hy
    have c3 := c2.newM (x := .ins C []) hy2 (o := .ins C dx []) ⟨dx, [], rfl, .nil⟩
    refine up_methE c3 (.cons (.ref y) r1) (a.g.mono s1) (a.w.mono s1) (q1 y (c1.Mnone hy)) fun F2 H2 v d M2 s2 c4 r4 ⟨e1, q2⟩ => ?_
    subst e1
    cases r4
    exact ⟨rfl, k F2 H2 _ _ M2 (s1.trans s2) c4 (.ref y) q2⟩⟩⟩
end
/-- an instance handed back is never changed any more -/
theorem Fin.frzI {K : KTb} {Qd : DQ} {p : Addr} {C : Addr} {fs : List (Str × D)} {M M3 : Mp} (e : M p = some (.ins C fs)) (hp : M3 p = none) (x : Ext M3 M) (h : Qd (.obj C fs) M3) : Fin K Qd (.ref p) M := fun F H v c r => by
  cases r
  obtain ⟨F2, s, c2, r2⟩ := c.freezeI e
  refine ⟨F2, _, M3, s, c2.less fun a u q => ?_, r2, h⟩
  have ha : a ≠ p := fun z => by rw [z, hp] at q; cases q
  unfold mdel
  rw [if_neg ha]
  exact x a u q
end DL

/-! ### dicts whose keys are ints and texts -/
namespace DL
open PySem L2
section
variable {κ β : Type} [DecidableEq κ]
def valG (kvs : List (κ × β)) (k : κ) : Option β := (kvs.find? fun kv => decide (kv.1 = k)).map (·.2)
def putG (kvs : List (κ × β)) (k : κ) (v : β) : List (κ × β) := if (kvs.any fun kv => decide (kv.1 = k)) = true then kvs.map (fun kv => if kv.1 = k then (kv.1, v) else kv) else kvs ++ [(k, v)]
def dropG (kvs : List (κ × β)) (k : κ) : List (κ × β) := kvs.filter fun kv => decide (kv.1 ≠ k)
end
section
variable {K : KTb} {F : Hp}
theorem RpK.val {k : Key} : ∀ {vs : List (Key × V)} {ds : List (Key × D)}, RpK K F vs ds → (∀ d, valG ds k = some d → ∃ v, valV vs k = some v ∧ Rp K F v d) ∧ (valG ds k = none → valV vs k = none)
  | _, _, .nil => ⟨fun d e => (by cases e), fun _ => rfl⟩
  | (k1, v1) :: vs, (_, d1) :: ds, .cons r t => by
    obtain ⟨h1, h2⟩ := RpK.val (k := k) t
    by_cases e : k1 = k
    · have e1 : valG ((k1, d1) :: ds) k = some d1 := by simp [valG, e]
      have e2 : valV ((k1, v1) :: vs) k = some v1 := by simp [valV, e]
      rw [e1, e2]
      exact ⟨fun d z => by cases z; exact ⟨v1, rfl, r⟩, fun z => by cases z⟩
    · have e1 : valG ((k1, d1) :: ds) k = valG ds k := by simp [valG, e]
      have e2 : valV ((k1, v1) :: vs) k = valV vs k := by simp [valV, e]
      rw [e1, e2]
      exact ⟨h1, h2⟩
theorem RpK.some {k : Key} {vs : List (Key × V)} {ds : List (Key × D)} (h : RpK K F vs ds) : (valV vs k).isSome = (valG ds k).isSome := by
  obtain ⟨h1, h2⟩ := h.val (k := k)
  cases e : valG ds k with
  | none => rw [h2 e]; rfl
  | some d =>
    obtain ⟨v, e2, _⟩ := h1 d e
    rw [e2]
    rfl
theorem RpK.len : ∀ {vs : List (Key × V)} {ds : List (Key × D)}, RpK K F vs ds → vs.length = ds.length
  | _, _, .nil => rfl
  | _, _, .cons _ t => congrArg (· + 1) (RpK.len t)
theorem RpK.any {k : Key} : ∀ {vs : List (Key × V)} {ds : List (Key × D)}, RpK K F vs ds → (vs.any fun kv => decide (kv.1 = k)) = (ds.any fun kv => decide (kv.1 = k))
  | _, _, .nil => rfl
  | (k1, v1) :: vs, (_, d1) :: ds, .cons r t => by
    rw [List.any_cons, List.any_cons, RpK.any t]
theorem RpK.over {k : Key} {v : V} {d : D} (r : Rp K F v d) : ∀ {vs : List (Key × V)} {ds : List (Key × D)}, RpK K F vs ds → RpK K F (vs.map fun kv => if kv.1 = k then (kv.1, v) else kv) (ds.map fun kv => if kv.1 = k then (kv.1, d) else kv)
  | _, _, .nil => .nil
  | (k1, v1) :: vs, (_, d1) :: ds, .cons q t => by
    rw [List.map_cons, List.map_cons]
    by_cases e : k1 = k
    · rw [if_pos e, if_pos e]
      exact .cons r (RpK.over r t)
    · rw [if_neg e, if_neg e]
      exact .cons q (RpK.over r t)
theorem RpK.app : ∀ {vs us : List (Key × V)} {ds es : List (Key × D)}, RpK K F vs ds → RpK K F us es → RpK K F (vs ++ us) (ds ++ es)
  | _, _, _, _, .nil, s => s
  | _, _, _, _, .cons r t, s => .cons r (RpK.app t s)
theorem RpK.put {k : Key} {v : V} {d : D} {vs : List (Key × V)} {ds : List (Key × D)} (r : Rp K F v d) (h : RpK K F vs ds) : RpK K F (putK vs k v) (putG ds k d) := by
  unfold putK putG
  rw [h.any]
  split
  · exact h.over r
  · exact h.app (.cons r .nil)
theorem RpK.drop {k : Key} : ∀ {vs : List (Key × V)} {ds : List (Key × D)}, RpK K F vs ds → RpK K F (dropK vs k) (dropG ds k)
  | _, _, .nil => .nil
  | (k1, v1) :: vs, (_, d1) :: ds, .cons r t => by
    unfold dropK dropG
    rw [List.filter_cons, List.filter_cons]
    by_cases e : k1 = k
    · simp only [e, ne_eq, not_true_eq_false, decide_false, Bool.false_eq_true, if_false]
      exact RpK.drop t
    · simp only [e, ne_eq, not_false_eq_true, decide_true, if_true]
      exact .cons r (RpK.drop t)
theorem RpK.get : ∀ {vs : List (Key × V)} {ds : List (Key × D)} {i : Nat} {k : Key} {d : D}, RpK K F vs ds → ds[i]? = .some (k, d) → ∃ v, vs[i]? = .some (k, v) ∧ Rp K F v d
  | _, _, _, _, _, .nil, e => by simp at e
  | (k1, v1) :: vs, (_, d1) :: ds, 0, k, d, .cons r t, e => by
    simp at e
    obtain ⟨rfl, rfl⟩ := e
    exact ⟨v1, rfl, r⟩
  | (k1, v1) :: vs, (_, d1) :: ds, i + 1, k, d, .cons r t, e => by
    obtain ⟨v, h1, h2⟩ := RpK.get (i := i) t (by simpa using e)
    exact ⟨v, by simpa using h1, h2⟩
end
/-- a dict: frozen, a cell -/
def dcD (M : Mp) : D → Option (List (Key × D))
  | .dic kvs => some kvs
  | .ref p => match M p with
    | some (.dic kvs) => some kvs
    | some (.lkd kvs _) => some kvs
    | _ => none
  | _ => none
def keyD : D → Option Key
  | .int i => some (.inl i)
  | .str x => some (.inr x)
  | _ => none
theorem key_of {K : KTb} {F : Hp} {v : V} {d : D} {k : Key} (r : Rp K F v d) (h : keyD d = some k) : v = kV k := by
  cases d <;> simp [keyD] at h
  · subst h; cases r; rfl
  · subst h; cases r; rfl
theorem dc_of {K : KTb} {M : Mp} {F H : Hp} {v : V} {d : D} {kvs : List (Key × D)} (c : Cc K M F H) (r : Rp K F v d) (h : dcD M d = some kvs) : ∃ a vs, v = .ref a ∧ Rd H a (.dK vs) ∧ RpK K F vs kvs := by
  cases d with
  | dic ks =>
    cases h
    cases r with
    | dic h1 h2 => exact ⟨_, _, rfl, (c.fr _ _ h1).rd, h2⟩
  | ref p =>
    cases r
    cases e : M p with
    | none => simp [dcD, e] at h
    | some x =>
      obtain ⟨_, o, h2, h3⟩ := c.ow _ _ e
      cases x with
      | dic ks =>
        simp [dcD, e] at h
        subst h
        obtain ⟨vs, e1, h4⟩ := h3
        exact ⟨p, vs, rfl, .inl (by rw [h2, e1]), h4⟩
      | lkd ks u =>
        simp [dcD, e] at h
        subst h
        obtain ⟨e0, od, vs, e1, h4⟩ := h3
        subst e0
        exact ⟨p, vs, rfl, .inr ⟨od, by rw [h2, e1]⟩, h4⟩
      | _ => simp [dcD, e] at h
  | _ => simp [dcD] at h
section
variable {X : Cx} {W : WT} {e a b o i tg : Expr} {pos pos' tpos : Pos}
/-- {} -/
def dDnew : DTE := fun _ M Q _ => ∀ p, M p = none → Q (.ref p) (mup M p (.dic []))
theorem de_dnew : DE X W (.Dict [] [] pos) dDnew := ⟨peW pe_dnewK fun σ H Q ⟨Γ, M, F, E, Qd, a, q, k⟩ p hp => k _ _ _ _ _ (Same.refl _) (a.c.newM (x := .dic []) hp ⟨[], rfl, .nil⟩) (.ref p) (q p (a.c.Mnone hp))⟩
/-- k in d -/
def dDin (neg : Bool) (ty td : DTE) : DTE := fun Γ M Q E => ty Γ M (fun x M1 => td Γ M1 (fun y M2 => ∃ kvs k, dcD M2 y = some kvs ∧ keyD x = some k ∧ Q (.bl (if neg = true then !(valG kvs k).isSome else (valG kvs k).isSome)) M2) E) E
theorem upDin {neg : Bool} {ty td : DTE} {σ : St} {H : Hp} {Q : VK} (h : upE (kt X W) W.w (dDin neg ty td) σ H Q) : upE (kt X W) W.w ty σ H fun y H1 => upE (kt X W) W.w td σ H1 fun x H2 => ∃ a o, x = .ref a ∧ DGet H2 a y o ∧ Q (.bl (if neg = true then !o.isSome else o.isSome)) H2 := by
  obtain ⟨Γ, M, F, E, Qd, a, q, k⟩ := h
  refine ⟨Γ, M, F, E, _, a, q, fun F1 H1 v d M1 s1 c1 r1 q1 => ⟨Γ, M1, F1, E, _, a.next s1 c1, q1, fun F2 H2 u d2 M2 s2 c2 r2 ⟨kvs, ky, e1, e2, q2⟩ => ?_⟩⟩
  obtain ⟨b, vs, rfl, hR, rk⟩ := dc_of c2 r2 e1
  have ev := key_of (r1.mono s2) e2
  subst ev
  refine ⟨b, valV vs ky, rfl, .inl ⟨vs, ky, hR, rfl, rfl⟩, ?_⟩
  rw [rk.some]
  exact k F2 H2 _ _ M2 (s1.trans s2) c2 (.bl _) q2
theorem de_din {ty td : DTE} (hu : X.A.units + 1 < cLine) (hi : DE X W i ty) (ho : DE X W o td) (hm : behindInMarks .In o = false := by rfl) : DE X W (.Compare i [.In] [o] pos) (dDin false ty td) := ⟨peW (pe_cmp (pc_din hu hi.pe ho.pe) hm) fun _ _ _ h => upDin h⟩
theorem de_dnotin {ty td : DTE} (hu : X.A.units + 1 < cLine) (hi : DE X W i ty) (ho : DE X W o td) (hm : behindInMarks .NotIn o = false := by rfl) : DE X W (.Compare i [.NotIn] [o] pos) (dDin true ty td) := ⟨peW (pe_cmp (pc_dnotin hu hi.pe ho.pe) hm) fun _ _ _ h => upDin h⟩
theorem dt_din {ty td : DTE} (hu : X.A.units + 1 < cLine) (hi : DE X W i ty) (ho : DE X W o td) (hm : behindInMarks .In o = false := by rfl) : DT X W (.Compare i [.In] [o] pos) (dTest (dDin false ty td)) :=
  ⟨ptW (pt_cmp (pc_din hu hi.pe ho.pe) hm) fun σ H Q q => upDin (upTest q)⟩
theorem dt_dnotin {ty td : DTE} (hu : X.A.units + 1 < cLine) (hi : DE X W i ty) (ho : DE X W o td) (hm : behindInMarks .NotIn o = false := by rfl) : DT X W (.Compare i [.NotIn] [o] pos) (dTest (dDin true ty td)) :=
  ⟨ptW (pt_cmp (pc_dnotin hu hi.pe ho.pe) hm) fun σ H Q q => upDin (upTest q)⟩
/-- d[k] -/
def dDget (td ty : DTE) : DTE := fun Γ M Q E => td Γ M (fun x M1 => ty Γ M1 (fun y M2 => ∃ kvs k d, dcD M2 x = some kvs ∧ keyD y = some k ∧ valG kvs k = some d ∧ Q d M2) E) E
theorem de_dget {td ty : DTE} (hu : X.A.units + 1 < cLine) (ho : DE X W o td) (hi : DE X W i ty) (hs : NoSl i := by exact fun _ _ => rfl) : DE X W (.Subscript o i pos) (dDget td ty) :=
  ⟨peW (pe_dget hu ho.pe hi.pe hs) fun σ H Q ⟨Γ, M, F, E, Qd, a, q, k⟩ => ⟨Γ, M, F, E, _, a, q, fun F1 H1 v d M1 s1 c1 r1 q1 => ⟨Γ, M1, F1, E, _, a.next s1 c1, q1, fun F2 H2 u d2 M2 s2 c2 r2 ⟨kvs, ky, x, e1, e2, e3, q2⟩ => by
    obtain ⟨b, vs, rfl, hR, rk⟩ := dc_of c2 (r1.mono s2) e1
    have ev := key_of r2 e2
    subst ev
    obtain ⟨z, h1, h2⟩ := rk.val.1 x e3
    exact ⟨b, z, rfl, .inl ⟨vs, ky, hR, rfl, h1.symm⟩, k F2 H2 z x M2 (s1.trans s2) c2 h2 q2⟩⟩⟩⟩
/-- d[k] = v -/
def dDput (td ty tv : DTE) : DTS := fun Dn Γ M => tv Γ M (fun v M1 => td Γ M1 (fun x M2 => ty Γ M2 (fun y M3 => ∃ p kvs k, x = .ref p ∧ keyD y = some k ∧ M3 p = some (.dic kvs) ∧ kvs.length < sizeLine ∧ Dn.nx Γ (mup M3 p (.dic (putG kvs k v)))) Dn.ex) Dn.ex) Dn.ex
theorem ds_dput {td ty tv : DTE} (hu : X.A.units + 1 < cLine) (ho : DE X W o td) (hi : DE X W i ty) (hv : DE X W e tv) (hs : swapsWith e (some (.Subscript o i pos')) pos.line X.env = pure false := by rfl) : DS X W (.Assign [.Subscript o i pos'] e pos) (dDput td ty tv) :=
  ⟨psW (ps_dput hu ho.pe hi.pe hv.pe hs) fun E σ H ⟨Γ, M, F, Dn, a, h, k⟩ => ⟨Γ, M, F, _, _, a, h, fun F1 H1 v d M1 s1 c1 r1 q1 => ⟨Γ, M1, F1, _, _, a.next s1 c1, q1, fun F2 H2 u d2 M2 s2 c2 r2 q2 => ⟨Γ, M2, F2, _, _, a.next (s1.trans s2) c2, q2, fun F3 H3 w d3 M3 s3 c3 r3 ⟨p, kvs, ky, e1, e2, e3, hl, q3⟩ => by
    subst e1
    cases r2
    have ev := key_of r3 e2
    subst ev
    obtain ⟨fz, ob, h2, vs, e4, rk⟩ := c3.ow _ _ e3
    subst e4
    have s13 := (s1.trans s2).trans s3
    exact ⟨p, _, rfl, DPut.k h2 (by rw [rk.len]; exact hl), k.nx F3 _ _ _ _ s13 (c3.write (x := .dic _) e3 ⟨_, rfl, rk.put (r1.mono (s2.trans s3))⟩) (a.g.mono s13) q3⟩⟩⟩⟩⟩
/-- the dict in a slot is locked while the expression runs -/
def dLck (t : DTE) : DTE := fun Γ M Q E => ∃ p kvs, M p = some (.dic kvs) ∧ ∀ u, t Γ (mup M p (.lkd kvs u)) (fun x M1 => M1 p = some (.lkd kvs u) ∧ Q x (mup M1 p (.dic kvs))) noE
theorem de_lock {t : DTE} (h : DE X W e t) : DE X W e (dLck t) :=
  ⟨peW (pe_lock h.pe) fun σ H Q ⟨Γ, M, F, E, Qd, a, ⟨p, kvs, e1, q⟩, k⟩ => by
    obtain ⟨fz, ob, h2, vs, e4, rk⟩ := a.c.ow _ _ e1
    subst e4
    refine ⟨p, .dK vs, h2, True.intro, fun od => ⟨Γ, _, F, noE, _, ⟨a.c.write (x := .lkd kvs (.frz od (.dK vs))) e1 (o := .frz od (.dK vs)) ⟨rfl, od, vs, rfl, rk⟩, a.g, fun _ _ _ _ _ _ _ _ _ _ _ _ _ _ z => False.elim z⟩, q _, fun F1 H1 v d M1 s1 c1 r1 ⟨e2, q1⟩ => ?_⟩⟩
    obtain ⟨fz2, ob2, h3, e5, od2, vs2, e6, rk2⟩ := c1.ow _ _ e2
    subst e5
    cases e6
    exact ⟨h3, k F1 _ _ _ _ s1 (c1.write (x := .dic kvs) e2 (o := .dK vs) ⟨_, rfl, rk2⟩) r1 q1⟩⟩
def keyV : Key → D
  | .inl i => .int i
  | .inr x => .str x
/-- for k in d, d locked -/
def dIKeys (t : DTE) : DTI := fun Γ M R E => t Γ M (fun d M1 => ∃ p kvs u, d = .ref p ∧ M1 p = some (.lkd kvs u) ∧ kvs.length ≤ sizeLine ∧ R ⟨kvs.map fun kv => keyV kv.1, fun M2 => M2 p = some (.lkd kvs u)⟩ M1) E
theorem di_keys {t : DTE} (h : DE X W e t) : DI X W tg e (dIKeys t) := ⟨piW (pi_keys h.pe) fun σ H R ⟨Γ, M, F, E, Rd, a, q, k⟩ => ⟨Γ, M, F, E, _, a, q, fun F1 H1 v d M1 s1 c1 r1 ⟨p, kvs, u, e1, e2, hz, q1⟩ => by
  subst e1
  cases r1
  obtain ⟨fz, ob, h2, e5, od, vs, e6, rk⟩ := c1.ow _ _ e2
  subst e5
  subst e6
  refine ⟨p, od, rfl, .inl ⟨vs, h2, k F1 H1 _ _ M1 s1 c1 ⟨by rw [List.length_map]; exact hz, fun F2 H2 M2 i s2 c2 ok => ?_⟩ q1⟩⟩
  have ok : M2 p = some (.lkd kvs (.frz od (.dK vs))) := ok
  obtain ⟨fz3, ob3, h3, e7, od3, vs3, e8, rk3⟩ := c2.ow _ _ ok
  subst e7
  cases e8
  refine ⟨fun d' hd => ?_, fun hl => ⟨h3, by rw [rk.len]; rw [List.length_map] at hl; exact hl⟩⟩
  rw [List.getElem?_map, Option.map_eq_some_iff] at hd
  obtain ⟨⟨ky, x⟩, h4, rfl⟩ := hd
  obtain ⟨w, h5, _⟩ := rk3.get h4
  refine ⟨⟨h3, (List.getElem?_eq_some_iff.mp h5).1⟩, fun x2 H' y => ?_⟩
  obtain ⟨eH, k2, v2, h6, e9⟩ := y
  rw [h5] at h6
  cases h6
  subst e9
  refine ⟨F2, Same.refl _, by rw [eH]; exact c2, ?_⟩
  cases ky with
  | inl i => exact .int i
  | inr x => exact .str x⟩⟩
end
end DL

/-! ### dict comprehensions of one clause -/
namespace DL
open PySem L2
theorem wipe_in {q : Nat} : ∀ (l : List Nat) (σ : L2.St), q ∈ l → (wipe σ l).set q none = wipe σ l
  | [], _, h => by cases h
  | j :: l, σ, h => by
    show ((wipe σ l).set j none).set q none = (wipe σ l).set j none
    by_cases e : j = q
    · subst e
      rw [List.set_set]
    · have hm : q ∈ l := by
        rcases List.mem_cons.mp h with z | z
        · exact absurd z.symm e
        · exact z
      rw [List.set_comm _ _ e, wipe_in l σ hm]
theorem wipe_wipe : ∀ (l l2 : List Nat) (σ : L2.St), (∀ j ∈ l, j ∈ l2) → wipe (wipe σ l2) l = wipe σ l2
  | [], _, _, _ => rfl
  | j :: l, l2, σ, h => by
    show (wipe (wipe σ l2) l).set j none = _
    rw [wipe_wipe l l2 σ fun i hi => h i (List.mem_cons_of_mem _ hi)]
    exact wipe_in l2 σ (h j List.mem_cons_self)
def dcF (f : D → Option (Key × D)) (xs : List D) : List (Key × D) := xs.foldl (fun kvs d => match f d with | some p => putG kvs p.1 p.2 | none => kvs) []
theorem putG_len {κ β : Type} [DecidableEq κ] (kvs : List (κ × β)) (k : κ) (v : β) : (putG kvs k v).length ≤ kvs.length + 1 := by
  unfold putG
  split <;> simp
theorem dcF_snoc (f : D → Option (Key × D)) (xs : List D) (d : D) : dcF f (xs ++ [d]) = match f d with | some p => putG (dcF f xs) p.1 p.2 | none => dcF f xs := by
  unfold dcF
  rw [List.foldl_append]
  rfl
theorem dcF_len (f : D → Option (Key × D)) (xs : List D) : (dcF f xs).length ≤ xs.length := by
  have key : ∀ (xs : List D) (kvs : List (Key × D)), (xs.foldl (fun kvs d => match f d with | some p => putG kvs p.1 p.2 | none => kvs) kvs).length ≤ kvs.length + xs.length := by
    intro xs
    induction xs with
    | nil => intro kvs; exact Nat.le_refl _
    | cons x xs ih =>
      intro kvs
      rw [List.foldl_cons, List.length_cons]
      refine Nat.le_trans (ih _) ?_
      cases f x with
      | none => dsimp only; omega
      | some p =>
        have := putG_len kvs p.1 p.2
        dsimp only
        omega
  have := key xs []
  simpa [dcF] using this
section
variable {X : Cx} {W : WT} {tg : Expr} {pos : Pos}
def dDc (ti : DTI) (g : DTG) (tt : DTT) (tk tv : DTE) (vs : List Nat) : DTE := fun Γ M Q E => ti Γ M (fun it M1 => ∃ f : D → Option (Key × D), (∀ M', Ext M1 M' → it.ok M') ∧
  (∀ d, d ∈ it.seq → ∀ M', Ext M1 M' → g d (dwipe Γ vs) M' (fun Γ2 M3 => tt Γ2 M3 (fun b M4 => if b = true then tk Γ2 M4 (fun y M5 => tv Γ2 M5 (fun z M6 => M6 = M' ∧ ∃ k, keyD y = some k ∧ f d = some (k, z)) noE) noE else M4 = M' ∧ f d = none) noE)) ∧
  it.seq.length < sizeLine ∧ ∀ p, M1 p = none → Q (.ref p) (mup M1 p (.dic (dcF f it.seq)))) E
theorem upDc {ti : DTI} {g : DTG} {tt : DTT} {tk tv : DTE} {vs : List Nat} {σ : L2.St} {H : Hp} {Q : VK} (h : upE (kt X W) W.w (dDc ti g tt tk tv vs) σ H Q) :
    tDc (upI (kt X W) W.w ti) (upG (kt X W) (some vs) g) (upT (kt X W) noW tt) (upE (kt X W) noW tk) (upE (kt X W) noW tv) vs σ H Q := by
  obtain ⟨Γ, M, F, E, Qd, a, h, kq⟩ := h
  refine ⟨Γ, M, F, E, _, a, h, fun F1 H1 J it M1 s1 c1 ⟨hz, rj⟩ ⟨f, okx, body, hsz, q⟩ Dd hD => ?_⟩
  have m1 : M1 Dd = none := c1.Mnone hD
  refine ⟨fun i m H2 => m = it.seq.length - i ∧ i ≤ it.seq.length ∧ ∃ F2, Same F1 F2 ∧ Cc (kt X W) (mup M1 Dd (.dic (dcF f (it.seq.take i)))) F2 H2,
    ⟨_, rfl, Nat.zero_le _, F1, Same.refl _, c1.newM (x := .dic []) hD ⟨[], rfl, .nil⟩⟩, ?_⟩
  rintro i m H2 ⟨rfl, hi, F2, s2, c2⟩
  have ext : Ext M1 (mup M1 Dd (.dic (dcF f (it.seq.take i)))) := fun b c hb => by
    rw [mup_ne fun z => by rw [z, m1] at hb; cases hb]
    exact hb
  obtain ⟨j1, j2⟩ := rj F2 H2 _ i s2 c2 (okx _ ext)
  by_cases hlt : i < it.seq.length
  · have hget : it.seq[i]? = some it.seq[i] := List.getElem?_eq_getElem hlt
    have ht : it.seq.take (i + 1) = it.seq.take i ++ [it.seq[i]] := by rw [List.take_add_one, hget]; rfl
    obtain ⟨go, yl⟩ := j1 _ hget
    refine .inr ⟨go, fun H4 => i + 1 ≤ it.seq.length ∧ ∃ F4, Same F1 F4 ∧ Cc (kt X W) (mup M1 Dd (.dic (dcF f (it.seq.take (i + 1))))) F4 H4, fun H4 qq => ⟨_, by omega, rfl, qq⟩, fun x H' y => ?_⟩
    obtain ⟨F3, s3, c3, r3⟩ := yl x H' y
    refine ⟨_, dwipe Γ vs, _, F3, _, c3, (a.g.mono ((s1.trans s2).trans s3)).wipe vs, r3, body _ (List.getElem_mem hlt) _ ext, fun F4 H4 σ4 Γ4 M4 s4 c4 g4 w4 q4 => ⟨?_, ?_⟩⟩
    · rw [w4 vs rfl]
      exact wipe_wipe vs vs σ fun _ hh => hh
    · refine ⟨Γ4, M4, F4, noE, _, ⟨c4, g4, fun _ _ _ _ _ _ _ _ _ _ _ _ _ _ z => z⟩, q4, fun F5 H5 b M5 s5 c5 q5 => ?_⟩
      have s15 := ((s2.trans s3).trans s4).trans s5
      cases b with
      | false =>
        rw [if_neg Bool.false_ne_true] at q5
        refine iteF ?_
        obtain ⟨e5, p5⟩ := q5
        subst e5
        refine ⟨hlt, F5, s15, ?_⟩
        rw [ht, dcF_snoc, p5]
        exact c5
      | true =>
        rw [if_pos rfl] at q5
        refine iteT ?_
        refine ⟨Γ4, M5, F5, noE, _, ⟨c5, g4.mono s5, fun _ _ _ _ _ _ _ _ _ _ _ _ _ _ z => z⟩, q5, fun F6 H6 yv yd M6 s6 c6 r6 q6 => ?_⟩
        refine ⟨Γ4, M6, F6, noE, _, ⟨c6, g4.mono (s5.trans s6), fun _ _ _ _ _ _ _ _ _ _ _ _ _ _ z => z⟩, q6, fun F7 H7 zv zd M7 s7 c7 r7 ⟨e7, k, e8, e9⟩ => ?_⟩
        subst e7
        have ev := key_of (r6.mono s7) e8
        subst ev
        obtain ⟨f7, o7, e10, us7, e11, rk⟩ := c7.ow Dd _ mup_same
        subst e11
        have hln := dcF_len f (it.seq.take i)
        rw [List.length_take] at hln
        refine ⟨us7, k, rfl, e10, by rw [rk.len]; omega, hlt, F7, (s15.trans s6).trans s7, ?_⟩
        rw [ht, dcF_snoc, e9]
        have c8 := c7.write (p := Dd) (x := .dic (putG (dcF f (it.seq.take i)) k zd)) (o := .dK (putK us7 k zv)) mup_same ⟨_, rfl, rk.put r7⟩
        rw [mup_mup] at c8
        exact c8
  · have e : i = it.seq.length := by omega
    refine .inl ⟨j2 (by omega), ?_⟩
    rw [e, List.take_length] at c2
    exact kq F2 H2 _ _ _ (s1.trans s2) c2 (.ref Dd) (q Dd m1)
theorem de_dc {kx vx iter : Expr} {ifs : List Expr} {scope : Scope} {own : List (Str × Nat)} {ti : DTI} {g : DTG} {tt : DTT} {tk tv : DTE} (hc : X.calm = true) (hN : X.N.Nodup) (hi : DI X W tg iter ti) (ok : BlkOk X.N X.env.scope scope own)
    (hg : ∀ (s : Shared) (H : Hp) (C : Addr) (cl : List (Str × Addr)) (fp : List Addr), DGt (X.blk s H scope (compEnvC scope cl C X.env) fp) W.T (some (own.map (·.2))) tg g)
    (ht : ∀ (s : Shared) (H : Hp) (C : Addr) (cl : List (Str × Addr)) (fp : List Addr), DTs (X.blk s H scope (compEnvC scope cl C X.env) fp) (noT W.T) ifs tt)
    (hk : ∀ (s : Shared) (H : Hp) (C : Addr) (cl : List (Str × Addr)) (fp : List Addr), DE (X.blk s H scope (compEnvC scope cl C X.env) fp) (noT W.T) kx tk)
    (hv : ∀ (s : Shared) (H : Hp) (C : Addr) (cl : List (Str × Addr)) (fp : List Addr), DE (X.blk s H scope (compEnvC scope cl C X.env) fp) (noT W.T) vx tv)
    (hs : ∀ x, foldedSetIterable iter X.env x = pure x := by intro _; rfl) : DE X W (.DictComp kx vx [⟨tg, iter, ifs, 0⟩] scope pos) (dDc ti g tt tk tv (own.map (·.2))) :=
  ⟨peW (pe_dc hc hN hi.pi ok (fun s H C cl fp => (hg s H C cl fp).pg) (fun s H C cl fp => (ht s H C cl fp).pt) (fun s H C cl fp => (hk s H C cl fp).pe) (fun s H C cl fp => (hv s H C cl fp).pe) hs) fun _ _ _ h => upDc h⟩
end
theorem real_ip {K : KTb} {g : Int → Int → Int} : Real2 K (ipI g) (rdI fun i j => .int (g i j)) := fun F H M x y d e Qd Q c rx ry ⟨i, j, e1, e2, q⟩ k => by
  subst e1
  subst e2
  cases rx
  cases ry
  exact ⟨i, j, rfl, rfl, k F H _ _ M (Same.refl _) c (.int _) q⟩
/-- the statement runs while a dict is locked; no exception leaves it -/
def dLckS (t : DTS) : DTS := fun Dn Γ M => ∃ p kvs, M p = some (.dic kvs) ∧ ∀ u, t { nx := fun Γ' M' => M' p = some (.lkd kvs u) ∧ Dn.nx Γ' (mup M' p (.dic kvs)), rt := fun x M' => M' p = some (.lkd kvs u) ∧ Dn.rt x (mup M' p (.dic kvs)), bk := fun Γ' M' => M' p = some (.lkd kvs u) ∧ Dn.bk Γ' (mup M' p (.dic kvs)), ct := fun Γ' M' => M' p = some (.lkd kvs u) ∧ Dn.ct Γ' (mup M' p (.dic kvs)) } Γ (mup M p (.lkd kvs u))
theorem ds_lock {X : Cx} {W : WT} {st : Stmt} {t : DTS} (h : DS X W st t) : DS X W st (dLckS t) :=
  ⟨psW (ps_lock h.ps) fun E σ H ⟨Γ, M, F, Dn, a, ⟨p, kvs, e1, q⟩, k⟩ => by
    obtain ⟨fz, ob, h2, vs, e4, rk⟩ := a.c.ow _ _ e1
    subst e4
    have back : ∀ (F1 H1 : Hp) (M1 : Mp) (od : Obj), Cc (kt X W) M1 F1 H1 → M1 p = some (.lkd kvs (.frz od (.dK vs))) → H1 p = some (.frz od (.dK vs)) ∧ Cc (kt X W) (mup M1 p (.dic kvs)) F1 (upd H1 p (.dK vs)) := fun F1 H1 M1 od c1 e2 => by
      obtain ⟨fz2, ob2, h3, e5, od2, vs2, e6, rk2⟩ := c1.ow _ _ e2
      subst e5
      cases e6
      exact ⟨h3, c1.write (x := .dic kvs) e2 (o := .dK vs) ⟨_, rfl, rk2⟩⟩
    refine ⟨p, .dK vs, h2, True.intro, fun od => ⟨Γ, _, F, _, ⟨a.c.write (x := .lkd kvs (.frz od (.dK vs))) e1 (o := .frz od (.dK vs)) ⟨rfl, od, vs, rfl, rk⟩, a.g, fun _ _ _ _ _ _ _ _ _ _ _ _ _ _ z => False.elim z⟩, q _, ?_, ?_, ?_, ?_⟩⟩
    · intro F1 H1 σ1 Γ1 M1 s1 c1 g1 ⟨e2, q1⟩
      obtain ⟨h3, c2⟩ := back F1 H1 M1 od c1 e2
      exact ⟨h3, k.nx F1 _ σ1 Γ1 _ s1 c2 g1 q1⟩
    · intro F1 H1 v d M1 s1 c1 r1 ⟨e2, q1⟩
      obtain ⟨h3, c2⟩ := back F1 H1 M1 od c1 e2
      exact ⟨h3, k.rt F1 _ v d _ s1 c2 r1 q1⟩
    · intro F1 H1 σ1 Γ1 M1 s1 c1 g1 ⟨e2, q1⟩
      obtain ⟨h3, c2⟩ := back F1 H1 M1 od c1 e2
      exact ⟨h3, k.bk F1 _ σ1 Γ1 _ s1 c2 g1 q1⟩
    · intro F1 H1 σ1 Γ1 M1 s1 c1 g1 ⟨e2, q1⟩
      obtain ⟨h3, c2⟩ := back F1 H1 M1 od c1 e2
      exact ⟨h3, k.ct F1 _ σ1 Γ1 _ s1 c2 g1 q1⟩⟩
theorem _root_.L2.Room.u1 {k : Nat} {A : Around} (r : Room k A) : A.units + 1 < cLine := by have := r.units; omega
/-- what a class must have to be made, but for its __init__ -/
structure MkF (K : PySem.W.Frag) (mg : Str → Option Value) (x : Str) (C : Addr) : Prop where
  makes : PySem.W.makesIn K C = true
  kp : PySem.W.keepIn K (.ref C) = true
  at_ : mg x = some (.ref C)
theorem mkk_of {P : Program} {w : World} {K : PySem.W.Frag} {T : List (Addr × Str)} {mg : Str → Option Value} {base : Heap} {x : Str} {C : Addr} {k : Nat} {ps : List Str} {sp : DSp} (h : Mfk P w K mg base T C "__init__" k ps sp) (m : MkF K mg x C) : Mkk P w K mg base T x C k ps sp := by
  obtain ⟨f, fd, h1, h2, h3⟩ := h.ex
  exact ⟨⟨f, fd, h1, ⟨m.makes, h2.at_, h2.fn, m.kp⟩, h3, m.at_⟩⟩
theorem insF {M : Mp} {p C : Addr} {fs : List (Str × D)} : insD (mup M p (.ins C fs)) (.ref p) = some (C, fs) := by
  show (match mup M p (.ins C fs) p with | some (.ins C fs) => some (C, fs) | _ => none) = _
  rw [mup_same]
theorem dcF1 {M : Mp} {p : Addr} {kvs : List (Key × D)} : dcD (mup M p (.dic kvs)) (.ref p) = some kvs := by
  show (match mup M p (.dic kvs) p with | some (.dic kvs) => some kvs | some (.lkd kvs _) => some kvs | _ => none) = _
  rw [mup_same]
theorem insR {M : Mp} {p C : Addr} {fs : List (Str × D)} (h : M p = some (.ins C fs)) : insD M (.ref p) = some (C, fs) := by
  show (match M p with | some (.ins C fs) => some (C, fs) | _ => none) = _
  rw [h]
theorem dcR {M : Mp} {p : Addr} {kvs : List (Key × D)} (h : M p = some (.dic kvs)) : dcD M (.ref p) = some kvs := by
  show (match M p with | some (.dic kvs) => some kvs | some (.lkd kvs _) => some kvs | _ => none) = _
  rw [h]
theorem dcK {M : Mp} {p : Addr} {kvs : List (Key × D)} {u : HO} (h : M p = some (.lkd kvs u)) : dcD M (.ref p) = some kvs := by
  show (match M p with | some (.dic kvs) => some kvs | some (.lkd kvs _) => some kvs | _ => none) = _
  rw [h]
/-- len(d) -/
theorem real_lenD {K : KTb} : Real1 K (fun xs H Q => ∃ a kvs, xs = [V.ref a] ∧ H a = some (.dK kvs) ∧ Q (.int kvs.length) H) (fun ds M Q => ∃ p kvs, ds = [D.ref p] ∧ M p = some (.dic kvs) ∧ Q (.int (kvs.length : Nat)) M) := fun F H M vs ds Qd Q c r ⟨p, kvs, e1, e2, q⟩ k => by
  subst e1
  obtain ⟨v, rfl, rv⟩ := rps1 r
  cases rv
  obtain ⟨fz, o, h2, us, e3, rk⟩ := c.ow _ _ e2
  subst e3
  exact ⟨p, us, rfl, h2, by rw [rk.len]; exact k _ _ _ _ M (Same.refl _) c (.int _) q⟩
end DL

/-! ### del xs[i]; enumerate by places -/
namespace DL
open PySem L2
theorem Rps.erase {K : KTb} {F : Hp} {vs : List V} {ds : List D} (r : Rps K F vs ds) (k : Nat) : Rps K F (vs.eraseIdx k) (ds.eraseIdx k) := by
  rw [List.eraseIdx_eq_take_drop_succ, List.eraseIdx_eq_take_drop_succ]
  exact (r.take k).append (r.drop (k + 1))
section
variable {X : Cx} {W : WT} {o i : Expr} {pos tpos : Pos}
def dDelL (to ti : DTE) : DTS := fun Dn Γ M => to Γ M (fun x M1 => ti Γ M1 (fun y M2 => ∃ (p : Addr) (xs : List D) (k : Nat), x = .ref p ∧ y = .int (k : Nat) ∧ M2 p = some (.lst xs) ∧ k < xs.length ∧ xs.length ≤ 10000000 ∧ Dn.nx Γ (mup M2 p (.lst (xs.eraseIdx k)))) Dn.ex) Dn.ex
theorem ds_delL {to ti : DTE} (ho : DE X W o to) (hi : DE X W i ti) : DS X W (.Delete [.Subscript o i tpos] pos) (dDelL to ti) :=
  ⟨psW (ps_delL ho.pe hi.pe) fun E σ H ⟨Γ, M, F, Dn, a, h, kk⟩ => ⟨Γ, M, F, _, _, a, h, fun F1 H1 v d M1 s1 c1 r1 q1 => ⟨Γ, M1, F1, _, _, a.next s1 c1, q1, fun F2 H2 w x M2 s2 c2 r2 ⟨p, xs, k, e1, e2, e3, hk, hz, q2⟩ => by
    subst e1
    subst e2
    cases r1
    cases r2
    obtain ⟨fz, ob, h2, vs, e4, rk⟩ := c2.ow _ _ e3
    subst e4
    have hl : k < vs.length := by rw [rk.length]; exact hk
    have hs : seqIndex? (k : Int) vs.length = some k := by
      unfold seqIndex?
      simp
      omega
    exact ⟨p, vs, (k : Int), k, rfl, rfl, h2, by omega, by omega, hs, kk.nx F2 _ _ _ _ (s1.trans s2) (c2.write (x := .lst _) e3 ⟨_, rfl, rk.erase k⟩) (a.g.mono (s1.trans s2)) q2⟩⟩⟩⟩
end
theorem enD_rng {α : Type} (f : α → D) (d : α) (xs : List α) : enD (xs.map f) = (List.range xs.length).map fun k : Nat => D.tup [.int (k : Nat), f (xs.getD k d)] := by
  refine List.ext_getElem? fun k => ?_
  by_cases hk : k < xs.length
  · simp [enD, hk]
  · simp [enD, hk]
theorem injTup1 {g : Nat → D} : ∀ a b : Nat, D.tup [.int (a : Nat), g a] = D.tup [.int (b : Nat), g b] → a = b := fun a b h => by
  simp only [D.tup.injEq, List.cons.injEq, D.int.injEq, and_true] at h
  omega
theorem addXX {d e : D} {xs ys : List D} {M : Mp} {Q : DQ} (h : sqX M d = some xs) (g : sqX M e = some ys) (hz : xs.length + ys.length ≤ sizeLine) (q : Q (.lst (xs ++ ys)) M) : rdAdd d e M Q := by
  have nd : (∀ i, d ≠ .int i) ∧ ∀ s, d ≠ .str s := ⟨fun i e => (by rw [e] at h; cases h), fun s e => (by rw [e] at h; cases h)⟩
  unfold rdAdd
  split
  · exact absurd rfl (nd.1 _)
  · exact absurd rfl (nd.2 _)
  · exact ⟨_, _, h, g, hz, q⟩
theorem cut_last {α β : Type} {f : α → β} {xs : List α} : cutD (xs.map f) none (some (-1)) = xs.dropLast.map f := by
  unfold cutD HT.sIx
  simp only [List.length_map]
  by_cases z : xs.length = 0
  · have : xs = [] := List.length_eq_zero_iff.mp z
    rw [this]
    rfl
  · rw [if_pos (by decide)]
    simp only [List.drop_zero, Nat.sub_zero]
    rw [List.dropLast_eq_take, List.map_take]
    congr 1
    omega
theorem neNonR {α : Type} {f : α → D} {as : List α} {p : Addr} {M : Mp} {Q : DQ} {n : Nat} (hf : ∀ a, lay n (f a)) (h : M p = some (.lst (as.map f))) (hn : n ≤ 63 := by decide) (q : Q (.bl true) M) : rdNe (.ref p) .non M Q := by
  have h1 : shD (.lst (as.map f)) = true := sh_of (lay_mapL hf as) (by omega)
  have h2 : shD .non = true := sh_of (lay_non 0) (by decide)
  refine neSq (b := true) (by rw [res_ref h]; exact h1) h2 ?_ q
  rw [res_ref h]
  show deq (.lst _) .non = false
  simp [deq, D.py, PyData.eqv]
theorem neRR {α : Type} [DecidableEq α] {f : α → D} {as bs : List α} {p q : Addr} {M : Mp} {Q : DQ} {n : Nat} (hf : ∀ a, lay n (f a)) (he : ∀ a b, deq (f a) (f b) = decide (a = b)) (h : M p = some (.lst (as.map f))) (g : M q = some (.lst (bs.map f))) (hn : n ≤ 63 := by decide) (qq : Q (.bl (!decide (as = bs))) M) : rdNe (.ref p) (.ref q) M Q := by
  have h1 : shD (.lst (as.map f)) = true := sh_of (lay_mapL hf as) (by omega)
  have h2 : shD (.lst (bs.map f)) = true := sh_of (lay_mapL hf bs) (by omega)
  refine neSq (b := !decide (as = bs)) (by rw [res_ref h]; exact h1) (by rw [res_ref g]; exact h2) ?_ qq
  rw [res_ref h, res_ref g, deq_lstM he, Bool.not_not]
/-- a pair of cells handed back is never changed any more -/
theorem Fin.frzT2 {K : KTb} {Qd : DQ} {p q : Addr} {xs ys : List D} {M M3 : Mp} (e1 : M p = some (.lst xs)) (e2 : M q = some (.lst ys)) (hpq : p ≠ q) (hp : M3 p = none) (hq : M3 q = none) (x : Ext M3 M) (h : Qd (.tup [.lst xs, .lst ys]) M3) : Fin K Qd (.tup [.ref p, .ref q]) M := fun F H v c r => by
  obtain ⟨l, vs, rfl, h1, h2⟩ := (show ∃ l vs, v = .ref l ∧ (F l = some (.tup vs) ∨ WrT K.K l vs) ∧ Rps K F vs [.ref p, .ref q] by cases r with | tup h1 h2 => exact ⟨_, _, rfl, h1, h2⟩)
  obtain ⟨F2, s, c2, r2⟩ := c.freeze e1
  have e3 : mdel M p q = some (.lst ys) := by
    unfold mdel
    rw [if_neg (Ne.symm hpq)]
    exact e2
  obtain ⟨F3, s3, c3, r3⟩ := c2.freeze e3
  cases h2 with
  | cons ra h2 => cases h2 with
    | cons rb h2 =>
      cases h2
      cases ra
      cases rb
      refine ⟨F3, .tup [.lst xs, .lst ys], M3, s.trans s3, c3.less fun a u z => ?_, .tup (h1.imp_left ((s.trans s3) _ _)) (.cons (r2.mono s3) (.cons r3 .nil)), h⟩
      have n1 : a ≠ p := fun y => by rw [y, hp] at z; cases z
      have n2 : a ≠ q := fun y => by rw [y, hq] at z; cases z
      unfold mdel
      rw [if_neg n2, if_neg n1]
      exact x a u z
theorem tySq {M : Mp} {d : D} {xs : List D} (h : sqD M d = some xs) : tyD M d = some "list" := by
  rcases sq_cases h with rfl | ⟨p, rfl, e⟩ | ⟨ns, rfl, rfl⟩
  · rfl
  · show (match M p with | some (.lst _) => some "list" | _ => none) = _
    rw [e]
  · rfl
theorem neSS {α : Type} [DecidableEq α] {f : α → D} {as bs : List α} {x y : D} {M : Mp} {Q : DQ} {n : Nat} (hf : ∀ a, lay n (f a)) (he : ∀ a b, deq (f a) (f b) = decide (a = b)) (h : sqD M x = some (as.map f)) (g : sqD M y = some (bs.map f)) (hn : n ≤ 63) (qq : Q (.bl (!decide (as = bs))) M) : rdNe x y M Q := by
  have h1 : shD (.lst (as.map f)) = true := sh_of (lay_mapL hf as) (by omega)
  have h2 : shD (.lst (bs.map f)) = true := sh_of (lay_mapL hf bs) (by omega)
  refine neSq (b := !decide (as = bs)) (by rw [resSq h]; exact h1) (by rw [resSq g]; exact h2) ?_ qq
  rw [resSq h, resSq g, deq_lstM he, Bool.not_not]
theorem eqSS {α : Type} [DecidableEq α] {f : α → D} {as bs : List α} {x y : D} {M : Mp} {Q : DQ} {n : Nat} (hf : ∀ a, lay n (f a)) (he : ∀ a b, deq (f a) (f b) = decide (a = b)) (h : sqD M x = some (as.map f)) (g : sqD M y = some (bs.map f)) (hn : n ≤ 63) (qq : Q (.bl (decide (as = bs))) M) : rdEq x y M Q := by
  have h1 : shD (.lst (as.map f)) = true := sh_of (lay_mapL hf as) (by omega)
  have h2 : shD (.lst (bs.map f)) = true := sh_of (lay_mapL hf bs) (by omega)
  refine eqSq (b := decide (as = bs)) (by rw [resSq h]; exact h1) (by rw [resSq g]; exact h2) ?_ qq
  rw [resSq h, resSq g, deq_lstM he]
theorem ixSp0 {M : Mp} {s : Int × Int} : ixD M (spD s) (.int 0) = some (.int s.1) := rfl
theorem ixSp1 {M : Mp} {s : Int × Int} : ixD M (spD s) (.int 1) = some (.int s.2) := rfl
theorem ixMk0 {M : Mp} {s : Int × Int × Int} : ixD M (mkD s) (.int 0) = some (.int s.1) := rfl
theorem ixMk1 {M : Mp} {s : Int × Int × Int} : ixD M (mkD s) (.int 1) = some (.int s.2.1) := rfl
theorem ixMk2 {M : Mp} {s : Int × Int × Int} : ixD M (mkD s) (.int 2) = some (.int s.2.2) := rfl
end DL

/-! ### x in (a, b, ..): a tuple of data -/
namespace DL
open PySem PySem.Spec PyProof.Rows L2
def rInTD (K : PySem.W.Frag) : R2 := fun x y H Q => ∃ d ds, Dp K H x d ∧ Dp K H y (.tuple ds) ∧ SeqAt.shaped d = true ∧ SeqAt.shaped (.tuple ds) = true ∧ Q (.bl (ds.any fun z => PyData.eqv z d)) H
theorem op_inTD {X : Cx} (hu : X.A.units + 65 < cLine) : OpR X (compareOp .In) (rInTD X.K) := by
  intro pins s σ H x y v u Q I rx ry ⟨d, ds, hd, he, sd, se, q⟩
  obtain ⟨_, r1⟩ := Dp.reads I d x v hd rx
  obtain ⟨_, r2⟩ := Dp.reads I (.tuple ds) y u he ry
  have cl : (PyData.tuple ds).canLay0 = true := SeqAt.canLay_of_shaped se
  refine SeqAt.in_tuple_reads r2 r1 (by simpa [PyData.canLay0] using cl) (SeqAt.canLay_of_shaped sd) (room_in_shaped sd hu) ⟨.bl _, H, I, rfl, q⟩
def rdInT : D2 := fun x y M Q => ∃ ys, res M y = .tup ys ∧ shD (res M x) = true ∧ shD (.tup ys) = true ∧ Q (.bl (ys.any fun z => deq z (res M x))) M
theorem real_inT {K : KTb} : Real2 K (rInTD K.K) rdInT := fun F H M x y d e Qd Q c rx ry ⟨ys, e1, h1, h2, q⟩ k => by
  have hy := dp_res c ry (by rw [e1]; exact h2)
  rw [e1] at hy
  simp only [D.py] at hy
  refine ⟨_, pys ys, dp_res c rx h1, hy, h1, by simpa [shD, D.py] using h2, k F H _ _ M (Same.refl _) c (.bl _) ?_⟩
  rw [pys_map, List.any_map]
  simpa [deq, Function.comp_def] using q
end DL

namespace LW
open PySem L2 DL

abbrev Sp2 := Int × Int
abbrev Mk := Int × Int × Int
def okS (s : Sp2) : Prop := 0 ≤ s.1 ∧ s.1 < s.2 ∧ s.2 ≤ 400
def okM (m : Mk) : Prop := 0 ≤ m.2.1 ∧ m.2.1 < m.2.2 ∧ m.2.2 ≤ 400 ∧ m.2.1 ≤ m.1 ∧ m.1 < m.2.2
instance (s : Sp2) : Decidable (okS s) := by unfold okS; infer_instance
instance (m : Mk) : Decidable (okM m) := by unfold okM; infer_instance
/-- bound: one stretch may serve both -/
def bnd (a b : Mk) : Prop := a.2.1 ≤ a.1 ∧ a.2.1 ≤ b.1 ∧ b.2.1 ≤ a.1 ∧ b.2.1 ≤ b.1 ∧ a.1 < a.2.2 ∧ b.1 < a.2.2 ∧ a.1 < b.2.2 ∧ b.1 < b.2.2
def und (a b : Mk) : Prop := a.1 ≤ b.1 ∧ b.2.1 ≤ a.2.1 ∧ b.2.2 ≤ a.2.2
def acr (a b : Mk) : Prop := a.1 < b.1 ∧ a.2.1 < b.2.1 ∧ a.2.2 < b.2.2 ∧ bnd a b
instance (a b : Mk) : Decidable (bnd a b) := by unfold bnd; infer_instance
instance (a b : Mk) : Decidable (und a b) := by unfold und; infer_instance
instance (a b : Mk) : Decidable (acr a b) := by unfold acr; infer_instance
theorem bEq {P Q : Prop} [Decidable P] [Decidable Q] (h : P ↔ Q) : D.bl (decide P) = D.bl (decide Q) := by simp [h]

section
variable {K : KTb} {Q : DQ} {M : Mp} {p q : Prop} [Decidable p] [Decidable q]
theorem finB (h : Q (.bl (decide p)) M) (e : p ↔ q) : Fin K Q (.bl (decide q)) M := Fin.same (by rw [← bEq e]; exact h)
theorem finT (h : Q (.bl (decide p)) M) (e : p) : Fin K Q (.bl true) M := Fin.same (by rw [decide_eq_true e] at h; exact h)
theorem finF (h : Q (.bl (decide p)) M) (e : ¬ p) : Fin K Q (.bl false) M := Fin.same (by rw [decide_eq_false e] at h; exact h)
end

/-- the bag of what is drawn -/
def BagOk (ds : List D) : Prop := ∃ (ns : List Int) (i r s : Int), ds = [.lst (ns.map D.int), .int i, .int r, .int s] ∧ ns.length ≤ 63 ∧ 0 ≤ i ∧ 0 ≤ r ∧ 0 ≤ s ∧ s < 2147483629
abbrev bagC : Cell := .opq BagOk

theorem spPw {bs : List Sp2} (h : bs.Pairwise spLt) : bs.Nodup := h.imp fun {a b} z e => by
  subst e
  unfold spLt at z
  omega
theorem rise {L bs : List Sp2} {i : Nat} {x : Sp2} (hx : L[i]? = some x) (pw : L.Pairwise (fun x y => ¬ spLt y x)) (hm : ∀ y, y ∈ bs ↔ y ∈ L.take i) (hp : bs.Pairwise spLt) (hn : bs.getLast? ≠ some x) (hl : bs.getLast? = (L.take i).getLast?) : (bs ++ [x]).Pairwise spLt := by
  have hi := (List.getElem?_eq_some_iff.mp hx)
  obtain ⟨hi, ex⟩ := hi
  refine List.pairwise_append.mpr ⟨hp, List.pairwise_singleton _ _, fun y hy z hz => ?_⟩
  obtain rfl : z = x := by simpa using hz
  -- y is in the part ahead of x
  have hy2 := (hm y).mp hy
  obtain ⟨j, hj, ej⟩ := List.getElem_of_mem hy2
  rw [List.length_take] at hj
  have ej' : L[j] = y := by rw [← ej, List.getElem_take]
  have n1 : ¬ spLt z y := by
    have := List.pairwise_iff_getElem.mp pw j i (by omega) hi (by omega)
    rw [ej', ex] at this
    exact this
  -- y is not x: the last one is the greatest
  by_cases e : y = z
  · exfalso
    subst e
    have hne : bs ≠ [] := by intro z; subst z; cases hy
    have hlast := List.getLast?_eq_some_getLast hne
    have hm2 : bs.getLast hne ∈ L.take i := (hm _).mp (List.getLast_mem hne)
    obtain ⟨j2, hj2, ej2⟩ := List.getElem_of_mem hm2
    rw [List.length_take] at hj2
    have ej2' : L[j2] = bs.getLast hne := by rw [← ej2, List.getElem_take]
    have n2 : ¬ spLt y (bs.getLast hne) := by
      have := List.pairwise_iff_getElem.mp pw j2 i (by omega) hi (by omega)
      rw [ej2', ex] at this
      exact this
    have n3 : y = bs.getLast hne ∨ spLt y (bs.getLast hne) := by
      rw [← List.dropLast_concat_getLast hne] at hy hp
      rcases List.mem_append.mp hy with hy | hy
      · exact .inr ((List.pairwise_append.mp hp).2.2 y hy _ (by simp))
      · exact .inl (by simpa using hy)
    rcases n3 with n3 | n3
    · exact hn (by rw [hlast, ← n3])
    · exact n2 n3
  · unfold spLt at n1 ⊢
    have : y.1 ≠ z.1 ∨ y.2 ≠ z.2 := by
      by_cases c : y.1 = z.1
      · exact .inr fun c2 => e (Prod.ext c c2)
      · exact .inl c
    omega

/-- the marks of asks -/
def marksOf1 (s : Sp2) : List Mk := (List.range (s.2 - s.1).toNat).map fun k => (s.1 + (k : Nat), s.1, s.2)
def marksOf (bs : List Sp2) : List Mk := bs.flatMap marksOf1
theorem mem_marksOf1 {s : Sp2} {m : Mk} : m ∈ marksOf1 s ↔ (m.2.1 = s.1 ∧ m.2.2 = s.2 ∧ s.1 ≤ m.1 ∧ m.1 < s.2) := by
  unfold marksOf1
  rw [List.mem_map]
  constructor
  · rintro ⟨k, hk, rfl⟩
    rw [List.mem_range] at hk
    exact ⟨rfl, rfl, by show s.1 ≤ s.1 + (k : Int); omega, by show s.1 + (k : Int) < s.2; omega⟩
  · rintro ⟨h1, h2, h3, h4⟩
    refine ⟨(m.1 - s.1).toNat, by rw [List.mem_range]; omega, ?_⟩
    obtain ⟨a, b, c⟩ := m
    simp only at h1 h2 h3 h4
    subst h1
    subst h2
    simp
    omega
theorem mem_marksOf {bs : List Sp2} {m : Mk} : m ∈ marksOf bs ↔ (m.2.1, m.2.2) ∈ bs ∧ m.2.1 ≤ m.1 ∧ m.1 < m.2.2 := by
  unfold marksOf
  rw [List.mem_flatMap]
  constructor
  · rintro ⟨s, hs, h⟩
    obtain ⟨h1, h2, h3, h4⟩ := mem_marksOf1.mp h
    obtain ⟨a, b⟩ := s
    simp only at h1 h2 h3 h4
    subst h1
    subst h2
    exact ⟨hs, h3, h4⟩
  · rintro ⟨h1, h2, h3⟩
    exact ⟨_, h1, mem_marksOf1.mpr ⟨rfl, rfl, h2, h3⟩⟩
theorem len_marksOf {n : Nat} : ∀ {bs : List Sp2}, (∀ s ∈ bs, s.2 - s.1 ≤ n) → (marksOf bs).length ≤ bs.length * n
  | [], _ => by simp [marksOf]
  | s :: bs, h => by
    have ih := len_marksOf (bs := bs) fun t ht => h t (List.mem_cons_of_mem _ ht)
    have h1 := h s List.mem_cons_self
    have e : marksOf (s :: bs) = marksOf1 s ++ marksOf bs := by simp [marksOf]
    have e1 : (marksOf1 s).length = (s.2 - s.1).toNat := by simp [marksOf1]
    rw [e, List.length_append, e1, List.length_cons, Nat.succ_mul]
    omega
/-- the pairs of places below n -/
def pairs1 (n i : Nat) : List Sp2 := (List.range (n - (i + 1))).map fun k => ((i : Nat), (i : Int) + 1 + (k : Nat))
def pairsTo (n j : Nat) : List Sp2 := (List.range j).flatMap (pairs1 n)
theorem mem_pairs1 {n i : Nat} {p : Sp2} : p ∈ pairs1 n i ↔ p.1 = i ∧ (i : Int) < p.2 ∧ p.2 < n := by
  unfold pairs1
  rw [List.mem_map]
  constructor
  · rintro ⟨k, hk, rfl⟩
    rw [List.mem_range] at hk
    refine ⟨rfl, ?_, ?_⟩ <;> simp only <;> omega
  · rintro ⟨h1, h2, h3⟩
    refine ⟨(p.2 - i - 1).toNat, by rw [List.mem_range]; omega, ?_⟩
    obtain ⟨a, b⟩ := p
    simp only at h1 h2 h3
    subst h1
    simp
    omega
theorem mem_pairsTo {n j : Nat} {p : Sp2} (h : p ∈ pairsTo n j) : 0 ≤ p.1 ∧ p.1 < p.2 ∧ p.2 < n := by
  unfold pairsTo at h
  rw [List.mem_flatMap] at h
  obtain ⟨i, _, h⟩ := h
  obtain ⟨h1, h2, h3⟩ := mem_pairs1.mp h
  omega
theorem pairsTo_succ (n j : Nat) : pairsTo n (j + 1) = pairsTo n j ++ pairs1 n j := by
  unfold pairsTo
  rw [List.range_succ, List.flatMap_append]
  simp
theorem len_pairsTo (n j : Nat) : (pairsTo n j).length ≤ n * j := by
  induction j with
  | zero => simp [pairsTo]
  | succ j ih =>
    rw [pairsTo_succ, List.length_append, Nat.mul_succ]
    have : (pairs1 n j).length ≤ n := by simp [pairs1]
    omega

/-- no bound pair at i, j -/
def noB (ms : List Mk) (i j : Nat) : Prop := ∀ a b, ms[i]? = some a → ms[j]? = some b → ¬ bnd a b

def holds (x : Int) (s : Sp2) : Bool := decide (s.1 ≤ x) && decide (x < s.2)
def within (o a : Sp2) : Prop := a.1 ≤ o.1 ∧ o.2 ≤ a.2
instance (o a : Sp2) : Decidable (within o a) := by unfold within; infer_instance
def nar (o a : Sp2) : Bool := !decide (o = a) && decide (within o a)
def leastAt (x : Int) (as : List Sp2) : List Sp2 := (as.filter (holds x)).filter fun a => !((as.filter (holds x)).any fun o => nar o a)
theorem fm_ite {α β : Type} {f : α → β} {p : α → Bool} (xs : List α) : xs.filterMap (fun x => if p x = true then some (f x) else none) = (xs.filter p).map f := by
  induction xs with
  | nil => rfl
  | cons x xs ih =>
    by_cases h : p x = true
    · simp [h, ih]
    · simp [h, ih]
theorem mem_leastAt {x : Int} {as : List Sp2} {a : Sp2} : a ∈ leastAt x as ↔ a ∈ as ∧ a.1 ≤ x ∧ x < a.2 ∧ ∀ o ∈ as, o.1 ≤ x → x < o.2 → o ≠ a → ¬ within o a := by
  unfold leastAt nar holds
  simp only [List.mem_filter, Bool.and_eq_true, decide_eq_true_eq, Bool.not_eq_true', List.any_eq_false, Bool.not_eq_false']
  constructor
  · rintro ⟨⟨h1, h2, h3⟩, h4⟩
    refine ⟨h1, h2, h3, fun o ho q1 q2 q3 q4 => ?_⟩
    exact h4 o ⟨ho, q1, q2⟩ ⟨by simpa using q3, q4⟩
  · rintro ⟨h1, h2, h3, h4⟩
    refine ⟨⟨h1, h2, h3⟩, fun o ⟨ho, q1, q2⟩ ⟨q3, q4⟩ => h4 o ho q1 q2 (by simpa using q3) q4⟩

/-- m is a mark of as, no other ask within its own holds its cell -/
def isEss (as : List Sp2) (m : Mk) : Prop := (m.2.1, m.2.2) ∈ leastAt m.1 as
def essAt (cs : List Int) (as : List Sp2) : List Mk := cs.flatMap fun c => (leastAt c as).map fun s => (c, s.1, s.2)
theorem mem_essAt {cs : List Int} {as : List Sp2} {m : Mk} : m ∈ essAt cs as ↔ m.1 ∈ cs ∧ isEss as m := by
  unfold essAt isEss
  rw [List.mem_flatMap]
  constructor
  · rintro ⟨c, hc, h⟩
    obtain ⟨s, hs, rfl⟩ := List.mem_map.mp h
    exact ⟨hc, hs⟩
  · rintro ⟨h1, h2⟩
    exact ⟨_, h1, List.mem_map.mpr ⟨_, h2, rfl⟩⟩
theorem leastAt_len (x : Int) (as : List Sp2) : (leastAt x as).length ≤ as.length := by
  unfold leastAt
  exact Nat.le_trans (List.length_filter_le _ _) (List.length_filter_le _ _)
theorem leastAt_pw {x : Int} {as : List Sp2} (h : as.Pairwise spLt) : (leastAt x as).Pairwise spLt := by
  unfold leastAt
  exact (h.filter _).filter _
theorem all2_fl {cs : List Int} {as : List Sp2} : ∀ {rs : List (List D)}, All2 (fun d r => ∀ c : Int, d = D.int c → r = ((leastAt c as).map fun s => (c, s.1, s.2)).map mkD) (cs.map D.int) rs → rs.flatten = (essAt cs as).map mkD := by
  induction cs with
  | nil => intro rs h; cases h; rfl
  | cons c cs ih =>
    intro rs h
    cases h with
    | cons h1 h2 =>
      rw [List.flatten_cons, ih h2, h1 c rfl]
      simp [essAt]

/-- the essential marks of as, in order -/
def EssP (as : List Sp2) (ms : List Mk) : Prop := ms.Pairwise mkLt ∧ ∀ m, m ∈ ms ↔ isEss as m
theorem isEss_cong {as bs : List Sp2} (h : ∀ s, s ∈ as ↔ s ∈ bs) (m : Mk) : isEss as m ↔ isEss bs m := by
  unfold isEss
  rw [mem_leastAt, mem_leastAt, h]
  constructor
  · rintro ⟨h1, h2, h3, h4⟩
    exact ⟨h1, h2, h3, fun o ho => h4 o ((h o).mpr ho)⟩
  · rintro ⟨h1, h2, h3, h4⟩
    exact ⟨h1, h2, h3, fun o ho => h4 o ((h o).mp ho)⟩
theorem essAt_pw {as : List Sp2} (h : as.Pairwise spLt) : ∀ {cs : List Int}, cs.Pairwise (· < ·) → (essAt cs as).Pairwise mkLt
  | [], _ => by simp [essAt]
  | c :: cs, hp => by
    obtain ⟨h1, h2⟩ := List.pairwise_cons.mp hp
    have e : essAt (c :: cs) as = ((leastAt c as).map fun s => (c, s.1, s.2)) ++ essAt cs as := by simp [essAt]
    rw [e]
    refine List.pairwise_append.mpr ⟨?_, essAt_pw h h2, fun x hx y hy => ?_⟩
    · rw [List.pairwise_map]
      exact (leastAt_pw h).imp fun {a b} z => .inr ⟨rfl, z⟩
    · obtain ⟨s, _, rfl⟩ := List.mem_map.mp hx
      obtain ⟨hc, _⟩ := mem_essAt.mp hy
      exact .inl (h1 _ hc)
theorem rng_pw (a : Int) (n : Nat) : ((List.range n).map fun k => a + (k : Nat) * 1).Pairwise (· < ·) := by
  rw [List.pairwise_map]
  exact List.pairwise_lt_range.imp fun {x y} h => by omega
theorem essP_of {as L : List Sp2} {a b : Int} (hL : ∀ s, s ∈ L ↔ s ∈ as) (hp : L.Pairwise spLt) (hr : ∀ s ∈ as, a ≤ s.1 ∧ s.2 ≤ b) : EssP as (essAt ((List.range (b - a).toNat).map fun k => a + (k : Nat) * 1) L) := by
  refine ⟨essAt_pw hp (rng_pw _ _), fun m => ?_⟩
  rw [mem_essAt, isEss_cong hL]
  refine ⟨fun h => h.2, fun h => ⟨?_, h⟩⟩
  obtain ⟨h1, h2, h3, _⟩ := mem_leastAt.mp h
  obtain ⟨h4, h5⟩ := hr _ h1
  simp only at h2 h3 h4 h5
  exact List.mem_map.mpr ⟨(m.1 - a).toNat, by rw [List.mem_range]; omega, by omega⟩
theorem len_essAt (as : List Sp2) : ∀ cs : List Int, (essAt cs as).length ≤ cs.length * as.length
  | [] => by simp [essAt]
  | c :: cs => by
    have e : essAt (c :: cs) as = ((leastAt c as).map fun s => (c, s.1, s.2)) ++ essAt cs as := by simp [essAt]
    have h1 := leastAt_len c as
    have h2 := len_essAt as cs
    rw [e, List.length_append, List.length_map, List.length_cons, Nat.succ_mul]
    omega
theorem essP_nil : EssP [] [] := ⟨List.Pairwise.nil, fun m => by unfold isEss; simp [leastAt]⟩

def crossAny (f : List Mk) (m : Mk) : Bool := f.any fun o => decide (acr o m ∨ acr m o)
def takenOf (ms : List Mk) : List Mk := ms.foldl (fun f m => if crossAny f m = true then f else f ++ [m]) []
theorem takenOf_snoc (ms : List Mk) (m : Mk) : takenOf (ms ++ [m]) = if crossAny (takenOf ms) m = true then takenOf ms else takenOf ms ++ [m] := by
  unfold takenOf
  rw [List.foldl_append]
  rfl
theorem snoc_ind {P : List Mk → Prop} (h0 : P []) (h1 : ∀ ms m, P ms → P (ms ++ [m])) (ms : List Mk) : P ms := by
  rw [← List.reverse_reverse ms]
  induction ms.reverse with
  | nil => exact h0
  | cons x t ih => rw [List.reverse_cons]; exact h1 _ _ ih
theorem takenOf_len (ms : List Mk) : (takenOf ms).length ≤ ms.length := by
  refine snoc_ind (P := fun ms => (takenOf ms).length ≤ ms.length) (Nat.le_refl _) (fun ms m ih => ?_) ms
  rw [takenOf_snoc, List.length_append]
  split
  · omega
  · rw [List.length_append]; simp; omega
theorem takenOf_sub (ms : List Mk) : (takenOf ms).Sublist ms := by
  refine snoc_ind (P := fun ms => (takenOf ms).Sublist ms) (List.Sublist.refl _) (fun ms m ih => ?_) ms
  rw [takenOf_snoc]
  split
  · exact ih.trans (List.sublist_append_left _ _)
  · exact List.Sublist.append ih (List.Sublist.refl _)
theorem takenOf_apart (ms : List Mk) : (takenOf ms).Pairwise fun a b => ¬ acr a b ∧ ¬ acr b a := by
  refine snoc_ind (P := fun ms => (takenOf ms).Pairwise fun a b => ¬ acr a b ∧ ¬ acr b a) List.Pairwise.nil (fun ms m ih => ?_) ms
  rw [takenOf_snoc]
  split
  · exact ih
  · rename_i h
    refine List.pairwise_append.mpr ⟨ih, List.pairwise_singleton _ _, fun a ha b hb => ?_⟩
    obtain rfl : b = m := by simpa using hb
    have : crossAny (takenOf ms) b = false := by simpa using h
    unfold crossAny at this
    rw [List.any_eq_false] at this
    have := this a ha
    simp only [decide_eq_true_eq, not_or] at this
    exact this

theorem ess_ok {as : List Sp2} {m : Mk} (hok : ∀ s ∈ as, okS s) (h : isEss as m) : okM m := by
  obtain ⟨h1, h2, h3, _⟩ := mem_leastAt.mp h
  have h4 := hok _ h1
  exact ⟨h4.1, h4.2.1, h4.2.2, h2, h3⟩
/-- essential marks that do not cross: bound just where one is under the other -/
theorem bound_under {as : List Sp2} {a c : Mk} (ha : isEss as a) (hc : isEss as c) (h1 : ¬ acr a c) (h2 : ¬ acr c a) (hb : bnd a c) : und a c ∨ und c a := by
  obtain ⟨a1, a2, a3, a4⟩ := mem_leastAt.mp ha
  obtain ⟨c1, c2, c3, c4⟩ := mem_leastAt.mp hc
  have hb' : bnd c a := by unfold bnd at hb ⊢; omega
  have n1 : ¬ (a.1 < c.1 ∧ a.2.1 < c.2.1 ∧ a.2.2 < c.2.2) := fun z => h1 ⟨z.1, z.2.1, z.2.2, hb⟩
  have n2 : ¬ (c.1 < a.1 ∧ c.2.1 < a.2.1 ∧ c.2.2 < a.2.2) := fun z => h2 ⟨z.1, z.2.1, z.2.2, hb'⟩
  unfold bnd at hb
  unfold und
  by_cases e : (c.2.1, c.2.2) = (a.2.1, a.2.2)
  · simp only [Prod.mk.injEq] at e
    omega
  · have m1 := a4 _ c1 (by show c.2.1 ≤ a.1; omega) (by show a.1 < c.2.2; omega) e
    have m2 := c4 _ a1 (by show a.2.1 ≤ c.1; omega) (by show c.1 < a.2.2; omega) (fun z => e z.symm)
    unfold within at m1 m2
    simp only at m1 m2
    simp only [Prod.mk.injEq] at e
    omega
theorem under_trans {a c d : Mk} (ha : okM a) (hc : okM c) (hd : okM d) (h1 : bnd a c ∧ und a c) (h2 : bnd c d ∧ und c d) : bnd a d ∧ und a d := by
  unfold okM at ha hc hd
  unfold bnd und at h1 h2 ⊢
  omega
theorem und_both {a c : Mk} (h : mkLt a c) (h1 : und a c) (h2 : und c a) : False := by
  unfold mkLt at h
  unfold und at h1 h2
  omega

instance (as : List Sp2) (m : Mk) : Decidable (isEss as m) := by unfold isEss; infer_instance

theorem marksOf_nodup {bs : List Sp2} (h : bs.Pairwise spLt) : (marksOf bs).Nodup := by
  unfold marksOf List.Nodup
  rw [List.pairwise_flatMap]
  refine ⟨fun s _ => ?_, h.imp fun {a b} hab x hx y hy e => ?_⟩
  · unfold marksOf1
    rw [List.pairwise_map]
    exact List.pairwise_lt_range.imp fun {i j} hij e => by simp only [Prod.mk.injEq] at e; omega
  · subst e
    have h1 := mem_marksOf1.mp hx
    have h2 := mem_marksOf1.mp hy
    unfold spLt at hab
    omega
theorem essP_sorted {as bs : List Sp2} {L : List Mk} (hm : ∀ s, s ∈ bs ↔ s ∈ as) (hp : bs.Pairwise spLt) (pm : L.Perm ((marksOf bs).filter fun m => decide (isEss as m))) (pw : L.Pairwise fun x y => ¬ mkLt y x) : EssP as L := by
  have nd : L.Nodup := pm.nodup_iff.mpr ((marksOf_nodup hp).filter _)
  have step : ∀ a b : Mk, ¬ mkLt b a → a ≠ b → mkLt a b := fun a b h1 h2 => by
    unfold mkLt at h1 ⊢
    have : ¬ (a.1 = b.1 ∧ a.2.1 = b.2.1 ∧ a.2.2 = b.2.2) := fun z => h2 (Prod.ext z.1 (Prod.ext z.2.1 z.2.2))
    omega
  refine ⟨(pw.and nd).imp fun {a b} z => step a b z.1 z.2, fun m => ?_⟩
  · rw [pm.mem_iff, List.mem_filter, decide_eq_true_eq, mem_marksOf]
    refine ⟨fun z => z.2, fun z => ⟨?_, z⟩⟩
    obtain ⟨h1, h2, h3, _⟩ := mem_leastAt.mp z
    exact ⟨(hm _).mpr h1, h2, h3⟩

theorem mkLt_irr {a : Mk} : ¬ mkLt a a := by unfold mkLt; omega
theorem mkLt_asym {a b : Mk} (h : mkLt a b) : ¬ mkLt b a := by unfold mkLt at h ⊢; omega
theorem rising_uniq : ∀ {l1 l2 : List Mk}, l1.Pairwise mkLt → l2.Pairwise mkLt → (∀ m, m ∈ l1 ↔ m ∈ l2) → l1 = l2
  | [], [], _, _, _ => rfl
  | [], y :: ys, _, _, h => absurd ((h y).mpr List.mem_cons_self) (by simp)
  | x :: xs, [], _, _, h => absurd ((h x).mp List.mem_cons_self) (by simp)
  | x :: xs, y :: ys, h1, h2, h => by
    obtain ⟨a1, b1⟩ := List.pairwise_cons.mp h1
    obtain ⟨a2, b2⟩ := List.pairwise_cons.mp h2
    have e : x = y := by
      rcases List.mem_cons.mp ((h x).mp List.mem_cons_self) with e | hx
      · exact e
      · rcases List.mem_cons.mp ((h y).mpr List.mem_cons_self) with e | hy
        · exact e.symm
        · exact absurd (a1 y hy) (mkLt_asym (a2 x hx))
    subst e
    have ih := rising_uniq b1 b2 fun m => ⟨fun hm => by
      rcases List.mem_cons.mp ((h m).mp (List.mem_cons_of_mem _ hm)) with e | hm'
      · subst e
        exact absurd (a1 m hm) mkLt_irr
      · exact hm', fun hm => by
      rcases List.mem_cons.mp ((h m).mpr (List.mem_cons_of_mem _ hm)) with e | hm'
      · subst e
        exact absurd (a2 m hm) mkLt_irr
      · exact hm'⟩
    rw [ih]
theorem essP_uniq {as bs : List Sp2} {l1 l2 : List Mk} (h : ∀ s, s ∈ as ↔ s ∈ bs) (h1 : EssP as l1) (h2 : EssP bs l2) : l1 = l2 :=
  rising_uniq h1.1 h2.1 fun m => by rw [h1.2, h2.2, isEss_cong h]

theorem spLt_asym {a b : Sp2} (h : spLt a b) : ¬ spLt b a := by unfold spLt at h ⊢; omega
theorem pairs1_pw (n i : Nat) : (pairs1 n i).Pairwise spLt := by
  unfold pairs1
  rw [List.pairwise_map]
  exact List.pairwise_lt_range.imp fun {x y} h => .inr ⟨rfl, by show (i : Int) + 1 + (x : Int) < (i : Int) + 1 + (y : Int); omega⟩
theorem pairsTo_pw (n j : Nat) : (pairsTo n j).Pairwise spLt := by
  induction j with
  | zero => simp [pairsTo]
  | succ j ih =>
    rw [pairsTo_succ]
    refine List.pairwise_append.mpr ⟨ih, pairs1_pw n j, fun p hp q hq => .inl ?_⟩
    unfold pairsTo at hp
    rw [List.mem_flatMap] at hp
    obtain ⟨i, hi, hp⟩ := hp
    rw [List.mem_range] at hi
    have h1 := (mem_pairs1.mp hp).1
    have h2 := (mem_pairs1.mp hq).1
    omega
theorem pairsTo_mem {n : Nat} {i j : Nat} (h1 : i < j) (h2 : j < n) : ((i : Int), (j : Int)) ∈ pairsTo n n := by
  unfold pairsTo
  rw [List.mem_flatMap]
  exact ⟨i, List.mem_range.mpr (by omega), mem_pairs1.mpr ⟨rfl, by show (i : Int) < (j : Int); omega, by show (j : Int) < (n : Int); omega⟩⟩
theorem ahead {L : List Sp2} {k : Nat} {p q : Sp2} (hw : L.Pairwise spLt) (hk : L[k]? = some p) (hq : q ∈ L) (h : spLt q p) : q ∈ L.take k := by
  obtain ⟨m, hm, em⟩ := List.getElem_of_mem hq
  obtain ⟨hk1, ek⟩ := List.getElem?_eq_some_iff.mp hk
  by_cases hmk : m < k
  · exact List.mem_take_iff_getElem.mpr ⟨m, by omega, em⟩
  · exfalso
    by_cases e : m = k
    · subst e
      rw [em] at ek
      subst ek
      exact spLt_asym h h
    · have := List.pairwise_iff_getElem.mp hw k m hk1 hm (by omega)
      rw [ek, em] at this
      exact spLt_asym h this
/-- the first bound pair -/
def FirstB (ms : List Mk) (i j : Nat) (a b : Mk) : Prop := i < j ∧ ms[i]? = some a ∧ ms[j]? = some b ∧ bnd a b ∧ ∀ i' j', i' < j' → (i' < i ∨ i' = i ∧ j' < j) → noB ms i' j'
theorem firstB_uniq {ms : List Mk} {i j i2 j2 : Nat} {a b a2 b2 : Mk} (h : FirstB ms i j a b) (h2 : FirstB ms i2 j2 a2 b2) : i = i2 ∧ j = j2 ∧ a = a2 ∧ b = b2 := by
  obtain ⟨h1, h3, h4, h5, h6⟩ := h
  obtain ⟨g1, g3, g4, g5, g6⟩ := h2
  have e : i = i2 ∧ j = j2 := by
    rcases Nat.lt_trichotomy i i2 with z | z | z
    · exact absurd h5 (g6 i j h1 (.inl z) a b h3 h4)
    · rcases Nat.lt_trichotomy j j2 with y | y | y
      · exact absurd h5 (g6 i j h1 (.inr ⟨z, y⟩) a b h3 h4)
      · exact ⟨z, y⟩
      · exact absurd g5 (h6 i2 j2 g1 (.inr ⟨z.symm, y⟩) a2 b2 g3 g4)
    · exact absurd g5 (h6 i2 j2 g1 (.inl z) a2 b2 g3 g4)
  obtain ⟨rfl, rfl⟩ := e
  rw [h3] at g3
  rw [h4] at g4
  cases g3
  cases g4
  exact ⟨rfl, rfl, rfl, rfl⟩
/-- the answer at a first bound pair -/
def pairD (i j : Nat) (a b : Mk) : D := .tup [.int i, .int j, spD (if b.1 < a.1 then b.1 else a.1, (if b.1 > a.1 then b.1 else a.1) + 1)]

def goodL (as : List Sp2) : Prop := as.length ≤ 60 ∧ ∀ s ∈ as, okS s
/-- s serves m -/
def servs (s : Sp2) (m : Mk) : Prop := m.2.1 ≤ s.1 ∧ s.1 ≤ m.1 ∧ m.1 < s.2 ∧ s.2 ≤ m.2.2
instance (s : Sp2) (m : Mk) : Decidable (servs s m) := by unfold servs; infer_instance
def servedBy (ks : List Sp2) (m : Mk) : Bool := ks.any fun s => decide (servs s m)
/-- the first mark that g is not told of -/
def lackD (g : Mk → Bool) (ms : List Mk) : D := match ms.find? (fun m => !g m) with
  | none => .non
  | some m => mkD m
theorem spLt_uniq : ∀ {l1 l2 : List Sp2}, l1.Pairwise spLt → l2.Pairwise spLt → (∀ m, m ∈ l1 ↔ m ∈ l2) → l1 = l2
  | [], [], _, _, _ => rfl
  | [], y :: ys, _, _, h => absurd ((h y).mpr List.mem_cons_self) (by simp)
  | x :: xs, [], _, _, h => absurd ((h x).mp List.mem_cons_self) (by simp)
  | x :: xs, y :: ys, h1, h2, h => by
    obtain ⟨a1, b1⟩ := List.pairwise_cons.mp h1
    obtain ⟨a2, b2⟩ := List.pairwise_cons.mp h2
    have irr : ∀ a : Sp2, ¬ spLt a a := fun a z => spLt_asym z z
    have e : x = y := by
      rcases List.mem_cons.mp ((h x).mp List.mem_cons_self) with e | hx
      · exact e
      · rcases List.mem_cons.mp ((h y).mpr List.mem_cons_self) with e | hy
        · exact e.symm
        · exact absurd (a1 y hy) (spLt_asym (a2 x hx))
    subst e
    have ih := spLt_uniq b1 b2 fun m => ⟨fun hm => by
      rcases List.mem_cons.mp ((h m).mp (List.mem_cons_of_mem _ hm)) with e | hm'
      · subst e
        exact absurd (a1 m hm) (irr m)
      · exact hm', fun hm => by
      rcases List.mem_cons.mp ((h m).mpr (List.mem_cons_of_mem _ hm)) with e | hm'
      · subst e
        exact absurd (a2 m hm) (irr m)
      · exact hm'⟩
    rw [ih]
/-- the asks, each once, rising -/
def Dst (as bs : List Sp2) : Prop := bs.Pairwise spLt ∧ (∀ s, s ∈ bs ↔ s ∈ as) ∧ bs.length ≤ as.length
theorem dst_uniq {as bs cs : List Sp2} (h : Dst as bs) (h2 : Dst as cs) : bs = cs := spLt_uniq h.1 h2.1 fun m => by rw [h.2.1, h2.2.1]
theorem dep_lackD {n : Nat} {g : Mk → Bool} {ms : List Mk} : dep (n + 1) (lackD g ms) := by
  unfold lackD
  split
  · exact dep_non
  · exact dep_mkD
theorem res_lackD {g : Mk → Bool} {ms : List Mk} {M : Mp} : res M (lackD g ms) = lackD g ms := res_dep (n := 1) dep_lackD M
theorem marksOf_app (as bs : List Sp2) : marksOf (as ++ bs) = marksOf as ++ marksOf bs := by
  unfold marksOf
  rw [List.flatMap_append]
theorem marksOf_take {bs : List Sp2} {i : Nat} {s : Sp2} (h : bs[i]? = some s) : marksOf (bs.take (i + 1)) = marksOf (bs.take i) ++ marksOf1 s := by
  rw [List.take_add_one, h]
  simp [marksOf]

theorem find_first {α : Type} {P : α → Bool} {A B : List α} {x : α} (h : ∀ a ∈ A, P a = false) (hx : P x = true) : (A ++ x :: B).find? P = some x := by
  rw [List.find?_append, List.find?_eq_none.mpr (fun a ha => by simp [h a ha])]
  simp [hx]
theorem find_none {α : Type} {P : α → Bool} {A : List α} (h : ∀ a ∈ A, P a = false) : A.find? P = none := List.find?_eq_none.mpr fun a ha => by simp [h a ha]
theorem take_mid {α : Type} {L : List α} {k : Nat} {x : α} (h : L[k]? = some x) : L = L.take k ++ x :: L.drop (k + 1) := by
  obtain ⟨hl, e⟩ := List.getElem?_eq_some_iff.mp h
  rw [← e, List.getElem_cons_drop, List.take_append_drop]
theorem pairsTo_pre (n : Nat) {i j : Nat} (h : i ≤ j) : ∃ R, pairsTo n j = pairsTo n i ++ R := by
  induction j with
  | zero => exact ⟨[], by rw [Nat.le_zero.mp h]; simp⟩
  | succ j ih =>
    by_cases e : i = j + 1
    · exact ⟨[], by rw [e]; simp⟩
    · obtain ⟨R, hR⟩ := ih (by omega)
      exact ⟨R ++ pairs1 n j, by rw [pairsTo_succ, hR, List.append_assoc]⟩
/-- of two cells, by a stretch of ks within a -/
def heldP (a : Sp2) (ks : List Sp2) (cs : List Int) (p : Sp2) : Bool := match cs[p.1.toNat]?, cs[p.2.toNat]? with
  | some x, some y => ks.any fun s => decide (within s a ∧ s.1 ≤ (if y < x then y else x) ∧ (if y > x then y else x) < s.2)
  | _, _ => false
def pairO (o : Option Sp2) : D := match o with
  | none => .non
  | some p => spD p
theorem dep_pairO {n : Nat} {o : Option Sp2} : dep (n + 1) (pairO o) := by
  unfold pairO
  split
  · exact dep_non
  · exact dep_spD

def markO (o : Option Mk) : D := match o with
  | none => .non
  | some m => mkD m
theorem dep_markO {n : Nat} {o : Option Mk} : dep (n + 1) (markO o) := by
  unfold markO
  split
  · exact dep_non
  · exact dep_mkD
/-- the first mark of the cell c, of an ask round k, that os do not serve -/
def hangO (bs : List Sp2) (k : Sp2) (os : List Sp2) (c : Int) : Option Mk := ((bs.filter fun s => decide (within k s)).map fun s => (c, s.1, s.2)).find? fun m => !servedBy os m
theorem find_uniq {α : Type} {P : α → Bool} {x : α} : ∀ {L : List α}, x ∈ L → P x = true → (∀ y ∈ L, P y = true → y = x) → L.find? P = some x
  | [], h, _, _ => by cases h
  | y :: L, h, hx, hu => by
    rw [List.find?_cons]
    cases hy : P y with
    | true => rw [hu y List.mem_cons_self hy]
    | false =>
      rcases List.mem_cons.mp h with e | h
      · rw [e, hy] at hx
        cases hx
      · exact find_uniq h hx fun z hz => hu z (List.mem_cons_of_mem _ hz)
theorem hang_marks {k : Sp2} {os : List Sp2} {c : Int} (h1 : k.1 ≤ c) (h2 : c < k.2) : ∀ bs : List Sp2, (marksOf bs).find? (fun m => decide (servs k m) && !servedBy os m && decide (m.1 = c)) = hangO bs k os c
  | [] => rfl
  | s :: bs => by
    have ih := hang_marks (os := os) h1 h2 bs
    have e : marksOf (s :: bs) = marksOf1 s ++ marksOf bs := by simp [marksOf]
    rw [e, List.find?_append, ih]
    unfold hangO
    rw [List.filter_cons]
    by_cases hw : within k s ∧ servedBy os (c, s.1, s.2) = false
    · obtain ⟨hw, hs⟩ := hw
      rw [decide_eq_true hw, if_pos rfl, List.map_cons, List.find?_cons, hs]
      have : (marksOf1 s).find? (fun m => decide (servs k m) && !servedBy os m && decide (m.1 = c)) = some (c, s.1, s.2) := by
        refine find_uniq (mem_marksOf1.mpr ⟨rfl, rfl, ?_, ?_⟩) ?_ fun y hy hp => ?_
        · have := hw.1
          show s.1 ≤ c
          omega
        · have := hw.2
          show c < s.2
          omega
        · have : servs k (c, s.1, s.2) := ⟨hw.1, h1, h2, hw.2⟩
          simp [this, hs]
        · obtain ⟨y1, y2, y3, y4⟩ := mem_marksOf1.mp hy
          simp only [Bool.and_eq_true, decide_eq_true_eq] at hp
          exact Prod.ext hp.2 (Prod.ext y1 y2)
      rw [this]
      rfl
    · have : (marksOf1 s).find? (fun m => decide (servs k m) && !servedBy os m && decide (m.1 = c)) = none := by
        refine find_none fun m hm => ?_
        obtain ⟨y1, y2, y3, y4⟩ := mem_marksOf1.mp hm
        refine Bool.eq_false_iff.mpr fun z => hw ?_
        simp only [Bool.and_eq_true, decide_eq_true_eq, Bool.not_eq_true'] at z
        obtain ⟨⟨z1, z2⟩, z3⟩ := z
        obtain ⟨v1, v2, v3, v4⟩ := z1
        have em : m = (c, s.1, s.2) := Prod.ext z3 (Prod.ext y1 y2)
        exact ⟨⟨by omega, by omega⟩, by rw [← em]; exact z2⟩
      rw [this]
      by_cases hk : within k s
      · have hs : servedBy os (c, s.1, s.2) = true := by
          cases h : servedBy os (c, s.1, s.2) with
          | true => rfl
          | false => exact absurd ⟨hk, h⟩ hw
        rw [decide_eq_true hk, if_pos rfl, List.map_cons, List.find?_cons, hs]
        rfl
      · rw [decide_eq_false hk, if_neg Bool.false_ne_true]
        rfl

def isWin (n w s : Int) (L : List Sp2) : Prop := L.Pairwise spLt ∧ ∀ m : Sp2, m ∈ L ↔ ∃ k : Nat, (k : Int) % s = 0 ∧ (k : Int) + w ≤ n ∧ m = ((k : Int), (k : Int) + w)
theorem isWin_uniq {n w s : Int} {L L2 : List Sp2} (h : isWin n w s L) (h2 : isWin n w s L2) : L = L2 := spLt_uniq h.1 h2.1 fun m => by rw [h.2, h2.2]
theorem pw_starts {f : Nat → Int} {w : Int} (hf : ∀ a b : Nat, a < b → f a < f b) {L : List Nat} (hL : L.Pairwise (· < ·)) : (L.map fun k => (f k, f k + w)).Pairwise spLt := by
  rw [List.pairwise_map]
  exact hL.imp fun {a b} h => .inl (hf a b h)
theorem range_pw (n : Nat) : (List.range n).Pairwise (· < ·) := List.pairwise_lt_range
theorem fitsL {i : Int} (h1 : -100000 ≤ i) (h2 : i ≤ 100000) : Builtin.Range.rangeFitsLong i = true := by
  unfold Builtin.Range.rangeFitsLong
  rw [decide_eq_true (by omega), decide_eq_true (by omega)]
  rfl
theorem small_st {j c : Int} {m : Nat} (h1 : -10000 ≤ j) (h2 : j ≤ 10000) (h3 : 1 ≤ c) (h4 : c ≤ 10000) (hm : m ≤ 10000) (e : Builtin.Range.rangeSize 0 j c = (m : Nat)) : Builtin.Range.small 0 j c = true := by
  unfold Builtin.Range.small
  rw [e, fitsL (by omega) (by omega), fitsL (by omega) (by omega), fitsL (by omega) (by omega), fitsL (by omega) (by omega), if_pos (by omega), fitsL (by omega) (by omega)]
  simp
theorem isWin_step {n w s : Int} {c : Nat} (hs : 1 ≤ s) (h : Builtin.Range.rangeSize 0 (n - w + 1) s = (c : Nat)) : isWin n w s ((List.range c).map fun k => ((k : Nat) * s, (k : Nat) * s + w)) := by
  refine ⟨pw_starts (fun a b h => Int.mul_lt_mul_of_pos_right (by omega) (by omega)) (range_pw _), fun m => ?_⟩
  unfold Builtin.Range.rangeSize at h
  rw [if_pos (by omega)] at h
  simp only [List.mem_map, List.mem_range]
  constructor
  · rintro ⟨k, hk, rfl⟩
    split at h
    · have h1 : ((k : Nat) : Int) ≤ (n - w + 1 - 0 - 1) / s := by omega
      have h2 : (k : Int) * s ≤ n - w + 1 - 0 - 1 := Int.le_trans (Int.mul_le_mul_of_nonneg_right h1 (by omega)) (Int.ediv_mul_le _ (by omega))
      have h3 : 0 ≤ (k : Int) * s := Int.mul_nonneg (by omega) (by omega)
      refine ⟨((k : Int) * s).toNat, ?_, ?_, ?_⟩
      · rw [Int.toNat_of_nonneg h3]
        exact Int.mul_emod_left _ _
      · rw [Int.toNat_of_nonneg h3]
        omega
      · rw [Int.toNat_of_nonneg h3]
    · omega
  · rintro ⟨j, h1, h2, rfl⟩
    rw [if_pos (by omega)] at h
    have e : (j : Int) / s * s = j := Int.ediv_mul_cancel (Int.dvd_of_emod_eq_zero h1)
    have h4 : 0 ≤ (j : Int) / s := Int.ediv_nonneg (by omega) (by omega)
    have h3 : (j : Int) / s ≤ (n - w + 1 - 0 - 1) / s := Int.ediv_le_ediv (by omega) (by omega)
    refine ⟨((j : Int) / s).toNat, by omega, ?_⟩
    rw [Int.toNat_of_nonneg h4, e]
theorem isWin_filter {n w s : Int} {c : Nat} (hw : 1 ≤ w) (hc : n ≤ c) : isWin n w s (((List.range c).filter fun k : Nat => decide ((k : Int) % s = 0 ∧ (k : Int) + w ≤ n)).map fun k => (((k : Nat) : Int), ((k : Nat) : Int) + w)) := by
  refine ⟨pw_starts (fun a b h => by omega) ((range_pw _).filter _), fun m => ?_⟩
  simp only [List.mem_map, List.mem_filter, List.mem_range, decide_eq_true_eq]
  constructor
  · rintro ⟨k, ⟨_, h1, h2⟩, rfl⟩
    exact ⟨k, h1, h2, rfl⟩
  · rintro ⟨k, h1, h2, rfl⟩
    exact ⟨k, ⟨by omega, h1, h2⟩, rfl⟩
theorem isWin_all {n w : Int} {c : Nat} (hc : n - w + 1 = (c : Nat)) : isWin n w 1 ((List.range c).map fun k => (((k : Nat) : Int), ((k : Nat) : Int) + w)) := by
  refine ⟨pw_starts (fun a b h => by omega) (range_pw _), fun m => ?_⟩
  simp only [List.mem_map, List.mem_range]
  constructor
  · rintro ⟨k, h1, rfl⟩
    exact ⟨k, Int.emod_one _, by omega, rfl⟩
  · rintro ⟨k, _, h2, rfl⟩
    exact ⟨k, by omega, rfl⟩

def holdsB (cs : List Int) (m : Mk) : Bool := decide (m.1 ∈ cs ∧ ∀ c ∈ cs, m.2.1 ≤ c ∧ c < m.2.2)
def heldBy (L : List (List Int)) (m : Mk) : Bool := L.any fun cs => holdsB cs m
theorem all2_some {s : Int} : ∀ {xs : List Nat} {os : List (Option D)}, All2 (fun k o => o = none ∨ o = some (D.int (s + (k : Nat)))) xs os → ∃ cs : List Int, os.filterMap id = cs.map D.int ∧ cs.length ≤ xs.length ∧ ∀ c ∈ cs, ∃ k ∈ xs, c = s + (k : Nat)
  | _, _, .nil => ⟨[], rfl, by simp, by simp⟩
  | x :: xs, o :: os, .cons h hs => by
    obtain ⟨cs, e, hl, hc⟩ := all2_some hs
    rcases h with rfl | rfl
    · exact ⟨cs, by simp [e], by simp; omega, fun c h2 => by
        obtain ⟨k, hk, e2⟩ := hc c h2
        exact ⟨k, List.mem_cons_of_mem _ hk, e2⟩⟩
    · refine ⟨(s + (x : Nat)) :: cs, by simp [e], by simp; omega, fun c h2 => ?_⟩
      rcases List.mem_cons.mp h2 with rfl | h2
      · exact ⟨x, List.mem_cons_self, rfl⟩
      · obtain ⟨k, hk, e2⟩ := hc c h2
        exact ⟨k, List.mem_cons_of_mem _ hk, e2⟩
def goodLots (L : List (List Int)) : Prop := ∀ cs ∈ L, ∀ c ∈ cs, okS (c, 400)
theorem injInt : ∀ a b : Int, D.int a = D.int b → a = b := fun a b h => by simpa using h
theorem injLot : ∀ a b : List Int, lotD a = lotD b → a = b := fun a b h => by
  have : a.map D.int = b.map D.int := by simpa [lotD] using h
  exact List.map_inj_right (f := D.int) (fun x y z => injInt x y z) |>.mp this

theorem all2_flat {α : Type} {F : α → D} {g : α → List D} : ∀ {xs : List α} {rs : List (List D)}, All2 (fun d r => ∀ x, d = F x → r = g x) (xs.map F) rs → rs.flatten = (xs.map g).flatten
  | [], _, .nil => rfl
  | x :: xs, r :: rs, .cons h hs => by
    rw [List.flatten_cons, List.map_cons, List.flatten_cons, h x rfl, all2_flat hs]
theorem ixN_nat {n k : Nat} (h : k < n) : ixN n (k : Int) = some k := by
  simp [ixN]
  omega
theorem foldl_max_spec : ∀ (l : List Int) (a : Int), (l.foldl max a = a ∨ l.foldl max a ∈ l) ∧ a ≤ l.foldl max a ∧ ∀ y ∈ l, y ≤ l.foldl max a
  | [], a => ⟨.inl rfl, Int.le_refl _, fun y h => by cases h⟩
  | x :: l, a => by
    obtain ⟨h1, h2, h3⟩ := foldl_max_spec l (max a x)
    rw [List.foldl_cons]
    refine ⟨?_, by omega, fun y hy => ?_⟩
    · rcases h1 with h1 | h1
      · rw [h1]
        rcases Int.le_total a x with z | z
        · exact .inr (by rw [Int.max_eq_right z]; exact List.mem_cons_self)
        · exact .inl (Int.max_eq_left z)
      · exact .inr (List.mem_cons_of_mem _ h1)
    · rcases List.mem_cons.mp hy with rfl | hy
      · omega
      · exact h3 y hy
theorem hi_uniq {l : List Int} {m : Int} (hm : m ∈ 0 :: l) (hx : ∀ y ∈ (0 : Int) :: l, y ≤ m) : m = l.foldl max 0 := by
  obtain ⟨h1, h2, h3⟩ := foldl_max_spec l 0
  have a1 : l.foldl max 0 ≤ m := by
    rcases h1 with h1 | h1
    · rw [h1]
      exact hx 0 List.mem_cons_self
    · exact hx _ (List.mem_cons_of_mem _ h1)
  have a2 : m ≤ l.foldl max 0 := by
    rcases List.mem_cons.mp hm with rfl | hm
    · exact h2
    · exact h3 m hm
  omega
def outR (m : Mk) (n : Nat) : List Int := (List.range n).map fun k : Nat => if m.2.1 ≤ (k : Int) ∧ (k : Int) < m.2.2 then 0 else 1
def fitsI (as : List Sp2) (L : List (List Int)) (n : Int) : Prop := (∀ s ∈ as, s.2 ≤ n) ∧ ∀ cs ∈ L, ∀ c ∈ cs, c + 1 ≤ n
def foilD (L : List (List Int)) (ms : List Mk) (n : Nat) : D := match ms.find? (fun m => !heldBy L m) with
  | none => .non
  | some m => .tup [.tup [.int m.2.1, .int m.2.2], .lst ((outR m n).map D.int), .lst (((outR m n).set m.1.toNat 1).map D.int)]
theorem cut_mid {α : Type} {f : α → D} {xs : List α} {i j : Nat} (hi : i ≤ xs.length) (hj : j ≤ xs.length) : cutD (xs.map f) (some (i : Int)) (some (j : Int)) = ((xs.drop i).take (j - i)).map f := by
  unfold cutD HT.sIx
  simp only [List.length_map]
  rw [if_neg (by omega), if_neg (by omega)]
  simp only [Int.toNat_natCast]
  rw [Nat.min_eq_left hi, Nat.min_eq_left hj, List.map_take, List.map_drop]
theorem mid_mem {α : Type} {xs : List α} {i j : Nat} {x : α} : x ∈ (xs.drop i).take (j - i) ↔ ∃ k, i ≤ k ∧ k < j ∧ xs[k]? = some x := by
  constructor
  · intro h
    obtain ⟨k, hk⟩ := List.mem_iff_getElem?.mp h
    rw [List.getElem?_take] at hk
    split at hk
    · rw [List.getElem?_drop] at hk
      exact ⟨i + k, by omega, by omega, hk⟩
    · cases hk
  · rintro ⟨k, h1, h2, h3⟩
    refine List.mem_iff_getElem?.mpr ⟨k - i, ?_⟩
    rw [List.getElem?_take, if_pos (by omega), List.getElem?_drop, show i + (k - i) = k by omega]
    exact h3
theorem filter_none {n j : Nat} (h : n ≤ j) : ((List.range n).filter fun k => decide (k = j)) = [] := by
  rw [List.filter_eq_nil_iff]
  intro k hk
  have := List.mem_range.mp hk
  simp
  omega
theorem filter_one : ∀ {n j : Nat}, j < n → ((List.range n).filter fun k => decide (k = j)) = [j]
  | 0, _, h => by omega
  | n + 1, j, h => by
    rw [List.range_succ, List.filter_append]
    by_cases e : j = n
    · subst e
      rw [filter_none (Nat.le_refl _)]
      simp
    · rw [filter_one (by omega)]
      have : n ≠ j := fun z => e z.symm
      simp [this]
def hiOf (rs cs : List Int) : Int := (cs.map fun c => rs.getD c.toNat 0).foldl max 0

def atLot (p : Nat × List Int) : D := .tup [.int (p.1 : Nat), lotD p.2]
theorem injAt : ∀ a b : Nat × List Int, atLot a = atLot b → a = b := fun a b h => by
  simp only [atLot, D.tup.injEq, List.cons.injEq, D.int.injEq, and_true] at h
  exact Prod.ext (by omega) (injLot _ _ h.2)
def pairAt (L : List (List Int)) : List (Nat × List Int) := (List.range L.length).map fun k => (k, L.getD k [])
theorem enD_lots (L : List (List Int)) : enD (L.map lotD) = (pairAt L).map atLot := by
  refine List.ext_getElem? fun k => ?_
  by_cases hk : k < L.length
  · simp [enD, pairAt, atLot, hk]
  · simp [enD, pairAt, atLot, hk]
end LW

namespace LW
/-! ### plain lists -/
theorem nodup_sub {α : Type} [DecidableEq α] : ∀ {a b : List α}, a.Nodup → (∀ x ∈ a, x ∈ b) → a.length ≤ b.length
  | [], _, _, _ => Nat.zero_le _
  | x :: a, b, h, s => by
    obtain ⟨h1, h2⟩ := List.nodup_cons.mp h
    have hx := s x List.mem_cons_self
    have := nodup_sub (a := a) (b := b.erase x) h2 fun y hy => (List.mem_erase_of_ne fun e => h1 (by rw [← e]; exact hy)).mpr (s y (List.mem_cons_of_mem _ hy))
    rw [List.length_erase_of_mem hx] at this
    have : 0 < b.length := List.length_pos_of_mem hx
    rw [List.length_cons]
    omega
theorem getD_set {α : Type} {d v : α} {l : List α} {i j : Nat} : (l.set i v).getD j d = if i = j ∧ i < l.length then v else l.getD j d := by
  simp only [List.getD_eq_getElem?_getD]
  by_cases e : i = j
  · subst e
    by_cases h : i < l.length
    · rw [List.getElem?_set_self h, if_pos ⟨rfl, h⟩]; rfl
    · rw [if_neg fun z => h z.2, List.getElem?_eq_none (by rw [List.length_set]; omega), List.getElem?_eq_none (by omega)]
  · rw [List.getElem?_set_ne e, if_neg fun z => e z.1]
theorem filter_split {α : Type} (p : α → Bool) : ∀ l : List α, (l.filter p).length + (l.filter fun x => !p x).length = l.length
  | [] => rfl
  | x :: l => by
    have := filter_split p l
    cases h : p x <;> simp [h] <;> omega
/-! ### the search -/
abbrev RS := List Nat × List (Nat × Nat)
/-- the lower one by which an upper one came -/
def whence (came : List (Nat × Nat)) (to : Nat) : Option Nat := (came.find? fun p => p.1 == to).map (·.2)
def isIn (came : List (Nat × Nat)) (to : Nat) : Bool := came.any fun p => p.1 == to
def rstep (below : List Int) (low : Nat) (s : RS) (to : Nat) : RS :=
  if isIn s.2 to = true then s else (if 0 ≤ below.getD to (-1) then s.1 ++ [(below.getD to (-1)).toNat] else s.1, s.2 ++ [(to, low)])
def rturn (ups : List (List Nat)) (below : List Int) (s : RS) (at_ : Nat) : RS := (ups.getD (s.1.getD at_ 0) []).foldl (rstep below (s.1.getD at_ 0)) s
def reachF (ups : List (List Nat)) (below : List Int) : Nat → Nat → RS → RS
  | 0, _, s => s
  | f + 1, a, s => if a < s.1.length then reachF ups below f (a + 1) (rturn ups below s a) else s
def reached (ups : List (List Nat)) (below : List Int) (begin_ : List Nat) : RS := reachF ups below (begin_.length + ups.length + 1) 0 (begin_, [])
theorem isIn_iff {came : List (Nat × Nat)} {to : Nat} : isIn came to = true ↔ to ∈ came.map (·.1) := by
  unfold isIn
  rw [List.any_eq_true, List.mem_map]
  constructor
  · rintro ⟨p, h1, h2⟩
    exact ⟨p, h1, by simpa using h2⟩
  · rintro ⟨p, h1, h2⟩
    exact ⟨p, h1, by simpa using h2⟩
/-- what holds all along the search: from the first turns `a` on all is done; n: all places are below -/
structure RI (ups : List (List Nat)) (below : List Int) (begin_ : List Nat) (s : RS) : Prop where
  nd : (s.2.map (·.1)).Nodup
  kb : ∀ p ∈ s.2, p.1 < ups.length ∧ p.2 ∈ s.1 ∧ p.1 ∈ ups.getD p.2 []
  lb : ∃ r, s.1 = begin_ ++ r ∧ r.length ≤ s.2.length ∧ ∀ l ∈ r, ∃ q ∈ s.2, below.getD q.1 (-1) = (l : Int)
  bl : ∀ p ∈ s.2, 0 ≤ below.getD p.1 (-1) → (below.getD p.1 (-1)).toNat ∈ s.1
  /-- a lower one by which one came is of the beginning, or matched by an earlier upper one -/
  wf : ∀ (i : Nat) (p : Nat × Nat), s.2[i]? = some p → p.2 ∈ begin_ ∨ ∃ j q, j < i ∧ s.2[j]? = some q ∧ below.getD q.1 (-1) = (p.2 : Int)
section
variable {ups : List (List Nat)} {below : List Int} {begin_ : List Nat}
theorem RI.low {s : RS} (h : RI ups below begin_ s) {l : Nat} (hl : l ∈ s.1) : l ∈ begin_ ∨ ∃ (j : Nat) (q : Nat × Nat), j < s.2.length ∧ s.2[j]? = some q ∧ below.getD q.1 (-1) = (l : Int) := by
  obtain ⟨r, e, _, h2⟩ := h.lb
  rw [e] at hl
  rcases List.mem_append.mp hl with hl | hl
  · exact .inl hl
  · obtain ⟨q, hq, e2⟩ := h2 l hl
    obtain ⟨j, hj⟩ := List.mem_iff_getElem?.mp hq
    exact .inr ⟨j, q, (List.getElem?_eq_some_iff.mp hj).1, hj, e2⟩
theorem RI.step {s : RS} {low to : Nat} (h : RI ups below begin_ s) (hl : low ∈ s.1) (ht : to < ups.length) (hu : to ∈ ups.getD low []) : RI ups below begin_ (rstep below low s to) := by
  unfold rstep
  split
  · exact h
  · rename_i hn
    have hn : to ∉ s.2.map (·.1) := fun z => hn (isIn_iff.mpr z)
    refine ⟨?_, ?_, ?_, ?_, ?_⟩
    · rw [List.map_append]
      refine List.nodup_append.mpr ⟨h.nd, by simp, ?_⟩
      intro a ha b hb e
      have : b = to := by simpa using hb
      subst e
      subst this
      exact hn ha
    · intro p hp
      have up : ∀ l ∈ s.1, l ∈ (if 0 ≤ below.getD to (-1) then s.1 ++ [(below.getD to (-1)).toNat] else s.1) := fun l hl => by split <;> simp [hl]
      rcases List.mem_append.mp hp with hp | hp
      · obtain ⟨a, b, c⟩ := h.kb p hp
        exact ⟨a, up _ b, c⟩
      · obtain rfl : p = (to, low) := by simpa using hp
        exact ⟨ht, up _ hl, hu⟩
    · obtain ⟨r, e, e2, e3⟩ := h.lb
      dsimp only
      split
      · rename_i h0
        refine ⟨r ++ [(below.getD to (-1)).toNat], by rw [e, List.append_assoc], by simp; exact e2, fun l hl => ?_⟩
        rcases List.mem_append.mp hl with hl | hl
        · obtain ⟨q, hq, z⟩ := e3 l hl
          exact ⟨q, List.mem_append_left _ hq, z⟩
        · obtain rfl : l = (below.getD to (-1)).toNat := by simpa using hl
          exact ⟨(to, low), by simp, by show below.getD to (-1) = _; omega⟩
      · exact ⟨r, e, by simp; omega, fun l hl => let ⟨q, hq, z⟩ := e3 l hl; ⟨q, List.mem_append_left _ hq, z⟩⟩
    · intro p hp h0
      dsimp only
      rcases List.mem_append.mp hp with hp | hp
      · have := h.bl p hp h0
        split
        · exact List.mem_append_left _ this
        · exact this
      · obtain rfl : p = (to, low) := by simpa using hp
        have h0 : 0 ≤ below.getD to (-1) := h0
        rw [if_pos h0]
        simp
    · intro i p hp
      have hp : (s.2 ++ [(to, low)])[i]? = some p := hp
      have lift : ∀ (l : Nat) (i : Nat), i ≤ s.2.length → (l ∈ begin_ ∨ ∃ (j : Nat) (q : Nat × Nat), j < i ∧ s.2[j]? = some q ∧ below.getD q.1 (-1) = (l : Int)) → (l ∈ begin_ ∨ ∃ (j : Nat) (q : Nat × Nat), j < i ∧ (s.2 ++ [(to, low)])[j]? = some q ∧ below.getD q.1 (-1) = (l : Int)) := fun l i hi z => z.imp id fun ⟨j, q, a, b, c⟩ => ⟨j, q, a, by rw [List.getElem?_append_left (by omega)]; exact b, c⟩
      by_cases hi : i < s.2.length
      · rw [List.getElem?_append_left hi] at hp
        exact lift _ i (by omega) (h.wf i p hp)
      · have hi2 : i = s.2.length := by
          have := (List.getElem?_eq_some_iff.mp hp).1
          simp at this
          omega
        subst hi2
        rw [List.getElem?_append_right (Nat.le_refl _)] at hp
        obtain rfl : (to, low) = p := by simpa using hp
        refine lift _ _ (Nat.le_refl _) ?_
        exact (h.low hl).imp id fun ⟨j, q, a, b, c⟩ => ⟨j, q, a, b, c⟩
/-- the search only grows -/
def grows (s t : RS) : Prop := (∃ r, t.1 = s.1 ++ r) ∧ ∃ r, t.2 = s.2 ++ r
theorem grows.refl (s : RS) : grows s s := ⟨⟨[], by simp⟩, [], by simp⟩
theorem grows.trans {s t u : RS} (h : grows s t) (g : grows t u) : grows s u := by
  obtain ⟨⟨a, ha⟩, b, hb⟩ := h
  obtain ⟨⟨c, hc⟩, d, hd⟩ := g
  exact ⟨⟨a ++ c, by rw [hc, ha, List.append_assoc]⟩, b ++ d, by rw [hd, hb, List.append_assoc]⟩
theorem grows.step (below : List Int) (low : Nat) (s : RS) (to : Nat) : grows s (rstep below low s to) := by
  unfold rstep
  split
  · exact grows.refl s
  · refine ⟨?_, _, rfl⟩
    dsimp only
    split
    · exact ⟨_, rfl⟩
    · exact ⟨[], by simp⟩
theorem grows.len {s t : RS} (h : grows s t) : s.1.length ≤ t.1.length := by
  obtain ⟨⟨r, e⟩, _⟩ := h
  rw [e]
  simp
theorem grows.get {s t : RS} (h : grows s t) {i : Nat} (hi : i < s.1.length) : t.1.getD i 0 = s.1.getD i 0 := by
  obtain ⟨⟨r, e⟩, _⟩ := h
  rw [e, List.getD_eq_getElem?_getD, List.getElem?_append_left hi, List.getD_eq_getElem?_getD]
theorem grows.key {s t : RS} (h : grows s t) {k : Nat} (hk : k ∈ s.2.map (·.1)) : k ∈ t.2.map (·.1) := by
  obtain ⟨_, r, e⟩ := h
  rw [e, List.map_append]
  exact List.mem_append_left _ hk
theorem step_key (below : List Int) (low : Nat) (s : RS) (to : Nat) : to ∈ (rstep below low s to).2.map (·.1) := by
  unfold rstep
  split
  · rename_i h
    exact isIn_iff.mp h
  · simp
theorem fold_ri {low : Nat} : ∀ (ts : List Nat) (s : RS), RI ups below begin_ s → low ∈ s.1 → (∀ t ∈ ts, t < ups.length ∧ t ∈ ups.getD low []) →
    RI ups below begin_ (ts.foldl (rstep below low) s) ∧ grows s (ts.foldl (rstep below low) s) ∧ ∀ t ∈ ts, t ∈ (ts.foldl (rstep below low) s).2.map (·.1)
  | [], s, h, _, _ => ⟨h, grows.refl s, fun t ht => (by cases ht)⟩
  | t :: ts, s, h, hl, ht => by
    have g := grows.step below low s t
    obtain ⟨a, b⟩ := ht t List.mem_cons_self
    have hl2 : low ∈ (rstep below low s t).1 := by
      obtain ⟨⟨r, e⟩, _⟩ := g
      rw [e]
      exact List.mem_append_left _ hl
    obtain ⟨h1, h2, h3⟩ := fold_ri ts _ (h.step hl a b) hl2 fun t ht' => ht t (List.mem_cons_of_mem _ ht')
    refine ⟨h1, g.trans h2, fun x hx => ?_⟩
    rcases List.mem_cons.mp hx with rfl | hx
    · exact h2.key (step_key below low s x)
    · exact h3 x hx
/-- the first a lower ones are gone through -/
def RDone (ups : List (List Nat)) (a : Nat) (s : RS) : Prop := ∀ i, i < a → ∀ t ∈ ups.getD (s.1.getD i 0) [], t ∈ s.2.map (·.1)
theorem turn_ri {s : RS} {a : Nat} (hu : ∀ l, ∀ t ∈ ups.getD l [], t < ups.length) (h : RI ups below begin_ s) (hd : RDone ups a s) (ha : a < s.1.length) : RI ups below begin_ (rturn ups below s a) ∧ grows s (rturn ups below s a) ∧ RDone ups (a + 1) (rturn ups below s a) := by
  have hm : s.1.getD a 0 ∈ s.1 := by
    rw [List.getD_eq_getElem?_getD, List.getElem?_eq_getElem ha]
    exact List.getElem_mem ha
  obtain ⟨h1, h2, h3⟩ := fold_ri (ups.getD (s.1.getD a 0) []) s h hm fun t ht => ⟨hu _ t ht, ht⟩
  refine ⟨h1, h2, fun i hi t ht => ?_⟩
  have e := h2.get (i := i) (by omega)
  unfold rturn at ht ⊢
  rw [e] at ht
  by_cases z : i = a
  · subst z
    exact h3 t ht
  · exact h2.key (hd i (by omega) t ht)
theorem RI.count {s : RS} (h : RI ups below begin_ s) : s.1.length ≤ begin_.length + ups.length := by
  obtain ⟨r, e, h2, _⟩ := h.lb
  have : (s.2.map (·.1)).length ≤ (List.range ups.length).length := nodup_sub h.nd fun x hx => by
    obtain ⟨p, hp, rfl⟩ := List.mem_map.mp hx
    exact List.mem_range.mpr (h.kb p hp).1
  rw [List.length_map, List.length_range] at this
  rw [e, List.length_append]
  omega
theorem reachF_ri (hu : ∀ l, ∀ t ∈ ups.getD l [], t < ups.length) : ∀ (f a : Nat) (s : RS), RI ups below begin_ s → RDone ups a s → begin_.length + ups.length < f + a → a ≤ s.1.length →
    RI ups below begin_ (reachF ups below f a s) ∧ grows s (reachF ups below f a s) ∧ RDone ups (reachF ups below f a s).1.length (reachF ups below f a s)
  | 0, a, s, h, hd, hf, ha => by
    have := h.count
    exact ⟨h, grows.refl s, by omega⟩
  | f + 1, a, s, h, hd, hf, ha => by
    unfold reachF
    split
    · rename_i hlt
      obtain ⟨h1, h2, h3⟩ := turn_ri hu h hd hlt
      obtain ⟨g1, g2, g3⟩ := reachF_ri hu f (a + 1) _ h1 h3 (by omega) (by have := h2.len; omega)
      exact ⟨g1, h2.trans g2, g3⟩
    · rename_i hlt
      have : a = s.1.length := by omega
      subst this
      exact ⟨h, grows.refl s, hd⟩
theorem ri0 (ups : List (List Nat)) (below : List Int) (begin_ : List Nat) : RI ups below begin_ (begin_, []) :=
  ⟨by simp, fun p hp => (by cases hp), ⟨[], by simp, Nat.le_refl _, fun l hl => (by cases hl)⟩, fun p hp => (by cases hp), fun i p hp => (by simp at hp)⟩
theorem reached_ri (hu : ∀ l, ∀ t ∈ ups.getD l [], t < ups.length) : RI ups below begin_ (reached ups below begin_) ∧ (∀ l ∈ begin_, l ∈ (reached ups below begin_).1) ∧
    ∀ l ∈ (reached ups below begin_).1, ∀ t ∈ ups.getD l [], t ∈ (reached ups below begin_).2.map (·.1) := by
  obtain ⟨h1, ⟨⟨r, h2⟩, _⟩, h3⟩ := reachF_ri (below := below) (begin_ := begin_) hu (begin_.length + ups.length + 1) 0 (begin_, []) (ri0 _ _ _) (fun i hi => by omega) (by omega) (Nat.zero_le _)
  refine ⟨h1, fun l hl => ?_, fun l hl t ht => ?_⟩
  · show l ∈ (reachF _ _ _ _ _).1
    rw [h2]
    exact List.mem_append_left _ hl
  · obtain ⟨i, hi⟩ := List.mem_iff_getElem?.mp hl
    obtain ⟨hi1, hi2⟩ := List.getElem?_eq_some_iff.mp hi
    refine h3 i hi1 t ?_
    have : (reachF ups below (begin_.length + ups.length + 1) 0 (begin_, [])).1.getD i 0 = l := by
      rw [List.getD_eq_getElem?_getD]
      have hi : (reachF ups below (begin_.length + ups.length + 1) 0 (begin_, [])).1[i]? = some l := hi
      rw [hi]
      rfl
    rw [this]
    exact ht
end
end LW
namespace LW
/-! ### the matching: above, below by places, -1 for none -/
abbrev MS := List Int × List Int
def augF (came : List (Nat × Nat)) (beg : Nat) : Nat → Nat → MS → MS
  | 0, _, m => m
  | f + 1, to, m =>
    let low := (whence came to).getD 0
    if low = beg then (m.1.set low (to : Int), m.2.set to (low : Int)) else augF came beg f (m.1.getD low (-1)).toNat (m.1.set low (to : Int), m.2.set to (low : Int))
def minN : List Nat → Nat
  | [] => 0
  | x :: r => r.foldl min x
theorem foldl_minN : ∀ (r : List Nat) (x : Nat), (r.foldl min x = x ∨ r.foldl min x ∈ r) ∧ r.foldl min x ≤ x ∧ ∀ y ∈ r, r.foldl min x ≤ y
  | [], x => ⟨.inl rfl, Nat.le_refl _, fun y h => (by cases h)⟩
  | y :: r, x => by
    obtain ⟨h1, h2, h3⟩ := foldl_minN r (min x y)
    rw [List.foldl_cons]
    have m1 : min x y ≤ x := Nat.min_le_left _ _
    have m2 : min x y ≤ y := Nat.min_le_right _ _
    refine ⟨?_, by omega, fun z hz => ?_⟩
    · rcases h1 with e | e
      · rw [e]
        rcases Nat.le_total x y with q | q
        · exact .inl (Nat.min_eq_left q)
        · exact .inr (by rw [Nat.min_eq_right q]; exact List.mem_cons_self)
      · exact .inr (List.mem_cons_of_mem _ e)
    · rcases List.mem_cons.mp hz with rfl | hz
      · omega
      · exact h3 z hz
theorem minN_mem {l : List Nat} (h : l ≠ []) : minN l ∈ l ∧ ∀ y ∈ l, minN l ≤ y := by
  cases l with
  | nil => exact absurd rfl h
  | cons x r =>
    obtain ⟨h1, h2, h3⟩ := foldl_minN r x
    refine ⟨?_, fun y hy => ?_⟩
    · rcases h1 with e | e
      · show r.foldl min x ∈ _
        rw [e]
        exact List.mem_cons_self
      · exact List.mem_cons_of_mem _ e
    · rcases List.mem_cons.mp hy with rfl | hy
      · exact h2
      · exact h3 y hy
theorem minN_uniq {l : List Nat} {m : Nat} (h : m ∈ l) (h2 : ∀ y ∈ l, m ≤ y) : m = minN l := by
  have hl : l ≠ [] := by intro e; subst e; cases h
  obtain ⟨h3, h4⟩ := minN_mem hl
  have := h2 _ h3
  have := h4 _ h
  omega
def freeOf (below : List Int) (r : RS) : List Nat := (r.2.map (·.1)).filter fun to => decide (below.getD to (-1) < 0)
def widenF (ups : List (List Nat)) (m : MS) (beg : Nat) : MS :=
  let r := reached ups m.2 [beg]
  if freeOf m.2 r = [] then m else augF r.2 beg (r.2.length + 1) (minN (freeOf m.2 r)) m
def matchF (ups : List (List Nat)) (k : Nat) : MS := (List.range k).foldl (widenF ups) (List.replicate ups.length (-1), List.replicate ups.length (-1))

/-- above and below tell the same pairs, each an edge -/
structure Con (ups : List (List Nat)) (m : MS) : Prop where
  l1 : m.1.length = ups.length
  l2 : m.2.length = ups.length
  a : ∀ l t : Nat, m.1.getD l (-1) = (t : Int) → t < ups.length ∧ m.2.getD t (-1) = (l : Int) ∧ t ∈ ups.getD l []
  b : ∀ t l : Nat, m.2.getD t (-1) = (l : Int) → l < ups.length ∧ m.1.getD l (-1) = (t : Int)
theorem getD_lt {l : List Int} {i : Nat} {v : Int} (h : l.getD i (-1) = v) (hv : v ≠ -1) : i < l.length := by
  by_cases z : i < l.length
  · exact z
  · rw [List.getD_eq_getElem?_getD, List.getElem?_eq_none (by omega)] at h
    exact absurd h.symm hv
/-- nothing free is come to from L: uppers of L are in U, U's are matched in L -/
def Dead (ups : List (List Nat)) (below : List Int) (L U : Nat → Prop) : Prop := (∀ l, L l → ∀ t ∈ ups.getD l [], U t) ∧ ∀ u, U u → ∃ l : Nat, L l ∧ below.getD u (-1) = (l : Int)
structure AI (ups : List (List Nat)) (m0 : MS) (came : List (Nat × Nat)) (beg : Nat) (i to : Nat) (m : MS) : Prop where
  l1 : m.1.length = ups.length
  l2 : m.2.length = ups.length
  a : ∀ l t : Nat, m.1.getD l (-1) = (t : Int) → t < ups.length ∧ m.2.getD t (-1) = (l : Int) ∧ t ≠ to ∧ t ∈ ups.getD l []
  b : ∀ t l : Nat, t ≠ to → m.2.getD t (-1) = (l : Int) → l < ups.length ∧ m.1.getD l (-1) = (t : Int)
  c : m.1.getD beg (-1) < 0
  d : ∀ l t : Nat, m0.1.getD l (-1) = (t : Int) → m.1.getD l (-1) = (t : Int) ∨ ∃ k q, i ≤ k ∧ came[k]? = some q ∧ q.1 = t
  e : ∀ l, 0 ≤ m0.1.getD l (-1) → 0 ≤ m.1.getD l (-1)
  g : ∀ l, 0 ≤ m.1.getD l (-1) → 0 ≤ m0.1.getD l (-1)
  f : ∀ L U : Nat → Prop, Dead ups m0.2 L U → ¬ L beg → ¬ U to ∧ ∀ u, U u → m.2.getD u (-1) = m0.2.getD u (-1)
theorem keys_at {came : List (Nat × Nat)} (nd : (came.map (·.1)).Nodup) {i j : Nat} {p q : Nat × Nat} (h1 : came[i]? = some p) (h2 : came[j]? = some q) (e : p.1 = q.1) : i = j := by
  obtain ⟨hi, e1⟩ := List.getElem?_eq_some_iff.mp h1
  obtain ⟨hj, e2⟩ := List.getElem?_eq_some_iff.mp h2
  have := (List.getElem_inj (h₀ := by simpa using hi) (h₁ := by simpa using hj) nd).mp (by simp [e1, e2, e])
  exact this
theorem whence_at {came : List (Nat × Nat)} (nd : (came.map (·.1)).Nodup) {i : Nat} {p : Nat × Nat} (h : came[i]? = some p) : whence came p.1 = some p.2 := by
  unfold whence
  have hm : p ∈ came := List.mem_of_getElem? h
  cases hf : came.find? (fun q => q.1 == p.1) with
  | none =>
    have := List.find?_eq_none.mp hf p hm
    simp at this
  | some q =>
    have hq := List.mem_of_find?_eq_some hf
    have e : q.1 = p.1 := by simpa using List.find?_some hf
    obtain ⟨j, hj⟩ := List.mem_iff_getElem?.mp hq
    have := keys_at nd hj h e
    subst this
    rw [h] at hj
    cases hj
    rfl
theorem aug_ok {ups : List (List Nat)} {m0 : MS} {beg : Nat} {r : RS} (C : Con ups m0) (hb : beg < ups.length) (hul : ∀ l, ∀ t ∈ ups.getD l [], l < ups.length) (R : RI ups m0.2 [beg] r) : ∀ (f i to low : Nat) (m : MS), i < f → r.2[i]? = some (to, low) → AI ups m0 r.2 beg i to m →
    Con ups (augF r.2 beg f to m) ∧ 0 ≤ (augF r.2 beg f to m).1.getD beg (-1) ∧ (∀ l, 0 ≤ m0.1.getD l (-1) → 0 ≤ (augF r.2 beg f to m).1.getD l (-1)) ∧ (∀ l, 0 ≤ (augF r.2 beg f to m).1.getD l (-1) → 0 ≤ m0.1.getD l (-1) ∨ l = beg) ∧ ∀ L U : Nat → Prop, Dead ups m0.2 L U → ¬ L beg → Dead ups (augF r.2 beg f to m).2 L U
  | 0, i, _, _, _, h, _, _ => by omega
  | f + 1, i, to, low, m, hi, hr, A => by
    have hw : whence r.2 to = some low := whence_at R.nd (p := (to, low)) hr
    obtain ⟨tb, lm, tu⟩ := R.kb _ (List.mem_of_getElem? hr)
    have tb : to < ups.length := tb
    have tu : to ∈ ups.getD low [] := tu
    have hlow : low < ups.length := hul low to tu
    have hl1 : low < m.1.length := by rw [A.l1]; exact hlow
    have ht2 : to < m.2.length := by rw [A.l2]; exact tb
    have g1 : ∀ j, (m.1.set low (to : Int)).getD j (-1) = if low = j then (to : Int) else m.1.getD j (-1) := fun j => by
      rw [getD_set]
      by_cases z : low = j
      · rw [if_pos ⟨z, hl1⟩, if_pos z]
      · rw [if_neg fun q => z q.1, if_neg z]
    have g2 : ∀ j, (m.2.set to (low : Int)).getD j (-1) = if to = j then (low : Int) else m.2.getD j (-1) := fun j => by
      rw [getD_set]
      by_cases z : to = j
      · rw [if_pos ⟨z, ht2⟩, if_pos z]
      · rw [if_neg fun q => z q.1, if_neg z]
    unfold augF
    rw [hw]
    dsimp only [Option.getD_some]
    have dead2 : ∀ L U : Nat → Prop, Dead ups m0.2 L U → ¬ L beg → ¬ L low := fun L U D hL hl => (A.f L U D hL).1 (D.1 low hl to tu)
    have keep : ∀ L U : Nat → Prop, Dead ups m0.2 L U → ¬ L beg → ∀ u, U u → (m.2.set to (low : Int)).getD u (-1) = m0.2.getD u (-1) := fun L U D hL u hu => by
      obtain ⟨h1, h2⟩ := A.f L U D hL
      rw [g2, if_neg fun z : to = u => h1 (by rw [z]; exact hu)]
      exact h2 u hu
    have e2 : ∀ l, 0 ≤ m0.1.getD l (-1) → 0 ≤ (m.1.set low (to : Int)).getD l (-1) := fun l h => by
      rw [g1]
      split
      · omega
      · exact A.e l h
    by_cases hbeg : low = beg
    · rw [if_pos hbeg]
      refine ⟨⟨by rw [List.length_set]; exact A.l1, by rw [List.length_set]; exact A.l2, fun l t h => ?_, fun t l h => ?_⟩, ?_, e2, fun l h => ?_, fun L U D hL => ⟨D.1, fun u hu => ?_⟩⟩
      · dsimp only at h ⊢
        rw [g1] at h
        by_cases z : low = l
        · rw [if_pos z] at h
          have : to = t := by omega
          subst this
          subst z
          exact ⟨tb, by rw [g2, if_pos rfl], tu⟩
        · rw [if_neg z] at h
          obtain ⟨q1, q2, q3, q4⟩ := A.a l t h
          exact ⟨q1, by rw [g2, if_neg fun y => q3 y.symm]; exact q2, q4⟩
      · dsimp only at h ⊢
        rw [g2] at h
        by_cases z : to = t
        · rw [if_pos z] at h
          have : low = l := by omega
          subst this
          subst z
          exact ⟨hlow, by rw [g1, if_pos rfl]⟩
        · rw [if_neg z] at h
          obtain ⟨q1, q2⟩ := A.b t l (fun y => z y.symm) h
          refine ⟨q1, ?_⟩
          rw [g1]
          by_cases y : low = l
          · exfalso
            have := A.c
            rw [← hbeg, y, q2] at this
            omega
          · rw [if_neg y]
            exact q2
      · dsimp only
        rw [g1, if_pos hbeg]
        omega
      · dsimp only at h
        rw [g1] at h
        by_cases z : low = l
        · exact .inr (by omega)
        · rw [if_neg z] at h
          exact .inl (A.g l h)
      · dsimp only
        rw [keep L U D hL u hu]
        exact D.2 u hu
    · rw [if_neg hbeg]
      obtain ⟨j, q, hj, hq, hbe⟩ : ∃ j q, j < i ∧ r.2[j]? = some q ∧ m0.2.getD q.1 (-1) = (low : Int) := by
        rcases R.wf i (to, low) hr with h | h
        · exact absurd (by simpa using h) hbeg
        · exact h
      obtain ⟨_, hab0⟩ := C.b q.1 low hbe
      have hab : m.1.getD low (-1) = (q.1 : Int) := by
        rcases A.d low q.1 hab0 with h | ⟨k, p, hk, hp, e⟩
        · exact h
        · have := keys_at R.nd hp hq e
          omega
      obtain ⟨q1, q2, q3, q4⟩ := A.a low q.1 hab
      rw [hab]
      have en : ((q.1 : Nat) : Int).toNat = q.1 := by omega
      rw [en]
      refine aug_ok C hb hul R f j q.1 q.2 _ (by omega) hq ⟨by rw [List.length_set]; exact A.l1, by rw [List.length_set]; exact A.l2, fun l t h => ?_, fun t l ht h => ?_, ?_, fun l t h => ?_, e2, fun l h => ?_, fun L U D hL => ⟨fun hu => ?_, keep L U D hL⟩⟩
      · dsimp only at h ⊢
        rw [g1] at h
        by_cases z : low = l
        · rw [if_pos z] at h
          have : to = t := by omega
          subst this
          subst z
          exact ⟨tb, by rw [g2, if_pos rfl], fun y => q3 y.symm, tu⟩
        · rw [if_neg z] at h
          obtain ⟨p1, p2, p3, p4⟩ := A.a l t h
          refine ⟨p1, by rw [g2, if_neg fun y => p3 y.symm]; exact p2, fun y => ?_, p4⟩
          rw [y, q2] at p2
          exact z (by omega)
      · dsimp only at h ⊢
        rw [g2] at h
        by_cases z : to = t
        · rw [if_pos z] at h
          have : low = l := by omega
          subst this
          subst z
          exact ⟨hlow, by rw [g1, if_pos rfl]⟩
        · rw [if_neg z] at h
          obtain ⟨p1, p2⟩ := A.b t l (fun y => z y.symm) h
          refine ⟨p1, ?_⟩
          rw [g1]
          by_cases y : low = l
          · exfalso
            rw [← y, hab] at p2
            exact ht (by omega)
          · rw [if_neg y]
            exact p2
      · dsimp only
        rw [g1, if_neg hbeg]
        exact A.c
      · dsimp only
        by_cases z : low = l
        · subst z
          rw [hab0] at h
          have : q.1 = t := by omega
          exact .inr ⟨j, q, Nat.le_refl _, hq, this⟩
        · rw [g1, if_neg z]
          exact (A.d l t h).imp id fun ⟨k, p, a1, a2⟩ => ⟨k, p, by omega, a2⟩
      · dsimp only at h
        rw [g1] at h
        by_cases z : low = l
        · subst z
          omega
        · rw [if_neg z] at h
          exact A.g l h
      · -- the next upper one is not dead
        obtain ⟨l, hl, e⟩ := D.2 _ hu
        rw [hbe] at e
        have : low = l := by omega
        subst this
        exact dead2 L U D hL hl
theorem freeOf_nil {below : List Int} {r : RS} (h : freeOf below r = []) : ∀ p ∈ r.2, 0 ≤ below.getD p.1 (-1) := fun p hp => by
  unfold freeOf at h
  rw [List.filter_eq_nil_iff] at h
  have := h p.1 (List.mem_map.mpr ⟨p, hp, rfl⟩)
  simp only [decide_eq_true_eq] at this
  omega
/-- what holds when the first k places have been gone through -/
structure MI (ups : List (List Nat)) (k : Nat) (m : MS) : Prop where
  con : Con ups m
  dead : ∃ L U : Nat → Prop, Dead ups m.2 L U ∧ (∀ l, l < k → m.1.getD l (-1) < 0 → L l) ∧ ∀ l, L l → m.1.getD l (-1) < 0 → l < k
  un : ∀ l, k ≤ l → m.1.getD l (-1) < 0
theorem widen_ok {ups : List (List Nat)} (hu : ∀ l, ∀ t ∈ ups.getD l [], t < ups.length) (hul : ∀ l, ∀ t ∈ ups.getD l [], l < ups.length) {k : Nat} {m : MS} (hk : k < ups.length) (M : MI ups k m) : MI ups (k + 1) (widenF ups m k) := by
  obtain ⟨L, U, D, d1, d2⟩ := M.dead
  obtain ⟨R, R2, R3⟩ := reached_ri (ups := ups) (below := m.2) (begin_ := [k]) hu
  unfold widenF
  dsimp only
  generalize reached ups m.2 [k] = r at R R2 R3
  by_cases hf : freeOf m.2 r = []
  · rw [if_pos hf]
    have hfree := freeOf_nil hf
    refine ⟨M.con, ⟨fun l => L l ∨ l ∈ r.1, fun u => U u ∨ u ∈ r.2.map (·.1), ⟨fun l hl t ht => ?_, fun u hu' => ?_⟩, fun l hl h0 => ?_, fun l hl h0 => ?_⟩, fun l hl => M.un l (by omega)⟩
    · rcases hl with hl | hl
      · exact .inl (D.1 l hl t ht)
      · exact .inr (R3 l hl t ht)
    · rcases hu' with hu' | hu'
      · obtain ⟨l, h1, h2⟩ := D.2 u hu'
        exact ⟨l, .inl h1, h2⟩
      · obtain ⟨p, hp, rfl⟩ := List.mem_map.mp hu'
        have h0 := hfree p hp
        exact ⟨_, .inr (R.bl p hp h0), by omega⟩
    · by_cases z : l < k
      · exact .inl (d1 l z h0)
      · have : l = k := by omega
        subst this
        exact .inr (R2 l (by simp))
    · rcases hl with hl | hl
      · have := d2 l hl h0
        omega
      · rcases R.low hl with h | ⟨j, q, _, hq, e⟩
        · have : l = k := by simpa using h
          omega
        · obtain ⟨_, e2⟩ := M.con.b q.1 l e
          rw [e2] at h0
          omega
  · rw [if_neg hf]
    obtain ⟨hm1, _⟩ := minN_mem hf
    generalize minN (freeOf m.2 r) = to at hm1
    unfold freeOf at hm1
    obtain ⟨hm2, hm3⟩ := List.mem_filter.mp hm1
    have hm3 : m.2.getD to (-1) < 0 := by simpa using hm3
    obtain ⟨p, hp, e⟩ := List.mem_map.mp hm2
    obtain ⟨i, hi⟩ := List.mem_iff_getElem?.mp hp
    have hil := (List.getElem?_eq_some_iff.mp hi).1
    obtain ⟨p1, low⟩ := p
    have e : p1 = to := e
    subst e
    have hkm := M.un k (Nat.le_refl _)
    have hLk : ¬ L k := fun z => by
      have := d2 k z hkm
      omega
    have A : AI ups m r.2 k i p1 m := ⟨M.con.l1, M.con.l2, fun l t h => (by
        obtain ⟨a1, a2, a3⟩ := M.con.a l t h
        refine ⟨a1, a2, fun z => ?_, a3⟩
        rw [z] at a2
        omega), fun t l _ h => M.con.b t l h, hkm, fun l t h => .inl h, fun l h => h, fun l h => h, fun L' U' D' _ => ⟨fun z => (by
        obtain ⟨l, _, e⟩ := D'.2 _ z
        omega), fun _ _ => rfl⟩⟩
    obtain ⟨c1, c2, c3, c5, c4⟩ := aug_ok M.con hk hul R (r.2.length + 1) i p1 low m (by omega) hi A
    generalize augF r.2 k (r.2.length + 1) p1 m = m' at c1 c2 c3 c4 c5
    refine ⟨c1, ⟨L, U, c4 L U D hLk, fun l hl h0 => ?_, fun l hl h0 => ?_⟩, fun l hl => ?_⟩
    · by_cases z : l = k
      · subst z
        omega
      · refine d1 l (by omega) ?_
        by_cases y : 0 ≤ m.1.getD l (-1)
        · have := c3 l y
          omega
        · omega
    · have : m.1.getD l (-1) < 0 := by
        by_cases y : 0 ≤ m.1.getD l (-1)
        · have := c3 l y
          omega
        · omega
      have := d2 l hl this
      omega
    · by_cases y : 0 ≤ m'.1.getD l (-1)
      · rcases c5 l y with q | q
        · have := M.un l (by omega)
          omega
        · omega
      · omega
theorem con0 (ups : List (List Nat)) : Con ups (List.replicate ups.length (-1), List.replicate ups.length (-1)) := by
  have h : ∀ j, (List.replicate ups.length (-1 : Int)).getD j (-1) = -1 := fun j => by
    rw [List.getD_eq_getElem?_getD, List.getElem?_replicate]
    split <;> rfl
  refine ⟨by simp, by simp, fun l t e => ?_, fun t l e => ?_⟩
  · dsimp only at e
    rw [h] at e
    omega
  · dsimp only at e
    rw [h] at e
    omega
theorem match_mi {ups : List (List Nat)} (hu : ∀ l, ∀ t ∈ ups.getD l [], t < ups.length) (hul : ∀ l, ∀ t ∈ ups.getD l [], l < ups.length) : ∀ k, k ≤ ups.length → MI ups k (matchF ups k)
  | 0, _ => ⟨con0 ups, ⟨fun _ => False, fun _ => False, ⟨fun _ h => h.elim, fun _ h => h.elim⟩, fun l h => by omega, fun _ h => h.elim⟩, fun l _ => by
    show (List.replicate ups.length (-1 : Int)).getD l (-1) < 0
    rw [List.getD_eq_getElem?_getD, List.getElem?_replicate]
    split <;> decide⟩
  | k + 1, h => by
    have ih := match_mi hu hul k (by omega)
    have e : matchF ups (k + 1) = widenF ups (matchF ups k) k := by
      unfold matchF
      rw [List.range_succ, List.foldl_append]
      rfl
    rw [e]
    exact widen_ok hu hul (by omega) ih
/-! ### the unlike ones -/
def freeLow (m : MS) : List Nat := (List.range m.1.length).filter fun a => decide (m.1.getD a (-1) < 0)
def unlikeF (ups : List (List Nat)) (m : MS) : List Nat :=
  let r := reached ups m.2 (freeLow m)
  (List.range m.1.length).filter fun a => decide (a ∈ r.1) && !isIn r.2 a
def startsF (m : MS) : List Nat := (List.range m.2.length).filter fun a => decide (m.2.getD a (-1) < 0)
theorem reach_dead {ups : List (List Nat)} {below : List Int} {begin_ : List Nat} {L U : Nat → Prop} {r : RS} (R : RI ups below begin_ r) (D : Dead ups below L U) (hb : ∀ l ∈ begin_, L l) : ∀ (i : Nat) (p : Nat × Nat), r.2[i]? = some p → L p.2 ∧ U p.1 := by
  intro i
  induction i using Nat.strongRecOn with
  | _ i ih =>
    intro p hp
    have hL : L p.2 := by
      rcases R.wf i p hp with h | ⟨j, q, hj, hq, e⟩
      · exact hb _ h
      · obtain ⟨_, hU⟩ := ih j hj q hq
        obtain ⟨l, hl, e2⟩ := D.2 _ hU
        rw [e] at e2
        have : p.2 = l := by omega
        rw [this]
        exact hl
    exact ⟨hL, D.1 _ hL _ (R.kb p (List.mem_of_getElem? hp)).2.2⟩
theorem mem_unlike {ups : List (List Nat)} {m : MS} {a : Nat} : a ∈ unlikeF ups m ↔ a < m.1.length ∧ a ∈ (reached ups m.2 (freeLow m)).1 ∧ a ∉ (reached ups m.2 (freeLow m)).2.map (·.1) := by
  unfold unlikeF
  simp only [List.mem_filter, List.mem_range, Bool.and_eq_true, decide_eq_true_eq, Bool.not_eq_true']
  rw [← isIn_iff]
  simp
/-- as many unlike ones as chains begin, no edge among them -/
theorem unlike_ok {ups : List (List Nat)} (hu : ∀ l, ∀ t ∈ ups.getD l [], t < ups.length) {m : MS} (M : MI ups ups.length m) : (startsF m).length ≤ (unlikeF ups m).length ∧ ∀ a ∈ unlikeF ups m, ∀ b ∈ unlikeF ups m, b ∉ ups.getD a [] := by
  obtain ⟨R, R2, R3⟩ := reached_ri (ups := ups) (below := m.2) (begin_ := freeLow m) hu
  obtain ⟨L, U, D, d1, d2⟩ := M.dead
  have hfl : ∀ l ∈ freeLow m, L l := fun l hl => by
    unfold freeLow at hl
    obtain ⟨h1, h2⟩ := List.mem_filter.mp hl
    rw [List.mem_range, M.con.l1] at h1
    exact d1 l h1 (by simpa using h2)
  have hD := reach_dead R D hfl
  refine ⟨?_, fun a ha b hb he => ?_⟩
  · have hul : (unlikeF ups m) = (List.range m.1.length).filter fun a => decide (a ∈ (reached ups m.2 (freeLow m)).1) && !isIn (reached ups m.2 (freeLow m)).2 a := rfl
    rw [hul]
    generalize reached ups m.2 (freeLow m) = r at R R2 R3 hD
    have n1 := M.con.l1
    have n2 := M.con.l2
    -- all places: n; not reached; come to
    let n := ups.length
    let U1 := (List.range n).filter fun a => !decide (m.2.getD a (-1) < 0)
    have hU1 : (startsF m).length + U1.length = n := by
      have := filter_split (fun a => decide (m.2.getD a (-1) < 0)) (List.range n)
      rw [List.length_range] at this
      unfold startsF
      rw [n2]
      exact this
    let N1 := (List.range n).filter fun a => !decide (a ∈ r.1)
    have key : (r.2.map (·.1) ++ N1.map fun a => (m.1.getD a (-1)).toNat).length ≤ U1.length := by
      have hN1 : ∀ a ∈ N1, ∃ t : Nat, m.1.getD a (-1) = (t : Int) := fun a ha => by
        obtain ⟨h1, h2⟩ := List.mem_filter.mp ha
        have h2 : a ∉ r.1 := by simpa using h2
        have h3 : ¬ m.1.getD a (-1) < 0 := fun z => h2 (R2 a (by
          unfold freeLow
          rw [List.mem_filter, n1]
          exact ⟨h1, by simpa using z⟩))
        exact ⟨(m.1.getD a (-1)).toNat, by omega⟩
      have hnr : ∀ a ∈ N1, a ∉ r.1 := fun a ha => by simpa using (List.mem_filter.mp ha).2
      refine nodup_sub (List.nodup_append.mpr ⟨R.nd, ?_, ?_⟩) ?_
      · have nd : N1.Nodup := List.nodup_range.filter _
        refine List.pairwise_map.mpr (nd.imp_of_mem fun {a b} ha hb hab e => hab ?_)
        obtain ⟨t, ht⟩ := hN1 a ha
        obtain ⟨u, hu'⟩ := hN1 b hb
        have : t = u := by omega
        subst this
        have h1 := (M.con.a a t ht).2.1
        have h2 := (M.con.a b t hu').2.1
        omega
      · intro x hx y hy e
        subst e
        obtain ⟨a, ha, e⟩ := List.mem_map.mp hy
        obtain ⟨t, ht⟩ := hN1 a ha
        have : x = t := by omega
        subst this
        obtain ⟨p, hp, rfl⟩ := List.mem_map.mp hx
        have h1 := (M.con.a a p.1 ht).2.1
        have := R.bl p hp (by omega)
        rw [h1] at this
        exact hnr a ha (by simpa using this)
      · intro x hx
        refine List.mem_filter.mpr ?_
        rcases List.mem_append.mp hx with hx | hx
        · obtain ⟨p, hp, rfl⟩ := List.mem_map.mp hx
          obtain ⟨i, hi⟩ := List.mem_iff_getElem?.mp hp
          obtain ⟨_, hU⟩ := hD i p hi
          obtain ⟨l, _, e⟩ := D.2 _ hU
          refine ⟨List.mem_range.mpr (R.kb p hp).1, ?_⟩
          have : ¬ m.2.getD p.1 (-1) < 0 := by omega
          simpa using this
        · obtain ⟨a, ha, rfl⟩ := List.mem_map.mp hx
          obtain ⟨t, ht⟩ := hN1 a ha
          obtain ⟨h1, h2, _⟩ := M.con.a a t ht
          have e : (m.1.getD a (-1)).toNat = t := by omega
          rw [e]
          refine ⟨List.mem_range.mpr h1, ?_⟩
          have : ¬ m.2.getD t (-1) < 0 := by omega
          simpa using this
    rw [List.length_append, List.length_map, List.length_map] at key
    -- n = unlike + the others
    have hs := filter_split (fun a => decide (a ∈ r.1) && !isIn r.2 a) (List.range n)
    rw [List.length_range] at hs
    have ho : ((List.range n).filter fun x => !(decide (x ∈ r.1) && !isIn r.2 x)).length ≤ (N1 ++ r.2.map (·.1)).length := nodup_sub (List.nodup_range.filter _) fun x hx => by
      obtain ⟨h1, h2⟩ := List.mem_filter.mp hx
      rw [List.mem_append]
      by_cases z : x ∈ r.1
      · right
        rw [← isIn_iff]
        simpa [z] using h2
      · left
        exact List.mem_filter.mpr ⟨h1, by simpa using z⟩
    rw [List.length_append, List.length_map] at ho
    rw [n1]
    show _ ≤ ((List.range n).filter _).length
    omega
  · obtain ⟨_, h1, h2⟩ := mem_unlike.mp ha
    obtain ⟨_, h3, h4⟩ := mem_unlike.mp hb
    exact h4 (R3 a h1 b he)
end LW

/-! ### the rows of a matching -/
namespace LW
theorem aug_next {ups : List (List Nat)} {m0 : MS} {beg : Nat} {r : RS} (C : Con ups m0) (hul : ∀ l, ∀ t ∈ ups.getD l [], l < ups.length) (R : RI ups m0.2 [beg] r) {i to low : Nat} {m : MS} (hr : r.2[i]? = some (to, low)) (A : AI ups m0 r.2 beg i to m) (hbeg : low ≠ beg) :
    ∃ j q, j < i ∧ r.2[j]? = some q ∧ m.1.getD low (-1) = (q.1 : Int) ∧ AI ups m0 r.2 beg j q.1 (m.1.set low (to : Int), m.2.set to (low : Int)) := by
  obtain ⟨tb, lm, tu⟩ := R.kb _ (List.mem_of_getElem? hr)
  have tb : to < ups.length := tb
  have tu : to ∈ ups.getD low [] := tu
  have hlow : low < ups.length := hul low to tu
  have hl1 : low < m.1.length := by rw [A.l1]; exact hlow
  have ht2 : to < m.2.length := by rw [A.l2]; exact tb
  have g1 : ∀ j, (m.1.set low (to : Int)).getD j (-1) = if low = j then (to : Int) else m.1.getD j (-1) := fun j => by
    rw [getD_set]
    by_cases z : low = j
    · rw [if_pos ⟨z, hl1⟩, if_pos z]
    · rw [if_neg fun q => z q.1, if_neg z]
  have g2 : ∀ j, (m.2.set to (low : Int)).getD j (-1) = if to = j then (low : Int) else m.2.getD j (-1) := fun j => by
    rw [getD_set]
    by_cases z : to = j
    · rw [if_pos ⟨z, ht2⟩, if_pos z]
    · rw [if_neg fun q => z q.1, if_neg z]
  have dead2 : ∀ L U : Nat → Prop, Dead ups m0.2 L U → ¬ L beg → ¬ L low := fun L U D hL hl => (A.f L U D hL).1 (D.1 low hl to tu)
  have keep : ∀ L U : Nat → Prop, Dead ups m0.2 L U → ¬ L beg → ∀ u, U u → (m.2.set to (low : Int)).getD u (-1) = m0.2.getD u (-1) := fun L U D hL u hu => by
    obtain ⟨h1, h2⟩ := A.f L U D hL
    rw [g2, if_neg fun z : to = u => h1 (by rw [z]; exact hu)]
    exact h2 u hu
  obtain ⟨j, q, hj, hq, hbe⟩ : ∃ j q, j < i ∧ r.2[j]? = some q ∧ m0.2.getD q.1 (-1) = (low : Int) := by
    rcases R.wf i (to, low) hr with h | h
    · exact absurd (by simpa using h) hbeg
    · exact h
  obtain ⟨_, hab0⟩ := C.b q.1 low hbe
  have hab : m.1.getD low (-1) = (q.1 : Int) := by
    rcases A.d low q.1 hab0 with h | ⟨k, p, hk, hp, e⟩
    · exact h
    · have := keys_at R.nd hp hq e
      omega
  obtain ⟨q1, q2, q3, q4⟩ := A.a low q.1 hab
  refine ⟨j, q, hj, hq, hab, ⟨by rw [List.length_set]; exact A.l1, by rw [List.length_set]; exact A.l2, fun l t h => ?_, fun t l ht h => ?_, ?_, fun l t h => ?_, fun l h => ?_, fun l h => ?_, fun L U D hL => ⟨fun hu => ?_, keep L U D hL⟩⟩⟩
  · dsimp only at h ⊢
    rw [g1] at h
    by_cases z : low = l
    · rw [if_pos z] at h
      have : to = t := by omega
      subst this
      subst z
      exact ⟨tb, by rw [g2, if_pos rfl], fun y => q3 y.symm, tu⟩
    · rw [if_neg z] at h
      obtain ⟨p1, p2, p3, p4⟩ := A.a l t h
      refine ⟨p1, by rw [g2, if_neg fun y => p3 y.symm]; exact p2, fun y => ?_, p4⟩
      rw [y, q2] at p2
      exact z (by omega)
  · dsimp only at h ⊢
    rw [g2] at h
    by_cases z : to = t
    · rw [if_pos z] at h
      have : low = l := by omega
      subst this
      subst z
      exact ⟨hlow, by rw [g1, if_pos rfl]⟩
    · rw [if_neg z] at h
      obtain ⟨p1, p2⟩ := A.b t l (fun y => z y.symm) h
      refine ⟨p1, ?_⟩
      rw [g1]
      by_cases y : low = l
      · exfalso
        rw [← y, hab] at p2
        exact ht (by omega)
      · rw [if_neg y]
        exact p2
  · dsimp only
    rw [g1, if_neg hbeg]
    exact A.c
  · dsimp only
    by_cases z : low = l
    · subst z
      rw [hab0] at h
      have : q.1 = t := by omega
      exact .inr ⟨j, q, Nat.le_refl _, hq, this⟩
    · rw [g1, if_neg z]
      exact (A.d l t h).imp id fun ⟨k, p, a1, a2⟩ => ⟨k, p, by omega, a2⟩
  · dsimp only
    rw [g1]
    split
    · omega
    · exact A.e l h
  · dsimp only at h
    rw [g1] at h
    by_cases z : low = l
    · subst z
      omega
    · rw [if_neg z] at h
      exact A.g l h
  · obtain ⟨l, hl, e⟩ := D.2 _ hu
    rw [hbe] at e
    have : low = l := by omega
    subst this
    exact dead2 L U D hL hl
def rowF (ab : List Int) : Nat → Nat → List Nat
  | 0, a => [a]
  | f + 1, a => if 0 ≤ ab.getD a (-1) then a :: rowF ab f (ab.getD a (-1)).toNat else [a]
def rowsF (m : MS) : List (List Nat) := (startsF m).map (rowF m.1 m.1.length)
/-- edges go up by a rank -/
structure Rank (ups : List (List Nat)) (rk : Nat → Nat) : Prop where
  up : ∀ l, ∀ t ∈ ups.getD l [], rk l < rk t
  lt : ∀ t, t < ups.length → rk t < ups.length
theorem rowF_head (ab : List Int) (f a : Nat) : ∃ r, rowF ab f a = a :: r := by
  cases f with
  | zero => exact ⟨[], rfl⟩
  | succ f =>
    unfold rowF
    split
    · exact ⟨_, rfl⟩
    · exact ⟨[], rfl⟩
theorem rowF_ne (ab : List Int) (f a : Nat) : rowF ab f a ≠ [] := by
  obtain ⟨r, e⟩ := rowF_head ab f a
  rw [e]
  simp
section
variable {ups : List (List Nat)} {m : MS} {rk : Nat → Nat}
theorem Con.edge (C : Con ups m) {a : Nat} (h : 0 ≤ m.1.getD a (-1)) : ∃ t : Nat, m.1.getD a (-1) = (t : Int) ∧ t < ups.length ∧ m.2.getD t (-1) = (a : Int) ∧ t ∈ ups.getD a [] := by
  refine ⟨(m.1.getD a (-1)).toNat, by omega, ?_⟩
  exact C.a a _ (by omega)
theorem rowF_next (C : Con ups m) (R : Rank ups rk) : ∀ (f a : Nat), a < ups.length → ups.length ≤ f + rk a → ∀ x ∈ rowF m.1 f a, ∀ y : Nat, m.1.getD x (-1) = (y : Int) → y ∈ rowF m.1 f a
  | 0, a, ha, hf, _, _, _, _ => by
    have := R.lt a ha
    omega
  | f + 1, a, ha, hf, x, hx, y, hy => by
    unfold rowF at hx ⊢
    by_cases h0 : 0 ≤ m.1.getD a (-1)
    · rw [if_pos h0] at hx ⊢
      obtain ⟨t, e, ht, _, hu⟩ := C.edge h0
      have et : (m.1.getD a (-1)).toNat = t := by omega
      rw [et] at hx ⊢
      have hr := R.up a t hu
      rcases List.mem_cons.mp hx with rfl | hx
      · have : y = t := by omega
        subst this
        obtain ⟨r, e2⟩ := rowF_head m.1 f y
        rw [e2]
        simp
      · exact List.mem_cons_of_mem _ (rowF_next C R f t ht (by omega) x hx y hy)
    · rw [if_neg h0] at hx
      obtain rfl : x = a := by simpa using hx
      omega
theorem rowF_mem (C : Con ups m) : ∀ (f a : Nat), a < ups.length → ∀ x ∈ rowF m.1 f a, x < ups.length
  | 0, a, ha, x, hx => by
    obtain rfl : x = a := by simpa [rowF] using hx
    exact ha
  | f + 1, a, ha, x, hx => by
    unfold rowF at hx
    by_cases h0 : 0 ≤ m.1.getD a (-1)
    · rw [if_pos h0] at hx
      obtain ⟨t, e, ht, _, _⟩ := C.edge h0
      have et : (m.1.getD a (-1)).toNat = t := by omega
      rw [et] at hx
      rcases List.mem_cons.mp hx with rfl | hx
      · exact ha
      · exact rowF_mem C f t ht x hx
    · rw [if_neg h0] at hx
      obtain rfl : x = a := by simpa using hx
      exact ha
/-- each place stands in a row -/
theorem rows_cover (C : Con ups m) (R : Rank ups rk) : ∀ (n a : Nat), rk a ≤ n → a < ups.length → ∃ s ∈ startsF m, a ∈ rowF m.1 ups.length s
  | n, a, hn, ha => by
    by_cases h0 : m.2.getD a (-1) < 0
    · refine ⟨a, ?_, ?_⟩
      · unfold startsF
        rw [List.mem_filter, List.mem_range, C.l2]
        exact ⟨ha, by simpa using h0⟩
      · obtain ⟨r, e⟩ := rowF_head m.1 ups.length a
        rw [e]
        simp
    · have hb : m.2.getD a (-1) = (((m.2.getD a (-1)).toNat : Nat) : Int) := by omega
      obtain ⟨hl, e⟩ := C.b a _ hb
      obtain ⟨_, _, hu⟩ := C.a _ a e
      have hr := R.up _ a hu
      match n, hn with
      | 0, hn => omega
      | n + 1, hn =>
        obtain ⟨s, hs, hm⟩ := rows_cover C R n _ (by omega) hl
        refine ⟨s, hs, rowF_next C R _ s ?_ (by omega) _ hm a e⟩
        unfold startsF at hs
        have := List.mem_range.mp (List.mem_filter.mp hs).1
        rw [C.l2] at this
        exact this
/-- what holds of each edge and goes on holds from the head on, and to the last -/
theorem rowF_rel (C : Con ups m) {P : Nat → Nat → Prop} (rf : ∀ a, a < ups.length → P a a) (tr : ∀ a b c, P a b → P b c → P a c) (ed : ∀ l, ∀ t ∈ ups.getD l [], P l t) : ∀ (f a : Nat), a < ups.length → (∀ x ∈ rowF m.1 f a, P a x) ∧ ∀ x ∈ rowF m.1 f a, P x ((rowF m.1 f a).getLast (rowF_ne _ _ _))
  | 0, a, ha => by
    refine ⟨fun x hx => ?_, fun x hx => ?_⟩
    · obtain rfl : x = a := by simpa [rowF] using hx
      exact rf x ha
    · obtain rfl : x = a := by simpa [rowF] using hx
      simpa [rowF] using rf x ha
  | f + 1, a, ha => by
    by_cases h0 : 0 ≤ m.1.getD a (-1)
    · obtain ⟨t, e, ht, _, hu⟩ := C.edge h0
      have et : (m.1.getD a (-1)).toNat = t := by omega
      have er : rowF m.1 (f + 1) a = a :: rowF m.1 f t := by
        conv => lhs; unfold rowF
        rw [if_pos h0, et]
      obtain ⟨h1, h2⟩ := rowF_rel C rf tr ed f t ht
      have hat := ed a t hu
      have el : (rowF m.1 (f + 1) a).getLast (rowF_ne _ _ _) = (rowF m.1 f t).getLast (rowF_ne _ _ _) := by
        simp only [er]
        exact List.getLast_cons _
      have htl := h2 t (by obtain ⟨r, e2⟩ := rowF_head m.1 f t; rw [e2]; simp)
      refine ⟨fun x hx => ?_, fun x hx => ?_⟩
      · rw [er] at hx
        rcases List.mem_cons.mp hx with rfl | hx
        · exact rf x ha
        · exact tr _ _ _ hat (h1 x hx)
      · rw [el]
        rw [er] at hx
        rcases List.mem_cons.mp hx with rfl | hx
        · exact tr _ _ _ hat htl
        · exact h2 x hx
    · have er : rowF m.1 (f + 1) a = [a] := by
        unfold rowF
        rw [if_neg h0]
      refine ⟨fun x hx => ?_, fun x hx => ?_⟩
      · rw [er] at hx
        obtain rfl : x = a := by simpa using hx
        exact rf x ha
      · rw [er] at hx
        obtain rfl : x = a := by simpa using hx
        simp only [er, List.getLast_singleton]
        exact rf x ha
end
/-! ### the chains of marks -/
def noMk : Mk := (0, 0, 0)
def upsOf (ms : List Mk) : List (List Nat) := (List.range ms.length).map fun a => (List.range ms.length).filter fun t => !decide (t = a) && decide (und (ms.getD a noMk) (ms.getD t noMk))
theorem upsOf_len (ms : List Mk) : (upsOf ms).length = ms.length := by simp [upsOf]
theorem mem_upsOf {ms : List Mk} {l t : Nat} : t ∈ (upsOf ms).getD l [] ↔ l < ms.length ∧ t < ms.length ∧ t ≠ l ∧ und (ms.getD l noMk) (ms.getD t noMk) := by
  unfold upsOf
  rw [List.getD_eq_getElem?_getD, List.getElem?_map]
  by_cases h : l < ms.length
  · rw [List.getElem?_range h]
    simp only [Option.map_some, Option.getD_some, List.mem_filter, List.mem_range, Bool.and_eq_true, decide_eq_true_eq, Bool.not_eq_true', decide_eq_false_iff_not]
    exact ⟨fun ⟨a, b, c⟩ => ⟨h, a, b, c⟩, fun ⟨_, a, b, c⟩ => ⟨a, b, c⟩⟩
  · rw [List.getElem?_eq_none (by simpa using h)]
    simp [h]
theorem filter_lt {α : Type} {p q : α → Bool} : ∀ {l : List α} {x : α}, (∀ y ∈ l, p y = true → q y = true) → x ∈ l → q x = true → p x = false → (l.filter p).length < (l.filter q).length
  | y :: l, x, h, hx, hq, hp => by
    have hl : ∀ z ∈ l, p z = true → q z = true := fun z hz => h z (List.mem_cons_of_mem _ hz)
    have le : ∀ l : List α, (∀ z ∈ l, p z = true → q z = true) → (l.filter p).length ≤ (l.filter q).length := by
      intro l
      induction l with
      | nil => intro _; exact Nat.le_refl _
      | cons z l ih =>
        intro hh
        have i2 := ih fun w hw => hh w (List.mem_cons_of_mem _ hw)
        have hz := hh z List.mem_cons_self
        rw [List.filter_cons, List.filter_cons]
        cases h1 : p z <;> cases h2 : q z <;> simp [h1, h2] at hz ⊢ <;> omega
    rw [List.filter_cons, List.filter_cons]
    rcases List.mem_cons.mp hx with e | hx
    · subst e
      rw [hq, hp]
      have := le l hl
      simp
      omega
    · have := filter_lt hl hx hq hp
      have hy := h y List.mem_cons_self
      cases h1 : p y <;> cases h2 : q y <;> simp [h1, h2] at hy ⊢ <;> omega
theorem und_refl (a : Mk) : und a a := by unfold und; omega
theorem und_trans {a b c : Mk} (h1 : und a b) (h2 : und b c) : und a c := by unfold und at *; omega
theorem und_anti {a b : Mk} (h1 : und a b) (h2 : und b a) : a = b := by
  unfold und at *
  exact Prod.ext (by omega) (Prod.ext (by omega) (by omega))
theorem getD_inj {ms : List Mk} (nd : ms.Nodup) {a b : Nat} (ha : a < ms.length) (hb : b < ms.length) (e : ms.getD a noMk = ms.getD b noMk) : a = b := by
  rw [List.getD_eq_getElem?_getD, List.getD_eq_getElem?_getD, List.getElem?_eq_getElem ha, List.getElem?_eq_getElem hb] at e
  exact (List.getElem_inj nd).mp e
theorem upsOf_rank {ms : List Mk} (nd : ms.Nodup) : ∃ rk, Rank (upsOf ms) rk := by
  refine ⟨fun t => ((List.range ms.length).filter fun s => !decide (s = t) && decide (und (ms.getD s noMk) (ms.getD t noMk))).length, fun l t ht => ?_, fun t ht => ?_⟩
  · obtain ⟨h1, h2, h3, h4⟩ := mem_upsOf.mp ht
    refine filter_lt (x := l) (fun s hs hp => ?_) (List.mem_range.mpr h1) ?_ ?_
    · simp only [Bool.and_eq_true, decide_eq_true_eq, Bool.not_eq_true', decide_eq_false_iff_not] at hp ⊢
      refine ⟨fun e => ?_, und_trans hp.2 h4⟩
      subst e
      exact h3 (getD_inj nd h2 h1 (und_anti hp.2 h4))
    · simp only [Bool.and_eq_true, decide_eq_true_eq, Bool.not_eq_true', decide_eq_false_iff_not]
      exact ⟨h3.symm, h4⟩
    · simp
  · rw [upsOf_len] at ht ⊢
    have : ((List.range ms.length).filter fun s => !decide (s = t) && decide (und (ms.getD s noMk) (ms.getD t noMk))).length < ((List.range ms.length).filter fun _ => true).length := filter_lt (x := t) (fun _ _ _ => rfl) (List.mem_range.mpr ht) rfl (by simp)
    have e : ((List.range ms.length).filter fun _ => true).length = ms.length := by rw [List.filter_eq_self.mpr (fun _ _ => rfl), List.length_range]
    rw [e] at this
    exact this
def matchOf (ms : List Mk) : MS := matchF (upsOf ms) ms.length
def rowsOf (ms : List Mk) : List (List Mk) := (rowsF (matchOf ms)).map fun r => r.map fun a => ms.getD a noMk
def unlikeOf (ms : List Mk) : List Mk := (unlikeF (upsOf ms) (matchOf ms)).map fun a => ms.getD a noMk
theorem upsOf_hu (ms : List Mk) : ∀ l, ∀ t ∈ (upsOf ms).getD l [], t < (upsOf ms).length := fun l t ht => by rw [upsOf_len]; exact (mem_upsOf.mp ht).2.1
theorem upsOf_hul (ms : List Mk) : ∀ l, ∀ t ∈ (upsOf ms).getD l [], l < (upsOf ms).length := fun l t ht => by rw [upsOf_len]; exact (mem_upsOf.mp ht).1
theorem matchOf_mi (ms : List Mk) : MI (upsOf ms) (upsOf ms).length (matchOf ms) := by
  have := match_mi (upsOf_hu ms) (upsOf_hul ms) (upsOf ms).length (Nat.le_refl _)
  unfold matchOf
  rw [← upsOf_len ms]
  exact this
theorem rowsOf_len (ms : List Mk) : (rowsOf ms).length ≤ (unlikeOf ms).length := by
  have := (unlike_ok (upsOf_hu ms) (matchOf_mi ms)).1
  unfold rowsOf rowsF unlikeOf
  simpa using this
theorem getD_mem {ms : List Mk} {a : Nat} (h : a < ms.length) : ms.getD a noMk ∈ ms := by
  rw [List.getD_eq_getElem?_getD, List.getElem?_eq_getElem h]
  exact List.getElem_mem h
theorem unlikeOf_mem {ms : List Mk} {x : Mk} (h : x ∈ unlikeOf ms) : x ∈ ms := by
  obtain ⟨a, ha, rfl⟩ := List.mem_map.mp h
  have := (mem_unlike.mp ha).1
  rw [(matchOf_mi ms).con.l1, upsOf_len] at this
  exact getD_mem this
/-- no two of them under one another -/
theorem unlikeOf_pw {ms : List Mk} (nd : ms.Nodup) : (unlikeOf ms).Pairwise fun x y => ¬ und x y ∧ ¬ und y x := by
  unfold unlikeOf
  rw [List.pairwise_map]
  have hn : (unlikeF (upsOf ms) (matchOf ms)).Nodup := by
    unfold unlikeF
    exact List.nodup_range.filter _
  have h2 := (unlike_ok (upsOf_hu ms) (matchOf_mi ms)).2
  have hl : ∀ a ∈ unlikeF (upsOf ms) (matchOf ms), a < ms.length := fun a ha => by
    have := (mem_unlike.mp ha).1
    rw [(matchOf_mi ms).con.l1, upsOf_len] at this
    exact this
  refine hn.imp_of_mem fun {a b} ha hb hab => ⟨fun z => ?_, fun z => ?_⟩
  · exact h2 a ha b hb (mem_upsOf.mpr ⟨hl a ha, hl b hb, fun e => hab e.symm, z⟩)
  · exact h2 b hb a ha (mem_upsOf.mpr ⟨hl b hb, hl a ha, hab, z⟩)
theorem unlikeOf_nodup {ms : List Mk} (nd : ms.Nodup) : (unlikeOf ms).Nodup := (unlikeOf_pw nd).imp fun {a b} h e => h.1 (by rw [e]; exact und_refl _)
/-- each mark stands in a row, between its first and its last -/
theorem rowsOf_cover {ms : List Mk} (nd : ms.Nodup) {x : Mk} (hx : x ∈ ms) : ∃ r ∈ rowsOf ms, ∃ a b, r.head? = some a ∧ r.getLast? = some b ∧ und a x ∧ und x b ∧ a ∈ ms ∧ b ∈ ms := by
  obtain ⟨i, hi⟩ := List.mem_iff_getElem?.mp hx
  have hil := (List.getElem?_eq_some_iff.mp hi).1
  have ex : ms.getD i noMk = x := by rw [List.getD_eq_getElem?_getD, hi]; rfl
  obtain ⟨rk, R⟩ := upsOf_rank nd
  have M := matchOf_mi ms
  obtain ⟨s, hs, hm⟩ := rows_cover M.con R _ i (Nat.le_refl _) (by rw [upsOf_len]; exact hil)
  have hsl : s < (upsOf ms).length := by
    have := List.mem_range.mp (List.mem_filter.mp hs).1
    rw [M.con.l2] at this
    exact this
  obtain ⟨h1, h2⟩ := rowF_rel (P := fun a b => und (ms.getD a noMk) (ms.getD b noMk)) M.con (fun _ _ => und_refl _) (fun _ _ _ => und_trans) (fun l t ht => (mem_upsOf.mp ht).2.2.2) (upsOf ms).length s hsl
  have e1 : (matchOf ms).1.length = (upsOf ms).length := M.con.l1
  refine ⟨(rowF (matchOf ms).1 (upsOf ms).length s).map fun a => ms.getD a noMk, ?_, ms.getD s noMk, ms.getD ((rowF (matchOf ms).1 (upsOf ms).length s).getLast (rowF_ne _ _ _)) noMk, ?_, ?_, ?_, ?_, ?_, ?_⟩
  · unfold rowsOf rowsF
    rw [List.map_map, e1]
    exact List.mem_map.mpr ⟨s, hs, rfl⟩
  · obtain ⟨r, e⟩ := rowF_head (matchOf ms).1 (upsOf ms).length s
    rw [e]
    rfl
  · rw [List.getLast?_map, List.getLast?_eq_some_getLast (rowF_ne _ _ _)]
    rfl
  · rw [← ex]
    exact h1 i hm
  · rw [← ex]
    exact h2 i hm
  · exact getD_mem (by rw [upsOf_len] at hsl; exact hsl)
  · have := rowF_mem M.con _ s hsl _ (List.getLast_mem (rowF_ne (matchOf ms).1 (upsOf ms).length s))
    have e : (upsOf ms).length = ms.length := upsOf_len ms
    exact getD_mem (by omega)
end LW

/-! ### a matching as it stands in memory -/
namespace LW
open PySem L2 DL
def natD (k : Nat) : D := .int (k : Int)
def upD (r : List Nat) : D := .lst (r.map natD)
def cameD (p : Nat × Nat) : Key × D := (Sum.inl (p.1 : Int), natD p.2)
theorem injNat : ∀ a b : Nat, natD a = natD b → a = b := fun a b h => by
  have : (a : Int) = b := by simpa [natD] using h
  omega
theorem came_val (came : List (Nat × Nat)) (to : Nat) : valG (came.map cameD) (Sum.inl (to : Int) : Key) = (whence came to).map natD := by
  induction came with
  | nil => rfl
  | cons p came ih =>
    unfold valG whence at ih ⊢
    rw [List.map_cons, List.find?_cons, List.find?_cons]
    by_cases e : p.1 = to
    · have e1 : decide ((cameD p).1 = (Sum.inl (to : Int) : Key)) = true := by simp [cameD, e]
      have e2 : (p.1 == to) = true := by simp [e]
      rw [e1, e2]
      rfl
    · have e1 : decide ((cameD p).1 = (Sum.inl (to : Int) : Key)) = false := by
        simp only [cameD, decide_eq_false_iff_not, Sum.inl.injEq]
        omega
      have e2 : (p.1 == to) = false := by simp [e]
      rw [e1, e2]
      exact ih
theorem whence_isIn (came : List (Nat × Nat)) (to : Nat) : (whence came to).isSome = isIn came to := by
  unfold whence isIn
  rw [Option.isSome_map]
  induction came with
  | nil => rfl
  | cons p came ih =>
    rw [List.find?_cons, List.any_cons, ← ih]
    cases p.1 == to <;> rfl
theorem came_in (came : List (Nat × Nat)) (to : Nat) : (valG (came.map cameD) (Sum.inl (to : Int) : Key)).isSome = isIn came to := by
  rw [came_val, Option.isSome_map, whence_isIn]
theorem came_put {came : List (Nat × Nat)} {to low : Nat} (h : isIn came to = false) : putG (came.map cameD) (Sum.inl (to : Int) : Key) (natD low) = (came ++ [(to, low)]).map cameD := by
  have e : ((came.map cameD).any fun kv => decide (kv.1 = (Sum.inl (to : Int) : Key))) = false := by
    rw [List.any_map, List.any_eq_false]
    unfold isIn at h
    rw [List.any_eq_false] at h
    intro p hp
    have := h p hp
    simp only [Function.comp, cameD, decide_eq_true_eq, Sum.inl.injEq]
    simp at this
    omega
  unfold putG
  rw [e, if_neg (by decide), List.map_append]
  rfl
/-- a matching at p: its edges at u, above at a, below at b -/
structure MatM (C : Addr) (M : Mp) (p u a b : Addr) (ups : List (List Nat)) (m : MS) : Prop where
  ho : M p = some (.ins C [("ups", .ref u), ("above", .ref a), ("below", .ref b)])
  hu : M u = some (.lst (ups.map upD))
  ha : M a = some (.lst (m.1.map D.int))
  hb : M b = some (.lst (m.2.map D.int))
  ua : u ≠ a
  ub : u ≠ b
  ab : a ≠ b
theorem MatM.ext {C : Addr} {M M' : Mp} {p u a b : Addr} {ups : List (List Nat)} {m : MS} (h : MatM C M p u a b ups m) (x : Ext M M') : MatM C M' p u a b ups m := ⟨x _ _ h.ho, x _ _ h.hu, x _ _ h.ha, x _ _ h.hb, h.ua, h.ub, h.ab⟩
theorem MatM.pa {C : Addr} {M : Mp} {p u a b : Addr} {ups : List (List Nat)} {m : MS} (h : MatM C M p u a b ups m) : p ≠ a ∧ p ≠ b ∧ p ≠ u := by
  refine ⟨fun z => ?_, fun z => ?_, fun z => ?_⟩
  · have := h.ho
    rw [z, h.ha] at this
    cases this
  · have := h.ho
    rw [z, h.hb] at this
    cases this
  · have := h.ho
    rw [z, h.hu] at this
    cases this
/-- both lists written -/
theorem MatM.put {C : Addr} {M : Mp} {p u a b : Addr} {ups : List (List Nat)} {m m' : MS} (h : MatM C M p u a b ups m) : MatM C (mup (mup M a (.lst (m'.1.map D.int))) b (.lst (m'.2.map D.int))) p u a b ups m' := by
  obtain ⟨h1, h2, h3⟩ := h.pa
  refine ⟨?_, ?_, ?_, mup_same, h.ua, h.ub, h.ab⟩
  · rw [mup_ne h2, mup_ne h1]; exact h.ho
  · rw [mup_ne h.ub, mup_ne h.ua]; exact h.hu
  · rw [mup_ne h.ab]; exact mup_same
theorem atI_int {l : List Int} {i : Nat} (h : i < l.length) : atI (l.map D.int) (i : Int) = some (.int (l.getD i (-1))) := by
  refine atMn ?_
  rw [List.getD_eq_getElem?_getD, List.getElem?_eq_getElem h]
  rfl
theorem atI_nat {l : List Nat} {i : Nat} (h : i < l.length) : atI (l.map natD) (i : Int) = some (natD (l.getD i 0)) := by
  refine atMn ?_
  rw [List.getD_eq_getElem?_getD, List.getElem?_eq_getElem h]
  rfl
theorem atI_up {l : List (List Nat)} {i : Nat} (h : i < l.length) : atI (l.map upD) (i : Int) = some (upD (l.getD i [])) := by
  refine atMn ?_
  rw [List.getD_eq_getElem?_getD, List.getElem?_eq_getElem h]
  rfl
theorem seqSq {M : Mp} {d : D} {xs : List D} (h : sqD M d = some xs) : seqD M d = some xs := by
  rcases sq_cases h with rfl | ⟨p, rfl, _⟩ | ⟨ns, rfl, rfl⟩
  · rfl
  · exact h
  · rfl
/-- the values of a matching stay in range -/
def Bnds (n : Nat) (m : MS) : Prop := m.1.length = n ∧ m.2.length = n ∧ ∀ t l : Nat, m.2.getD t (-1) = (l : Int) → l < n
theorem putA {x y : D} : putD ("above" : Str) x [(("ups" : Str), y)] = [(("ups" : Str), y), (("above" : Str), x)] := rfl
theorem putB {x y z : D} : putD ("below" : Str) x [(("ups" : Str), y), (("above" : Str), z)] = [(("ups" : Str), y), (("above" : Str), z), (("below" : Str), x)] := rfl
theorem rowF_succ (ab : List Int) (f a : Nat) : rowF ab (f + 1) a = if 0 ≤ ab.getD a (-1) then a :: rowF ab f (ab.getD a (-1)).toNat else [a] := rfl
theorem rowF_len (ab : List Int) : ∀ (f a : Nat), (rowF ab f a).length ≤ f + 1
  | 0, a => by simp [rowF]
  | f + 1, a => by
    rw [rowF_succ]
    split
    · have := rowF_len ab f (ab.getD a (-1)).toNat
      rw [List.length_cons]
      omega
    · simp
theorem valG_any {κ β : Type} [DecidableEq κ] (kvs : List (κ × β)) (k : κ) : (valG kvs k).isSome = kvs.any fun p => decide (p.1 = k) := by
  unfold valG
  rw [Option.isSome_map]
  induction kvs with
  | nil => rfl
  | cons p kvs ih =>
    rw [List.find?_cons, List.any_cons, ← ih]
    cases decide (p.1 = k) <;> rfl
theorem putG_any {κ β : Type} [DecidableEq κ] (kvs : List (κ × β)) (k k' : κ) (v : β) : (valG (putG kvs k v) k').isSome = (decide (k = k') || (valG kvs k').isSome) := by
  rw [valG_any, valG_any]
  unfold putG
  split
  · rename_i h
    rw [List.any_map]
    have e : ((fun p => decide (p.1 = k')) ∘ fun kv : κ × β => if kv.1 = k then (kv.1, v) else kv) = fun p => decide (p.1 = k') := by
      funext p
      simp only [Function.comp]
      split <;> rfl
    rw [e]
    by_cases z : k = k'
    · subst z
      rw [h]
      simp
    · simp [z]
  · rw [List.any_append]
    simp [Bool.or_comm]
def knownF (d : D) : Option (Key × D) := match d with
  | .int i => some (.inl i, .bl true)
  | _ => none
theorem known_in (k : Nat) (xs : List Nat) : (valG (dcF knownF (xs.map natD)) (Sum.inl (k : Int) : Key)).isSome = decide (k ∈ xs) := by
  rw [← List.reverse_reverse xs]
  induction xs.reverse with
  | nil => simp [dcF, valG]
  | cons x t ih =>
    rw [List.reverse_cons, List.map_append, List.map_singleton, dcF_snoc]
    show (valG (putG _ (Sum.inl (x : Int)) _) _).isSome = _
    rw [putG_any, ih]
    have : decide ((Sum.inl (x : Int) : Key) = Sum.inl (k : Int)) = decide (k = x) := decide_eq_decide.mpr ⟨fun z => by
      have := Sum.inl.inj z
      omega, fun z => by rw [z]⟩
    rw [this]
    simp only [List.mem_append, List.mem_singleton, Bool.decide_or]
    rw [Bool.or_comm]
/-- all cells but p stay -/
def But (p : Addr) (M M' : Mp) : Prop := ∀ x c, x ≠ p → M x = some c → M' x = some c
theorem sq_but {p : Addr} {M M' : Mp} {d : D} {xs : List D} {C : Addr} {fs : List (Str × D)} (x : But p M M') (hp : M p = some (.ins C fs)) (h : sqD M d = some xs) : sqD M' d = some xs := by
  rcases sq_cases h with rfl | ⟨q, rfl, e⟩ | ⟨ns, rfl, rfl⟩
  · rfl
  · exact sqD_ref (x q _ (fun z => by rw [z, hp] at e; cases e) e)
  · rfl
theorem ext_put2 {M M' : Mp} {a b : Addr} {A B : Cell} (x : Ext M M') : Ext (mup (mup M a A) b B) (mup (mup M' a A) b B) := fun q c h => by
  by_cases e : q = b
  · subst e
    rw [mup_same] at h ⊢
    exact h
  · rw [mup_ne e] at h ⊢
    by_cases e2 : q = a
    · subst e2
      rw [mup_same] at h ⊢
      exact h
    · rw [mup_ne e2] at h ⊢
      exact x _ _ h
theorem came_keys (came : List (Nat × Nat)) : ((came.map cameD).map fun kv => keyV kv.1) = (came.map (·.1)).map natD := by
  rw [List.map_map, List.map_map]
  rfl
theorem natL (l : List Nat) : l.map natD = (l.map fun k : Nat => (k : Int)).map D.int := by
  rw [List.map_map]
  rfl
theorem Con.bnds {ups : List (List Nat)} {m : MS} (C : Con ups m) : Bnds ups.length m := ⟨C.l1, C.l2, fun t l h => (C.b t l h).1⟩
end LW

/-! ### exchanges: kept stretches of chains serve all essential marks -/
namespace LW
open DL
def noSp : Sp2 := (0, 0)
theorem servedBy_iff {ks : List Sp2} {m : Mk} : servedBy ks m = true ↔ ∃ k ∈ ks, servs k m := by
  unfold servedBy
  rw [List.any_eq_true]
  simp
theorem servedBy_at {ks : List Sp2} {m : Mk} (h : servedBy ks m = true) : ∃ (i : Nat) (k : Sp2), ks[i]? = some k ∧ servs k m := by
  obtain ⟨k, hk, hs⟩ := servedBy_iff.mp h
  obtain ⟨i, hi⟩ := List.mem_iff_getElem?.mp hk
  exact ⟨i, k, hi, hs⟩
theorem servedBy_of {ks : List Sp2} {m : Mk} {i : Nat} {k : Sp2} (h : ks[i]? = some k) (hs : servs k m) : servedBy ks m = true := servedBy_iff.mpr ⟨k, List.mem_of_getElem? h, hs⟩
def firstAt (ks : List Sp2) (m : Mk) : Nat := ks.findIdx fun s => decide (servs s m)
theorem firstAt_ok {ks : List Sp2} {m : Mk} (h : servedBy ks m = true) : ∃ k, ks[firstAt ks m]? = some k ∧ servs k m := by
  unfold firstAt
  have hl : ks.findIdx (fun s => decide (servs s m)) < ks.length := by
    rw [List.findIdx_lt_length]
    obtain ⟨k, hk, hs⟩ := servedBy_iff.mp h
    exact ⟨k, hk, by simpa using hs⟩
  refine ⟨ks[ks.findIdx fun s => decide (servs s m)], List.getElem?_eq_getElem hl, ?_⟩
  have := List.findIdx_getElem (w := hl)
  simpa using this
def exch (ks : List Sp2) (m o : Mk) : List Sp2 :=
  let i := firstAt ks (o.1, m.2)
  let j := firstAt ks (m.1, o.2)
  (ks.set i ((ks.getD i noSp).1, (ks.getD j noSp).2)).set j ((ks.getD j noSp).1, (ks.getD i noSp).2)
theorem exch_len (ks : List Sp2) (m o : Mk) : (exch ks m o).length = ks.length := by simp [exch]
theorem getD_of {α : Type} {l : List α} {i : Nat} {x d : α} (h : l[i]? = some x) : l.getD i d = x := by rw [List.getD_eq_getElem?_getD, h]; rfl
theorem exch_ok {bs : List Sp2} {ks : List Sp2} {m o : Mk} (hm : isEss bs m) (ho : isEss bs o) (hx : acr o m) (hn : servedBy ks m = false) (h1 : servedBy ks (o.1, m.2) = true) (h2 : servedBy ks (m.1, o.2) = true) :
    servedBy (exch ks m o) m = true ∧ (∀ x, isEss bs x → servedBy ks x = true → servedBy (exch ks m o) x = true) ∧ ∀ e ∈ exch ks m o, (∃ k ∈ ks, e.1 = k.1) ∧ (∃ k ∈ ks, e.2 = k.2) ∧ ((∀ k ∈ ks, k.1 < k.2) → e.1 < e.2) := by
  obtain ⟨k, hk, sk⟩ := firstAt_ok h1
  obtain ⟨l, hl, sl⟩ := firstAt_ok h2
  unfold exch
  dsimp only
  generalize firstAt ks (o.1, m.2) = i at hk
  generalize firstAt ks (m.1, o.2) = j at hl
  rw [getD_of hk, getD_of hl]
  have nk : ¬ servs k m := fun z => by rw [servedBy_of hk z] at hn; cases hn
  have nl : ¬ servs l m := fun z => by rw [servedBy_of hl z] at hn; cases hn
  unfold acr bnd at hx
  unfold servs at sk sl nk nl
  dsimp only at sk sl
  have hil := (List.getElem?_eq_some_iff.mp hk).1
  have hjl := (List.getElem?_eq_some_iff.mp hl).1
  have hij : i ≠ j := fun z => by
    rw [z, hl] at hk
    cases hk
    omega
  have ei : ((ks.set i (k.1, l.2)).set j (l.1, k.2))[i]? = some (k.1, l.2) := by
    rw [List.getElem?_set_ne (Ne.symm hij), List.getElem?_set_self hil]
  have ej : ((ks.set i (k.1, l.2)).set j (l.1, k.2))[j]? = some (l.1, k.2) := by
    rw [List.getElem?_set_self (by rw [List.length_set]; exact hjl)]
  have en : ∀ n, n ≠ i → n ≠ j → ((ks.set i (k.1, l.2)).set j (l.1, k.2))[n]? = ks[n]? := fun n h1 h2 => by
    rw [List.getElem?_set_ne (Ne.symm h2), List.getElem?_set_ne (Ne.symm h1)]
  refine ⟨servedBy_of ei (by unfold servs; dsimp only; omega), fun x hxe hs => ?_, fun e he => ?_⟩
  · obtain ⟨n, q, hq, sq⟩ := servedBy_at hs
    by_cases z1 : n = i
    · subst z1
      rw [hk] at hq
      cases hq
      unfold servs at sq
      by_cases z2 : x.2.1 ≤ l.1
      · exact servedBy_of ej (by unfold servs; dsimp only; omega)
      · by_cases z3 : l.2 ≤ x.2.2
        · exact servedBy_of ei (by unfold servs; dsimp only; omega)
        · exfalso
          obtain ⟨_, _, _, hmin⟩ := mem_leastAt.mp ho
          obtain ⟨hxb, _, _, _⟩ := mem_leastAt.mp hxe
          refine hmin (x.2.1, x.2.2) hxb (by dsimp only; omega) (by dsimp only; omega) (fun z => ?_) ?_
          · have := congrArg Prod.fst z
            dsimp only at this
            omega
          · unfold within
            dsimp only
            omega
    · by_cases z2 : n = j
      · subst z2
        rw [hl] at hq
        cases hq
        unfold servs at sq
        by_cases z3 : k.1 ≤ x.1
        · exact servedBy_of ei (by unfold servs; dsimp only; omega)
        · exact servedBy_of ej (by unfold servs; dsimp only; omega)
      · exact servedBy_of (by rw [en n z1 z2]; exact hq) sq
  · obtain ⟨n, hn2⟩ := List.mem_iff_getElem?.mp he
    have mk := List.mem_of_getElem? hk
    have ml := List.mem_of_getElem? hl
    by_cases z2 : n = j
    · subst z2
      rw [ej] at hn2
      cases hn2
      exact ⟨⟨l, ml, rfl⟩, ⟨k, mk, rfl⟩, fun _ => by dsimp only; omega⟩
    · by_cases z1 : n = i
      · subst z1
        rw [ei] at hn2
        cases hn2
        exact ⟨⟨k, mk, rfl⟩, ⟨l, ml, rfl⟩, fun _ => by dsimp only; omega⟩
      · rw [en n z1 z2] at hn2
        have me := List.mem_of_getElem? hn2
        exact ⟨⟨e, me, rfl⟩, ⟨e, me, rfl⟩, fun h => h e me⟩
/-- an essential mark of the cell within each ask that has it -/
theorem ess_min {bs : List Sp2} {c : Int} : ∀ (n : Nat) (s : Sp2), (s.2 - s.1).toNat ≤ n → s ∈ bs → s.1 ≤ c → c < s.2 → ∃ t, within t s ∧ isEss bs (c, t.1, t.2)
  | 0, s, hn, _, h1, h2 => by omega
  | n + 1, s, hn, hs, h1, h2 => by
    by_cases h : ∃ o ∈ bs, o.1 ≤ c ∧ c < o.2 ∧ o ≠ s ∧ within o s
    · obtain ⟨o, ho, h3, h4, h5, h6⟩ := h
      have h6' := h6
      unfold within at h6'
      have : ¬ (o.1 = s.1 ∧ o.2 = s.2) := fun z => h5 (Prod.ext z.1 z.2)
      obtain ⟨t, ht, he⟩ := ess_min n o (by omega) ho h3 h4
      exact ⟨t, by unfold within at *; omega, he⟩
    · refine ⟨s, by unfold within; omega, ?_⟩
      refine mem_leastAt.mpr ⟨hs, h1, h2, fun o ho h3 h4 h5 h6 => h ⟨o, ho, h3, h4, h5, h6⟩⟩
theorem servs_up {k : Sp2} {c : Int} {t s : Sp2} (w : within t s) (h : servs k (c, t.1, t.2)) : servs k (c, s.1, s.2) := by
  unfold within at w
  unfold servs at *
  dsimp only at *
  omega
theorem served_up {ks : List Sp2} {c : Int} {t s : Sp2} (w : within t s) (h : servedBy ks (c, t.1, t.2) = true) : servedBy ks (c, s.1, s.2) = true := by
  obtain ⟨k, hk, hs⟩ := servedBy_iff.mp h
  exact servedBy_iff.mpr ⟨k, hk, servs_up w hs⟩
/-- what is not taken crosses one taken ahead -/
theorem taken_cross {m : Mk} : ∀ ms : List Mk, ms.Pairwise mkLt → m ∈ ms → m ∉ takenOf ms → ∃ o ∈ takenOf ms, mkLt o m ∧ (acr o m ∨ acr m o) := by
  refine snoc_ind (P := fun ms => ms.Pairwise mkLt → m ∈ ms → m ∉ takenOf ms → ∃ o ∈ takenOf ms, mkLt o m ∧ (acr o m ∨ acr m o)) (fun _ h => by cases h) (fun ms x ih hp hm hn => ?_)
  obtain ⟨p1, _, p2⟩ := List.pairwise_append.mp hp
  rw [takenOf_snoc] at hn ⊢
  have up : ∀ o, o ∈ takenOf ms → o ∈ (if crossAny (takenOf ms) x = true then takenOf ms else takenOf ms ++ [x]) := fun o ho => by
    split
    · exact ho
    · exact List.mem_append_left _ ho
  rcases List.mem_append.mp hm with hm | hm
  · obtain ⟨o, h1, h2⟩ := ih p1 hm fun z => hn (up m z)
    exact ⟨o, up o h1, h2⟩
  · obtain rfl : m = x := by simpa using hm
    by_cases z : crossAny (takenOf ms) m = true
    · have z2 := z
      unfold crossAny at z2
      rw [List.any_eq_true] at z2
      obtain ⟨o, ho, hc⟩ := z2
      exact ⟨o, up o ho, p2 o ((takenOf_sub ms).subset ho) m (by simp), by simpa using hc⟩
    · rw [if_neg z] at hn
      exact absurd (List.mem_append_right _ (by simp)) hn
def spreadStep (sm : List Mk) (ks : List Sp2) (m : Mk) : List Sp2 := if servedBy ks m = true then ks else match sm.find? fun o => decide (acr o m) with
  | some o => exch ks m o
  | none => ks
def chainSp (r : List Mk) : Sp2 := ((r.headD noMk).2.1, (r.getLastD noMk).2.2)
def spreadF (rows : List (List Mk)) (E sm : List Mk) : List Sp2 := E.foldl (spreadStep sm) (rows.map chainSp)
theorem mkLt_take {L : List Mk} {n : Nat} {m x : Mk} (hw : L.Pairwise mkLt) (hn : L[n]? = some m) (hx : x ∈ L) (h : mkLt x m) : x ∈ L.take n := by
  obtain ⟨i, hi⟩ := List.mem_iff_getElem?.mp hx
  have hil := (List.getElem?_eq_some_iff.mp hi).1
  have hnl := (List.getElem?_eq_some_iff.mp hn).1
  by_cases z : i < n
  · exact List.mem_iff_getElem?.mpr ⟨i, by rw [List.getElem?_take_of_lt z]; exact hi⟩
  · exfalso
    rcases Nat.lt_or_ge n i with q | q
    · have := List.pairwise_iff_getElem.mp hw n i hnl hil q
      rw [(List.getElem?_eq_some_iff.mp hn).2, (List.getElem?_eq_some_iff.mp hi).2] at this
      exact mkLt_asym h this
    · have : i = n := by omega
      subst this
      rw [hn] at hi
      cases hi
      exact mkLt_irr h
/-- the ends of stretches stand among those of others -/
def EndsIn (ks : List Sp2) (P : Int → Prop) : Prop := ∀ k ∈ ks, P k.1 ∧ P k.2 ∧ k.1 < k.2
theorem spread_ok {bs : List Sp2} {cs : List Int} {rows : List (List Mk)} (hw : (essAt cs bs).Pairwise mkLt)
    (hr : ∀ x ∈ takenOf (essAt cs bs), servedBy (rows.map chainSp) x = true) {P : Int → Prop} (he : EndsIn (rows.map chainSp) P) :
    ∀ n, n ≤ (essAt cs bs).length → (((essAt cs bs).take n).foldl (spreadStep (takenOf (essAt cs bs))) (rows.map chainSp)).length = rows.length ∧
      (∀ x ∈ (essAt cs bs).take n, servedBy (((essAt cs bs).take n).foldl (spreadStep (takenOf (essAt cs bs))) (rows.map chainSp)) x = true) ∧
      (∀ x ∈ takenOf (essAt cs bs), servedBy (((essAt cs bs).take n).foldl (spreadStep (takenOf (essAt cs bs))) (rows.map chainSp)) x = true) ∧ EndsIn (((essAt cs bs).take n).foldl (spreadStep (takenOf (essAt cs bs))) (rows.map chainSp)) P ∧
      (∀ m, (essAt cs bs)[n]? = some m → servedBy (((essAt cs bs).take n).foldl (spreadStep (takenOf (essAt cs bs))) (rows.map chainSp)) m = false → ∃ o, (takenOf (essAt cs bs)).find? (fun o => decide (acr o m)) = some o ∧
        servedBy (((essAt cs bs).take n).foldl (spreadStep (takenOf (essAt cs bs))) (rows.map chainSp)) (o.1, m.2) = true ∧ servedBy (((essAt cs bs).take n).foldl (spreadStep (takenOf (essAt cs bs))) (rows.map chainSp)) (m.1, o.2) = true) := by
  generalize hE : essAt cs bs = E at hw hr
  have em : ∀ m ∈ E, m.1 ∈ cs ∧ isEss bs m := fun m hm => by rw [← hE] at hm; exact mem_essAt.mp hm
  have me : ∀ m, m.1 ∈ cs → isEss bs m → m ∈ E := fun m h1 h2 => by rw [← hE]; exact mem_essAt.mpr ⟨h1, h2⟩
  have tE : ∀ o ∈ takenOf E, o ∈ E := fun o ho => (takenOf_sub E).subset ho
  -- the other one is there, both halves are served
  have find : ∀ (n : Nat) (ks : List Sp2) (m : Mk), E[n]? = some m → (∀ x ∈ E.take n, servedBy ks x = true) → (∀ x ∈ takenOf E, servedBy ks x = true) → servedBy ks m = false → ∃ o, (takenOf E).find? (fun o => decide (acr o m)) = some o ∧ acr o m ∧ isEss bs o ∧ servedBy ks (o.1, m.2) = true ∧ servedBy ks (m.1, o.2) = true := fun n ks m hm hd ht hs => by
    have hmE := List.mem_of_getElem? hm
    have hmt : m ∉ takenOf E := fun z => by rw [ht m z] at hs; cases hs
    obtain ⟨o', ho', hlt, hc⟩ := taken_cross E hw hmE hmt
    have hac : acr o' m := by
      rcases hc with hc | hc
      · exact hc
      · unfold acr at hc
        unfold mkLt at hlt
        omega
    obtain ⟨o, hf⟩ : ∃ o, (takenOf E).find? (fun o => decide (acr o m)) = some o := by
      cases h : (takenOf E).find? (fun o => decide (acr o m)) with
      | some o => exact ⟨o, rfl⟩
      | none =>
        have := List.find?_eq_none.mp h o' ho'
        simp [hac] at this
    have hom := List.mem_of_find?_eq_some hf
    have hoa : acr o m := by simpa using List.find?_some hf
    obtain ⟨oc, oe⟩ := em o (tE o hom)
    obtain ⟨mc, mes⟩ := em m hmE
    obtain ⟨mb, m1, m2, mmin⟩ := mem_leastAt.mp mes
    obtain ⟨ob, o1, o2, _⟩ := mem_leastAt.mp oe
    dsimp only at mb m1 m2 mmin ob o1 o2
    have hoa' := hoa
    unfold acr bnd at hoa'
    refine ⟨o, hf, hoa, oe, ?_, ?_⟩
    · obtain ⟨t, tw, te⟩ := ess_min (c := o.1) _ (m.2.1, m.2.2) (Nat.le_refl _) mb (by dsimp only; omega) (by dsimp only; omega)
      have tin : (o.1, t.1, t.2) ∈ E.take n := mkLt_take hw hm (me _ oc te) (by unfold mkLt; dsimp only; omega)
      exact served_up tw (hd _ tin)
    · obtain ⟨t, tw, te⟩ := ess_min (c := m.1) _ (o.2.1, o.2.2) (Nat.le_refl _) ob (by dsimp only; omega) (by dsimp only; omega)
      have tw' := tw
      unfold within at tw'
      dsimp only at tw'
      obtain ⟨tb, t1, t2, tmin⟩ := mem_leastAt.mp te
      dsimp only at tb t1 t2 tmin
      have lt : t.1 < m.2.1 := by
        rcases Int.lt_or_le t.1 m.2.1 with z | z
        · exact z
        · exfalso
          refine mmin t tb t1 t2 (fun y => ?_) (by unfold within; dsimp only; omega)
          have := congrArg Prod.snd y
          dsimp only at this
          omega
      have tin : (m.1, t.1, t.2) ∈ E.take n := mkLt_take hw hm (me _ mc te) (by unfold mkLt; dsimp only; omega)
      exact served_up tw (hd _ tin)
  have key : ∀ n, n ≤ E.length → ((E.take n).foldl (spreadStep (takenOf E)) (rows.map chainSp)).length = rows.length ∧
      (∀ x ∈ E.take n, servedBy ((E.take n).foldl (spreadStep (takenOf E)) (rows.map chainSp)) x = true) ∧ (∀ x ∈ takenOf E, servedBy ((E.take n).foldl (spreadStep (takenOf E)) (rows.map chainSp)) x = true) ∧ EndsIn ((E.take n).foldl (spreadStep (takenOf E)) (rows.map chainSp)) P := by
    intro n
    induction n with
    | zero =>
      intro _
      exact ⟨by simp, fun x hx => by simp at hx, hr, he⟩
    | succ n ih =>
      intro hn
      obtain ⟨h1, h2, h3, h4⟩ := ih (by omega)
      have hm : E[n]? = some E[n] := List.getElem?_eq_getElem (by omega)
      have et : E.take (n + 1) = E.take n ++ [E[n]] := by rw [List.take_add_one, hm]; rfl
      rw [et, List.foldl_append]
      show (spreadStep _ _ _).length = _ ∧ (∀ x ∈ _, servedBy (spreadStep _ _ _) x = true) ∧ (∀ x ∈ _, servedBy (spreadStep _ _ _) x = true) ∧ EndsIn (spreadStep _ _ _) P
      generalize E[n] = m at hm
      generalize (E.take n).foldl (spreadStep (takenOf E)) (rows.map chainSp) = ks at h1 h2 h3 h4
      unfold spreadStep
      by_cases hs : servedBy ks m = true
      · rw [if_pos hs]
        refine ⟨h1, fun x hx => ?_, h3, h4⟩
        rcases List.mem_append.mp hx with hx | hx
        · exact h2 x hx
        · obtain rfl : x = m := by simpa using hx
          exact hs
      · have hs : servedBy ks m = false := by simpa using hs
        rw [if_neg (by rw [hs]; decide)]
        obtain ⟨o, hf, hoa, oe, s1, s2⟩ := find n ks m hm h2 h3 hs
        rw [hf]
        dsimp only
        obtain ⟨g1, g2, g3⟩ := exch_ok (em m (List.mem_of_getElem? hm)).2 oe hoa hs s1 s2
        refine ⟨by rw [exch_len]; exact h1, fun x hx => ?_, fun x hx => g2 x (em x (tE x hx)).2 (h3 x hx), fun k hk => ?_⟩
        · rcases List.mem_append.mp hx with hx | hx
          · exact g2 x (em x (List.mem_of_mem_take hx)).2 (h2 x hx)
          · obtain rfl : x = m := by simpa using hx
            exact g1
        · obtain ⟨⟨a, ha, e1⟩, ⟨b, hb, e2⟩, hlt⟩ := g3 k hk
          rw [e1, e2]
          exact ⟨(h4 a ha).1, (h4 b hb).2.1, by rw [← e1, ← e2]; exact hlt fun k hk => (h4 k hk).2.2⟩
  intro n hn
  obtain ⟨h1, h2, h3, h4⟩ := key n hn
  exact ⟨h1, h2, h3, h4, fun m hm hs => let ⟨o, hf, _, _, s1, s2⟩ := find n _ m hm h2 h3 hs; ⟨o, hf, s1, s2⟩⟩
end LW

/-! ### kept stretches taken in as far as all marks are served -/
namespace LW
open DL
def minI : List Int → Int
  | [] => 0
  | x :: r => r.foldl min x
def maxI : List Int → Int
  | [] => 0
  | x :: r => r.foldl max x
theorem foldl_minI : ∀ (r : List Int) (x : Int), (r.foldl min x = x ∨ r.foldl min x ∈ r) ∧ r.foldl min x ≤ x ∧ ∀ y ∈ r, r.foldl min x ≤ y
  | [], x => ⟨.inl rfl, Int.le_refl _, fun y h => (by cases h)⟩
  | y :: r, x => by
    obtain ⟨h1, h2, h3⟩ := foldl_minI r (min x y)
    rw [List.foldl_cons]
    refine ⟨?_, by omega, fun z hz => ?_⟩
    · rcases h1 with e | e
      · rw [e]
        rcases Int.le_total x y with q | q
        · exact .inl (by omega)
        · exact .inr (by rw [show min x y = y by omega]; exact List.mem_cons_self)
      · exact .inr (List.mem_cons_of_mem _ e)
    · rcases List.mem_cons.mp hz with rfl | hz
      · omega
      · exact h3 z hz
theorem foldl_maxI : ∀ (r : List Int) (x : Int), (r.foldl max x = x ∨ r.foldl max x ∈ r) ∧ x ≤ r.foldl max x ∧ ∀ y ∈ r, y ≤ r.foldl max x
  | [], x => ⟨.inl rfl, Int.le_refl _, fun y h => (by cases h)⟩
  | y :: r, x => by
    obtain ⟨h1, h2, h3⟩ := foldl_maxI r (max x y)
    rw [List.foldl_cons]
    refine ⟨?_, by omega, fun z hz => ?_⟩
    · rcases h1 with e | e
      · rw [e]
        rcases Int.le_total x y with q | q
        · exact .inr (by rw [show max x y = y by omega]; exact List.mem_cons_self)
        · exact .inl (by omega)
      · exact .inr (List.mem_cons_of_mem _ e)
    · rcases List.mem_cons.mp hz with rfl | hz
      · omega
      · exact h3 z hz
theorem minI_ok {l : List Int} (h : l ≠ []) : minI l ∈ l ∧ ∀ y ∈ l, minI l ≤ y := by
  cases l with
  | nil => exact absurd rfl h
  | cons x r =>
    obtain ⟨h1, h2, h3⟩ := foldl_minI r x
    refine ⟨?_, fun y hy => ?_⟩
    · rcases h1 with e | e
      · show r.foldl min x ∈ _
        rw [e]
        exact List.mem_cons_self
      · exact List.mem_cons_of_mem _ e
    · rcases List.mem_cons.mp hy with rfl | hy
      · exact h2
      · exact h3 y hy
theorem maxI_ok {l : List Int} (h : l ≠ []) : maxI l ∈ l ∧ ∀ y ∈ l, y ≤ maxI l := by
  cases l with
  | nil => exact absurd rfl h
  | cons x r =>
    obtain ⟨h1, h2, h3⟩ := foldl_maxI r x
    refine ⟨?_, fun y hy => ?_⟩
    · rcases h1 with e | e
      · show r.foldl max x ∈ _
        rw [e]
        exact List.mem_cons_self
      · exact List.mem_cons_of_mem _ e
    · rcases List.mem_cons.mp hy with rfl | hy
      · exact h2
      · exact h3 y hy
theorem minI_uniq {l : List Int} {m : Int} (h : m ∈ l) (h2 : ∀ y ∈ l, m ≤ y) : m = minI l := by
  have hl : l ≠ [] := by intro e; subst e; cases h
  obtain ⟨h3, h4⟩ := minI_ok hl
  have := h2 _ h3
  have := h4 _ h
  omega
theorem maxI_uniq {l : List Int} {m : Int} (h : m ∈ l) (h2 : ∀ y ∈ l, y ≤ m) : m = maxI l := by
  have hl : l ≠ [] := by intro e; subst e; cases h
  obtain ⟨h3, h4⟩ := maxI_ok hl
  have := h2 _ h3
  have := h4 _ h
  omega
theorem er_iff {ks : List Sp2} {i : Nat} {m : Mk} : servedBy (ks.eraseIdx i) m = true ↔ ∃ (n : Nat) (q : Sp2), n ≠ i ∧ ks[n]? = some q ∧ servs q m := by
  rw [servedBy_iff]
  constructor
  · rintro ⟨k, hk, hs⟩
    obtain ⟨n, h1, h2⟩ := List.mem_eraseIdx_iff_getElem?.mp hk
    exact ⟨n, k, h1, h2, hs⟩
  · rintro ⟨n, q, h1, h2, hs⟩
    exact ⟨q, List.mem_eraseIdx_iff_getElem?.mpr ⟨n, h1, h2⟩, hs⟩
def aloneF (ks : List Sp2) (i : Nat) (ms : List Mk) : List Int := (ms.filter fun m => decide (servs (ks.getD i noSp) m) && !servedBy (ks.eraseIdx i) m).map (·.1)
theorem mem_alone {ks : List Sp2} {i : Nat} {ms : List Mk} {c : Int} {k : Sp2} (h : ks[i]? = some k) : c ∈ aloneF ks i ms ↔ ∃ m ∈ ms, m.1 = c ∧ servs k m ∧ servedBy (ks.eraseIdx i) m = false := by
  unfold aloneF
  rw [List.mem_map, getD_of h]
  constructor
  · rintro ⟨m, hm, e⟩
    obtain ⟨h1, h2⟩ := List.mem_filter.mp hm
    simp only [Bool.and_eq_true, decide_eq_true_eq, Bool.not_eq_true'] at h2
    exact ⟨m, h1, e, h2⟩
  · rintro ⟨m, hm, e, h1, h2⟩
    exact ⟨m, List.mem_filter.mpr ⟨hm, by simp [h1, h2]⟩, e⟩
def takenIn (pl : List Int) (left : Bool) (k : Sp2) (cs : List Int) : Sp2 := if left = true then (minI cs, k.2) else (k.1, minI (pl.filter fun p => decide (maxI cs < p)))
def shortF (pl : List Int) (ms : List Mk) (left : Bool) : Nat → Nat → List Sp2 → List Sp2
  | 0, _, ks => ks
  | f + 1, a, ks => if a < ks.length then
      if aloneF ks a ms = [] then shortF pl ms left f a (ks.eraseIdx a) else shortF pl ms left f (a + 1) (ks.set a (takenIn pl left (ks.getD a noSp) (aloneF ks a ms)))
    else ks
def wSp (k : Sp2) : Nat := (k.2 - k.1 + 1).toNat
def tot (ks : List Sp2) : Nat := (ks.map wSp).sum
theorem tot_set : ∀ {ks : List Sp2} {i : Nat} {k k' : Sp2}, ks[i]? = some k → tot (ks.set i k') + wSp k = tot ks + wSp k'
  | x :: ks, 0, k, k', h => by
    simp at h
    subst h
    simp [tot]
    omega
  | x :: ks, i + 1, k, k', h => by
    have := tot_set (ks := ks) (i := i) (k := k) (k' := k') (by simpa using h)
    simp only [tot, List.set_cons_succ, List.map_cons, List.sum_cons] at this ⊢
    omega
theorem tot_erase : ∀ {ks : List Sp2} {i : Nat} {k : Sp2}, ks[i]? = some k → tot (ks.eraseIdx i) + wSp k = tot ks
  | x :: ks, 0, k, h => by
    simp at h
    subst h
    simp [tot]
    omega
  | x :: ks, i + 1, k, h => by
    have := tot_erase (ks := ks) (i := i) (k := k) (by simpa using h)
    simp only [tot, List.eraseIdx_cons_succ, List.map_cons, List.sum_cons] at this ⊢
    omega
theorem tot_perm {a b : List Sp2} (h : a.Perm b) : tot a = tot b := (h.map wSp).sum_nat
structure TI (pl : List Int) (ms : List Mk) (ks : List Sp2) : Prop where
  sv : ∀ m ∈ ms, servedBy ks m = true
  en : EndsIn ks (· ∈ pl)
/-- the stretch at i cannot be taken in on one side -/
def Fix (pl : List Int) (ms : List Mk) (left : Bool) (ks : List Sp2) (i : Nat) : Prop := ∀ k, ks[i]? = some k → aloneF ks i ms ≠ [] ∧ takenIn pl left k (aloneF ks i ms) = k
section
variable {pl : List Int} {ms : List Mk} {left : Bool}
theorem taken_in {ks : List Sp2} {i : Nat} {k : Sp2} (hc : ∀ m ∈ ms, m.1 ∈ pl) (T : TI pl ms ks) (h : ks[i]? = some k) (hne : aloneF ks i ms ≠ []) :
    within (takenIn pl left k (aloneF ks i ms)) k ∧ (takenIn pl left k (aloneF ks i ms)).1 ∈ pl ∧ (takenIn pl left k (aloneF ks i ms)).2 ∈ pl ∧ (takenIn pl left k (aloneF ks i ms)).1 < (takenIn pl left k (aloneF ks i ms)).2 ∧
    ∀ m ∈ ms, servs k m → servedBy (ks.eraseIdx i) m = false → servs (takenIn pl left k (aloneF ks i ms)) m := by
  obtain ⟨n1, n2⟩ := minI_ok hne
  obtain ⟨x1, x2⟩ := maxI_ok hne
  have inK : ∀ c ∈ aloneF ks i ms, k.1 ≤ c ∧ c < k.2 ∧ c ∈ pl := fun c hc2 => by
    obtain ⟨m, hm, e, hs, _⟩ := (mem_alone h).mp hc2
    unfold servs at hs
    rw [← e]
    exact ⟨by omega, by omega, hc m hm⟩
  obtain ⟨e1, e2, e3⟩ := T.en k (List.mem_of_getElem? h)
  have own : ∀ m ∈ ms, servs k m → servedBy (ks.eraseIdx i) m = false → m.1 ∈ aloneF ks i ms := fun m hm h1 h2 => (mem_alone h).mpr ⟨m, hm, rfl, h1, h2⟩
  unfold takenIn
  cases left with
  | true =>
    rw [if_pos rfl]
    have := inK _ n1
    refine ⟨by unfold within; dsimp only; omega, this.2.2, e2, this.2.1, fun m hm h1 h2 => ?_⟩
    have := n2 _ (own m hm h1 h2)
    unfold servs at *
    dsimp only
    omega
  | false =>
    rw [if_neg (by decide)]
    have hmx := inK _ x1
    have hk2 : k.2 ∈ pl.filter fun p => decide (maxI (aloneF ks i ms) < p) := List.mem_filter.mpr ⟨e2, by simpa using hmx.2.1⟩
    obtain ⟨f1, f2⟩ := minI_ok (List.ne_nil_of_mem hk2)
    obtain ⟨f3, f4⟩ := List.mem_filter.mp f1
    have f4 : maxI (aloneF ks i ms) < minI (pl.filter fun p => decide (maxI (aloneF ks i ms) < p)) := by simpa using f4
    have f5 := f2 _ hk2
    refine ⟨by unfold within; dsimp only; omega, e1, f3, by dsimp only; omega, fun m hm h1 h2 => ?_⟩
    have := x2 _ (own m hm h1 h2)
    unfold servs at *
    dsimp only
    omega
theorem TI.set {ks : List Sp2} {i : Nat} {k : Sp2} (hc : ∀ m ∈ ms, m.1 ∈ pl) (T : TI pl ms ks) (h : ks[i]? = some k) (hne : aloneF ks i ms ≠ []) : TI pl ms (ks.set i (takenIn pl left k (aloneF ks i ms))) := by
  obtain ⟨_, t2, t3, t4, t5⟩ := taken_in (left := left) hc T h hne
  have hil := (List.getElem?_eq_some_iff.mp h).1
  refine ⟨fun m hm => ?_, fun e he => ?_⟩
  · by_cases z : servedBy (ks.eraseIdx i) m = true
    · obtain ⟨n, q, h1, h2, h3⟩ := er_iff.mp z
      exact servedBy_of (i := n) (by rw [List.getElem?_set_ne (Ne.symm h1)]; exact h2) h3
    · have z : servedBy (ks.eraseIdx i) m = false := by simpa using z
      obtain ⟨n, q, h1, h2⟩ := servedBy_at (T.sv m hm)
      have hn : n = i := Classical.byContradiction fun y => by
        have := er_iff.mpr ⟨n, q, y, h1, h2⟩
        rw [z] at this
        cases this
      subst hn
      rw [h] at h1
      cases h1
      exact servedBy_of (i := n) (by rw [List.getElem?_set_self hil]) (t5 m hm h2 z)
  · rcases List.mem_or_eq_of_mem_set he with he | rfl
    · exact T.en e he
    · exact ⟨t2, t3, t4⟩
theorem TI.erase {ks : List Sp2} {i : Nat} {k : Sp2} (T : TI pl ms ks) (h : ks[i]? = some k) (hne : aloneF ks i ms = []) : TI pl ms (ks.eraseIdx i) := by
  refine ⟨fun m hm => ?_, fun e he => T.en e (List.mem_of_mem_eraseIdx he)⟩
  by_cases z : servedBy (ks.eraseIdx i) m = true
  · exact z
  · have z : servedBy (ks.eraseIdx i) m = false := by simpa using z
    obtain ⟨n, q, h1, h2⟩ := servedBy_at (T.sv m hm)
    have hn : n = i := Classical.byContradiction fun y => by
      have := er_iff.mpr ⟨n, q, y, h1, h2⟩
      rw [z] at this
      cases this
    subst hn
    rw [h] at h1
    cases h1
    have : m.1 ∈ aloneF ks n ms := (mem_alone h).mpr ⟨m, hm, rfl, h2, z⟩
    rw [hne] at this
    cases this
theorem wSp_in {a k : Sp2} (h : within a k) (h2 : a.1 < a.2) : wSp a ≤ wSp k ∧ (wSp a = wSp k → a = k) := by
  unfold within at h
  unfold wSp
  exact ⟨by omega, fun e => Prod.ext (by omega) (by omega)⟩
theorem set_self {ks : List Sp2} {i : Nat} {k : Sp2} (h : ks[i]? = some k) : ks.set i k = ks := by
  obtain ⟨hl, e⟩ := List.getElem?_eq_some_iff.mp h
  rw [← e]
  exact List.set_getElem_self hl
theorem short_ok (hc : ∀ m ∈ ms, m.1 ∈ pl) : ∀ (f a : Nat) (ks : List Sp2), ks.length ≤ f + a → TI pl ms ks → TI pl ms (shortF pl ms left f a ks) ∧ (shortF pl ms left f a ks).length ≤ ks.length ∧ tot (shortF pl ms left f a ks) ≤ tot ks ∧
    (∀ e ∈ shortF pl ms left f a ks, ∃ k ∈ ks, within e k) ∧ (tot (shortF pl ms left f a ks) = tot ks → shortF pl ms left f a ks = ks ∧ ∀ i, a ≤ i → i < ks.length → Fix pl ms left ks i)
  | 0, a, ks, hf, T => ⟨T, Nat.le_refl _, Nat.le_refl _, fun e he => ⟨e, he, by unfold within; omega⟩, fun _ => ⟨rfl, fun i h1 h2 => by omega⟩⟩
  | f + 1, a, ks, hf, T => by
    unfold shortF
    by_cases hlt : a < ks.length
    · rw [if_pos hlt]
      have hk : ks[a]? = some ks[a] := List.getElem?_eq_getElem hlt
      generalize ks[a] = k at hk
      obtain ⟨k1, k2, k3⟩ := T.en k (List.mem_of_getElem? hk)
      have wk : 1 ≤ wSp k := by unfold wSp; omega
      by_cases hne : aloneF ks a ms = []
      · rw [if_pos hne]
        have te := tot_erase hk
        obtain ⟨g1, g2, g3, g4, g5⟩ := short_ok hc f a (ks.eraseIdx a) (by rw [List.length_eraseIdx_of_lt hlt]; omega) (T.erase hk hne)
        refine ⟨g1, ?_, by omega, fun e he => ?_, fun e => by omega⟩
        · rw [List.length_eraseIdx_of_lt hlt] at g2
          omega
        · obtain ⟨q, hq, w⟩ := g4 e he
          exact ⟨q, List.mem_of_mem_eraseIdx hq, w⟩
      · rw [if_neg hne, getD_of hk]
        have ts := tot_set (k' := takenIn pl left k (aloneF ks a ms)) hk
        obtain ⟨t1, _, _, t4, _⟩ := taken_in (left := left) hc T hk hne
        obtain ⟨w1, w2⟩ := wSp_in t1 t4
        obtain ⟨g1, g2, g3, g4, g5⟩ := short_ok hc f (a + 1) (ks.set a (takenIn pl left k (aloneF ks a ms))) (by rw [List.length_set]; omega) (T.set hc hk hne)
        rw [List.length_set] at g2
        refine ⟨g1, g2, by omega, fun e he => ?_, fun e => ?_⟩
        · obtain ⟨q, hq, w⟩ := g4 e he
          rcases List.mem_or_eq_of_mem_set hq with hq | rfl
          · exact ⟨q, hq, w⟩
          · refine ⟨k, List.mem_of_getElem? hk, ?_⟩
            unfold within at *
            omega
        · have ek : takenIn pl left k (aloneF ks a ms) = k := w2 (by omega)
          have es : ks.set a (takenIn pl left k (aloneF ks a ms)) = ks := by rw [ek]; exact set_self hk
          rw [es] at g5 ⊢
          obtain ⟨h1, h2⟩ := g5 (by rw [es] at g3; rw [es] at e; exact e)
          refine ⟨h1, fun i hi hil => ?_⟩
          by_cases z : i = a
          · subst z
            intro k' hk'
            rw [hk] at hk'
            cases hk'
            exact ⟨hne, ek⟩
          · exact h2 i (by omega) hil
    · rw [if_neg hlt]
      exact ⟨T, Nat.le_refl _, Nat.le_refl _, fun e he => ⟨e, he, by unfold within; omega⟩, fun _ => ⟨rfl, fun i h1 h2 => by omega⟩⟩
end
/-! #### sorting -/
instance (a b : Sp2) : Decidable (spLt a b) := by unfold spLt; infer_instance
instance (a b : Mk) : Decidable (mkLt a b) := by unfold mkLt; infer_instance
section
variable {α : Type} (r : α → α → Prop) [DecidableRel r]
def insO (x : α) : List α → List α
  | [] => [x]
  | y :: l => if r y x then y :: insO x l else x :: y :: l
def sortO : List α → List α
  | [] => []
  | x :: l => insO r x (sortO l)
end
section
variable {α : Type} {r : α → α → Prop} [DecidableRel r]
theorem insO_perm (x : α) : ∀ l : List α, (insO r x l).Perm (x :: l)
  | [] => .refl _
  | y :: l => by
    unfold insO
    split
    · exact (List.Perm.cons y (insO_perm x l)).trans (List.Perm.swap _ _ _)
    · exact .refl _
theorem sortO_perm : ∀ l : List α, (sortO r l).Perm l
  | [] => .refl _
  | x :: l => (insO_perm x (sortO r l)).trans (List.Perm.cons x (sortO_perm l))
theorem insO_pw (tr : ∀ a b c, ¬ r b a → ¬ r c b → ¬ r c a) (as : ∀ a b, r a b → ¬ r b a) (x : α) : ∀ l : List α, l.Pairwise (fun a b => ¬ r b a) → (insO r x l).Pairwise (fun a b => ¬ r b a)
  | [], _ => by simp [insO]
  | y :: l, h => by
    obtain ⟨h1, h2⟩ := List.pairwise_cons.mp h
    unfold insO
    by_cases z : r y x
    · rw [if_pos z]
      refine List.pairwise_cons.mpr ⟨fun w hw => ?_, insO_pw tr as x l h2⟩
      rcases List.mem_cons.mp ((insO_perm x l).mem_iff.mp hw) with rfl | hw
      · exact as _ _ z
      · exact h1 w hw
    · rw [if_neg z]
      refine List.pairwise_cons.mpr ⟨fun w hw => ?_, h⟩
      rcases List.mem_cons.mp hw with rfl | hw
      · exact z
      · exact tr _ _ _ z (h1 w hw)
theorem sortO_pw (tr : ∀ a b c, ¬ r b a → ¬ r c b → ¬ r c a) (as : ∀ a b, r a b → ¬ r b a) : ∀ l : List α, (sortO r l).Pairwise (fun a b => ¬ r b a)
  | [] => List.Pairwise.nil
  | x :: l => insO_pw tr as x _ (sortO_pw tr as l)
/-- sorted lists of the same members, each as often, are one -/
theorem sorted_uniq (an : ∀ a b, ¬ r a b → ¬ r b a → a = b) : ∀ {a b : List α}, a.Perm b → a.Pairwise (fun x y => ¬ r y x) → b.Pairwise (fun x y => ¬ r y x) → a = b
  | [], b, h, _, _ => (List.Perm.nil_eq h)
  | x :: a, [], h, _, _ => by
    have := h.length_eq
    simp at this
  | x :: a, y :: b, h, h1, h2 => by
    obtain ⟨p1, p2⟩ := List.pairwise_cons.mp h1
    obtain ⟨q1, q2⟩ := List.pairwise_cons.mp h2
    have e : x = y := by
      rcases List.mem_cons.mp (h.mem_iff.mp List.mem_cons_self) with e | hx
      · exact e
      · rcases List.mem_cons.mp (h.mem_iff.mpr List.mem_cons_self) with e | hy
        · exact e.symm
        · exact an _ _ (p1 y hy |> fun z => (q1 x hx)) (p1 y hy)
    subst e
    rw [sorted_uniq an ((List.perm_cons x).mp h) p2 q2]
end
theorem spLt_tr (a b c : Sp2) (h1 : ¬ spLt b a) (h2 : ¬ spLt c b) : ¬ spLt c a := by unfold spLt at *; omega
theorem spLt_as (a b : Sp2) (h1 : spLt a b) : ¬ spLt b a := by unfold spLt at *; omega
theorem spLt_an (a b : Sp2) (h1 : ¬ spLt a b) (h2 : ¬ spLt b a) : a = b := by unfold spLt at *; exact Prod.ext (by omega) (by omega)
theorem mkLt_tr (a b c : Mk) (h1 : ¬ mkLt b a) (h2 : ¬ mkLt c b) : ¬ mkLt c a := by unfold mkLt at *; omega
theorem mkLt_as (a b : Mk) (h1 : mkLt a b) : ¬ mkLt b a := by unfold mkLt at *; omega
theorem mkLt_an (a b : Mk) (h1 : ¬ mkLt a b) (h2 : ¬ mkLt b a) : a = b := by unfold mkLt at *; exact Prod.ext (by omega) (Prod.ext (by omega) (by omega))
def sortSp (l : List Sp2) : List Sp2 := sortO spLt l
def sortMk (l : List Mk) : List Mk := sortO mkLt l
theorem sortSp_eq {a b : List Sp2} (h : b.Perm a) (hp : b.Pairwise fun x y => ¬ spLt y x) : b = sortSp a := sorted_uniq spLt_an (h.trans (sortO_perm a).symm) hp (sortO_pw spLt_tr spLt_as a)
theorem sortMk_eq {a b : List Mk} (h : b.Perm a) (hp : b.Pairwise fun x y => ¬ mkLt y x) : b = sortMk a := sorted_uniq mkLt_an (h.trans (sortO_perm a).symm) hp (sortO_pw mkLt_tr mkLt_as a)
def bothF (pl : List Int) (ms : List Mk) (ks : List Sp2) : List Sp2 :=
  let a := shortF pl ms true ks.length 0 ks
  sortSp (shortF pl ms false a.length 0 a)
def thinF (pl : List Int) (ms : List Mk) : Nat → List Sp2 → List Sp2
  | 0, ks => ks
  | f + 1, ks => if bothF pl ms ks = ks then ks else thinF pl ms f (bothF pl ms ks)
section
variable {pl : List Int} {ms : List Mk}
theorem TI.perm {a b : List Sp2} (h : a.Perm b) (T : TI pl ms a) : TI pl ms b := ⟨fun m hm => by
  obtain ⟨k, hk, hs⟩ := servedBy_iff.mp (T.sv m hm)
  exact servedBy_iff.mpr ⟨k, h.mem_iff.mp hk, hs⟩, fun e he => T.en e (h.mem_iff.mpr he)⟩
theorem both_ok (hc : ∀ m ∈ ms, m.1 ∈ pl) {ks : List Sp2} (T : TI pl ms ks) (hs : ks.Pairwise fun x y => ¬ spLt y x) : TI pl ms (bothF pl ms ks) ∧ (bothF pl ms ks).length ≤ ks.length ∧ (∀ e ∈ bothF pl ms ks, ∃ k ∈ ks, within e k) ∧ (bothF pl ms ks).Pairwise (fun x y => ¬ spLt y x) ∧
    tot (bothF pl ms ks) ≤ tot ks ∧ (tot (bothF pl ms ks) = tot ks → bothF pl ms ks = ks ∧ ∀ i, i < ks.length → Fix pl ms true ks i ∧ Fix pl ms false ks i) := by
  obtain ⟨a1, a2, a3, a4, a5⟩ := short_ok (left := true) hc ks.length 0 ks (by omega) T
  unfold bothF
  dsimp only
  generalize shortF pl ms true ks.length 0 ks = a at a1 a2 a3 a4 a5
  obtain ⟨b1, b2, b3, b4, b5⟩ := short_ok (left := false) hc a.length 0 a (by omega) a1
  generalize shortF pl ms false a.length 0 a = b at b1 b2 b3 b4 b5
  have pm := sortO_perm (r := spLt) b
  have ep := tot_perm pm
  refine ⟨b1.perm pm.symm, by rw [show (sortSp b).length = b.length from pm.length_eq]; omega, fun e he => ?_, sortO_pw spLt_tr spLt_as b, by show tot (sortO spLt b) ≤ _; omega, fun e => ?_⟩
  · obtain ⟨k, hk, w⟩ := b4 e (pm.mem_iff.mp he)
    obtain ⟨q, hq, w2⟩ := a4 k hk
    exact ⟨q, hq, by unfold within at *; omega⟩
  · have e : tot (sortO spLt b) = tot ks := e
    obtain ⟨e1, f1⟩ := a5 (by omega)
    subst e1
    obtain ⟨e2, f2⟩ := b5 (by omega)
    subst e2
    exact ⟨(sortSp_eq (.refl _) hs).symm, fun i hi => ⟨f1 i (Nat.zero_le _) hi, f2 i (Nat.zero_le _) hi⟩⟩
theorem thin_ok (hc : ∀ m ∈ ms, m.1 ∈ pl) : ∀ (f : Nat) (ks : List Sp2), tot ks ≤ f → TI pl ms ks → ks.Pairwise (fun x y => ¬ spLt y x) → TI pl ms (thinF pl ms f ks) ∧ (thinF pl ms f ks).length ≤ ks.length ∧ (∀ e ∈ thinF pl ms f ks, ∃ k ∈ ks, within e k) ∧ (thinF pl ms f ks).Pairwise (fun x y => ¬ spLt y x) ∧
    (∀ i, i < (thinF pl ms f ks).length → Fix pl ms true (thinF pl ms f ks) i ∧ Fix pl ms false (thinF pl ms f ks) i)
  | 0, ks, hf, T, hs => by
    have : ks = [] := by
      cases ks with
      | nil => rfl
      | cons k ks =>
        obtain ⟨_, _, h⟩ := T.en k List.mem_cons_self
        simp only [tot, List.map_cons, List.sum_cons, wSp] at hf
        omega
    subst this
    exact ⟨T, Nat.le_refl _, fun e he => ⟨e, he, by unfold within; omega⟩, hs, fun i hi => by simp [thinF] at hi⟩
  | f + 1, ks, hf, T, hs => by
    obtain ⟨b1, b2, b3, b4, b5, b6⟩ := both_ok hc T hs
    unfold thinF
    by_cases z : bothF pl ms ks = ks
    · rw [if_pos z]
      obtain ⟨_, h⟩ := b6 (by rw [z])
      exact ⟨T, Nat.le_refl _, fun e he => ⟨e, he, by unfold within; omega⟩, hs, h⟩
    · rw [if_neg z]
      have : tot (bothF pl ms ks) ≠ tot ks := fun e => z (b6 e).1
      obtain ⟨g1, g2, g3, g4, g5⟩ := thin_ok hc f (bothF pl ms ks) (by omega) b1 b4
      refine ⟨g1, by omega, fun e he => ?_, g4, g5⟩
      obtain ⟨k, hk, w⟩ := g3 e he
      obtain ⟨q, hq, w2⟩ := b3 k hk
      exact ⟨q, hq, by unfold within at *; omega⟩
end
end LW

/-! ### the plan: as many kept stretches as unlike marks -/
namespace LW
open DL
/-- the borders of stretches within 0 to 400, rising -/
def bordersF (bs : List Sp2) : List Int := ((List.range 401).map fun k : Nat => (k : Int)).filter fun z => bs.any fun s => decide (s.1 = z) || decide (s.2 = z)
def inRow (bs : List Sp2) : Prop := ∀ s ∈ bs, 0 ≤ s.1 ∧ s.1 ≤ 400 ∧ 0 ≤ s.2 ∧ s.2 ≤ 400
theorem mem_borders {bs : List Sp2} (h : inRow bs) {z : Int} : z ∈ bordersF bs ↔ ∃ s ∈ bs, z = s.1 ∨ z = s.2 := by
  unfold bordersF
  rw [List.mem_filter, List.any_eq_true]
  constructor
  · rintro ⟨_, s, hs, e⟩
    refine ⟨s, hs, ?_⟩
    simp only [Bool.or_eq_true, decide_eq_true_eq] at e
    exact e.imp Eq.symm Eq.symm
  · rintro ⟨s, hs, e⟩
    have := h s hs
    refine ⟨List.mem_map.mpr ⟨z.toNat, List.mem_range.mpr ?_, ?_⟩, s, hs, ?_⟩
    · rcases e with e | e <;> omega
    · rcases e with e | e <;> omega
    · simp only [Bool.or_eq_true, decide_eq_true_eq]
      exact e.imp Eq.symm Eq.symm
theorem borders_pw (bs : List Sp2) : (bordersF bs).Pairwise (· < ·) := by
  unfold bordersF
  refine List.Pairwise.filter _ ?_
  rw [List.pairwise_map]
  exact List.pairwise_lt_range.imp fun {a b} h => by omega
theorem int_uniq : ∀ {a b : List Int}, a.Pairwise (· < ·) → b.Pairwise (· < ·) → (∀ z, z ∈ a ↔ z ∈ b) → a = b
  | [], [], _, _, _ => rfl
  | [], y :: b, _, _, h => by have := (h y).mpr List.mem_cons_self; cases this
  | x :: a, [], _, _, h => by have := (h x).mp List.mem_cons_self; cases this
  | x :: a, y :: b, h1, h2, h => by
    obtain ⟨p1, p2⟩ := List.pairwise_cons.mp h1
    obtain ⟨q1, q2⟩ := List.pairwise_cons.mp h2
    have e : x = y := by
      rcases List.mem_cons.mp ((h x).mp List.mem_cons_self) with e | hx
      · exact e
      · rcases List.mem_cons.mp ((h y).mpr List.mem_cons_self) with e | hy
        · exact e.symm
        · have := q1 x hx
          have := p1 y hy
          omega
    subst e
    rw [int_uniq p2 q2 fun z => ?_]
    have := h z
    simp only [List.mem_cons] at this
    constructor
    · intro hz
      rcases this.mp (.inr hz) with e | hb
      · have := p1 z hz
        omega
      · exact hb
    · intro hz
      rcases this.mpr (.inr hz) with e | hb
      · have := q1 z hz
        omega
      · exact hb
theorem borders_eq {bs : List Sp2} {L : List Int} (h : inRow bs) (hm : ∀ z, z ∈ L ↔ ∃ s ∈ bs, z = s.1 ∨ z = s.2) (hp : L.Pairwise (· < ·)) : L = bordersF bs := int_uniq hp (borders_pw bs) fun z => by rw [hm, mem_borders h]
theorem drop_lt {L : List Int} (hp : L.Pairwise (· < ·)) {x y : Int} (hx : x ∈ L) (hy : y ∈ L) (h : x < y) : x ∈ L.dropLast := by
  have hne : L ≠ [] := List.ne_nil_of_mem hx
  rw [← List.dropLast_concat_getLast hne] at hx hy hp
  rcases List.mem_append.mp hx with hx | hx
  · exact hx
  · exfalso
    have ex : x = L.getLast hne := by simpa using hx
    rcases List.mem_append.mp hy with hy | hy
    · have := (List.pairwise_append.mp hp).2.2 y hy (L.getLast hne) (by simp)
      omega
    · have : y = L.getLast hne := by simpa using hy
      omega
/-- the last place that is not right of c -/
theorem last_le : ∀ (L : List Int) (s c : Int), s ∈ L → s ≤ c → ∃ p ∈ L, p ≤ c ∧ ∀ q ∈ L, q ≤ c → q ≤ p := fun L s c hs hc => by
  have hne : L.filter (fun q => decide (q ≤ c)) ≠ [] := List.ne_nil_of_mem (List.mem_filter.mpr ⟨hs, by simpa using hc⟩)
  obtain ⟨h1, h2⟩ := maxI_ok hne
  obtain ⟨h3, h4⟩ := List.mem_filter.mp h1
  exact ⟨_, h3, by simpa using h4, fun q hq hqc => h2 q (List.mem_filter.mpr ⟨hq, by simpa using hqc⟩)⟩
/-- kept stretches that serve, shortened -/
def thinnedF (bs ks : List Sp2) : List Sp2 := thinF (bordersF (bs ++ ks)) (essAt (bordersF (bs ++ ks)).dropLast bs) (tot ks) (sortSp ks)
def allServed (bs ks : List Sp2) : Prop := ∀ s ∈ bs, ∀ c, s.1 ≤ c → c < s.2 → servedBy ks (c, s.1, s.2) = true
theorem allServed_iff {bs ks : List Sp2} : allServed bs ks ↔ ∀ m ∈ marksOf bs, servedBy ks m = true := by
  constructor
  · intro h m hm
    obtain ⟨h1, h2, h3⟩ := mem_marksOf.mp hm
    exact h _ h1 _ h2 h3
  · intro h s hs c h1 h2
    exact h (c, s.1, s.2) (mem_marksOf.mpr ⟨hs, h1, h2⟩)
/-- essential marks at all borders are served: all marks are -/
theorem all_of_ess {bs R : List Sp2} {pl : List Int} (hp : pl.Pairwise (· < ·)) (hb : ∀ s ∈ bs, s.1 ∈ pl ∧ s.2 ∈ pl) (hR : ∀ k ∈ R, k.2 ∈ pl) (h : ∀ m ∈ essAt pl.dropLast bs, servedBy R m = true) : allServed bs R := fun s hs c h1 h2 => by
  obtain ⟨p, hpl, hpc, hmax⟩ := last_le pl s.1 c (hb s hs).1 h1
  have hsp := hmax _ (hb s hs).1 h1
  obtain ⟨t, tw, te⟩ := ess_min (c := p) _ s (Nat.le_refl _) hs hsp (by omega)
  have hd : p ∈ pl.dropLast := drop_lt hp hpl (hb s hs).2 (by omega)
  obtain ⟨k, hk, sk⟩ := servedBy_iff.mp (h _ (mem_essAt.mpr ⟨hd, te⟩))
  unfold servs at sk
  dsimp only at sk
  have : c < k.2 := Classical.byContradiction fun z => by
    have := hmax k.2 (hR k hk) (by omega)
    omega
  refine servedBy_iff.mpr ⟨k, hk, ?_⟩
  unfold within at tw
  unfold servs
  dsimp only
  omega
/-- what holds of thinned stretches -/
structure Thin (bs ks R : List Sp2) : Prop where
  all : allServed bs R
  len : R.length ≤ ks.length
  sub : ∀ e ∈ R, ∃ k ∈ ks, within e k
  pw : R.Pairwise spLt
  lo : ∀ i k, R[i]? = some k → ∃ s ∈ bs, s.1 ≤ k.1 ∧ k.2 ≤ s.2 ∧ servedBy (R.eraseIdx i) (k.1, s.1, s.2) = false
  hi : ∀ i k, R[i]? = some k → ∃ s ∈ bs, s.1 ≤ k.1 ∧ k.2 ≤ s.2 ∧ servedBy (R.eraseIdx i) (k.2 - 1, s.1, s.2) = false
  en : EndsIn R fun z => ∃ s ∈ bs ++ ks, z = s.1 ∨ z = s.2
theorem inRow_app {a b : List Sp2} (h1 : inRow a) (h2 : inRow b) : inRow (a ++ b) := fun s hs => by
  rcases List.mem_append.mp hs with hs | hs
  · exact h1 s hs
  · exact h2 s hs
theorem thinned_ok {bs ks : List Sp2} (hb : inRow bs) (hk : inRow ks) (hlt : ∀ k ∈ ks, k.1 < k.2) (hs : ∀ m ∈ essAt (bordersF (bs ++ ks)).dropLast bs, servedBy ks m = true) : Thin bs ks (thinnedF bs ks) := by
  have hr := inRow_app hb hk
  unfold thinnedF
  generalize hpl : bordersF (bs ++ ks) = pl at hs
  have hm : ∀ z, z ∈ pl ↔ ∃ s ∈ bs ++ ks, z = s.1 ∨ z = s.2 := fun z => by rw [← hpl, mem_borders hr]
  have pw : pl.Pairwise (· < ·) := by rw [← hpl]; exact borders_pw _
  have hc : ∀ m ∈ essAt pl.dropLast bs, m.1 ∈ pl := fun m hm => List.dropLast_subset _ (mem_essAt.mp hm).1
  have en0 : EndsIn ks (· ∈ pl) := fun k hk => ⟨(hm _).mpr ⟨k, List.mem_append_right _ hk, .inl rfl⟩, (hm _).mpr ⟨k, List.mem_append_right _ hk, .inr rfl⟩, hlt k hk⟩
  have pm := sortO_perm (r := spLt) ks
  have T0 : TI pl (essAt pl.dropLast bs) (sortSp ks) := TI.perm pm.symm ⟨hs, en0⟩
  obtain ⟨T, h2, h3, h4, h5⟩ := thin_ok hc (tot ks) (sortSp ks) (by rw [show tot (sortSp ks) = tot ks from tot_perm pm]; exact Nat.le_refl _) T0 (sortO_pw spLt_tr spLt_as ks)
  generalize thinF pl (essAt pl.dropLast bs) (tot ks) (sortSp ks) = R at T h2 h3 h4 h5
  have fixL : ∀ i k, R[i]? = some k → ∃ m ∈ essAt pl.dropLast bs, m.1 = k.1 ∧ servs k m ∧ servedBy (R.eraseIdx i) m = false := fun i k hk => by
    have hil := (List.getElem?_eq_some_iff.mp hk).1
    obtain ⟨n1, n2⟩ := (h5 i hil).1 k hk
    have h1 := (minI_ok n1).1
    have e : minI (aloneF R i (essAt pl.dropLast bs)) = k.1 := by
      have := congrArg Prod.fst n2
      unfold takenIn at this
      rw [if_pos rfl] at this
      exact this
    rw [e] at h1
    exact (mem_alone hk).mp h1
  have fixR : ∀ i k, R[i]? = some k → ∃ m ∈ essAt pl.dropLast bs, servs k m ∧ servedBy (R.eraseIdx i) m = false ∧ ∀ p ∈ pl, m.1 < p → k.2 ≤ p := fun i k hk => by
    have hil := (List.getElem?_eq_some_iff.mp hk).1
    obtain ⟨n1, n2⟩ := (h5 i hil).2 k hk
    have h1 := (maxI_ok n1).1
    obtain ⟨m, hm, e, g1, g2⟩ := (mem_alone hk).mp h1
    have e2 : minI (pl.filter fun p => decide (maxI (aloneF R i (essAt pl.dropLast bs)) < p)) = k.2 := by
      have := congrArg Prod.snd n2
      unfold takenIn at this
      rw [if_neg (by decide)] at this
      exact this
    refine ⟨m, hm, g1, g2, fun p hp hlt => ?_⟩
    have hpf : p ∈ pl.filter fun p => decide (maxI (aloneF R i (essAt pl.dropLast bs)) < p) := List.mem_filter.mpr ⟨hp, by rw [← e]; simpa using hlt⟩
    have := (minI_ok (List.ne_nil_of_mem hpf)).2 p hpf
    omega
  refine ⟨all_of_ess pw (fun s hs => ⟨(hm _).mpr ⟨s, List.mem_append_left _ hs, .inl rfl⟩, (hm _).mpr ⟨s, List.mem_append_left _ hs, .inr rfl⟩⟩) (fun k hk => (T.en k hk).2.1) T.sv, ?_, fun e he => ?_, ?_, fun i k hk => ?_, fun i k hk => ?_, fun k hk => ?_⟩
  · have := pm.length_eq
    unfold sortSp at h2
    omega
  · obtain ⟨k, hk, w⟩ := h3 e he
    exact ⟨k, pm.mem_iff.mp hk, w⟩
  · have nd : R.Nodup := by
      refine List.pairwise_iff_getElem.mpr fun i j hi hj hij e => ?_
      have hk : R[i]? = some R[i] := List.getElem?_eq_getElem hi
      obtain ⟨m, _, _, g1, g2⟩ := fixL i _ hk
      have := er_iff.mpr ⟨j, R[j], (show j ≠ i by omega), List.getElem?_eq_getElem hj, by rw [← e]; exact g1⟩
      rw [g2] at this
      cases this
    refine (h4.and nd).imp fun {a b} ⟨z1, z2⟩ => ?_
    by_cases z : spLt a b
    · exact z
    · exact absurd (spLt_an _ _ z z1) z2
  · obtain ⟨m, hm, e, g1, g2⟩ := fixL i k hk
    obtain ⟨q1, q2, q3, _⟩ := mem_leastAt.mp (mem_essAt.mp hm).2
    unfold servs at g1
    exact ⟨(m.2.1, m.2.2), q1, g1.1, g1.2.2.2, by rw [← e]; exact g2⟩
  · obtain ⟨m, hm, g1, g2, g3⟩ := fixR i k hk
    obtain ⟨q1, q2, q3, _⟩ := mem_leastAt.mp (mem_essAt.mp hm).2
    unfold servs at g1
    refine ⟨(m.2.1, m.2.2), q1, g1.1, g1.2.2.2, ?_⟩
    cases z : servedBy (R.eraseIdx i) (k.2 - 1, m.2.1, m.2.2) with
    | false => rfl
    | true =>
      obtain ⟨n, q, y1, y2, y3⟩ := er_iff.mp z
      unfold servs at y3
      dsimp only at y3
      have hq1 := (T.en q (List.mem_of_getElem? y2)).1
      have hqc : q.1 ≤ m.1 := Classical.byContradiction fun w => by
        have := g3 q.1 hq1 (by omega)
        omega
      have := er_iff.mpr ⟨n, q, y1, y2, show servs q m by unfold servs; omega⟩
      rw [g2] at this
      cases this
  · obtain ⟨z1, z2, z3⟩ := T.en k hk
    exact ⟨(hm _).mp z1, (hm _).mp z2, z3⟩
/-! #### the plan -/
def essF (bs : List Sp2) : List Mk := essAt (bordersF bs).dropLast bs
def keptF (bs : List Sp2) : List Sp2 := spreadF (rowsOf (takenOf (essF bs))) (essF bs) (takenOf (essF bs))
def planF (bs : List Sp2) : List Sp2 × List Mk := (thinnedF bs (keptF bs), sortMk (unlikeOf (takenOf (essF bs))))
theorem bnd_of {k : Sp2} {a b : Mk} (h1 : servs k a) (h2 : servs k b) : bnd a b := by unfold servs at *; unfold bnd; omega
theorem unlike_le {R : List Sp2} {U : List Mk} (hs : ∀ m ∈ U, servedBy R m = true) (hu : U.Pairwise fun a b => ¬ bnd a b) : U.length ≤ R.length := by
  have h1 : (U.map (firstAt R)).Nodup := by
    refine List.pairwise_map.mpr (hu.imp_of_mem fun {a b} ha hb hn e => hn ?_)
    obtain ⟨k, hk, sk⟩ := firstAt_ok (hs a ha)
    obtain ⟨l, hl, sl⟩ := firstAt_ok (hs b hb)
    rw [e, hl] at hk
    cases hk
    exact bnd_of sk sl
  have := nodup_sub h1 (b := List.range R.length) fun x hx => by
    obtain ⟨m, hm, rfl⟩ := List.mem_map.mp hx
    obtain ⟨k, hk, _⟩ := firstAt_ok (hs m hm)
    exact List.mem_range.mpr (List.getElem?_eq_some_iff.mp hk).1
  rwa [List.length_map, List.length_range] at this
theorem borders_len {bs : List Sp2} (h : inRow bs) : (bordersF bs).length ≤ 2 * bs.length := by
  have nd : (bordersF bs).Nodup := (borders_pw bs).imp fun {a b} z e => by omega
  have := nodup_sub nd (b := bs.map (·.1) ++ bs.map (·.2)) fun z hz => by
    obtain ⟨s, hs, e⟩ := (mem_borders h).mp hz
    rw [List.mem_append]
    rcases e with e | e
    · exact .inl (List.mem_map.mpr ⟨s, hs, e.symm⟩)
    · exact .inr (List.mem_map.mpr ⟨s, hs, e.symm⟩)
  rw [List.length_append, List.length_map, List.length_map] at this
  omega
theorem essF_len {bs : List Sp2} (h : inRow bs) : (essF bs).length ≤ 2 * bs.length * bs.length := by
  refine Nat.le_trans (len_essAt _ _) (Nat.mul_le_mul_right _ ?_)
  have := borders_len h
  rw [List.length_dropLast]
  omega
theorem takenOf_nodup {bs : List Sp2} (hp : (essF bs).Pairwise mkLt) : (takenOf (essF bs)).Nodup := (hp.sublist (takenOf_sub _)).imp fun {a b} h e => by rw [e] at h; exact mkLt_irr h
/-- marks of asks of which no two are bound are no more than the asks -/
theorem unlike_asks {bs : List Sp2} {U : List Mk} (hm : ∀ m ∈ U, (m.2.1, m.2.2) ∈ bs ∧ m.2.1 ≤ m.1 ∧ m.1 < m.2.2) (hu : U.Pairwise fun a b => ¬ bnd a b) : U.length ≤ bs.length := unlike_le (fun m h => by
  obtain ⟨h1, h2, h3⟩ := hm m h
  exact servedBy_iff.mpr ⟨_, h1, by unfold servs; dsimp only; omega⟩) hu
structure PlanP (bs : List Sp2) (K : List Sp2) (U : List Mk) : Prop where
  all : allServed bs K
  pw : K.Pairwise spLt
  len : K.length = U.length
  up : U.Pairwise mkLt
  um : ∀ m ∈ U, (m.2.1, m.2.2) ∈ bs ∧ m.2.1 ≤ m.1 ∧ m.1 < m.2.2
  un : U.Pairwise fun a b => ¬ bnd a b
  lo : ∀ i k, K[i]? = some k → ∃ s ∈ bs, s.1 ≤ k.1 ∧ k.2 ≤ s.2 ∧ servedBy (K.eraseIdx i) (k.1, s.1, s.2) = false
  hi : ∀ i k, K[i]? = some k → ∃ s ∈ bs, s.1 ≤ k.1 ∧ k.2 ≤ s.2 ∧ servedBy (K.eraseIdx i) (k.2 - 1, s.1, s.2) = false
  en : EndsIn K fun z => ∃ s ∈ bs, z = s.1 ∨ z = s.2
theorem essF_pw {bs : List Sp2} (hp : bs.Pairwise spLt) : (essF bs).Pairwise mkLt := essAt_pw hp ((borders_pw bs).sublist (List.dropLast_sublist _))
theorem kept_ok {bs : List Sp2} (hb : inRow bs) (hp : bs.Pairwise spLt) : (keptF bs).length = (rowsOf (takenOf (essF bs))).length ∧ (∀ x ∈ essF bs, servedBy (keptF bs) x = true) ∧ EndsIn (keptF bs) (fun z => ∃ s ∈ bs, z = s.1 ∨ z = s.2) ∧
    ∀ n m, (essF bs)[n]? = some m → servedBy (((essF bs).take n).foldl (spreadStep (takenOf (essF bs))) ((rowsOf (takenOf (essF bs))).map chainSp)) m = false → ∃ o, (takenOf (essF bs)).find? (fun o => decide (acr o m)) = some o ∧
        servedBy (((essF bs).take n).foldl (spreadStep (takenOf (essF bs))) ((rowsOf (takenOf (essF bs))).map chainSp)) (o.1, m.2) = true ∧ servedBy (((essF bs).take n).foldl (spreadStep (takenOf (essF bs))) ((rowsOf (takenOf (essF bs))).map chainSp)) (m.1, o.2) = true := by
  have hw := essF_pw hp
  have nd : (takenOf (essF bs)).Nodup := (hw.sublist (takenOf_sub _)).imp fun {a b} h e => by rw [e] at h; exact mkLt_irr h
  have es : ∀ x ∈ takenOf (essF bs), (x.2.1, x.2.2) ∈ bs ∧ x.2.1 ≤ x.1 ∧ x.1 < x.2.2 := fun x hx => by
    obtain ⟨h1, h2, h3, _⟩ := mem_leastAt.mp (mem_essAt.mp ((takenOf_sub _).subset hx)).2
    exact ⟨h1, h2, h3⟩
  have cov := fun x (hx : x ∈ takenOf (essF bs)) => rowsOf_cover nd hx
  have hr : ∀ x ∈ takenOf (essF bs), servedBy ((rowsOf (takenOf (essF bs))).map chainSp) x = true := fun x hx => by
    obtain ⟨r, hr, a, b, ea, eb, h1, h2, ma, mb⟩ := cov x hx
    refine servedBy_iff.mpr ⟨chainSp r, List.mem_map.mpr ⟨r, hr, rfl⟩, ?_⟩
    have e1 : chainSp r = (a.2.1, b.2.2) := by
      unfold chainSp
      rw [List.headD_eq_head?_getD, ea, List.getLastD_eq_getLast?, eb]
      rfl
    rw [e1]
    have qa := es a ma
    have qb := es b mb
    unfold und at h1 h2
    unfold servs
    dsimp only
    omega
  have he : EndsIn ((rowsOf (takenOf (essF bs))).map chainSp) (fun z => ∃ s ∈ bs, z = s.1 ∨ z = s.2) := fun k hk => by
    obtain ⟨r, hr, rfl⟩ := List.mem_map.mp hk
    -- a row's head and last
    obtain ⟨r0, hr0, rfl⟩ := List.mem_map.mp hr
    obtain ⟨s, hs, rfl⟩ := List.mem_map.mp hr0
    have M := matchOf_mi (takenOf (essF bs))
    have hsl : s < (upsOf (takenOf (essF bs))).length := by
      have := List.mem_range.mp (List.mem_filter.mp hs).1
      rw [M.con.l2] at this
      exact this
    obtain ⟨h1, h2⟩ := rowF_rel (P := fun a b => und ((takenOf (essF bs)).getD a noMk) ((takenOf (essF bs)).getD b noMk)) M.con (fun _ _ => und_refl _) (fun _ _ _ => und_trans) (fun l t ht => (mem_upsOf.mp ht).2.2.2) (matchOf (takenOf (essF bs))).1.length s hsl
    have hlm := rowF_mem M.con (matchOf (takenOf (essF bs))).1.length s hsl _ (List.getLast_mem (rowF_ne _ _ _))
    obtain ⟨q, eq⟩ := rowF_head (matchOf (takenOf (essF bs))).1 (matchOf (takenOf (essF bs))).1.length s
    have hs0 := h1 _ (List.getLast_mem (rowF_ne _ _ _))
    generalize hlast : (rowF (matchOf (takenOf (essF bs))).1 (matchOf (takenOf (essF bs))).1.length s).getLast (rowF_ne _ _ _) = t at hlm hs0
    rw [upsOf_len] at hsl hlm
    have e1 : chainSp ((rowF (matchOf (takenOf (essF bs))).1 (matchOf (takenOf (essF bs))).1.length s).map fun a => (takenOf (essF bs)).getD a noMk) = (((takenOf (essF bs)).getD s noMk).2.1, ((takenOf (essF bs)).getD t noMk).2.2) := by
      unfold chainSp
      rw [List.headD_eq_head?_getD, List.getLastD_eq_getLast?, List.getLast?_map, List.getLast?_eq_some_getLast (rowF_ne _ _ _), hlast]
      rw [show ((rowF (matchOf (takenOf (essF bs))).1 (matchOf (takenOf (essF bs))).1.length s).map fun a => (takenOf (essF bs)).getD a noMk).head? = some ((takenOf (essF bs)).getD s noMk) by rw [eq]; rfl]
      rfl
    rw [e1]
    have qa := es _ (getD_mem hsl)
    have qb := es _ (getD_mem hlm)
    unfold und at hs0
    refine ⟨⟨_, qa.1, .inl rfl⟩, ⟨_, qb.1, .inr rfl⟩, ?_⟩
    dsimp only
    omega
  have so := spread_ok (cs := (bordersF bs).dropLast) (bs := bs) (rows := rowsOf (takenOf (essF bs))) hw hr he
  obtain ⟨g1, g2, g3, g4, _⟩ := so (essF bs).length (Nat.le_refl _)
  rw [show essAt (bordersF bs).dropLast bs = essF bs from rfl, List.take_length] at g1 g2 g4
  refine ⟨g1, g2, g4, fun n m hn hm => ?_⟩
  obtain ⟨_, _, _, _, h5⟩ := so n (Nat.le_of_lt (List.getElem?_eq_some_iff.mp hn).1)
  exact h5 m hn hm
theorem inRow_en {bs ks : List Sp2} (hb : inRow bs) (h : EndsIn ks (fun z => ∃ s ∈ bs, z = s.1 ∨ z = s.2)) : inRow ks := fun k hk => by
  obtain ⟨⟨s, hs, e1⟩, ⟨t, ht, e2⟩, _⟩ := h k hk
  have := hb s hs
  have := hb t ht
  omega
theorem borders_same {bs ks : List Sp2} (hb : inRow bs) (h : EndsIn ks (fun z => ∃ s ∈ bs, z = s.1 ∨ z = s.2)) : bordersF (bs ++ ks) = bordersF bs := by
  refine borders_eq hb (fun z => ?_) (borders_pw _)
  rw [mem_borders (inRow_app hb (inRow_en hb h))]
  constructor
  · rintro ⟨s, hs, e⟩
    rcases List.mem_append.mp hs with hs | hs
    · exact ⟨s, hs, e⟩
    · obtain ⟨h1, h2, _⟩ := h s hs
      rcases e with e | e
      · rw [e]; exact h1
      · rw [e]; exact h2
  · rintro ⟨s, hs, e⟩
    exact ⟨s, List.mem_append_left _ hs, e⟩
theorem plan_ok {bs : List Sp2} (hb : inRow bs) (hp : bs.Pairwise spLt) : PlanP bs (planF bs).1 (planF bs).2 := by
  obtain ⟨k1, k2, k3, _⟩ := kept_ok hb hp
  have hw := essF_pw hp
  have nd : (takenOf (essF bs)).Nodup := (hw.sublist (takenOf_sub _)).imp fun {a b} h e => by rw [e] at h; exact mkLt_irr h
  have T := thinned_ok hb (inRow_en hb k3) (fun k hk => (k3 k hk).2.2) (by rw [borders_same hb k3]; exact k2)
  have es : ∀ x ∈ takenOf (essF bs), isEss bs x := fun x hx => (mem_essAt.mp ((takenOf_sub _).subset hx)).2
  unfold planF
  dsimp only
  have pm := sortO_perm (r := mkLt) (unlikeOf (takenOf (essF bs)))
  have mem : ∀ x, x ∈ sortMk (unlikeOf (takenOf (essF bs))) → x ∈ takenOf (essF bs) := fun x hx => unlikeOf_mem (pm.mem_iff.mp hx)
  have ap := takenOf_apart (essF bs)
  have nbU : (unlikeOf (takenOf (essF bs))).Pairwise fun a b => ¬ bnd a b ∧ ¬ bnd b a := by
    refine (unlikeOf_pw nd |>.and (unlikeOf_nodup nd)).imp_of_mem fun {a b} ha hb2 ⟨⟨h1, h2⟩, h3⟩ => ?_
    have ma := unlikeOf_mem ha
    have mb := unlikeOf_mem hb2
    have hx : ¬ acr a b ∧ ¬ acr b a := by
      obtain ⟨i, hi⟩ := List.mem_iff_getElem?.mp ma
      obtain ⟨j, hj⟩ := List.mem_iff_getElem?.mp mb
      obtain ⟨hil, ei⟩ := List.getElem?_eq_some_iff.mp hi
      obtain ⟨hjl, ej⟩ := List.getElem?_eq_some_iff.mp hj
      rcases Nat.lt_trichotomy i j with z | z | z
      · have := List.pairwise_iff_getElem.mp ap i j hil hjl z
        rw [ei, ej] at this
        exact this
      · subst z
        rw [hi] at hj
        cases hj
        exact absurd rfl h3
      · have := List.pairwise_iff_getElem.mp ap j i hjl hil z
        rw [ei, ej] at this
        exact ⟨this.2, this.1⟩
    have no : ¬ bnd a b := fun z => by
      rcases bound_under (es a ma) (es b mb) hx.1 hx.2 z with q | q
      · exact h1 q
      · exact h2 q
    exact ⟨no, fun z => no (by unfold bnd at *; omega)⟩
  have un : (sortMk (unlikeOf (takenOf (essF bs)))).Pairwise fun a b => ¬ bnd a b ∧ ¬ bnd b a := (pm.symm.pairwise_iff (fun {a b} h => ⟨h.2, h.1⟩)).mp nbU
  have lenU : (sortMk (unlikeOf (takenOf (essF bs)))).length = (unlikeOf (takenOf (essF bs))).length := pm.length_eq
  have um : ∀ m ∈ sortMk (unlikeOf (takenOf (essF bs))), (m.2.1, m.2.2) ∈ bs ∧ m.2.1 ≤ m.1 ∧ m.1 < m.2.2 := fun m hm => by
    obtain ⟨h1, h2, h3, _⟩ := mem_leastAt.mp (es m (mem m hm))
    exact ⟨h1, h2, h3⟩
  have ub : (sortMk (unlikeOf (takenOf (essF bs)))).length ≤ (thinnedF bs (keptF bs)).length := unlike_le (fun m hm => by
    obtain ⟨h1, h2, h3⟩ := um m hm
    exact T.all _ h1 _ h2 h3) (un.imp fun h => h.1)
  have rl := rowsOf_len (takenOf (essF bs))
  refine ⟨T.all, T.pw, by have := T.len; omega, ?_, um, un.imp fun h => h.1, T.lo, T.hi, fun k hk => ?_⟩
  · have nd2 : (sortMk (unlikeOf (takenOf (essF bs)))).Nodup := pm.symm.nodup_iff.mp (unlikeOf_nodup nd)
    refine ((sortO_pw mkLt_tr mkLt_as (unlikeOf (takenOf (essF bs)))).and nd2).imp fun {a b} ⟨z1, z2⟩ => ?_
    by_cases z : mkLt a b
    · exact z
    · exact absurd (mkLt_an _ _ z z1) z2
  · obtain ⟨⟨s, hs, e1⟩, ⟨t, ht, e2⟩, h3⟩ := T.en k hk
    have back : ∀ s ∈ bs ++ keptF bs, ∀ z, z = s.1 ∨ z = s.2 → ∃ s ∈ bs, z = s.1 ∨ z = s.2 := fun s hs z e => by
      rcases List.mem_append.mp hs with hs | hs
      · exact ⟨s, hs, e⟩
      · obtain ⟨h1, h2, _⟩ := k3 s hs
        rcases e with e | e
        · rw [e]; exact h1
        · rw [e]; exact h2
    exact ⟨back s hs _ e1, back t ht _ e2, h3⟩
theorem kept_len {bs : List Sp2} (hb : inRow bs) (hp : bs.Pairwise spLt) : (keptF bs).length ≤ bs.length := by
  have P := plan_ok hb hp
  have h1 := unlike_asks P.um P.un
  have h2 := (kept_ok hb hp).1
  have h3 := rowsOf_len (takenOf (essF bs))
  have h4 : (planF bs).2.length = (unlikeOf (takenOf (essF bs))).length := (sortO_perm (r := mkLt) _).length_eq
  omega
end LW

/-! ### marks that are left -/
namespace LW
open DL
theorem erase_td {α : Type} (L : List α) (k : Nat) : L.eraseIdx k = L.take k ++ L.drop (k + 1) := List.eraseIdx_eq_take_drop_succ L k
theorem hang_some {bs os : List Sp2} {s : Sp2} {c : Int} (h : ∃ t ∈ bs, t.1 ≤ s.1 ∧ s.2 ≤ t.2 ∧ servedBy os (c, t.1, t.2) = false) : ∃ m, hangO bs s os c = some m := by
  obtain ⟨t, h1, h2, h3, h4⟩ := h
  cases e : hangO bs s os c with
  | some m => exact ⟨m, rfl⟩
  | none =>
    unfold hangO at e
    have := List.find?_eq_none.mp e (c, t.1, t.2) (List.mem_map.mpr ⟨t, List.mem_filter.mpr ⟨h1, decide_eq_true (show within s t from ⟨h2, h3⟩)⟩, rfl⟩)
    rw [h4] at this
    exact absurd rfl this
theorem lack_some {bs ks : List Sp2} {m : Mk} (hm : m ∈ marksOf bs) (h : servedBy ks m = false) : ∃ m', lackD (servedBy ks) (marksOf bs) = mkD m' := by
  unfold lackD
  cases e : (marksOf bs).find? fun m => !servedBy ks m with
  | some m => exact ⟨m, rfl⟩
  | none =>
    have := List.find?_eq_none.mp e m hm
    rw [h] at this
    exact absurd rfl this
theorem lack_none {bs ks : List Sp2} (h : allServed bs ks) : lackD (servedBy ks) (marksOf bs) = .non := by
  unfold lackD
  rw [List.find?_eq_none.mpr fun m hm => by rw [allServed_iff.mp h m hm]; decide]
theorem lack_all {bs ks : List Sp2} (h : lackD (servedBy ks) (marksOf bs) = .non) : allServed bs ks := allServed_iff.mpr fun m hm => by
  cases e : servedBy ks m with
  | true => rfl
  | false =>
    obtain ⟨m', h'⟩ := lack_some hm e
    rw [h] at h'
    cases h'
theorem served_snoc {os : List Sp2} {k : Sp2} {m : Mk} (h1 : servedBy os m = false) (h2 : ¬ servs k m) : servedBy (os ++ [k]) m = false := by
  cases e : servedBy (os ++ [k]) m with
  | false => rfl
  | true =>
    obtain ⟨q, hq, sq⟩ := servedBy_iff.mp e
    rcases List.mem_append.mp hq with hq | hq
    · rw [servedBy_iff.mpr ⟨q, hq, sq⟩] at h1
      cases h1
    · obtain rfl : q = k := by simpa using hq
      exact absurd sq h2
/-- the whole numbers of a stretch -/
def cellsOf (s : Sp2) : List Int := (List.range (s.2 - s.1).toNat).map fun k => s.1 + (k : Nat)
theorem mem_cellsOf {s : Sp2} {c : Int} : c ∈ cellsOf s ↔ s.1 ≤ c ∧ c < s.2 := by
  unfold cellsOf
  rw [List.mem_map]
  constructor
  · rintro ⟨k, hk, rfl⟩
    have := List.mem_range.mp hk
    omega
  · rintro ⟨h1, h2⟩
    exact ⟨(c - s.1).toNat, List.mem_range.mpr (by omega), by omega⟩
theorem holds_cells {s : Sp2} {m : Mk} : holdsB (cellsOf s) m = decide (servs s m) := by
  unfold holdsB
  refine decide_eq_decide.mpr ?_
  unfold servs
  simp only [mem_cellsOf]
  constructor
  · rintro ⟨⟨h1, h2⟩, h3⟩
    have a := h3 s.1 (by omega)
    have b := h3 (s.2 - 1) (by omega)
    omega
  · rintro ⟨h1, h2, h3, h4⟩
    exact ⟨⟨h2, h3⟩, fun c h => by omega⟩
theorem held_cells {L : List Sp2} {m : Mk} : heldBy (L.map cellsOf) m = servedBy L m := by
  unfold heldBy servedBy
  rw [List.any_map]
  congr 1
  funext s
  exact holds_cells
theorem lack_cells {L : List Sp2} {ms : List Mk} : lackD (heldBy (L.map cellsOf)) ms = lackD (servedBy L) ms := by
  rw [show heldBy (L.map cellsOf) = servedBy L from funext fun m => held_cells]
/-- what serves is no fewer -/
theorem no_fewer {bs ks R : List Sp2} {U : List Mk} (P : PlanP bs R U) (h : allServed bs ks) : R.length ≤ ks.length := by
  rw [P.len]
  refine unlike_le (fun m hm => ?_) P.un
  obtain ⟨h1, h2, h3⟩ := P.um m hm
  exact h _ h1 _ h2 h3
theorem served_sub {bs cs ks : List Sp2} (h : allServed cs ks) (hs : ∀ s ∈ bs, s ∈ cs) : allServed bs ks := fun s h1 => h s (hs s h1)
end LW

/-! ### plans of moved asks -/
namespace LW
open DL
def mpS (g : Int → Int) (s : Sp2) : Sp2 := (g s.1, g s.2)
theorem mono_le {g : Int → Int} (hg : ∀ a b, a < b → g a < g b) {a b : Int} (h : a ≤ b) : g a ≤ g b := by
  rcases Int.lt_or_eq_of_le h with h | h
  · exact Int.le_of_lt (hg a b h)
  · rw [h]
    exact Int.le_refl _
theorem mono_ref {g : Int → Int} (hg : ∀ a b, a < b → g a < g b) {a b : Int} (h : g a ≤ g b) : a ≤ b := by
  rcases Int.lt_or_le b a with z | z
  · have := hg b a z
    omega
  · exact z
theorem mono_rlt {g : Int → Int} (hg : ∀ a b, a < b → g a < g b) {a b : Int} (h : g a < g b) : a < b := by
  rcases Int.lt_or_le a b with z | z
  · exact z
  · have := mono_le hg z
    omega
theorem step_find {g : Int → Int} {c : Int} : ∀ (n : Nat) (a b : Int), b - a ≤ n → g a ≤ c → c < g b → a < b → ∃ x, a ≤ x ∧ x < b ∧ g x ≤ c ∧ c < g (x + 1)
  | 0, a, b, h, _, _, h4 => by omega
  | n + 1, a, b, h, h2, h3, h4 => by
    rcases Int.lt_or_le c (g (a + 1)) with z | z
    · exact ⟨a, Int.le_refl _, h4, h2, z⟩
    · have hne : a + 1 ≠ b := fun e => by rw [e] at z; omega
      obtain ⟨x, h5, h6, h7, h8⟩ := step_find n (a + 1) b (by omega) z h3 (by omega)
      exact ⟨x, by omega, h6, h7, h8⟩
theorem mono_served {g : Int → Int} (hg : ∀ a b, a < b → g a < g b) {bs K : List Sp2} (h : allServed bs K) : allServed (bs.map (mpS g)) (K.map (mpS g)) := fun s' hs' c h1 h2 => by
  obtain ⟨s, hs, rfl⟩ := List.mem_map.mp hs'
  unfold mpS at h1 h2 ⊢
  dsimp only at h1 h2 ⊢
  have hlt : s.1 < s.2 := mono_rlt hg (by omega)
  obtain ⟨x, a1, a2, a3, a4⟩ := step_find (s.2 - s.1).toNat s.1 s.2 (by omega) h1 h2 hlt
  obtain ⟨k, hk, sk⟩ := servedBy_iff.mp (h s hs x a1 a2)
  refine servedBy_iff.mpr ⟨_, List.mem_map.mpr ⟨k, hk, rfl⟩, ?_⟩
  unfold servs at sk ⊢
  dsimp only at sk ⊢
  have b1 := mono_le hg sk.1
  have b2 := mono_le hg sk.2.1
  have b3 := mono_le hg (show x + 1 ≤ k.2 by omega)
  have b4 := mono_le hg sk.2.2.2
  exact ⟨b1, by omega, by omega, b4⟩
theorem map_ex {f : Sp2 → Sp2} : ∀ {L : List Sp2}, (∀ k ∈ L, ∃ x, k = f x) → ∃ L2 : List Sp2, L = L2.map f
  | [], _ => ⟨[], rfl⟩
  | y :: L, h => by
    obtain ⟨x, hx⟩ := h y List.mem_cons_self
    obtain ⟨L2, e⟩ := map_ex (f := f) (L := L) fun k hk => h k (List.mem_cons_of_mem _ hk)
    exact ⟨x :: L2, by rw [List.map_cons, ← hx, ← e]⟩
theorem plan_mono {g : Int → Int} (hg : ∀ a b, a < b → g a < g b) {bs bs2 K K2 : List Sp2} {U U2 : List Mk} (P : PlanP bs K U) (P2 : PlanP bs2 K2 U2) (hb : ∀ s, s ∈ bs2 ↔ s ∈ bs.map (mpS g)) : K2.length = K.length ∧ allServed bs2 (K.map (mpS g)) := by
  have h1 : allServed bs2 (K.map (mpS g)) := served_sub (mono_served hg P.all) fun s hs => (hb s).mp hs
  have l1 := no_fewer P2 h1
  rw [List.length_map] at l1
  have ge : ∀ z, (∃ s ∈ bs2, z = s.1 ∨ z = s.2) → ∃ x, z = g x := by
    rintro z ⟨s, hs, e⟩
    obtain ⟨t, _, rfl⟩ := List.mem_map.mp ((hb s).mp hs)
    rcases e with e | e
    · exact ⟨t.1, e⟩
    · exact ⟨t.2, e⟩
  obtain ⟨K3, e3⟩ := map_ex (f := mpS g) (L := K2) fun k hk => by
    obtain ⟨a, b, _⟩ := P2.en k hk
    obtain ⟨x, hx⟩ := ge _ a
    obtain ⟨y, hy⟩ := ge _ b
    exact ⟨(x, y), Prod.ext hx hy⟩
  have h3 : allServed bs K3 := fun s hs c c1 c2 => by
    have := P2.all (mpS g s) ((hb _).mpr (List.mem_map.mpr ⟨s, hs, rfl⟩)) (g c) (mono_le hg c1) (hg _ _ c2)
    obtain ⟨k, hk, sk⟩ := servedBy_iff.mp this
    rw [e3] at hk
    obtain ⟨k0, hk0, rfl⟩ := List.mem_map.mp hk
    refine servedBy_iff.mpr ⟨k0, hk0, ?_⟩
    unfold servs mpS at sk
    unfold servs
    dsimp only at sk ⊢
    exact ⟨mono_ref hg sk.1, mono_ref hg sk.2.1, mono_rlt hg sk.2.2.1, mono_ref hg sk.2.2.2⟩
  have l2 := no_fewer P h3
  rw [e3, List.length_map] at l1 ⊢
  exact ⟨by omega, h1⟩
end LW

/-! ### plans of lots side by side -/
namespace LW
open DL
theorem served_app {bs K K2 : List Sp2} (h : allServed bs K) : allServed bs (K ++ K2) := fun s hs c h1 h2 => by
  obtain ⟨k, hk, sk⟩ := servedBy_iff.mp (h s hs c h1 h2)
  exact servedBy_iff.mpr ⟨k, List.mem_append_left _ hk, sk⟩
theorem served_app2 {bs K K2 : List Sp2} (h : allServed bs K2) : allServed bs (K ++ K2) := fun s hs c h1 h2 => by
  obtain ⟨k, hk, sk⟩ := servedBy_iff.mp (h s hs c h1 h2)
  exact servedBy_iff.mpr ⟨k, List.mem_append_right _ hk, sk⟩
theorem served_or {bs b1 b2 K : List Sp2} (h1 : allServed b1 K) (h2 : allServed b2 K) (hb : ∀ s ∈ bs, s ∈ b1 ∨ s ∈ b2) : allServed bs K := fun s hs => by
  rcases hb s hs with h | h
  · exact h1 s h
  · exact h2 s h
theorem len_split {p : Sp2 → Bool} : ∀ K : List Sp2, (K.filter p).length + (K.filter fun k => !p k).length = K.length
  | [] => rfl
  | k :: K => by
    have := len_split (p := p) K
    cases h : p k with
    | true => simp [List.filter_cons, h]; omega
    | false => simp [List.filter_cons, h]; omega
structure Both (bs b1 b2 K K1 K2 : List Sp2) : Prop where
  le : K.length ≤ K1.length + K2.length
  l1 : K1.length ≤ K.length
  l2 : K2.length ≤ K.length
theorem together_ok {bs b1 b2 K K1 K2 : List Sp2} {U U1 U2 : List Mk} (P : PlanP bs K U) (P1 : PlanP b1 K1 U1) (P2 : PlanP b2 K2 U2) (hb : ∀ s, s ∈ bs ↔ s ∈ b1 ∨ s ∈ b2) : Both bs b1 b2 K K1 K2 where
  le := by
    have := no_fewer P (served_or (served_app (K2 := K2) P1.all) (served_app2 (K := K1) P2.all) fun s hs => (hb s).mp hs)
    rwa [List.length_append] at this
  l1 := no_fewer P1 (served_sub P.all fun s hs => (hb s).mpr (.inl hs))
  l2 := no_fewer P2 (served_sub P.all fun s hs => (hb s).mpr (.inr hs))
theorem single_ok {bs K : List Sp2} {U : List Mk} {n : Nat} (P : PlanP bs K U) (h : ∀ s ∈ bs, 0 ≤ s.1 ∧ s.2 ≤ n) : K.length ≤ n := by
  have := no_fewer P (ks := (List.range n).map fun k : Nat => (((k : Nat) : Int), ((k : Nat) : Int) + 1)) fun s hs c h1 h2 => by
    have := h s hs
    refine servedBy_iff.mpr ⟨(c, c + 1), List.mem_map.mpr ⟨c.toNat, List.mem_range.mpr (by omega), ?_⟩, ?_⟩
    · rw [show ((c.toNat : Nat) : Int) = c by omega]
    · unfold servs
      dsimp only
      omega
  rwa [List.length_map, List.length_range] at this
theorem apart_ok {bs b1 b2 K K1 K2 : List Sp2} {U U1 U2 : List Mk} {d : Int} (P : PlanP bs K U) (P1 : PlanP b1 K1 U1) (P2 : PlanP b2 K2 U2) (hb : ∀ s, s ∈ bs ↔ s ∈ b1 ∨ s ∈ b2.map (mpS fun x => x + d)) (h1 : ∀ s ∈ b1, s.2 ≤ d) (h2 : ∀ s ∈ b2, 0 ≤ s.1) : K.length = K1.length + K2.length := by
  have hg : ∀ a b : Int, a < b → (fun x : Int => x + d) a < (fun x : Int => x + d) b := fun a b h => by dsimp only; omega
  have hg2 : ∀ a b : Int, a < b → (fun x : Int => x - d) a < (fun x : Int => x - d) b := fun a b h => by dsimp only; omega
  have a1 := no_fewer P (served_or (served_app (K2 := K2.map (mpS fun x => x + d)) P1.all) (served_app2 (K := K1) (mono_served hg P2.all)) fun s hs => (hb s).mp hs)
  rw [List.length_append, List.length_map] at a1
  have a2 := no_fewer P1 (ks := K.filter fun k => decide (k.2 ≤ d)) fun s hs c c1 c2 => by
    obtain ⟨k, hk, sk⟩ := servedBy_iff.mp (P.all s ((hb s).mpr (.inl hs)) c c1 c2)
    have := h1 s hs
    refine servedBy_iff.mpr ⟨k, List.mem_filter.mpr ⟨hk, decide_eq_true ?_⟩, sk⟩
    unfold servs at sk
    dsimp only at sk
    omega
  have a3 : allServed (b2.map (mpS fun x => x + d)) (K.filter fun k => !decide (k.2 ≤ d)) := fun s hs c c1 c2 => by
    obtain ⟨k, hk, sk⟩ := servedBy_iff.mp (P.all s ((hb s).mpr (.inr hs)) c c1 c2)
    obtain ⟨t, ht, rfl⟩ := List.mem_map.mp hs
    have := h2 t ht
    refine servedBy_iff.mpr ⟨k, List.mem_filter.mpr ⟨hk, ?_⟩, sk⟩
    unfold servs mpS at sk
    dsimp only at sk
    rw [decide_eq_false (by omega)]
    rfl
  have a4 := mono_served hg2 a3
  rw [List.map_map] at a4
  have e : (mpS fun x => x - d) ∘ (mpS fun x => x + d) = id := by
    funext s
    unfold mpS
    simp
  rw [e, List.map_id] at a4
  have a5 := no_fewer P2 a4
  rw [List.length_map] at a5
  have a6 := len_split (p := fun k : Sp2 => decide (k.2 ≤ d)) K
  omega
end LW

/-! ### plans of mirrored asks -/
namespace LW
open DL
structure PlanW (bs K : List Sp2) (U : List Mk) : Prop where
  all : allServed bs K
  sk : K.Pairwise fun x y => ¬ spLt y x
  su : U.Pairwise fun x y => ¬ mkLt y x
  len : K.length = U.length
  um : ∀ m ∈ U, (m.2.1, m.2.2) ∈ bs ∧ m.2.1 ≤ m.1 ∧ m.1 < m.2.2
  un : U.Pairwise fun a b => ¬ bnd a b
  ok : ∀ k ∈ K, okS k
def mirS (n : Int) (s : Sp2) : Sp2 := (n - s.2, n - s.1)
def mirM (n : Int) (m : Mk) : Mk := (n - 1 - m.1, n - m.2.2, n - m.2.1)
theorem mir_mir (n : Int) (s : Sp2) : mirS n (mirS n s) = s := by
  unfold mirS
  exact Prod.ext (by dsimp only; omega) (by dsimp only; omega)
theorem mir_served {n : Int} {bs K : List Sp2} (h : allServed bs K) : allServed (bs.map (mirS n)) (K.map (mirS n)) := fun s' hs' c h1 h2 => by
  obtain ⟨s, hs, rfl⟩ := List.mem_map.mp hs'
  unfold mirS at h1 h2 ⊢
  dsimp only at h1 h2 ⊢
  obtain ⟨k, hk, sk⟩ := servedBy_iff.mp (h s hs (n - 1 - c) (by omega) (by omega))
  refine servedBy_iff.mpr ⟨_, List.mem_map.mpr ⟨k, hk, rfl⟩, ?_⟩
  unfold servs at sk ⊢
  dsimp only at sk ⊢
  omega
theorem mir_ok {n : Int} {bs bs2 K K2 : List Sp2} {U U2 : List Mk} (P : PlanP bs K U) (P2 : PlanP bs2 K2 U2) (hb : ∀ s, s ∈ bs2 ↔ s ∈ bs.map (mirS n)) (hok : ∀ s ∈ bs, okS s) :
    K2.length = K.length ∧ allServed bs (K2.map (mirS n)) ∧ PlanW bs (sortSp (K2.map (mirS n))) (sortMk (U2.map (mirM n))) := by
  have hb2 : ∀ s, s ∈ bs → s ∈ bs2.map (mirS n) := fun s hs => List.mem_map.mpr ⟨mirS n s, (hb _).mpr (List.mem_map.mpr ⟨s, hs, rfl⟩), mir_mir n s⟩
  have a1 : allServed bs (K2.map (mirS n)) := served_sub (mir_served P2.all) hb2
  have a2 : allServed bs2 (K.map (mirS n)) := served_sub (mir_served P.all) fun s hs => (hb s).mp hs
  have l1 := no_fewer P a1
  have l2 := no_fewer P2 a2
  rw [List.length_map] at l1 l2
  have back : ∀ t ∈ bs2, ∃ s ∈ bs, t = mirS n s := fun t ht => by
    obtain ⟨s, hs, e⟩ := List.mem_map.mp ((hb t).mp ht)
    exact ⟨s, hs, e.symm⟩
  have pk := sortO_perm (r := spLt) (K2.map (mirS n))
  have pu := sortO_perm (r := mkLt) (U2.map (mirM n))
  refine ⟨by omega, a1, ?_, sortO_pw spLt_tr spLt_as _, sortO_pw mkLt_tr mkLt_as _, ?_, ?_, ?_, ?_⟩
  · intro s hs c h1 h2
    obtain ⟨k, hk, sk⟩ := servedBy_iff.mp (a1 s hs c h1 h2)
    exact servedBy_iff.mpr ⟨k, pk.mem_iff.mpr hk, sk⟩
  · have h1 := pk.length_eq
    have h2 := pu.length_eq
    rw [List.length_map] at h1 h2
    have h3 := P2.len
    show (sortSp _).length = (sortMk _).length
    unfold sortSp sortMk
    omega
  · intro m hm
    obtain ⟨m2, hm2, rfl⟩ := List.mem_map.mp (pu.mem_iff.mp hm)
    obtain ⟨g1, g2, g3⟩ := P2.um m2 hm2
    obtain ⟨s, hs, e⟩ := back _ g1
    have e1 : m2.2.1 = n - s.2 := congrArg Prod.fst e
    have e2 : m2.2.2 = n - s.1 := congrArg Prod.snd e
    unfold mirM
    dsimp only
    refine ⟨?_, by omega, by omega⟩
    have : ((n - m2.2.2, n - m2.2.1) : Sp2) = s := Prod.ext (by dsimp only; omega) (by dsimp only; omega)
    rw [this]
    exact hs
  · refine List.Perm.pairwise (l := U2.map (mirM n)) pu.symm ?_ ?_
    · rw [List.pairwise_map]
      refine P2.un.imp fun {a b} h z => h ?_
      unfold bnd mirM at z
      unfold bnd
      dsimp only at z
      omega
    · intro a b h z
      refine h ?_
      unfold bnd at z ⊢
      omega
  · intro k hk
    obtain ⟨k2, hk2, rfl⟩ := List.mem_map.mp (pk.mem_iff.mp hk)
    obtain ⟨i, hi⟩ := List.mem_iff_getElem?.mp hk2
    obtain ⟨t, ht, h1, h2, _⟩ := P2.lo i k2 hi
    obtain ⟨s, hs, rfl⟩ := back t ht
    have h3 := hok s hs
    have h4 := (P2.en k2 hk2).2.2
    unfold mirS at h1 h2
    unfold okS mirS at *
    dsimp only at *
    omega
end LW

/-! ### whether n more stretches can serve what is left -/
namespace LW
open DL
def CanS (n : Nat) (ms : List Mk) (ks : List Sp2) : Prop := ∃ R : List Sp2, R.length ≤ n ∧ ∀ m ∈ ms, servedBy (ks ++ R) m = true
theorem served_l {a b : List Sp2} {m : Mk} : servedBy (a ++ b) m = true ↔ servedBy a m = true ∨ servedBy b m = true := by
  unfold servedBy
  rw [List.any_append, Bool.or_eq_true]
theorem can_done {n : Nat} {ms : List Mk} {ks : List Sp2} (h : ms.filter (fun m => !servedBy ks m) = []) : CanS n ms ks := ⟨[], Nat.zero_le _, fun m hm => by
  rw [List.append_nil]
  cases e : servedBy ks m with
  | true => rfl
  | false =>
    have : m ∈ ms.filter (fun m => !servedBy ks m) := List.mem_filter.mpr ⟨hm, by rw [e]; rfl⟩
    rw [h] at this
    cases this⟩
theorem can_zero {ms : List Mk} {ks : List Sp2} {m0 : Mk} {lt : List Mk} (h : ms.filter (fun m => !servedBy ks m) = m0 :: lt) : ¬ CanS 0 ms ks := fun ⟨R, hR, hs⟩ => by
  obtain rfl : R = [] := List.eq_nil_of_length_eq_zero (by omega)
  have hm : m0 ∈ ms.filter (fun m => !servedBy ks m) := by rw [h]; exact List.mem_cons_self
  obtain ⟨h1, h2⟩ := List.mem_filter.mp hm
  have := hs m0 h1
  rw [List.append_nil] at this
  rw [this] at h2
  cases h2
theorem can_step {n : Nat} {ms : List Mk} {ks : List Sp2} {m0 : Mk} {lt : List Mk} (h : ms.filter (fun m => !servedBy ks m) = m0 :: lt) :
    CanS (n + 1) ms ks ↔ ∃ lo hi, m0.2.1 ≤ lo ∧ lo ≤ m0.1 ∧ m0.1 < hi ∧ hi ≤ m0.2.2 ∧ CanS n (m0 :: lt) [(lo, hi)] := by
  have mem : ∀ m, m ∈ m0 :: lt ↔ m ∈ ms ∧ servedBy ks m = false := fun m => by
    rw [← h, List.mem_filter]
    simp
  constructor
  · rintro ⟨R, hR, hs⟩
    obtain ⟨h1, h2⟩ := (mem m0).mp List.mem_cons_self
    have h3 := served_l.mp (hs m0 h1)
    rw [h2] at h3
    obtain ⟨r, hr, sr⟩ := servedBy_iff.mp (h3.resolve_left Bool.false_ne_true)
    refine ⟨r.1, r.2, sr.1, sr.2.1, sr.2.2.1, sr.2.2.2, R.erase r, ?_, fun m hm => ?_⟩
    · rw [List.length_erase_of_mem hr]
      omega
    · obtain ⟨g1, g2⟩ := (mem m).mp hm
      have g3 := served_l.mp (hs m g1)
      rw [g2] at g3
      obtain ⟨q, hq, sq⟩ := servedBy_iff.mp (g3.resolve_left Bool.false_ne_true)
      rw [served_l]
      by_cases e : q = r
      · exact .inl (servedBy_iff.mpr ⟨q, by rw [e]; exact List.mem_cons_self, sq⟩)
      · exact .inr (servedBy_iff.mpr ⟨q, (List.mem_erase_of_ne e).mpr hq, sq⟩)
  · rintro ⟨lo, hi, _, _, _, _, R, hR, hs⟩
    refine ⟨(lo, hi) :: R, by rw [List.length_cons]; omega, fun m hm => ?_⟩
    rw [served_l]
    cases e : servedBy ks m with
    | true => exact .inl rfl
    | false =>
      refine .inr ?_
      have := hs m ((mem m).mpr ⟨hm, e⟩)
      exact this
theorem can_plan {as bs K : List Sp2} {U : List Mk} {ms : List Mk} (P : PlanP bs K U) (hD : Dst as bs) (hE : EssP as ms) : CanS K.length ms [] := ⟨K, Nat.le_refl _, fun m hm => by
  rw [List.nil_append]
  obtain ⟨h1, h2, h3, _⟩ := mem_leastAt.mp ((hE.2 m).mp hm)
  exact P.all _ ((hD.2.1 _).mpr h1) _ h2 h3⟩
theorem can_least {as bs K : List Sp2} {U : List Mk} {ms : List Mk} {n : Nat} (P : PlanP bs K U) (hD : Dst as bs) (hE : EssP as ms) (h : CanS n ms []) : K.length ≤ n := by
  obtain ⟨R, hR, hs⟩ := h
  have := no_fewer P (ks := R) fun s hs' c h1 h2 => by
    obtain ⟨t, tw, te⟩ := ess_min (c := c) _ s (Nat.le_refl _) ((hD.2.1 s).mp hs') h1 h2
    have := hs (c, t.1, t.2) ((hE.2 _).mpr te)
    rw [List.nil_append] at this
    obtain ⟨k, hk, sk⟩ := servedBy_iff.mp this
    refine servedBy_iff.mpr ⟨k, hk, ?_⟩
    unfold within at tw
    unfold servs at sk ⊢
    dsimp only at sk ⊢
    omega
  omega
end LW

/-! ### whether n sets of cells can hold what is left -/
namespace LW
open DL
/-- all sets of cells of a mark's stretch that hold its cell -/
structure SetsOf (m : Mk) (L : List (List Int)) : Prop where
  ins : ∀ lot ∈ L, m.1 ∈ lot ∧ ∀ c ∈ lot, m.2.1 ≤ c ∧ c < m.2.2
  all : ∀ P : Int → Bool, ∃ lot ∈ L, ∀ c, c ∈ lot ↔ c = m.1 ∨ (m.2.1 ≤ c ∧ c < m.2.2 ∧ P c = true)
def hullI (lot : List Int) : Sp2 := (minI lot, maxI lot + 1)
theorem hull_ok {lot : List Int} {m : Mk} (h : holdsB lot m = true) : servs (hullI lot) m := by
  unfold holdsB at h
  obtain ⟨h1, h2⟩ := of_decide_eq_true h
  have hne : lot ≠ [] := List.ne_nil_of_mem h1
  obtain ⟨a1, a2⟩ := minI_ok hne
  obtain ⟨b1, b2⟩ := maxI_ok hne
  have c1 := h2 _ a1
  have c2 := h2 _ b1
  have c3 := a2 _ h1
  have c4 := b2 _ h1
  unfold servs hullI
  dsimp only
  omega
theorem cant_zero {m0 : Mk} {mt : List Mk} : ¬ CanS 0 (m0 :: mt) [] := fun ⟨R, hR, hs⟩ => by
  obtain rfl : R = [] := List.eq_nil_of_length_eq_zero (by omega)
  have := hs m0 List.mem_cons_self
  cases this
theorem cant_step {n : Nat} {m0 : Mk} {mt : List Mk} {L : List (List Int)} (hL : SetsOf m0 L) : CanS (n + 1) (m0 :: mt) [] ↔ ∃ lot ∈ L, CanS n ((m0 :: mt).filter fun m => !holdsB lot m) [] := by
  constructor
  · rintro ⟨R, hR, hs⟩
    have h3 := hs m0 List.mem_cons_self
    rw [List.nil_append] at h3
    obtain ⟨r, hr, sr⟩ := servedBy_iff.mp h3
    obtain ⟨lot, hl, hm⟩ := hL.all fun c => decide (r.1 ≤ c ∧ c < r.2)
    have e : ∀ m, holdsB lot m = decide (servs r m) := fun m => by
      rw [← holds_cells]
      have hc : ∀ c, c ∈ lot ↔ c ∈ cellsOf r := fun c => by
        rw [hm, mem_cellsOf, decide_eq_true_eq]
        unfold servs at sr
        omega
      unfold holdsB
      simp only [hc]
    refine ⟨lot, hl, R.erase r, by rw [List.length_erase_of_mem hr]; omega, fun m hm => ?_⟩
    obtain ⟨g1, g2⟩ := List.mem_filter.mp hm
    rw [e] at g2
    have g3 := hs m g1
    rw [List.nil_append] at g3 ⊢
    obtain ⟨q, hq, sq⟩ := servedBy_iff.mp g3
    have hne : q ≠ r := fun z => by
      rw [z] at sq
      rw [decide_eq_true sq] at g2
      cases g2
    exact servedBy_iff.mpr ⟨q, (List.mem_erase_of_ne hne).mpr hq, sq⟩
  · rintro ⟨lot, hl, R, hR, hs⟩
    refine ⟨hullI lot :: R, by rw [List.length_cons]; omega, fun m hm => ?_⟩
    rw [List.nil_append]
    cases e : holdsB lot m with
    | true => exact servedBy_iff.mpr ⟨_, List.mem_cons_self, hull_ok e⟩
    | false =>
      have := hs m (List.mem_filter.mpr ⟨hm, by rw [e]; rfl⟩)
      rw [List.nil_append] at this
      obtain ⟨q, hq, sq⟩ := servedBy_iff.mp this
      exact servedBy_iff.mpr ⟨q, List.mem_cons_of_mem _ hq, sq⟩
/-- the sets after some cells -/
structure SetsTo (m : Mk) (i : Nat) (L : List (List Int)) : Prop where
  ins : ∀ lot ∈ L, m.1 ∈ lot ∧ ∀ c ∈ lot, m.2.1 ≤ c ∧ c < m.2.2
  all : ∀ P : Int → Bool, ∃ lot ∈ L, ∀ c, c ∈ lot ↔ c = m.1 ∨ (m.2.1 ≤ c ∧ c < m.2.1 + (i : Nat) ∧ P c = true)
  len : L.length ≤ 2 ^ i
  lot : ∀ l ∈ L, l.length ≤ i + 1
theorem sets_zero {m : Mk} (h : okM m) : SetsTo m 0 [[m.1]] where
  ins := fun lot hl => by
    obtain rfl : lot = [m.1] := by simpa using hl
    unfold okM at h
    exact ⟨by simp, fun c hc => by
      obtain rfl : c = m.1 := by simpa using hc
      omega⟩
  all := fun P => ⟨[m.1], by simp, fun c => by
    rw [List.mem_singleton]
    constructor
    · exact .inl
    · rintro (h | ⟨h1, h2, _⟩)
      · exact h
      · omega⟩
  len := by simp
  lot := fun l hl => by
    obtain rfl : l = [m.1] := by simpa using hl
    simp
theorem sets_skip {m : Mk} {i : Nat} {L : List (List Int)} (h : SetsTo m i L) (e : m.2.1 + (i : Nat) = m.1) : SetsTo m (i + 1) L where
  ins := h.ins
  all := fun P => by
    obtain ⟨lot, hl, hc⟩ := h.all P
    refine ⟨lot, hl, fun c => ?_⟩
    rw [hc]
    constructor
    · rintro (h | ⟨h1, h2, h3⟩)
      · exact .inl h
      · exact .inr ⟨h1, by omega, h3⟩
    · rintro (h | ⟨h1, h2, h3⟩)
      · exact .inl h
      · rcases Int.lt_or_le c (m.2.1 + (i : Nat)) with z | z
        · exact .inr ⟨h1, z, h3⟩
        · exact .inl (by omega)
  len := by
    have := h.len
    rw [Nat.pow_succ]
    omega
  lot := fun l hl => Nat.le_trans (h.lot l hl) (by omega)
theorem sets_more {m : Mk} {i : Nat} {L : List (List Int)} (h : SetsTo m i L) (hi : m.2.1 + (i : Nat) < m.2.2) : SetsTo m (i + 1) (L ++ L.map fun l => l ++ [m.2.1 + (i : Nat)]) where
  ins := fun lot hl => by
    rcases List.mem_append.mp hl with hl | hl
    · exact h.ins lot hl
    · obtain ⟨l, hl2, rfl⟩ := List.mem_map.mp hl
      obtain ⟨g1, g2⟩ := h.ins l hl2
      refine ⟨List.mem_append_left _ g1, fun c hc => ?_⟩
      rcases List.mem_append.mp hc with hc | hc
      · exact g2 c hc
      · obtain rfl : c = m.2.1 + (i : Nat) := by simpa using hc
        omega
  all := fun P => by
    obtain ⟨lot, hl, hc⟩ := h.all P
    cases e : P (m.2.1 + (i : Nat)) with
    | true =>
      refine ⟨lot ++ [m.2.1 + (i : Nat)], List.mem_append_right _ (List.mem_map.mpr ⟨lot, hl, rfl⟩), fun c => ?_⟩
      rw [List.mem_append, hc, List.mem_singleton]
      constructor
      · rintro ((h | ⟨h1, h2, h3⟩) | h)
        · exact .inl h
        · exact .inr ⟨h1, by omega, h3⟩
        · exact .inr ⟨by omega, by omega, by rw [h]; exact e⟩
      · rintro (h | ⟨h1, h2, h3⟩)
        · exact .inl (.inl h)
        · rcases Int.lt_or_le c (m.2.1 + (i : Nat)) with z | z
          · exact .inl (.inr ⟨h1, z, h3⟩)
          · exact .inr (by omega)
    | false =>
      refine ⟨lot, List.mem_append_left _ hl, fun c => ?_⟩
      rw [hc]
      constructor
      · rintro (h | ⟨h1, h2, h3⟩)
        · exact .inl h
        · exact .inr ⟨h1, by omega, h3⟩
      · rintro (h | ⟨h1, h2, h3⟩)
        · exact .inl h
        · rcases Int.lt_or_le c (m.2.1 + (i : Nat)) with z | z
          · exact .inr ⟨h1, z, h3⟩
          · have : c = m.2.1 + (i : Nat) := by omega
            rw [this, e] at h3
            cases h3
  len := by
    have := h.len
    rw [List.length_append, List.length_map, Nat.pow_succ]
    omega
  lot := fun l hl => by
    rcases List.mem_append.mp hl with hl | hl
    · exact Nat.le_trans (h.lot l hl) (by omega)
    · obtain ⟨l, hl2, rfl⟩ := List.mem_map.mp hl
      have := h.lot l hl2
      rw [List.length_append, List.length_singleton]
      omega
theorem sets_end {m : Mk} {i : Nat} {L : List (List Int)} (h : SetsTo m i L) (e : m.2.1 + (i : Nat) = m.2.2) : SetsOf m L := ⟨h.ins, fun P => by rw [← e]; exact h.all P⟩
end LW

namespace LW
open PySem L2 DL
local macro_rules | `(tactic| sizeOf_list_dec) => `(tactic| simp only [dSeq, dNext, dRet, dRetN, dIfS, dSet, dPar, dAsg, dDrop, dC, dOp, dTest, dChain, dChain3, dChain4, dAnd, dOr, dNot, dAndV, dOrV, dNotV, dCons, dNil, dTup, dLst, dLstO, dCB, dCall, dIf, dUn, dAppend, dPop, dInsert, dAug, dWhile, dDelL, dCont, dBreak, dFld, dPut, dMeth, dMake, dDnew, dDin, dDget, dDput, dLck, dLckS, dIKeys, dDc, insF, dcF1, dAct, dCallK, dCBK, dHof, spLm, startL, capD, dTryN, exN, offD, dXf, Option.join_some, List.map_nil, List.nil_append, List.cons_append, List.replicate, dVar, rdI_eq, rdIc_eq, rdIx, rdInt2_eq, lenL, isN_non, isN_tup, isN_int, dFrz, dAugS, dIsi, dIsi2, dListRg, dSetSp, dSetIn, dLc2O, dRev, lenT, dIZip, zpL, zpD_tup, zip_map, isaTL, isaTT, isaLL, isaLT, isaIB, isaII, isaIS, isaIL, isaIT, neSpU, eqSpU, neMkU, eqMkU, eqB, neB, isN_bl, isN_lst, isN_ref, isaBB, isaBL, isaBT, isaBI, isaBS, tyI, tyB, tyN, tyTu, tyLs, Cell.lst.injEq, implies_true, reduceCtorEq, true_implies, false_implies, if_true, if_false, Int.reduceToNat, Int.reducePow, Int.reduceNeg, exX, LB, dYes, dwipe, addL, sz0, sz1, sz2, sz3, Int.zero_add, Int.mul_one, dLcN_eq, dLcNO_eq, dIRng1, dIRng2, dIEn, dISeq, dFor_eq, List.map_cons, List.map_nil, mulI, rdAbs_eq, eqI, neI, xN4_0, xN4_1, xN4_2, xN4_3, List.length_map, ixS, mup_same, mup_mup, dRaise, gdName, gdTup, gdUnl, gdNil_eq, gdCons_eq, gdSub, dPart, dNoPart, dSl, tpD, fd0, List.getElem?_cons_zero, List.getElem?_cons_succ, List.set_cons_zero, List.set_cons_succ, Option.some.injEq, exists_eq_left', exists_eq_left, exists_eq_right, exists_eq_right', D.int.injEq, D.bl.injEq, D.tup.injEq, D.lst.injEq, D.ref.injEq, ixd_tup, ixd_lst, spD, mkD, decide_eq_true_eq, decide_eq_false_iff_not, Nat.reduceAdd, Int.reduceNeg, at0, at1, at2, at3, List.cons.injEq, and_true, true_and, List.append_nil, exists_and_left, exists_and_right, List.length_cons, List.length_nil, addI, res_int, deq_int, sh_int, iffB, parEq, Bool.not_eq_true', Bool.not_eq_false', Bool.not_eq_true ])

def foilP (as : List Sp2) (L : List (List Int)) (a : Sp2) (o q : List Int) : Prop := a ∈ as ∧ o.length = q.length ∧ fitsI as L o.length ∧ (∀ cs ∈ L, hiOf o cs = hiOf q cs) ∧ ∃ cs : List Int, (∀ c, c ∈ cs ↔ a.1 ≤ c ∧ c < a.2) ∧ hiOf o cs ≠ hiOf q cs
theorem hi_mid {o cs : List Int} {a : Sp2} {i j : Nat} {m : Int} (hi : a.1 = (i : Int)) (hj : a.2 = (j : Int)) (hjl : j ≤ o.length) (ho : ∀ x ∈ o, 0 ≤ x) (hcs : ∀ c, c ∈ cs ↔ a.1 ≤ c ∧ c < a.2) (hm : m ∈ (o.drop i).take (j - i)) (hx : ∀ y ∈ (o.drop i).take (j - i), y ≤ m) : m = hiOf o cs := by
  have at_ : ∀ k, i ≤ k → k < j → ∀ x, o[k]? = some x → ((k : Int) ∈ cs ∧ o.getD ((k : Int)).toNat 0 = x) := fun k h1 h2 x h => ⟨(hcs _).mpr ⟨by omega, by omega⟩, by rw [Int.toNat_natCast, List.getD_eq_getElem?_getD, h]; rfl⟩
  unfold hiOf
  refine hi_uniq ?_ fun y hy => ?_
  · obtain ⟨k, h1, h2, h3⟩ := mid_mem.mp hm
    obtain ⟨g1, g2⟩ := at_ k h1 h2 m h3
    exact List.mem_cons_of_mem _ (List.mem_map.mpr ⟨_, g1, g2⟩)
  · rcases List.mem_cons.mp hy with rfl | hy
    · obtain ⟨k, h1, h2, h3⟩ := mid_mem.mp hm
      exact ho m (List.mem_of_getElem? h3)
    · obtain ⟨c, hc, rfl⟩ := List.mem_map.mp hy
      obtain ⟨c1, c2⟩ := (hcs c).mp hc
      have hl : c.toNat < o.length := by omega
      refine hx _ (mid_mem.mpr ⟨c.toNat, by omega, by omega, ?_⟩)
      rw [List.getD_eq_getElem?_getD, List.getElem?_eq_getElem hl]
      rfl

theorem all2_bits : ∀ {xs : List Nat} {os : List (Option D)}, All2 (fun (_ : Nat) o => ∃ x : Int, o = some (D.int x) ∧ 0 ≤ x ∧ x ≤ 1) xs os → ∃ cs : List Int, os.filterMap id = cs.map D.int ∧ cs.length = xs.length ∧ ∀ c ∈ cs, 0 ≤ c ∧ c ≤ 1
  | _, _, .nil => ⟨[], rfl, rfl, fun c hc => by cases hc⟩
  | _, _, .cons ⟨x, e, h0, h1⟩ t => by
    obtain ⟨cs, e2, hl, hc⟩ := all2_bits t
    subst e
    refine ⟨x :: cs, by simp [e2], by simp [hl], fun c hcs => ?_⟩
    rcases List.mem_cons.mp hcs with rfl | hcs
    · exact ⟨h0, h1⟩
    · exact hc c hcs

theorem foil_ok {as : List Sp2} {L : List (List Int)} {n : Nat} {m : Mk} (hf : fitsI as L n) (hL : ∀ cs ∈ L, ∀ c ∈ cs, 0 ≤ c) (hs : (m.2.1, m.2.2) ∈ as) (m2 : m.2.1 ≤ m.1) (m3 : m.1 < m.2.2) (o1 : 0 ≤ m.2.1) (hnh : heldBy L m = false) : foilP as L (m.2.1, m.2.2) (outR m n) ((outR m n).set m.1.toNat 1) := by
  have f1 : m.2.2 ≤ n := hf.1 _ hs
  have oat : ∀ k, k < n → (outR m n)[k]? = some (if m.2.1 ≤ (k : Int) ∧ (k : Int) < m.2.2 then 0 else 1) := fun k hk => by simp [outR, hk]
  have ol : (outR m n).length = n := by simp [outR]
  generalize hO : outR m n = o at oat ol
  have hmn : m.1.toNat < n := by omega
  have tat : ∀ k, k < n → (o.set m.1.toNat 1)[k]? = if k = m.1.toNat then some 1 else o[k]? := fun k hk => by
    by_cases e : m.1.toNat = k
    · subst e
      simp [List.getElem?_set, ol, hk]
    · rw [List.getElem?_set_ne e, if_neg fun z => e z.symm]
  have tl : (o.set m.1.toNat 1).length = n := by rw [List.length_set, ol]
  generalize hTT : o.set m.1.toNat 1 = q at tat tl
  have hb1 : ∀ cs ∈ L, ∀ c ∈ cs, 0 ≤ c ∧ c < n := fun cs hcs c hc => by
    have := hf.2 cs hcs c hc
    have := hL cs hcs c hc
    omega
  have leo : ∀ c : Int, 0 ≤ c → c < n → o.getD c.toNat 0 = if m.2.1 ≤ c ∧ c < m.2.2 then 0 else 1 := fun c h0 h1 => by
    have := oat c.toNat (by omega)
    rw [List.getD_eq_getElem?_getD, this]
    rw [Int.toNat_of_nonneg h0]
    rfl
  have leq : ∀ c : Int, 0 ≤ c → c < n → q.getD c.toNat 0 = if c = m.1 then 1 else o.getD c.toNat 0 := fun c h0 h1 => by
    have := tat c.toNat (by omega)
    rw [List.getD_eq_getElem?_getD, this]
    by_cases e : c = m.1
    · rw [if_pos (by rw [e]), if_pos e]
      rfl
    · rw [if_neg (by omega), if_neg e, List.getD_eq_getElem?_getD]
  refine ⟨hs, by rw [ol, tl], by rw [ol]; exact hf, fun cs hcs => ?_, ?_⟩
  · have hh : holdsB cs m = false := by
      have := hnh
      unfold heldBy at this
      rw [List.any_eq_false] at this
      simpa using this cs hcs
    have hh := of_decide_eq_false hh
    unfold hiOf
    by_cases hm1 : m.1 ∈ cs
    · have : ∃ c ∈ cs, ¬ (m.2.1 ≤ c ∧ c < m.2.2) := Classical.byContradiction fun z => hh ⟨hm1, fun c hc => Classical.byContradiction fun y => z ⟨c, hc, y⟩⟩
      obtain ⟨c, hc, hne⟩ := this
      obtain ⟨c0, c1⟩ := hb1 cs hcs c hc
      have x1 : o.getD c.toNat 0 = 1 := by rw [leo c c0 c1, if_neg hne]
      have x2 : q.getD c.toNat 0 = 1 := by
        rw [leq c c0 c1, x1]
        split <;> rfl
      have a1 : (1 : Int) = (cs.map fun c => o.getD c.toNat 0).foldl max 0 := hi_uniq (List.mem_cons_of_mem _ (List.mem_map.mpr ⟨c, hc, x1⟩)) fun y hy => by
        rcases List.mem_cons.mp hy with rfl | hy
        · omega
        · obtain ⟨c2, hc2, rfl⟩ := List.mem_map.mp hy
          obtain ⟨d0, d1⟩ := hb1 cs hcs c2 hc2
          rw [leo c2 d0 d1]
          split <;> omega
      have a2 : (1 : Int) = (cs.map fun c => q.getD c.toNat 0).foldl max 0 := hi_uniq (List.mem_cons_of_mem _ (List.mem_map.mpr ⟨c, hc, x2⟩)) fun y hy => by
        rcases List.mem_cons.mp hy with rfl | hy
        · omega
        · obtain ⟨c2, hc2, rfl⟩ := List.mem_map.mp hy
          obtain ⟨d0, d1⟩ := hb1 cs hcs c2 hc2
          rw [leq c2 d0 d1, leo c2 d0 d1]
          split
          · omega
          · split <;> omega
      rw [← a1, ← a2]
    · congr 1
      refine List.map_congr_left fun c hc => ?_
      obtain ⟨d0, d1⟩ := hb1 cs hcs c hc
      rw [leq c d0 d1, if_neg fun z : c = m.1 => hm1 (by rw [← z]; exact hc)]
  · refine ⟨(List.range (m.2.2 - m.2.1).toNat).map fun k => m.2.1 + (k : Nat), fun c => ?_, fun e => ?_⟩
    · constructor
      · intro hc
        obtain ⟨k, hk, rfl⟩ := List.mem_map.mp hc
        have := List.mem_range.mp hk
        simp only
        omega
      · intro hc
        simp only at hc
        exact List.mem_map.mpr ⟨(c - m.2.1).toNat, List.mem_range.mpr (by omega), by omega⟩
    · have hc : ∀ c : Int, c ∈ (List.range (m.2.2 - m.2.1).toNat).map (fun k => m.2.1 + (k : Nat)) ↔ m.2.1 ≤ c ∧ c < m.2.2 := fun c => by
        constructor
        · intro hc
          obtain ⟨k, hk, rfl⟩ := List.mem_map.mp hc
          have := List.mem_range.mp hk
          omega
        · intro hc
          exact List.mem_map.mpr ⟨(c - m.2.1).toNat, List.mem_range.mpr (by omega), by omega⟩
      generalize (List.range (m.2.2 - m.2.1).toNat).map (fun k => m.2.1 + (k : Nat)) = cs at hc e
      have a1 : (0 : Int) = hiOf o cs := hi_uniq List.mem_cons_self fun y hy => by
        rcases List.mem_cons.mp hy with rfl | hy
        · omega
        · obtain ⟨c2, hc2, rfl⟩ := List.mem_map.mp hy
          have hh := (hc c2).mp hc2
          rw [leo c2 (by omega) (by omega), if_pos hh]
          omega
      have a2 : (1 : Int) = hiOf q cs := hi_uniq (List.mem_cons_of_mem _ (List.mem_map.mpr ⟨m.1, (hc _).mpr ⟨m2, m3⟩, by rw [leq m.1 (by omega) (by omega), if_pos rfl]⟩)) fun y hy => by
        rcases List.mem_cons.mp hy with rfl | hy
        · omega
        · obtain ⟨c2, hc2, rfl⟩ := List.mem_map.mp hy
          have hh := (hc c2).mp hc2
          rw [leq c2 (by omega) (by omega), leo c2 (by omega) (by omega), if_pos hh]
          split <;> omega
      rw [← a1, ← a2] at e
      omega
theorem outR_bits {m : Mk} {n : Nat} : ∀ x ∈ outR m n, 0 ≤ x ∧ x ≤ 1 := fun x hx => by
  obtain ⟨k, _, rfl⟩ := List.mem_map.mp hx
  split <;> omega
theorem set_bits {o : List Int} (h : ∀ x ∈ o, 0 ≤ x ∧ x ≤ 1) {i : Nat} {v : Int} (hv : 0 ≤ v ∧ v ≤ 1) : ∀ x ∈ o.set i v, 0 ≤ x ∧ x ≤ 1 := fun x hx => by
  rcases List.mem_or_eq_of_mem_set hx with hx | rfl
  · exact h x hx
  · exact hv

def topS (i : Nat) : Stmt := PySem.Challenge.pw_joinlarder_k52_whole_fewer_are_always_fo.main.body.getD i (.Pass ⟨0, 0, 0, 0⟩)
abbrev s_is_stretch : Stmt := topS 7
abbrev s_look_stretch : Stmt := topS 8
abbrev s_look_stretches : Stmt := topS 9
abbrev s_distinct : Stmt := topS 10
abbrev s_lies_within : Stmt := topS 11
abbrev s_borders : Stmt := topS 12
abbrev s_serves : Stmt := topS 14
abbrev s_are_bound : Stmt := topS 15
abbrev s_go_across : Stmt := topS 16
abbrev s_is_under : Stmt := topS 17
abbrev s_least_at : Stmt := topS 18
abbrev s_essential_at : Stmt := topS 19
abbrev s_essential_few : Stmt := topS 20
abbrev s_taken_of : Stmt := topS 21
abbrev s_Matching_init : Stmt := inClass (topS 23) 0
abbrev s_Matching_reached : Stmt := inClass (topS 23) 1
abbrev s_Matching_widen : Stmt := inClass (topS 23) 2
abbrev s_Matching_rows : Stmt := inClass (topS 23) 3
abbrev s_Matching_unlike : Stmt := inClass (topS 23) 4
abbrev s_chained : Stmt := topS 24
abbrev s_is_served : Stmt := topS 26
abbrev s_first_server : Stmt := topS 27
abbrev s_exchanged : Stmt := topS 28
abbrev s_spread : Stmt := topS 29
abbrev s_alone : Stmt := topS 30
abbrev s_shortened : Stmt := topS 31
abbrev s_thinned : Stmt := topS 32
abbrev s_planned : Stmt := topS 33
abbrev s_plan : Stmt := topS 34
abbrev s_first_lack : Stmt := topS 35
abbrev s_holds_just : Stmt := topS 36
abbrev s_unserved_by_sets : Stmt := topS 37
abbrev s_outside : Stmt := topS 39
abbrev s_reach : Stmt := topS 40
abbrev s_foil : Stmt := topS 41
abbrev s_law_bag : Stmt := topS 43
abbrev s_law_take : Stmt := topS 44
abbrev s_law_of : Stmt := topS 45
abbrev s_law_turned : Stmt := topS 46
abbrev s_law_asks : Stmt := topS 47
abbrev s_law_highest : Stmt := topS 48
abbrev s_law : Stmt := topS 49
abbrev c_LarderError : Stmt := inClass (topS 1) 0
abbrev c_BadStretch : Stmt := inClass (topS 2) 0
abbrev c_TooLong : Stmt := inClass (topS 3) 0
structure Glb (P : Program) (w : World) (K : PySem.W.Frag) (mg : Str → Option Value) (base : Heap) (C_BadStretch : Addr) (C_TooLong : Addr) (C_Matching : Addr) : Prop where
  m_CELLS : ∃ t, mg "CELLS" = some (.int 400 t)
  m_STRETCHES : ∃ t, mg "STRETCHES" = some (.int 60 t)
  n_abs : mg "abs" = none
  n_any : mg "any" = none
  n_enumerate : mg "enumerate" = none
  n_int : mg "int" = none
  n_len : mg "len" = none
  n_list : mg "list" = none
  n_max : mg "max" = none
  n_min : mg "min" = none
  n_range : mg "range" = none
  n_sorted : mg "sorted" = none
  x_BadStretch : ExC P w K mg base "BadStretch" C_BadStretch 0 (fun _ => [("word", V.str "stretch")])
  x_TooLong : ExC P w K mg base "TooLong" C_TooLong 0 (fun _ => [("word", V.str "long")])
  cl_Matching : Cls K C_Matching
  na_Matching_above : NoAttr K C_Matching "above"
  na_Matching_below : NoAttr K C_Matching "below"
  na_Matching_ups : NoAttr K C_Matching "ups"
  mk_Matching : MkF K mg "Matching" C_Matching
section
variable {P : Program} {w : World} {K : PySem.W.Frag} {T : List (Addr × Str)} {mg : Str → Option Value} {base : Heap} { C_BadStretch C_TooLong C_Matching : Addr}
theorem sc_is_stretch : FnScope ["one", "start", "end"] ["one"] (defScope s_is_stretch) := ⟨rfl, rfl, rfl, by decide +kernel, rfl, by decide +kernel, by decide +kernel⟩
def sp_is_stretch : DSp := fun ds M Q _ => ∃ s : Sp2, ds = [spD s] ∧ Q (.bl (decide (okS s))) M
theorem st_is_stretch {a0 : D} : dstart ["one", "start", "end"] [a0] = [some a0, none, none] := rfl
theorem ok_is_stretch (G : Glb P w K mg base C_BadStretch C_TooLong C_Matching) (Dd : DefAt K mg "is_stretch" s_is_stretch ["one"]) : Dfk P w K mg base T "is_stretch" 1 ["one"] sp_is_stretch := by
  refine DefAt.ok Dd sc_is_stretch (fun ds M Q E h => by
    obtain ⟨_, rfl, _⟩ := h
    rfl) fun f cdv A outer s H E hr => ?_
  have tk : Takes (cxOf (L2.CX P w) P w K mg base ["one", "start", "end"] "is_stretch" (defScope s_is_stretch) f cdv A outer s H E) (wOf T E).w := takes_of rfl rfl rfl rfl
  refine ⟨_, (dss_cons (ds_asg (dv 0) (dg_tup (n := 2) rfl (dgs_cons (dg_name (i := 1) sc_is_stretch.nd rfl (by first | exact Or.inl rfl | exact Or.inr rfl) (fun _ e => nomatch e)) (dgs_cons (dg_name (i := 2) sc_is_stretch.nd rfl (by first | exact Or.inl rfl | exact Or.inr rfl) (fun _ e => nomatch e)) dgs_nil))))
      (dss_one (ds_ret (de_chain3 op_le op_lt op_le real_le real_lt real_le de_int (dv 1) (dv 2) (de_globI G.m_CELLS))))), fun ds M Qd Ed h => ?_⟩
  obtain ⟨s, rfl, h⟩ := h
  (first | (simp only [st_is_stretch]; try sizeOf_list_dec) | sizeOf_list_dec)
  refine ⟨fun h1 => ⟨fun h2 => finB h ?_, fun h2 => finF h ?_⟩, fun h1 => finF h ?_⟩ <;> (unfold okS; omega)
theorem sc_look_stretch : FnScope ["one"] ["one"] (defScope s_look_stretch) := ⟨rfl, rfl, rfl, by decide +kernel, rfl, by decide +kernel, by decide +kernel⟩
def sp_look_stretch (C : Addr) : DSp := fun ds M Q E => ∃ s : Sp2, ds = [spD s] ∧ if okS s then Q .non M else E C [("word", .str "stretch")] M
theorem st_look_stretch {a0 : D} : dstart ["one"] [a0] = [some a0] := rfl
theorem ok_look_stretch (G : Glb P w K mg base C_BadStretch C_TooLong C_Matching) (h_is_stretch : Dfk P w K mg base T "is_stretch" 1 ["one"] sp_is_stretch) (Dd : DefAt K mg "look_stretch" s_look_stretch ["one"]) : Dfk P w K mg base T "look_stretch" 4 ["one"] (sp_look_stretch C_BadStretch) := by
  refine DefAt.ok Dd sc_look_stretch (fun ds M Q E h => by
    obtain ⟨_, rfl, _⟩ := h
    rfl) fun f cdv A outer s H E hr => ?_
  have tk : Takes (cxOf (L2.CX P w) P w K mg base ["one"] "look_stretch" (defScope s_look_stretch) f cdv A outer s H E) (wOf T E).w := takes_of rfl rfl rfl rfl
  refine ⟨_, (dss_one (ds_if (dt_not (dt_val (de_callA h_is_stretch (hr.mono (by decide)) tk (da_cons (dv 0) da_nil)))) (dss_one (ds_raise0 G.x_BadStretch rf0 (hr.mono (by decide)) rfl tk)) dss_nil)), fun ds M Qd Ed h => ?_⟩
  obtain ⟨s, rfl, h⟩ := h
  (first | (simp only [st_look_stretch]; try sizeOf_list_dec) | sizeOf_list_dec)
  refine ⟨s, rfl, ?_⟩
  (first | (simp only [st_look_stretch]; try sizeOf_list_dec) | sizeOf_list_dec)
  by_cases h1 : okS s
  · rw [if_neg (not_not_intro h1)]
    rw [if_pos h1] at h
    exact Fin.same h
  · rw [if_pos h1]
    rw [if_neg h1] at h
    exact h
theorem sc_look_stretches : FnScope ["some", "one"] ["some"] (defScope s_look_stretches) := ⟨rfl, rfl, rfl, by decide +kernel, rfl, by decide +kernel, by decide +kernel⟩
def sp_look_stretches (C : Addr) : DSp := fun ds M Q E => ∃ (d : D) (as : List Sp2), ds = [d] ∧ sqD M d = some (as.map spD) ∧ as.length ≤ 10000 ∧ (goodL as → Q .non M) ∧ (¬ goodL as → E C [("word", .str "stretch")] M)
theorem st_look_stretches {a0 : D} : dstart ["some", "one"] [a0] = [some a0, none] := rfl
theorem ok_look_stretches (G : Glb P w K mg base C_BadStretch C_TooLong C_Matching) (h_look_stretch : Dfk P w K mg base T "look_stretch" 4 ["one"] (sp_look_stretch C_BadStretch)) (Dd : DefAt K mg "look_stretches" s_look_stretches ["some"]) : Dfk P w K mg base T "look_stretches" 5 ["some"] (sp_look_stretches C_BadStretch) := by
  refine DefAt.ok Dd sc_look_stretches (fun ds M Q E h => by
    obtain ⟨_, _, rfl, _⟩ := h
    rfl) fun f cdv A outer s H E hr => ?_
  have tk : Takes (cxOf (L2.CX P w) P w K mg base ["some", "one"] "look_stretches" (defScope s_look_stretches) f cdv A outer s H E) (wOf T E).w := takes_of rfl rfl rfl rfl
  refine ⟨_, (dss_cons (ds_if (dt_cmp op_gt real_gt (de_callB call_len real_len rfl G.n_len rfl (da_cons (dv 0) da_nil)) (de_globI G.m_STRETCHES) (nomark _)) (dss_one (ds_raise0 G.x_BadStretch rf0 (hr.mono (by decide)) rfl tk)) dss_nil)
      (dss_one (ds_for (passes_of rfl) rfl (di_seq (dv 0)) (dg_name (i := 1) sc_look_stretches.nd rfl (by first | exact Or.inl rfl | exact Or.inr rfl) (fun _ e => nomatch e)) (dss_one (ds_expr (de_callA h_look_stretch (hr.mono (by decide)) tk (da_cons (dv 1) da_nil))))))), fun ds M Qd Ed h => ?_⟩
  obtain ⟨d, as, rfl, hd, hl, h, hx⟩ := h
  (first | (simp only [st_look_stretches]; try sizeOf_list_dec) | sizeOf_list_dec)
  rw [lenSq hd]
  (first | (simp only [st_look_stretches]; try sizeOf_list_dec) | sizeOf_list_dec)
  let I : Nat → DG → Mp → Prop := fun i Γ2 M2 => ∃ c, Γ2 = [some d, c] ∧ M = M2 ∧ ∀ s ∈ as.take i, okS s
  refine ⟨fun z => hx fun g => by have := g.1; omega, fun hlen => ⟨_, itSq hd, forBy I ⟨none, rfl, rfl, fun s hs => by simp at hs⟩ ?_ ?_ ?_⟩⟩
  · rintro _ _ _ ⟨c, rfl, rfl, _⟩
    exact itSq hd
  · rintro i s _ _ hs ⟨c, rfl, rfl, hal⟩
    (first | (simp only [st_look_stretches]; try sizeOf_list_dec) | sizeOf_list_dec)
    refine ⟨s, rfl, ?_⟩
    by_cases ho : okS s
    · rw [if_pos ho]
      refine ⟨_, rfl, rfl, fun t ht => ?_⟩
      rw [List.take_add_one, hs] at ht
      rcases List.mem_append.mp ht with ht | ht
      · exact hal t ht
      · obtain rfl : t = s := by simpa using ht
        exact ho
    · rw [if_neg ho]
      exact hx fun g => ho (g.2 s (List.mem_of_getElem? hs))
  · rintro _ _ ⟨c, rfl, rfl, hal⟩
    sizeOf_list_dec
    rw [List.take_length] at hal
    exact Fin.same (h ⟨by omega, hal⟩)
theorem sc_distinct : FnScope ["some", "one"] ["some"] (defScope s_distinct) := ⟨rfl, rfl, rfl, by decide +kernel, rfl, by decide +kernel, by decide +kernel⟩
def sp_distinct : DSp := fun ds M Q _ => ∃ (d : D) (as : List Sp2), ds = [d] ∧ sqD M d = some (as.map spD) ∧ as.length < 64 ∧ (∀ s ∈ as, okS s) ∧ ∀ L : List Sp2, (∀ s, s ∈ L ↔ s ∈ as) → L.length ≤ as.length → L.Pairwise spLt → Q (.lst (L.map spD)) M
theorem st_distinct {a0 : D} : dstart ["some", "one"] [a0] = [some a0, none] := rfl
theorem ok_distinct (G : Glb P w K mg base C_BadStretch C_TooLong C_Matching) (Dd : DefAt K mg "distinct" s_distinct ["some"]) : Dfk P w K mg base T "distinct" 1 ["some"] sp_distinct := by
  refine DefAt.ok Dd sc_distinct (fun ds M Q E h => by
    obtain ⟨_, _, rfl, _⟩ := h
    rfl) fun f cdv A outer s H E hr => ?_
  have tk : Takes (cxOf (L2.CX P w) P w K mg base ["some", "one"] "distinct" (defScope s_distinct) f cdv A outer s H E) (wOf T E).w := takes_of rfl rfl rfl rfl
  refine ⟨_, (dss_one (ds_ret (de_frz (de_sortedSetSp 1 rfl sc_distinct.nd hr.units G.n_sorted (dv 0) (blkOk_by (N := ["some", "one"]) (sc := defScope s_distinct) (by decide +kernel)))))), fun ds M Qd Ed h => ?_⟩
  obtain ⟨d, as, rfl, hd, hl, hok, h⟩ := h
  (first | (simp only [st_distinct]; try sizeOf_list_dec) | sizeOf_list_dec)
  refine ⟨by decide, as, hd, hl, ⟨401, fun s hs => ?_⟩, fun L p h1 h2 h3 hp => ?_⟩
  · have := hok s hs
    unfold okS at this
    omega
  · rw [mdel_mup hp]
    exact Fin.same (h L h1 h2 h3)
theorem sc_lies_within : FnScope ["one", "other"] ["one", "other"] (defScope s_lies_within) := ⟨rfl, rfl, rfl, by decide +kernel, rfl, by decide +kernel, by decide +kernel⟩
def sp_lies_within : DSp := fun ds M Q _ => ∃ a b : Sp2, ds = [spD a, spD b] ∧ Q (.bl (decide (within a b))) M
theorem st_lies_within {a0 a1 : D} : dstart ["one", "other"] [a0, a1] = [some a0, some a1] := rfl
theorem ok_lies_within (G : Glb P w K mg base C_BadStretch C_TooLong C_Matching) (Dd : DefAt K mg "lies_within" s_lies_within ["one", "other"]) : Dfk P w K mg base T "lies_within" 1 ["one", "other"] sp_lies_within := by
  refine DefAt.ok Dd sc_lies_within (fun ds M Q E h => by
    obtain ⟨_, _, rfl, _⟩ := h
    rfl) fun f cdv A outer s H E hr => ?_
  have tk : Takes (cxOf (L2.CX P w) P w K mg base ["one", "other"] "lies_within" (defScope s_lies_within) f cdv A outer s H E) (wOf T E).w := takes_of rfl rfl rfl rfl
  refine ⟨_, (dss_one (ds_ret (de_and (de_cmp op_le real_le (de_ix (dv 1) de_int) (de_ix (dv 0) de_int) (nomark _)) (de_one (de_cmp op_le real_le (de_ix (dv 0) de_int) (de_ix (dv 1) de_int) (nomark _)))))), fun ds M Qd Ed h => ?_⟩
  obtain ⟨a, b, rfl, h⟩ := h
  (first | (simp only [st_lies_within]; try sizeOf_list_dec) | sizeOf_list_dec)
  refine ⟨fun h1 => finB h ?_, fun h1 => finF h ?_⟩ <;> (unfold within; omega)
theorem sc_borders : FnScope ["some", "one", "place"] ["some"] (defScope s_borders) := ⟨rfl, rfl, rfl, by decide +kernel, rfl, by decide +kernel, by decide +kernel⟩
def sp_borders : DSp := fun ds M Q _ => ∃ (d : D) (as : List Sp2), ds = [d] ∧ sqD M d = some (as.map spD) ∧ 2 * as.length < 64 ∧ ∀ L : List Int, (∀ z, z ∈ L ↔ ∃ s ∈ as, z = s.1 ∨ z = s.2) → L.length ≤ 2 * as.length → L.Pairwise (· < ·) → Q (.lst (L.map D.int)) M
theorem st_borders {a0 : D} : dstart ["some", "one", "place"] [a0] = [some a0, none, none] := rfl
theorem ok_borders (G : Glb P w K mg base C_BadStretch C_TooLong C_Matching) (Dd : DefAt K mg "borders" s_borders ["some"]) : Dfk P w K mg base T "borders" 1 ["some"] sp_borders := by
  refine DefAt.ok Dd sc_borders (fun ds M Q E h => by
    obtain ⟨_, _, rfl, _⟩ := h
    rfl) fun f cdv A outer s H E hr => ?_
  have tk : Takes (cxOf (L2.CX P w) P w K mg base ["some", "one", "place"] "borders" (defScope s_borders) f cdv A outer s H E) (wOf T E).w := takes_of rfl rfl rfl rfl
  refine ⟨_, (dss_one (ds_ret (de_frz (de_sortedSetIn 1 2 rfl sc_borders.nd G.n_sorted (dv 0) (blkOk_by (N := ["some", "one", "place"]) (sc := defScope s_borders) (by decide +kernel)))))), fun ds M Qd Ed h => ?_⟩
  obtain ⟨d, as, rfl, hd, hl, h⟩ := h
  (first | (simp only [st_borders]; try sizeOf_list_dec) | sizeOf_list_dec)
  refine ⟨by decide, by decide, by decide, as, hd, hl, fun L p h1 h2 h3 hp => ?_⟩
  rw [mdel_mup hp]
  exact Fin.same (h L h1 h2 h3)
theorem sc_serves : FnScope ["kept", "mark"] ["kept", "mark"] (defScope s_serves) := ⟨rfl, rfl, rfl, by decide +kernel, rfl, by decide +kernel, by decide +kernel⟩
def sp_serves : DSp := fun ds M Q _ => ∃ (s : Sp2) (m : Mk), ds = [spD s, mkD m] ∧ Q (.bl (decide (servs s m))) M
theorem st_serves {a0 a1 : D} : dstart ["kept", "mark"] [a0, a1] = [some a0, some a1] := rfl
theorem ok_serves (G : Glb P w K mg base C_BadStretch C_TooLong C_Matching) (Dd : DefAt K mg "serves" s_serves ["kept", "mark"]) : Dfk P w K mg base T "serves" 1 ["kept", "mark"] sp_serves := by
  refine DefAt.ok Dd sc_serves (fun ds M Q E h => by
    obtain ⟨_, _, rfl, _⟩ := h
    rfl) fun f cdv A outer s H E hr => ?_
  have tk : Takes (cxOf (L2.CX P w) P w K mg base ["kept", "mark"] "serves" (defScope s_serves) f cdv A outer s H E) (wOf T E).w := takes_of rfl rfl rfl rfl
  refine ⟨_, (dss_one (ds_ret (de_chain4 op_le op_le op_lt op_le real_le real_le real_lt real_le (de_ix (dv 1) de_int) (de_ix (dv 0) de_int) (de_ix (dv 1) de_int) (de_ix (dv 0) de_int) (de_ix (dv 1) de_int)))), fun ds M Qd Ed h => ?_⟩
  obtain ⟨s, m, rfl, h⟩ := h
  (first | (simp only [st_serves]; try sizeOf_list_dec) | sizeOf_list_dec)
  refine ⟨fun h1 => ⟨fun h2 => ⟨fun h3 => finB h ?_, fun h3 => finF h ?_⟩, fun h2 => finF h ?_⟩, fun h1 => finF h ?_⟩ <;> (unfold servs; omega)
theorem sc_are_bound : FnScope ["one", "two", "low", "high"] ["one", "two"] (defScope s_are_bound) := ⟨rfl, rfl, rfl, by decide +kernel, rfl, by decide +kernel, by decide +kernel⟩
def sp_are_bound : DSp := fun ds M Q _ => ∃ a b : Mk, ds = [mkD a, mkD b] ∧ Q (.bl (decide (bnd a b))) M
theorem st_are_bound {a0 a1 : D} : dstart ["one", "two", "low", "high"] [a0, a1] = [some a0, some a1, none, none] := rfl
theorem ok_are_bound (G : Glb P w K mg base C_BadStretch C_TooLong C_Matching) (Dd : DefAt K mg "are_bound" s_are_bound ["one", "two"]) : Dfk P w K mg base T "are_bound" 1 ["one", "two"] sp_are_bound := by
  refine DefAt.ok Dd sc_are_bound (fun ds M Q E h => by
    obtain ⟨_, _, rfl, _⟩ := h
    rfl) fun f cdv A outer s H E hr => ?_
  have tk : Takes (cxOf (L2.CX P w) P w K mg base ["one", "two", "low", "high"] "are_bound" (defScope s_are_bound) f cdv A outer s H E) (wOf T E).w := takes_of rfl rfl rfl rfl
  refine ⟨_, (dss_cons (ds_par (i := 2) (j := 3) rfl sc_are_bound.nd (by decide) (da_cons (de_callB (call_min2 rfl) real_int2 rfl G.n_min rfl (da_cons (de_ix (dv 0) de_int) (da_cons (de_ix (dv 1) de_int) da_nil))) (da_cons (de_callB (call_max2 rfl) real_int2 rfl G.n_max rfl (da_cons (de_ix (dv 0) de_int) (da_cons (de_ix (dv 1) de_int) da_nil))) da_nil)))
      (dss_one (ds_ret (de_and (de_cmp op_le real_le (de_callB (call_max2 rfl) real_int2 rfl G.n_max rfl (da_cons (de_ix (dv 0) de_int) (da_cons (de_ix (dv 1) de_int) da_nil))) (dv 2) (nomark _)) (de_one (de_cmp op_lt real_lt (dv 3) (de_callB (call_min2 rfl) real_int2 rfl G.n_min rfl (da_cons (de_ix (dv 0) de_int) (da_cons (de_ix (dv 1) de_int) da_nil))) (nomark _))))))), fun ds M Qd Ed h => ?_⟩
  obtain ⟨a, b, rfl, h⟩ := h
  (first | (simp only [st_are_bound]; try sizeOf_list_dec) | sizeOf_list_dec)
  refine ⟨fun h1 => finB h ?_, fun h1 => finF h ?_⟩
  all_goals
    unfold bnd
    repeat' split at h1
    all_goals (repeat' split)
    all_goals omega
theorem sc_go_across : FnScope ["one", "two"] ["one", "two"] (defScope s_go_across) := ⟨rfl, rfl, rfl, by decide +kernel, rfl, by decide +kernel, by decide +kernel⟩
def sp_go_across : DSp := fun ds M Q _ => ∃ a b : Mk, ds = [mkD a, mkD b] ∧ Q (.bl (decide (acr a b))) M
theorem st_go_across {a0 a1 : D} : dstart ["one", "two"] [a0, a1] = [some a0, some a1] := rfl
theorem ok_go_across (G : Glb P w K mg base C_BadStretch C_TooLong C_Matching) (h_are_bound : Dfk P w K mg base T "are_bound" 1 ["one", "two"] sp_are_bound) (Dd : DefAt K mg "go_across" s_go_across ["one", "two"]) : Dfk P w K mg base T "go_across" 2 ["one", "two"] sp_go_across := by
  refine DefAt.ok Dd sc_go_across (fun ds M Q E h => by
    obtain ⟨_, _, rfl, _⟩ := h
    rfl) fun f cdv A outer s H E hr => ?_
  have tk : Takes (cxOf (L2.CX P w) P w K mg base ["one", "two"] "go_across" (defScope s_go_across) f cdv A outer s H E) (wOf T E).w := takes_of rfl rfl rfl rfl
  refine ⟨_, (dss_one (ds_ret (de_and (de_cmp op_lt real_lt (de_ix (dv 0) de_int) (de_ix (dv 1) de_int) (nomark _)) (de_and (de_cmp op_lt real_lt (de_ix (dv 0) de_int) (de_ix (dv 1) de_int) (nomark _)) (de_and (de_cmp op_lt real_lt (de_ix (dv 0) de_int) (de_ix (dv 1) de_int) (nomark _)) (de_one (de_callA h_are_bound (hr.mono (by decide)) tk (da_cons (dv 0) (da_cons (dv 1) da_nil))))))))), fun ds M Qd Ed h => ?_⟩
  obtain ⟨a, b, rfl, h⟩ := h
  (first | (simp only [st_go_across]; try sizeOf_list_dec) | sizeOf_list_dec)
  refine ⟨fun h1 => ⟨fun h2 => ⟨fun h3 => ⟨a, b, rfl, finB h ?_⟩, fun h3 => finF h ?_⟩, fun h2 => finF h ?_⟩, fun h1 => finF h ?_⟩
  · unfold acr
    exact ⟨fun z => z.2.2.2, fun z => ⟨h1, h2, h3, z⟩⟩
  all_goals (unfold acr; intro z; omega)
theorem sc_is_under : FnScope ["one", "two"] ["one", "two"] (defScope s_is_under) := ⟨rfl, rfl, rfl, by decide +kernel, rfl, by decide +kernel, by decide +kernel⟩
def sp_is_under : DSp := fun ds M Q _ => ∃ a b : Mk, ds = [mkD a, mkD b] ∧ Q (.bl (decide (und a b))) M
theorem st_is_under {a0 a1 : D} : dstart ["one", "two"] [a0, a1] = [some a0, some a1] := rfl
theorem ok_is_under (G : Glb P w K mg base C_BadStretch C_TooLong C_Matching) (Dd : DefAt K mg "is_under" s_is_under ["one", "two"]) : Dfk P w K mg base T "is_under" 1 ["one", "two"] sp_is_under := by
  refine DefAt.ok Dd sc_is_under (fun ds M Q E h => by
    obtain ⟨_, _, rfl, _⟩ := h
    rfl) fun f cdv A outer s H E hr => ?_
  have tk : Takes (cxOf (L2.CX P w) P w K mg base ["one", "two"] "is_under" (defScope s_is_under) f cdv A outer s H E) (wOf T E).w := takes_of rfl rfl rfl rfl
  refine ⟨_, (dss_one (ds_ret (de_and (de_cmp op_le real_le (de_ix (dv 0) de_int) (de_ix (dv 1) de_int) (nomark _)) (de_and (de_cmp op_le real_le (de_ix (dv 1) de_int) (de_ix (dv 0) de_int) (nomark _)) (de_one (de_cmp op_le real_le (de_ix (dv 1) de_int) (de_ix (dv 0) de_int) (nomark _))))))), fun ds M Qd Ed h => ?_⟩
  obtain ⟨a, b, rfl, h⟩ := h
  (first | (simp only [st_is_under]; try sizeOf_list_dec) | sizeOf_list_dec)
  refine ⟨fun h1 => ⟨fun h2 => finB h ?_, fun h2 => finF h ?_⟩, fun h1 => finF h ?_⟩ <;> (unfold und; omega)
theorem sc_least_at : FnScope ["cell", "asks", "some", "ask", "other"] ["cell", "asks"] (defScope s_least_at) := ⟨rfl, rfl, rfl, by decide +kernel, rfl, by decide +kernel, by decide +kernel⟩
def sp_least_at : DSp := fun ds M Q _ => ∃ (x : Int) (d : D) (as : List Sp2), ds = [.int x, d] ∧ sqD M d = some (as.map spD) ∧ as.length ≤ 1000 ∧ Q (.lst ((leastAt x as).map spD)) M
theorem st_least_at {a0 a1 : D} : dstart ["cell", "asks", "some", "ask", "other"] [a0, a1] = [some a0, some a1, none, none, none] := rfl
theorem ok_least_at (G : Glb P w K mg base C_BadStretch C_TooLong C_Matching) (h_lies_within : Dfk P w K mg base T "lies_within" 1 ["one", "other"] sp_lies_within) (Dd : DefAt K mg "least_at" s_least_at ["cell", "asks"]) : Dfk P w K mg base T "least_at" 2 ["cell", "asks"] sp_least_at := by
  refine DefAt.ok Dd sc_least_at (fun ds M Q E h => by
    obtain ⟨_, _, _, rfl, _⟩ := h
    rfl) fun f cdv A outer s H E hr => ?_
  have tk : Takes (cxOf (L2.CX P w) P w K mg base ["cell", "asks", "some", "ask", "other"] "least_at" (defScope s_least_at) f cdv A outer s H E) (wOf T E).w := takes_of rfl rfl rfl rfl
  refine ⟨_, (dss_cons (ds_set 2 sc_least_at.nd (de_lcN (LcOk.mk (own := [("ask", 3)]) rfl sc_least_at.nd (di_seq (dv 1)) (blkOk_by (N := ["cell", "asks", "some", "ask", "other"]) (sc := defScope s_least_at) (by decide +kernel)) (fun _ _ _ _ _ => (dg_name (i := 3) sc_least_at.nd rfl (by first | exact Or.inl rfl | exact Or.inr rfl) (fun _ e => by cases e; decide))) (fun _ _ _ _ _ => (dts_one (dt_chain op_le op_lt real_le real_lt (de_ix (dv 3) de_int) (dv 0) (de_ix (dv 3) de_int)))) (fun _ _ _ _ _ => (dv 3)))))
      (dss_one (ds_ret (de_lcN (LcOk.mk (own := [("ask", 3)]) rfl sc_least_at.nd (di_seq (dv 2)) (blkOk_by (N := ["cell", "asks", "some", "ask", "other"]) (sc := defScope s_least_at) (by decide +kernel)) (fun _ _ _ _ _ => (dg_name (i := 3) sc_least_at.nd rfl (by first | exact Or.inl rfl | exact Or.inr rfl) (fun _ e => by cases e; decide))) (fun _ _ _ _ _ => (dts_one (dt_not (dt_val (de_callB (cr_any rfl) real_any rfl G.n_any rfl (da_cons (de_lcN (LcOk.mk (own := [("other", 4)]) rfl sc_least_at.nd (di_seq (dv 2)) (blkOk_rel (N := ["cell", "asks", "some", "ask", "other"]) (by decide +kernel)) (fun _ _ _ _ _ => (dg_name (i := 4) sc_least_at.nd rfl (by first | exact Or.inl rfl | exact Or.inr rfl) (fun _ e => by cases e; decide))) (fun _ _ _ _ _ => dts_nil) (fun _ _ _ _ _ => (de_and (de_cmp (op_neD hr.units) real_ne (dv 4) (dv 3) (nomark _)) (de_one (de_callA h_lies_within (hr.mono (by decide)) takes_none5 (da_cons (dv 4) (da_cons (dv 3) da_nil)))))))) da_nil)))))) (fun _ _ _ _ _ => (dv 3))))))), fun ds M Qd Ed h => ?_⟩
  obtain ⟨x, d, as, rfl, hd, hl, h⟩ := h
  (first | (simp only [st_least_at]; try sizeOf_list_dec) | sizeOf_list_dec)
  refine ⟨_, itSq hd, LI_F (F := spD) (xs := as) injSp (fun s => if holds x s = true then some (spD s) else none) (fun M' hM => itSq (sq_ext hM hd)) (fun s hs M' hM => ?_) ?_⟩
  · (first | (simp only [st_least_at]; try sizeOf_list_dec) | sizeOf_list_dec)
    unfold holds
    exact ⟨fun h1 => ⟨fun h2 => by simp [h1, h2], fun h2 => by simp [h2]⟩, fun h1 => by simp [h1]⟩
  rw [fm_ite]
  refine ⟨_, rfl, LI_F (F := spD) (xs := as.filter (holds x)) injSp (fun a => if (!((as.filter (holds x)).any fun o => nar o a)) = true then some (spD a) else none) (fun M' hM => rfl) (fun a ha M' hM => ?_) ?_⟩
  · (first | (simp only [st_least_at]; try sizeOf_list_dec) | sizeOf_list_dec)
    refine ⟨_, rfl, LI_F (F := spD) (xs := as.filter (holds x)) injSp (fun o => some (.bl (nar o a))) (fun _ _ => rfl) (fun o ho M2 hM2 => ?_) ?_⟩
    · sizeOf_list_dec
      unfold nar
      refine ⟨fun h1 => ⟨o, a, rfl, ?_⟩, fun h1 => ?_⟩
      · have h2 : ¬ o = a := fun z => h1 (by rw [z])
        simp [h2]
      · have h2 : o = a := Prod.ext (by simpa using congrArg Prod.fst h1) (by simpa using congrArg Prod.snd h1)
        simp [h2]
    · refine anyT ((as.filter (holds x)).map fun o => nar o a) (by rw [filterMap_some, List.map_map]; rfl) ?_
      refine ⟨_, rfl, ?_⟩
      rw [List.any_map]
      show if ((as.filter (holds x)).any fun o => nar o a) = false then _ else _
      by_cases h1 : ((as.filter (holds x)).any fun o => nar o a) = false
      · rw [if_pos h1, if_pos h1]
        exact ⟨rfl, rfl⟩
      · rw [if_neg h1, if_neg h1]
        exact ⟨rfl, rfl⟩
  rw [fm_ite]
  exact Fin.same h
theorem sc_essential_at : FnScope ["cells", "asks", "cell", "start", "end"] ["cells", "asks"] (defScope s_essential_at) := ⟨rfl, rfl, rfl, by decide +kernel, rfl, by decide +kernel, by decide +kernel⟩
def sp_essential_at : DSp := fun ds M Q _ => ∃ (d e : D) (cs : List Int) (as : List Sp2), ds = [d, e] ∧ sqD M d = some (cs.map D.int) ∧ sqD M e = some (as.map spD) ∧ cs.length ≤ 1000 ∧ as.length ≤ 1000 ∧ ∀ p, M p = none → Q (.ref p) (mup M p (.lst ((essAt cs as).map mkD)))
theorem st_essential_at {a0 a1 : D} : dstart ["cells", "asks", "cell", "start", "end"] [a0, a1] = [some a0, some a1, none, none, none] := rfl
theorem ok_essential_at (G : Glb P w K mg base C_BadStretch C_TooLong C_Matching) (h_least_at : Dfk P w K mg base T "least_at" 2 ["cell", "asks"] sp_least_at) (Dd : DefAt K mg "essential_at" s_essential_at ["cells", "asks"]) : Dfk P w K mg base T "essential_at" 3 ["cells", "asks"] sp_essential_at := by
  refine DefAt.ok Dd sc_essential_at (fun ds M Q E h => by
    obtain ⟨_, _, _, _, rfl, _⟩ := h
    rfl) fun f cdv A outer s H E hr => ?_
  have tk : Takes (cxOf (L2.CX P w) P w K mg base ["cells", "asks", "cell", "start", "end"] "essential_at" (defScope s_essential_at) f cdv A outer s H E) (wOf T E).w := takes_of rfl rfl rfl rfl
  refine ⟨_, (dss_one (ds_ret (de_lc2O (own := [("cell", 2), ("start", 3), ("end", 4)]) [3, 4] rfl sc_essential_at.nd (di_seq (dv 0)) (blkOk_by (N := ["cells", "asks", "cell", "start", "end"]) (sc := defScope s_essential_at) (by decide +kernel)) (fun _ _ _ _ _ => (dg_name (i := 2) sc_essential_at.nd rfl (by first | exact Or.inl rfl | exact Or.inr rfl) (fun _ e => by cases e; decide))) (fun _ _ _ _ _ => dts_nil) (fun _ _ _ _ _ => (di_seq (de_callA h_least_at (hr.mono (by decide)) takes_none5 (da_cons (dv 2) (da_cons (dv 1) da_nil))))) (fun _ _ _ _ _ => (dg_tup (n := 2) rfl (dgs_cons (dg_name (i := 3) sc_essential_at.nd rfl (by first | exact Or.inl rfl | exact Or.inr rfl) (fun _ e => by cases e; decide)) (dgs_cons (dg_name (i := 4) sc_essential_at.nd rfl (by first | exact Or.inl rfl | exact Or.inr rfl) (fun _ e => by cases e; decide)) dgs_nil)))) (fun _ _ _ _ _ => dts_nil) (fun _ _ _ _ _ => (de_tup (da_cons (dv 2) (da_cons (dv 3) (da_cons (dv 4) da_nil)))))))), fun ds M Qd Ed h => ?_⟩
  obtain ⟨d, e, cs, as, rfl, hd, he, hl, hl2, h⟩ := h
  (first | (simp only [st_essential_at]; try sizeOf_list_dec) | sizeOf_list_dec)
  refine ⟨_, itSq hd, fun d r => ∀ c : Int, d = D.int c → r = ((leastAt c as).map fun s => (c, s.1, s.2)).map mkD, 1000, ?_, fun M' hM => itSq (sq_ext hM hd), fun dd hdd M' hM => ?_, fun rs hrs p hp => ?_⟩
  · rw [List.length_map, szl]
    have := Nat.mul_le_mul_right 1000 hl
    omega
  · obtain ⟨c, hc, rfl⟩ := List.mem_map.mp hdd
    (first | (simp only [st_essential_at]; try sizeOf_list_dec) | sizeOf_list_dec)
    refine ⟨c, e, as, rfl, sq_ext hM he, hl2, ?_⟩
    refine ⟨_, rfl, rfl, by rw [List.length_map]; exact Nat.le_trans (leastAt_len _ _) hl2, L2in_F (F := spD) injSp (fun s => some (mkD (c, s.1, s.2))) (fun _ _ => rfl) (fun s hs M2 hM2 => ?_) ?_⟩
    · (first | (simp only [st_essential_at]; try sizeOf_list_dec) | sizeOf_list_dec)
    · rintro c' rfl
      rw [filterMap_some, List.map_map]
      rfl
  · rw [all2_fl hrs]
    exact Fin.same (h p hp)
theorem sc_essential_few : FnScope ["asks", "some"] ["asks"] (defScope s_essential_few) := ⟨rfl, rfl, rfl, by decide +kernel, rfl, by decide +kernel, by decide +kernel⟩
def sp_essential_few : DSp := fun ds M Q _ => ∃ (d : D) (as : List Sp2), ds = [d] ∧ sqD M d = some (as.map spD) ∧ as.length ≤ 30 ∧ (∀ s ∈ as, okS s) ∧ ∀ bs, Dst as bs → ∀ p, M p = none → Q (.ref p) (mup M p (.lst ((essF bs).map mkD)))
theorem st_essential_few {a0 : D} : dstart ["asks", "some"] [a0] = [some a0, none] := rfl
theorem ok_essential_few (G : Glb P w K mg base C_BadStretch C_TooLong C_Matching) (h_borders : Dfk P w K mg base T "borders" 1 ["some"] sp_borders) (h_distinct : Dfk P w K mg base T "distinct" 1 ["some"] sp_distinct) (h_essential_at : Dfk P w K mg base T "essential_at" 3 ["cells", "asks"] sp_essential_at) (Dd : DefAt K mg "essential_few" s_essential_few ["asks"]) : Dfk P w K mg base T "essential_few" 4 ["asks"] sp_essential_few := by
  refine DefAt.ok Dd sc_essential_few (fun ds M Q E h => by
    obtain ⟨_, _, rfl, _⟩ := h
    rfl) fun f cdv A outer s H E hr => ?_
  have tk : Takes (cxOf (L2.CX P w) P w K mg base ["asks", "some"] "essential_few" (defScope s_essential_few) f cdv A outer s H E) (wOf T E).w := takes_of rfl rfl rfl rfl
  refine ⟨_, (dss_cons (ds_set 1 sc_essential_few.nd (de_callA h_distinct (hr.mono (by decide)) tk (da_cons (dv 0) da_nil)))
      (dss_one (ds_ret (de_callA h_essential_at (hr.mono (by decide)) tk (da_cons (de_sl (de_callA h_borders (hr.mono (by decide)) tk (da_cons (dv 1) da_nil)) do_none (do_some (de_neg de_int))) (da_cons (dv 1) da_nil)))))), fun ds M Qd Ed h => ?_⟩
  obtain ⟨d, as, rfl, hd, hl, hok, h⟩ := h
  (first | (simp only [st_essential_few]; try sizeOf_list_dec) | sizeOf_list_dec)
  refine ⟨d, as, rfl, hd, by omega, hok, fun L h1 h2 h3 => ?_⟩
  have hD : Dst as L := ⟨h3, h1, h2⟩
  have hr : inRow L := fun s hs => by have := hok s ((h1 s).mp hs); unfold okS at this; omega
  refine ⟨_, L, rfl, rfl, by omega, fun B b1 b2 b3 => ?_⟩
  obtain rfl := borders_eq hr b1 b3
  refine rdSl_sq rfl ?_
  rw [cut_last]
  refine ⟨_, _, (bordersF L).dropLast, L, rfl, rfl, rfl, ?_, by omega, fun p hp => Fin.same (h L hD p hp)⟩
  rw [List.length_dropLast]
  omega
theorem sc_taken_of : FnScope ["marks", "found", "mark", "one"] ["marks"] (defScope s_taken_of) := ⟨rfl, rfl, rfl, by decide +kernel, rfl, by decide +kernel, by decide +kernel⟩
def sp_taken_of : DSp := fun ds M Q _ => ∃ (d : D) (ms : List Mk), ds = [d] ∧ sqD M d = some (ms.map mkD) ∧ ms.length ≤ 100000 ∧ ∀ p, M p = none → Q (.ref p) (mup M p (.lst ((takenOf ms).map mkD)))
theorem st_taken_of {a0 : D} : dstart ["marks", "found", "mark", "one"] [a0] = [some a0, none, none, none] := rfl
theorem ok_taken_of (G : Glb P w K mg base C_BadStretch C_TooLong C_Matching) (h_go_across : Dfk P w K mg base T "go_across" 2 ["one", "two"] sp_go_across) (Dd : DefAt K mg "taken_of" s_taken_of ["marks"]) : Dfk P w K mg base T "taken_of" 3 ["marks"] sp_taken_of := by
  refine DefAt.ok Dd sc_taken_of (fun ds M Q E h => by
    obtain ⟨_, _, rfl, _⟩ := h
    rfl) fun f cdv A outer s H E hr => ?_
  have tk : Takes (cxOf (L2.CX P w) P w K mg base ["marks", "found", "mark", "one"] "taken_of" (defScope s_taken_of) f cdv A outer s H E) (wOf T E).w := takes_of rfl rfl rfl rfl
  refine ⟨_, (dss_cons (ds_set 1 sc_taken_of.nd (de_lstO da_nil))
      (dss_cons (ds_for (passes_of rfl) rfl (di_seq (dv 0)) (dg_name (i := 2) sc_taken_of.nd rfl (by first | exact Or.inl rfl | exact Or.inr rfl) (fun _ e => nomatch e)) (dss_one (ds_if (dt_not (dt_val (de_callB (cr_any rfl) real_any rfl G.n_any rfl (da_cons (de_lcN (LcOk.mk (own := [("one", 3)]) rfl sc_taken_of.nd (di_seq (dv 1)) (blkOk_by (N := ["marks", "found", "mark", "one"]) (sc := defScope s_taken_of) (by decide +kernel)) (fun _ _ _ _ _ => (dg_name (i := 3) sc_taken_of.nd rfl (by first | exact Or.inl rfl | exact Or.inr rfl) (fun _ e => by cases e; decide))) (fun _ _ _ _ _ => dts_nil) (fun _ _ _ _ _ => (de_or (de_callA h_go_across (hr.mono (by decide)) takes_none5 (da_cons (dv 3) (da_cons (dv 2) da_nil))) (de_one (de_callA h_go_across (hr.mono (by decide)) takes_none5 (da_cons (dv 2) (da_cons (dv 3) da_nil)))))))) da_nil)))) (dss_one (ds_expr (de_append (dv 1) (dv 2)))) dss_nil)))
      (dss_one (ds_ret (dv 1))))), fun ds M Qd Ed h => ?_⟩
  obtain ⟨d, ms, rfl, hd, hl, h⟩ := h
  (first | (simp only [st_taken_of]; try sizeOf_list_dec) | sizeOf_list_dec)
  refine fun p hp => ?_
  have sz : sizeLine = 16777216 := szl
  refine ⟨_, itSq (sq_ext ((Ext.refl M).up hp) hd), forBy (fun i Γ2 M2 => ∃ c1 c2, Γ2 = [some d, some (.ref p), c1, c2] ∧ M2 = mup M p (.lst ((takenOf (ms.take i)).map mkD))) ⟨none, none, rfl, rfl⟩ ?_ ?_ ?_⟩
  · rintro i _ _ ⟨c1, c2, rfl, rfl⟩
    exact itSq (sq_ext ((Ext.refl M).up hp) hd)
  · rintro i m _ _ hm ⟨c1, c2, rfl, rfl⟩
    have hi : i < ms.length := (List.getElem?_eq_some_iff.mp hm).1
    have ht : ms.take (i + 1) = ms.take i ++ [m] := by rw [List.take_add_one, hm]; rfl
    have hlen : (takenOf (ms.take i)).length ≤ i := Nat.le_trans (takenOf_len _) (List.length_take_le _ _)
    (first | (simp only [st_taken_of]; try sizeOf_list_dec) | sizeOf_list_dec)
    refine ⟨_, itSq (sqD_ref mup_same), LI_F (F := mkD) (xs := takenOf (ms.take i)) injMk (fun o => some (.bl (decide (acr o m ∨ acr m o)))) (fun M' hM => itSq (sq_ext hM (sqD_ref mup_same))) (fun o ho M' hM => ?_) ?_⟩
    · (first | (simp only [st_taken_of]; try sizeOf_list_dec) | sizeOf_list_dec)
      refine ⟨o, m, rfl, ?_⟩
      sizeOf_list_dec
      refine ⟨fun h1 => ?_, fun h1 => ⟨m, o, rfl, ?_⟩⟩
      · simp [h1]
      · simp [h1]
    · refine anyT ((takenOf (ms.take i)).map fun o => decide (acr o m ∨ acr m o)) (by rw [filterMap_some, List.map_map]; rfl) ?_
      refine ⟨_, rfl, ?_⟩
      rw [List.any_map, ht, takenOf_snoc]
      show if crossAny (takenOf (ms.take i)) m = false then _ else _
      by_cases h1 : crossAny (takenOf (ms.take i)) m = false
      · rw [if_pos h1, h1, if_neg Bool.false_ne_true]
        sizeOf_list_dec
        exact ⟨by omega, by rw [List.map_append]; rfl⟩
      · rw [if_neg h1, if_pos (by simpa using h1)]
  · rintro _ _ ⟨c1, c2, rfl, rfl⟩
    sizeOf_list_dec
    rw [List.take_length]
    exact Fin.same (h p hp)
theorem sc_Matching_reached : FnScope ["self", "begin", "lower", "came", "at", "to"] ["self", "begin"] (defScope s_Matching_reached) := ⟨rfl, rfl, rfl, by decide +kernel, rfl, by decide +kernel, by decide +kernel⟩
def sp_Matching_reached (C : Addr) : DSp := fun ds M Q _ => ∃ (p u a b : Addr) (d : D) (beg : List Nat) (ups : List (List Nat)) (m : MS), ds = [.ref p, d] ∧ MatM C M p u a b ups m ∧ sqD M d = some (beg.map natD) ∧ ups.length ≤ 10000 ∧ beg.length ≤ 10000 ∧ (∀ l, ∀ t ∈ ups.getD l [], t < ups.length) ∧ (∀ l ∈ beg, l < ups.length) ∧ Bnds ups.length m ∧
  ∀ l c, M l = none → M c = none → l ≠ c → Q (.tup [.ref l, .ref c]) (mup (mup M l (.lst ((reached ups m.2 beg).1.map natD))) c (.dic ((reached ups m.2 beg).2.map cameD)))
theorem st_Matching_reached {a0 a1 : D} : dstart ["self", "begin", "lower", "came", "at", "to"] [a0, a1] = [some a0, some a1, none, none, none, none] := rfl
theorem ok_Matching_reached (G : Glb P w K mg base C_BadStretch C_TooLong C_Matching) (Dd : MethAt K C_Matching "reached" "Matching.reached" s_Matching_reached ["self", "begin"]) : Mfk P w K mg base T C_Matching "reached" 1 ["self", "begin"] (sp_Matching_reached C_Matching) := by
  refine MethAt.ok Dd sc_Matching_reached (fun ds M Q E h => by
    obtain ⟨_, _, _, _, _, _, _, _, rfl, _⟩ := h
    rfl) fun f cdv A outer s H E hr => ?_
  have tk : Takes (cxOf (L2.CX P w) P w K mg base ["self", "begin", "lower", "came", "at", "to"] "Matching.reached" (defScope s_Matching_reached) f cdv A outer s H E) (wOf T E).w := takes_of rfl rfl rfl rfl
  refine ⟨_, (dss_cons (ds_set 2 sc_Matching_reached.nd (de_callTy call_list_of real_list rfl G.n_list rfl (da_cons (dv 1) da_nil)))
      (dss_cons (ds_set 3 sc_Matching_reached.nd de_dnew)
      (dss_cons (ds_set 4 sc_Matching_reached.nd de_int)
      (dss_cons (ds_while (passes_of rfl) (dt_cmp op_lt real_lt (dv 4) (de_callB call_len real_len rfl G.n_len rfl (da_cons (dv 2) da_nil)) (nomark _)) (dss_cons (ds_for (passes_of rfl) rfl (di_seq (de_ix (de_fld G.cl_Matching G.na_Matching_ups (dv 0)) (de_ix (dv 2) (dv 4)))) (dg_name (i := 5) sc_Matching_reached.nd rfl (by first | exact Or.inl rfl | exact Or.inr rfl) (fun _ e => nomatch e)) (dss_one (ds_if (dt_dnotin (Room.u1 hr) (dv 5) (dv 3)) (dss_cons (ds_dput (Room.u1 hr) (dv 3) (dv 5) (de_ix (dv 2) (dv 4)))
      (dss_one (ds_if (dt_cmp op_ge real_ge (de_ix (de_fld G.cl_Matching G.na_Matching_below (dv 0)) (dv 5)) de_int (nomark _)) (dss_one (ds_expr (de_append (dv 2) (de_ix (de_fld G.cl_Matching G.na_Matching_below (dv 0)) (dv 5))))) dss_nil))) dss_nil)))
      (dss_one (ds_aug (i := 4) sc_Matching_reached.nd de_int ip_add real_ip))))
      (dss_one (ds_ret (de_tup (da_cons (dv 2) (da_cons (dv 3) da_nil))))))))), fun ds M Qd Ed h => ?_⟩
  obtain ⟨p, u, a, b, d, beg, ups, m, rfl, hm, hd, hn, hbl, hu, hbeg, hB, h⟩ := h
  have sz : sizeLine = 16777216 := szl
  (first | (simp only [st_Matching_reached]; try sizeOf_list_dec) | sizeOf_list_dec)
  refine ⟨d, beg.map natD, rfl, seqSq hd, fun l hl c hc => ?_⟩
  have hlc : l ≠ c := fun z => by rw [← z, mup_same] at hc; cases hc
  have hc : M c = none := by rw [mup_ne (Ne.symm hlc)] at hc; exact hc
  obtain ⟨hpa, hpb, hpu⟩ := hm.pa
  let MM : RS → Mp := fun s => mup (mup M l (.lst (s.1.map natD))) c (.dic (s.2.map cameD))
  have X : ∀ s, Ext M (MM s) := fun s => (((Ext.refl M).up hl).up hc)
  have mL : ∀ s, MM s l = some (.lst (s.1.map natD)) := fun s => by show mup _ _ _ l = _; rw [mup_ne hlc]; exact mup_same
  have mC : ∀ s, MM s c = some (.dic (s.2.map cameD)) := fun s => mup_same
  let Wv : Nat → DG → Mp → Prop := fun k Γ2 M2 => ∃ (at_ : Nat) (s : RS) (c5 : Option D), Γ2 = [some (.ref p), some d, some (.ref l), some (.ref c), some (.int (at_ : Nat)), c5] ∧ M2 = MM s ∧ RI ups m.2 beg s ∧ at_ ≤ s.1.length ∧ k + at_ = beg.length + ups.length + 1 ∧ reachF ups m.2 k at_ s = reached ups m.2 beg
  refine ⟨Wv, ⟨beg.length + ups.length + 1, 0, (beg, []), none, rfl, rfl, ri0 _ _ _, Nat.zero_le _, rfl, rfl⟩, ?_⟩
  rintro k _ _ ⟨at_, s, c5, rfl, rfl, hR, hat, hk, hF⟩
  have hm' := hm.ext (X s)
  have hcnt := hR.count
  have lowB : ∀ x ∈ s.1, x < ups.length := fun x hx => by
    rcases hR.low hx with h1 | ⟨j, q, _, _, h1⟩
    · exact hbeg x h1
    · exact hB.2.2 _ _ h1
  (first | (simp only [st_Matching_reached]; try sizeOf_list_dec) | sizeOf_list_dec)
  rw [lenR (mL s), List.length_map]
  (first | (simp only [st_Matching_reached]; try sizeOf_list_dec) | sizeOf_list_dec)
  refine ⟨fun hlt => ?_, fun hge => ?_⟩
  · have hlt : at_ < s.1.length := by omega
    match k, hk, hF with
    | 0, hk, hF => omega
    | k + 1, hk, hF =>
    unfold reachF at hF
    rw [if_pos hlt] at hF
    have hlow : s.1.getD at_ 0 ∈ s.1 := by
      rw [List.getD_eq_getElem?_getD, List.getElem?_eq_getElem hlt]
      exact List.getElem_mem hlt
    have hlb := lowB _ hlow
    refine ⟨_, insR hm'.ho, _, rfl, natD (s.1.getD at_ 0), ?_, upD (ups.getD (s.1.getD at_ 0) []), ?_, (ups.getD (s.1.getD at_ 0) []).map natD, rfl, ?_⟩
    · rw [ixd_ref (mL s)]
      exact atI_nat hlt
    · exact (ixd_ref hm'.hu).trans (atI_up hlb)
    have eT : rturn ups m.2 s at_ = (ups.getD (s.1.getD at_ 0) []).foldl (rstep m.2 (s.1.getD at_ 0)) s := rfl
    generalize hrow : ups.getD (s.1.getD at_ 0) [] = row at eT
    have hro : ∀ t ∈ row, t < ups.length ∧ t ∈ ups.getD (s.1.getD at_ 0) [] := fun t ht => by
      rw [← hrow] at ht
      exact ⟨hu _ t ht, ht⟩
    have st : ∀ j, RI ups m.2 beg ((row.take j).foldl (rstep m.2 (s.1.getD at_ 0)) s) ∧ grows s ((row.take j).foldl (rstep m.2 (s.1.getD at_ 0)) s) := fun j => by
      obtain ⟨h1, h2, _⟩ := fold_ri (row.take j) s hR hlow fun t ht => hro t (List.mem_of_mem_take ht)
      exact ⟨h1, h2⟩
    generalize hlw : s.1.getD at_ 0 = low at *
    let I : Nat → DG → Mp → Prop := fun j Γ2 M2 => ∃ c5, Γ2 = [some (.ref p), some d, some (.ref l), some (.ref c), some (.int (at_ : Nat)), c5] ∧ M2 = MM ((row.take j).foldl (rstep m.2 low) s)
    refine forBy I ⟨_, rfl, rfl⟩ (fun _ _ _ _ => rfl) ?_ ?_
    · rintro j t _ _ ht ⟨c5, rfl, rfl⟩
      obtain ⟨r1, g1⟩ := st j
      obtain ⟨r2, g2⟩ := st (j + 1)
      have e1 : row.take (j + 1) = row.take j ++ [t] := by rw [List.take_add_one, ht]; rfl
      have e2 : (row.take (j + 1)).foldl (rstep m.2 low) s = rstep m.2 low ((row.take j).foldl (rstep m.2 low) s) t := by rw [e1, List.foldl_append]; rfl
      have tb := (hro t (List.mem_of_getElem? ht)).1
      have gl := g1.get (i := at_) hlt
      have ll := g1.len
      rw [hlw] at gl
      show (gdName 5) (.int (t : Nat)) _ _ _
      generalize (row.take j).foldl (rstep m.2 low) s = s2 at *
      have hm2 := hm.ext (X s2)
      sizeOf_list_dec
      refine ⟨_, dcR (mC s2), Sum.inl (t : Int), rfl, ?_⟩
      rw [came_in]
      refine ⟨fun hin => ?_, fun hin => ⟨_, rfl, by rw [e2]; unfold rstep; rw [if_pos hin]⟩⟩
      have el : ixD (MM s2) (.ref l) (.int (at_ : Int)) = some (natD low) := by
        rw [ixd_ref (mL s2), atI_nat (by omega), gl]
      have cnt := r1.count
      have kcnt : s2.2.length ≤ ups.length := by
        have := nodup_sub r1.nd (b := List.range ups.length) fun x hx => by
          obtain ⟨q, hq, rfl⟩ := List.mem_map.mp hx
          exact List.mem_range.mpr (r1.kb q hq).1
        rwa [List.length_map, List.length_range] at this
      refine ⟨_, el, _, Sum.inl (t : Int), rfl, mC s2, by rw [List.length_map]; omega, ?_⟩
      rw [came_put hin]
      have eM : mup (MM s2) c (.dic ((s2.2 ++ [(t, low)]).map cameD)) = MM (s2.1, s2.2 ++ [(t, low)]) := by
        show mup (mup (mup M l _) c _) c _ = _
        rw [mup_mup]
      rw [eM]
      have hm3 := hm.ext (X (s2.1, s2.2 ++ [(t, low)]))
      have eb : ∀ M', M' b = some (.lst (m.2.map D.int)) → ixD M' (.ref b) (.int (t : Int)) = some (.int (m.2.getD t (-1))) := fun M' hM' => by
        rw [ixd_ref hM', atI_int (by rw [hB.2.1]; exact tb)]
      refine ⟨_, insR hm3.ho, _, rfl, _, eb _ hm3.hb, ?_⟩
      sizeOf_list_dec
      have er : rstep m.2 low s2 t = (if 0 ≤ m.2.getD t (-1) then s2.1 ++ [(m.2.getD t (-1)).toNat] else s2.1, s2.2 ++ [(t, low)]) := by
        unfold rstep
        rw [if_neg (by rw [hin]; decide)]
      refine ⟨fun h0 => ?_, fun h0 => ⟨_, rfl, by rw [e2, er, if_neg h0]⟩⟩
      refine ⟨⟨_, sqX_ref (mL _)⟩, _, insR hm3.ho, _, rfl, _, eb _ hm3.hb, _, mL _, by rw [List.length_map]; show s2.1.length < _; omega, _, rfl, ?_⟩
      rw [e2, er, if_pos h0]
      have en : D.int (m.2.getD t (-1)) = natD (m.2.getD t (-1)).toNat := by unfold natD; rw [Int.toNat_of_nonneg h0]
      rw [en]
      show mup (mup (mup M l _) c _) l _ = mup (mup M l _) c _
      rw [mup_comm (Ne.symm hlc), mup_mup]
      have e9 : List.map natD (s2.1 ++ [(m.2.getD t (-1)).toNat]) = List.map natD s2.1 ++ [natD (m.2.getD t (-1)).toNat] := by rw [List.map_append]; rfl
      rw [e9]
    · rintro _ _ ⟨c5, rfl, rfl⟩
      rw [List.take_length, ← eT]
      obtain ⟨r2, g2⟩ := st row.length
      rw [List.take_length, ← eT] at r2 g2
      have gl := g2.len
      sizeOf_list_dec
      refine ⟨k, by omega, at_ + 1, _, c5, by simp, rfl, r2, by omega, by omega, hF⟩
  · have hge : ¬ at_ < s.1.length := by omega
    have e : reached ups m.2 beg = s := by
      rw [← hF]
      match k with
      | 0 => rfl
      | k + 1 => unfold reachF; rw [if_neg hge]
    have h := h l c hl hc hlc
    rw [e] at h
    exact Fin.same h
theorem sc_Matching_widen : FnScope ["self", "begin", "lower", "came", "free", "to", "low", "behind"] ["self", "begin"] (defScope s_Matching_widen) := ⟨rfl, rfl, rfl, by decide +kernel, rfl, by decide +kernel, by decide +kernel⟩
def sp_Matching_widen (C : Addr) : DSp := fun ds M Q _ => ∃ (p u a b : Addr) (k : Nat) (ups : List (List Nat)) (m : MS), ds = [.ref p, .int (k : Nat)] ∧ MatM C M p u a b ups m ∧ ups.length ≤ 10000 ∧ (∀ l, ∀ t ∈ ups.getD l [], t < ups.length) ∧ (∀ l, ∀ t ∈ ups.getD l [], l < ups.length) ∧ Con ups m ∧ k < ups.length ∧ m.1.getD k (-1) < 0 ∧
  Q .non (mup (mup M a (.lst ((widenF ups m k).1.map D.int))) b (.lst ((widenF ups m k).2.map D.int)))
theorem st_Matching_widen {a0 a1 : D} : dstart ["self", "begin", "lower", "came", "free", "to", "low", "behind"] [a0, a1] = [some a0, some a1, none, none, none, none, none, none] := rfl
theorem ok_Matching_widen (G : Glb P w K mg base C_BadStretch C_TooLong C_Matching) (h_Matching_reached : Mfk P w K mg base T C_Matching "reached" 1 ["self", "begin"] (sp_Matching_reached C_Matching)) (Dd : MethAt K C_Matching "widen" "Matching.widen" s_Matching_widen ["self", "begin"]) : Mfk P w K mg base T C_Matching "widen" 2 ["self", "begin"] (sp_Matching_widen C_Matching) := by
  refine MethAt.ok Dd sc_Matching_widen (fun ds M Q E h => by
    obtain ⟨_, _, _, _, _, _, _, rfl, _⟩ := h
    rfl) fun f cdv A outer s H E hr => ?_
  have tk : Takes (cxOf (L2.CX P w) P w K mg base ["self", "begin", "lower", "came", "free", "to", "low", "behind"] "Matching.widen" (defScope s_Matching_widen) f cdv A outer s H E) (wOf T E).w := takes_of rfl rfl rfl rfl
  refine ⟨_, (dss_cons (ds_asg (de_meth h_Matching_reached G.cl_Matching (hr.mono (by decide)) tk (dv 0) (da_cons (de_lst (da_cons (dv 1) da_nil)) da_nil)) (dg_tup (n := 2) rfl (dgs_cons (dg_name (i := 2) sc_Matching_widen.nd rfl (by first | exact Or.inl rfl | exact Or.inr rfl) (fun _ e => nomatch e)) (dgs_cons (dg_name (i := 3) sc_Matching_widen.nd rfl (by first | exact Or.inl rfl | exact Or.inr rfl) (fun _ e => nomatch e)) dgs_nil))))
      (dss_cons (ds_lock (ds_setLcN 4 (LcOk.mk (own := [("to", 5)]) rfl sc_Matching_widen.nd (di_keys (dv 3)) (blkOk_by (N := ["self", "begin", "lower", "came", "free", "to", "low", "behind"]) (sc := defScope s_Matching_widen) (by decide +kernel)) (fun _ _ _ _ _ => (dg_name (i := 5) sc_Matching_widen.nd rfl (by first | exact Or.inl rfl | exact Or.inr rfl) (fun _ e => by cases e; decide))) (fun _ _ _ _ _ => (dts_one (dt_cmp op_lt real_lt (de_ix (de_fld G.cl_Matching G.na_Matching_below (dv 0)) (dv 5)) de_int (nomark _)))) (fun _ _ _ _ _ => (dv 5))) (sw_true rfl rfl rfl rfl)))
      (dss_cons (ds_if (dt_cmp (op_eqD hr.units) real_eq (dv 4) (de_lst da_nil) (nomark _)) (dss_one ds_retN) dss_nil)
      (dss_cons (ds_set 5 sc_Matching_widen.nd (de_callB (cr_min rfl) real_min rfl G.n_min rfl (da_cons (dv 4) da_nil)))
      (dss_one (ds_while (passes_of rfl) (dt_val de_bl) (dss_cons (ds_set 6 sc_Matching_widen.nd (de_dget (Room.u1 hr) (dv 3) (dv 5)))
      (dss_cons (ds_set 7 sc_Matching_widen.nd (de_ix (de_fld G.cl_Matching G.na_Matching_above (dv 0)) (dv 6)))
      (dss_cons (ds_asg (dv 5) (dg_sub (de_fld G.cl_Matching G.na_Matching_above (dv 0)) (dv 6)))
      (dss_cons (ds_asg (dv 6) (dg_sub (de_fld G.cl_Matching G.na_Matching_below (dv 0)) (dv 5)))
      (dss_cons (ds_if (dt_cmp (op_eqD hr.units) real_eq (dv 6) (dv 1) (nomark _)) (dss_one ds_retN) dss_nil)
      (dss_one (ds_set 5 sc_Matching_widen.nd (dv 7)))))))))))))), fun ds M Qd Ed h => ?_⟩
  obtain ⟨p, u, a, b, k, ups, m, rfl, hm, hn, hu, hul, hC, hk, hk0, h⟩ := h
  have sz : sizeLine = 16777216 := szl
  (first | (simp only [st_Matching_widen]; try sizeOf_list_dec) | sizeOf_list_dec)
  refine ⟨⟨_, insR hm.ho, rfl⟩, ?_⟩
  refine ⟨p, u, a, b, _, [k], ups, m, rfl, hm, rfl, hn, by simp, hu, fun l hl => ?_, hC.bnds, fun l c hl hc hlc => ?_⟩
  · obtain rfl : l = k := by simpa using hl
    exact hk
  obtain ⟨R, R2, R3⟩ := reached_ri (ups := ups) (below := m.2) (begin_ := [k]) hu
  unfold widenF at h
  dsimp only at h
  generalize reached ups m.2 [k] = r at R R2 R3 h
  obtain ⟨hpa, hpb, hpu⟩ := hm.pa
  have X0 : Ext M (mup (mup M l (.lst (r.1.map natD))) c (.dic (r.2.map cameD))) := ((Ext.refl M).up hl).up hc
  have mC : mup (mup M l (.lst (r.1.map natD))) c (.dic (r.2.map cameD)) c = some (.dic (r.2.map cameD)) := mup_same
  generalize mup (mup M l (.lst (r.1.map natD))) c (.dic (r.2.map cameD)) = MM at X0 mC
  have cne : ∀ x y, M x = some y → x ≠ c := fun x y hx z => by rw [z, hc] at hx; cases hx
  have kcnt : r.2.length ≤ ups.length := by
    have := nodup_sub R.nd (b := List.range ups.length) fun x hx => by
      obtain ⟨q, hq, rfl⟩ := List.mem_map.mp hx
      exact List.mem_range.mpr (R.kb q hq).1
    rwa [List.length_map, List.length_range] at this
  (first | (simp only [st_Matching_widen]; try sizeOf_list_dec) | sizeOf_list_dec)
  refine ⟨c, _, mC, fun uo => ⟨_, _, mup_same, by rw [List.length_map]; omega, ?_⟩⟩
  have XL : Ext M (mup MM c (.lkd (r.2.map cameD) uo)) := X0.up hc
  rw [came_keys]
  refine LI_F (F := natD) (xs := r.2.map (·.1)) injNat (fun to => if decide (m.2.getD to (-1) < 0) = true then some (natD to) else none) (fun M' hM => hM _ _ mup_same) (fun to hto M' hM => ?_) ?_
  · obtain ⟨q, hq, rfl⟩ := List.mem_map.mp hto
    have tb := (R.kb q hq).1
    have hm2 := hm.ext (XL.trans hM)
    show LB (gdName 5) _ _ _ _ (.int (q.1 : Nat)) _
    (first | (simp only [st_Matching_widen]; try sizeOf_list_dec) | sizeOf_list_dec)
    refine ⟨_, insR hm2.ho, _, rfl, _, (ixd_ref hm2.hb).trans (atI_int (by rw [hC.l2]; exact tb)), ?_⟩
    sizeOf_list_dec
    by_cases z : m.2.getD q.1 (-1) < 0
    · exact ⟨fun _ => by rw [if_pos z]; rfl, fun y => absurd z y⟩
    · exact ⟨fun y => absurd y z, fun _ => by rw [if_neg z]⟩
  rw [fm_ite]
  refine ⟨mup_same, ?_⟩
  rw [mup_mup, mup_self mC]
  show rdEq (.lst ((freeOf m.2 r).map natD)) _ _ _
  rw [eqNilL (n := 0) (f := natD) (fun k => lay_int 0 _)]
  refine ⟨_, rfl, fun hf => ?_, fun hf => ?_⟩
  · have hf : freeOf m.2 r = [] := by simpa using hf
    rw [if_pos hf, mup_self hm.ha, mup_self hm.hb] at h
    exact Fin.lessE X0 h
  have hf : freeOf m.2 r ≠ [] := by simpa using hf
  rw [if_neg hf] at h
  obtain ⟨hm1, hmin⟩ := minN_mem hf
  refine ⟨_, (freeOf m.2 r).map (fun k : Nat => (k : Int)), rfl, by rw [← natL]; rfl, by rw [List.length_map]; exact List.length_pos_iff.mpr hf, fun x hx hxm => ?_⟩
  obtain rfl : x = ((minN (freeOf m.2 r) : Nat) : Int) := by
    obtain ⟨y, hy, rfl⟩ := List.mem_map.mp hx
    have h1 := hmin y hy
    have h2 := hxm _ (List.mem_map.mpr ⟨_, hm1, rfl⟩)
    omega
  generalize minN (freeOf m.2 r) = to0 at hm1 h
  unfold freeOf at hm1
  obtain ⟨hk1, hk2⟩ := List.mem_filter.mp hm1
  have hk2 : m.2.getD to0 (-1) < 0 := by simpa using hk2
  obtain ⟨⟨p1, low0⟩, hp, e⟩ := List.mem_map.mp hk1
  obtain ⟨i0, hi0⟩ := List.mem_iff_getElem?.mp hp
  have e : p1 = to0 := e
  subst e
  have hil := (List.getElem?_eq_some_iff.mp hi0).1
  have A0 : AI ups m r.2 k i0 p1 m := ⟨hC.l1, hC.l2, fun l t h => (by
      obtain ⟨a1, a2, a3⟩ := hC.a l t h
      refine ⟨a1, a2, fun z => ?_, a3⟩
      rw [z] at a2
      omega), fun t l _ h => hC.b t l h, hk0, fun l t h => .inl h, fun l h => h, fun l h => h, fun L' U' D' _ => ⟨fun z => (by
      obtain ⟨l, _, e⟩ := D'.2 _ z
      omega), fun _ _ => rfl⟩⟩
  generalize hfree : ((r.2.map (fun x => x.1)).filter fun to => decide (m.2.getD to (-1) < 0)).map natD = frl
  generalize hfin : augF r.2 k (r.2.length + 1) p1 m = fin at h
  let Wv : Nat → DG → Mp → Prop := fun f Γ2 M2 => ∃ (i to low : Nat) (m1 : MS) (c6 c7 : Option D), i < f ∧ r.2[i]? = some (to, low) ∧ AI ups m r.2 k i to m1 ∧ augF r.2 k f to m1 = fin ∧ Γ2 = [some (.ref p), some (.int (k : Nat)), some (.ref l), some (.ref c), some (.lst frl), some (.int (to : Nat)), c6, c7] ∧ M2 = mup (mup MM a (.lst (m1.1.map D.int))) b (.lst (m1.2.map D.int))
  have hmM := hm.ext X0
  refine ⟨Wv, ⟨r.2.length + 1, i0, p1, low0, m, _, _, by omega, hi0, A0, hfin, rfl, by rw [mup_self hmM.ha, mup_self hmM.hb]⟩, ?_⟩
  rintro f _ _ ⟨i, to, low, m1, c6, c7, hif, hi, A, hF, rfl, rfl⟩
  have hac : a ≠ c := cne _ _ hm.ha
  have hbc : b ≠ c := cne _ _ hm.hb
  have hmN : MatM C_Matching (mup (mup MM a (.lst (m1.1.map D.int))) b (.lst (m1.2.map D.int))) p u a b ups m1 := hmM.put
  have mC2 : mup (mup MM a (.lst (m1.1.map D.int))) b (.lst (m1.2.map D.int)) c = some (.dic (r.2.map cameD)) := by rw [mup_ne (Ne.symm hbc), mup_ne (Ne.symm hac)]; exact mC
  have hw : whence r.2 to = some low := whence_at R.nd (p := (to, low)) hi
  obtain ⟨tb, _, tu⟩ := R.kb _ (List.mem_of_getElem? hi)
  have tb : to < ups.length := tb
  have hlow : low < ups.length := hul low to tu
  sizeOf_list_dec
  refine ⟨_, dcR mC2, Sum.inl (to : Int), rfl, natD low, by rw [came_val, hw]; rfl, ?_⟩
  refine ⟨_, insR hmN.ho, _, rfl, _, (ixd_ref hmN.ha).trans (atI_int (i := low) (by rw [A.l1]; exact hlow)), ?_⟩
  refine ⟨_, insR hmN.ho, _, rfl, a, rfl, _, (low : Int), rfl, hmN.ha, low, ixN_nat (by rw [List.length_map, A.l1]; exact hlow), ?_⟩
  have s1 : (m1.1.map D.int).set low (.int (to : Int)) = (m1.1.set low (to : Int)).map D.int := by rw [List.map_set]
  rw [s1, mup_comm (M := mup MM a (.lst (m1.1.map D.int))) (Ne.symm hm.ab), mup_mup]
  have hm3 : MatM C_Matching (mup (mup MM a (.lst ((m1.1.set low (to : Int)).map D.int))) b (.lst (m1.2.map D.int))) p u a b ups (m1.1.set low (to : Int), m1.2) := hmM.put (m' := (m1.1.set low (to : Int), m1.2))
  refine ⟨_, insR hm3.ho, _, rfl, b, rfl, _, hm3.hb, to, ixN_nat (by rw [List.length_map]; show to < m1.2.length; rw [A.l2]; exact tb), ?_⟩
  have s2 : (m1.2.map D.int).set to (natD low) = (m1.2.set to (low : Int)).map D.int := by rw [List.map_set]; rfl
  have s3 : ((m1.1.set low (to : Int), m1.2) : MS).2 = m1.2 := rfl
  rw [s3, s2, mup_mup]
  have eq : rdEq (natD low) (.int (k : Int)) = rdEq (.int (low : Int)) (.int (k : Int)) := rfl
  rw [eq, eqI]
  have hfs : f = (f - 1) + 1 := by omega
  rw [hfs] at hF
  unfold augF at hF
  rw [hw] at hF
  dsimp only [Option.getD_some] at hF
  refine ⟨_, rfl, fun hq => ?_, fun hq => ?_⟩
  · have hq : low = k := by simp at hq; omega
    rw [if_pos hq] at hF
    rw [← hF] at h
    exact Fin.lessE (ext_put2 X0) h
  · have hq : low ≠ k := by simp at hq; omega
    rw [if_neg hq] at hF
    obtain ⟨j, q, hj, hqj, hab, A2⟩ := aug_next hC hul R hi A hq
    rw [hab] at hF
    rw [Int.toNat_natCast] at hF
    refine ⟨f - 1, by omega, j, q.1, q.2, (m1.1.set low (to : Int), m1.2.set to (low : Int)), some (natD low), some (.int (q.1 : Nat)), by omega, hqj, A2, hF, ?_, rfl⟩
    rw [hab]
theorem sc_Matching_init : FnScope ["self", "marks", "many", "at", "to"] ["self", "marks"] (defScope s_Matching_init) := ⟨rfl, rfl, rfl, by decide +kernel, rfl, by decide +kernel, by decide +kernel⟩
def sp_Matching_init (C : Addr) : DSp := fun ds M Q _ => ∃ (p : Addr) (d : D) (ms : List Mk), ds = [.ref p, d] ∧ M p = some (.ins C []) ∧ sqD M d = some (ms.map mkD) ∧ ms.length ≤ 5000 ∧
  ∀ u a b M', MatM C M' p u a b (upsOf ms) (matchOf ms) → (∀ x c, x ≠ p → M x = some c → M' x = some c) → Q .non M' 
theorem st_Matching_init {a0 a1 : D} : dstart ["self", "marks", "many", "at", "to"] [a0, a1] = [some a0, some a1, none, none, none] := rfl
theorem ok_Matching_init (G : Glb P w K mg base C_BadStretch C_TooLong C_Matching) (h_Matching_widen : Mfk P w K mg base T C_Matching "widen" 2 ["self", "begin"] (sp_Matching_widen C_Matching)) (h_is_under : Dfk P w K mg base T "is_under" 1 ["one", "two"] sp_is_under) (Dd : MethAt K C_Matching "__init__" "Matching.__init__" s_Matching_init ["self", "marks"]) : Mfk P w K mg base T C_Matching "__init__" 3 ["self", "marks"] (sp_Matching_init C_Matching) := by
  refine MethAt.ok Dd sc_Matching_init (fun ds M Q E h => by
    obtain ⟨_, _, _, rfl, _⟩ := h
    rfl) fun f cdv A outer s H E hr => ?_
  have tk : Takes (cxOf (L2.CX P w) P w K mg base ["self", "marks", "many", "at", "to"] "Matching.__init__" (defScope s_Matching_init) f cdv A outer s H E) (wOf T E).w := takes_of rfl rfl rfl rfl
  refine ⟨_, (dss_cons (ds_set 2 sc_Matching_init.nd (de_callB call_len real_len rfl G.n_len rfl (da_cons (dv 1) da_nil)))
      (dss_cons (ds_put G.cl_Matching G.na_Matching_ups (dv 0) (de_lstO da_nil))
      (dss_cons (ds_for (passes_of rfl) rfl (di_rng1 rfl G.n_range (da_cons (dv 2) da_nil)) (dg_name (i := 3) sc_Matching_init.nd rfl (by first | exact Or.inl rfl | exact Or.inr rfl) (fun _ e => nomatch e)) (dss_one (ds_expr (de_append (de_fld G.cl_Matching G.na_Matching_ups (dv 0)) (de_lcN (LcOk.mk (own := [("to", 4)]) rfl sc_Matching_init.nd (di_rng1 rfl G.n_range (da_cons (dv 2) da_nil)) (blkOk_by (N := ["self", "marks", "many", "at", "to"]) (sc := defScope s_Matching_init) (by decide +kernel)) (fun _ _ _ _ _ => (dg_name (i := 4) sc_Matching_init.nd rfl (by first | exact Or.inl rfl | exact Or.inr rfl) (fun _ e => by cases e; decide))) (fun _ _ _ _ _ => (dts_one (dw_pt (dw_and (dt_cmp (op_neD hr.units) real_ne (dv 4) (dv 3) (nomark _)) (dw_and1 (dt_val (de_callA h_is_under (hr.mono (by decide)) takes_none5 (da_cons (de_ix (dv 1) (dv 3)) (da_cons (de_ix (dv 1) (dv 4)) da_nil))))))))) (fun _ _ _ _ _ => (dv 4))))))))
      (dss_cons (ds_put G.cl_Matching G.na_Matching_above (dv 0) (de_op op_rep real_repO (de_lst (da_cons (de_neg de_int) da_nil)) (dv 2)))
      (dss_cons (ds_put G.cl_Matching G.na_Matching_below (dv 0) (de_op op_rep real_repO (de_lst (da_cons (de_neg de_int) da_nil)) (dv 2)))
      (dss_one (ds_for (passes_of rfl) rfl (di_rng1 rfl G.n_range (da_cons (dv 2) da_nil)) (dg_name (i := 3) sc_Matching_init.nd rfl (by first | exact Or.inl rfl | exact Or.inr rfl) (fun _ e => nomatch e)) (dss_one (ds_expr (de_meth h_Matching_widen G.cl_Matching (hr.mono (by decide)) tk (dv 0) (da_cons (dv 3) da_nil))))))))))), fun ds M Qd Ed h => ?_⟩
  obtain ⟨p, d, ms, rfl, hp, hd, hn, h⟩ := h
  have sz : sizeLine = 16777216 := szl
  (first | (simp only [st_Matching_init]; try sizeOf_list_dec) | sizeOf_list_dec)
  rw [lenSq hd, List.length_map]
  (first | (simp only [st_Matching_init]; try sizeOf_list_dec) | sizeOf_list_dec)
  refine fun u hu => ?_
  have hpu : p ≠ u := fun z => by rw [z, hu] at hp; cases hp
  refine ⟨[], by rw [mup_ne hpu]; exact hp, by decide, ⟨by omega, by omega⟩, ?_⟩
  let rowOf : Nat → List Nat := fun at_ => (List.range ms.length).filter fun t => !decide (t = at_) && decide (und (ms.getD at_ noMk) (ms.getD t noMk))
  let M1 : Nat → Mp := fun j => mup (mup M u (.lst (((List.range j).map rowOf).map upD))) p (.ins C_Matching [("ups", .ref u)])
  have B1 : ∀ j, But p M (M1 j) := fun j x c hx hc => by
    show mup (mup M u _) p _ x = _
    rw [mup_ne hx, mup_ne fun z => by rw [z, hu] at hc; cases hc]
    exact hc
  have o1 : ∀ j, M1 j p = some (.ins C_Matching [("ups", .ref u)]) := fun j => mup_same
  have u1 : ∀ j, M1 j u = some (.lst (((List.range j).map rowOf).map upD)) := fun j => by
    show mup (mup M u _) p _ u = _
    rw [mup_ne (Ne.symm hpu)]
    exact mup_same
  have e0 : (rngD 0 1 ((ms.length : Int)).toNat) = rngD 0 1 ms.length := by rw [Int.toNat_natCast]
  rw [e0]
  refine forRng (fun j Γ2 M2 => ∃ c3 c4, Γ2 = [some (.ref p), some d, some (.int (ms.length : Nat)), c3, c4] ∧ M2 = M1 j) ⟨_, _, rfl, rfl⟩ (fun _ => trivial) ?_ ?_
  · rintro j _ _ hj ⟨c3, c4, rfl, rfl⟩
    (first | (simp only [st_Matching_init]; try sizeOf_list_dec) | sizeOf_list_dec)
    refine ⟨_, insR (o1 j), .ref u, rfl, ⟨_, sqX_ref (u1 j)⟩, ⟨by omega, by omega⟩, ?_⟩
    rw [e0]
    refine LI_F (xs := List.range ms.length) (injRng (by decide)) (fun t => if (!decide (t = j) && decide (und (ms.getD j noMk) (ms.getD t noMk))) = true then some (natD t) else none) (fun _ _ => trivial) (fun t ht M' hM => ?_) ?_
    · have ht := List.mem_range.mp ht
      have hd2 := sq_ext hM (sq_but (B1 j) hp hd)
      have atm : ∀ k : Nat, k < ms.length → ixD M' d (.int (k : Int)) = some (mkD (ms.getD k noMk)) := fun k hk => by
        rw [ixSq hd2]
        refine atMn ?_
        rw [List.getD_eq_getElem?_getD, List.getElem?_eq_getElem hk]
        rfl
      sizeOf_list_dec
      refine ⟨fun h1 => ⟨_, atm j hj, _, atm t ht, ms.getD j noMk, ms.getD t noMk, rfl, _, rfl, fun h2 => ⟨rfl, ?_⟩, fun h2 => ⟨rfl, ?_⟩⟩, fun h1 => ?_⟩
      · have h1 : ¬ t = j := by omega
        rw [if_pos (by rw [decide_eq_false h1, h2]; rfl)]
        rfl
      · rw [if_neg (by rw [h2]; simp)]
      · have h1 : t = j := by omega
        rw [if_neg (by rw [decide_eq_true h1]; simp)]
    · rw [fm_ite]
      refine ⟨u, rfl, _, u1 j, by rw [List.length_map, List.length_map, List.length_range]; omega, ?_⟩
      show mup (mup (mup M u _) p _) u _ = mup (mup M u _) p _
      rw [mup_comm hpu, mup_mup]
      have e3 : ((List.range (j + 1)).map rowOf).map upD = ((List.range j).map rowOf).map upD ++ [upD (rowOf j)] := by
        rw [List.range_succ, List.map_append, List.map_append]
        rfl
      rw [e3]
      rfl
  · rintro _ _ ⟨c3, c4, rfl, rfl⟩
    sizeOf_list_dec
    have rep1 : (List.replicate ((ms.length : Int)).toNat [D.int (-1)]).flatten = (List.replicate ms.length (-1 : Int)).map D.int := by
      rw [Int.toNat_natCast]
      generalize ms.length = k
      induction k with
      | zero => rfl
      | succ k ih => rw [List.replicate_succ, List.flatten_cons, ih, List.replicate_succ]; rfl
    refine ⟨[.int (-1)], _, rfl, rfl, by omega, by omega, by rw [Int.toNat_natCast, sz]; simp; omega, fun a1 ha1 => ?_⟩
    rw [rep1]
    have h1p : a1 ≠ p := fun z => by rw [z, o1] at ha1; cases ha1
    have h1u : a1 ≠ u := fun z => by rw [z, u1] at ha1; cases ha1
    have h1M : M a1 = none := by
      cases e : M a1 with
      | none => rfl
      | some c =>
        have := B1 ms.length a1 c h1p e
        rw [ha1] at this
        cases this
    refine ⟨_, by rw [mup_ne (Ne.symm h1p)]; exact o1 _, by simp, ?_⟩
    generalize hL : (List.replicate ms.length (-1 : Int)) = L
    rw [putA]
    generalize hM2 : mup (mup (M1 ms.length) a1 (.lst (L.map D.int))) p (.ins C_Matching [("ups", .ref u), ("above", .ref a1)]) = M2
    have o2 : M2 p = some (.ins C_Matching [("ups", .ref u), ("above", .ref a1)]) := by rw [← hM2]; exact mup_same
    have u2 : M2 u = some (.lst ((upsOf ms).map upD)) := by
      rw [← hM2, mup_ne (Ne.symm hpu), mup_ne (Ne.symm h1u)]
      exact u1 _
    have a2 : M2 a1 = some (.lst (L.map D.int)) := by
      rw [← hM2, mup_ne h1p]
      exact mup_same
    have B2 : But p M M2 := fun x c hx hc => by
      rw [← hM2, mup_ne hx, mup_ne fun z => by rw [z, h1M] at hc; cases hc]
      exact B1 _ x c hx hc
    refine ⟨[.int (-1)], _, rfl, rfl, by omega, by omega, by rw [Int.toNat_natCast, sz]; simp; omega, fun b1 hb1 => ?_⟩
    rw [rep1, hL]
    have h2p : b1 ≠ p := fun z => by rw [z, o2] at hb1; cases hb1
    have h2u : b1 ≠ u := fun z => by rw [z, u2] at hb1; cases hb1
    have h2a : b1 ≠ a1 := fun z => by rw [z, a2] at hb1; cases hb1
    have h2M : M b1 = none := by
      cases e : M b1 with
      | none => rfl
      | some c =>
        have := B2 b1 c h2p e
        rw [hb1] at this
        cases this
    refine ⟨_, by rw [mup_ne (Ne.symm h2p)]; exact o2, by simp, ⟨by omega, by omega⟩, ?_⟩
    rw [putB, e0]
    have hlen := upsOf_len ms
    have mi : ∀ j, j ≤ ms.length → MI (upsOf ms) j (matchF (upsOf ms) j) := fun j hj => match_mi (upsOf_hu ms) (upsOf_hul ms) j (by omega)
    refine forRng (fun j Γ2 M3 => ∃ c3 c4, Γ2 = [some (.ref p), some d, some (.int (ms.length : Nat)), c3, c4] ∧ MatM C_Matching M3 p u a1 b1 (upsOf ms) (matchF (upsOf ms) j) ∧ But p M M3) ⟨_, _, rfl, ⟨mup_same, by rw [mup_ne (Ne.symm hpu), mup_ne (Ne.symm h2u)]; exact u2, ?_, ?_, Ne.symm h1u, Ne.symm h2u, Ne.symm h2a⟩, fun x c hx hc => ?_⟩ (fun _ => trivial) ?_ ?_
    · rw [mup_ne h1p, mup_ne (Ne.symm h2a), a2, ← hL]
      show _ = some (Cell.lst ((List.replicate (upsOf ms).length (-1 : Int)).map D.int))
      rw [hlen]
    · rw [mup_ne h2p, mup_same, ← hL]
      show _ = some (Cell.lst ((List.replicate (upsOf ms).length (-1 : Int)).map D.int))
      rw [hlen]
    · rw [mup_ne hx, mup_ne fun z => by rw [z, h2M] at hc; cases hc]
      exact B2 x c hx hc
    · rintro j _ M3 hj ⟨c3, c4, rfl, hm, B3⟩
      sizeOf_list_dec
      have mj := mi j (by omega)
      refine ⟨⟨_, insR hm.ho, rfl⟩, p, u, a1, b1, j, upsOf ms, _, rfl, hm, by omega, upsOf_hu ms, upsOf_hul ms, mj.con, by omega, mj.un j (Nat.le_refl _), ?_⟩
      have e : matchF (upsOf ms) (j + 1) = widenF (upsOf ms) (matchF (upsOf ms) j) j := by
        unfold matchF
        rw [List.range_succ, List.foldl_append]
        rfl
      refine ⟨by rw [e]; exact hm.put, fun x c hx hc => ?_⟩
      have n1 : x ≠ a1 := fun z => by rw [z, h1M] at hc; cases hc
      have n2 : x ≠ b1 := fun z => by rw [z, h2M] at hc; cases hc
      rw [mup_ne n2, mup_ne n1]
      exact B3 x c hx hc
    · rintro _ M3 ⟨c3, c4, rfl, hm, B3⟩
      exact Fin.same (h u a1 b1 M3 hm B3)
theorem sc_Matching_rows : FnScope ["self", "found", "at", "low", "row"] ["self"] (defScope s_Matching_rows) := ⟨rfl, rfl, rfl, by decide +kernel, rfl, by decide +kernel, by decide +kernel⟩
def sp_Matching_rows (C : Addr) : DSp := fun ds M Q _ => ∃ (p u a b : Addr) (ups : List (List Nat)) (m : MS), ds = [.ref p] ∧ MatM C M p u a b ups m ∧ ups.length ≤ 5000 ∧ Con ups m ∧ (∃ rk, Rank ups rk) ∧ Q (.lst ((rowsF m).map upD)) M
theorem st_Matching_rows {a0 : D} : dstart ["self", "found", "at", "low", "row"] [a0] = [some a0, none, none, none, none] := rfl
theorem ok_Matching_rows (G : Glb P w K mg base C_BadStretch C_TooLong C_Matching) (Dd : MethAt K C_Matching "rows" "Matching.rows" s_Matching_rows ["self"]) : Mfk P w K mg base T C_Matching "rows" 1 ["self"] (sp_Matching_rows C_Matching) := by
  refine MethAt.ok Dd sc_Matching_rows (fun ds M Q E h => by
    obtain ⟨_, _, _, _, _, _, rfl, _⟩ := h
    rfl) fun f cdv A outer s H E hr => ?_
  have tk : Takes (cxOf (L2.CX P w) P w K mg base ["self", "found", "at", "low", "row"] "Matching.rows" (defScope s_Matching_rows) f cdv A outer s H E) (wOf T E).w := takes_of rfl rfl rfl rfl
  refine ⟨_, (dss_cons (ds_set 1 sc_Matching_rows.nd (de_lstO da_nil))
      (dss_cons (ds_for (passes_of rfl) rfl (di_enum rfl G.n_enumerate (da_cons (de_fld G.cl_Matching G.na_Matching_below (dv 0)) da_nil)) (dg_tup (n := 2) rfl (dgs_cons (dg_name (i := 2) sc_Matching_rows.nd rfl (by first | exact Or.inl rfl | exact Or.inr rfl) (fun _ e => nomatch e)) (dgs_cons (dg_name (i := 3) sc_Matching_rows.nd rfl (by first | exact Or.inl rfl | exact Or.inr rfl) (fun _ e => nomatch e)) dgs_nil))) (dss_one (ds_if (dt_cmp op_lt real_lt (dv 3) de_int (nomark _)) (dss_cons (ds_set 4 sc_Matching_rows.nd (de_lstO (da_cons (dv 2) da_nil)))
      (dss_cons (ds_while (passes_of rfl) (dt_cmp op_ge real_ge (de_ix (de_fld G.cl_Matching G.na_Matching_above (dv 0)) (de_ix (dv 4) (de_neg de_int))) de_int (nomark _)) (dss_one (ds_expr (de_append (dv 4) (de_ix (de_fld G.cl_Matching G.na_Matching_above (dv 0)) (de_ix (dv 4) (de_neg de_int)))))))
      (dss_gh (dss_one (ds_expr (de_append (dv 1) (dv 4))))))) dss_nil)))
      (dss_one (ds_ret (dv 1))))), fun ds M Qd Ed h => ?_⟩
  obtain ⟨p, u, a, b, ups, m, rfl, hm, hn, hC, ⟨rk, hR⟩, h⟩ := h
  have sz : sizeLine = 16777216 := szl
  (first | (simp only [st_Matching_rows]; try sizeOf_list_dec) | sizeOf_list_dec)
  refine fun q hq => ?_
  let MQ : List (List Nat) → Mp := fun fs => mup M q (.lst (fs.map upD))
  have XQ : ∀ fs, Ext M (MQ fs) := fun fs => (Ext.refl M).up hq
  have mQ : ∀ fs, MQ fs q = some (.lst (fs.map upD)) := fun fs => mup_same
  have n1 := hC.l1
  have n2 := hC.l2
  refine ⟨_, insR (hm.ext (XQ [])).ho, .ref b, rfl, m.2.map D.int, sqD_ref (hm.ext (XQ [])).hb, by rw [List.length_map, sz]; omega, ?_⟩
  rw [enD_eq]
  let lowB : Nat → Bool := fun a => decide (m.2.getD a (-1) < 0)
  let I : Nat → DG → Mp → Prop := fun j Γ2 M2 => ∃ c2 c3 c4, Γ2 = [some (.ref p), some (.ref q), c2, c3, c4] ∧ M2 = MQ (((List.range j).filter lowB).map (rowF m.1 m.1.length))
  refine forBy I ⟨_, _, _, rfl, rfl⟩ (fun j Γ2 M2 hI => by obtain ⟨_, _, _, _, rfl⟩ := hI; exact sqD_ref (hm.ext (XQ _)).hb) ?_ ?_
  · rintro j pr _ _ hpr ⟨c2, c3, c4, rfl, rfl⟩
    rw [List.getElem?_zipIdx, Option.map_eq_some_iff] at hpr
    obtain ⟨v, hv, rfl⟩ := hpr
    have hj : j < ups.length := by rw [← n2]; exact (List.getElem?_eq_some_iff.mp hv).1
    have ev : m.2.getD j (-1) = v := by rw [List.getD_eq_getElem?_getD, hv]; rfl
    have e0 : (0 + j : Nat) = j := by omega
    simp only [e0, st_Matching_rows, dSeq, dNext, dRet, dRetN, dIfS, dSet, dPar, dAsg, dDrop, dC, dOp, dTest, dChain, dChain3, dChain4, dAnd, dOr, dNot, dAndV, dOrV, dNotV, dCons, dNil, dTup, dLst, dLstO, dCB, dCall, dIf, dUn, dAppend, dPop, dInsert, dAug, dWhile, dDelL, dCont, dBreak, dFld, dPut, dMeth, dMake, dDnew, dDin, dDget, dDput, dLck, dLckS, dIKeys, dDc, insF, dcF1, dAct, dCallK, dCBK, dHof, spLm, startL, capD, dTryN, exN, offD, dXf, Option.join_some, List.map_nil, List.nil_append, List.cons_append, List.replicate, dVar, rdI_eq, rdIc_eq, rdIx, rdInt2_eq, lenL, isN_non, isN_tup, isN_int, dFrz, dAugS, dIsi, dIsi2, dListRg, dSetSp, dSetIn, dLc2O, dRev, lenT, dIZip, zpL, zpD_tup, zip_map, isaTL, isaTT, isaLL, isaLT, isaIB, isaII, isaIS, isaIL, isaIT, neSpU, eqSpU, neMkU, eqMkU, eqB, neB, isN_bl, isN_lst, isN_ref, isaBB, isaBL, isaBT, isaBI, isaBS, tyI, tyB, tyN, tyTu, tyLs, Cell.lst.injEq, implies_true, reduceCtorEq, true_implies, false_implies, if_true, if_false, Int.reduceToNat, Int.reducePow, Int.reduceNeg, exX, LB, dYes, dwipe, addL, sz0, sz1, sz2, sz3, Int.zero_add, Int.mul_one, dLcN_eq, dLcNO_eq, dIRng1, dIRng2, dIEn, dISeq, dFor_eq, List.map_cons, List.map_nil, mulI, rdAbs_eq, eqI, neI, xN4_0, xN4_1, xN4_2, xN4_3, List.length_map, ixS, mup_same, mup_mup, dRaise, gdName, gdTup, gdUnl, gdNil_eq, gdCons_eq, gdSub, dPart, dNoPart, dSl, tpD, fd0, List.getElem?_cons_zero, List.getElem?_cons_succ, List.set_cons_zero, List.set_cons_succ, Option.some.injEq, exists_eq_left', exists_eq_left, exists_eq_right, exists_eq_right', D.int.injEq, D.bl.injEq, D.tup.injEq, D.lst.injEq, D.ref.injEq, ixd_tup, ixd_lst, spD, mkD, decide_eq_true_eq, decide_eq_false_iff_not, Nat.reduceAdd, Int.reduceNeg, at0, at1, at2, at3, List.cons.injEq, and_true, true_and, List.append_nil, exists_and_left, exists_and_right, List.length_cons, List.length_nil, addI, res_int, deq_int, sh_int, iffB, parEq, Bool.not_eq_true', Bool.not_eq_false', Bool.not_eq_true ]
    have fr : (List.range (j + 1)).filter lowB = (List.range j).filter lowB ++ (if lowB j = true then [j] else []) := by
      rw [List.range_succ, List.filter_append]
      cases h : lowB j <;> simp [h]
    refine ⟨fun hv0 => ?_, fun hv0 => ⟨_, _, _, rfl, ?_⟩⟩
    · have hl : lowB j = true := decide_eq_true (by rw [ev]; exact hv0)
      rw [if_pos hl] at fr
      refine fun w hw => ?_
      generalize hfs : ((List.range j).filter lowB).map (rowF m.1 m.1.length) = fs at hw ⊢
      have hwq : w ≠ q := fun z => by rw [z, mQ] at hw; cases hw
      have Xw : ∀ c, Ext M (mup (MQ fs) w c) := fun c => (XQ fs).up (by
        cases e : M w with
        | none => rfl
        | some y => have := XQ fs w y e; rw [hw] at this; cases this)
      let Wv : Nat → DG → Mp → Prop := fun f Γ2 M2 => ∃ (pre : List Nat) (x : Nat), Γ2 = [some (.ref p), some (.ref q), some (.int (j : Nat)), some (.int v), some (.ref w)] ∧ M2 = mup (MQ fs) w (.lst ((pre ++ [x]).map natD)) ∧ pre ++ rowF m.1 f x = rowF m.1 m.1.length j ∧ ups.length ≤ f + rk x ∧ x < ups.length
      refine ⟨Wv, ⟨m.1.length, [], j, rfl, rfl, rfl, by omega, hj⟩, ?_⟩
      rintro f _ _ ⟨pre, x, rfl, rfl, hF, hf, hx⟩
      have hm2 := hm.ext (Xw (.lst ((pre ++ [x]).map natD)))
      have eL : atI ((pre ++ [x]).map natD) (-1) = some (natD x) := by
        rw [atLast (f := natD) (xs := pre ++ [x]) (by simp)]
        simp
      have hlen := rowF_len m.1 m.1.length j
      rw [← hF, List.length_append] at hlen
      have eA : ixD (mup (MQ fs) w (.lst ((pre ++ [x]).map natD))) (.ref a) (natD x) = some (.int (m.1.getD x (-1))) := (ixd_ref hm2.ha).trans (atI_int (by omega))
      have hrk := hR.lt x hx
      have hfs1 : f = (f - 1) + 1 := by omega
      rw [hfs1] at hF
      rw [rowF_succ] at hF
      (first | (simp only [st_Matching_rows]; try sizeOf_list_dec) | sizeOf_list_dec)
      refine ⟨_, insR hm2.ho, _, rfl, _, eL, _, eA, ?_⟩
      (first | (simp only [st_Matching_rows]; try sizeOf_list_dec) | sizeOf_list_dec)
      refine ⟨fun h0 => ?_, fun h0 => ?_⟩
      · rw [if_pos h0] at hF
        obtain ⟨t, et, ht, _, hu⟩ := hC.edge h0
        have hrt := hR.up x t hu
        rw [et, Int.toNat_natCast] at hF
        refine ⟨_, insR hm2.ho, _, rfl, _, eL, _, eA, by rw [sz]; simp; omega, f - 1, by omega, pre ++ [x], t, rfl, ?_, by rw [List.append_assoc]; exact hF, by omega, ht⟩
        rw [et, List.map_append (l₁ := pre ++ [x])]
        rfl
      · rw [if_neg (by omega)] at hF
        refine GhS.frz (i := 4) rfl mup_same ?_
        rw [mdel_mup hw]
        sizeOf_list_dec
        have fl : fs.length ≤ j := by
          rw [← hfs, List.length_map]
          have := List.length_filter_le lowB (List.range j)
          rwa [List.length_range] at this
        have e1 : (((List.range j).filter lowB ++ [j]).map (rowF m.1 m.1.length)).map upD = fs.map upD ++ [upD (pre ++ [x])] := by
          rw [List.map_append, hfs, List.map_append, hF]
          rfl
        refine ⟨⟨_, sqX_ref (mQ fs)⟩, _, mQ fs, by rw [sz, List.length_map]; omega, _, _, _, rfl, ?_⟩
        rw [fr]
        show mup (mup M q _) q _ = mup M q _
        rw [mup_mup, e1]
        rfl
    · have hl : lowB j = false := decide_eq_false (by rw [ev]; exact hv0)
      rw [fr, if_neg (by rw [hl]; decide), List.append_nil]
  · rintro _ _ ⟨c2, c3, c4, rfl, rfl⟩
    sizeOf_list_dec
    refine Fin.frzN hq ?_
    have e : ((List.range (m.2.zipIdx).length).filter lowB).map (rowF m.1 m.1.length) = rowsF m := by
      rw [List.length_zipIdx]
      rfl
    rw [e]
    exact h
theorem sc_Matching_unlike : FnScope ["self", "many", "lower", "came", "known", "at"] ["self"] (defScope s_Matching_unlike) := ⟨rfl, rfl, rfl, by decide +kernel, rfl, by decide +kernel, by decide +kernel⟩
def sp_Matching_unlike (C : Addr) : DSp := fun ds M Q _ => ∃ (p u a b : Addr) (ups : List (List Nat)) (m : MS), ds = [.ref p] ∧ MatM C M p u a b ups m ∧ ups.length ≤ 5000 ∧ Con ups m ∧ (∀ l, ∀ t ∈ ups.getD l [], t < ups.length) ∧ Q (.lst ((unlikeF ups m).map natD)) M
theorem st_Matching_unlike {a0 : D} : dstart ["self", "many", "lower", "came", "known", "at"] [a0] = [some a0, none, none, none, none, none] := rfl
theorem ok_Matching_unlike (G : Glb P w K mg base C_BadStretch C_TooLong C_Matching) (h_Matching_reached : Mfk P w K mg base T C_Matching "reached" 1 ["self", "begin"] (sp_Matching_reached C_Matching)) (Dd : MethAt K C_Matching "unlike" "Matching.unlike" s_Matching_unlike ["self"]) : Mfk P w K mg base T C_Matching "unlike" 2 ["self"] (sp_Matching_unlike C_Matching) := by
  refine MethAt.ok Dd sc_Matching_unlike (fun ds M Q E h => by
    obtain ⟨_, _, _, _, _, _, rfl, _⟩ := h
    rfl) fun f cdv A outer s H E hr => ?_
  have tk : Takes (cxOf (L2.CX P w) P w K mg base ["self", "many", "lower", "came", "known", "at"] "Matching.unlike" (defScope s_Matching_unlike) f cdv A outer s H E) (wOf T E).w := takes_of rfl rfl rfl rfl
  refine ⟨_, (dss_cons (ds_set 1 sc_Matching_unlike.nd (de_callB call_len real_len rfl G.n_len rfl (da_cons (de_fld G.cl_Matching G.na_Matching_above (dv 0)) da_nil)))
      (dss_cons (ds_asg (de_meth h_Matching_reached G.cl_Matching (hr.mono (by decide)) tk (dv 0) (da_cons (de_lcN (LcOk.mk (own := [("at", 5)]) rfl sc_Matching_unlike.nd (di_rng1 rfl G.n_range (da_cons (dv 1) da_nil)) (blkOk_by (N := ["self", "many", "lower", "came", "known", "at"]) (sc := defScope s_Matching_unlike) (by decide +kernel)) (fun _ _ _ _ _ => (dg_name (i := 5) sc_Matching_unlike.nd rfl (by first | exact Or.inl rfl | exact Or.inr rfl) (fun _ e => by cases e; decide))) (fun _ _ _ _ _ => (dts_one (dt_cmp op_lt real_lt (de_ix (de_fld G.cl_Matching G.na_Matching_above (dv 0)) (dv 5)) de_int (nomark _)))) (fun _ _ _ _ _ => (dv 5)))) da_nil)) (dg_tup (n := 2) rfl (dgs_cons (dg_name (i := 2) sc_Matching_unlike.nd rfl (by first | exact Or.inl rfl | exact Or.inr rfl) (fun _ e => nomatch e)) (dgs_cons (dg_name (i := 3) sc_Matching_unlike.nd rfl (by first | exact Or.inl rfl | exact Or.inr rfl) (fun _ e => nomatch e)) dgs_nil))))
      (dss_cons (ds_set 4 sc_Matching_unlike.nd (de_dc (own := [("at", 5)]) rfl sc_Matching_unlike.nd (di_seq (dv 2)) (blkOk_by (N := ["self", "many", "lower", "came", "known", "at"]) (sc := defScope s_Matching_unlike) (by decide +kernel)) (fun _ _ _ _ _ => (dg_name (i := 5) sc_Matching_unlike.nd rfl (by first | exact Or.inl rfl | exact Or.inr rfl) (fun _ e => by cases e; decide))) (fun _ _ _ _ _ => dts_nil) (fun _ _ _ _ _ => (dv 5)) (fun _ _ _ _ _ => de_bl)))
      (dss_one (ds_ret (de_lcN (LcOk.mk (own := [("at", 5)]) rfl sc_Matching_unlike.nd (di_rng1 rfl G.n_range (da_cons (dv 1) da_nil)) (blkOk_by (N := ["self", "many", "lower", "came", "known", "at"]) (sc := defScope s_Matching_unlike) (by decide +kernel)) (fun _ _ _ _ _ => (dg_name (i := 5) sc_Matching_unlike.nd rfl (by first | exact Or.inl rfl | exact Or.inr rfl) (fun _ e => by cases e; decide))) (fun _ _ _ _ _ => (dts_one (dw_pt (dw_and (dt_din (Room.u1 hr) (dv 5) (dv 4)) (dw_and1 (dt_dnotin (Room.u1 hr) (dv 5) (dv 3))))))) (fun _ _ _ _ _ => (dv 5))))))))), fun ds M Qd Ed h => ?_⟩
  obtain ⟨p, u, a, b, ups, m, rfl, hm, hn, hC, hu, h⟩ := h
  have sz : sizeLine = 16777216 := szl
  (first | (simp only [st_Matching_unlike]; try sizeOf_list_dec) | sizeOf_list_dec)
  refine ⟨_, insR hm.ho, .ref a, rfl, ?_⟩
  rw [lenR hm.ha]
  simp only [List.length_map, st_Matching_unlike, dSeq, dNext, dRet, dRetN, dIfS, dSet, dPar, dAsg, dDrop, dC, dOp, dTest, dChain, dChain3, dChain4, dAnd, dOr, dNot, dAndV, dOrV, dNotV, dCons, dNil, dTup, dLst, dLstO, dCB, dCall, dIf, dUn, dAppend, dPop, dInsert, dAug, dWhile, dDelL, dCont, dBreak, dFld, dPut, dMeth, dMake, dDnew, dDin, dDget, dDput, dLck, dLckS, dIKeys, dDc, insF, dcF1, dAct, dCallK, dCBK, dHof, spLm, startL, capD, dTryN, exN, offD, dXf, Option.join_some, List.map_nil, List.nil_append, List.cons_append, List.replicate, dVar, rdI_eq, rdIc_eq, rdIx, rdInt2_eq, lenL, isN_non, isN_tup, isN_int, dFrz, dAugS, dIsi, dIsi2, dListRg, dSetSp, dSetIn, dLc2O, dRev, lenT, dIZip, zpL, zpD_tup, zip_map, isaTL, isaTT, isaLL, isaLT, isaIB, isaII, isaIS, isaIL, isaIT, neSpU, eqSpU, neMkU, eqMkU, eqB, neB, isN_bl, isN_lst, isN_ref, isaBB, isaBL, isaBT, isaBI, isaBS, tyI, tyB, tyN, tyTu, tyLs, Cell.lst.injEq, implies_true, reduceCtorEq, true_implies, false_implies, if_true, if_false, Int.reduceToNat, Int.reducePow, Int.reduceNeg, exX, LB, dYes, dwipe, addL, sz0, sz1, sz2, sz3, Int.zero_add, Int.mul_one, dLcN_eq, dLcNO_eq, dIRng1, dIRng2, dIEn, dISeq, dFor_eq, List.map_cons, List.map_nil, mulI, rdAbs_eq, eqI, neI, xN4_0, xN4_1, xN4_2, xN4_3, List.length_map, ixS, mup_same, mup_mup, dRaise, gdName, gdTup, gdUnl, gdNil_eq, gdCons_eq, gdSub, dPart, dNoPart, dSl, tpD, fd0, List.getElem?_cons_zero, List.getElem?_cons_succ, List.set_cons_zero, List.set_cons_succ, Option.some.injEq, exists_eq_left', exists_eq_left, exists_eq_right, exists_eq_right', D.int.injEq, D.bl.injEq, D.tup.injEq, D.lst.injEq, D.ref.injEq, ixd_tup, ixd_lst, spD, mkD, decide_eq_true_eq, decide_eq_false_iff_not, Nat.reduceAdd, Int.reduceNeg, at0, at1, at2, at3, List.cons.injEq, and_true, true_and, List.append_nil, exists_and_left, exists_and_right, List.length_cons, List.length_nil, addI, res_int, deq_int, sh_int, iffB, parEq, Bool.not_eq_true', Bool.not_eq_false', Bool.not_eq_true ]
  have n1 := hC.l1
  have n2 := hC.l2
  have e0 : rngD 0 1 ((m.1.length : Int)).toNat = rngD 0 1 m.1.length := by rw [Int.toNat_natCast]
  refine ⟨⟨_, insR hm.ho, rfl⟩, ⟨by omega, by omega⟩, ?_⟩
  rw [e0]
  refine LI_F (xs := List.range m.1.length) (injRng (by decide)) (fun k => if decide (m.1.getD k (-1) < 0) = true then some (natD k) else none) (fun _ _ => trivial) (fun k hk M' hM => ?_) ?_
  · have hk := List.mem_range.mp hk
    have hm2 := hm.ext hM
    (first | (simp only [st_Matching_unlike]; try sizeOf_list_dec) | sizeOf_list_dec)
    refine ⟨_, insR hm2.ho, _, rfl, _, (ixd_ref hm2.ha).trans (atI_int hk), ?_⟩
    (first | (simp only [st_Matching_unlike]; try sizeOf_list_dec) | sizeOf_list_dec)
    by_cases z : m.1.getD k (-1) < 0
    · exact ⟨fun _ => by rw [if_pos z]; rfl, fun y => absurd z y⟩
    · exact ⟨fun y => absurd y z, fun _ => by rw [if_neg z]⟩
  rw [fm_ite]
  show sp_Matching_reached C_Matching [.ref p, .lst ((freeLow m).map natD)] _ _ _
  have hfl : ∀ l ∈ freeLow m, l < ups.length := fun l hl => by
    unfold freeLow at hl
    have := List.mem_range.mp (List.mem_filter.mp hl).1
    omega
  have hfn : (freeLow m).length ≤ 5000 := by
    unfold freeLow
    have := List.length_filter_le (fun a => decide (m.1.getD a (-1) < 0)) (List.range m.1.length)
    rw [List.length_range] at this
    omega
  refine ⟨p, u, a, b, _, freeLow m, ups, m, rfl, hm, rfl, by omega, by omega, hu, hfl, hC.bnds, fun l c hl hc hlc => ?_⟩
  obtain ⟨R, R2, R3⟩ := reached_ri (ups := ups) (below := m.2) (begin_ := freeLow m) hu
  unfold unlikeF at h
  dsimp only at h
  generalize reached ups m.2 (freeLow m) = r at R R2 R3 h
  have cnt := R.count
  have mL : mup (mup M l (.lst (r.1.map natD))) c (.dic (r.2.map cameD)) l = some (.lst (r.1.map natD)) := by rw [mup_ne hlc]; exact mup_same
  have mC : mup (mup M l (.lst (r.1.map natD))) c (.dic (r.2.map cameD)) c = some (.dic (r.2.map cameD)) := mup_same
  have X : Ext M (mup (mup M l (.lst (r.1.map natD))) c (.dic (r.2.map cameD))) := ((Ext.refl M).up hl).up hc
  generalize mup (mup M l (.lst (r.1.map natD))) c (.dic (r.2.map cameD)) = M2 at mL mC X
  sizeOf_list_dec
  refine ⟨_, itSq (sqD_ref mL), fun M' hM => itSq (sqD_ref (hM _ _ mL)), knownF, fun d hd M' hM => ?_, by rw [szl, List.length_map]; omega, fun w hw => ?_⟩
  · obtain ⟨k, hk, rfl⟩ := List.mem_map.mp hd
    exact ⟨_, rfl, rfl⟩
  have hwM : M w = none := by
    cases e : M w with
    | none => rfl
    | some y => have := X w y e; rw [hw] at this; cases this
  have X3 := X.up hwM (c := .dic (dcF knownF (r.1.map natD)))
  have wc : w ≠ c := fun z => by rw [z, mC] at hw; cases hw
  have mC3 : mup M2 w (.dic (dcF knownF (r.1.map natD))) c = some (.dic (r.2.map cameD)) := by rw [mup_ne (Ne.symm wc)]; exact mC
  have mW3 : mup M2 w (.dic (dcF knownF (r.1.map natD))) w = some (.dic (dcF knownF (r.1.map natD))) := mup_same
  generalize mup M2 w (.dic (dcF knownF (r.1.map natD))) = M3 at mC3 mW3 X3
  refine ⟨⟨by omega, by omega⟩, ?_⟩
  rw [e0]
  refine LI_F (xs := List.range m.1.length) (injRng (by decide)) (fun k => if (decide (k ∈ r.1) && !isIn r.2 k) = true then some (natD k) else none) (fun _ _ => trivial) (fun k hk M' hM => ?_) ?_
  · sizeOf_list_dec
    refine ⟨_, dcR (hM _ _ mW3), Sum.inl (k : Int), rfl, ?_⟩
    rw [known_in]
    refine ⟨fun z => ⟨_, dcR (hM _ _ mC3), Sum.inl (k : Int), rfl, ?_⟩, fun z => by rw [z]; rfl⟩
    rw [came_in, z]
    exact ⟨fun y => by rw [y]; rfl, fun y => by rw [y]; rfl⟩
  rw [fm_ite]
  exact Fin.lessE X3 h
theorem sc_chained : FnScope ["marks", "found", "rows", "row", "at"] ["marks"] (defScope s_chained) := ⟨rfl, rfl, rfl, by decide +kernel, rfl, by decide +kernel, by decide +kernel⟩
def sp_chained (C : Addr) : DSp := fun ds M Q _ => ∃ (d : D) (ms : List Mk), ds = [d] ∧ sqD M d = some (ms.map mkD) ∧ ms.length ≤ 5000 ∧ ms.Nodup ∧ Q (.tup [.lst ((rowsOf ms).map fun r => .lst (r.map mkD)), .lst ((unlikeOf ms).map mkD)]) M
theorem st_chained {a0 : D} : dstart ["marks", "found", "rows", "row", "at"] [a0] = [some a0, none, none, none, none] := rfl
theorem ok_chained (G : Glb P w K mg base C_BadStretch C_TooLong C_Matching) (h_Matching_init : Mfk P w K mg base T C_Matching "__init__" 3 ["self", "marks"] (sp_Matching_init C_Matching)) (h_Matching_rows : Mfk P w K mg base T C_Matching "rows" 1 ["self"] (sp_Matching_rows C_Matching)) (h_Matching_unlike : Mfk P w K mg base T C_Matching "unlike" 2 ["self"] (sp_Matching_unlike C_Matching)) (Dd : DefAt K mg "chained" s_chained ["marks"]) : Dfk P w K mg base T "chained" 5 ["marks"] (sp_chained C_Matching) := by
  refine DefAt.ok Dd sc_chained (fun ds M Q E h => by
    obtain ⟨_, _, rfl, _⟩ := h
    rfl) fun f cdv A outer s H E hr => ?_
  have tk : Takes (cxOf (L2.CX P w) P w K mg base ["marks", "found", "rows", "row", "at"] "chained" (defScope s_chained) f cdv A outer s H E) (wOf T E).w := takes_of rfl rfl rfl rfl
  refine ⟨_, (dss_cons (ds_set 1 sc_chained.nd (de_make (mkk_of h_Matching_init G.mk_Matching) (hr.mono (by decide)) tk (da_cons (dv 0) da_nil)))
      (dss_cons (ds_setLcN 2 (LcOk.mk (own := [("row", 3)]) rfl sc_chained.nd (di_seq (de_meth0 h_Matching_rows G.cl_Matching (hr.mono (by decide)) tk (dv 1))) (blkOk_by (N := ["marks", "found", "rows", "row", "at"]) (sc := defScope s_chained) (by decide +kernel)) (fun _ _ _ _ _ => (dg_name (i := 3) sc_chained.nd rfl (by first | exact Or.inl rfl | exact Or.inr rfl) (fun _ e => by cases e; decide))) (fun _ _ _ _ _ => dts_nil) (fun _ _ _ _ _ => (de_lcN (LcOk.mk (own := [("at", 4)]) rfl sc_chained.nd (di_seq (dv 3)) (blkOk_rel (N := ["marks", "found", "rows", "row", "at"]) (by decide +kernel)) (fun _ _ _ _ _ => (dg_name (i := 4) sc_chained.nd rfl (by first | exact Or.inl rfl | exact Or.inr rfl) (fun _ e => by cases e; decide))) (fun _ _ _ _ _ => dts_nil) (fun _ _ _ _ _ => (de_ix (dv 0) (dv 4))))))) (sw_true rfl rfl rfl rfl))
      (dss_one (ds_ret (de_tup (da_cons (dv 2) (da_cons (de_lcN (LcOk.mk (own := [("at", 4)]) rfl sc_chained.nd (di_seq (de_meth0 h_Matching_unlike G.cl_Matching (hr.mono (by decide)) tk (dv 1))) (blkOk_by (N := ["marks", "found", "rows", "row", "at"]) (sc := defScope s_chained) (by decide +kernel)) (fun _ _ _ _ _ => (dg_name (i := 4) sc_chained.nd rfl (by first | exact Or.inl rfl | exact Or.inr rfl) (fun _ e => by cases e; decide))) (fun _ _ _ _ _ => dts_nil) (fun _ _ _ _ _ => (de_ix (dv 0) (dv 4))))) da_nil))))))), fun ds M Qd Ed h => ?_⟩
  obtain ⟨d, ms, rfl, hd, hn, nd, h⟩ := h
  have sz : sizeLine = 16777216 := szl
  (first | (simp only [st_chained]; try sizeOf_list_dec) | sizeOf_list_dec)
  refine fun p hp => ⟨p, d, ms, rfl, mup_same, sq_ext ((Ext.refl M).up hp) hd, hn, fun u a b M2 hm hB => ⟨rfl, ⟨_, insR hm.ho, rfl⟩, ?_⟩⟩
  have X2 : Ext M M2 := fun x c hc => by
    have hx : x ≠ p := fun z => by rw [z, hp] at hc; cases hc
    exact hB x c hx (by rw [mup_ne hx]; exact hc)
  have MI := matchOf_mi ms
  have hl := upsOf_len ms
  have hd2 := sq_ext X2 hd
  have atm : ∀ M', Ext M2 M' → ∀ k : Nat, k < ms.length → ixD M' d (natD k) = some (mkD (ms.getD k noMk)) := fun M' hM k hk => by
    show ixD M' d (.int (k : Int)) = _
    rw [ixSq (sq_ext hM hd2)]
    refine atMn ?_
    rw [List.getD_eq_getElem?_getD, List.getElem?_eq_getElem hk]
    rfl
  refine ⟨p, u, a, b, upsOf ms, matchOf ms, rfl, hm, by omega, MI.con, upsOf_rank nd, ?_⟩
  have rb : ∀ r ∈ rowsF (matchOf ms), ∀ x ∈ r, x < ms.length := fun r hr x hx => by
    obtain ⟨s, hs, rfl⟩ := List.mem_map.mp hr
    have hsl : s < (upsOf ms).length := by
      have := List.mem_range.mp (List.mem_filter.mp hs).1
      rw [MI.con.l2] at this
      exact this
    have := rowF_mem MI.con _ s hsl x hx
    omega
  have injUp : ∀ a b : List Nat, upD a = upD b → a = b := fun a b h => by
    have : a.map natD = b.map natD := by simpa [upD] using h
    exact List.map_inj_right (f := natD) injNat |>.mp this
  refine ⟨_, rfl, LI_F (F := upD) (xs := rowsF (matchOf ms)) injUp (fun r => some (.lst ((r.map fun a => ms.getD a noMk).map mkD))) (fun _ _ => rfl) (fun r hr M' hM => ?_) ?_⟩
  · (first | (simp only [st_chained]; try sizeOf_list_dec) | sizeOf_list_dec)
    refine ⟨_, rfl, LI_F (F := natD) (xs := r) injNat (fun k => some (mkD (ms.getD k noMk))) (fun _ _ => rfl) (fun k hk M3 hM3 => ?_) ?_⟩
    · (first | (simp only [st_chained]; try sizeOf_list_dec) | sizeOf_list_dec)
      exact atm M3 (Ext.trans hM hM3) k (rb r hr k hk)
    · rw [filterMap_some]
      refine ⟨rfl, ?_⟩
      rw [List.map_map]
      rfl
  rw [filterMap_some]
  have ub : ∀ x ∈ unlikeF (upsOf ms) (matchOf ms), x < ms.length := fun x hx => by
    have := (mem_unlike.mp hx).1
    rw [MI.con.l1, upsOf_len] at this
    exact this
  refine ⟨⟨_, insR hm.ho, rfl⟩, p, u, a, b, upsOf ms, matchOf ms, rfl, hm, by omega, MI.con, upsOf_hu ms, ?_⟩
  refine ⟨_, rfl, LI_F (F := natD) (xs := unlikeF (upsOf ms) (matchOf ms)) injNat (fun k => some (mkD (ms.getD k noMk))) (fun _ _ => rfl) (fun k hk M3 hM3 => ?_) ?_⟩
  · sizeOf_list_dec
    exact atm M3 hM3 k (ub k hk)
  rw [filterMap_some]
  have e1 : (rowsF (matchOf ms)).map (fun r => D.lst ((r.map fun a => ms.getD a noMk).map mkD)) = (rowsOf ms).map fun r => .lst (r.map mkD) := by
    unfold rowsOf
    rw [List.map_map]
    rfl
  have e2 : (unlikeF (upsOf ms) (matchOf ms)).map (fun k => mkD (ms.getD k noMk)) = (unlikeOf ms).map mkD := by
    unfold unlikeOf
    rw [List.map_map]
    rfl
  rw [e1, e2]
  exact Fin.lessE X2 h
theorem sc_is_served : FnScope ["kept", "mark", "one"] ["kept", "mark"] (defScope s_is_served) := ⟨rfl, rfl, rfl, by decide +kernel, rfl, by decide +kernel, by decide +kernel⟩
def sp_is_served : DSp := fun ds M Q _ => ∃ (d : D) (ks : List Sp2) (m : Mk), ds = [d, mkD m] ∧ sqD M d = some (ks.map spD) ∧ ks.length ≤ 10000 ∧ Q (.bl (servedBy ks m)) M
theorem st_is_served {a0 a1 : D} : dstart ["kept", "mark", "one"] [a0, a1] = [some a0, some a1, none] := rfl
theorem ok_is_served (G : Glb P w K mg base C_BadStretch C_TooLong C_Matching) (h_serves : Dfk P w K mg base T "serves" 1 ["kept", "mark"] sp_serves) (Dd : DefAt K mg "is_served" s_is_served ["kept", "mark"]) : Dfk P w K mg base T "is_served" 2 ["kept", "mark"] sp_is_served := by
  refine DefAt.ok Dd sc_is_served (fun ds M Q E h => by
    obtain ⟨_, _, _, rfl, _⟩ := h
    rfl) fun f cdv A outer s H E hr => ?_
  have tk : Takes (cxOf (L2.CX P w) P w K mg base ["kept", "mark", "one"] "is_served" (defScope s_is_served) f cdv A outer s H E) (wOf T E).w := takes_of rfl rfl rfl rfl
  refine ⟨_, (dss_one (ds_ret (de_callB (cr_any rfl) real_any rfl G.n_any rfl (da_cons (de_lcN (LcOk.mk (own := [("one", 2)]) rfl sc_is_served.nd (di_seq (dv 0)) (blkOk_by (N := ["kept", "mark", "one"]) (sc := defScope s_is_served) (by decide +kernel)) (fun _ _ _ _ _ => (dg_name (i := 2) sc_is_served.nd rfl (by first | exact Or.inl rfl | exact Or.inr rfl) (fun _ e => by cases e; decide))) (fun _ _ _ _ _ => dts_nil) (fun _ _ _ _ _ => (de_callA h_serves (hr.mono (by decide)) takes_none5 (da_cons (dv 2) (da_cons (dv 1) da_nil)))))) da_nil)))), fun ds M Qd Ed h => ?_⟩
  obtain ⟨d, ks, m, rfl, hd, hl, h⟩ := h
  (first | (simp only [st_is_served]; try sizeOf_list_dec) | sizeOf_list_dec)
  refine ⟨_, itSq hd, LI_F (F := spD) (xs := ks) injSp (fun s => some (.bl (decide (servs s m)))) (fun M' hM => itSq (sq_ext hM hd)) (fun s hs M' hM => ?_) ?_⟩
  · (first | (simp only [st_is_served]; try sizeOf_list_dec) | sizeOf_list_dec)
    exact ⟨s, m, rfl, rfl, rfl⟩
  · refine anyT (ks.map fun s => decide (servs s m)) (by rw [filterMap_some, List.map_map]; rfl) (Fin.same ?_)
    rw [List.any_map]
    exact h
theorem sc_first_server : FnScope ["kept", "mark", "at", "one"] ["kept", "mark"] (defScope s_first_server) := ⟨rfl, rfl, rfl, by decide +kernel, rfl, by decide +kernel, by decide +kernel⟩
def sp_first_server : DSp := fun ds M Q _ => ∃ (d : D) (ks : List Sp2) (m : Mk), ds = [d, mkD m] ∧ sqD M d = some (ks.map spD) ∧ ks.length ≤ 10000 ∧ servedBy ks m = true ∧ Q (.int ((firstAt ks m : Nat) : Int)) M
theorem st_first_server {a0 a1 : D} : dstart ["kept", "mark", "at", "one"] [a0, a1] = [some a0, some a1, none, none] := rfl
theorem ok_first_server (G : Glb P w K mg base C_BadStretch C_TooLong C_Matching) (h_serves : Dfk P w K mg base T "serves" 1 ["kept", "mark"] sp_serves) (Dd : DefAt K mg "first_server" s_first_server ["kept", "mark"]) : Dfk P w K mg base T "first_server" 2 ["kept", "mark"] sp_first_server := by
  refine DefAt.ok Dd sc_first_server (fun ds M Q E h => by
    obtain ⟨_, _, _, rfl, _⟩ := h
    rfl) fun f cdv A outer s H E hr => ?_
  have tk : Takes (cxOf (L2.CX P w) P w K mg base ["kept", "mark", "at", "one"] "first_server" (defScope s_first_server) f cdv A outer s H E) (wOf T E).w := takes_of rfl rfl rfl rfl
  refine ⟨_, (dss_one (ds_ret (de_ix (de_lcN (LcOk.mk (own := [("at", 2), ("one", 3)]) rfl sc_first_server.nd (di_enum rfl G.n_enumerate (da_cons (dv 0) da_nil)) (blkOk_by (N := ["kept", "mark", "at", "one"]) (sc := defScope s_first_server) (by decide +kernel)) (fun _ _ _ _ _ => (dg_tup (n := 2) rfl (dgs_cons (dg_name (i := 2) sc_first_server.nd rfl (by first | exact Or.inl rfl | exact Or.inr rfl) (fun _ e => by cases e; decide)) (dgs_cons (dg_name (i := 3) sc_first_server.nd rfl (by first | exact Or.inl rfl | exact Or.inr rfl) (fun _ e => by cases e; decide)) dgs_nil)))) (fun _ _ _ _ _ => (dts_one (dt_val (de_callA h_serves (hr.mono (by decide)) takes_none5 (da_cons (dv 3) (da_cons (dv 1) da_nil)))))) (fun _ _ _ _ _ => (dv 2)))) de_int))), fun ds M Qd Ed h => ?_⟩
  obtain ⟨d, ks, m, rfl, hd, hl, hs, h⟩ := h
  (first | (simp only [st_first_server]; try sizeOf_list_dec) | sizeOf_list_dec)
  refine ⟨_, hd, by rw [szl, List.length_map]; omega, ?_⟩
  rw [enD_rng spD noSp]
  refine LI_F (xs := List.range ks.length) (fun a b e => injTup1 (g := fun k => spD (ks.getD k noSp)) a b e) (fun k => if decide (servs (ks.getD k noSp) m) = true then some (natD k) else none) (fun M' hM => sq_ext hM hd) (fun k hk M' hM => ?_) ?_
  · (first | (simp only [st_first_server]; try sizeOf_list_dec) | sizeOf_list_dec)
    refine ⟨ks.getD k noSp, m, rfl, _, rfl, fun z => ⟨rfl, by have z := of_decide_eq_true z; rw [if_pos z]; rfl⟩, fun z => ⟨rfl, by have z := of_decide_eq_false z; rw [if_neg z]⟩⟩
  rw [fm_ite]
  have e : ((List.range ks.length).filter fun k => decide (servs (ks.getD k noSp) m)).head? = some (firstAt ks m) := by
    rw [List.head?_filter]
    obtain ⟨k, hk, sk⟩ := firstAt_ok hs
    refine List.find?_range_eq_some.mpr ⟨by rw [getD_of hk]; simpa using sk, List.mem_range.mpr (List.getElem?_eq_some_iff.mp hk).1, fun j hj => ?_⟩
    have := List.not_of_lt_findIdx hj
    have hjl : j < ks.length := by have := (List.getElem?_eq_some_iff.mp hk).1; omega
    rw [getD_of (List.getElem?_eq_getElem hjl)]
    simpa using this
  cases hL : (List.range ks.length).filter fun k => decide (servs (ks.getD k noSp) m) with
  | nil => rw [hL] at e; cases e
  | cons x r =>
    rw [hL] at e
    cases e
    refine ⟨_, by rw [List.map_cons]; exact at0, ?_⟩
    exact Fin.same h
theorem sc_exchanged : FnScope ["kept", "mark", "other", "inner", "outer", "found"] ["kept", "mark", "other"] (defScope s_exchanged) := ⟨rfl, rfl, rfl, by decide +kernel, rfl, by decide +kernel, by decide +kernel⟩
def sp_exchanged : DSp := fun ds M Q _ => ∃ (d : D) (ks : List Sp2) (m o : Mk), ds = [d, mkD m, mkD o] ∧ sqD M d = some (ks.map spD) ∧ ks.length ≤ 10000 ∧ servedBy ks (o.1, m.2) = true ∧ servedBy ks (m.1, o.2) = true ∧ Q (.lst ((exch ks m o).map spD)) M
theorem st_exchanged {a0 a1 a2 : D} : dstart ["kept", "mark", "other", "inner", "outer", "found"] [a0, a1, a2] = [some a0, some a1, some a2, none, none, none] := rfl
theorem ok_exchanged (G : Glb P w K mg base C_BadStretch C_TooLong C_Matching) (h_first_server : Dfk P w K mg base T "first_server" 2 ["kept", "mark"] sp_first_server) (Dd : DefAt K mg "exchanged" s_exchanged ["kept", "mark", "other"]) : Dfk P w K mg base T "exchanged" 3 ["kept", "mark", "other"] sp_exchanged := by
  refine DefAt.ok Dd sc_exchanged (fun ds M Q E h => by
    obtain ⟨_, _, _, _, rfl, _⟩ := h
    rfl) fun f cdv A outer s H E hr => ?_
  have tk : Takes (cxOf (L2.CX P w) P w K mg base ["kept", "mark", "other", "inner", "outer", "found"] "exchanged" (defScope s_exchanged) f cdv A outer s H E) (wOf T E).w := takes_of rfl rfl rfl rfl
  refine ⟨_, (dss_cons (ds_set 3 sc_exchanged.nd (de_callA h_first_server (hr.mono (by decide)) tk (da_cons (dv 0) (da_cons (de_tup (da_cons (de_ix (dv 2) de_int) (da_cons (de_ix (dv 1) de_int) (da_cons (de_ix (dv 1) de_int) da_nil)))) da_nil))))
      (dss_cons (ds_set 4 sc_exchanged.nd (de_callA h_first_server (hr.mono (by decide)) tk (da_cons (dv 0) (da_cons (de_tup (da_cons (de_ix (dv 1) de_int) (da_cons (de_ix (dv 2) de_int) (da_cons (de_ix (dv 2) de_int) da_nil)))) da_nil))))
      (dss_cons (ds_set 5 sc_exchanged.nd (de_callTy call_list_of real_list rfl G.n_list rfl (da_cons (dv 0) da_nil)))
      (dss_cons (ds_asg (de_tup (da_cons (de_ix (de_ix (dv 0) (dv 3)) de_int) (da_cons (de_ix (de_ix (dv 0) (dv 4)) de_int) da_nil))) (dg_sub (dv 5) (dv 3)))
      (dss_cons (ds_asg (de_tup (da_cons (de_ix (de_ix (dv 0) (dv 4)) de_int) (da_cons (de_ix (de_ix (dv 0) (dv 3)) de_int) da_nil))) (dg_sub (dv 5) (dv 4)))
      (dss_one (ds_ret (dv 5)))))))), fun ds M Qd Ed h => ?_⟩
  obtain ⟨d, ks, m, o, rfl, hd, hl, h1, h2, h⟩ := h
  (first | (simp only [st_exchanged]; try sizeOf_list_dec) | sizeOf_list_dec)
  refine ⟨d, ks, (o.1, m.2), rfl, hd, hl, h1, ?_⟩
  refine ⟨d, ks, (m.1, o.2), rfl, hd, hl, h2, ?_⟩
  obtain ⟨k, hk, _⟩ := firstAt_ok h1
  obtain ⟨l, hll, _⟩ := firstAt_ok h2
  unfold exch at h
  dsimp only at h
  generalize firstAt ks (o.1, m.2) = i at hk h
  generalize firstAt ks (m.1, o.2) = j at hll h
  rw [getD_of hk, getD_of hll] at h
  have hil := (List.getElem?_eq_some_iff.mp hk).1
  have hjl := (List.getElem?_eq_some_iff.mp hll).1
  refine ⟨d, ks.map spD, rfl, seqSq hd, fun p hp => ?_⟩
  have X : ∀ c, Ext M (mup M p c) := fun c => (Ext.refl M).up hp
  have at1 : ∀ M', Ext M M' → ixD M' d (.int (i : Int)) = some (spD k) := fun M' hM => by rw [ixSq (sq_ext hM hd)]; exact atMn hk
  have at2 : ∀ M', Ext M M' → ixD M' d (.int (j : Int)) = some (spD l) := fun M' hM => by rw [ixSq (sq_ext hM hd)]; exact atMn hll
  (first | (simp only [st_exchanged]; try sizeOf_list_dec) | sizeOf_list_dec)
  refine ⟨_, at1 _ (X _), _, ixSp0, _, at2 _ (X _), _, ixSp1, i, ixN_nat hil, _, at2 _ (X _), _, ixSp0, _, at1 _ (X _), _, ixSp1, j, ixN_nat (by rw [List.length_set, List.length_map]; exact hjl), ?_⟩
  have es : ((ks.map spD).set i (.tup [.int k.1, .int l.2])).set j (.tup [.int l.1, .int k.2]) = ((ks.set i (k.1, l.2)).set j (l.1, k.2)).map spD := by
    rw [List.map_set, List.map_set]
    rfl
  rw [es]
  exact Fin.frzN hp h
theorem sc_spread : FnScope ["rows", "marks", "some", "kept", "mark", "other", "row", "one"] ["rows", "marks", "some"] (defScope s_spread) := ⟨rfl, rfl, rfl, by decide +kernel, rfl, by decide +kernel, by decide +kernel⟩
def sp_spread : DSp := fun ds M Q _ => ∃ (d e g : D) (rows : List (List Mk)) (E sm : List Mk), ds = [d, e, g] ∧ sqD M d = some (rows.map fun r => .lst (r.map mkD)) ∧ sqD M e = some (E.map mkD) ∧ sqD M g = some (sm.map mkD) ∧ rows.length ≤ 5000 ∧ (∀ r ∈ rows, r ≠ []) ∧
  (∀ n m, E[n]? = some m → servedBy ((E.take n).foldl (spreadStep sm) (rows.map chainSp)) m = false → ∃ o, sm.find? (fun o => decide (acr o m)) = some o ∧ servedBy ((E.take n).foldl (spreadStep sm) (rows.map chainSp)) (o.1, m.2) = true ∧ servedBy ((E.take n).foldl (spreadStep sm) (rows.map chainSp)) (m.1, o.2) = true) ∧
  Q (.lst ((spreadF rows E sm).map spD)) M
theorem st_spread {a0 a1 a2 : D} : dstart ["rows", "marks", "some", "kept", "mark", "other", "row", "one"] [a0, a1, a2] = [some a0, some a1, some a2, none, none, none, none, none] := rfl
theorem ok_spread (G : Glb P w K mg base C_BadStretch C_TooLong C_Matching) (h_exchanged : Dfk P w K mg base T "exchanged" 3 ["kept", "mark", "other"] sp_exchanged) (h_go_across : Dfk P w K mg base T "go_across" 2 ["one", "two"] sp_go_across) (h_is_served : Dfk P w K mg base T "is_served" 2 ["kept", "mark"] sp_is_served) (Dd : DefAt K mg "spread" s_spread ["rows", "marks", "some"]) : Dfk P w K mg base T "spread" 4 ["rows", "marks", "some"] sp_spread := by
  refine DefAt.ok Dd sc_spread (fun ds M Q E h => by
    obtain ⟨_, _, _, _, _, _, rfl, _⟩ := h
    rfl) fun f cdv A outer s H E hr => ?_
  have tk : Takes (cxOf (L2.CX P w) P w K mg base ["rows", "marks", "some", "kept", "mark", "other", "row", "one"] "spread" (defScope s_spread) f cdv A outer s H E) (wOf T E).w := takes_of rfl rfl rfl rfl
  refine ⟨_, (dss_cons (ds_setLcN 3 (LcOk.mk (own := [("row", 6)]) rfl sc_spread.nd (di_seq (dv 0)) (blkOk_by (N := ["rows", "marks", "some", "kept", "mark", "other", "row", "one"]) (sc := defScope s_spread) (by decide +kernel)) (fun _ _ _ _ _ => (dg_name (i := 6) sc_spread.nd rfl (by first | exact Or.inl rfl | exact Or.inr rfl) (fun _ e => by cases e; decide))) (fun _ _ _ _ _ => dts_nil) (fun _ _ _ _ _ => (de_tup (da_cons (de_ix (de_ix (dv 6) de_int) de_int) (da_cons (de_ix (de_ix (dv 6) (de_neg de_int)) de_int) da_nil))))) (sw_true rfl rfl rfl rfl))
      (dss_cons (ds_for (passes_of rfl) rfl (di_seq (dv 1)) (dg_name (i := 4) sc_spread.nd rfl (by first | exact Or.inl rfl | exact Or.inr rfl) (fun _ e => nomatch e)) (dss_one (ds_if (dt_not (dt_val (de_callA h_is_served (hr.mono (by decide)) tk (da_cons (dv 3) (da_cons (dv 4) da_nil))))) (dss_cons (ds_set 5 sc_spread.nd (de_ix (de_lcN (LcOk.mk (own := [("one", 7)]) rfl sc_spread.nd (di_seq (dv 2)) (blkOk_by (N := ["rows", "marks", "some", "kept", "mark", "other", "row", "one"]) (sc := defScope s_spread) (by decide +kernel)) (fun _ _ _ _ _ => (dg_name (i := 7) sc_spread.nd rfl (by first | exact Or.inl rfl | exact Or.inr rfl) (fun _ e => by cases e; decide))) (fun _ _ _ _ _ => (dts_one (dt_val (de_callA h_go_across (hr.mono (by decide)) takes_none5 (da_cons (dv 7) (da_cons (dv 4) da_nil)))))) (fun _ _ _ _ _ => (dv 7)))) de_int))
      (dss_one (ds_set 3 sc_spread.nd (de_callA h_exchanged (hr.mono (by decide)) tk (da_cons (dv 3) (da_cons (dv 4) (da_cons (dv 5) da_nil))))))) dss_nil)))
      (dss_one (ds_ret (dv 3))))), fun ds M Qd Ed h => ?_⟩
  obtain ⟨d, e, g, rows, E, sm, rfl, hd, he, hg, hl, hne, hf, h⟩ := h
  (first | (simp only [st_spread]; try sizeOf_list_dec) | sizeOf_list_dec)
  have injR : ∀ a b : List Mk, D.lst (a.map mkD) = D.lst (b.map mkD) → a = b := fun a b h => by
    have : a.map mkD = b.map mkD := by simpa using h
    exact List.map_inj_right (f := mkD) injMk |>.mp this
  refine ⟨_, itSq hd, LI_F (F := fun r : List Mk => D.lst (r.map mkD)) (xs := rows) injR (fun r => some (spD (chainSp r))) (fun M' hM => itSq (sq_ext hM hd)) (fun r hr M' hM => ?_) ?_⟩
  · have hn := hne r hr
    obtain ⟨a, q, rfl⟩ := List.exists_cons_of_ne_nil hn
    have eL := atLast (f := mkD) (xs := a :: q) (by simp)
    (first | (simp only [st_spread]; try sizeOf_list_dec) | sizeOf_list_dec)
    refine ⟨_, eL, _, ixMk2, rfl, ?_⟩
    unfold chainSp
    rw [List.getLastD_eq_getLast?, List.getLast?_eq_some_getLast (List.cons_ne_nil a q)]
    rfl
  rw [filterMap_some]
  have e0 : (rows.map fun r => spD (chainSp r)) = (rows.map chainSp).map spD := by rw [List.map_map]; rfl
  rw [e0]
  have lenK : ∀ n, ((E.take n).foldl (spreadStep sm) (rows.map chainSp)).length = rows.length := fun n => by
    have key : ∀ (L : List Mk) (ks : List Sp2), (L.foldl (spreadStep sm) ks).length = ks.length := by
      intro L
      induction L with
      | nil => intro ks; rfl
      | cons m L ih =>
        intro ks
        rw [List.foldl_cons, ih]
        unfold spreadStep
        split
        · rfl
        · split
          · exact exch_len _ _ _
          · rfl
    rw [key, List.length_map]
  let I : Nat → DG → Mp → Prop := fun n Γ2 M2 => ∃ c4 c5 c6 c7, Γ2 = [some d, some e, some g, some (.lst (((E.take n).foldl (spreadStep sm) (rows.map chainSp)).map spD)), c4, c5, c6, c7] ∧ M = M2
  refine ⟨_, itSq he, forBy I ⟨_, _, _, _, rfl, rfl⟩ (fun _ _ _ hI => by obtain ⟨_, _, _, _, rfl, rfl⟩ := hI; exact itSq he) ?_ ?_⟩
  · rintro n m _ _ hm ⟨c4, c5, c6, c7, rfl, rfl⟩
    have et : (E.take (n + 1)).foldl (spreadStep sm) (rows.map chainSp) = spreadStep sm ((E.take n).foldl (spreadStep sm) (rows.map chainSp)) m := by
      rw [List.take_add_one, hm, List.foldl_append]
      rfl
    have hlk := lenK n
    have hff := hf n m hm
    generalize (E.take n).foldl (spreadStep sm) (rows.map chainSp) = ks at hlk hff et
    (first | (simp only [st_spread]; try sizeOf_list_dec) | sizeOf_list_dec)
    refine ⟨_, ks, m, rfl, rfl, by omega, _, rfl, ?_⟩
    cases z : servedBy ks m with
    | false =>
      rw [if_pos rfl]
      obtain ⟨o, ho, s1, s2⟩ := hff z
      refine ⟨_, itSq hg, LI_F (F := mkD) (xs := sm) injMk (fun o => if decide (acr o m) = true then some (mkD o) else none) (fun M' hM => itSq (sq_ext hM hg)) (fun q hq M' hM => ?_) ?_⟩
      · sizeOf_list_dec
        exact ⟨q, m, rfl, _, rfl, fun z => ⟨rfl, by have z := of_decide_eq_true z; rw [if_pos z]⟩, fun z => ⟨rfl, by have z := of_decide_eq_false z; rw [if_neg z]⟩⟩
      rw [fm_ite]
      have eh : (sm.filter fun o => decide (acr o m)).head? = some o := by rw [List.head?_filter]; exact ho
      cases hL : sm.filter fun o => decide (acr o m) with
      | nil => rw [hL] at eh; cases eh
      | cons x r =>
        rw [hL] at eh
        cases eh
        refine ⟨_, by rw [List.map_cons]; exact at0, ?_⟩
        sizeOf_list_dec
        have et2 : (E.take (n + 1)).foldl (spreadStep sm) (rows.map chainSp) = exch ks m o := by
          rw [et]
          unfold spreadStep
          rw [if_neg (by rw [z]; decide), ho]
        refine ⟨_, ks, m, o, rfl, rfl, by omega, s1, s2, ?_⟩
        rw [← et2]
        exact ⟨_, _, _, _, rfl, rfl⟩
    | true =>
      rw [if_neg (by decide)]
      have et2 : (E.take (n + 1)).foldl (spreadStep sm) (rows.map chainSp) = ks := by
        rw [et]
        unfold spreadStep
        rw [if_pos z]
      rw [← et2]
      exact ⟨_, _, _, _, rfl, rfl⟩
  · rintro _ _ ⟨c4, c5, c6, c7, rfl, rfl⟩
    sizeOf_list_dec
    rw [List.take_length]
    exact Fin.same h
theorem sc_alone : FnScope ["kept", "at", "marks", "others", "mark"] ["kept", "at", "marks"] (defScope s_alone) := ⟨rfl, rfl, rfl, by decide +kernel, rfl, by decide +kernel, by decide +kernel⟩
def sp_alone : DSp := fun ds M Q _ => ∃ (d e : D) (ks : List Sp2) (i : Nat) (ms : List Mk), ds = [d, .int (i : Nat), e] ∧ sqD M d = some (ks.map spD) ∧ sqX M d = some (ks.map spD) ∧ sqD M e = some (ms.map mkD) ∧ ks.length ≤ 5000 ∧ i < ks.length ∧ Q (.lst ((aloneF ks i ms).map D.int)) M
theorem st_alone {a0 a1 a2 : D} : dstart ["kept", "at", "marks", "others", "mark"] [a0, a1, a2] = [some a0, some a1, some a2, none, none] := rfl
theorem ok_alone (G : Glb P w K mg base C_BadStretch C_TooLong C_Matching) (h_is_served : Dfk P w K mg base T "is_served" 2 ["kept", "mark"] sp_is_served) (h_serves : Dfk P w K mg base T "serves" 1 ["kept", "mark"] sp_serves) (Dd : DefAt K mg "alone" s_alone ["kept", "at", "marks"]) : Dfk P w K mg base T "alone" 3 ["kept", "at", "marks"] sp_alone := by
  refine DefAt.ok Dd sc_alone (fun ds M Q E h => by
    obtain ⟨_, _, _, _, _, rfl, _⟩ := h
    rfl) fun f cdv A outer s H E hr => ?_
  have tk : Takes (cxOf (L2.CX P w) P w K mg base ["kept", "at", "marks", "others", "mark"] "alone" (defScope s_alone) f cdv A outer s H E) (wOf T E).w := takes_of rfl rfl rfl rfl
  refine ⟨_, (dss_cons (ds_set 3 sc_alone.nd (de_op op_add3 real_add (de_sl (dv 0) do_none (do_some (dv 1))) (de_sl (dv 0) (do_some (de_op op_add3 real_add (dv 1) de_int)) do_none)))
      (dss_one (ds_ret (de_lcN (LcOk.mk (own := [("mark", 4)]) rfl sc_alone.nd (di_seq (dv 2)) (blkOk_by (N := ["kept", "at", "marks", "others", "mark"]) (sc := defScope s_alone) (by decide +kernel)) (fun _ _ _ _ _ => (dg_name (i := 4) sc_alone.nd rfl (by first | exact Or.inl rfl | exact Or.inr rfl) (fun _ e => by cases e; decide))) (fun _ _ _ _ _ => (dts_one (dw_pt (dw_and (dt_val (de_callA h_serves (hr.mono (by decide)) takes_none5 (da_cons (de_ix (dv 0) (dv 1)) (da_cons (dv 4) da_nil)))) (dw_and1 (dt_not (dt_val (de_callA h_is_served (hr.mono (by decide)) takes_none5 (da_cons (dv 3) (da_cons (dv 4) da_nil)))))))))) (fun _ _ _ _ _ => (de_ix (dv 4) de_int))))))), fun ds M Qd Ed h => ?_⟩
  obtain ⟨d, e, ks, i, ms, rfl, hd, hdx, he, hl, hi, h⟩ := h
  (first | (simp only [st_alone]; try sizeOf_list_dec) | sizeOf_list_dec)
  refine rdSl_to (f := spD) hd ?_
  have e1 : ((i : Nat) : Int) + 1 = ((i + 1 : Nat) : Int) := by omega
  rw [e1]
  refine rdSl_from (f := spD) hd ?_
  rw [addL, ← List.map_append, ← List.eraseIdx_eq_take_drop_succ]
  refine ⟨by rw [szl, List.length_map, List.length_map, List.length_take, List.length_drop]; omega, ?_⟩
  obtain ⟨k, hk⟩ : ∃ k, ks[i]? = some k := ⟨_, List.getElem?_eq_getElem hi⟩
  refine ⟨_, itSq he, LI_F (F := mkD) (xs := ms) injMk (fun m => if (decide (servs k m) && !servedBy (ks.eraseIdx i) m) = true then some (.int m.1) else none) (fun M' hM => itSq (sq_ext hM he)) (fun m hm M' hM => ?_) ?_⟩
  · have ixk : ixD M' d (.int (i : Int)) = some (spD k) := by rw [ixSq (sq_ext hM hd)]; exact atMn hk
    (first | (simp only [st_alone]; try sizeOf_list_dec) | sizeOf_list_dec)
    refine ⟨_, ixk, k, m, rfl, _, rfl, fun z => ⟨_, ks.eraseIdx i, m, rfl, rfl, by rw [List.length_eraseIdx_of_lt hi]; omega, _, rfl, ?_⟩, fun z => ⟨rfl, ?_⟩⟩
    · cases z2 : servedBy (ks.eraseIdx i) m with
      | true =>
        rw [if_neg (by decide), z]
        exact ⟨rfl, rfl⟩
      | false =>
        rw [if_pos rfl, z]
        exact ⟨rfl, rfl⟩
    · rw [z]
      rfl
  rw [fm_ite]
  unfold aloneF at h
  rw [getD_of hk, List.map_map] at h
  exact Fin.same h
theorem sc_shortened : FnScope ["kept", "places", "marks", "left", "found", "at", "cells", "start", "end", "place"] ["kept", "places", "marks", "left"] (defScope s_shortened) := ⟨rfl, rfl, rfl, by decide +kernel, rfl, by decide +kernel, by decide +kernel⟩
def sp_shortened : DSp := fun ds M Q _ => ∃ (d e g : D) (ks : List Sp2) (pl : List Int) (ms : List Mk) (left : Bool), ds = [d, e, g, .bl left] ∧ sqD M d = some (ks.map spD) ∧ sqD M e = some (pl.map D.int) ∧ sqD M g = some (ms.map mkD) ∧ ks.length ≤ 5000 ∧ (∀ m ∈ ms, m.1 ∈ pl) ∧ TI pl ms ks ∧ Q (.lst ((shortF pl ms left ks.length 0 ks).map spD)) M
theorem st_shortened {a0 a1 a2 a3 : D} : dstart ["kept", "places", "marks", "left", "found", "at", "cells", "start", "end", "place"] [a0, a1, a2, a3] = [some a0, some a1, some a2, some a3, none, none, none, none, none, none] := rfl
theorem ok_shortened (G : Glb P w K mg base C_BadStretch C_TooLong C_Matching) (h_alone : Dfk P w K mg base T "alone" 3 ["kept", "at", "marks"] sp_alone) (Dd : DefAt K mg "shortened" s_shortened ["kept", "places", "marks", "left"]) : Dfk P w K mg base T "shortened" 4 ["kept", "places", "marks", "left"] sp_shortened := by
  refine DefAt.ok Dd sc_shortened (fun ds M Q E h => by
    obtain ⟨_, _, _, _, _, _, _, rfl, _⟩ := h
    rfl) fun f cdv A outer s H E hr => ?_
  have tk : Takes (cxOf (L2.CX P w) P w K mg base ["kept", "places", "marks", "left", "found", "at", "cells", "start", "end", "place"] "shortened" (defScope s_shortened) f cdv A outer s H E) (wOf T E).w := takes_of rfl rfl rfl rfl
  refine ⟨_, (dss_cons (ds_set 4 sc_shortened.nd (de_callTy call_list_of real_list rfl G.n_list rfl (da_cons (dv 0) da_nil)))
      (dss_cons (ds_set 5 sc_shortened.nd de_int)
      (dss_cons (ds_while (passes_of rfl) (dt_cmp op_lt real_lt (dv 5) (de_callB call_len real_len rfl G.n_len rfl (da_cons (dv 4) da_nil)) (nomark _)) (dss_cons (ds_set 6 sc_shortened.nd (de_callA h_alone (hr.mono (by decide)) tk (da_cons (dv 4) (da_cons (dv 5) (da_cons (dv 2) da_nil)))))
      (dss_cons (ds_if (dt_cmp (op_eqD hr.units) real_eq (dv 6) (de_lst da_nil) (nomark _)) (dss_cons (ds_delL (dv 4) (dv 5))
      (dss_one ds_continue)) dss_nil)
      (dss_cons (ds_asg (de_ix (dv 4) (dv 5)) (dg_tup (n := 2) rfl (dgs_cons (dg_name (i := 7) sc_shortened.nd rfl (by first | exact Or.inl rfl | exact Or.inr rfl) (fun _ e => nomatch e)) (dgs_cons (dg_name (i := 8) sc_shortened.nd rfl (by first | exact Or.inl rfl | exact Or.inr rfl) (fun _ e => nomatch e)) dgs_nil))))
      (dss_cons (ds_if (dt_val (dv 3)) (dss_one (ds_asg (de_tup (da_cons (de_callB (cr_min rfl) real_min rfl G.n_min rfl (da_cons (dv 6) da_nil)) (da_cons (dv 8) da_nil))) (dg_sub (dv 4) (dv 5)))) (dss_one (ds_asg (de_tup (da_cons (dv 7) (da_cons (de_callB (cr_min rfl) real_min rfl G.n_min rfl (da_cons (de_lcN (LcOk.mk (own := [("place", 9)]) rfl sc_shortened.nd (di_seq (dv 1)) (blkOk_by (N := ["kept", "places", "marks", "left", "found", "at", "cells", "start", "end", "place"]) (sc := defScope s_shortened) (by decide +kernel)) (fun _ _ _ _ _ => (dg_name (i := 9) sc_shortened.nd rfl (by first | exact Or.inl rfl | exact Or.inr rfl) (fun _ e => by cases e; decide))) (fun _ _ _ _ _ => (dts_one (dt_cmp op_gt real_gt (dv 9) (de_callB (cr_max rfl) real_max rfl G.n_max rfl (da_cons (dv 6) da_nil)) (nomark _)))) (fun _ _ _ _ _ => (dv 9)))) da_nil)) da_nil))) (dg_sub (dv 4) (dv 5)))))
      (dss_one (ds_aug (i := 5) sc_shortened.nd de_int ip_add real_ip)))))))
      (dss_one (ds_ret (dv 4)))))), fun ds M Qd Ed h => ?_⟩
  obtain ⟨d, e, g, ks, pl, ms, left, rfl, hd, he, hg, hl, hc, T, h⟩ := h
  (first | (simp only [st_shortened]; try sizeOf_list_dec) | sizeOf_list_dec)
  generalize hfin : shortF pl ms left ks.length 0 ks = fin at h
  refine ⟨d, ks.map spD, rfl, seqSq hd, fun p hp => ?_⟩
  have X : ∀ c, Ext M (mup M p c) := fun c => (Ext.refl M).up hp
  let Wv : Nat → DG → Mp → Prop := fun f Γ2 M2 => ∃ (i : Nat) (kk : List Sp2) (c6 c7 c8 c9 : Option D), Γ2 = [some d, some e, some g, some (.bl left), some (.ref p), some (.int (i : Nat)), c6, c7, c8, c9] ∧ M2 = mup M p (.lst (kk.map spD)) ∧ TI pl ms kk ∧ kk.length ≤ f + i ∧ kk.length ≤ ks.length ∧ shortF pl ms left f i kk = fin
  refine ⟨Wv, ⟨ks.length, 0, ks, _, _, _, _, rfl, rfl, T, by omega, Nat.le_refl _, hfin⟩, ?_⟩
  rintro f _ _ ⟨i, kk, c6, c7, c8, c9, rfl, rfl, T2, hf, hlk, hF⟩
  (first | (simp only [st_shortened]; try sizeOf_list_dec) | sizeOf_list_dec)
  rw [lenR mup_same]
  simp only [List.length_map, st_shortened, dSeq, dNext, dRet, dRetN, dIfS, dSet, dPar, dAsg, dDrop, dC, dOp, dTest, dChain, dChain3, dChain4, dAnd, dOr, dNot, dAndV, dOrV, dNotV, dCons, dNil, dTup, dLst, dLstO, dCB, dCall, dIf, dUn, dAppend, dPop, dInsert, dAug, dWhile, dDelL, dCont, dBreak, dFld, dPut, dMeth, dMake, dDnew, dDin, dDget, dDput, dLck, dLckS, dIKeys, dDc, insF, dcF1, dAct, dCallK, dCBK, dHof, spLm, startL, capD, dTryN, exN, offD, dXf, Option.join_some, List.map_nil, List.nil_append, List.cons_append, List.replicate, dVar, rdI_eq, rdIc_eq, rdIx, rdInt2_eq, lenL, isN_non, isN_tup, isN_int, dFrz, dAugS, dIsi, dIsi2, dListRg, dSetSp, dSetIn, dLc2O, dRev, lenT, dIZip, zpL, zpD_tup, zip_map, isaTL, isaTT, isaLL, isaLT, isaIB, isaII, isaIS, isaIL, isaIT, neSpU, eqSpU, neMkU, eqMkU, eqB, neB, isN_bl, isN_lst, isN_ref, isaBB, isaBL, isaBT, isaBI, isaBS, tyI, tyB, tyN, tyTu, tyLs, Cell.lst.injEq, implies_true, reduceCtorEq, true_implies, false_implies, if_true, if_false, Int.reduceToNat, Int.reducePow, Int.reduceNeg, exX, LB, dYes, dwipe, addL, sz0, sz1, sz2, sz3, Int.zero_add, Int.mul_one, dLcN_eq, dLcNO_eq, dIRng1, dIRng2, dIEn, dISeq, dFor_eq, List.map_cons, List.map_nil, mulI, rdAbs_eq, eqI, neI, xN4_0, xN4_1, xN4_2, xN4_3, List.length_map, ixS, mup_same, mup_mup, dRaise, gdName, gdTup, gdUnl, gdNil_eq, gdCons_eq, gdSub, dPart, dNoPart, dSl, tpD, fd0, List.getElem?_cons_zero, List.getElem?_cons_succ, List.set_cons_zero, List.set_cons_succ, Option.some.injEq, exists_eq_left', exists_eq_left, exists_eq_right, exists_eq_right', D.int.injEq, D.bl.injEq, D.tup.injEq, D.lst.injEq, D.ref.injEq, ixd_tup, ixd_lst, spD, mkD, decide_eq_true_eq, decide_eq_false_iff_not, Nat.reduceAdd, Int.reduceNeg, at0, at1, at2, at3, List.cons.injEq, and_true, true_and, List.append_nil, exists_and_left, exists_and_right, List.length_cons, List.length_nil, addI, res_int, deq_int, sh_int, iffB, parEq, Bool.not_eq_true', Bool.not_eq_false', Bool.not_eq_true ]
  refine ⟨fun hlt => ?_, fun hge => ?_⟩
  · have hlt : i < kk.length := by omega
    match f, hf, hF with
    | 0, hf, hF => omega
    | f + 1, hf, hF =>
    have hk : kk[i]? = some kk[i] := List.getElem?_eq_getElem hlt
    generalize kk[i] = k at hk
    unfold shortF at hF
    rw [if_pos hlt, getD_of hk] at hF
    have he2 : ∀ c, sqD (mup M p c) e = some (pl.map D.int) := fun c => sq_ext (X c) he
    have hg2 : ∀ c, sqD (mup M p c) g = some (ms.map mkD) := fun c => sq_ext (X c) hg
    refine ⟨_, g, kk, i, ms, rfl, sqD_ref mup_same, sqX_ref mup_same, hg2 _, by omega, hlt, ?_⟩
    dsimp only
    rw [eqNilL (n := 0) (f := D.int) (fun k => lay_int 0 _)]
    refine ⟨_, rfl, fun hq => ?_, fun hq => ?_⟩
    · have hq : aloneF kk i ms = [] := by simpa using hq
      rw [if_pos hq] at hF
      refine ⟨kk.map spD, i, rfl, mup_same, by rw [List.length_map]; exact hlt, by rw [List.length_map]; omega, f, by omega, i, kk.eraseIdx i, _, _, _, _, rfl, ?_, T2.erase hk hq, by rw [List.length_eraseIdx_of_lt hlt]; omega, by rw [List.length_eraseIdx_of_lt hlt]; omega, hF⟩
      rw [mup_mup]
      have : (kk.map spD).eraseIdx i = (kk.eraseIdx i).map spD := by rw [List.eraseIdx_eq_take_drop_succ, List.eraseIdx_eq_take_drop_succ, List.map_append, List.map_take, List.map_drop]
      rw [this]
    · have hq : aloneF kk i ms ≠ [] := by simpa using hq
      rw [if_neg hq] at hF
      have T3 := T2.set (left := left) hc hk hq
      have nxt : ∀ (c6 c7 c8 c9 : Option D) (M4 : Mp), M4 = mup M p (.lst ((kk.set i (takenIn pl left k (aloneF kk i ms))).map spD)) → ∃ m', m' < f + 1 ∧ Wv m' [some d, some e, some g, some (.bl left), some (.ref p), some (.int ((i : Int) + 1)), c6, c7, c8, c9] M4 := fun c6 c7 c8 c9 M4 e4 => ⟨f, by omega, i + 1, _, c6, c7, c8, c9, by simp, e4, T3, by rw [List.length_set]; omega, by rw [List.length_set]; omega, hF⟩
      refine ⟨_, (ixd_ref mup_same).trans (atMn hk), ?_⟩
      (first | (simp only [st_shortened]; try sizeOf_list_dec) | sizeOf_list_dec)
      have es : ∀ q : Sp2, (kk.map spD).set i (.tup [.int q.1, .int q.2]) = (kk.set i q).map spD := fun q => by
        rw [List.map_set]
        rfl
      have pos : 0 < (aloneF kk i ms).length := List.length_pos_iff.mpr hq
      refine ⟨fun hl2 => ?_, fun hl2 => ?_⟩
      · refine ⟨_, aloneF kk i ms, rfl, rfl, pos, fun x hx hmin => ?_⟩
        obtain rfl : x = minI (aloneF kk i ms) := minI_uniq hx hmin
        refine ⟨_, mup_same, i, ixN_nat (by rw [List.length_map]; exact hlt), nxt _ _ _ _ _ ?_⟩
        rw [mup_mup]
        have e5 := es (takenIn pl left k (aloneF kk i ms))
        have e6 : takenIn pl left k (aloneF kk i ms) = (minI (aloneF kk i ms), k.2) := by unfold takenIn; rw [if_pos hl2]
        rw [← e5, e6]
      · refine ⟨_, itSq (he2 _), LI_F (F := D.int) (xs := pl) injInt (fun q => if decide (maxI (aloneF kk i ms) < q) = true then some (.int q) else none) (fun M' hM => itSq (sq_ext hM (he2 _))) (fun q hq2 M' hM => ?_) ?_⟩
        · sizeOf_list_dec
          refine ⟨_, aloneF kk i ms, rfl, rfl, pos, fun x hx hmax => ?_⟩
          obtain rfl : x = maxI (aloneF kk i ms) := maxI_uniq hx hmax
          sizeOf_list_dec
          exact ⟨fun z => by rw [if_pos z], fun z => by rw [if_neg z]⟩
        rw [fm_ite]
        obtain ⟨_, _, t3, _, _⟩ := taken_in (left := false) hc T2 hk hq
        have e6 : takenIn pl left k (aloneF kk i ms) = (k.1, minI (pl.filter fun q => decide (maxI (aloneF kk i ms) < q))) := by unfold takenIn; rw [if_neg (by rw [hl2]; decide)]
        have posR : 0 < (pl.filter fun q => decide (maxI (aloneF kk i ms) < q)).length := by
          obtain ⟨y1, y2, y3⟩ := T2.en k (List.mem_of_getElem? hk)
          obtain ⟨m, hm, em, sm, _⟩ := (mem_alone hk).mp (maxI_ok hq).1
          unfold servs at sm
          exact List.length_pos_of_mem (List.mem_filter.mpr ⟨y2, by simp; omega⟩)
        refine ⟨_, pl.filter fun q => decide (maxI (aloneF kk i ms) < q), rfl, rfl, posR, fun x hx hmin => ?_⟩
        obtain rfl : x = minI (pl.filter fun q => decide (maxI (aloneF kk i ms) < q)) := minI_uniq hx hmin
        refine ⟨_, mup_same, i, ixN_nat (by rw [List.length_map]; exact hlt), nxt _ _ _ _ _ ?_⟩
        rw [mup_mup]
        have e5 := es (takenIn pl left k (aloneF kk i ms))
        rw [← e5, e6]
  · have hge : ¬ i < kk.length := by omega
    have e1 : shortF pl ms left f i kk = kk := by
      cases f with
      | zero => rfl
      | succ f => unfold shortF; rw [if_neg hge]
    rw [e1] at hF
    rw [← hF] at h
    exact Fin.frzN hp h
theorem sc_thinned : FnScope ["asks", "kept", "some", "places", "marks", "found", "before"] ["asks", "kept"] (defScope s_thinned) := ⟨rfl, rfl, rfl, by decide +kernel, rfl, by decide +kernel, by decide +kernel⟩
def sp_thinned : DSp := fun ds M Q _ => ∃ (d e : D) (as ks : List Sp2), ds = [d, e] ∧ sqD M d = some (as.map spD) ∧ sqD M e = some (ks.map spD) ∧ sqX M e = some (ks.map spD) ∧ as.length + ks.length ≤ 31 ∧ (∀ s ∈ as, okS s) ∧ (∀ k ∈ ks, okS k) ∧ ∀ bs, Dst as bs → (∀ m ∈ essAt (bordersF (bs ++ ks)).dropLast bs, servedBy ks m = true) ∧ ∀ p, M p = none → Q (.ref p) (mup M p (.lst ((thinnedF bs ks).map spD)))
theorem st_thinned {a0 a1 : D} : dstart ["asks", "kept", "some", "places", "marks", "found", "before"] [a0, a1] = [some a0, some a1, none, none, none, none, none] := rfl
theorem ok_thinned (G : Glb P w K mg base C_BadStretch C_TooLong C_Matching) (h_borders : Dfk P w K mg base T "borders" 1 ["some"] sp_borders) (h_distinct : Dfk P w K mg base T "distinct" 1 ["some"] sp_distinct) (h_essential_at : Dfk P w K mg base T "essential_at" 3 ["cells", "asks"] sp_essential_at) (h_shortened : Dfk P w K mg base T "shortened" 4 ["kept", "places", "marks", "left"] sp_shortened) (Dd : DefAt K mg "thinned" s_thinned ["asks", "kept"]) : Dfk P w K mg base T "thinned" 5 ["asks", "kept"] sp_thinned := by
  refine DefAt.ok Dd sc_thinned (fun ds M Q E h => by
    obtain ⟨_, _, _, _, rfl, _⟩ := h
    rfl) fun f cdv A outer s H E hr => ?_
  have tk : Takes (cxOf (L2.CX P w) P w K mg base ["asks", "kept", "some", "places", "marks", "found", "before"] "thinned" (defScope s_thinned) f cdv A outer s H E) (wOf T E).w := takes_of rfl rfl rfl rfl
  refine ⟨_, (dss_cons (ds_set 2 sc_thinned.nd (de_callA h_distinct (hr.mono (by decide)) tk (da_cons (dv 0) da_nil)))
      (dss_cons (ds_set 3 sc_thinned.nd (de_callA h_borders (hr.mono (by decide)) tk (da_cons (de_op op_add3 real_add (dv 2) (dv 1)) da_nil)))
      (dss_cons (ds_set 4 sc_thinned.nd (de_callA h_essential_at (hr.mono (by decide)) tk (da_cons (de_sl (dv 3) do_none (do_some (de_neg de_int))) (da_cons (dv 2) da_nil))))
      (dss_cons (ds_par (i := 5) (j := 6) rfl sc_thinned.nd (by decide) (da_cons (de_sorted G.n_sorted rfl (da_cons (dv 1) da_nil)) (da_cons de_non da_nil)))
      (dss_cons (ds_while (passes_of rfl) (dt_cmp (op_neD hr.units) real_ne (dv 5) (dv 6) (nomark _)) (dss_cons (ds_set 6 sc_thinned.nd (dv 5))
      (dss_one (ds_set 5 sc_thinned.nd (de_sorted G.n_sorted rfl (da_cons (de_callA h_shortened (hr.mono (by decide)) tk (da_cons (de_callA h_shortened (hr.mono (by decide)) tk (da_cons (dv 5) (da_cons (dv 3) (da_cons (dv 4) (da_cons de_bl da_nil))))) (da_cons (dv 3) (da_cons (dv 4) (da_cons de_bl da_nil))))) da_nil))))))
      (dss_one (ds_ret (dv 5)))))))), fun ds M Qd Ed h => ?_⟩
  obtain ⟨d, e, as, ks, rfl, hd, he, hex, hl, hok, hkk, h⟩ := h
  (first | (simp only [st_thinned]; try sizeOf_list_dec) | sizeOf_list_dec)
  refine ⟨d, as, rfl, hd, by omega, hok, fun L h1 h2 h3 => ?_⟩
  obtain ⟨hs, h⟩ := h L ⟨h3, h1, h2⟩
  have hr : inRow L := fun s hs => by have := hok s ((h1 s).mp hs); unfold okS at this; omega
  have hrk : inRow ks := fun s hs => by have := hkk s hs; unfold okS at this; omega
  have hLl : L.length ≤ as.length := h2
  refine addXX (xs := L.map spD) rfl hex (by rw [szl, List.length_map, List.length_map]; omega) ?_
  rw [← List.map_append]
  refine ⟨_, L ++ ks, rfl, rfl, by rw [List.length_append]; omega, fun B b1 b2 b3 => ?_⟩
  obtain rfl := borders_eq (inRow_app hr hrk) b1 b3
  have hBl : (bordersF (L ++ ks)).length ≤ 62 := by rw [List.length_append] at b2; omega
  refine rdSl_sq rfl ?_
  rw [cut_last]
  refine ⟨_, _, (bordersF (L ++ ks)).dropLast, L, rfl, rfl, rfl, by rw [List.length_dropLast]; omega, by omega, fun p1 hp1 => ?_⟩
  have hlt : ∀ k ∈ ks, k.1 < k.2 := fun k hk => (hkk k hk).2.1
  unfold thinnedF at h
  generalize hpl : bordersF (L ++ ks) = pl at hs h hBl
  have hmm : ∀ z, z ∈ pl ↔ ∃ s ∈ L ++ ks, z = s.1 ∨ z = s.2 := fun z => by rw [← hpl, mem_borders (inRow_app hr hrk)]
  generalize hms : essAt pl.dropLast L = ms at hs h
  have hc : ∀ m ∈ ms, m.1 ∈ pl := fun m hm => by rw [← hms] at hm; exact List.dropLast_subset _ (mem_essAt.mp hm).1
  have pm0 := sortO_perm (r := spLt) ks
  have T0 : TI pl ms (sortSp ks) := TI.perm pm0.symm ⟨hs, fun k hk => ⟨(hmm _).mpr ⟨k, List.mem_append_right _ hk, .inl rfl⟩, (hmm _).mpr ⟨k, List.mem_append_right _ hk, .inr rfl⟩, hlt k hk⟩⟩
  have et : tot (sortSp ks) = tot ks := tot_perm pm0
  generalize hR : thinF pl ms (tot ks) (sortSp ks) = R at h
  have m1 : mup M p1 (.lst (ms.map mkD)) p1 = some (.lst (ms.map mkD)) := mup_same
  have X1 : Ext M (mup M p1 (.lst (ms.map mkD))) := (Ext.refl M).up hp1
  generalize mup M p1 (.lst (ms.map mkD)) = MA at m1 X1
  refine rdSortedSp (as := ks) (sq_ext X1 he) fun L2 p2 pm2 pw2 hp2 => ?_
  obtain rfl : L2 = sortSp ks := sortSp_eq pm2 pw2
  have fresh : ∀ M' q, Ext M M' → M' q = none → M q = none := fun M' q hx hq => by
    cases e : M q with
    | none => rfl
    | some y => have := hx q y e; rw [hq] at this; cases this
  have fresh1 : ∀ M' q, Ext MA M' → M' q = none → q ≠ p1 := fun M' q hx hq z => by
    have := hx _ _ m1
    rw [← z, hq] at this
    cases this
  let Wv : Nat → DG → Mp → Prop := fun f Γ2 M2 => ∃ (kk : List Sp2) (p5 : Addr) (c6 : D), Γ2 = [some d, some e, some (.lst (L.map spD)), some (.lst (pl.map D.int)), some (.ref p1), some (.ref p5), some c6] ∧ Ext MA M2 ∧ M2 p5 = some (.lst (kk.map spD)) ∧ M p5 = none ∧ kk.length ≤ ks.length ∧
    ((c6 = .non ∧ ∃ f', f = f' + 1 ∧ thinF pl ms f' kk = R ∧ tot kk ≤ f' ∧ TI pl ms kk ∧ kk.Pairwise (fun x y => ¬ spLt y x)) ∨ ∃ q kb, c6 = .ref q ∧ M2 q = some (.lst (kb.map spD)) ∧ kk = bothF pl ms kb ∧ thinF pl ms f kb = R ∧ tot kb ≤ f ∧ TI pl ms kb ∧ kb.Pairwise (fun x y => ¬ spLt y x))
  have hkl : (sortSp ks).length ≤ ks.length := Nat.le_of_eq pm0.length_eq
  refine ⟨Wv, ⟨tot ks + 1, sortSp ks, p2, .non, rfl, (Ext.refl MA).up hp2, mup_same, fresh MA p2 X1 hp2, hkl, .inl ⟨rfl, tot ks, rfl, hR, by omega, T0, sortO_pw spLt_tr spLt_as ks⟩⟩, ?_⟩
  rintro f _ M2 ⟨kk, p5, c6, rfl, X2, m5, n5, hl5, hst⟩
  -- one turn more: found is shortened on both sides
  have turn : ∀ (f' : Nat), f' < f → thinF pl ms f' kk = R → tot kk ≤ f' → TI pl ms kk → kk.Pairwise (fun x y => ¬ spLt y x) → sp_shortened [.ref p5, .lst (pl.map D.int), .ref p1, .bl true] M2 (fun x M1 => sp_shortened [x, .lst (pl.map D.int), .ref p1, .bl false] M1 (fun x M1 => rdSorted [x] M1 fun d_1 M1 => ∃ m', m' < f ∧ Wv m' [some d, some e, some (.lst (L.map spD)), some (.lst (pl.map D.int)), some (.ref p1), some d_1, some (.ref p5)] M1) fun C fs M2 => Ed C fs M2) fun C fs M2 => Ed C fs M2 := fun f' hf' e1 e2 T2 s2 => by
    obtain ⟨a1, a2, a3, a4, a5⟩ := short_ok (left := true) hc kk.length 0 kk (by omega) T2
    refine ⟨_, _, _, kk, pl, ms, true, rfl, sqD_ref m5, rfl, sqD_ref (X2 _ _ m1), by omega, hc, T2, ?_⟩
    obtain ⟨b1, b2, b3, b4, b5⟩ := short_ok (left := false) hc (shortF pl ms true kk.length 0 kk).length 0 (shortF pl ms true kk.length 0 kk) (by omega) a1
    refine ⟨_, _, _, shortF pl ms true kk.length 0 kk, pl, ms, false, rfl, rfl, rfl, sqD_ref (X2 _ _ m1), by omega, hc, a1, ?_⟩
    refine rdSortedSp (as := shortF pl ms false (shortF pl ms true kk.length 0 kk).length 0 (shortF pl ms true kk.length 0 kk)) rfl fun L3 p6 pm6 pw6 hp6 => ?_
    obtain rfl : L3 = bothF pl ms kk := sortSp_eq pm6 pw6
    have n6 := fresh M2 p6 (Ext.trans X1 X2) hp6
    have h56 : p5 ≠ p6 := fun z => by rw [← z, m5] at hp6; cases hp6
    refine ⟨f', hf', bothF pl ms kk, p6, .ref p5, rfl, X2.up ?_, mup_same, n6, ?_, .inr ⟨p5, kk, rfl, by rw [mup_ne h56]; exact m5, rfl, e1, e2, T2, s2⟩⟩
    · cases z : MA p6 with
      | none => rfl
      | some y => have := X2 p6 y z; rw [hp6] at this; cases this
    · obtain ⟨_, g2, _⟩ := both_ok hc T2 s2
      omega
  (first | (simp only [st_thinned]; try sizeOf_list_dec) | sizeOf_list_dec)
  rcases hst with ⟨rfl, f', rfl, e1, e2, T2, s2⟩ | ⟨q, kb, rfl, mq, hkk2, e1, e2, T2, s2⟩
  · refine neNonR (f := spD) (n := 1) lay_spD m5 (by decide) ⟨_, rfl, fun _ => ?_, fun z => (by cases z)⟩
    exact turn f' (by omega) e1 e2 T2 s2
  · refine neRR (f := spD) (n := 1) lay_spD (fun _ _ => deq_spD _ _) m5 mq (by decide) ⟨_, rfl, fun z => ?_, fun z => ?_⟩
    · have z : kk ≠ kb := by simpa using z
      obtain ⟨g1, g2, g3, g4, g5, g6⟩ := both_ok hc T2 s2
      rw [← hkk2] at g1 g2 g3 g4 g5 g6
      have : tot kk ≠ tot kb := fun y => z (g6 y).1
      match f, e1, e2, turn with
      | 0, e1, e2, turn => omega
      | f + 1, e1, e2, turn =>
      unfold thinF at e1
      rw [← hkk2, if_neg z] at e1
      exact turn f (by omega) e1 (by omega) g1 g4
    · have z : kk = kb := by simpa using z
      have eR : kb = R := by
        rw [← e1]
        cases f with
        | zero => rfl
        | succ f => unfold thinF; rw [← hkk2, if_pos z]
      rw [z, eR] at m5
      exact Fin.ownE m5 (Ext.trans X1 X2) (h p5 n5)
theorem sc_planned : FnScope ["asks", "marks", "some", "rows", "unlike"] ["asks"] (defScope s_planned) := ⟨rfl, rfl, rfl, by decide +kernel, rfl, by decide +kernel, by decide +kernel⟩
def sp_planned (C : Addr) : DSp := fun ds M Q _ => ∃ (d : D) (as : List Sp2), ds = [d] ∧ sqD M d = some (as.map spD) ∧ (as.length ≤ 30 ∧ ∀ bs, Dst as bs → bs.length ≤ 15 ∧ as.length + bs.length ≤ 31) ∧ (∀ s ∈ as, okS s) ∧ ∀ bs, Dst as bs → ∀ p q, M p = none → M q = none → p ≠ q → Q (.tup [.ref p, .ref q]) (mup (mup M p (.lst ((planF bs).1.map spD))) q (.lst ((planF bs).2.map mkD)))
theorem st_planned {a0 : D} : dstart ["asks", "marks", "some", "rows", "unlike"] [a0] = [some a0, none, none, none, none] := rfl
theorem ok_planned (G : Glb P w K mg base C_BadStretch C_TooLong C_Matching) (h_chained : Dfk P w K mg base T "chained" 5 ["marks"] (sp_chained C_Matching)) (h_essential_few : Dfk P w K mg base T "essential_few" 4 ["asks"] sp_essential_few) (h_spread : Dfk P w K mg base T "spread" 4 ["rows", "marks", "some"] sp_spread) (h_taken_of : Dfk P w K mg base T "taken_of" 3 ["marks"] sp_taken_of) (h_thinned : Dfk P w K mg base T "thinned" 5 ["asks", "kept"] sp_thinned) (Dd : DefAt K mg "planned" s_planned ["asks"]) : Dfk P w K mg base T "planned" 6 ["asks"] (sp_planned C_Matching) := by
  refine DefAt.ok Dd sc_planned (fun ds M Q E h => by
    obtain ⟨_, _, rfl, _⟩ := h
    rfl) fun f cdv A outer s H E hr => ?_
  have tk : Takes (cxOf (L2.CX P w) P w K mg base ["asks", "marks", "some", "rows", "unlike"] "planned" (defScope s_planned) f cdv A outer s H E) (wOf T E).w := takes_of rfl rfl rfl rfl
  refine ⟨_, (dss_cons (ds_set 1 sc_planned.nd (de_callA h_essential_few (hr.mono (by decide)) tk (da_cons (dv 0) da_nil)))
      (dss_cons (ds_set 2 sc_planned.nd (de_callA h_taken_of (hr.mono (by decide)) tk (da_cons (dv 1) da_nil)))
      (dss_cons (ds_asg (de_callA h_chained (hr.mono (by decide)) tk (da_cons (dv 2) da_nil)) (dg_tup (n := 2) rfl (dgs_cons (dg_name (i := 3) sc_planned.nd rfl (by first | exact Or.inl rfl | exact Or.inr rfl) (fun _ e => nomatch e)) (dgs_cons (dg_name (i := 4) sc_planned.nd rfl (by first | exact Or.inl rfl | exact Or.inr rfl) (fun _ e => nomatch e)) dgs_nil))))
      (dss_one (ds_ret (de_tup (da_cons (de_callA h_thinned (hr.mono (by decide)) tk (da_cons (dv 0) (da_cons (de_callA h_spread (hr.mono (by decide)) tk (da_cons (dv 3) (da_cons (dv 1) (da_cons (dv 2) da_nil)))) da_nil))) (da_cons (de_sorted G.n_sorted rfl (da_cons (dv 4) da_nil)) da_nil)))))))), fun ds M Qd Ed h => ?_⟩
  obtain ⟨d, as, rfl, hd, ⟨hl, hlb⟩, hok, h⟩ := h
  (first | (simp only [st_planned]; try sizeOf_list_dec) | sizeOf_list_dec)
  refine ⟨d, as, rfl, hd, by omega, hok, fun L hD p1 hp1 => ?_⟩
  have hr : inRow L := fun s hs => by have := hok s ((hD.2.1 s).mp hs); unfold okS at this; omega
  have hlL : L.length ≤ 15 := (hlb L hD).1
  have hlL2 := (hlb L hD).2
  have hess := essF_len hr
  have hess2 : 2 * L.length * L.length ≤ 30 * 15 := Nat.mul_le_mul (by omega) hlL
  have htk := takenOf_len (essF L)
  have hpw := essF_pw hD.1
  have nd := takenOf_nodup hpw
  obtain ⟨k1, k2, k3, k4⟩ := kept_ok hr hD.1
  have k5 := kept_len hr hD.1
  have h := h L hD
  have X1 : Ext M (mup M p1 (.lst ((essF L).map mkD))) := (Ext.refl M).up hp1
  have m1 : mup M p1 (.lst ((essF L).map mkD)) p1 = some (.lst ((essF L).map mkD)) := mup_same
  refine ⟨_, essF L, rfl, sqD_ref m1, by omega, fun p2 hp2 => ?_⟩
  generalize mup M p1 (.lst ((essF L).map mkD)) = MA at X1 m1 hp2
  have X2 : Ext MA (mup MA p2 (.lst ((takenOf (essF L)).map mkD))) := (Ext.refl MA).up hp2
  have m2 : mup MA p2 (.lst ((takenOf (essF L)).map mkD)) p2 = some (.lst ((takenOf (essF L)).map mkD)) := mup_same
  refine ⟨_, takenOf (essF L), rfl, sqD_ref m2, by omega, nd, ?_⟩
  generalize mup MA p2 (.lst ((takenOf (essF L)).map mkD)) = MB at X2 m2
  have XB := Ext.trans X1 X2
  (first | (simp only [st_planned]; try sizeOf_list_dec) | sizeOf_list_dec)
  have m1B := X2 _ _ m1
  refine ⟨_, _, _, rowsOf (takenOf (essF L)), essF L, takenOf (essF L), rfl, rfl, sqD_ref m1B, sqD_ref m2, by omega, fun r hr2 => ?_, k4, ?_⟩
  · obtain ⟨r0, hr0, rfl⟩ := List.mem_map.mp hr2
    obtain ⟨s, _, rfl⟩ := List.mem_map.mp hr0
    intro z
    exact rowF_ne _ _ _ (List.map_eq_nil_iff.mp z)
  show sp_thinned [d, .lst ((keptF L).map spD)] _ _ _
  refine ⟨d, _, as, keptF L, rfl, sq_ext XB hd, rfl, rfl, by omega, hok, fun k hk => ?_, fun bs hbs => ?_⟩
  · have z1 := inRow_en hr k3 k hk
    have z2 := (k3 k hk).2.2
    exact ⟨by omega, by omega, by omega⟩
  obtain rfl : bs = L := dst_uniq hbs hD
  refine ⟨by rw [borders_same hr k3]; exact k2, fun p3 hp3 => ?_⟩
  have X3 : Ext MB (mup MB p3 (.lst ((thinnedF bs (keptF bs)).map spD))) := (Ext.refl MB).up hp3
  refine rdSortedMk (as := unlikeOf (takenOf (essF bs))) rfl fun L4 p4 pm4 pw4 hp4 => ?_
  obtain rfl : L4 = sortMk (unlikeOf (takenOf (essF bs))) := sortMk_eq pm4 pw4
  have h34 : p3 ≠ p4 := fun z => by rw [← z, mup_same] at hp4; cases hp4
  have n3 : M p3 = none := by
    cases e : M p3 with
    | none => rfl
    | some y => have := XB p3 y e; rw [hp3] at this; cases this
  have n4 : M p4 = none := by
    cases e : M p4 with
    | none => rfl
    | some y => have := X3 p4 y (XB p4 y e); rw [hp4] at this; cases this
  exact Fin.lessE (ext_put2 XB) (h p3 p4 n3 n4 h34)
theorem sc_plan : FnScope ["asks"] ["asks"] (defScope s_plan) := ⟨rfl, rfl, rfl, by decide +kernel, rfl, by decide +kernel, by decide +kernel⟩
def sp_plan (C C2 : Addr) : DSp := fun ds M Q E => ∃ (d : D) (as : List Sp2), ds = [d] ∧ sqD M d = some (as.map spD) ∧ as.length ≤ 15 ∧ ((∀ s ∈ as, okS s) → ∀ bs, Dst as bs → ∀ p q, M p = none → M q = none → p ≠ q → Q (.tup [.ref p, .ref q]) (mup (mup M p (.lst ((planF bs).1.map spD))) q (.lst ((planF bs).2.map mkD)))) ∧ (¬ (∀ s ∈ as, okS s) → E C [("word", .str "stretch")] M)
theorem st_plan {a0 : D} : dstart ["asks"] [a0] = [some a0] := rfl
theorem ok_plan (G : Glb P w K mg base C_BadStretch C_TooLong C_Matching) (h_look_stretches : Dfk P w K mg base T "look_stretches" 5 ["some"] (sp_look_stretches C_BadStretch)) (h_planned : Dfk P w K mg base T "planned" 6 ["asks"] (sp_planned C_Matching)) (Dd : DefAt K mg "plan" s_plan ["asks"]) : Dfk P w K mg base T "plan" 7 ["asks"] (sp_plan C_BadStretch C_Matching) := by
  refine DefAt.ok Dd sc_plan (fun ds M Q E h => by
    obtain ⟨_, _, rfl, _⟩ := h
    rfl) fun f cdv A outer s H E hr => ?_
  have tk : Takes (cxOf (L2.CX P w) P w K mg base ["asks"] "plan" (defScope s_plan) f cdv A outer s H E) (wOf T E).w := takes_of rfl rfl rfl rfl
  refine ⟨_, (dss_cons (ds_expr (de_callA h_look_stretches (hr.mono (by decide)) tk (da_cons (dv 0) da_nil)))
      (dss_one (ds_ret (de_callA h_planned (hr.mono (by decide)) tk (da_cons (dv 0) da_nil))))), fun ds M Qd Ed h => ?_⟩
  obtain ⟨d, as, rfl, hd, hl, h, hx⟩ := h
  (first | (simp only [st_plan]; try sizeOf_list_dec) | sizeOf_list_dec)
  refine ⟨d, as, rfl, hd, by omega, fun g => ?_, fun g => hx fun z => g ⟨by omega, z⟩⟩
  refine ⟨d, as, rfl, hd, ⟨by omega, fun bs hb => by have := hb.2.2; omega⟩, g.2, fun bs hbs p q hp hq hpq => Fin.same (h g.2 bs hbs p q hp hq hpq)⟩
def sp_planF (C C2 : Addr) : DSp := fun ds M Q E => ∃ (d : D) (as : List Sp2), ds = [d] ∧ sqD M d = some (as.map spD) ∧ as.length ≤ 15 ∧ ((∀ s ∈ as, okS s) → ∀ bs, Dst as bs → Q (.tup [.lst ((planF bs).1.map spD), .lst ((planF bs).2.map mkD)]) M) ∧ (¬ (∀ s ∈ as, okS s) → E C [("word", .str "stretch")] M)
theorem ok_planF (G : Glb P w K mg base C_BadStretch C_TooLong C_Matching) (h_look_stretches : Dfk P w K mg base T "look_stretches" 5 ["some"] (sp_look_stretches C_BadStretch)) (h_planned : Dfk P w K mg base T "planned" 6 ["asks"] (sp_planned C_Matching)) (Dd : DefAt K mg "plan" s_plan ["asks"]) : Dfk P w K mg base T "plan" 7 ["asks"] (sp_planF C_BadStretch C_Matching) := by
  refine DefAt.ok Dd sc_plan (fun ds M Q E h => by
    obtain ⟨_, _, rfl, _⟩ := h
    rfl) fun f cdv A outer s H E hr => ?_
  have tk : Takes (cxOf (L2.CX P w) P w K mg base ["asks"] "plan" (defScope s_plan) f cdv A outer s H E) (wOf T E).w := takes_of rfl rfl rfl rfl
  refine ⟨_, (dss_cons (ds_expr (de_callA h_look_stretches (hr.mono (by decide)) tk (da_cons (dv 0) da_nil)))
      (dss_one (ds_ret (de_callA h_planned (hr.mono (by decide)) tk (da_cons (dv 0) da_nil))))), fun ds M Qd Ed h => ?_⟩
  obtain ⟨d, as, rfl, hd, hl, h, hx⟩ := h
  (first | (simp only [st_plan]; try sizeOf_list_dec) | sizeOf_list_dec)
  refine ⟨d, as, rfl, hd, by omega, fun g => ?_, fun g => hx fun z => g ⟨by omega, z⟩⟩
  refine ⟨d, as, rfl, hd, ⟨by omega, fun bs hb => by have := hb.2.2; omega⟩, g.2, fun bs hbs p q hp hq hpq => Fin.frzT2 (by rw [mup_ne hpq]; exact mup_same) mup_same hpq hp hq (((Ext.refl M).up hp).up hq) (h g.2 bs hbs)⟩
def sp_planD (C C2 : Addr) : DSp := fun ds M Q E => ∃ (d : D) (as : List Sp2), ds = [d] ∧ sqD M d = some (as.map spD) ∧ (as.length ≤ 30 ∧ ∀ bs, Dst as bs → bs.length ≤ 15 ∧ as.length + bs.length ≤ 31) ∧ ((∀ s ∈ as, okS s) → ∀ bs, Dst as bs → Q (.tup [.lst ((planF bs).1.map spD), .lst ((planF bs).2.map mkD)]) M) ∧ (¬ (∀ s ∈ as, okS s) → E C [("word", .str "stretch")] M)
theorem ok_planD (G : Glb P w K mg base C_BadStretch C_TooLong C_Matching) (h_look_stretches : Dfk P w K mg base T "look_stretches" 5 ["some"] (sp_look_stretches C_BadStretch)) (h_planned : Dfk P w K mg base T "planned" 6 ["asks"] (sp_planned C_Matching)) (Dd : DefAt K mg "plan" s_plan ["asks"]) : Dfk P w K mg base T "plan" 7 ["asks"] (sp_planD C_BadStretch C_Matching) := by
  refine DefAt.ok Dd sc_plan (fun ds M Q E h => by
    obtain ⟨_, _, rfl, _⟩ := h
    rfl) fun f cdv A outer s H E hr => ?_
  have tk : Takes (cxOf (L2.CX P w) P w K mg base ["asks"] "plan" (defScope s_plan) f cdv A outer s H E) (wOf T E).w := takes_of rfl rfl rfl rfl
  refine ⟨_, (dss_cons (ds_expr (de_callA h_look_stretches (hr.mono (by decide)) tk (da_cons (dv 0) da_nil)))
      (dss_one (ds_ret (de_callA h_planned (hr.mono (by decide)) tk (da_cons (dv 0) da_nil))))), fun ds M Qd Ed h => ?_⟩
  obtain ⟨d, as, rfl, hd, hl, h, hx⟩ := h
  (first | (simp only [st_plan]; try sizeOf_list_dec) | sizeOf_list_dec)
  refine ⟨d, as, rfl, hd, (by have := hl.1; omega), fun g => ?_, fun g => hx fun z => g ⟨(by have := hl.1; omega), z⟩⟩
  refine ⟨d, as, rfl, hd, hl, g.2, fun bs hbs p q hp hq hpq => Fin.frzT2 (by rw [mup_ne hpq]; exact mup_same) mup_same hpq hp hq (((Ext.refl M).up hp).up hq) (h g.2 bs hbs)⟩
theorem sc_first_lack : FnScope ["asks", "served", "start", "end", "cell"] ["asks", "served"] (defScope s_first_lack) := ⟨rfl, rfl, rfl, by decide +kernel, rfl, by decide +kernel, by decide +kernel⟩
def sp_first_lack (L : D) (spL : DSp) : DSp := fun ds M Q _ => ∃ (d : D) (as : List Sp2) (g : Mk → Bool), ds = [d, L] ∧ sqD M d = some (as.map spD) ∧ as.length < 64 ∧ (∀ s ∈ as, okS s) ∧ (∀ m, okM m → ∀ M1 Q1 E1, Ext M M1 → Q1 (.bl (g m)) M1 → spL [mkD m] M1 Q1 E1) ∧ ∀ bs, Dst as bs → Q (lackD g (marksOf bs)) M
theorem st_first_lack {a0 a1 : D} : dstart ["asks", "served", "start", "end", "cell"] [a0, a1] = [some a0, some a1, none, none, none] := rfl
theorem ok_first_lack (G : Glb P w K mg base C_BadStretch C_TooLong C_Matching) (h_distinct : Dfk P w K mg base T "distinct" 1 ["some"] sp_distinct) (Dd : DefAt K mg "first_lack" s_first_lack ["asks", "served"]) : Hof P w K mg base T "first_lack" 9 8 ["asks", "served"] sp_first_lack := by
  refine hof_of Dd sc_first_lack (fun L spL ds M Q E h => by
    obtain ⟨_, _, _, rfl, _⟩ := h
    rfl) fun GL be fr ws wd spL LK f cdv A outer s H E C hr => ?_
  have tk : Takes (cxOf (L2.CX P w) P w K mg base ["asks", "served", "start", "end", "cell"] "first_lack" (defScope s_first_lack) f cdv A outer s H E) (wOf T E).w := takes_of rfl rfl rfl rfl
  refine ⟨_, (dss_cons (ds_for (passes_of rfl) rfl (di_seq (de_callA h_distinct (hr.mono (by decide)) tk (da_cons (dv 0) da_nil))) (dg_tup (n := 2) rfl (dgs_cons (dg_name (i := 2) sc_first_lack.nd rfl (by first | exact Or.inl rfl | exact Or.inr rfl) (fun _ e => nomatch e)) (dgs_cons (dg_name (i := 3) sc_first_lack.nd rfl (by first | exact Or.inl rfl | exact Or.inr rfl) (fun _ e => nomatch e)) dgs_nil))) (dss_one (ds_for (passes_of rfl) rfl (di_rng2 rfl G.n_range (da_cons (dv 2) (da_cons (dv 3) da_nil))) (dg_name (i := 4) sc_first_lack.nd rfl (by first | exact Or.inl rfl | exact Or.inr rfl) (fun _ e => nomatch e)) (dss_one (ds_if (dt_not (dt_val (de_act (j := 1) (K := ⟨K, T⟩) rfl LK (by exact Holds.start C rfl) (hr.mono (by decide)) tk (da_cons (de_tup (da_cons (dv 4) (da_cons (dv 2) (da_cons (dv 3) da_nil)))) da_nil)))) (dss_one (ds_ret (de_tup (da_cons (dv 4) (da_cons (dv 2) (da_cons (dv 3) da_nil)))))) dss_nil)))))
      (dss_one (ds_ret de_non))), fun fL ds M Qd Ed h => ?_⟩
  obtain ⟨d, as, g, rfl, hd, hl, hok, hg, h⟩ := h
  (first | (simp only [st_first_lack]; try sizeOf_list_dec) | sizeOf_list_dec)
  refine ⟨d, as, rfl, hd, hl, hok, fun bs hb1 hb2 hb3 => ?_⟩
  have hD : Dst as bs := ⟨hb3, hb1, hb2⟩
  have noneI : ∀ ms : List Mk, (∀ m ∈ ms, g m = true) → ms.find? (fun m => !g m) = none := fun ms hm => by
    rw [List.find?_eq_none]
    intro m h1
    simp [hm m h1]
  let I : Nat → DG → Mp → Prop := fun i Γ2 M2 => ∃ c2 c3 c4, Γ2 = [some d, some (lamD ⟨K, T⟩ fL GL be ws wd), c2, c3, c4] ∧ M = M2 ∧ ∀ m ∈ marksOf (bs.take i), g m = true
  refine ⟨_, rfl, forBy I ⟨_, _, _, rfl, rfl, fun m hm => by simp [marksOf] at hm⟩ (fun _ _ _ _ => rfl) ?_ ?_⟩
  · rintro i s _ _ hs ⟨c2, c3, c4, rfl, rfl, hal⟩
    have hso := hok s ((hb1 s).mp (List.mem_of_getElem? hs))
    have hso' : 0 ≤ s.1 ∧ s.1 < s.2 ∧ s.2 ≤ 400 := hso
    (first | (simp only [st_first_lack]; try sizeOf_list_dec) | sizeOf_list_dec)
    refine ⟨⟨by omega, by omega⟩, ⟨by omega, by omega⟩, by omega, ?_⟩
    let J : Nat → DG → Mp → Prop := fun k Γ2 M2 => ∃ c4, Γ2 = [some d, some (lamD ⟨K, T⟩ fL GL be ws wd), some (.int s.1), some (.int s.2), c4] ∧ M = M2 ∧ ∀ m ∈ (marksOf1 s).take k, g m = true
    refine forRng J ⟨_, rfl, rfl, fun m hm => by simp at hm⟩ (fun _ => trivial) ?_ ?_
    · rintro k _ _ hk ⟨c4, rfl, rfl, hal2⟩
      have om : okM (s.1 + (k : Nat), s.1, s.2) := ⟨hso'.1, hso'.2.1, hso'.2.2, by show s.1 ≤ s.1 + (k : Int); omega, by show s.1 + (k : Int) < s.2; omega⟩
      have hgk : (marksOf1 s)[k]? = some (s.1 + (k : Nat), s.1, s.2) := by
        unfold marksOf1
        rw [List.getElem?_map, List.getElem?_range hk]
        rfl
      have hlk : k < (marksOf1 s).length := (List.getElem?_eq_some_iff.mp hgk).1
      (first | (simp only [st_first_lack]; try sizeOf_list_dec) | sizeOf_list_dec)
      refine ⟨⟨fL, rfl⟩, ?_⟩
      refine hg _ om _ _ _ (Ext.refl M) ?_
      refine ⟨_, rfl, ?_⟩
      cases hgm : g (s.1 + (k : Nat), s.1, s.2) with
      | true =>
        rw [if_neg (by decide)]
        refine ⟨_, rfl, rfl, fun m hm => ?_⟩
        rw [List.take_add_one, hgk] at hm
        rcases List.mem_append.mp hm with hm | hm
        · exact hal2 m hm
        · obtain rfl : m = (s.1 + (k : Nat), s.1, s.2) := by simpa using hm
          exact hgm
      | false =>
        rw [if_pos rfl]
        have hb := h bs hD
        have e : (marksOf bs).find? (fun m => !g m) = some (s.1 + (k : Nat), s.1, s.2) := by
          have e1 : marksOf bs = marksOf (bs.take i) ++ ((marksOf1 s).take k ++ ((s.1 + (k : Nat), s.1, s.2) :: ((marksOf1 s).drop (k + 1) ++ marksOf (bs.drop (i + 1))))) := by
            have e2 : (marksOf1 s).take k ++ ((s.1 + (k : Nat), s.1, s.2) :: (marksOf1 s).drop (k + 1)) = marksOf1 s := by
              have := (List.getElem?_eq_some_iff.mp hgk).2
              rw [← this, List.getElem_cons_drop, List.take_append_drop]
            have e3 : bs = bs.take (i + 1) ++ bs.drop (i + 1) := (List.take_append_drop _ _).symm
            conv => lhs; rw [e3]
            rw [marksOf_app, marksOf_take hs, ← List.cons_append, ← List.append_assoc ((marksOf1 s).take k), e2, List.append_assoc]
          rw [e1, List.find?_append, noneI _ hal, List.find?_append, noneI _ hal2]
          simp [hgm]
        unfold lackD at hb
        rw [e] at hb
        exact Fin.same hb
    · rintro _ _ ⟨c4, rfl, rfl, hal2⟩
      refine ⟨_, _, _, rfl, rfl, fun m hm => ?_⟩
      rw [marksOf_take hs] at hm
      rcases List.mem_append.mp hm with hm | hm
      · exact hal m hm
      · refine hal2 m ?_
        rw [List.take_of_length_le (by simp [marksOf1])]
        exact hm
  · rintro _ _ ⟨c2, c3, c4, rfl, rfl, hal⟩
    sizeOf_list_dec
    rw [List.take_length] at hal
    have hb := h bs hD
    unfold lackD at hb
    rw [noneI _ hal] at hb
    exact Fin.same hb
theorem sc_holds_just : FnScope ["lot", "mark"] ["lot", "mark"] (defScope s_holds_just) := ⟨rfl, rfl, rfl, by decide +kernel, rfl, by decide +kernel, by decide +kernel⟩
def sp_holds_just : DSp := fun ds M Q _ => ∃ (d : D) (cs : List Int) (m : Mk), ds = [d, mkD m] ∧ sqD M d = some (cs.map D.int) ∧ Q (.bl (holdsB cs m)) M
theorem st_holds_just {a0 a1 : D} : dstart ["lot", "mark"] [a0, a1] = [some a0, some a1] := rfl
theorem ok_holds_just (G : Glb P w K mg base C_BadStretch C_TooLong C_Matching) (Dd : DefAt K mg "holds_just" s_holds_just ["lot", "mark"]) : Dfk P w K mg base T "holds_just" 1 ["lot", "mark"] sp_holds_just := by
  refine DefAt.ok Dd sc_holds_just (fun ds M Q E h => by
    obtain ⟨_, _, _, rfl, _⟩ := h
    rfl) fun f cdv A outer s H E hr => ?_
  have tk : Takes (cxOf (L2.CX P w) P w K mg base ["lot", "mark"] "holds_just" (defScope s_holds_just) f cdv A outer s H E) (wOf T E).w := takes_of rfl rfl rfl rfl
  refine ⟨_, (dss_one (ds_ret (de_and (de_cmp (op_inD (Room.un65 hr)) real_in (de_ix (dv 1) de_int) (dv 0) (by with_unfolding_all rfl)) (de_and (de_cmp op_le real_le (de_ix (dv 1) de_int) (de_callB (cr_min rfl) real_min rfl G.n_min rfl (da_cons (dv 0) da_nil)) (nomark _)) (de_one (de_cmp op_lt real_lt (de_callB (cr_max rfl) real_max rfl G.n_max rfl (da_cons (dv 0) da_nil)) (de_ix (dv 1) de_int) (nomark _))))))), fun ds M Qd Ed h => ?_⟩
  obtain ⟨d, cs, m, rfl, hd, h⟩ := h
  (first | (simp only [st_holds_just]; try sizeOf_list_dec) | sizeOf_list_dec)
  refine (inD (f := D.int) (n := 0) (lay_int 0) (fun a b => deq_int) res_int hd (by decide)).mpr ⟨_, rfl, fun h1 => ?_, fun h1 => ?_⟩
  · have h1 := of_decide_eq_true h1
    have hl : 0 < cs.length := List.length_pos_of_mem h1
    refine ⟨d, cs, rfl, hd, hl, fun a ha hmin => ?_⟩
    (first | (simp only [st_holds_just]; try sizeOf_list_dec) | sizeOf_list_dec)
    refine ⟨fun h2 => ⟨d, cs, rfl, hd, hl, fun b hb hmax => ?_⟩, fun h2 => ?_⟩
    · (first | (simp only [st_holds_just]; try sizeOf_list_dec) | sizeOf_list_dec)
      have : decide (b < m.2.2) = holdsB cs m := decide_eq_decide.mpr ⟨fun h3 => ⟨h1, fun c hc => ⟨by have := hmin c hc; omega, by have := hmax c hc; omega⟩⟩, fun z => (z.2 b hb).2⟩
      rw [this]
      exact Fin.same h
    · have : holdsB cs m = false := decide_eq_false fun z => h2 (z.2 a ha).1
      rw [this] at h
      exact Fin.same h
  · have : holdsB cs m = false := decide_eq_false fun z => (of_decide_eq_false h1) z.1
    rw [this] at h
    exact Fin.same h
theorem sc_unserved_by_sets : FnScope ["asks", "lots", "lot", "cell"] ["asks", "lots"] (defScope s_unserved_by_sets) := ⟨rfl, rfl, rfl, by decide +kernel, rfl, by decide +kernel, by decide +kernel⟩
def sp_unserved_by_sets (C : Addr) : DSp := fun ds M Q E => ∃ (d e : D) (as : List Sp2) (L : List (List Int)), ds = [d, e] ∧ sqD M d = some (as.map spD) ∧ sqD M e = some (L.map lotD) ∧ as.length ≤ 10000 ∧ L.length ≤ 10000 ∧ (∀ cs ∈ L, cs.length ≤ 10000) ∧
  (goodL as → goodLots L → ∀ bs, Dst as bs → Q (lackD (heldBy L) (marksOf bs)) M) ∧ (¬ (goodL as ∧ goodLots L) → E C [("word", .str "stretch")] M)
theorem st_unserved_by_sets {a0 a1 : D} : dstart ["asks", "lots", "lot", "cell"] [a0, a1] = [some a0, some a1, none, none] := rfl
theorem ok_unserved_by_sets (G : Glb P w K mg base C_BadStretch C_TooLong C_Matching) (h_first_lack : Hof P w K mg base T "first_lack" 9 8 ["asks", "served"] sp_first_lack) (h_holds_just : Dfk P w K mg base T "holds_just" 1 ["lot", "mark"] sp_holds_just) (h_look_stretch : Dfk P w K mg base T "look_stretch" 4 ["one"] (sp_look_stretch C_BadStretch)) (h_look_stretches : Dfk P w K mg base T "look_stretches" 5 ["some"] (sp_look_stretches C_BadStretch)) (Dd : DefT K mg base T "unserved_by_sets" s_unserved_by_sets ["asks", "lots"]) : Dfk P w K mg base T "unserved_by_sets" 10 ["asks", "lots"] (sp_unserved_by_sets C_BadStretch) := by
  refine DefT.ok Dd sc_unserved_by_sets (fun ds M Q E h => by
    obtain ⟨_, _, _, _, rfl, _⟩ := h
    rfl) fun f cdv A outer s H E LA hr => ?_
  have tk : Takes (cxOf (L2.CX P w) P w K mg base ["asks", "lots", "lot", "cell"] "unserved_by_sets" (defScope s_unserved_by_sets) f cdv A outer s H E) (wOf T E).w := takes_of rfl rfl rfl rfl
  refine ⟨_, (dss_cons (ds_expr (de_callA h_look_stretches (hr.mono (by decide)) tk (da_cons (dv 0) da_nil)))
      (dss_cons (ds_for (passes_of rfl) rfl (di_seq (dv 1)) (dg_name (i := 2) sc_unserved_by_sets.nd rfl (by first | exact Or.inl rfl | exact Or.inr rfl) (fun _ e => nomatch e)) (dss_one (ds_for (passes_of rfl) rfl (di_seq (dv 2)) (dg_name (i := 3) sc_unserved_by_sets.nd rfl (by first | exact Or.inl rfl | exact Or.inr rfl) (fun _ e => nomatch e)) (dss_one (ds_expr (de_callA h_look_stretch (hr.mono (by decide)) tk (da_cons (de_tup (da_cons (dv 3) (da_cons (de_globI G.m_CELLS) da_nil))) da_nil)))))))
      (dss_one (ds_ret (de_hof1 (js := [1]) (fr := ["lots"]) (spL := fun wd => spLm ["mark", "lots", "lot"] 1 wd _) h_first_lack LA (fun _ wd => LmK.mono (lmk_ofC (N := ["mark", "lots", "lot"]) (ps := ["mark"]) (fr := ["lots"]) (k := 1) (nscopeC_by (by dsimp only [lamF]; decide +kernel)) (clo_fr (N := ["mark", "lots", "lot"]) (ps := ["mark"]) (nscopeC_by (by dsimp only [lamF]; decide +kernel)) rfl) (fun _ _ us hl => match us, hl with | [_], _ => rfl) (fun f L A outer s H E hL hr => (de_callB (cr_any rfl) real_any rfl G.n_any rfl (da_cons (de_lcN (LcOk.mk (own := [("lot", 2)]) rfl (show List.Nodup (["mark", "lots", "lot"] : List Str) by decide +kernel) (di_seq (dv 1)) (blkOk_by (N := ["mark", "lots", "lot"]) (sc := _) (by first | decide +kernel | kernel_rfl | rfl)) (fun _ _ _ _ _ => (dg_name (i := 2) (show List.Nodup (["mark", "lots", "lot"] : List Str) by decide +kernel) rfl (by first | exact Or.inl rfl | exact Or.inr rfl) (fun _ e => by cases e; decide))) (fun _ _ _ _ _ => dts_nil) (fun _ _ _ _ _ => (de_callA h_holds_just (hr.mono (by decide)) takes_none5 (da_cons (dv 2) (da_cons (dv 0) da_nil)))))) da_nil)))) (by decide)) (by show NdefX.ndefB (defScope s_unserved_by_sets) _ _ = true; decide +kernel) rfl (hr.mono (by decide)) tk rfl (dv 0)))))), fun ds M Qd Ed h => ?_⟩
  obtain ⟨d, e, as, L, rfl, hd, he, hl1, hl2, hl3, h, hx⟩ := h
  (first | (simp only [st_unserved_by_sets]; try sizeOf_list_dec) | sizeOf_list_dec)
  refine ⟨d, as, rfl, hd, hl1, fun g1 => ?_, fun g1 => hx fun z => g1 z.1⟩
  have g1l := g1.1
  let I : Nat → DG → Mp → Prop := fun i Γ2 M2 => ∃ c2 c3, Γ2 = [some d, some e, c2, c3] ∧ M = M2 ∧ goodLots (L.take i)
  refine ⟨_, itSq he, forBy I ⟨_, _, rfl, rfl, fun cs hcs => by simp at hcs⟩ (fun _ _ _ hI => by obtain ⟨_, _, _, rfl, _⟩ := hI; exact itSq he) ?_ ?_⟩
  · rintro i cs _ _ hcs ⟨c2, c3, rfl, rfl, hg⟩
    (first | (simp only [st_unserved_by_sets]; try sizeOf_list_dec) | sizeOf_list_dec)
    have hmem : cs ∈ L := List.mem_of_getElem? hcs
    let J : Nat → DG → Mp → Prop := fun j Γ2 M2 => ∃ c3, Γ2 = [some d, some e, some (lotD cs), c3] ∧ M = M2 ∧ ∀ c ∈ cs.take j, okS (c, 400)
    refine ⟨_, rfl, forBy (f := D.int) (xs := cs) J ⟨_, rfl, rfl, fun c hc => by simp at hc⟩ (fun _ _ _ _ => rfl) ?_ ?_⟩
    · rintro j c _ _ hc ⟨c3, rfl, rfl, hj⟩
      (first | (simp only [st_unserved_by_sets]; try sizeOf_list_dec) | sizeOf_list_dec)
      refine ⟨(c, 400), rfl, ?_⟩
      by_cases hk : okS (c, 400)
      · rw [if_pos hk]
        refine ⟨_, rfl, rfl, fun x hx2 => ?_⟩
        rw [List.take_add_one, hc] at hx2
        rcases List.mem_append.mp hx2 with hx2 | hx2
        · exact hj x hx2
        · obtain rfl : x = c := by simpa using hx2
          exact hk
      · rw [if_neg hk]
        exact hx fun z => hk (z.2 cs hmem c (List.mem_of_getElem? hc))
    · rintro _ _ ⟨c3, rfl, rfl, hj⟩
      rw [List.take_length] at hj
      refine ⟨_, _, rfl, rfl, fun x hx2 => ?_⟩
      rw [List.take_add_one, hcs] at hx2
      rcases List.mem_append.mp hx2 with hx2 | hx2
      · exact hg x hx2
      · obtain rfl : x = cs := by simpa using hx2
        exact hj
  · rintro _ _ ⟨c2, c3, rfl, rfl, hg⟩
    rw [List.take_length] at hg
    sizeOf_list_dec
    refine fun fL c ws => ⟨d, as, heldBy L, rfl, hd, by omega, g1.2, fun m om M1 Q1 E1 hM q => ?_, fun bs hb => Fin.same (h g1 hg bs hb)⟩
    refine ⟨rfl, ?_⟩
    sizeOf_list_dec
    refine ⟨_, itSq (sq_ext hM he), LI_F (F := lotD) (xs := L) injLot (fun cs => some (.bl (holdsB cs m))) (fun M' hM2 => itSq (sq_ext hM2 (sq_ext hM he))) (fun cs hcs M' hM2 => ?_) ?_⟩
    · sizeOf_list_dec
      exact ⟨_, cs, m, rfl, rfl, rfl, rfl⟩
    · refine anyT (L.map fun cs => holdsB cs m) (by rw [filterMap_some, List.map_map]; rfl) ?_
      rw [List.any_map]
      exact q
theorem sc_outside : FnScope ["mark", "size", "cell"] ["mark", "size"] (defScope s_outside) := ⟨rfl, rfl, rfl, by decide +kernel, rfl, by decide +kernel, by decide +kernel⟩
def sp_outside : DSp := fun ds M Q _ => ∃ (m : Mk) (n : Int), ds = [mkD m, .int n] ∧ 0 ≤ n ∧ n ≤ 1000 ∧ Q (.lst ((outR m n.toNat).map D.int)) M
theorem st_outside {a0 a1 : D} : dstart ["mark", "size", "cell"] [a0, a1] = [some a0, some a1, none] := rfl
theorem ok_outside (G : Glb P w K mg base C_BadStretch C_TooLong C_Matching) (Dd : DefAt K mg "outside" s_outside ["mark", "size"]) : Dfk P w K mg base T "outside" 1 ["mark", "size"] sp_outside := by
  refine DefAt.ok Dd sc_outside (fun ds M Q E h => by
    obtain ⟨_, _, rfl, _⟩ := h
    rfl) fun f cdv A outer s H E hr => ?_
  have tk : Takes (cxOf (L2.CX P w) P w K mg base ["mark", "size", "cell"] "outside" (defScope s_outside) f cdv A outer s H E) (wOf T E).w := takes_of rfl rfl rfl rfl
  refine ⟨_, (dss_one (ds_ret (de_lcN (LcOk.mk (own := [("cell", 2)]) rfl sc_outside.nd (di_rng1 rfl G.n_range (da_cons (dv 1) da_nil)) (blkOk_by (N := ["mark", "size", "cell"]) (sc := defScope s_outside) (by decide +kernel)) (fun _ _ _ _ _ => (dg_name (i := 2) sc_outside.nd rfl (by first | exact Or.inl rfl | exact Or.inr rfl) (fun _ e => by cases e; decide))) (fun _ _ _ _ _ => dts_nil) (fun _ _ _ _ _ => (de_callTy call_int1 real_int1 rfl G.n_int rfl (da_cons (de_not (de_chain op_le op_lt real_le real_lt (de_ix (dv 0) de_int) (dv 2) (de_ix (dv 0) de_int))) da_nil))))))), fun ds M Qd Ed h => ?_⟩
  obtain ⟨m, n, rfl, h1, h2, h⟩ := h
  (first | (simp only [st_outside]; try sizeOf_list_dec) | sizeOf_list_dec)
  refine ⟨⟨by omega, by omega⟩, LI_F (xs := List.range n.toNat) (injRng (by decide)) (fun k => some (.int (if m.2.1 ≤ (k : Int) ∧ (k : Int) < m.2.2 then 0 else 1))) (fun _ _ => trivial) (fun k hk M' _ => ?_) ?_⟩
  · (first | (simp only [st_outside]; try sizeOf_list_dec) | sizeOf_list_dec)
    refine ⟨fun q1 => int1_bl ⟨rfl, ?_⟩, fun q1 => int1_bl ⟨rfl, ?_⟩⟩
    · by_cases q2 : (k : Int) < m.2.2 <;> simp [q1, q2]
    · simp [q1]
  · rw [filterMap_some]
    have : (List.range n.toNat).map (fun k : Nat => D.int (if m.2.1 ≤ (k : Int) ∧ (k : Int) < m.2.2 then 0 else 1)) = (outR m n.toNat).map D.int := by rw [outR, List.map_map]; rfl
    rw [this]
    exact Fin.same h
theorem sc_reach : FnScope ["asks", "lots", "start", "end", "lot", "cell"] ["asks", "lots"] (defScope s_reach) := ⟨rfl, rfl, rfl, by decide +kernel, rfl, by decide +kernel, by decide +kernel⟩
def sp_reach : DSp := fun ds M Q _ => ∃ (d e : D) (as : List Sp2) (L : List (List Int)), ds = [d, e] ∧ sqD M d = some (as.map spD) ∧ sqD M e = some (L.map lotD) ∧ as.length ≤ 1000 ∧ L.length ≤ 1000 ∧ (∀ cs ∈ L, cs.length ≤ 1000) ∧ ∀ r : Int, (∀ n : Int, 0 ≤ n → (r ≤ n ↔ fitsI as L n)) → Q (.int r) M
theorem st_reach {a0 a1 : D} : dstart ["asks", "lots", "start", "end", "lot", "cell"] [a0, a1] = [some a0, some a1, none, none, none, none] := rfl
theorem ok_reach (G : Glb P w K mg base C_BadStretch C_TooLong C_Matching) (Dd : DefAt K mg "reach" s_reach ["asks", "lots"]) : Dfk P w K mg base T "reach" 1 ["asks", "lots"] sp_reach := by
  refine DefAt.ok Dd sc_reach (fun ds M Q E h => by
    obtain ⟨_, _, _, _, rfl, _⟩ := h
    rfl) fun f cdv A outer s H E hr => ?_
  have tk : Takes (cxOf (L2.CX P w) P w K mg base ["asks", "lots", "start", "end", "lot", "cell"] "reach" (defScope s_reach) f cdv A outer s H E) (wOf T E).w := takes_of rfl rfl rfl rfl
  refine ⟨_, (dss_one (ds_ret (de_callBK (cr_maxDf rfl) real_maxDf rfl G.n_max rfl (da_cons (de_op op_add3 real_add (de_lcN (LcOk.mk (own := [("start", 2), ("end", 3)]) rfl sc_reach.nd (di_seq (dv 0)) (blkOk_by (N := ["asks", "lots", "start", "end", "lot", "cell"]) (sc := defScope s_reach) (by decide +kernel)) (fun _ _ _ _ _ => (dg_tup (n := 2) rfl (dgs_cons (dg_name (i := 2) sc_reach.nd rfl (by first | exact Or.inl rfl | exact Or.inr rfl) (fun _ e => by cases e; decide)) (dgs_cons (dg_name (i := 3) sc_reach.nd rfl (by first | exact Or.inl rfl | exact Or.inr rfl) (fun _ e => by cases e; decide)) dgs_nil)))) (fun _ _ _ _ _ => dts_nil) (fun _ _ _ _ _ => (dv 3)))) (de_frz (de_lc2O (own := [("lot", 4), ("cell", 5)]) [5] rfl sc_reach.nd (di_seq (dv 1)) (blkOk_by (N := ["asks", "lots", "start", "end", "lot", "cell"]) (sc := defScope s_reach) (by decide +kernel)) (fun _ _ _ _ _ => (dg_name (i := 4) sc_reach.nd rfl (by first | exact Or.inl rfl | exact Or.inr rfl) (fun _ e => by cases e; decide))) (fun _ _ _ _ _ => dts_nil) (fun _ _ _ _ _ => (di_seq (dv 4))) (fun _ _ _ _ _ => (dg_name (i := 5) sc_reach.nd rfl (by first | exact Or.inl rfl | exact Or.inr rfl) (fun _ e => by cases e; decide))) (fun _ _ _ _ _ => dts_nil) (fun _ _ _ _ _ => (de_op op_add3 real_add (dv 5) de_int))))) da_nil) (dk_one de_int)))), fun ds M Qd Ed h => ?_⟩
  obtain ⟨d, e, as, L, rfl, hd, he, hl1, hl2, hl3, h⟩ := h
  (first | (simp only [st_reach]; try sizeOf_list_dec) | sizeOf_list_dec)
  refine ⟨_, itSq hd, LI_F (F := spD) (xs := as) injSp (fun s => some (.int s.2)) (fun M' hM => itSq (sq_ext hM hd)) (fun s hs M' hM => ?_) ?_⟩
  · (first | (simp only [st_reach]; try sizeOf_list_dec) | sizeOf_list_dec)
  refine ⟨_, itSq he, fun dd r => ∀ cs, dd = lotD cs → r = cs.map (fun c => D.int (c + 1)), 1000, ?_, fun M' hM => itSq (sq_ext hM he), fun dd hdd M' hM => ?_, fun rs hrs p hp => ?_⟩
  · rw [List.length_map, szl]
    have := Nat.mul_le_mul_right 1000 hl2
    omega
  · obtain ⟨cs, hcs, rfl⟩ := List.mem_map.mp hdd
    refine ⟨_, rfl, by rw [List.length_map]; exact hl3 cs hcs, L2in_F (F := D.int) (xs := cs) injInt (fun c => some (.int (c + 1))) (fun _ _ => rfl) (fun c hc M2 hM2 => ?_) ?_⟩
    · (first | (simp only [st_reach]; try sizeOf_list_dec) | sizeOf_list_dec)
    · intro cs2 e2
      have := injLot _ _ e2
      subst this
      rw [filterMap_some]
  · have lenF : ∀ L : List (List Int), (∀ cs ∈ L, cs.length ≤ 1000) → ((L.map fun cs => cs.map fun c => D.int (c + 1)).flatten).length ≤ L.length * 1000 := fun L => by
      induction L with
      | nil => intro _; simp
      | cons c L ih =>
        intro hL
        have h1 := hL c List.mem_cons_self
        have h2 := ih fun x hx => hL x (List.mem_cons_of_mem _ hx)
        simp only [List.map_cons, List.flatten_cons, List.length_append, List.length_map, List.length_cons] at h2 ⊢
        omega
    have hlF := lenF L hl3
    rw [all2_flat hrs, mdel_mup hp, filterMap_some, addL]
    have ens : as.map (fun s => D.int s.2) ++ (L.map fun cs => cs.map fun c => D.int (c + 1)).flatten = (as.map (·.2) ++ (L.map fun cs => cs.map (· + (1 : Int))).flatten).map D.int := by
      rw [List.map_append, List.map_flatten, List.map_map, List.map_map]
      congr 1
      congr 1
      refine List.map_congr_left fun cs _ => ?_
      show cs.map _ = (cs.map _).map _
      rw [List.map_map]
      rfl
    rw [ens]
    have hlF2 : (List.map (List.map fun c => D.int (c + 1)) L).flatten.length ≤ L.length * 1000 := hlF
    refine ⟨by rw [szl, List.length_map]; omega, ?_⟩
    refine maxDf_of rfl fun r hr => Fin.same (h r fun n hn => ?_)
    have key : (∀ y ∈ as.map (·.2) ++ (L.map fun cs => cs.map (· + (1 : Int))).flatten, y ≤ n) ↔ fitsI as L n := by
      unfold fitsI
      constructor
      · intro z
        exact ⟨fun s hs => z _ (List.mem_append_left _ (List.mem_map.mpr ⟨s, hs, rfl⟩)), fun cs hcs c hc => z _ (List.mem_append_right _ (List.mem_flatten.mpr ⟨_, List.mem_map.mpr ⟨cs, hcs, rfl⟩, List.mem_map.mpr ⟨c, hc, rfl⟩⟩))⟩
      · rintro ⟨z1, z2⟩ y hy
        rcases List.mem_append.mp hy with hy | hy
        · obtain ⟨s, hs, rfl⟩ := List.mem_map.mp hy
          exact z1 s hs
        · obtain ⟨l, hl, hy⟩ := List.mem_flatten.mp hy
          obtain ⟨cs, hcs, rfl⟩ := List.mem_map.mp hl
          obtain ⟨c, hc, rfl⟩ := List.mem_map.mp hy
          exact z2 cs hcs c hc
    rw [← key]
    rcases hr with ⟨e, rfl⟩ | ⟨hm, hx⟩
    · rw [e]
      exact ⟨fun _ y hy => (by cases hy), fun _ => hn⟩
    · exact ⟨fun z y hy => Int.le_trans (hx y hy) z, fun z => z r hm⟩
theorem sc_foil : FnScope ["asks", "lots", "size", "mark", "one", "two"] ["asks", "lots", "size"] (defScope s_foil) := ⟨rfl, rfl, rfl, by decide +kernel, rfl, by decide +kernel, by decide +kernel⟩
def sp_foil (C C2 : Addr) : DSp := fun ds M Q E => ∃ (d e : D) (as : List Sp2) (L : List (List Int)) (n : Int), ds = [d, e, .int n] ∧ sqD M d = some (as.map spD) ∧ sqD M e = some (L.map lotD) ∧ as.length ≤ 1000 ∧ L.length ≤ 1000 ∧ (∀ cs ∈ L, cs.length ≤ 1000) ∧ 0 ≤ n ∧
  (¬ (goodL as ∧ goodLots L) → E C [("word", .str "stretch")] M) ∧ (goodL as → goodLots L → (¬ (fitsI as L n ∧ n ≤ 400) → E C2 [("word", .str "long")] M) ∧ (fitsI as L n → n ≤ 400 → ∀ bs, Dst as bs → Q (foilD L (marksOf bs) n.toNat) M))
theorem st_foil {a0 a1 a2 : D} : dstart ["asks", "lots", "size", "mark", "one", "two"] [a0, a1, a2] = [some a0, some a1, some a2, none, none, none] := rfl
theorem ok_foil (G : Glb P w K mg base C_BadStretch C_TooLong C_Matching) (h_outside : Dfk P w K mg base T "outside" 1 ["mark", "size"] sp_outside) (h_reach : Dfk P w K mg base T "reach" 1 ["asks", "lots"] sp_reach) (h_unserved_by_sets : Dfk P w K mg base T "unserved_by_sets" 10 ["asks", "lots"] (sp_unserved_by_sets C_BadStretch)) (Dd : DefAtK K mg "foil" s_foil ["asks", "lots", "size"] 2 ["size"] [V.int 400]) : DfkK P w K mg base T "foil" 11 ["asks", "lots", "size"] 2 ["size"] [V.int 400] (sp_foil C_BadStretch C_TooLong) := by
  refine DefAtK.ok Dd sc_foil (fun ds M Q E h => by
    obtain ⟨_, _, _, _, _, rfl, _⟩ := h
    rfl) fun f cdv A outer s H E hr => ?_
  have tk : Takes (cxOf (L2.CX P w) P w K mg base ["asks", "lots", "size", "mark", "one", "two"] "foil" (defScope s_foil) f cdv A outer s H E) (wOf T E).w := takes_of rfl rfl rfl rfl
  refine ⟨_, (dss_cons (ds_set 3 sc_foil.nd (de_callA h_unserved_by_sets (hr.mono (by decide)) tk (da_cons (dv 0) (da_cons (dv 1) da_nil))))
      (dss_cons (ds_if (dt_not (dt_chain op_le op_le real_le real_le (de_callA h_reach (hr.mono (by decide)) tk (da_cons (dv 0) (da_cons (dv 1) da_nil))) (dv 2) (de_globI G.m_CELLS))) (dss_one (ds_raise0 G.x_TooLong rf0 (hr.mono (by decide)) rfl tk)) dss_nil)
      (dss_cons (ds_if (dt_cmp op_isN real_isN (dv 3) de_non (nomark _)) (dss_one (ds_ret de_non)) dss_nil)
      (dss_cons (ds_set 4 sc_foil.nd (de_callA h_outside (hr.mono (by decide)) tk (da_cons (dv 3) (da_cons (dv 2) da_nil))))
      (dss_cons (ds_set 5 sc_foil.nd (de_callTy call_list_of real_list rfl G.n_list rfl (da_cons (dv 4) da_nil)))
      (dss_cons (ds_asg de_int (dg_sub (dv 5) (de_ix (dv 3) de_int)))
      (dss_one (ds_ret (de_tup (da_cons (de_sl (dv 3) (do_some de_int) do_none) (da_cons (dv 4) (da_cons (dv 5) da_nil)))))))))))), fun ds M Qd Ed h => ?_⟩
  obtain ⟨d, e, as, L, n, rfl, hd, he, hl1, hl2, hl3, hn, hx, h⟩ := h
  (first | (simp only [st_foil]; try sizeOf_list_dec) | sizeOf_list_dec)
  refine ⟨d, e, as, L, rfl, hd, he, by omega, by omega, fun cs hcs => by have := hl3 cs hcs; omega, fun g1 g2 bs hbs => ?_, hx⟩
  obtain ⟨h1, h2⟩ := h g1 g2
  refine ⟨d, e, as, L, rfl, hd, he, hl1, hl2, hl3, fun r hr => ?_⟩
  (first | (simp only [st_foil]; try sizeOf_list_dec) | sizeOf_list_dec)
  refine ⟨fun q => ?_, fun q => h1 fun z => q ((hr n hn).mpr z.1)⟩
  have fit := (hr n hn).mp q
  by_cases q2 : n ≤ 400
  · rw [if_neg (not_not_intro q2)]
    have hq := h2 fit q2 bs hbs
    unfold foilD at hq
    unfold lackD
    cases hf : (marksOf bs).find? (fun m => !heldBy L m) with
    | none =>
      rw [hf] at hq
      (first | (simp only [st_foil]; try sizeOf_list_dec) | sizeOf_list_dec)
      exact Fin.same hq
    | some m =>
      rw [hf] at hq
      sizeOf_list_dec
      refine ⟨m, n, rfl, hn, by omega, ?_⟩
      refine ⟨_, (outR m n.toNat).map D.int, rfl, rfl, fun p hp => ?_⟩
      sizeOf_list_dec
      obtain ⟨m1, m2, m3⟩ := mem_marksOf.mp (List.mem_of_find?_eq_some hf)
      have hs := (hbs.2.1 _).mp m1
      have ok := g1.2 _ hs
      have f1 : m.2.2 ≤ n := fit.1 _ hs
      have o1 : 0 ≤ m.2.1 := ok.1
      have hlen : (outR m n.toNat).length = n.toNat := by simp [outR]
      refine ⟨m.1.toNat, ?_, ?_⟩
      · have := ixN_nat (n := (outR m n.toNat).length) (k := m.1.toNat) (by rw [hlen]; omega)
        rw [Int.toNat_of_nonneg (by omega)] at this
        exact this
      refine ⟨by simp [HT.sIx], ?_⟩
      have ec : cutD [D.int m.1, D.int m.2.1, D.int m.2.2] (some 1) none = [D.int m.2.1, D.int m.2.2] := by simp [cutD, HT.sIx]
      rw [ec]
      have es : (List.map D.int (outR m n.toNat)).set m.1.toNat (D.int 1) = ((outR m n.toNat).set m.1.toNat 1).map D.int := by rw [List.map_set]
      rw [es]
      exact Fin.frzT3 mup_same hp ((Ext.refl M).up hp) hq
  · rw [if_pos q2]
    exact h1 fun z => q2 z.2
theorem sc_law_bag : FnScope ["_law_script"] ["_law_script"] (defScope s_law_bag) := ⟨rfl, rfl, rfl, by decide +kernel, rfl, by decide +kernel, by decide +kernel⟩
def sp_law_bag : DSp := fun ds M Q _ => ∃ ns : List Int, ds = [.scr ns] ∧ ns.length ≤ 63 ∧ ∀ p, M p = none → Q (.ref p) (mup M p bagC)
theorem st_law_bag {a0 : D} : dstart ["_law_script"] [a0] = [some a0] := rfl
theorem ok_law_bag (G : Glb P w K mg base C_BadStretch C_TooLong C_Matching) (Dd : DefAt K mg "_law_bag" s_law_bag ["_law_script"]) : Dfk P w K mg base T "_law_bag" 1 ["_law_script"] sp_law_bag := by
  refine DefAt.ok Dd sc_law_bag (fun ds M Q E h => by
    obtain ⟨_, rfl, _⟩ := h
    rfl) fun f cdv A outer s H E hr => ?_
  have tk : Takes (cxOf (L2.CX P w) P w K mg base ["_law_script"] "_law_bag" (defScope s_law_bag) f cdv A outer s H E) (wOf T E).w := takes_of rfl rfl rfl rfl
  refine ⟨_, (dss_one (ds_ret (de_lstO (da_cons (de_frz (de_callTy call_list_of real_list rfl G.n_list rfl (da_cons (de_sl (dv 0) do_none (do_some de_int)) da_nil))) (da_cons de_int (da_cons de_int (da_cons de_int da_nil))))))), fun ds M Qd Ed h => ?_⟩
  obtain ⟨ns, rfl, hl, h⟩ := h
  (first | (simp only [st_law_bag]; try sizeOf_list_dec) | sizeOf_list_dec)
  refine ⟨ns.map D.int, sqI, .lst _, _, rfl, rfl, fun p hp => ⟨p, rfl, _, mup_same, sz4, ?_⟩⟩
  rw [mdel_mup hp]
  intro q hq
  refine Fin.close mup_same (φ := BagOk) ⟨ns, 0, 0, 29, ?_, hl, by decide, by decide, by decide, by decide⟩ ?_
  · unfold cutD HT.sIx
    simp only [List.length_map]
    rw [List.take_of_length_le (by simp; omega)]
    simp
  · rw [mup_mup]
    exact h q hq
theorem sc_law_take : FnScope ["_law_bag_here", "_law_sides", "_law_cell", "_law_rest", "_law_twice"] ["_law_bag_here", "_law_sides"] (defScope s_law_take) := ⟨rfl, rfl, rfl, by decide +kernel, rfl, by decide +kernel, by decide +kernel⟩
def sp_law_take : DSp := fun ds M Q _ => ∃ (b : Addr) (n : Int), ds = [.ref b, .int n] ∧ M b = some bagC ∧ 0 < n ∧ n < 1073741824 ∧ ∀ r : Int, 0 ≤ r → r < n → Q (.int r) M
theorem st_law_take {a0 a1 : D} : dstart ["_law_bag_here", "_law_sides", "_law_cell", "_law_rest", "_law_twice"] [a0, a1] = [some a0, some a1, none, none, none] := rfl
theorem ok_law_take (G : Glb P w K mg base C_BadStretch C_TooLong C_Matching) (Dd : DefAt K mg "_law_take" s_law_take ["_law_bag_here", "_law_sides"]) : Dfk P w K mg base T "_law_take" 1 ["_law_bag_here", "_law_sides"] sp_law_take := by
  refine DefAt.ok Dd sc_law_take (fun ds M Q E h => by
    obtain ⟨_, _, rfl, _⟩ := h
    rfl) fun f cdv A outer s H E hr => ?_
  have tk : Takes (cxOf (L2.CX P w) P w K mg base ["_law_bag_here", "_law_sides", "_law_cell", "_law_rest", "_law_twice"] "_law_take" (defScope s_law_take) f cdv A outer s H E) (wOf T E).w := takes_of rfl rfl rfl rfl
  refine ⟨_, (dss_gh (dss_cut (ds_if (dw_pt (dw_and (dt_cmp (op_eqD hr.units) real_eq (de_ix (dv 0) de_int) de_int (nomark _)) (dw_and1 (dt_cmp op_lt real_lt (de_ix (dv 0) de_int) (de_callB call_len real_len rfl G.n_len rfl (da_cons (de_ix (dv 0) de_int) da_nil)) (nomark _))))) (dss_cons (ds_set 2 sc_law_take.nd (de_ix (de_ix (dv 0) de_int) (de_ix (dv 0) de_int)))
      (dss_cons (ds_augS (dv 0) de_int de_int ip_add)
      (dss_one (ds_if (dw_pt (dw_or (dt_cmp op_ge real_ge (dv 2) (de_op op_pow real_pow de_int de_int) (nomark _)) (dw_or1 (dt_cmp op_le real_le (dv 2) (de_neg (de_op op_pow real_pow de_int de_int)) (nomark _))))) (dss_one (ds_asg (de_callB call_abs real_abs rfl G.n_abs rfl (da_cons (dv 2) da_nil)) (dg_sub (dv 0) de_int))) (dss_one (ds_asg (de_op op_mod real_mod (de_op op_add3 real_add (de_op op_add3 real_add (de_op op_mul2 real_mul (de_ix (dv 0) de_int) de_int) (de_op op_mul2 real_mul (de_op op_mod real_mod (dv 2) de_int) de_int)) de_int) de_int) (dg_sub (dv 0) de_int))))))) dss_nil)
      (dss_cut (ds_if (dt_cmp op_gt real_gt (de_ix (dv 0) de_int) de_int (nomark _)) (dss_cons (ds_set 3 sc_law_take.nd (de_ix (dv 0) de_int))
      (dss_cons (ds_asg (de_op op_fdiv real_fdiv (dv 3) (dv 1)) (dg_sub (dv 0) de_int))
      (dss_one (ds_ret (de_op op_mod real_mod (dv 3) (dv 1)))))) dss_nil)
      (dss_cons (ds_set 4 sc_law_take.nd (de_op op_mod real_mod (de_op op_mul2 real_mul (de_ix (dv 0) de_int) (de_ix (dv 0) de_int)) de_int))
      (dss_cons (ds_asg (de_op op_mod real_mod (de_op op_add3 real_add (de_op op_add3 real_add (de_op op_mul2 real_mul (dv 4) de_int) (de_op op_mul2 real_mul (de_ix (dv 0) de_int) de_int)) de_int) de_int) (dg_sub (dv 0) de_int))
      (dss_one (ds_ret (de_op op_mod real_mod (de_op op_fdiv real_fdiv (de_ix (dv 0) de_int) de_int) (dv 1))))))))), fun ds M Qd Ed h => ?_⟩
  obtain ⟨b, n, rfl, hb, h0, h1, h⟩ := h
  refine GhS.open hb fun ds hd => ?_
  obtain ⟨ns, i, r, s, rfl, hl, hi, hr0, hs0, hs1⟩ := hd
  have back : ∀ (i r s z : Int), 0 ≤ i → 0 ≤ r → 0 ≤ s → s < 2147483629 → 0 ≤ z → z < n → Fin ⟨K, T⟩ Qd (.int z) (mup M b (.lst [.lst (ns.map D.int), .int i, .int r, .int s])) := fun i r s z h2 h3 h4 h5 h6 h7 => by
    refine Fin.close mup_same (φ := BagOk) ⟨ns, i, r, s, rfl, hl, h2, h3, h4, h5⟩ ?_
    rw [mup_mup, mup_self hb]
    exact h z h6 h7
  refine ⟨fun Γ' M' => ∃ (c : Option D) (i r s : Int), Γ' = [some (.ref b), some (.int n), c, none, none] ∧ M' = mup M b (.lst [.lst (ns.map D.int), .int i, .int r, .int s]) ∧ 0 ≤ i ∧ 0 ≤ r ∧ 0 ≤ s ∧ s < 2147483629, ?_, ?_⟩
  · (first | (simp only [st_law_take]; try sizeOf_list_dec) | sizeOf_list_dec)
    refine ⟨fun hr => ⟨fun hi2 => ?_, fun _ => ⟨i, r, s, rfl, hi, hr0, hs0, hs1⟩⟩, fun _ => ⟨i, r, s, rfl, hi, hr0, hs0, hs1⟩⟩
    obtain ⟨z, _, _, ez⟩ := atJ (f := D.int) hi hi2
    refine ⟨_, ez, ?_⟩
    (first | (simp only [st_law_take]; try sizeOf_list_dec) | sizeOf_list_dec)
    have p1 : CPow 10 18 := ⟨by decide, by decide, by decide⟩
    have c1 : CMul s 31337 := .inr ⟨by decide, by decide⟩
    have c2 : CMul (z % 1000003) 977 := .inr ⟨by decide, by decide⟩
    have hz : 0 ≤ (if z < 0 then -z else z) := by split <;> omega
    refine ⟨p1, fun _ => ⟨_, _, _, rfl, by omega, hz, hs0, hs1⟩, fun _ => ⟨p1, fun _ => ⟨_, _, _, rfl, by omega, hz, hs0, hs1⟩, fun _ => ⟨c1, by decide, c2, by decide, _, _, _, rfl, by omega, hr0, Int.emod_nonneg _ (by decide), Int.emod_lt_of_pos _ (by decide)⟩⟩⟩
  · rintro _ _ ⟨c, i, r, s, rfl, rfl, hi, hr0, hs0, hs1⟩
    refine ⟨fun Γ' M' => Γ' = [some (.ref b), some (.int n), c, none, none] ∧ M' = mup M b (.lst [.lst (ns.map D.int), .int i, .int r, .int s]), ?_, ?_⟩
    · (first | (simp only [st_law_take]; try sizeOf_list_dec) | sizeOf_list_dec)
      refine fun hp => ⟨⟨h0, h1⟩, h0, ?_⟩
      exact back i (r / n) s (r % n) hi (Int.ediv_nonneg hr0 (by omega)) hs0 hs1 (Int.emod_nonneg _ (by omega)) (Int.emod_lt_of_pos _ h0)
    · rintro _ _ ⟨rfl, rfl⟩
      sizeOf_list_dec
      refine ⟨.inr ⟨by omega, by omega⟩, by decide, .inr ⟨by decide, by decide⟩, .inr ⟨by decide, by decide⟩, by decide, ⟨by decide, by decide⟩, h0, ?_⟩
      exact back _ _ _ _ hi hr0 (Int.emod_nonneg _ (by decide)) (Int.emod_lt_of_pos _ (by decide)) (Int.emod_nonneg _ (by omega)) (Int.emod_lt_of_pos _ h0)
theorem sc_law_of : FnScope ["_law_bag_here", "_law_some"] ["_law_bag_here", "_law_some"] (defScope s_law_of) := ⟨rfl, rfl, rfl, by decide +kernel, rfl, by decide +kernel, by decide +kernel⟩
def sp_law_of : DSp := fun ds M Q _ => ∃ (b : Addr) (d : D) (xs : List D), ds = [.ref b, d] ∧ M b = some bagC ∧ sqD M d = some xs ∧ 0 < xs.length ∧ xs.length < 1073741824 ∧ ∀ x, x ∈ xs → Q x M
theorem st_law_of {a0 a1 : D} : dstart ["_law_bag_here", "_law_some"] [a0, a1] = [some a0, some a1] := rfl
theorem ok_law_of (G : Glb P w K mg base C_BadStretch C_TooLong C_Matching) (h_law_take : Dfk P w K mg base T "_law_take" 1 ["_law_bag_here", "_law_sides"] sp_law_take) (Dd : DefAt K mg "_law_of" s_law_of ["_law_bag_here", "_law_some"]) : Dfk P w K mg base T "_law_of" 2 ["_law_bag_here", "_law_some"] sp_law_of := by
  refine DefAt.ok Dd sc_law_of (fun ds M Q E h => by
    obtain ⟨_, _, _, rfl, _⟩ := h
    rfl) fun f cdv A outer s H E hr => ?_
  have tk : Takes (cxOf (L2.CX P w) P w K mg base ["_law_bag_here", "_law_some"] "_law_of" (defScope s_law_of) f cdv A outer s H E) (wOf T E).w := takes_of rfl rfl rfl rfl
  refine ⟨_, (dss_one (ds_ret (de_ix (dv 1) (de_callA h_law_take (hr.mono (by decide)) tk (da_cons (dv 0) (da_cons (de_callB call_len real_len rfl G.n_len rfl (da_cons (dv 1) da_nil)) da_nil)))))), fun ds M Qd Ed h => ?_⟩
  obtain ⟨b, d, xs, rfl, hb, hd, h0, h1, h⟩ := h
  (first | (simp only [st_law_of]; try sizeOf_list_dec) | sizeOf_list_dec)
  rw [lenSq hd]
  refine ⟨b, _, rfl, hb, by omega, by omega, fun r hr0 hr1 => ?_⟩
  obtain ⟨x, hx, _, e⟩ := atL hr0 hr1
  rw [ixSq hd]
  exact ⟨x, e, Fin.same (h x hx)⟩
theorem sc_law_turned : FnScope ["_law_bag_here", "_law_some", "_law_found", "_law_one"] ["_law_bag_here", "_law_some"] (defScope s_law_turned) := ⟨rfl, rfl, rfl, by decide +kernel, rfl, by decide +kernel, by decide +kernel⟩
def sp_law_turned : DSp := fun ds M Q _ => ∃ (b : Addr) (d : D) (α : Type) (f : α → D) (as : List α), ds = [.ref b, d] ∧ M b = some bagC ∧ sqD M d = some (as.map f) ∧ as.length ≤ 1000 ∧ ∀ bs : List α, bs.Perm as → Q (.lst (bs.map f)) M
theorem st_law_turned {a0 a1 : D} : dstart ["_law_bag_here", "_law_some", "_law_found", "_law_one"] [a0, a1] = [some a0, some a1, none, none] := rfl
theorem ok_law_turned (G : Glb P w K mg base C_BadStretch C_TooLong C_Matching) (h_law_take : Dfk P w K mg base T "_law_take" 1 ["_law_bag_here", "_law_sides"] sp_law_take) (Dd : DefAt K mg "_law_turned" s_law_turned ["_law_bag_here", "_law_some"]) : Dfk P w K mg base T "_law_turned" 2 ["_law_bag_here", "_law_some"] sp_law_turned := by
  refine DefAt.ok Dd sc_law_turned (fun ds M Q E h => by
    obtain ⟨_, _, _, _, _, rfl, _⟩ := h
    rfl) fun f cdv A outer s H E hr => ?_
  have tk : Takes (cxOf (L2.CX P w) P w K mg base ["_law_bag_here", "_law_some", "_law_found", "_law_one"] "_law_turned" (defScope s_law_turned) f cdv A outer s H E) (wOf T E).w := takes_of rfl rfl rfl rfl
  refine ⟨_, (dss_cons (ds_set 2 sc_law_turned.nd (de_lstO da_nil))
      (dss_cons (ds_for (passes_of rfl) rfl (di_seq (dv 1)) (dg_name (i := 3) sc_law_turned.nd rfl (by first | exact Or.inl rfl | exact Or.inr rfl) (fun _ e => nomatch e)) (dss_one (ds_expr (de_insert (dv 2) (de_callA h_law_take (hr.mono (by decide)) tk (da_cons (dv 0) (da_cons (de_op op_add3 real_add (de_callB call_len real_len rfl G.n_len rfl (da_cons (dv 2) da_nil)) de_int) da_nil))) (dv 3)))))
      (dss_one (ds_ret (dv 2))))), fun ds M Qd Ed h => ?_⟩
  obtain ⟨b, d, α, f, as, rfl, hb, hd, hl, h⟩ := h
  have sz : sizeLine = 16777216 := szl
  (first | (simp only [st_law_turned]; try sizeOf_list_dec) | sizeOf_list_dec)
  refine fun p hp => ?_
  have hpb : b ≠ p := fun z => by rw [z, hp] at hb; cases hb
  refine ⟨_, itSq (sq_ext ((Ext.refl M).up hp) hd), forBy (fun i Γ2 M2 => ∃ (bs : List α) (c : Option D), Γ2 = [some (.ref b), some d, some (.ref p), c] ∧ M2 = mup M p (.lst (bs.map f)) ∧ bs.Perm (as.take i)) ⟨[], none, rfl, rfl, .refl _⟩ ?_ ?_ ?_⟩
  · rintro i _ _ ⟨bs, c, rfl, rfl, _⟩
    exact itSq (sq_ext ((Ext.refl M).up hp) hd)
  · rintro i x _ _ hx ⟨bs, c, rfl, rfl, hm⟩
    have hi : i < as.length := (List.getElem?_eq_some_iff.mp hx).1
    have ht : as.take (i + 1) = as.take i ++ [x] := by rw [List.take_add_one, hx]; rfl
    have hlen : bs.length = i := by rw [hm.length_eq, List.length_take]; omega
    (first | (simp only [st_law_turned]; try sizeOf_list_dec) | sizeOf_list_dec)
    rw [lenR mup_same]
    (first | (simp only [st_law_turned]; try sizeOf_list_dec) | sizeOf_list_dec)
    refine ⟨b, _, rfl, by rw [mup_ne hpb]; exact hb, by omega, by omega, fun r h0 h1 => ?_⟩
    sizeOf_list_dec
    refine ⟨by omega, h0, by omega, bs.take r.toNat ++ [x] ++ bs.drop r.toNat, by simp [List.map_take, List.map_drop], ?_⟩
    rw [ht]
    refine List.Perm.trans ?_ (hm.append_right [x])
    rw [List.append_assoc]
    refine (List.perm_append_comm_assoc _ _ _).trans ?_
    rw [List.take_append_drop]
    exact List.perm_append_comm
  · rintro _ _ ⟨bs, c, rfl, rfl, hm⟩
    sizeOf_list_dec
    rw [List.take_length] at hm
    exact Fin.frzE mup_same hp ((Ext.refl M).up hp) (h bs hm)
theorem sc_law_asks : FnScope ["_law_bag_here", "_law_size_z", "_law_most", "_law_many", "_law_way", "_law_lines", "_law_found", "_law_k", "_law_start", "_law_end", "_law_width", "_law_low", "_law_high"] ["_law_bag_here", "_law_size_z", "_law_most"] (defScope s_law_asks) := ⟨rfl, rfl, rfl, by decide +kernel, rfl, by decide +kernel, by decide +kernel⟩
def sp_law_asks : DSp := fun ds M Q _ => ∃ (b : Addr) (n k : Int), ds = [.ref b, .int n, .int k] ∧ M b = some bagC ∧ 1 ≤ n ∧ n ≤ 1000 ∧ 0 ≤ k ∧ k ≤ 1000 ∧ ∀ as : List Sp2, (as.length : Int) ≤ k → (∀ s ∈ as, 0 ≤ s.1 ∧ s.1 < s.2 ∧ s.2 ≤ n) → Q (.lst (as.map spD)) M
theorem st_law_asks {a0 a1 a2 : D} : dstart ["_law_bag_here", "_law_size_z", "_law_most", "_law_many", "_law_way", "_law_lines", "_law_found", "_law_k", "_law_start", "_law_end", "_law_width", "_law_low", "_law_high"] [a0, a1, a2] = [some a0, some a1, some a2, none, none, none, none, none, none, none, none, none, none] := rfl
theorem ok_law_asks (G : Glb P w K mg base C_BadStretch C_TooLong C_Matching) (h_law_of : Dfk P w K mg base T "_law_of" 2 ["_law_bag_here", "_law_some"] sp_law_of) (h_law_take : Dfk P w K mg base T "_law_take" 1 ["_law_bag_here", "_law_sides"] sp_law_take) (Dd : DefAt K mg "_law_asks" s_law_asks ["_law_bag_here", "_law_size_z", "_law_most"]) : Dfk P w K mg base T "_law_asks" 3 ["_law_bag_here", "_law_size_z", "_law_most"] sp_law_asks := by
  refine DefAt.ok Dd sc_law_asks (fun ds M Q E h => by
    obtain ⟨_, _, _, rfl, _⟩ := h
    rfl) fun f cdv A outer s H E hr => ?_
  have tk : Takes (cxOf (L2.CX P w) P w K mg base ["_law_bag_here", "_law_size_z", "_law_most", "_law_many", "_law_way", "_law_lines", "_law_found", "_law_k", "_law_start", "_law_end", "_law_width", "_law_low", "_law_high"] "_law_asks" (defScope s_law_asks) f cdv A outer s H E) (wOf T E).w := takes_of rfl rfl rfl rfl
  refine ⟨_, (dss_cons (ds_set 3 sc_law_asks.nd (de_callA h_law_take (hr.mono (by decide)) tk (da_cons (dv 0) (da_cons (de_op op_add3 real_add (dv 2) de_int) da_nil))))
      (dss_cons (ds_set 4 sc_law_asks.nd (de_callA h_law_take (hr.mono (by decide)) tk (da_cons (dv 0) (da_cons de_int da_nil))))
      (dss_cons (ds_set 5 sc_law_asks.nd (de_op op_add3 real_add (de_lst (da_cons de_int (da_cons (dv 1) da_nil))) (de_lcN (LcOk.mk (own := [("_law_k", 7)]) rfl sc_law_asks.nd (di_rng1 rfl G.n_range (da_cons de_int da_nil)) (blkOk_by (N := ["_law_bag_here", "_law_size_z", "_law_most", "_law_many", "_law_way", "_law_lines", "_law_found", "_law_k", "_law_start", "_law_end", "_law_width", "_law_low", "_law_high"]) (sc := defScope s_law_asks) (by decide +kernel)) (fun _ _ _ _ _ => (dg_name (i := 7) sc_law_asks.nd rfl (by first | exact Or.inl rfl | exact Or.inr rfl) (fun _ e => by cases e; decide))) (fun _ _ _ _ _ => dts_nil) (fun _ _ _ _ _ => (de_callA h_law_take (hr.mono (by decide)) takes_none5 (da_cons (dv 0) (da_cons (de_op op_add3 real_add (dv 1) de_int) da_nil))))))))
      (dss_cons (ds_set 6 sc_law_asks.nd (de_lstO da_nil))
      (dss_cons (ds_for (passes_of rfl) rfl (di_rng1 rfl G.n_range (da_cons (dv 3) da_nil)) (dg_name (i := 7) sc_law_asks.nd rfl (by first | exact Or.inl rfl | exact Or.inr rfl) (fun _ e => nomatch e)) (dss_cons (ds_set 8 sc_law_asks.nd (de_callA h_law_take (hr.mono (by decide)) tk (da_cons (dv 0) (da_cons (dv 1) da_nil))))
      (dss_cons (ds_set 9 sc_law_asks.nd (de_op op_add3 real_add (de_op op_add3 real_add (dv 8) de_int) (de_callA h_law_take (hr.mono (by decide)) tk (da_cons (dv 0) (da_cons (de_op op_sub real_sub (dv 1) (dv 8)) da_nil)))))
      (dss_cut (ds_if (dt_cmp (op_eqD hr.units) real_eq (dv 4) de_int (nomark _)) (dss_cons (ds_set 10 sc_law_asks.nd (de_op op_add3 real_add de_int (de_op op_fdiv real_fdiv (dv 1) de_int)))
      (dss_cons (ds_set 8 sc_law_asks.nd (de_callA h_law_take (hr.mono (by decide)) tk (da_cons (dv 0) (da_cons (de_op op_add3 real_add (de_op op_sub real_sub (dv 1) (dv 10)) de_int) da_nil))))
      (dss_one (ds_set 9 sc_law_asks.nd (de_op op_add3 real_add (dv 8) (dv 10)))))) dss_nil)
      (dss_cut (ds_if (dt_cmp op_gt real_gt (dv 4) de_int (nomark _)) (dss_cons (ds_asg (de_frz (de_sorted G.n_sorted rfl (da_cons (de_lst (da_cons (de_callA h_law_of (hr.mono (by decide)) tk (da_cons (dv 0) (da_cons (dv 5) da_nil))) (da_cons (de_callA h_law_of (hr.mono (by decide)) tk (da_cons (dv 0) (da_cons (dv 5) da_nil))) da_nil))) da_nil))) (dg_unl (n := 2) rfl (dgs_cons (dg_name (i := 11) sc_law_asks.nd rfl (by first | exact Or.inl rfl | exact Or.inr rfl) (fun _ e => nomatch e)) (dgs_cons (dg_name (i := 12) sc_law_asks.nd rfl (by first | exact Or.inl rfl | exact Or.inr rfl) (fun _ e => nomatch e)) dgs_nil))))
      (dss_cons (ds_set 8 sc_law_asks.nd (de_if (dt_cmp op_lt real_lt (dv 11) (dv 12) (nomark _)) (dv 11) (dv 8)))
      (dss_one (ds_set 9 sc_law_asks.nd (de_if (dt_cmp op_lt real_lt (dv 11) (dv 12) (nomark _)) (dv 12) (dv 9)))))) dss_nil)
      (dss_cut (ds_if (dw_pt (dw_and (dt_cmp (op_eqD hr.units) real_eq (dv 4) de_int (nomark _)) (dw_and1 (dt_cmp op_gt real_gt (dv 7) de_int (nomark _))))) (dss_cons (ds_set 8 sc_law_asks.nd (de_callB (call_min2 rfl) real_int2 rfl G.n_min rfl (da_cons (de_op op_add3 real_add (de_ix (de_ix (dv 6) (de_neg de_int)) de_int) (de_callA h_law_take (hr.mono (by decide)) tk (da_cons (dv 0) (da_cons de_int da_nil)))) (da_cons (de_op op_sub real_sub (dv 1) de_int) da_nil))))
      (dss_one (ds_set 9 sc_law_asks.nd (de_callB (call_max2 rfl) real_int2 rfl G.n_max rfl (da_cons (de_op op_add3 real_add (dv 8) de_int) (da_cons (de_callB (call_min2 rfl) real_int2 rfl G.n_min rfl (da_cons (dv 1) (da_cons (de_op op_add3 real_add (de_ix (de_ix (dv 6) (de_neg de_int)) de_int) (de_callA h_law_take (hr.mono (by decide)) tk (da_cons (dv 0) (da_cons de_int da_nil)))) da_nil))) da_nil)))))) dss_nil)
      (dss_cut (ds_if (dw_pt (dw_and (dt_cmp (op_eqD hr.units) real_eq (dv 4) de_int (nomark _)) (dw_and1 (dt_cmp op_gt real_gt (dv 7) de_int (nomark _))))) (dss_cons (ds_set 8 sc_law_asks.nd (de_ix (de_callA h_law_of (hr.mono (by decide)) tk (da_cons (dv 0) (da_cons (dv 6) da_nil))) (de_callA h_law_take (hr.mono (by decide)) tk (da_cons (dv 0) (da_cons de_int da_nil)))))
      (dss_cons (ds_set 8 sc_law_asks.nd (de_callB (call_min2 rfl) real_int2 rfl G.n_min rfl (da_cons (dv 8) (da_cons (de_op op_sub real_sub (dv 1) de_int) da_nil))))
      (dss_one (ds_set 9 sc_law_asks.nd (de_op op_add3 real_add (de_op op_add3 real_add (dv 8) de_int) (de_callA h_law_take (hr.mono (by decide)) tk (da_cons (dv 0) (da_cons (de_op op_sub real_sub (dv 1) (dv 8)) da_nil)))))))) dss_nil)
      (dss_one (ds_expr (de_append (dv 6) (de_tup (da_cons (dv 8) (da_cons (dv 9) da_nil)))))))))))))
      (dss_one (ds_ret (dv 6)))))))), fun ds M Qd Ed h => ?_⟩
  obtain ⟨b, n, k, rfl, hb, hn1, hn2, hk1, hk2, h⟩ := h
  have sz : sizeLine = 16777216 := szl
  (first | (simp only [st_law_asks]; try sizeOf_list_dec) | sizeOf_list_dec)
  refine ⟨b, _, rfl, hb, by omega, by omega, fun many hm1 hm2 => ⟨b, _, rfl, hb, by omega, by omega, fun way hw1 hw2 => ?_⟩⟩
  refine ⟨⟨by decide, by decide⟩, LI_R (xs := List.range 3) (injRng (by decide)) (fun _ o => ∃ z, o = some (D.int z) ∧ (0 ≤ z ∧ z ≤ n)) (fun _ _ => trivial) (fun x hx M' hM => ?_) fun os hos => ?_⟩
  · (first | (simp only [st_law_asks]; try sizeOf_list_dec) | sizeOf_list_dec)
    exact ⟨b, _, rfl, hM _ _ hb, by omega, by omega, fun r h0 h1 => ⟨rfl, r, rfl, h0, by omega⟩⟩
  obtain ⟨zs, ez, hz, hzl⟩ := all2_vals hos
  rw [ez]
  have hzl : zs.length = 3 := by rw [hzl, List.length_range]
  (first | (simp only [st_law_asks]; try sizeOf_list_dec) | sizeOf_list_dec)
  refine ⟨by omega, fun p hp => ⟨⟨by omega, by omega⟩, ?_⟩⟩
  have hpb : b ≠ p := fun z => by rw [z, hp] at hb; cases hb
  have elines : D.int 0 :: D.int n :: zs.map D.int = (0 :: n :: zs).map D.int := rfl
  rw [elines]
  generalize hls : 0 :: n :: zs = ls
  have hlines : ∀ z ∈ ls, 0 ≤ z ∧ z ≤ n := fun z h => by
    subst hls
    rcases List.mem_cons.mp h with rfl | h
    · omega
    rcases List.mem_cons.mp h with rfl | h
    · omega
    exact hz z h
  have hlen : ls.length = 5 := by subst hls; simp [hzl]
  have hbm : ∀ c, mup M p c b = some bagC := fun c => by rw [mup_ne hpb]; exact hb
  refine forRng (fun i Γ2 M2 => ∃ (as : List Sp2) (c7 c8 c9 c10 c11 c12 : Option D), Γ2 = [some (.ref b), some (.int n), some (.int k), some (.int many), some (.int way), some (.lst (ls.map D.int)), some (.ref p), c7, c8, c9, c10, c11, c12] ∧ M2 = mup M p (.lst (as.map spD)) ∧ as.length = i ∧ ∀ s ∈ as, 0 ≤ s.1 ∧ s.1 < s.2 ∧ s.2 ≤ n) ⟨[], _, _, _, _, _, _, rfl, rfl, rfl, fun s h => by cases h⟩ (fun _ => trivial) ?_ ?_
  · rintro i _ _ hi ⟨as, c7, c8, c9, c10, c11, c12, rfl, rfl, hal, has⟩
    sizeOf_list_dec
    refine ⟨b, _, rfl, hbm _, by omega, by omega, fun st hst1 hst2 => ?_⟩
    sizeOf_list_dec
    refine ⟨b, _, rfl, hbm _, by omega, by omega, fun ln hln1 hln2 => ?_⟩
    sizeOf_list_dec
    let J : DG → Mp → Prop := fun Γ2 M2 => ∃ (s e : Int) (c10 c11 c12 : Option D), Γ2 = [some (.ref b), some (.int n), some (.int k), some (.int many), some (.int way), some (.lst (ls.map D.int)), some (.ref p), some (.int (i : Nat)), some (.int s), some (.int e), c10, c11, c12] ∧ M2 = mup M p (.lst (as.map spD)) ∧ 0 ≤ s ∧ s < e ∧ e ≤ n
    have hCD : CDiv n 2 := ⟨by decide, by decide⟩
    -- one width
    refine ⟨J, ?_, ?_⟩
    · sizeOf_list_dec
      refine ⟨fun h1 => ⟨hCD, b, _, rfl, hbm _, by omega, by omega, fun r h0 h1 => ?_⟩, fun h1 => ⟨_, _, _, _, _, rfl, rfl, by omega, by omega, by omega⟩⟩
      sizeOf_list_dec
      exact ⟨_, _, _, _, _, rfl, rfl, by omega, by omega, by omega⟩
    rintro _ _ ⟨s, e, c10, c11, c12, rfl, rfl, hs0, hse, hen⟩
    -- between two lines
    refine ⟨J, ?_, ?_⟩
    · sizeOf_list_dec
      refine ⟨fun h1 => ?_, fun h1 => ⟨_, _, _, _, _, rfl, rfl, by omega, by omega, by omega⟩⟩
      refine ⟨b, _, ls.map D.int, rfl, hbm _, rfl, by rw [List.length_map]; omega, by rw [List.length_map]; omega, fun x hx => ?_⟩
      obtain ⟨z1, hz1, rfl⟩ := List.mem_map.mp hx
      refine ⟨b, _, ls.map D.int, rfl, hbm _, rfl, by rw [List.length_map]; omega, by rw [List.length_map]; omega, fun x hx => ?_⟩
      obtain ⟨z2, hz2, rfl⟩ := List.mem_map.mp hx
      have hh1 := hlines z1 hz1
      have hh2 := hlines z2 hz2
      refine rdSortedIn (ns := [z1, z2]) rfl fun L q pm pw hq => ?_
      obtain ⟨lo, hi, rfl, hlh, hlo, hhi⟩ := sorted2 pm pw
      have hpq : p ≠ q := fun z => by subst z; rw [mup_same] at hq; cases hq
      simp only [st_law_asks, dSeq, dNext, dRet, dRetN, dIfS, dSet, dPar, dAsg, dDrop, dC, dOp, dTest, dChain, dChain3, dChain4, dAnd, dOr, dNot, dAndV, dOrV, dNotV, dCons, dNil, dTup, dLst, dLstO, dCB, dCall, dIf, dUn, dAppend, dPop, dInsert, dAug, dWhile, dDelL, dCont, dBreak, dFld, dPut, dMeth, dMake, dDnew, dDin, dDget, dDput, dLck, dLckS, dIKeys, dDc, insF, dcF1, dAct, dCallK, dCBK, dHof, spLm, startL, capD, dTryN, exN, offD, dXf, Option.join_some, List.map_nil, List.nil_append, List.cons_append, List.replicate, dVar, rdI_eq, rdIc_eq, rdIx, rdInt2_eq, lenL, isN_non, isN_tup, isN_int, dFrz, dAugS, dIsi, dIsi2, dListRg, dSetSp, dSetIn, dLc2O, dRev, lenT, dIZip, zpL, zpD_tup, zip_map, isaTL, isaTT, isaLL, isaLT, isaIB, isaII, isaIS, isaIL, isaIT, neSpU, eqSpU, neMkU, eqMkU, eqB, neB, isN_bl, isN_lst, isN_ref, isaBB, isaBL, isaBT, isaBI, isaBS, tyI, tyB, tyN, tyTu, tyLs, Cell.lst.injEq, implies_true, reduceCtorEq, true_implies, false_implies, if_true, if_false, Int.reduceToNat, Int.reducePow, Int.reduceNeg, exX, LB, dYes, dwipe, addL, sz0, sz1, sz2, sz3, Int.zero_add, Int.mul_one, dLcN_eq, dLcNO_eq, dIRng1, dIRng2, dIEn, dISeq, dFor_eq, List.map_cons, List.map_nil, mulI, rdAbs_eq, eqI, neI, xN4_0, xN4_1, xN4_2, xN4_3, List.length_map, ixS, mup_same, mup_mup, dRaise, gdName, gdTup, gdUnl, gdNil_eq, gdCons_eq, gdSub, dPart, dNoPart, dSl, tpD, fd0, List.getElem?_cons_zero, List.getElem?_cons_succ, List.set_cons_zero, List.set_cons_succ, Option.some.injEq, exists_eq_left', exists_eq_left, exists_eq_right, exists_eq_right', D.int.injEq, D.bl.injEq, D.tup.injEq, D.lst.injEq, D.ref.injEq, ixd_tup, ixd_lst, spD, mkD, decide_eq_true_eq, decide_eq_false_iff_not, Nat.reduceAdd, Int.reduceNeg, at0, at1, at2, at3, List.cons.injEq, and_true, true_and, List.append_nil, exists_and_left, exists_and_right, List.length_cons, List.length_nil, addI, res_int, deq_int, sh_int, iffB, parEq, Bool.not_eq_true', Bool.not_eq_false', Bool.not_eq_true , mdel_mup hq, sqD]
      have hJ : ∀ s e c11 c12, 0 ≤ s → s < e → e ≤ n → J [some (.ref b), some (.int n), some (.int k), some (.int many), some (.int way), some (.lst (ls.map D.int)), some (.ref p), some (.int (i : Nat)), some (.int s), some (.int e), c10, c11, c12] (mup M p (.lst (as.map spD))) := fun s e c11 c12 h1 h2 h3 => ⟨s, e, _, _, _, rfl, rfl, h1, h2, h3⟩
      have h1 : 0 ≤ lo := by rcases hlo with rfl | rfl <;> omega
      have h2 : hi ≤ n := by rcases hhi with rfl | rfl <;> omega
      exact ⟨fun hlt => ⟨fun _ => hJ _ _ _ _ h1 hlt h2, fun h => absurd hlt h⟩, fun hlt => ⟨fun h => absurd h hlt, fun _ => hJ _ _ _ _ hs0 hse hen⟩⟩
    rintro _ _ ⟨s, e, c10, c11, c12, rfl, rfl, hs0, hse, hen⟩
    -- going on
    refine ⟨J, ?_, ?_⟩
    · sizeOf_list_dec
      refine ⟨fun h1 => ⟨fun h2 => ?_, fun h2 => ⟨_, _, _, _, _, rfl, rfl, hs0, hse, hen⟩⟩, fun h1 => ⟨_, _, _, _, _, rfl, rfl, hs0, hse, hen⟩⟩
      have hne : as ≠ [] := by intro z; subst z; simp at hal; omega
      have hlm := has _ (List.getLast_mem hne)
      rw [atLast hne]
      refine ⟨_, rfl, ?_⟩
      sizeOf_list_dec
      refine ⟨b, _, rfl, hbm _, by omega, by omega, fun r hr0 hr1 => ?_⟩
      sizeOf_list_dec
      rw [atLast hne]
      refine ⟨_, rfl, ?_⟩
      sizeOf_list_dec
      refine ⟨b, _, rfl, hbm _, by omega, by omega, fun r2 hr20 hr21 => ?_⟩
      sizeOf_list_dec
      refine ⟨_, _, _, _, _, rfl, rfl, ?_, ?_, ?_⟩
      all_goals
        repeat' split
        all_goals omega
    rintro _ _ ⟨s, e, c10, c11, c12, rfl, rfl, hs0, hse, hen⟩
    -- a shared border
    refine ⟨J, ?_, ?_⟩
    · sizeOf_list_dec
      refine ⟨fun h1 => ⟨fun h2 => ?_, fun h2 => ⟨_, _, _, _, _, rfl, rfl, hs0, hse, hen⟩⟩, fun h1 => ⟨_, _, _, _, _, rfl, rfl, hs0, hse, hen⟩⟩
      have hne : as.length ≠ 0 := by omega
      refine ⟨b, _, as.map spD, rfl, hbm _, sqD_ref mup_same, by rw [List.length_map]; omega, by rw [List.length_map]; omega, fun x hx => ?_⟩
      obtain ⟨a, ha, rfl⟩ := List.mem_map.mp hx
      have hha := has a ha
      refine ⟨b, _, rfl, hbm _, by omega, by omega, fun r hr0 hr1 => ?_⟩
      have hr : r = 0 ∨ r = 1 := by omega
      have he : ∃ v, ixD (mup M p (.lst (as.map spD))) (spD a) (.int r) = some (.int v) ∧ 0 ≤ v := by
        rcases hr with rfl | rfl
        · exact ⟨a.1, by sizeOf_list_dec, by omega⟩
        · exact ⟨a.2, by sizeOf_list_dec, by omega⟩
      obtain ⟨v, hv, hv0⟩ := he
      refine ⟨_, hv, ?_⟩
      sizeOf_list_dec
      refine ⟨b, _, rfl, hbm _, ?_, ?_, fun r2 hr20 hr21 => ?_⟩
      · split <;> omega
      · split <;> omega
      sizeOf_list_dec
      refine ⟨_, _, _, _, _, rfl, rfl, ?_, ?_, ?_⟩
      all_goals
        repeat' split at hr21
        all_goals (repeat' split)
        all_goals omega
    rintro _ _ ⟨s, e, c10, c11, c12, rfl, rfl, hs0, hse, hen⟩
    sizeOf_list_dec
    refine ⟨by omega, ⟨_, rfl⟩, as ++ [(s, e)], by simp [spD], by simp [hal], fun y hy => ?_⟩
    rcases List.mem_append.mp hy with hy | hy
    · exact has y hy
    · obtain rfl : y = (s, e) := by simpa using hy
      exact ⟨hs0, hse, hen⟩
  · rintro _ _ ⟨as, c7, c8, c9, c10, c11, c12, rfl, rfl, hal, has⟩
    sizeOf_list_dec
    exact Fin.frzE mup_same hp ((Ext.refl M).up hp) (h as (by omega) has)
theorem sc_law_highest : FnScope ["_law_row", "_law_cells", "_law_cell"] ["_law_row", "_law_cells"] (defScope s_law_highest) := ⟨rfl, rfl, rfl, by decide +kernel, rfl, by decide +kernel, by decide +kernel⟩
def sp_law_highest : DSp := fun ds M Q _ => ∃ (d e : D) (rs cs : List Int), ds = [d, e] ∧ sqD M d = some (rs.map D.int) ∧ sqD M e = some (cs.map D.int) ∧ cs.length ≤ 1000 ∧ (∀ c ∈ cs, 0 ≤ c ∧ c < rs.length) ∧ Q (.int (hiOf rs cs)) M
theorem st_law_highest {a0 a1 : D} : dstart ["_law_row", "_law_cells", "_law_cell"] [a0, a1] = [some a0, some a1, none] := rfl
theorem ok_law_highest (G : Glb P w K mg base C_BadStretch C_TooLong C_Matching) (Dd : DefAt K mg "_law_highest" s_law_highest ["_law_row", "_law_cells"]) : Dfk P w K mg base T "_law_highest" 1 ["_law_row", "_law_cells"] sp_law_highest := by
  refine DefAt.ok Dd sc_law_highest (fun ds M Q E h => by
    obtain ⟨_, _, _, _, rfl, _⟩ := h
    rfl) fun f cdv A outer s H E hr => ?_
  have tk : Takes (cxOf (L2.CX P w) P w K mg base ["_law_row", "_law_cells", "_law_cell"] "_law_highest" (defScope s_law_highest) f cdv A outer s H E) (wOf T E).w := takes_of rfl rfl rfl rfl
  refine ⟨_, (dss_one (ds_ret (de_callB (cr_max rfl) real_max rfl G.n_max rfl (da_cons (de_op op_add3 real_add (de_lst (da_cons de_int da_nil)) (de_lcN (LcOk.mk (own := [("_law_cell", 2)]) rfl sc_law_highest.nd (di_seq (dv 1)) (blkOk_by (N := ["_law_row", "_law_cells", "_law_cell"]) (sc := defScope s_law_highest) (by decide +kernel)) (fun _ _ _ _ _ => (dg_name (i := 2) sc_law_highest.nd rfl (by first | exact Or.inl rfl | exact Or.inr rfl) (fun _ e => by cases e; decide))) (fun _ _ _ _ _ => dts_nil) (fun _ _ _ _ _ => (de_ix (dv 0) (dv 2)))))) da_nil)))), fun ds M Qd Ed h => ?_⟩
  obtain ⟨d, e, rs, cs, rfl, hd, he, hl, hc, h⟩ := h
  (first | (simp only [st_law_highest]; try sizeOf_list_dec) | sizeOf_list_dec)
  refine ⟨_, itSq he, LI_F (F := D.int) (xs := cs) injInt (fun c => some (.int (rs.getD c.toNat 0))) (fun M' hM => itSq (sq_ext hM he)) (fun c hc2 M' hM => ?_) ?_⟩
  · have hb := hc c hc2
    obtain ⟨k, rfl⟩ : ∃ k : Nat, c = (k : Int) := ⟨c.toNat, by omega⟩
    have hk : rs[k]? = some (rs.getD k 0) := by
      have : k < rs.length := by omega
      simp [List.getD, List.getElem?_eq_getElem this]
    (first | (simp only [st_law_highest]; try sizeOf_list_dec) | sizeOf_list_dec)
    rw [ixSq (sq_ext hM hd), atMn hk]
    simp
  rw [filterMap_some, addL]
  refine ⟨by rw [szl]; simp; omega, ?_⟩
  refine ⟨_, 0 :: cs.map fun c => rs.getD c.toNat 0, rfl, ?_, by simp, fun m hm hx => ?_⟩
  · show some _ = some _
    rw [List.map_cons, List.map_map]
    rfl
  · rw [hi_uniq hm hx]
    exact Fin.same h
theorem sc_law : FnScope ["_law_script", "_law_bag_here", "_law_k", "_law_size_z", "_law_asks_here", "_law_kept", "_law_own", "_law_lots", "_law_told_z", "_law_ask", "_law_one", "_law_two", "_law_start", "_law_end", "_law_lot", "_law_cell"] ["_law_script"] (defScope s_law) := ⟨rfl, rfl, rfl, by decide +kernel, rfl, by decide +kernel, by decide +kernel⟩
def sp_law : DSp := fun ds M Q _ => ∃ ns : List Int, ds = [.scr ns] ∧ ns.length ≤ 63 ∧ ∀ M2, Q (.bl true) M2
theorem st_law {a0 : D} : dstart ["_law_script", "_law_bag_here", "_law_k", "_law_size_z", "_law_asks_here", "_law_kept", "_law_own", "_law_lots", "_law_told_z", "_law_ask", "_law_one", "_law_two", "_law_start", "_law_end", "_law_lot", "_law_cell"] [a0] = [some a0, none, none, none, none, none, none, none, none, none, none, none, none, none, none, none] := rfl
theorem ok_law (G : Glb P w K mg base C_BadStretch C_TooLong C_Matching) (h_law_asks : Dfk P w K mg base T "_law_asks" 3 ["_law_bag_here", "_law_size_z", "_law_most"] sp_law_asks) (h_law_bag : Dfk P w K mg base T "_law_bag" 1 ["_law_script"] sp_law_bag) (h_law_highest : Dfk P w K mg base T "_law_highest" 1 ["_law_row", "_law_cells"] sp_law_highest) (h_law_take : Dfk P w K mg base T "_law_take" 1 ["_law_bag_here", "_law_sides"] sp_law_take) (h_law_turned : Dfk P w K mg base T "_law_turned" 2 ["_law_bag_here", "_law_some"] sp_law_turned) (h_foil : DfkK P w K mg base T "foil" 11 ["asks", "lots", "size"] 2 ["size"] [V.int 400] (sp_foil C_BadStretch C_TooLong)) (h_planF : Dfk P w K mg base T "plan" 7 ["asks"] (sp_planF C_BadStretch C_Matching)) {f : Addr} {fd : FuncData} (Dd : FunK K "law" "law" s_law f fd) : FnOk P w K mg base (L2.CX P w) 12 f fd ["_law_script"] (spUp ⟨K, T⟩ sp_law) := by
  refine FunK.okS Dd sc_law (fun ds M Q E h => by
    obtain ⟨_, rfl, _⟩ := h
    rfl) fun cdv A outer s H E hr => ?_
  have tk : Takes (cxOf (L2.CX P w) P w K mg base ["_law_script", "_law_bag_here", "_law_k", "_law_size_z", "_law_asks_here", "_law_kept", "_law_own", "_law_lots", "_law_told_z", "_law_ask", "_law_one", "_law_two", "_law_start", "_law_end", "_law_lot", "_law_cell"] "law" (defScope s_law) f cdv A outer s H E) (wOf T E).w := takes_of rfl rfl rfl rfl
  refine ⟨_, (dss_cons (ds_set 1 sc_law.nd (de_callA h_law_bag (hr.mono (by decide)) tk (da_cons (dv 0) da_nil)))
      (dss_cons (ds_for (passes_of rfl) rfl (di_rng1 rfl G.n_range (da_cons de_int da_nil)) (dg_name (i := 2) sc_law.nd rfl (by first | exact Or.inl rfl | exact Or.inr rfl) (fun _ e => nomatch e)) (dss_cons (ds_set 3 sc_law.nd (de_op op_add3 real_add de_int (de_callA h_law_take (hr.mono (by decide)) tk (da_cons (dv 1) (da_cons de_int da_nil)))))
      (dss_cons (ds_set 4 sc_law.nd (de_callA h_law_asks (hr.mono (by decide)) tk (da_cons (dv 1) (da_cons (dv 3) (da_cons de_int da_nil)))))
      (dss_cons (ds_set 5 sc_law.nd (de_ix (de_callA h_planF (hr.mono (by decide)) tk (da_cons (dv 4) da_nil)) de_int))
      (dss_cons (ds_setLcN 6 (LcOk.mk (own := [("_law_start", 12), ("_law_end", 13)]) rfl sc_law.nd (di_seq (dv 5)) (blkOk_by (N := ["_law_script", "_law_bag_here", "_law_k", "_law_size_z", "_law_asks_here", "_law_kept", "_law_own", "_law_lots", "_law_told_z", "_law_ask", "_law_one", "_law_two", "_law_start", "_law_end", "_law_lot", "_law_cell"]) (sc := defScope s_law) (by decide +kernel)) (fun _ _ _ _ _ => (dg_tup (n := 2) rfl (dgs_cons (dg_name (i := 12) sc_law.nd rfl (by first | exact Or.inl rfl | exact Or.inr rfl) (fun _ e => by cases e; decide)) (dgs_cons (dg_name (i := 13) sc_law.nd rfl (by first | exact Or.inl rfl | exact Or.inr rfl) (fun _ e => by cases e; decide)) dgs_nil)))) (fun _ _ _ _ _ => dts_nil) (fun _ _ _ _ _ => (de_frz (de_listRg rfl G.n_list G.n_range (dv 12) (dv 13))))) (sw_true rfl rfl rfl rfl))
      (dss_cons (ds_if (dt_cmp op_notN real_notN (de_callK h_foil (hr.mono (by decide)) tk (da_cons (dv 4) (da_cons (dv 6) da_nil)) (dk_one (dv 3))) de_non (nomark _)) (dss_one (ds_ret de_bl)) dss_nil)
      (dss_cons (ds_set 7 sc_law.nd (de_sl (dv 6) do_none (do_some (de_callB (call_max2 rfl) real_int2 rfl G.n_max rfl (da_cons de_int (da_cons (de_op op_sub real_sub (de_callB call_len real_len rfl G.n_len rfl (da_cons (dv 6) da_nil)) de_int) da_nil))))))
      (dss_cut (ds_if (dt_cmp (op_eqD hr.units) real_eq (de_callA h_law_take (hr.mono (by decide)) tk (da_cons (dv 1) (da_cons de_int da_nil))) de_int (nomark _)) (dss_one (ds_set 7 sc_law.nd (de_sl (de_callA h_law_turned (hr.mono (by decide)) tk (da_cons (dv 1) (da_cons (dv 6) da_nil))) do_none (do_some (de_callB (call_max2 rfl) real_int2 rfl G.n_max rfl (da_cons de_int (da_cons (de_op op_sub real_sub (de_callB call_len real_len rfl G.n_len rfl (da_cons (dv 6) da_nil)) de_int) da_nil))))))) dss_nil)
      (dss_cut (ds_if (dt_cmp (op_eqD hr.units) real_eq (de_callA h_law_take (hr.mono (by decide)) tk (da_cons (dv 1) (da_cons de_int da_nil))) de_int (nomark _)) (dss_one (ds_setLcN 7 (LcOk.mk (own := [("_law_lot", 14)]) rfl sc_law.nd (di_seq (dv 7)) (blkOk_by (N := ["_law_script", "_law_bag_here", "_law_k", "_law_size_z", "_law_asks_here", "_law_kept", "_law_own", "_law_lots", "_law_told_z", "_law_ask", "_law_one", "_law_two", "_law_start", "_law_end", "_law_lot", "_law_cell"]) (sc := defScope s_law) (by decide +kernel)) (fun _ _ _ _ _ => (dg_name (i := 14) sc_law.nd rfl (by first | exact Or.inl rfl | exact Or.inr rfl) (fun _ e => by cases e; decide))) (fun _ _ _ _ _ => dts_nil) (fun _ _ _ _ _ => (de_lcN (LcOk.mk (own := [("_law_cell", 15)]) rfl sc_law.nd (di_rng1 rfl G.n_range (da_cons (dv 3) da_nil)) (blkOk_rel (N := ["_law_script", "_law_bag_here", "_law_k", "_law_size_z", "_law_asks_here", "_law_kept", "_law_own", "_law_lots", "_law_told_z", "_law_ask", "_law_one", "_law_two", "_law_start", "_law_end", "_law_lot", "_law_cell"]) (by decide +kernel)) (fun _ _ _ _ _ => (dg_name (i := 15) sc_law.nd rfl (by first | exact Or.inl rfl | exact Or.inr rfl) (fun _ e => by cases e; decide))) (fun _ _ _ _ _ => (dts_one (dt_cmp (op_eqD hr.units) real_eq (de_callA h_law_take (hr.mono (by decide)) takes_none5 (da_cons (dv 1) (da_cons de_int da_nil))) de_int (nomark _)))) (fun _ _ _ _ _ => (dv 15)))))) (sw_true rfl rfl rfl rfl))) dss_nil)
      (dss_one (ds_if (dt_cmp (op_neD hr.units) real_ne (dv 5) (de_lst da_nil) (nomark _)) (dss_cons (ds_set 8 sc_law.nd (de_callK h_foil (hr.mono (by decide)) tk (da_cons (dv 4) (da_cons (dv 7) da_nil)) (dk_one (dv 3))))
      (dss_cons (ds_if (dt_cmp op_isN real_isN (dv 8) de_non (nomark _)) (dss_one (ds_ret de_bl)) dss_nil)
      (dss_cons (ds_asg (dv 8) (dg_tup (n := 3) rfl (dgs_cons (dg_name (i := 9) sc_law.nd rfl (by first | exact Or.inl rfl | exact Or.inr rfl) (fun _ e => nomatch e)) (dgs_cons (dg_name (i := 10) sc_law.nd rfl (by first | exact Or.inl rfl | exact Or.inr rfl) (fun _ e => nomatch e)) (dgs_cons (dg_name (i := 11) sc_law.nd rfl (by first | exact Or.inl rfl | exact Or.inr rfl) (fun _ e => nomatch e)) dgs_nil)))))
      (dss_cons (ds_if (dw_pt (dw_or (dt_cmp (op_notInD (Room.un65 hr)) real_notIn (dv 9) (dv 4) (by with_unfolding_all rfl)) (dw_or1 (dt_val (de_callB (cr_any rfl) real_any rfl G.n_any rfl (da_cons (de_lcN (LcOk.mk (own := [("_law_lot", 14)]) rfl sc_law.nd (di_seq (dv 7)) (blkOk_by (N := ["_law_script", "_law_bag_here", "_law_k", "_law_size_z", "_law_asks_here", "_law_kept", "_law_own", "_law_lots", "_law_told_z", "_law_ask", "_law_one", "_law_two", "_law_start", "_law_end", "_law_lot", "_law_cell"]) (sc := defScope s_law) (by decide +kernel)) (fun _ _ _ _ _ => (dg_name (i := 14) sc_law.nd rfl (by first | exact Or.inl rfl | exact Or.inr rfl) (fun _ e => by cases e; decide))) (fun _ _ _ _ _ => dts_nil) (fun _ _ _ _ _ => (de_cmp (op_neD hr.units) real_ne (de_callA h_law_highest (hr.mono (by decide)) takes_none5 (da_cons (dv 10) (da_cons (dv 14) da_nil))) (de_callA h_law_highest (hr.mono (by decide)) takes_none5 (da_cons (dv 11) (da_cons (dv 14) da_nil))) (nomark _))))) da_nil)))))) (dss_one (ds_ret de_bl)) dss_nil)
      (dss_one (ds_if (dt_cmp (op_eqD hr.units) real_eq (de_callB (cr_max rfl) real_max rfl G.n_max rfl (da_cons (de_sl (dv 10) (do_some (de_ix (dv 9) de_int)) (do_some (de_ix (dv 9) de_int))) da_nil)) (de_callB (cr_max rfl) real_max rfl G.n_max rfl (da_cons (de_sl (dv 11) (do_some (de_ix (dv 9) de_int)) (do_some (de_ix (dv 9) de_int))) da_nil)) (nomark _)) (dss_one (ds_ret de_bl)) dss_nil)))))) dss_nil)))))))))))
      (dss_one (ds_ret de_bl)))), fun ds M Qd Ed h => ?_⟩
  obtain ⟨ns, rfl, hl, h⟩ := h
  (first | (simp only [st_law]; try sizeOf_list_dec) | sizeOf_list_dec)
  refine ⟨ns, rfl, hl, fun b hb => ?_⟩
  (first | (simp only [st_law]; try sizeOf_list_dec) | sizeOf_list_dec)
  have hb2 : mup M b bagC b = some bagC := mup_same
  generalize mup M b bagC = M1 at hb2 ⊢
  let I : Nat → DG → Mp → Prop := fun i Γ2 M2 => (∃ c2 c3 c4 c5 c6 c7 c8 c9 c10 c11 c12 c13 c14 c15, Γ2 = [some (.scr ns), some (.ref b), c2, c3, c4, c5, c6, c7, c8, c9, c10, c11, c12, c13, c14, c15]) ∧ M2 b = some bagC
  refine ⟨⟨by decide, by decide⟩, forRng I ⟨⟨_, _, _, _, _, _, _, _, _, _, _, _, _, _, rfl⟩, hb2⟩ (fun _ => trivial) ?_ ?_⟩
  · rintro i _ M2 hi ⟨⟨c2, c3, c4, c5, c6, c7, c8, c9, c10, c11, c12, c13, c14, c15, rfl⟩, hb2⟩
    (first | (simp only [st_law]; try sizeOf_list_dec) | sizeOf_list_dec)
    refine ⟨b, _, rfl, hb2, by omega, by omega, fun r h0 h1 => ?_⟩
    sizeOf_list_dec
    refine ⟨b, _, _, rfl, hb2, by omega, by omega, by omega, by omega, fun as hal has => ?_⟩
    have hok : ∀ s ∈ as, okS s := fun s hs => by have := has s hs; unfold okS; omega
    refine ⟨_, as, rfl, rfl, by omega, fun _ bs hbs => ?_, fun z => absurd hok z⟩
    have hr : inRow bs := fun s hs => by have := hok s ((hbs.2.1 s).mp hs); unfold okS at this; omega
    have PP := plan_ok hr hbs.1
    have hK : (planF bs).1.length ≤ 9 := by
      have h1 := unlike_asks PP.um PP.un
      have h2 := PP.len
      have h3 := hbs.2.2
      omega
    generalize (planF bs).1 = Ks at PP hK ⊢
    generalize (planF bs).2 = Us at PP
    have hks : ∀ k ∈ Ks, 0 ≤ k.1 ∧ k.1 < k.2 ∧ k.2 ≤ 1 + r := fun k hk => by
      obtain ⟨j, hj⟩ := List.mem_iff_getElem?.mp hk
      obtain ⟨t, ht, g1, g2, _⟩ := PP.lo j k hj
      have g3 := has t ((hbs.2.1 t).mp ht)
      have g4 := (PP.en k hk).2.2
      omega
    refine ⟨_, rfl, ?_⟩
    refine ⟨_, rfl, LI_F (F := spD) (xs := Ks) injSp (fun s => some (lotD (cellsOf s))) (fun _ _ => rfl) (fun s hs M' hM => ?_) ?_⟩
    · sizeOf_list_dec
      have h2 := hks s hs
      refine ⟨RgOk.of_le (by omega) (by omega) (by omega) (by omega), fun p hp => ⟨mdel_mup hp, ?_⟩⟩
      unfold rngD lotD cellsOf
      rw [List.map_map]
      refine congrArg D.lst (List.map_congr_left fun k _ => ?_)
      show D.int (s.1 + (k : Nat) * 1) = D.int (s.1 + (k : Nat))
      rw [Int.mul_one]
    rw [filterMap_some]
    rw [show Ks.map (fun s => lotD (cellsOf s)) = (Ks.map cellsOf).map lotD by rw [List.map_map]; rfl]
    have gA : goodL as := ⟨by omega, hok⟩
    have gC : goodLots (Ks.map cellsOf) := fun xs hxs c hc => by
      obtain ⟨s, hs, rfl⟩ := List.mem_map.mp hxs
      have h1 := mem_cellsOf.mp hc
      have h2 := hks s hs
      unfold okS
      dsimp only
      omega
    have lC : ∀ xs ∈ Ks.map cellsOf, xs.length ≤ 1000 := fun xs hxs => by
      obtain ⟨s, hs, rfl⟩ := List.mem_map.mp hxs
      have h2 := hks s hs
      unfold cellsOf
      rw [List.length_map, List.length_range]
      omega
    have fC : fitsI as (Ks.map cellsOf) (1 + r) := ⟨fun s hs => (has s hs).2.2, fun xs hxs c hc => by
      obtain ⟨s, hs, rfl⟩ := List.mem_map.mp hxs
      have h1 := mem_cellsOf.mp hc
      have h2 := hks s hs
      omega⟩
    refine ⟨_, _, as, Ks.map cellsOf, _, rfl, rfl, rfl, by omega, by rw [List.length_map]; omega, lC, by omega, fun z => absurd ⟨gA, gC⟩ z, fun _ _ => ⟨fun z => absurd ⟨fC, by omega⟩ z, fun _ _ cs hcs => ?_⟩⟩
    obtain rfl := dst_uniq hbs hcs
    have e0 : foilD (Ks.map cellsOf) (marksOf bs) (1 + r).toNat = .non := by
      unfold foilD
      rw [List.find?_eq_none.mpr fun m hm => by rw [held_cells, allServed_iff.mp PP.all m hm]; decide]
    rw [e0]
    refine ⟨rfl, _, rfl, fun z => by simp at z, fun _ => ?_⟩
    have kC : ∀ xs ∈ Ks.map cellsOf, xs.length ≤ 1000 ∧ ∀ c ∈ xs, 0 ≤ c ∧ c < 1 + r := fun xs hxs => ⟨lC xs hxs, fun c hc => by
      obtain ⟨s, hs, rfl⟩ := List.mem_map.mp hxs
      have h1 := mem_cellsOf.mp hc
      have h2 := hks s hs
      omega⟩
    have nC : (Ks.map cellsOf).length = Ks.length := List.length_map ..
    generalize Ks.map cellsOf = Lc at kC nC
    rw [lenSq (show sqD M2 (.lst (Lc.map lotD)) = some (Lc.map lotD) from rfl), List.length_map, nC]
    have emax : ∀ Q : DQ, Q (.int ((Ks.length - 1 : Nat) : Int)) M2 → rdInt2 (fun i j => if j > i then j else i) [D.int 0, D.int ((Ks.length : Int) - 1)] M2 Q := fun Q q => by
      rw [rdInt2_eq, show (if ((Ks.length : Int) - 1) > 0 then ((Ks.length : Int) - 1) else 0) = ((Ks.length - 1 : Nat) : Int) by split <;> omega]
      exact q
    refine ⟨_, _, rfl, rfl, emax _ ⟨_, rfl, ?_⟩⟩
    refine rdSl_to (show sqD M2 (.lst (Lc.map lotD)) = some (Lc.map lotD) from rfl) ?_
    let LotOk : List (List Int) → Prop := fun L => L.length ≤ Ks.length - 1 ∧ ∀ xs ∈ L, xs.length ≤ 1000 ∧ ∀ c ∈ xs, 0 ≤ c ∧ c < 1 + r
    have ok0 : LotOk (Lc.take (Ks.length - 1)) := ⟨by rw [List.length_take]; omega, fun xs hxs => kC xs (List.mem_of_mem_take hxs)⟩
    generalize Lc.take (Ks.length - 1) = L0 at ok0
    let J : DG → Mp → Prop := fun Γ2 M3 => ∃ L, LotOk L ∧ Γ2 = [some (.scr ns), some (.ref b), some (.int (i : Nat)), some (.int (1 + r)), some (.lst (as.map spD)), some (.lst (Ks.map spD)), some (.lst (Lc.map lotD)), some (.lst (L.map lotD)), c8, c9, c10, c11, c12, c13, c14, c15] ∧ M2 = M3
    refine ⟨J, ?_, ?_⟩
    · sizeOf_list_dec
      refine ⟨b, _, rfl, hb2, by omega, by omega, fun v _ _ => ?_⟩
      show rdEq (.int v) (.int 0) M2 _
      rw [eqI]
      refine ⟨_, rfl, fun _ => ?_, fun _ => ⟨L0, ok0, rfl, rfl⟩⟩
      refine ⟨b, _, List Int, lotD, Lc, rfl, hb2, rfl, by omega, fun Lt hperm => ?_⟩
      have hlt := hperm.length_eq
      rw [show (if ((Lc.length : Int) - 1) > 0 then ((Lc.length : Int) - 1) else 0) = ((Ks.length - 1 : Nat) : Int) by split <;> omega]
      refine rdSl_to (show sqD M2 (.lst (Lt.map lotD)) = some (Lt.map lotD) from rfl) ?_
      exact ⟨Lt.take (Ks.length - 1), ⟨by rw [List.length_take]; omega, fun xs hxs => kC xs (hperm.mem_iff.mp (List.mem_of_mem_take hxs))⟩, rfl, rfl⟩
    rintro _ _ ⟨L, hL, rfl, rfl⟩
    refine ⟨J, ?_, ?_⟩
    · sizeOf_list_dec
      refine ⟨b, _, rfl, hb2, by omega, by omega, fun v _ _ => ?_⟩
      show rdEq (.int v) (.int 0) M2 _
      rw [eqI]
      refine ⟨_, rfl, fun _ => ?_, fun _ => ⟨L, hL, rfl, rfl⟩⟩
      refine ⟨_, rfl, LI_R (F := lotD) (xs := L) injLot (fun _ o => ∃ xs : List Int, o = some (lotD xs) ∧ (xs.length ≤ 1000 ∧ ∀ c ∈ xs, 0 ≤ c ∧ c < 1 + r)) (fun _ _ => rfl) (fun l hl M' hM => ?_) fun os hos => ?_⟩
      · sizeOf_list_dec
        refine ⟨⟨by omega, by omega⟩, LI_R (xs := List.range (1 + r).toNat) (injRng (by decide)) (fun k o => o = none ∨ o = some (D.int (0 + (k : Nat)))) (fun _ _ => trivial) (fun k hk M'' hM2 => ?_) fun os hos => ?_⟩
        · sizeOf_list_dec
          refine ⟨b, _, rfl, hM2 _ _ (hM _ _ hb2), by omega, by omega, fun v _ _ => ?_⟩
          show rdEq (.int v) (.int 0) M'' _
          rw [eqI]
          refine ⟨_, rfl, fun _ => ?_, fun _ => ?_⟩
          · exact ⟨rfl, .inr (by simp)⟩
          · exact ⟨rfl, by simp⟩
        · obtain ⟨cs, e1, e2, e3⟩ := all2_some (s := 0) hos
          rw [e1]
          rw [List.length_range] at e2
          exact ⟨rfl, cs, rfl, by omega, fun c hc => by
            obtain ⟨k, hk, rfl⟩ := e3 c hc
            have := List.mem_range.mp hk
            omega⟩
      obtain ⟨zs, ez, hz, hzl⟩ := all2_vals hos
      rw [ez]
      exact ⟨zs, ⟨by rw [hzl]; exact hL.1, hz⟩, rfl, rfl⟩
    rintro _ _ ⟨L, hL, rfl, rfl⟩
    sizeOf_list_dec
    rw [neNilL lay_spD]
    refine ⟨_, rfl, fun hne => ?_, fun _ => ⟨⟨_, _, _, _, _, _, _, _, _, _, _, _, _, _, rfl⟩, hb2⟩⟩
    have hpos : 0 < Ks.length := by
      cases Ks with
      | nil => cases hne
      | cons _ _ => simp
    have hLl := hL.1
    have gL : goodLots L := fun xs hxs c hc => by
      have h2 := (hL.2 xs hxs).2 c hc
      unfold okS
      dsimp only
      omega
    have fL : fitsI as L (1 + r) := ⟨fun s hs => (has s hs).2.2, fun xs hxs c hc => by have h2 := (hL.2 xs hxs).2 c hc; omega⟩
    refine ⟨_, _, as, L, _, rfl, rfl, rfl, by omega, by omega, fun xs hxs => (hL.2 xs hxs).1, by omega, fun z => absurd ⟨gA, gL⟩ z, fun _ _ => ⟨fun z => absurd ⟨fL, by omega⟩ z, fun _ _ cs hcs => ?_⟩⟩
    obtain rfl := dst_uniq hbs hcs
    obtain ⟨m, em⟩ : ∃ m, (marksOf bs).find? (fun m => !heldBy L m) = some m := by
      cases e : (marksOf bs).find? (fun m => !heldBy L m) with
      | some m => exact ⟨m, rfl⟩
      | none =>
        exfalso
        have := no_fewer PP (ks := L.map hullI) fun s hs c c1 c2 => by
          have g := List.find?_eq_none.mp e (c, s.1, s.2) (mem_marksOf.mpr ⟨hs, c1, c2⟩)
          have g2 : heldBy L (c, s.1, s.2) = true := by simpa using g
          obtain ⟨lot, hl, hh⟩ := List.any_eq_true.mp g2
          exact servedBy_iff.mpr ⟨_, List.mem_map.mpr ⟨lot, hl, rfl⟩, hull_ok hh⟩
        rw [List.length_map] at this
        omega
    have hm := mem_marksOf.mp (List.mem_of_find?_eq_some em)
    have nh : heldBy L m = false := by simpa using List.find?_some em
    have hma := has _ ((hbs.2.1 _).mp hm.1)
    dsimp only at hma
    unfold foilD
    rw [em]
    refine ⟨rfl, _, rfl, fun z => by simp at z, fun _ => ⟨_, rfl, rfl, ?_⟩⟩
    sizeOf_list_dec
    refine inDN (f := spD) (x := (m.2.1, m.2.2)) lay_spD (fun _ _ => deq_spD _ _) rfl (show sqD M2 (.lst (as.map spD)) = some (as.map spD) from rfl) (by decide) fun b0 hb0 => ?_
    obtain rfl : b0 = false := by
      cases b0 with
      | false => rfl
      | true => exact absurd ((hbs.2.1 _).mp hm.1) (hb0.mp rfl)
    have hn : (((1 + r).toNat : Nat) : Int) = 1 + r := Int.toNat_of_nonneg (by omega)
    generalize hN : (1 + r).toNat = n at hn ⊢
    have oat : ∀ k, k < n → (outR m n)[k]? = some (if m.2.1 ≤ (k : Int) ∧ (k : Int) < m.2.2 then 0 else 1) := fun k hk => by simp [outR, hk]
    have ol : (outR m n).length = n := by simp [outR]
    generalize hO : outR m n = o at oat ol ⊢
    have hmn : m.1.toNat < n := by omega
    have tat : ∀ k, k < n → (o.set m.1.toNat 1)[k]? = if k = m.1.toNat then some 1 else o[k]? := fun k hk => by
      by_cases e : m.1.toNat = k
      · subst e
        simp [List.getElem?_set, ol, hk]
      · rw [List.getElem?_set_ne e, if_neg fun z => e z.symm]
    have tl : (o.set m.1.toNat 1).length = n := by rw [List.length_set, ol]
    generalize hTT : o.set m.1.toNat 1 = q at tat tl ⊢
    have bo : ∀ x ∈ o, 0 ≤ x ∧ x ≤ 1 := fun x hx => by
      obtain ⟨k, hk⟩ := List.mem_iff_getElem?.mp hx
      have hkn : k < n := by rw [← ol]; exact (List.getElem?_eq_some_iff.mp hk).1
      rw [oat k hkn] at hk
      cases hk
      split <;> omega
    have bq : ∀ x ∈ q, 0 ≤ x ∧ x ≤ 1 := fun x hx => by
      obtain ⟨k, hk⟩ := List.mem_iff_getElem?.mp hx
      have hkn : k < n := by rw [← tl]; exact (List.getElem?_eq_some_iff.mp hk).1
      rw [tat k hkn] at hk
      split at hk
      · cases hk
        omega
      · exact bo x (List.mem_of_getElem? hk)
    have hb1 : ∀ cs ∈ L, ∀ c ∈ cs, 0 ≤ c ∧ c < n := fun cs hcs c hc => by have := (hL.2 cs hcs).2 c hc; omega
    have hiEq : ∀ cs ∈ L, hiOf o cs = hiOf q cs := fun cs hcs => by
      have hh : holdsB cs m = false := by
        have := nh
        unfold heldBy at this
        rw [List.any_eq_false] at this
        simpa using this cs hcs
      have hh := of_decide_eq_false hh
      have qo : ∀ c ∈ cs, c ≠ m.1 → q.getD c.toNat 0 = o.getD c.toNat 0 := fun c hc hne => by
        have hb := hb1 cs hcs c hc
        have := tat c.toNat (by omega)
        rw [if_neg (by omega)] at this
        rw [List.getD_eq_getElem?_getD, List.getD_eq_getElem?_getD, this]
      unfold hiOf
      by_cases hm1 : m.1 ∈ cs
      · have : ∃ c ∈ cs, ¬ (m.2.1 ≤ c ∧ c < m.2.2) := Classical.byContradiction fun z => hh ⟨hm1, fun c hc => Classical.byContradiction fun y => z ⟨c, hc, y⟩⟩
        obtain ⟨c, hc, hne⟩ := this
        have hb := hb1 cs hcs c hc
        have o1 : o.getD c.toNat 0 = 1 := by
          have := oat c.toNat (by omega)
          rw [if_neg (by omega)] at this
          rw [List.getD_eq_getElem?_getD, this]
          rfl
        have q1 : q.getD c.toNat 0 = 1 := by rw [qo c hc (fun z => hne (by omega)), o1]
        have leo : ∀ c ∈ cs, o.getD c.toNat 0 ≤ 1 := fun c hc => by
          have hb := hb1 cs hcs c hc
          have := oat c.toNat (by omega)
          rw [List.getD_eq_getElem?_getD, this]
          show (if _ then (0 : Int) else 1) ≤ 1
          split <;> omega
        have leq : ∀ c ∈ cs, q.getD c.toNat 0 ≤ 1 := fun c hc => by
          have hb := hb1 cs hcs c hc
          have := tat c.toNat (by omega)
          rw [List.getD_eq_getElem?_getD, this]
          split
          · exact Int.le_refl _
          · have := leo c hc
            rw [List.getD_eq_getElem?_getD] at this
            exact this
        have a1 : (1 : Int) = (cs.map fun c => o.getD c.toNat 0).foldl max 0 := hi_uniq (List.mem_cons_of_mem _ (List.mem_map.mpr ⟨c, hc, o1⟩)) fun y hy => by
          rcases List.mem_cons.mp hy with rfl | hy
          · omega
          · obtain ⟨c2, hc2, rfl⟩ := List.mem_map.mp hy
            exact leo c2 hc2
        have a2 : (1 : Int) = (cs.map fun c => q.getD c.toNat 0).foldl max 0 := hi_uniq (List.mem_cons_of_mem _ (List.mem_map.mpr ⟨c, hc, q1⟩)) fun y hy => by
          rcases List.mem_cons.mp hy with rfl | hy
          · omega
          · obtain ⟨c2, hc2, rfl⟩ := List.mem_map.mp hy
            exact leq c2 hc2
        rw [← a1, ← a2]
      · congr 1
        exact List.map_congr_left fun c hc => (qo c hc fun z => hm1 (z ▸ hc)).symm
    refine ⟨false, rfl, (fun z => by cases z), fun _ => ?_⟩
    refine ⟨_, rfl, LI_F (F := lotD) (xs := L) injLot (fun _ => some (.bl false)) (fun _ _ => rfl) (fun cs hcs M' hM => ?_) ?_⟩
    · sizeOf_list_dec
      refine ⟨_, _, o, cs, rfl, rfl, rfl, (hL.2 cs hcs).1, fun c hc => by have := hb1 cs hcs c hc; omega, ?_⟩
      refine ⟨_, _, q, cs, rfl, rfl, rfl, (hL.2 cs hcs).1, fun c hc => by have := hb1 cs hcs c hc; omega, ?_⟩
      rw [hiEq cs hcs]
      show rdNe (.int _) (.int _) M' _
      rw [neI]
      exact ⟨rfl, by simp⟩
    refine anyT (L.map fun _ => false) (by rw [filterMap_some, List.map_map]; rfl) ?_
    rw [show ((L.map fun _ => false).any id) = false by simp]
    refine ⟨false, rfl, (fun z => by cases z), fun _ => ?_⟩
    have ha : ((m.2.1.toNat : Nat) : Int) = m.2.1 := Int.toNat_of_nonneg (by omega)
    have he : ((m.2.2.toNat : Nat) : Int) = m.2.2 := Int.toNat_of_nonneg (by omega)
    have cm : ∀ xs : List Int, xs.length = n → cutD (xs.map D.int) (some m.2.1) (some m.2.2) = ((xs.drop m.2.1.toNat).take (m.2.2.toNat - m.2.1.toNat)).map D.int := fun xs hx => by
      have := cut_mid (f := D.int) (xs := xs) (i := m.2.1.toNat) (j := m.2.2.toNat) (by omega) (by omega)
      rw [ha, he] at this
      exact this
    have pos : ∀ xs : List Int, xs.length = n → 0 < ((xs.drop m.2.1.toNat).take (m.2.2.toNat - m.2.1.toNat)).length := fun xs hx => by
      rw [List.length_take, List.length_drop]
      omega
    refine rdSl_sq (xs := o.map D.int) rfl ?_
    rw [cm o ol]
    refine ⟨_, _, rfl, rfl, pos o ol, fun x hx _ => ?_⟩
    obtain rfl : x = 0 := by
      obtain ⟨k, k1, k2, k3⟩ := mid_mem.mp hx
      rw [oat k (by omega), if_pos (by omega)] at k3
      exact (Option.some.inj k3).symm
    refine rdSl_sq (xs := q.map D.int) rfl ?_
    rw [cm q tl]
    refine ⟨_, _, rfl, rfl, pos q tl, fun y hy hmax => ?_⟩
    obtain rfl : y = 1 := by
      have h1 := bq y (by
        obtain ⟨k, k1, k2, k3⟩ := mid_mem.mp hy
        exact List.mem_of_getElem? k3)
      have h2 := hmax 1 (mid_mem.mpr ⟨m.1.toNat, by omega, by omega, by rw [tat _ hmn, if_pos rfl]⟩)
      omega
    rw [eqI]
    exact ⟨false, rfl, (fun z => by cases z), fun _ => ⟨⟨_, _, _, _, _, _, _, _, _, _, _, _, _, _, rfl⟩, hb2⟩⟩
  · rintro _ M2 ⟨⟨c2, c3, c4, c5, c6, c7, c8, c9, c10, c11, c12, c13, c14, c15, rfl⟩, hb2⟩
    sizeOf_list_dec
    exact Fin.same (h _)
end
theorem scc_LarderError : FnScope ["self", "word"] ["self", "word"] (defScope c_LarderError) := ⟨rfl, rfl, rfl, by decide +kernel, rfl, by decide +kernel, by decide +kernel⟩
theorem scc_BadStretch : FnScope ["self"] ["self"] (defScope c_BadStretch) := ⟨rfl, rfl, rfl, by decide +kernel, rfl, by decide +kernel, by decide +kernel⟩
theorem scc_TooLong : FnScope ["self"] ["self"] (defScope c_TooLong) := ⟨rfl, rfl, rfl, by decide +kernel, rfl, by decide +kernel, by decide +kernel⟩
theorem all_mk {l : PySem.W.OpenLaw} {w : World} {K : PySem.W.Frag} {h : Heap} {mg : Str → Option Value} {fa : Addr} (X : K.In h) (Gn : h.Ns mainGlobals mg) (hfa : mg "law" = some (.ref fa))
    {CBLarderError CPMatching CXBadStretch CXTooLong NXBadStretch NXTooLong Pt31 cc31 f0 f1 f10 f11 f12 f13 f14 f15 f16 f17 f18 f19 f2 f20 f21 f22 f23 f24 f25 f26 f27 f28 f29 f3 f30 f31 f32 f33 f34 f35 f36 f37 f38 f39 f4 f40 f41 f5 f6 f7 f8 f9 fBLarderError fXBadStretch fXTooLong kD34 : Addr} {abXBadStretch abXTooLong : Bool} {an0 an1 an10 an11 an12 an13 an14 an15 an16 an17 an18 an19 an2 an20 an21 an22 an23 an24 an25 an26 an27 an28 an29 an3 an30 an31 an32 an33 an34 an35 an36 an37 an38 an39 an4 an40 an41 an5 an6 an7 an8 an9 anBLarderError anXBadStretch anXTooLong dd31 ddXBadStretch ddXTooLong od0 od1 od10 od11 od12 od13 od14 od15 od16 od17 od18 od19 od2 od20 od21 od22 od23 od24 od25 od26 od27 od28 od29 od3 od30 od31 od32 od33 od34 od35 od36 od37 od38 od39 od4 od40 od41 od5 od6 od7 od8 od9 odBLarderError odXBadStretch odXTooLong : Option Addr} {bmXBadStretch bmXTooLong bsXBadStretch bsXTooLong subXBadStretch subXTooLong : List Value} {cd0 cd1 cd10 cd11 cd12 cd13 cd14 cd15 cd16 cd17 cd18 cd19 cd2 cd20 cd21 cd22 cd23 cd24 cd25 cd26 cd27 cd28 cd29 cd3 cd30 cd32 cd33 cd34 cd35 cd36 cd37 cd38 cd39 cd4 cd40 cd41 cd5 cd6 cd7 cd8 cd9 cdBLarderError cdXBadStretch cdXTooLong ct0 ct1 ct10 ct11 ct12 ct13 ct14 ct15 ct16 ct17 ct18 ct19 ct2 ct20 ct21 ct22 ct23 ct24 ct25 ct26 ct27 ct28 ct29 ct3 ct30 ct31 ct32 ct33 ct34 ct35 ct36 ct37 ct38 ct39 ct4 ct40 ct41 ct5 ct6 ct7 ct8 ct9 ctBLarderError ctXBadStretch ctXTooLong dc0 dc1 dc10 dc11 dc12 dc13 dc14 dc15 dc16 dc17 dc18 dc19 dc2 dc20 dc21 dc22 dc23 dc24 dc25 dc26 dc27 dc28 dc29 dc3 dc30 dc31 dc32 dc33 dc34 dc35 dc36 dc37 dc38 dc39 dc4 dc40 dc41 dc5 dc6 dc7 dc8 dc9 dcBLarderError dcXBadStretch dcXTooLong ec31 kV0 kV1 kV10 kV11 kV12 kV13 kV14 kV15 kV16 kV17 kV18 kV19 kV2 kV20 kV21 kV22 kV23 kV24 kV25 kV26 kV27 kV28 kV29 kV3 kV30 kV31 kV32 kV33 kV35 kV36 kV37 kV38 kV39 kV4 kV40 kV41 kV5 kV6 kV7 kV8 kV9 kVBLarderError kVXBadStretch kVXTooLong oc0 oc1 oc10 oc11 oc12 oc13 oc14 oc15 oc16 oc17 oc18 oc19 oc2 oc20 oc21 oc22 oc23 oc24 oc25 oc26 oc27 oc28 oc29 oc3 oc30 oc31 oc32 oc33 oc34 oc35 oc36 oc37 oc38 oc39 oc4 oc40 oc41 oc5 oc6 oc7 oc8 oc9 ocBLarderError ocXBadStretch ocXTooLong pm0 pm1 pm10 pm11 pm12 pm13 pm14 pm15 pm16 pm17 pm18 pm19 pm2 pm20 pm21 pm22 pm23 pm24 pm25 pm26 pm27 pm28 pm29 pm3 pm30 pm31 pm32 pm33 pm34 pm35 pm36 pm37 pm38 pm39 pm4 pm40 pm41 pm5 pm6 pm7 pm8 pm9 pmBLarderError pmXBadStretch pmXTooLong : Value} {colXBadStretch colXTooLong : Option Bool} {kt34 tCELLS tSTRETCHES : Tok} {m0XBadStretch m0XTooLong m1XBadStretch m1XTooLong m2XBadStretch m2XTooLong m3XBadStretch m3XTooLong m5XBadStretch m5XTooLong : Option Value} {nmXBadStretch nmXTooLong qXBadStretch qXTooLong : Str} {sk31 sl0 sl1 sl10 sl11 sl12 sl13 sl14 sl15 sl16 sl17 sl18 sl19 sl2 sl20 sl21 sl22 sl23 sl24 sl25 sl26 sl27 sl28 sl29 sl3 sl30 sl31 sl32 sl33 sl34 sl35 sl36 sl37 sl38 sl39 sl4 sl40 sl41 sl5 sl6 sl7 sl8 sl9 slBLarderError slXBadStretch slXTooLong : Array (Option Value)} {snXBadStretch snXTooLong : List Str} {vs31 : Array Value}
    (aaPMatching : PySem.W.nsIn K mainGlobals "Matching" = some (some (.ref CPMatching)))
    (a0 : PySem.W.nsIn K mainGlobals "is_stretch" = some (some (.ref f0)))
    (l0 : K.lookup f0 = some ⟨oc0, od0, .func (PySem.W.fnOf "is_stretch" "is_stretch" (defArgs s_is_stretch) (defBody s_is_stretch) (defScope s_is_stretch) .none kV0 dc0 pm0 an0 cd0 ct0), sl0⟩)
    (c0 : PySem.W.codeIn K cd0 "is_stretch" = true)
    (k0 : PySem.W.keepIn K (.ref f0) = true)
    (a1 : PySem.W.nsIn K mainGlobals "look_stretch" = some (some (.ref f1)))
    (l1 : K.lookup f1 = some ⟨oc1, od1, .func (PySem.W.fnOf "look_stretch" "look_stretch" (defArgs s_look_stretch) (defBody s_look_stretch) (defScope s_look_stretch) .none kV1 dc1 pm1 an1 cd1 ct1), sl1⟩)
    (c1 : PySem.W.codeIn K cd1 "look_stretch" = true)
    (k1 : PySem.W.keepIn K (.ref f1) = true)
    (a2 : PySem.W.nsIn K mainGlobals "look_stretches" = some (some (.ref f2)))
    (l2 : K.lookup f2 = some ⟨oc2, od2, .func (PySem.W.fnOf "look_stretches" "look_stretches" (defArgs s_look_stretches) (defBody s_look_stretches) (defScope s_look_stretches) .none kV2 dc2 pm2 an2 cd2 ct2), sl2⟩)
    (c2 : PySem.W.codeIn K cd2 "look_stretches" = true)
    (k2 : PySem.W.keepIn K (.ref f2) = true)
    (a3 : PySem.W.nsIn K mainGlobals "distinct" = some (some (.ref f3)))
    (l3 : K.lookup f3 = some ⟨oc3, od3, .func (PySem.W.fnOf "distinct" "distinct" (defArgs s_distinct) (defBody s_distinct) (defScope s_distinct) .none kV3 dc3 pm3 an3 cd3 ct3), sl3⟩)
    (c3 : PySem.W.codeIn K cd3 "distinct" = true)
    (k3 : PySem.W.keepIn K (.ref f3) = true)
    (a4 : PySem.W.nsIn K mainGlobals "lies_within" = some (some (.ref f4)))
    (l4 : K.lookup f4 = some ⟨oc4, od4, .func (PySem.W.fnOf "lies_within" "lies_within" (defArgs s_lies_within) (defBody s_lies_within) (defScope s_lies_within) .none kV4 dc4 pm4 an4 cd4 ct4), sl4⟩)
    (c4 : PySem.W.codeIn K cd4 "lies_within" = true)
    (k4 : PySem.W.keepIn K (.ref f4) = true)
    (a5 : PySem.W.nsIn K mainGlobals "borders" = some (some (.ref f5)))
    (l5 : K.lookup f5 = some ⟨oc5, od5, .func (PySem.W.fnOf "borders" "borders" (defArgs s_borders) (defBody s_borders) (defScope s_borders) .none kV5 dc5 pm5 an5 cd5 ct5), sl5⟩)
    (c5 : PySem.W.codeIn K cd5 "borders" = true)
    (k5 : PySem.W.keepIn K (.ref f5) = true)
    (a6 : PySem.W.nsIn K mainGlobals "serves" = some (some (.ref f6)))
    (l6 : K.lookup f6 = some ⟨oc6, od6, .func (PySem.W.fnOf "serves" "serves" (defArgs s_serves) (defBody s_serves) (defScope s_serves) .none kV6 dc6 pm6 an6 cd6 ct6), sl6⟩)
    (c6 : PySem.W.codeIn K cd6 "serves" = true)
    (k6 : PySem.W.keepIn K (.ref f6) = true)
    (a7 : PySem.W.nsIn K mainGlobals "are_bound" = some (some (.ref f7)))
    (l7 : K.lookup f7 = some ⟨oc7, od7, .func (PySem.W.fnOf "are_bound" "are_bound" (defArgs s_are_bound) (defBody s_are_bound) (defScope s_are_bound) .none kV7 dc7 pm7 an7 cd7 ct7), sl7⟩)
    (c7 : PySem.W.codeIn K cd7 "are_bound" = true)
    (k7 : PySem.W.keepIn K (.ref f7) = true)
    (a8 : PySem.W.nsIn K mainGlobals "go_across" = some (some (.ref f8)))
    (l8 : K.lookup f8 = some ⟨oc8, od8, .func (PySem.W.fnOf "go_across" "go_across" (defArgs s_go_across) (defBody s_go_across) (defScope s_go_across) .none kV8 dc8 pm8 an8 cd8 ct8), sl8⟩)
    (c8 : PySem.W.codeIn K cd8 "go_across" = true)
    (k8 : PySem.W.keepIn K (.ref f8) = true)
    (a9 : PySem.W.nsIn K mainGlobals "is_under" = some (some (.ref f9)))
    (l9 : K.lookup f9 = some ⟨oc9, od9, .func (PySem.W.fnOf "is_under" "is_under" (defArgs s_is_under) (defBody s_is_under) (defScope s_is_under) .none kV9 dc9 pm9 an9 cd9 ct9), sl9⟩)
    (c9 : PySem.W.codeIn K cd9 "is_under" = true)
    (k9 : PySem.W.keepIn K (.ref f9) = true)
    (a10 : PySem.W.nsIn K mainGlobals "least_at" = some (some (.ref f10)))
    (l10 : K.lookup f10 = some ⟨oc10, od10, .func (PySem.W.fnOf "least_at" "least_at" (defArgs s_least_at) (defBody s_least_at) (defScope s_least_at) .none kV10 dc10 pm10 an10 cd10 ct10), sl10⟩)
    (c10 : PySem.W.codeIn K cd10 "least_at" = true)
    (k10 : PySem.W.keepIn K (.ref f10) = true)
    (a11 : PySem.W.nsIn K mainGlobals "essential_at" = some (some (.ref f11)))
    (l11 : K.lookup f11 = some ⟨oc11, od11, .func (PySem.W.fnOf "essential_at" "essential_at" (defArgs s_essential_at) (defBody s_essential_at) (defScope s_essential_at) .none kV11 dc11 pm11 an11 cd11 ct11), sl11⟩)
    (c11 : PySem.W.codeIn K cd11 "essential_at" = true)
    (k11 : PySem.W.keepIn K (.ref f11) = true)
    (a12 : PySem.W.nsIn K mainGlobals "essential_few" = some (some (.ref f12)))
    (l12 : K.lookup f12 = some ⟨oc12, od12, .func (PySem.W.fnOf "essential_few" "essential_few" (defArgs s_essential_few) (defBody s_essential_few) (defScope s_essential_few) .none kV12 dc12 pm12 an12 cd12 ct12), sl12⟩)
    (c12 : PySem.W.codeIn K cd12 "essential_few" = true)
    (k12 : PySem.W.keepIn K (.ref f12) = true)
    (a13 : PySem.W.nsIn K mainGlobals "taken_of" = some (some (.ref f13)))
    (l13 : K.lookup f13 = some ⟨oc13, od13, .func (PySem.W.fnOf "taken_of" "taken_of" (defArgs s_taken_of) (defBody s_taken_of) (defScope s_taken_of) .none kV13 dc13 pm13 an13 cd13 ct13), sl13⟩)
    (c13 : PySem.W.codeIn K cd13 "taken_of" = true)
    (k13 : PySem.W.keepIn K (.ref f13) = true)
    (mt14 : PySem.W.findIn K (.ref CPMatching) "reached" = some (some (.ref f14)))
    (l14 : K.lookup f14 = some ⟨oc14, od14, .func (PySem.W.fnOf "reached" "Matching.reached" (defArgs s_Matching_reached) (defBody s_Matching_reached) (defScope s_Matching_reached) .none kV14 dc14 pm14 an14 cd14 ct14), sl14⟩)
    (c14 : PySem.W.codeIn K cd14 "Matching.reached" = true)
    (k14 : PySem.W.keepIn K (.ref f14) = true)
    (mf14 : PySem.W.isFn K (.ref f14) = true)
    (mt15 : PySem.W.findIn K (.ref CPMatching) "widen" = some (some (.ref f15)))
    (l15 : K.lookup f15 = some ⟨oc15, od15, .func (PySem.W.fnOf "widen" "Matching.widen" (defArgs s_Matching_widen) (defBody s_Matching_widen) (defScope s_Matching_widen) .none kV15 dc15 pm15 an15 cd15 ct15), sl15⟩)
    (c15 : PySem.W.codeIn K cd15 "Matching.widen" = true)
    (k15 : PySem.W.keepIn K (.ref f15) = true)
    (mf15 : PySem.W.isFn K (.ref f15) = true)
    (mt16 : PySem.W.findIn K (.ref CPMatching) "__init__" = some (some (.ref f16)))
    (l16 : K.lookup f16 = some ⟨oc16, od16, .func (PySem.W.fnOf "__init__" "Matching.__init__" (defArgs s_Matching_init) (defBody s_Matching_init) (defScope s_Matching_init) .none kV16 dc16 pm16 an16 cd16 ct16), sl16⟩)
    (c16 : PySem.W.codeIn K cd16 "Matching.__init__" = true)
    (k16 : PySem.W.keepIn K (.ref f16) = true)
    (mf16 : PySem.W.isFn K (.ref f16) = true)
    (mt17 : PySem.W.findIn K (.ref CPMatching) "rows" = some (some (.ref f17)))
    (l17 : K.lookup f17 = some ⟨oc17, od17, .func (PySem.W.fnOf "rows" "Matching.rows" (defArgs s_Matching_rows) (defBody s_Matching_rows) (defScope s_Matching_rows) .none kV17 dc17 pm17 an17 cd17 ct17), sl17⟩)
    (c17 : PySem.W.codeIn K cd17 "Matching.rows" = true)
    (k17 : PySem.W.keepIn K (.ref f17) = true)
    (mf17 : PySem.W.isFn K (.ref f17) = true)
    (mt18 : PySem.W.findIn K (.ref CPMatching) "unlike" = some (some (.ref f18)))
    (l18 : K.lookup f18 = some ⟨oc18, od18, .func (PySem.W.fnOf "unlike" "Matching.unlike" (defArgs s_Matching_unlike) (defBody s_Matching_unlike) (defScope s_Matching_unlike) .none kV18 dc18 pm18 an18 cd18 ct18), sl18⟩)
    (c18 : PySem.W.codeIn K cd18 "Matching.unlike" = true)
    (k18 : PySem.W.keepIn K (.ref f18) = true)
    (mf18 : PySem.W.isFn K (.ref f18) = true)
    (a19 : PySem.W.nsIn K mainGlobals "chained" = some (some (.ref f19)))
    (l19 : K.lookup f19 = some ⟨oc19, od19, .func (PySem.W.fnOf "chained" "chained" (defArgs s_chained) (defBody s_chained) (defScope s_chained) .none kV19 dc19 pm19 an19 cd19 ct19), sl19⟩)
    (c19 : PySem.W.codeIn K cd19 "chained" = true)
    (k19 : PySem.W.keepIn K (.ref f19) = true)
    (a20 : PySem.W.nsIn K mainGlobals "is_served" = some (some (.ref f20)))
    (l20 : K.lookup f20 = some ⟨oc20, od20, .func (PySem.W.fnOf "is_served" "is_served" (defArgs s_is_served) (defBody s_is_served) (defScope s_is_served) .none kV20 dc20 pm20 an20 cd20 ct20), sl20⟩)
    (c20 : PySem.W.codeIn K cd20 "is_served" = true)
    (k20 : PySem.W.keepIn K (.ref f20) = true)
    (a21 : PySem.W.nsIn K mainGlobals "first_server" = some (some (.ref f21)))
    (l21 : K.lookup f21 = some ⟨oc21, od21, .func (PySem.W.fnOf "first_server" "first_server" (defArgs s_first_server) (defBody s_first_server) (defScope s_first_server) .none kV21 dc21 pm21 an21 cd21 ct21), sl21⟩)
    (c21 : PySem.W.codeIn K cd21 "first_server" = true)
    (k21 : PySem.W.keepIn K (.ref f21) = true)
    (a22 : PySem.W.nsIn K mainGlobals "exchanged" = some (some (.ref f22)))
    (l22 : K.lookup f22 = some ⟨oc22, od22, .func (PySem.W.fnOf "exchanged" "exchanged" (defArgs s_exchanged) (defBody s_exchanged) (defScope s_exchanged) .none kV22 dc22 pm22 an22 cd22 ct22), sl22⟩)
    (c22 : PySem.W.codeIn K cd22 "exchanged" = true)
    (k22 : PySem.W.keepIn K (.ref f22) = true)
    (a23 : PySem.W.nsIn K mainGlobals "spread" = some (some (.ref f23)))
    (l23 : K.lookup f23 = some ⟨oc23, od23, .func (PySem.W.fnOf "spread" "spread" (defArgs s_spread) (defBody s_spread) (defScope s_spread) .none kV23 dc23 pm23 an23 cd23 ct23), sl23⟩)
    (c23 : PySem.W.codeIn K cd23 "spread" = true)
    (k23 : PySem.W.keepIn K (.ref f23) = true)
    (a24 : PySem.W.nsIn K mainGlobals "alone" = some (some (.ref f24)))
    (l24 : K.lookup f24 = some ⟨oc24, od24, .func (PySem.W.fnOf "alone" "alone" (defArgs s_alone) (defBody s_alone) (defScope s_alone) .none kV24 dc24 pm24 an24 cd24 ct24), sl24⟩)
    (c24 : PySem.W.codeIn K cd24 "alone" = true)
    (k24 : PySem.W.keepIn K (.ref f24) = true)
    (a25 : PySem.W.nsIn K mainGlobals "shortened" = some (some (.ref f25)))
    (l25 : K.lookup f25 = some ⟨oc25, od25, .func (PySem.W.fnOf "shortened" "shortened" (defArgs s_shortened) (defBody s_shortened) (defScope s_shortened) .none kV25 dc25 pm25 an25 cd25 ct25), sl25⟩)
    (c25 : PySem.W.codeIn K cd25 "shortened" = true)
    (k25 : PySem.W.keepIn K (.ref f25) = true)
    (a26 : PySem.W.nsIn K mainGlobals "thinned" = some (some (.ref f26)))
    (l26 : K.lookup f26 = some ⟨oc26, od26, .func (PySem.W.fnOf "thinned" "thinned" (defArgs s_thinned) (defBody s_thinned) (defScope s_thinned) .none kV26 dc26 pm26 an26 cd26 ct26), sl26⟩)
    (c26 : PySem.W.codeIn K cd26 "thinned" = true)
    (k26 : PySem.W.keepIn K (.ref f26) = true)
    (a27 : PySem.W.nsIn K mainGlobals "planned" = some (some (.ref f27)))
    (l27 : K.lookup f27 = some ⟨oc27, od27, .func (PySem.W.fnOf "planned" "planned" (defArgs s_planned) (defBody s_planned) (defScope s_planned) .none kV27 dc27 pm27 an27 cd27 ct27), sl27⟩)
    (c27 : PySem.W.codeIn K cd27 "planned" = true)
    (k27 : PySem.W.keepIn K (.ref f27) = true)
    (a28 : PySem.W.nsIn K mainGlobals "plan" = some (some (.ref f28)))
    (l28 : K.lookup f28 = some ⟨oc28, od28, .func (PySem.W.fnOf "plan" "plan" (defArgs s_plan) (defBody s_plan) (defScope s_plan) .none kV28 dc28 pm28 an28 cd28 ct28), sl28⟩)
    (c28 : PySem.W.codeIn K cd28 "plan" = true)
    (k28 : PySem.W.keepIn K (.ref f28) = true)
    (a29 : PySem.W.nsIn K mainGlobals "first_lack" = some (some (.ref f29)))
    (l29 : K.lookup f29 = some ⟨oc29, od29, .func (PySem.W.fnOf "first_lack" "first_lack" (defArgs s_first_lack) (defBody s_first_lack) (defScope s_first_lack) .none kV29 dc29 pm29 an29 cd29 ct29), sl29⟩)
    (c29 : PySem.W.codeIn K cd29 "first_lack" = true)
    (k29 : PySem.W.keepIn K (.ref f29) = true)
    (a30 : PySem.W.nsIn K mainGlobals "holds_just" = some (some (.ref f30)))
    (l30 : K.lookup f30 = some ⟨oc30, od30, .func (PySem.W.fnOf "holds_just" "holds_just" (defArgs s_holds_just) (defBody s_holds_just) (defScope s_holds_just) .none kV30 dc30 pm30 an30 cd30 ct30), sl30⟩)
    (c30 : PySem.W.codeIn K cd30 "holds_just" = true)
    (k30 : PySem.W.keepIn K (.ref f30) = true)
    (a31 : PySem.W.nsIn K mainGlobals "unserved_by_sets" = some (some (.ref f31)))
    (l31 : K.lookup f31 = some ⟨oc31, od31, .func (PySem.W.fnOf "unserved_by_sets" "unserved_by_sets" (defArgs s_unserved_by_sets) (defBody s_unserved_by_sets) (defScope s_unserved_by_sets) .none kV31 dc31 pm31 an31 (.ref cc31) ct31), sl31⟩)
    (c31 : PySem.W.codeIn K (.ref cc31) "unserved_by_sets" = true)
    (k31 : PySem.W.keepIn K (.ref f31) = true)
    (lc31 : K.lookup cc31 = some ⟨ec31, dd31, .fields vs31, sk31⟩)
    (lp31 : vs31[11]? = some (.ref Pt31))
    (np31 : K.lookup Pt31 = none)
    (a32 : PySem.W.nsIn K mainGlobals "outside" = some (some (.ref f32)))
    (l32 : K.lookup f32 = some ⟨oc32, od32, .func (PySem.W.fnOf "outside" "outside" (defArgs s_outside) (defBody s_outside) (defScope s_outside) .none kV32 dc32 pm32 an32 cd32 ct32), sl32⟩)
    (c32 : PySem.W.codeIn K cd32 "outside" = true)
    (k32 : PySem.W.keepIn K (.ref f32) = true)
    (a33 : PySem.W.nsIn K mainGlobals "reach" = some (some (.ref f33)))
    (l33 : K.lookup f33 = some ⟨oc33, od33, .func (PySem.W.fnOf "reach" "reach" (defArgs s_reach) (defBody s_reach) (defScope s_reach) .none kV33 dc33 pm33 an33 cd33 ct33), sl33⟩)
    (c33 : PySem.W.codeIn K cd33 "reach" = true)
    (k33 : PySem.W.keepIn K (.ref f33) = true)
    (a34 : PySem.W.nsIn K mainGlobals "foil" = some (some (.ref f34)))
    (l34 : K.lookup f34 = some ⟨oc34, od34, .func (PySem.W.fnOf "foil" "foil" (defArgs s_foil) (defBody s_foil) (defScope s_foil) .none (.ref kD34) dc34 pm34 an34 cd34 ct34), sl34⟩)
    (c34 : PySem.W.codeIn K cd34 "foil" = true)
    (k34 : PySem.W.keepIn K (.ref f34) = true)
    (kn34 : PySem.W.nsIn K kD34 "size" = some (some (.int 400 kt34)))
    (a35 : PySem.W.nsIn K mainGlobals "_law_bag" = some (some (.ref f35)))
    (l35 : K.lookup f35 = some ⟨oc35, od35, .func (PySem.W.fnOf "_law_bag" "_law_bag" (defArgs s_law_bag) (defBody s_law_bag) (defScope s_law_bag) .none kV35 dc35 pm35 an35 cd35 ct35), sl35⟩)
    (c35 : PySem.W.codeIn K cd35 "_law_bag" = true)
    (k35 : PySem.W.keepIn K (.ref f35) = true)
    (a36 : PySem.W.nsIn K mainGlobals "_law_take" = some (some (.ref f36)))
    (l36 : K.lookup f36 = some ⟨oc36, od36, .func (PySem.W.fnOf "_law_take" "_law_take" (defArgs s_law_take) (defBody s_law_take) (defScope s_law_take) .none kV36 dc36 pm36 an36 cd36 ct36), sl36⟩)
    (c36 : PySem.W.codeIn K cd36 "_law_take" = true)
    (k36 : PySem.W.keepIn K (.ref f36) = true)
    (a37 : PySem.W.nsIn K mainGlobals "_law_of" = some (some (.ref f37)))
    (l37 : K.lookup f37 = some ⟨oc37, od37, .func (PySem.W.fnOf "_law_of" "_law_of" (defArgs s_law_of) (defBody s_law_of) (defScope s_law_of) .none kV37 dc37 pm37 an37 cd37 ct37), sl37⟩)
    (c37 : PySem.W.codeIn K cd37 "_law_of" = true)
    (k37 : PySem.W.keepIn K (.ref f37) = true)
    (a38 : PySem.W.nsIn K mainGlobals "_law_turned" = some (some (.ref f38)))
    (l38 : K.lookup f38 = some ⟨oc38, od38, .func (PySem.W.fnOf "_law_turned" "_law_turned" (defArgs s_law_turned) (defBody s_law_turned) (defScope s_law_turned) .none kV38 dc38 pm38 an38 cd38 ct38), sl38⟩)
    (c38 : PySem.W.codeIn K cd38 "_law_turned" = true)
    (k38 : PySem.W.keepIn K (.ref f38) = true)
    (a39 : PySem.W.nsIn K mainGlobals "_law_asks" = some (some (.ref f39)))
    (l39 : K.lookup f39 = some ⟨oc39, od39, .func (PySem.W.fnOf "_law_asks" "_law_asks" (defArgs s_law_asks) (defBody s_law_asks) (defScope s_law_asks) .none kV39 dc39 pm39 an39 cd39 ct39), sl39⟩)
    (c39 : PySem.W.codeIn K cd39 "_law_asks" = true)
    (k39 : PySem.W.keepIn K (.ref f39) = true)
    (a40 : PySem.W.nsIn K mainGlobals "_law_highest" = some (some (.ref f40)))
    (l40 : K.lookup f40 = some ⟨oc40, od40, .func (PySem.W.fnOf "_law_highest" "_law_highest" (defArgs s_law_highest) (defBody s_law_highest) (defScope s_law_highest) .none kV40 dc40 pm40 an40 cd40 ct40), sl40⟩)
    (c40 : PySem.W.codeIn K cd40 "_law_highest" = true)
    (k40 : PySem.W.keepIn K (.ref f40) = true)
    (a41 : PySem.W.nsIn K mainGlobals "law" = some (some (.ref f41)))
    (l41 : K.lookup f41 = some ⟨oc41, od41, .func (PySem.W.fnOf "law" "law" (defArgs s_law) (defBody s_law) (defScope s_law) .none kV41 dc41 pm41 an41 cd41 ct41), sl41⟩)
    (c41 : PySem.W.codeIn K cd41 "law" = true)
    (k41 : PySem.W.keepIn K (.ref f41) = true)
    (aBLarderError : PySem.W.nsIn K mainGlobals "LarderError" = some (some (.ref CBLarderError)))
    (rdBLarderError : PySem.W.readsIn K CBLarderError (.type "type") = true)
    (gaBLarderError : PySem.W.specialIn K (.ref CBLarderError) "__getattribute__" = some (some (.builtin "type.__getattribute__")))
    (kkBLarderError : PySem.W.findCls K (.ref CBLarderError) (.type "type") "__init__" = some (.val (.ref fBLarderError)))
    (lBLarderError : K.lookup fBLarderError = some ⟨ocBLarderError, odBLarderError, .func (PySem.W.fnOf "__init__" "LarderError.__init__" (defArgs c_LarderError) (defBody c_LarderError) (defScope c_LarderError) .none kVBLarderError dcBLarderError pmBLarderError anBLarderError cdBLarderError ctBLarderError), slBLarderError⟩)
    (cBLarderError : PySem.W.codeIn K cdBLarderError "LarderError.__init__" = true)
    (kBLarderError : PySem.W.keepIn K (.ref fBLarderError) = true)
    (aXBadStretch : PySem.W.nsIn K mainGlobals "BadStretch" = some (some (.ref CXBadStretch)))
    (xlXBadStretch : K.lookup CXBadStretch = some (excClassObj nmXBadStretch qXBadStretch CXBadStretch NXBadStretch bsXBadStretch bmXBadStretch true snXBadStretch subXBadStretch abXBadStretch colXBadStretch ddXBadStretch m0XBadStretch m1XBadStretch m2XBadStretch m3XBadStretch m5XBadStretch "ValueError.__new__"))
    (xrXBadStretch : PySem.HandSPX.refsVE bmXBadStretch = true)
    (saXBadStretch : PySem.W.findIn K (.ref CXBadStretch) "__setattr__" = some (some (.builtin "object.__setattr__")))
    (ecXBadStretch : PySem.W.subIn K (.ref CXBadStretch) (.type "BaseException") = some true)
    (tyXBadStretch : PySem.W.typeIn K (.ref CXBadStretch) = some (.type "type"))
    (kcXBadStretch : PySem.W.keepIn K (.ref CXBadStretch) = true)
    (niXBadStretch : PySem.W.findIn K (.ref CXBadStretch) "__init__" = some (some (.ref fXBadStretch)))
    (tiXBadStretch : PySem.W.typeIn K (.ref fXBadStretch) = some (.type "function"))
    (nwXBadStretch : PySem.W.findIn K (.ref CXBadStretch) "word" = some none)
    (lXBadStretch : K.lookup fXBadStretch = some ⟨ocXBadStretch, odXBadStretch, .func (PySem.W.fnOf "__init__" "BadStretch.__init__" (defArgs c_BadStretch) (defBody c_BadStretch) (defScope c_BadStretch) .none kVXBadStretch dcXBadStretch pmXBadStretch anXBadStretch cdXBadStretch ctXBadStretch), slXBadStretch⟩)
    (cXBadStretch : PySem.W.codeIn K cdXBadStretch "BadStretch.__init__" = true)
    (kXBadStretch : PySem.W.keepIn K (.ref fXBadStretch) = true)
    (aXTooLong : PySem.W.nsIn K mainGlobals "TooLong" = some (some (.ref CXTooLong)))
    (xlXTooLong : K.lookup CXTooLong = some (excClassObj nmXTooLong qXTooLong CXTooLong NXTooLong bsXTooLong bmXTooLong true snXTooLong subXTooLong abXTooLong colXTooLong ddXTooLong m0XTooLong m1XTooLong m2XTooLong m3XTooLong m5XTooLong "ValueError.__new__"))
    (xrXTooLong : PySem.HandSPX.refsVE bmXTooLong = true)
    (saXTooLong : PySem.W.findIn K (.ref CXTooLong) "__setattr__" = some (some (.builtin "object.__setattr__")))
    (ecXTooLong : PySem.W.subIn K (.ref CXTooLong) (.type "BaseException") = some true)
    (tyXTooLong : PySem.W.typeIn K (.ref CXTooLong) = some (.type "type"))
    (kcXTooLong : PySem.W.keepIn K (.ref CXTooLong) = true)
    (niXTooLong : PySem.W.findIn K (.ref CXTooLong) "__init__" = some (some (.ref fXTooLong)))
    (tiXTooLong : PySem.W.typeIn K (.ref fXTooLong) = some (.type "function"))
    (nwXTooLong : PySem.W.findIn K (.ref CXTooLong) "word" = some none)
    (lXTooLong : K.lookup fXTooLong = some ⟨ocXTooLong, odXTooLong, .func (PySem.W.fnOf "__init__" "TooLong.__init__" (defArgs c_TooLong) (defBody c_TooLong) (defScope c_TooLong) .none kVXTooLong dcXTooLong pmXTooLong anXTooLong cdXTooLong ctXTooLong), slXTooLong⟩)
    (cXTooLong : PySem.W.codeIn K cdXTooLong "TooLong.__init__" = true)
    (kXTooLong : PySem.W.keepIn K (.ref fXTooLong) = true)
    (gCELLS : PySem.W.nsIn K mainGlobals "CELLS" = some (some (.int 400 tCELLS)))
    (gSTRETCHES : PySem.W.nsIn K mainGlobals "STRETCHES" = some (some (.int 60 tSTRETCHES)))
    (gabs : PySem.W.nsIn K mainGlobals "abs" = some none)
    (gany : PySem.W.nsIn K mainGlobals "any" = some none)
    (genumerate : PySem.W.nsIn K mainGlobals "enumerate" = some none)
    (gint : PySem.W.nsIn K mainGlobals "int" = some none)
    (glen : PySem.W.nsIn K mainGlobals "len" = some none)
    (glist : PySem.W.nsIn K mainGlobals "list" = some none)
    (gmax : PySem.W.nsIn K mainGlobals "max" = some none)
    (gmin : PySem.W.nsIn K mainGlobals "min" = some none)
    (grange : PySem.W.nsIn K mainGlobals "range" = some none)
    (gsorted : PySem.W.nsIn K mainGlobals "sorted" = some none)
    (pgPMatching : PySem.W.plainGet K CPMatching Str.empty = true)
    (hdPMatching : PySem.W.hasDictIn K CPMatching = true)
    (poPMatching : PySem.W.plainOver K CPMatching = true)
    (saPMatching : PySem.W.findIn K (.ref CPMatching) "__setattr__" = some (some (.builtin "object.__setattr__")))
    (naMatchingabove : PySem.W.findIn K (.ref CPMatching) "above" = some none)
    (naMatchingbelow : PySem.W.findIn K (.ref CPMatching) "below" = some none)
    (naMatchingups : PySem.W.findIn K (.ref CPMatching) "ups" = some none)
    (miPMatching : PySem.W.makesIn K CPMatching = true)
    (kcPMatching : PySem.W.keepIn K (.ref CPMatching) = true)
    (tb31 : TabOf mg h "unserved_by_sets")
    : LamX.LawAtS l w K (L2.CX l.prog w) 12 63 "_law_script" mg fa h := by
  have e := hfa.symm.trans (PySem.W.mg_of X Gn a41)
  cases e
  have F0 := fun_mk (st := s_is_stretch) l0 c0 k0
  have b0 := F0.binds (ps := ["one"]) fun _ _ _ _ _ _ us hl => match us, hl with | [_], _ => rfl
  have D0 : DefAt K mg "is_stretch" s_is_stretch ["one"] := ⟨⟨_, _, PySem.W.mg_of X Gn a0, FunK.of F0, b0⟩⟩
  have F1 := fun_mk (st := s_look_stretch) l1 c1 k1
  have b1 := F1.binds (ps := ["one"]) fun _ _ _ _ _ _ us hl => match us, hl with | [_], _ => rfl
  have D1 : DefAt K mg "look_stretch" s_look_stretch ["one"] := ⟨⟨_, _, PySem.W.mg_of X Gn a1, FunK.of F1, b1⟩⟩
  have F2 := fun_mk (st := s_look_stretches) l2 c2 k2
  have b2 := F2.binds (ps := ["some"]) fun _ _ _ _ _ _ us hl => match us, hl with | [_], _ => rfl
  have D2 : DefAt K mg "look_stretches" s_look_stretches ["some"] := ⟨⟨_, _, PySem.W.mg_of X Gn a2, FunK.of F2, b2⟩⟩
  have F3 := fun_mk (st := s_distinct) l3 c3 k3
  have b3 := F3.binds (ps := ["some"]) fun _ _ _ _ _ _ us hl => match us, hl with | [_], _ => rfl
  have D3 : DefAt K mg "distinct" s_distinct ["some"] := ⟨⟨_, _, PySem.W.mg_of X Gn a3, FunK.of F3, b3⟩⟩
  have F4 := fun_mk (st := s_lies_within) l4 c4 k4
  have b4 := F4.binds (ps := ["one", "other"]) fun _ _ _ _ _ _ us hl => match us, hl with | [_, _], _ => rfl
  have D4 : DefAt K mg "lies_within" s_lies_within ["one", "other"] := ⟨⟨_, _, PySem.W.mg_of X Gn a4, FunK.of F4, b4⟩⟩
  have F5 := fun_mk (st := s_borders) l5 c5 k5
  have b5 := F5.binds (ps := ["some"]) fun _ _ _ _ _ _ us hl => match us, hl with | [_], _ => rfl
  have D5 : DefAt K mg "borders" s_borders ["some"] := ⟨⟨_, _, PySem.W.mg_of X Gn a5, FunK.of F5, b5⟩⟩
  have F6 := fun_mk (st := s_serves) l6 c6 k6
  have b6 := F6.binds (ps := ["kept", "mark"]) fun _ _ _ _ _ _ us hl => match us, hl with | [_, _], _ => rfl
  have D6 : DefAt K mg "serves" s_serves ["kept", "mark"] := ⟨⟨_, _, PySem.W.mg_of X Gn a6, FunK.of F6, b6⟩⟩
  have F7 := fun_mk (st := s_are_bound) l7 c7 k7
  have b7 := F7.binds (ps := ["one", "two"]) fun _ _ _ _ _ _ us hl => match us, hl with | [_, _], _ => rfl
  have D7 : DefAt K mg "are_bound" s_are_bound ["one", "two"] := ⟨⟨_, _, PySem.W.mg_of X Gn a7, FunK.of F7, b7⟩⟩
  have F8 := fun_mk (st := s_go_across) l8 c8 k8
  have b8 := F8.binds (ps := ["one", "two"]) fun _ _ _ _ _ _ us hl => match us, hl with | [_, _], _ => rfl
  have D8 : DefAt K mg "go_across" s_go_across ["one", "two"] := ⟨⟨_, _, PySem.W.mg_of X Gn a8, FunK.of F8, b8⟩⟩
  have F9 := fun_mk (st := s_is_under) l9 c9 k9
  have b9 := F9.binds (ps := ["one", "two"]) fun _ _ _ _ _ _ us hl => match us, hl with | [_, _], _ => rfl
  have D9 : DefAt K mg "is_under" s_is_under ["one", "two"] := ⟨⟨_, _, PySem.W.mg_of X Gn a9, FunK.of F9, b9⟩⟩
  have F10 := fun_mk (st := s_least_at) l10 c10 k10
  have b10 := F10.binds (ps := ["cell", "asks"]) fun _ _ _ _ _ _ us hl => match us, hl with | [_, _], _ => rfl
  have D10 : DefAt K mg "least_at" s_least_at ["cell", "asks"] := ⟨⟨_, _, PySem.W.mg_of X Gn a10, FunK.of F10, b10⟩⟩
  have F11 := fun_mk (st := s_essential_at) l11 c11 k11
  have b11 := F11.binds (ps := ["cells", "asks"]) fun _ _ _ _ _ _ us hl => match us, hl with | [_, _], _ => rfl
  have D11 : DefAt K mg "essential_at" s_essential_at ["cells", "asks"] := ⟨⟨_, _, PySem.W.mg_of X Gn a11, FunK.of F11, b11⟩⟩
  have F12 := fun_mk (st := s_essential_few) l12 c12 k12
  have b12 := F12.binds (ps := ["asks"]) fun _ _ _ _ _ _ us hl => match us, hl with | [_], _ => rfl
  have D12 : DefAt K mg "essential_few" s_essential_few ["asks"] := ⟨⟨_, _, PySem.W.mg_of X Gn a12, FunK.of F12, b12⟩⟩
  have F13 := fun_mk (st := s_taken_of) l13 c13 k13
  have b13 := F13.binds (ps := ["marks"]) fun _ _ _ _ _ _ us hl => match us, hl with | [_], _ => rfl
  have D13 : DefAt K mg "taken_of" s_taken_of ["marks"] := ⟨⟨_, _, PySem.W.mg_of X Gn a13, FunK.of F13, b13⟩⟩
  have F14 := fun_mk (st := s_Matching_reached) l14 c14 k14
  have b14 := F14.binds (ps := ["self", "begin"]) fun _ _ _ _ _ _ us hl => match us, hl with | [_, _], _ => rfl
  have D14 : MethAt K CPMatching "reached" "Matching.reached" s_Matching_reached ["self", "begin"] := ⟨⟨_, _, ⟨mt14, mf14, k14⟩, FunK.of F14, b14⟩⟩
  have F15 := fun_mk (st := s_Matching_widen) l15 c15 k15
  have b15 := F15.binds (ps := ["self", "begin"]) fun _ _ _ _ _ _ us hl => match us, hl with | [_, _], _ => rfl
  have D15 : MethAt K CPMatching "widen" "Matching.widen" s_Matching_widen ["self", "begin"] := ⟨⟨_, _, ⟨mt15, mf15, k15⟩, FunK.of F15, b15⟩⟩
  have F16 := fun_mk (st := s_Matching_init) l16 c16 k16
  have b16 := F16.binds (ps := ["self", "marks"]) fun _ _ _ _ _ _ us hl => match us, hl with | [_, _], _ => rfl
  have D16 : MethAt K CPMatching "__init__" "Matching.__init__" s_Matching_init ["self", "marks"] := ⟨⟨_, _, ⟨mt16, mf16, k16⟩, FunK.of F16, b16⟩⟩
  have F17 := fun_mk (st := s_Matching_rows) l17 c17 k17
  have b17 := F17.binds (ps := ["self"]) fun _ _ _ _ _ _ us hl => match us, hl with | [_], _ => rfl
  have D17 : MethAt K CPMatching "rows" "Matching.rows" s_Matching_rows ["self"] := ⟨⟨_, _, ⟨mt17, mf17, k17⟩, FunK.of F17, b17⟩⟩
  have F18 := fun_mk (st := s_Matching_unlike) l18 c18 k18
  have b18 := F18.binds (ps := ["self"]) fun _ _ _ _ _ _ us hl => match us, hl with | [_], _ => rfl
  have D18 : MethAt K CPMatching "unlike" "Matching.unlike" s_Matching_unlike ["self"] := ⟨⟨_, _, ⟨mt18, mf18, k18⟩, FunK.of F18, b18⟩⟩
  have F19 := fun_mk (st := s_chained) l19 c19 k19
  have b19 := F19.binds (ps := ["marks"]) fun _ _ _ _ _ _ us hl => match us, hl with | [_], _ => rfl
  have D19 : DefAt K mg "chained" s_chained ["marks"] := ⟨⟨_, _, PySem.W.mg_of X Gn a19, FunK.of F19, b19⟩⟩
  have F20 := fun_mk (st := s_is_served) l20 c20 k20
  have b20 := F20.binds (ps := ["kept", "mark"]) fun _ _ _ _ _ _ us hl => match us, hl with | [_, _], _ => rfl
  have D20 : DefAt K mg "is_served" s_is_served ["kept", "mark"] := ⟨⟨_, _, PySem.W.mg_of X Gn a20, FunK.of F20, b20⟩⟩
  have F21 := fun_mk (st := s_first_server) l21 c21 k21
  have b21 := F21.binds (ps := ["kept", "mark"]) fun _ _ _ _ _ _ us hl => match us, hl with | [_, _], _ => rfl
  have D21 : DefAt K mg "first_server" s_first_server ["kept", "mark"] := ⟨⟨_, _, PySem.W.mg_of X Gn a21, FunK.of F21, b21⟩⟩
  have F22 := fun_mk (st := s_exchanged) l22 c22 k22
  have b22 := F22.binds (ps := ["kept", "mark", "other"]) fun _ _ _ _ _ _ us hl => match us, hl with | [_, _, _], _ => rfl
  have D22 : DefAt K mg "exchanged" s_exchanged ["kept", "mark", "other"] := ⟨⟨_, _, PySem.W.mg_of X Gn a22, FunK.of F22, b22⟩⟩
  have F23 := fun_mk (st := s_spread) l23 c23 k23
  have b23 := F23.binds (ps := ["rows", "marks", "some"]) fun _ _ _ _ _ _ us hl => match us, hl with | [_, _, _], _ => rfl
  have D23 : DefAt K mg "spread" s_spread ["rows", "marks", "some"] := ⟨⟨_, _, PySem.W.mg_of X Gn a23, FunK.of F23, b23⟩⟩
  have F24 := fun_mk (st := s_alone) l24 c24 k24
  have b24 := F24.binds (ps := ["kept", "at", "marks"]) fun _ _ _ _ _ _ us hl => match us, hl with | [_, _, _], _ => rfl
  have D24 : DefAt K mg "alone" s_alone ["kept", "at", "marks"] := ⟨⟨_, _, PySem.W.mg_of X Gn a24, FunK.of F24, b24⟩⟩
  have F25 := fun_mk (st := s_shortened) l25 c25 k25
  have b25 := F25.binds (ps := ["kept", "places", "marks", "left"]) fun _ _ _ _ _ _ us hl => match us, hl with | [_, _, _, _], _ => rfl
  have D25 : DefAt K mg "shortened" s_shortened ["kept", "places", "marks", "left"] := ⟨⟨_, _, PySem.W.mg_of X Gn a25, FunK.of F25, b25⟩⟩
  have F26 := fun_mk (st := s_thinned) l26 c26 k26
  have b26 := F26.binds (ps := ["asks", "kept"]) fun _ _ _ _ _ _ us hl => match us, hl with | [_, _], _ => rfl
  have D26 : DefAt K mg "thinned" s_thinned ["asks", "kept"] := ⟨⟨_, _, PySem.W.mg_of X Gn a26, FunK.of F26, b26⟩⟩
  have F27 := fun_mk (st := s_planned) l27 c27 k27
  have b27 := F27.binds (ps := ["asks"]) fun _ _ _ _ _ _ us hl => match us, hl with | [_], _ => rfl
  have D27 : DefAt K mg "planned" s_planned ["asks"] := ⟨⟨_, _, PySem.W.mg_of X Gn a27, FunK.of F27, b27⟩⟩
  have F28 := fun_mk (st := s_plan) l28 c28 k28
  have b28 := F28.binds (ps := ["asks"]) fun _ _ _ _ _ _ us hl => match us, hl with | [_], _ => rfl
  have D28 : DefAt K mg "plan" s_plan ["asks"] := ⟨⟨_, _, PySem.W.mg_of X Gn a28, FunK.of F28, b28⟩⟩
  have F29 := fun_mk (st := s_first_lack) l29 c29 k29
  have b29 := F29.binds (ps := ["asks", "served"]) fun _ _ _ _ _ _ us hl => match us, hl with | [_, _], _ => rfl
  have D29 : DefAt K mg "first_lack" s_first_lack ["asks", "served"] := ⟨⟨_, _, PySem.W.mg_of X Gn a29, FunK.of F29, b29⟩⟩
  have F30 := fun_mk (st := s_holds_just) l30 c30 k30
  have b30 := F30.binds (ps := ["lot", "mark"]) fun _ _ _ _ _ _ us hl => match us, hl with | [_, _], _ => rfl
  have D30 : DefAt K mg "holds_just" s_holds_just ["lot", "mark"] := ⟨⟨_, _, PySem.W.mg_of X Gn a30, FunK.of F30, b30⟩⟩
  have F31 := fun_mk (st := s_unserved_by_sets) l31 c31 k31
  have b31 := F31.binds (ps := ["asks", "lots"]) fun _ _ _ _ _ _ us hl => match us, hl with | [_, _], _ => rfl
  have FC31 : FunC K "unserved_by_sets" s_unserved_by_sets _ _ (.ref cc31) := ⟨⟨_, _, _, _, _, _, _, _, _, rfl, l31, c31⟩, k31⟩
  have tp31 := tb31.at_ X (PySem.W.mg_of X Gn a31) l31 rfl lc31 lp31
  have F32 := fun_mk (st := s_outside) l32 c32 k32
  have b32 := F32.binds (ps := ["mark", "size"]) fun _ _ _ _ _ _ us hl => match us, hl with | [_, _], _ => rfl
  have D32 : DefAt K mg "outside" s_outside ["mark", "size"] := ⟨⟨_, _, PySem.W.mg_of X Gn a32, FunK.of F32, b32⟩⟩
  have F33 := fun_mk (st := s_reach) l33 c33 k33
  have b33 := F33.binds (ps := ["asks", "lots"]) fun _ _ _ _ _ _ us hl => match us, hl with | [_, _], _ => rfl
  have D33 : DefAt K mg "reach" s_reach ["asks", "lots"] := ⟨⟨_, _, PySem.W.mg_of X Gn a33, FunK.of F33, b33⟩⟩
  have D34 : DefAtK K mg "foil" s_foil ["asks", "lots", "size"] 2 ["size"] [V.int 400] := defK_mk rfl (PySem.W.mg_of X Gn a34) l34 c34 k34 kn34 ⟨_, rfl⟩ (fun _ _ _ _ _ _ us ks l1 l2 => match us, l1, ks, l2 with | [_, _], _, [_], _ => ⟨_, _, _, _, _, _, rfl, rfl, rfl⟩) (fun _ _ _ _ _ _ us ws l1 l2 => match us, l1, ws, l2 with | [_, _], _, [_], _ => rfl)
  have F35 := fun_mk (st := s_law_bag) l35 c35 k35
  have b35 := F35.binds (ps := ["_law_script"]) fun _ _ _ _ _ _ us hl => match us, hl with | [_], _ => rfl
  have D35 : DefAt K mg "_law_bag" s_law_bag ["_law_script"] := ⟨⟨_, _, PySem.W.mg_of X Gn a35, FunK.of F35, b35⟩⟩
  have F36 := fun_mk (st := s_law_take) l36 c36 k36
  have b36 := F36.binds (ps := ["_law_bag_here", "_law_sides"]) fun _ _ _ _ _ _ us hl => match us, hl with | [_, _], _ => rfl
  have D36 : DefAt K mg "_law_take" s_law_take ["_law_bag_here", "_law_sides"] := ⟨⟨_, _, PySem.W.mg_of X Gn a36, FunK.of F36, b36⟩⟩
  have F37 := fun_mk (st := s_law_of) l37 c37 k37
  have b37 := F37.binds (ps := ["_law_bag_here", "_law_some"]) fun _ _ _ _ _ _ us hl => match us, hl with | [_, _], _ => rfl
  have D37 : DefAt K mg "_law_of" s_law_of ["_law_bag_here", "_law_some"] := ⟨⟨_, _, PySem.W.mg_of X Gn a37, FunK.of F37, b37⟩⟩
  have F38 := fun_mk (st := s_law_turned) l38 c38 k38
  have b38 := F38.binds (ps := ["_law_bag_here", "_law_some"]) fun _ _ _ _ _ _ us hl => match us, hl with | [_, _], _ => rfl
  have D38 : DefAt K mg "_law_turned" s_law_turned ["_law_bag_here", "_law_some"] := ⟨⟨_, _, PySem.W.mg_of X Gn a38, FunK.of F38, b38⟩⟩
  have F39 := fun_mk (st := s_law_asks) l39 c39 k39
  have b39 := F39.binds (ps := ["_law_bag_here", "_law_size_z", "_law_most"]) fun _ _ _ _ _ _ us hl => match us, hl with | [_, _, _], _ => rfl
  have D39 : DefAt K mg "_law_asks" s_law_asks ["_law_bag_here", "_law_size_z", "_law_most"] := ⟨⟨_, _, PySem.W.mg_of X Gn a39, FunK.of F39, b39⟩⟩
  have F40 := fun_mk (st := s_law_highest) l40 c40 k40
  have b40 := F40.binds (ps := ["_law_row", "_law_cells"]) fun _ _ _ _ _ _ us hl => match us, hl with | [_, _], _ => rfl
  have D40 : DefAt K mg "_law_highest" s_law_highest ["_law_row", "_law_cells"] := ⟨⟨_, _, PySem.W.mg_of X Gn a40, FunK.of F40, b40⟩⟩
  have F41 := fun_mk (st := s_law) l41 c41 k41
  have b41 := F41.binds (ps := ["_law_script"]) fun _ _ _ _ _ _ us hl => match us, hl with | [_], _ => rfl
  have D41 : DefAt K mg "law" s_law ["_law_script"] := ⟨⟨_, _, PySem.W.mg_of X Gn a41, FunK.of F41, b41⟩⟩
  have FBLarderError := fun_mk (st := c_LarderError) lBLarderError cBLarderError kBLarderError
  have bBLarderError := FBLarderError.binds (ps := ["self", "word"]) fun _ _ _ _ _ _ us hl => match us, hl with | [_, _], _ => rfl
  have EBLarderError : ∀ base : Heap, ExB l.prog w K mg base "LarderError" "word" := fun base => exB_of (PySem.W.mg_of X Gn aBLarderError) rdBLarderError gaBLarderError kkBLarderError FBLarderError scc_LarderError bBLarderError fun cdv A outer s H E => pss_one (ps_ost (pv 0) (pv 1))
  have FXBadStretch := fun_mk (st := c_BadStretch) lXBadStretch cXBadStretch kXBadStretch
  have bXBadStretch := FXBadStretch.binds (ps := ["self"]) fun _ _ _ _ _ _ us hl => match us, hl with | [_], _ => rfl
  have TXBadStretch : OexC K CXBadStretch := ⟨⟨_, _, _, _, _, _, _, _, _, _, _, _, _, _, _, xlXBadStretch, xrXBadStretch⟩, saXBadStretch, ecXBadStretch, tyXBadStretch, kcXBadStretch⟩
  have EXBadStretch : ∀ base : Heap, ExC l.prog w K mg base "BadStretch" CXBadStretch 0 (fun _ => [("word", V.str "stretch")]) := fun base => ⟨TXBadStretch, PySem.W.mg_of X Gn aXBadStretch, ⟨_, _, _, niXBadStretch, tiXBadStretch, okIni0 (wd := "stretch") (EBLarderError base) TXBadStretch nwXBadStretch (FunK.of FXBadStretch) scc_BadStretch fun CL f fdb mc m1 r kk Fb kp bb cdv A outer s H E hr => pss_one (ps_expr (pe_clscall (E := fun _ _ _ => False) m1 r kk Fb hr kp bb passL0 (pa_cons (pv 0) (pa_cons pe_str pa_nil)))), bXBadStretch⟩⟩
  have FXTooLong := fun_mk (st := c_TooLong) lXTooLong cXTooLong kXTooLong
  have bXTooLong := FXTooLong.binds (ps := ["self"]) fun _ _ _ _ _ _ us hl => match us, hl with | [_], _ => rfl
  have TXTooLong : OexC K CXTooLong := ⟨⟨_, _, _, _, _, _, _, _, _, _, _, _, _, _, _, xlXTooLong, xrXTooLong⟩, saXTooLong, ecXTooLong, tyXTooLong, kcXTooLong⟩
  have EXTooLong : ∀ base : Heap, ExC l.prog w K mg base "TooLong" CXTooLong 0 (fun _ => [("word", V.str "long")]) := fun base => ⟨TXTooLong, PySem.W.mg_of X Gn aXTooLong, ⟨_, _, _, niXTooLong, tiXTooLong, okIni0 (wd := "long") (EBLarderError base) TXTooLong nwXTooLong (FunK.of FXTooLong) scc_TooLong fun CL f fdb mc m1 r kk Fb kp bb cdv A outer s H E hr => pss_one (ps_expr (pe_clscall (E := fun _ _ _ => False) m1 r kk Fb hr kp bb passL0 (pa_cons (pv 0) (pa_cons pe_str pa_nil)))), bXTooLong⟩⟩
  refine ⟨PySem.W.fnOf "law" "law" (defArgs s_law) (defBody s_law) (defScope s_law) .none kV41 dc41 pm41 an41 cd41 ct41, [(cc31, Pt31)], spUp ⟨K, ([(cc31, Pt31)].map fun p => (p.2, (fun P : Addr => lq "unserved_by_sets" s_unserved_by_sets) p.2))⟩ (sp_law), (fun p hp => by simp only [List.mem_cons, List.not_mem_nil, or_false] at hp; rcases hp with rfl <;> first | exact tp31.2), (fun p hp => by simp only [List.mem_cons, List.not_mem_nil, or_false] at hp; rcases hp with rfl <;> first | exact np31), (fun p hp => by simp only [List.mem_cons, List.not_mem_nil, or_false] at hp; rcases hp with rfl <;> first | exact tp31.1), fun s v => .of_eq rfl, fun H a ns hl _ hT hS => DL.lawInT (q := fun P : Addr => lq "unserved_by_sets" s_unserved_by_sets) (sp := (sp_law)) (fun ns M Q h1 h2 => ⟨ns, rfl, h1, h2⟩) hl hT hS, fun base _ _ TB => ?_⟩
  have TC31 := tabC_mk (q := fun P : Addr => lq "unserved_by_sets" s_unserved_by_sets) (x := "unserved_by_sets") (st := s_unserved_by_sets) (c := cc31) (Pt := Pt31) TB (by simp) rfl
  have D31 : DefT K mg base ([(cc31, Pt31)].map fun p => (p.2, (fun P : Addr => lq "unserved_by_sets" s_unserved_by_sets) p.2)) "unserved_by_sets" s_unserved_by_sets ["asks", "lots"] := ⟨⟨_, _, _, PySem.W.mg_of X Gn a31, FC31, b31, TC31⟩⟩
  have G : Glb l.prog w K mg base CXBadStretch CXTooLong CPMatching := ⟨⟨_, PySem.W.mg_of X Gn gCELLS⟩, ⟨_, PySem.W.mg_of X Gn gSTRETCHES⟩, PySem.W.mg_none_of X Gn gabs, PySem.W.mg_none_of X Gn gany, PySem.W.mg_none_of X Gn genumerate, PySem.W.mg_none_of X Gn gint, PySem.W.mg_none_of X Gn glen, PySem.W.mg_none_of X Gn glist, PySem.W.mg_none_of X Gn gmax, PySem.W.mg_none_of X Gn gmin, PySem.W.mg_none_of X Gn grange, PySem.W.mg_none_of X Gn gsorted, EXBadStretch base, EXTooLong base, ⟨pgPMatching, hdPMatching, poPMatching, saPMatching⟩, naMatchingabove, naMatchingbelow, naMatchingups, ⟨miPMatching, kcPMatching, PySem.W.mg_of X Gn aaPMatching⟩⟩
  have h_is_stretch := ok_is_stretch (T := ([(cc31, Pt31)].map fun p => (p.2, (fun P : Addr => lq "unserved_by_sets" s_unserved_by_sets) p.2))) G D0
  have h_look_stretch := ok_look_stretch (T := ([(cc31, Pt31)].map fun p => (p.2, (fun P : Addr => lq "unserved_by_sets" s_unserved_by_sets) p.2))) G h_is_stretch D1
  have h_look_stretches := ok_look_stretches (T := ([(cc31, Pt31)].map fun p => (p.2, (fun P : Addr => lq "unserved_by_sets" s_unserved_by_sets) p.2))) G h_look_stretch D2
  have h_distinct := ok_distinct (T := ([(cc31, Pt31)].map fun p => (p.2, (fun P : Addr => lq "unserved_by_sets" s_unserved_by_sets) p.2))) G D3
  have h_lies_within := ok_lies_within (T := ([(cc31, Pt31)].map fun p => (p.2, (fun P : Addr => lq "unserved_by_sets" s_unserved_by_sets) p.2))) G D4
  have h_borders := ok_borders (T := ([(cc31, Pt31)].map fun p => (p.2, (fun P : Addr => lq "unserved_by_sets" s_unserved_by_sets) p.2))) G D5
  have h_serves := ok_serves (T := ([(cc31, Pt31)].map fun p => (p.2, (fun P : Addr => lq "unserved_by_sets" s_unserved_by_sets) p.2))) G D6
  have h_are_bound := ok_are_bound (T := ([(cc31, Pt31)].map fun p => (p.2, (fun P : Addr => lq "unserved_by_sets" s_unserved_by_sets) p.2))) G D7
  have h_go_across := ok_go_across (T := ([(cc31, Pt31)].map fun p => (p.2, (fun P : Addr => lq "unserved_by_sets" s_unserved_by_sets) p.2))) G h_are_bound D8
  have h_is_under := ok_is_under (T := ([(cc31, Pt31)].map fun p => (p.2, (fun P : Addr => lq "unserved_by_sets" s_unserved_by_sets) p.2))) G D9
  have h_least_at := ok_least_at (T := ([(cc31, Pt31)].map fun p => (p.2, (fun P : Addr => lq "unserved_by_sets" s_unserved_by_sets) p.2))) G h_lies_within D10
  have h_essential_at := ok_essential_at (T := ([(cc31, Pt31)].map fun p => (p.2, (fun P : Addr => lq "unserved_by_sets" s_unserved_by_sets) p.2))) G h_least_at D11
  have h_essential_few := ok_essential_few (T := ([(cc31, Pt31)].map fun p => (p.2, (fun P : Addr => lq "unserved_by_sets" s_unserved_by_sets) p.2))) G h_borders h_distinct h_essential_at D12
  have h_taken_of := ok_taken_of (T := ([(cc31, Pt31)].map fun p => (p.2, (fun P : Addr => lq "unserved_by_sets" s_unserved_by_sets) p.2))) G h_go_across D13
  have h_Matching_reached := ok_Matching_reached (T := ([(cc31, Pt31)].map fun p => (p.2, (fun P : Addr => lq "unserved_by_sets" s_unserved_by_sets) p.2))) G D14
  have h_Matching_widen := ok_Matching_widen (T := ([(cc31, Pt31)].map fun p => (p.2, (fun P : Addr => lq "unserved_by_sets" s_unserved_by_sets) p.2))) G h_Matching_reached D15
  have h_Matching_init := ok_Matching_init (T := ([(cc31, Pt31)].map fun p => (p.2, (fun P : Addr => lq "unserved_by_sets" s_unserved_by_sets) p.2))) G h_Matching_widen h_is_under D16
  have h_Matching_rows := ok_Matching_rows (T := ([(cc31, Pt31)].map fun p => (p.2, (fun P : Addr => lq "unserved_by_sets" s_unserved_by_sets) p.2))) G D17
  have h_Matching_unlike := ok_Matching_unlike (T := ([(cc31, Pt31)].map fun p => (p.2, (fun P : Addr => lq "unserved_by_sets" s_unserved_by_sets) p.2))) G h_Matching_reached D18
  have h_chained := ok_chained (T := ([(cc31, Pt31)].map fun p => (p.2, (fun P : Addr => lq "unserved_by_sets" s_unserved_by_sets) p.2))) G h_Matching_init h_Matching_rows h_Matching_unlike D19
  have h_is_served := ok_is_served (T := ([(cc31, Pt31)].map fun p => (p.2, (fun P : Addr => lq "unserved_by_sets" s_unserved_by_sets) p.2))) G h_serves D20
  have h_first_server := ok_first_server (T := ([(cc31, Pt31)].map fun p => (p.2, (fun P : Addr => lq "unserved_by_sets" s_unserved_by_sets) p.2))) G h_serves D21
  have h_exchanged := ok_exchanged (T := ([(cc31, Pt31)].map fun p => (p.2, (fun P : Addr => lq "unserved_by_sets" s_unserved_by_sets) p.2))) G h_first_server D22
  have h_spread := ok_spread (T := ([(cc31, Pt31)].map fun p => (p.2, (fun P : Addr => lq "unserved_by_sets" s_unserved_by_sets) p.2))) G h_exchanged h_go_across h_is_served D23
  have h_alone := ok_alone (T := ([(cc31, Pt31)].map fun p => (p.2, (fun P : Addr => lq "unserved_by_sets" s_unserved_by_sets) p.2))) G h_is_served h_serves D24
  have h_shortened := ok_shortened (T := ([(cc31, Pt31)].map fun p => (p.2, (fun P : Addr => lq "unserved_by_sets" s_unserved_by_sets) p.2))) G h_alone D25
  have h_thinned := ok_thinned (T := ([(cc31, Pt31)].map fun p => (p.2, (fun P : Addr => lq "unserved_by_sets" s_unserved_by_sets) p.2))) G h_borders h_distinct h_essential_at h_shortened D26
  have h_planned := ok_planned (T := ([(cc31, Pt31)].map fun p => (p.2, (fun P : Addr => lq "unserved_by_sets" s_unserved_by_sets) p.2))) G h_chained h_essential_few h_spread h_taken_of h_thinned D27
  have h_plan := ok_plan (T := ([(cc31, Pt31)].map fun p => (p.2, (fun P : Addr => lq "unserved_by_sets" s_unserved_by_sets) p.2))) G h_look_stretches h_planned D28
  have h_planF := ok_planF (T := ([(cc31, Pt31)].map fun p => (p.2, (fun P : Addr => lq "unserved_by_sets" s_unserved_by_sets) p.2))) G h_look_stretches h_planned D28
  have h_planD := ok_planD (T := ([(cc31, Pt31)].map fun p => (p.2, (fun P : Addr => lq "unserved_by_sets" s_unserved_by_sets) p.2))) G h_look_stretches h_planned D28
  have h_first_lack := ok_first_lack (T := ([(cc31, Pt31)].map fun p => (p.2, (fun P : Addr => lq "unserved_by_sets" s_unserved_by_sets) p.2))) G h_distinct D29
  have h_holds_just := ok_holds_just (T := ([(cc31, Pt31)].map fun p => (p.2, (fun P : Addr => lq "unserved_by_sets" s_unserved_by_sets) p.2))) G D30
  have h_unserved_by_sets := ok_unserved_by_sets (T := ([(cc31, Pt31)].map fun p => (p.2, (fun P : Addr => lq "unserved_by_sets" s_unserved_by_sets) p.2))) G h_first_lack h_holds_just h_look_stretch h_look_stretches D31
  have h_outside := ok_outside (T := ([(cc31, Pt31)].map fun p => (p.2, (fun P : Addr => lq "unserved_by_sets" s_unserved_by_sets) p.2))) G D32
  have h_reach := ok_reach (T := ([(cc31, Pt31)].map fun p => (p.2, (fun P : Addr => lq "unserved_by_sets" s_unserved_by_sets) p.2))) G D33
  have h_foil := ok_foil (T := ([(cc31, Pt31)].map fun p => (p.2, (fun P : Addr => lq "unserved_by_sets" s_unserved_by_sets) p.2))) G h_outside h_reach h_unserved_by_sets D34
  have h_law_bag := ok_law_bag (T := ([(cc31, Pt31)].map fun p => (p.2, (fun P : Addr => lq "unserved_by_sets" s_unserved_by_sets) p.2))) G D35
  have h_law_take := ok_law_take (T := ([(cc31, Pt31)].map fun p => (p.2, (fun P : Addr => lq "unserved_by_sets" s_unserved_by_sets) p.2))) G D36
  have h_law_of := ok_law_of (T := ([(cc31, Pt31)].map fun p => (p.2, (fun P : Addr => lq "unserved_by_sets" s_unserved_by_sets) p.2))) G h_law_take D37
  have h_law_turned := ok_law_turned (T := ([(cc31, Pt31)].map fun p => (p.2, (fun P : Addr => lq "unserved_by_sets" s_unserved_by_sets) p.2))) G h_law_take D38
  have h_law_asks := ok_law_asks (T := ([(cc31, Pt31)].map fun p => (p.2, (fun P : Addr => lq "unserved_by_sets" s_unserved_by_sets) p.2))) G h_law_of h_law_take D39
  have h_law_highest := ok_law_highest (T := ([(cc31, Pt31)].map fun p => (p.2, (fun P : Addr => lq "unserved_by_sets" s_unserved_by_sets) p.2))) G D40
  exact ok_law (T := ([(cc31, Pt31)].map fun p => (p.2, (fun P : Addr => lq "unserved_by_sets" s_unserved_by_sets) p.2))) G h_law_asks h_law_bag h_law_highest h_law_take h_law_turned h_foil h_planF (FunK.of F41)
end LW
open PySem PySem.W PyProof.Rows
set_option maxRecDepth 100000 in
set_option maxHeartbeats 0 in
theorem PySem.Challenge.cw_joinlarder_k52_whole_fewer_are_always_fo_holds : PySem.Challenge.rw_joinlarder_k52_whole_fewer_are_always_fo.Holds := by
  w_on; o_law; k_head; (case hw => w_witness2)
  k_fill
  refine DL.walk_ofD (l := PySem.Challenge.rw_joinlarder_k52_whole_fewer_are_always_fo) (n := 63) (k := 12) (x := "_law_script") (CX := fun w => L2.CX PySem.Challenge.rw_joinlarder_k52_whole_fewer_are_always_fo.prog w) rfl (by decide) rfl ⟨rfl, by decide, by decide⟩ (fun w h Y => PySem.W.km_in_of Y) ?F (fun w H s e s' h => by obtain ⟨_, _, _, _, _, _, _, _, _, _, _, _, z⟩ := h; exact z)
  case F =>
    intro w mg fa h KX Gn hmg tabs
    refine' LW.all_mk KX Gn hmg ?aaPMatching ?a0 ?l0 ?c0 ?k0 ?a1 ?l1 ?c1 ?k1 ?a2 ?l2 ?c2 ?k2 ?a3 ?l3 ?c3 ?k3 ?a4 ?l4 ?c4 ?k4 ?a5 ?l5 ?c5 ?k5 ?a6 ?l6 ?c6 ?k6 ?a7 ?l7 ?c7 ?k7 ?a8 ?l8 ?c8 ?k8 ?a9 ?l9 ?c9 ?k9 ?a10 ?l10 ?c10 ?k10 ?a11 ?l11 ?c11 ?k11 ?a12 ?l12 ?c12 ?k12 ?a13 ?l13 ?c13 ?k13 ?mt14 ?l14 ?c14 ?k14 ?mf14 ?mt15 ?l15 ?c15 ?k15 ?mf15 ?mt16 ?l16 ?c16 ?k16 ?mf16 ?mt17 ?l17 ?c17 ?k17 ?mf17 ?mt18 ?l18 ?c18 ?k18 ?mf18 ?a19 ?l19 ?c19 ?k19 ?a20 ?l20 ?c20 ?k20 ?a21 ?l21 ?c21 ?k21 ?a22 ?l22 ?c22 ?k22 ?a23 ?l23 ?c23 ?k23 ?a24 ?l24 ?c24 ?k24 ?a25 ?l25 ?c25 ?k25 ?a26 ?l26 ?c26 ?k26 ?a27 ?l27 ?c27 ?k27 ?a28 ?l28 ?c28 ?k28 ?a29 ?l29 ?c29 ?k29 ?a30 ?l30 ?c30 ?k30 ?a31 ?l31 ?c31 ?k31 ?lc31 ?lp31 ?np31 ?a32 ?l32 ?c32 ?k32 ?a33 ?l33 ?c33 ?k33 ?a34 ?l34 ?c34 ?k34 ?kn34 ?a35 ?l35 ?c35 ?k35 ?a36 ?l36 ?c36 ?k36 ?a37 ?l37 ?c37 ?k37 ?a38 ?l38 ?c38 ?k38 ?a39 ?l39 ?c39 ?k39 ?a40 ?l40 ?c40 ?k40 ?a41 ?l41 ?c41 ?k41 ?aBLarderError ?rdBLarderError ?gaBLarderError ?kkBLarderError ?lBLarderError ?cBLarderError ?kBLarderError ?aXBadStretch ?xlXBadStretch ?xrXBadStretch ?saXBadStretch ?ecXBadStretch ?tyXBadStretch ?kcXBadStretch ?niXBadStretch ?tiXBadStretch ?nwXBadStretch ?lXBadStretch ?cXBadStretch ?kXBadStretch ?aXTooLong ?xlXTooLong ?xrXTooLong ?saXTooLong ?ecXTooLong ?tyXTooLong ?kcXTooLong ?niXTooLong ?tiXTooLong ?nwXTooLong ?lXTooLong ?cXTooLong ?kXTooLong ?gCELLS ?gSTRETCHES ?gabs ?gany ?genumerate ?gint ?glen ?glist ?gmax ?gmin ?grange ?gsorted ?pgPMatching ?hdPMatching ?poPMatching ?saPMatching ?naMatchingabove ?naMatchingbelow ?naMatchingups ?miPMatching ?kcPMatching (tabs "unserved_by_sets" (by decide +kernel))
    (case aaPMatching => k_is)
    (case a0 => k_is)
    (case l0 => k_is)
    (case c0 => k_is)
    (case k0 => k_is)
    (case a1 => k_is)
    (case l1 => k_is)
    (case c1 => k_is)
    (case k1 => k_is)
    (case a2 => k_is)
    (case l2 => k_is)
    (case c2 => k_is)
    (case k2 => k_is)
    (case a3 => k_is)
    (case l3 => k_is)
    (case c3 => k_is)
    (case k3 => k_is)
    (case a4 => k_is)
    (case l4 => k_is)
    (case c4 => k_is)
    (case k4 => k_is)
    (case a5 => k_is)
    (case l5 => k_is)
    (case c5 => k_is)
    (case k5 => k_is)
    (case a6 => k_is)
    (case l6 => k_is)
    (case c6 => k_is)
    (case k6 => k_is)
    (case a7 => k_is)
    (case l7 => k_is)
    (case c7 => k_is)
    (case k7 => k_is)
    (case a8 => k_is)
    (case l8 => k_is)
    (case c8 => k_is)
    (case k8 => k_is)
    (case a9 => k_is)
    (case l9 => k_is)
    (case c9 => k_is)
    (case k9 => k_is)
    (case a10 => k_is)
    (case l10 => k_is)
    (case c10 => k_is)
    (case k10 => k_is)
    (case a11 => k_is)
    (case l11 => k_is)
    (case c11 => k_is)
    (case k11 => k_is)
    (case a12 => k_is)
    (case l12 => k_is)
    (case c12 => k_is)
    (case k12 => k_is)
    (case a13 => k_is)
    (case l13 => k_is)
    (case c13 => k_is)
    (case k13 => k_is)
    (case mt14 => k_is)
    (case l14 => k_is)
    (case c14 => k_is)
    (case k14 => k_is)
    (case mf14 => k_is)
    (case mt15 => k_is)
    (case l15 => k_is)
    (case c15 => k_is)
    (case k15 => k_is)
    (case mf15 => k_is)
    (case mt16 => k_is)
    (case l16 => k_is)
    (case c16 => k_is)
    (case k16 => k_is)
    (case mf16 => k_is)
    (case mt17 => k_is)
    (case l17 => k_is)
    (case c17 => k_is)
    (case k17 => k_is)
    (case mf17 => k_is)
    (case mt18 => k_is)
    (case l18 => k_is)
    (case c18 => k_is)
    (case k18 => k_is)
    (case mf18 => k_is)
    (case a19 => k_is)
    (case l19 => k_is)
    (case c19 => k_is)
    (case k19 => k_is)
    (case a20 => k_is)
    (case l20 => k_is)
    (case c20 => k_is)
    (case k20 => k_is)
    (case a21 => k_is)
    (case l21 => k_is)
    (case c21 => k_is)
    (case k21 => k_is)
    (case a22 => k_is)
    (case l22 => k_is)
    (case c22 => k_is)
    (case k22 => k_is)
    (case a23 => k_is)
    (case l23 => k_is)
    (case c23 => k_is)
    (case k23 => k_is)
    (case a24 => k_is)
    (case l24 => k_is)
    (case c24 => k_is)
    (case k24 => k_is)
    (case a25 => k_is)
    (case l25 => k_is)
    (case c25 => k_is)
    (case k25 => k_is)
    (case a26 => k_is)
    (case l26 => k_is)
    (case c26 => k_is)
    (case k26 => k_is)
    (case a27 => k_is)
    (case l27 => k_is)
    (case c27 => k_is)
    (case k27 => k_is)
    (case a28 => k_is)
    (case l28 => k_is)
    (case c28 => k_is)
    (case k28 => k_is)
    (case a29 => k_is)
    (case l29 => k_is)
    (case c29 => k_is)
    (case k29 => k_is)
    (case a30 => k_is)
    (case l30 => k_is)
    (case c30 => k_is)
    (case k30 => k_is)
    (case a31 => k_is)
    (case l31 => k_is)
    (case c31 => k_is)
    (case k31 => k_is)
    (case lc31 => k_is)
    (case lp31 => first | rfl | k_is | decide +kernel)
    (case np31 => first | k_is | rfl | decide +kernel)
    (case a32 => k_is)
    (case l32 => k_is)
    (case c32 => k_is)
    (case k32 => k_is)
    (case a33 => k_is)
    (case l33 => k_is)
    (case c33 => k_is)
    (case k33 => k_is)
    (case a34 => k_is)
    (case l34 => k_is)
    (case c34 => k_is)
    (case k34 => k_is)
    (case kn34 => k_is)
    (case a35 => k_is)
    (case l35 => k_is)
    (case c35 => k_is)
    (case k35 => k_is)
    (case a36 => k_is)
    (case l36 => k_is)
    (case c36 => k_is)
    (case k36 => k_is)
    (case a37 => k_is)
    (case l37 => k_is)
    (case c37 => k_is)
    (case k37 => k_is)
    (case a38 => k_is)
    (case l38 => k_is)
    (case c38 => k_is)
    (case k38 => k_is)
    (case a39 => k_is)
    (case l39 => k_is)
    (case c39 => k_is)
    (case k39 => k_is)
    (case a40 => k_is)
    (case l40 => k_is)
    (case c40 => k_is)
    (case k40 => k_is)
    (case a41 => k_is)
    (case l41 => k_is)
    (case c41 => k_is)
    (case k41 => k_is)
    (case aBLarderError => k_is)
    (case rdBLarderError => k_is)
    (case gaBLarderError => k_is)
    (case kkBLarderError => k_is)
    (case lBLarderError => k_is)
    (case cBLarderError => k_is)
    (case kBLarderError => k_is)
    (case aXBadStretch => k_is)
    (case xlXBadStretch => k_is)
    (case xrXBadStretch => first | rfl | decide +kernel)
    (case saXBadStretch => k_is)
    (case ecXBadStretch => k_is)
    (case tyXBadStretch => k_is)
    (case kcXBadStretch => k_is)
    (case niXBadStretch => k_is)
    (case tiXBadStretch => k_is)
    (case nwXBadStretch => k_is)
    (case lXBadStretch => k_is)
    (case cXBadStretch => k_is)
    (case kXBadStretch => k_is)
    (case aXTooLong => k_is)
    (case xlXTooLong => k_is)
    (case xrXTooLong => first | rfl | decide +kernel)
    (case saXTooLong => k_is)
    (case ecXTooLong => k_is)
    (case tyXTooLong => k_is)
    (case kcXTooLong => k_is)
    (case niXTooLong => k_is)
    (case tiXTooLong => k_is)
    (case nwXTooLong => k_is)
    (case lXTooLong => k_is)
    (case cXTooLong => k_is)
    (case kXTooLong => k_is)
    (case gCELLS => k_is)
    (case gSTRETCHES => k_is)
    (case gabs => k_is)
    (case gany => k_is)
    (case genumerate => k_is)
    (case gint => k_is)
    (case glen => k_is)
    (case glist => k_is)
    (case gmax => k_is)
    (case gmin => k_is)
    (case grange => k_is)
    (case gsorted => k_is)
    (case pgPMatching => k_is)
    (case hdPMatching => k_is)
    (case poPMatching => k_is)
    (case saPMatching => k_is)
    (case naMatchingabove => k_is)
    (case naMatchingbelow => k_is)
    (case naMatchingups => k_is)
    (case miPMatching => k_is)
    (case kcPMatching => k_is)
