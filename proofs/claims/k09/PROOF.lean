import PyProof.Rows.All
import Wide.All
import OpenK.AllK
import Wide.FinOn
import HandS.ForMost
import HandS.ForExc
import HandS.Lambda
import HandS.Deep
import HandS.Zip
import HandS.CallSlots
import HandS.ExcInit
import HandS.ExcField
import HandS.TryMany
import HandS.ClsMeth
import HandS.Defaults
import HandS.SortInts
import HandS.TupSets
import HandS.IsInst
import KE.DatumOrd
import KE.SortData
import HandS.More
import HandS.NoneIn
import HandS.SetBool
import HandS.Strs
import PyProof.Rows.SortShellAny
import HandS.Conv
import HandS.Style
import HandS.Nested
import HandS.EndOwn
import HandS.ExcIs
import HandS.MakeKwOnly
import KE.KMinKey
import HandS.SortKw
import HandS.DictComp
import HandS.Flow
import KE.DataMinKey
import KE.KDictPairs
import KE.KUnpackStar
import HandS.Finally
import HandS.Zip0
import KE.HD2
import KE.KNestM
import HandS.OwnEq
import HandS.FStr
import OpenK.KOps
import KE.KExcInit
import KE.KEqDict
import KE.KEqNest
import HandS.Text
import HandS.Wide
import PySem.Challenge.RW_joinlarder_k09_chains_of_marks
set_option Elab.async false
set_option linter.all false
set_option maxRecDepth 100000
set_option maxHeartbeats 4000000
set_option autoImplicit false
namespace DL
open PySem L2
/-- the written part, and the tables of code objects -/
structure KTb where
  K : PySem.W.Frag
  T : List (Addr × Str)
/-- a value by its content: lists, tuples and dicts that are never changed any more stand as data, others by their address -/
inductive D where
  | non | bl (b : Bool) | int (i : Int) | str (x : Str) | ref (a : Addr)
  | tup (xs : List D) | lst (xs : List D) | dic (kvs : List (Key × D)) | scr (ns : List Int)
  | obj (C : Addr) (fs : List (Str × D)) | dit (kvs : List (List Key × D))
  | any (v : V) (P : Hp → Prop)
/-- a cell that may still be changed -/
inductive Cell where
  | lst (xs : List D) | dic (kvs : List (Key × D)) | dit (kvs : List (List Key × D)) | lkd (kvs : List (Key × D)) (u : HO) | ins (C : Addr) (fs : List (Str × D)) | opq (φ : List D → Prop)
abbrev Mp := Addr → Option Cell
def mup (M : Mp) (a : Addr) (c : Cell) : Mp := fun b => if b = a then some c else M b
def mdel (M : Mp) (a : Addr) : Mp := fun b => if b = a then none else M b
theorem mup_same {M : Mp} {a : Addr} {c : Cell} : mup M a c a = some c := if_pos rfl
theorem mup_ne {M : Mp} {a b : Addr} {c : Cell} (h : b ≠ a) : mup M a c b = M b := if_neg h
theorem mdel_same {M : Mp} {a : Addr} : mdel M a a = none := if_pos rfl
theorem mdel_ne {M : Mp} {a b : Addr} (h : b ≠ a) : mdel M a b = M b := if_neg h
theorem mdel_mup {M : Mp} {a : Addr} {c : Cell} (h : M a = none) : mdel (mup M a c) a = M := by
  funext b
  unfold mdel mup
  by_cases e : b = a
  · rw [if_pos e, e, h]
  · rw [if_neg e, if_neg e]
theorem mup_mup {M : Mp} {a : Addr} {c d : Cell} : mup (mup M a c) a d = mup M a d := by
  funext b
  unfold mup
  split <;> rfl
theorem mup_comm {M : Mp} {a b : Addr} {c d : Cell} (h : a ≠ b) : mup (mup M a c) b d = mup (mup M b d) a c := by
  funext x
  unfold mup
  by_cases e : x = b
  · rw [if_pos e, if_neg (fun z => h (z.symm.trans e)), if_pos e]
  · rw [if_neg e, if_neg e]
theorem mup_self {M : Mp} {a : Addr} {c : Cell} (h : M a = some c) : mup M a c = M := by
  funext x
  unfold mup
  by_cases e : x = a
  · rw [if_pos e, e, h]
  · rw [if_neg e]
/-- a list, a tuple of the written part -/
def WrL (K : PySem.W.Frag) (a : Addr) (xs : List V) : Prop := ∃ (o : Obj) (its : Array Value) (n : Nat), K.lookup a = some o ∧ o.cls = .type "list" ∧ o.dict = none ∧ o.data = .seq its n ∧ its.size ≤ sizeLine ∧ Vals xs its.toList
def WrT (K : PySem.W.Frag) (a : Addr) (xs : List V) : Prop := (∀ i, V.int i ∉ xs) ∧ ∃ (o : Obj) (its : Array Value) (n : Nat), K.lookup a = some o ∧ o.cls = .type "tuple" ∧ o.data = .seq its n ∧ its.size ≤ sizeLine ∧ Vals xs its.toList
section
variable (K : KTb) (F : Hp)
mutual
inductive Rp : V → D → Prop
  | non : Rp .non .non
  | bl (b : Bool) : Rp (.bl b) (.bl b)
  | int (i : Int) : Rp (.int i) (.int i)
  | str (x : Str) : Rp (.str x) (.str x)
  | ref (a : Addr) : Rp (.ref a) (.ref a)
  | tup {a : Addr} {vs : List V} {ds : List D} : (F a = some (.tup vs) ∨ WrT K.K a vs) → Rps vs ds → Rp (.ref a) (.tup ds)
  | lst {a : Addr} {vs : List V} {ds : List D} : F a = some (.lst vs) → Rps vs ds → Rp (.ref a) (.lst ds)
  | dic {a : Addr} {kvs : List (Key × V)} {kds : List (Key × D)} : F a = some (.dK kvs) → RpK kvs kds → Rp (.ref a) (.dic kds)
  | scr {a : Addr} {ns : List Int} : (F a = some (.lst (ns.map V.int)) ∨ (∃ ob, F a = some (.frz ob (.lst (ns.map V.int)))) ∨ WrL K.K a (ns.map V.int)) → Rp (.ref a) (.scr ns)
  | obj {a C dx : Addr} {vs : List (Str × V)} {fs : List (Str × D)} : F a = some (.ins C dx vs) → RpS vs fs → Rp (.ref a) (.obj C fs)
  | dit {a : Addr} {kvs : List (List Key × V)} {kds : List (List Key × D)} : F a = some (.dT kvs) → RpT kvs kds → Rp (.ref a) (.dit kds)
  | any {v : V} {P : Hp → Prop} : v ≠ .non → (∀ F', Same F F' → P F') → Rp v (.any v P)
inductive Rps : List V → List D → Prop
  | nil : Rps [] []
  | cons {v : V} {vs : List V} {d : D} {ds : List D} : Rp v d → Rps vs ds → Rps (v :: vs) (d :: ds)
inductive RpK : List (Key × V) → List (Key × D) → Prop
  | nil : RpK [] []
  | cons {k : Key} {v : V} {vs : List (Key × V)} {d : D} {ds : List (Key × D)} : Rp v d → RpK vs ds → RpK ((k, v) :: vs) ((k, d) :: ds)
inductive RpT : List (List Key × V) → List (List Key × D) → Prop
  | nil : RpT [] []
  | cons {k : List Key} {v : V} {vs : List (List Key × V)} {d : D} {ds : List (List Key × D)} : Rp v d → RpT vs ds → RpT ((k, v) :: vs) ((k, d) :: ds)
inductive RpS : List (Str × V) → List (Str × D) → Prop
  | nil : RpS [] []
  | cons {k : Str} {v : V} {vs : List (Str × V)} {d : D} {ds : List (Str × D)} : Rp v d → RpS vs ds → RpS ((k, v) :: vs) ((k, d) :: ds)
end
end
section
variable {K : KTb} {F F' : Hp}
mutual
theorem Rp.mono (s : Same F F') : ∀ (d : D) (v : V), Rp K F v d → Rp K F' v d
  | .non, _, h => by cases h; exact .non
  | .bl b, _, h => by cases h; exact .bl b
  | .int i, _, h => by cases h; exact .int i
  | .str x, _, h => by cases h; exact .str x
  | .ref a, _, h => by cases h; exact .ref a
  | .tup ds, _, h => by
    cases h with
    | tup h1 h2 => exact .tup (h1.imp_left (s _ _)) (Rps.mono s ds _ h2)
  | .lst ds, _, h => by
    cases h with
    | lst h1 h2 => exact .lst (s _ _ h1) (Rps.mono s ds _ h2)
  | .dic ds, _, h => by
    cases h with
    | dic h1 h2 => exact .dic (s _ _ h1) (RpK.mono s ds _ h2)
  | .scr ns, _, h => by
    cases h with
    | scr h1 => exact .scr (h1.imp (s _ _) fun h1 => h1.imp_left fun ⟨ob, z⟩ => ⟨ob, s _ _ z⟩)
  | .obj C fs, _, h => by
    cases h with
    | obj h1 h2 => exact .obj (s _ _ h1) (RpS.mono s fs _ h2)
  | .dit ds, _, h => by
    cases h with
    | dit h1 h2 => exact .dit (s _ _ h1) (RpT.mono s ds _ h2)
  | .any v P, _, h => by
    cases h with
    | any n q => exact .any n fun F2 s2 => q F2 (s.trans s2)
theorem Rps.mono (s : Same F F') : ∀ (ds : List D) (vs : List V), Rps K F vs ds → Rps K F' vs ds
  | [], _, h => by cases h; exact .nil
  | d :: ds, _, h => by
    cases h with
    | cons h1 h2 => exact .cons (Rp.mono s d _ h1) (Rps.mono s ds _ h2)
theorem RpK.mono (s : Same F F') : ∀ (ds : List (Key × D)) (vs : List (Key × V)), RpK K F vs ds → RpK K F' vs ds
  | [], _, h => by cases h; exact .nil
  | (k, d) :: ds, _, h => by
    cases h with
    | cons h1 h2 => exact .cons (Rp.mono s d _ h1) (RpK.mono s ds _ h2)
theorem RpT.mono (s : Same F F') : ∀ (ds : List (List Key × D)) (vs : List (List Key × V)), RpT K F vs ds → RpT K F' vs ds
  | [], _, h => by cases h; exact .nil
  | (k, d) :: ds, _, h => by
    cases h with
    | cons h1 h2 => exact .cons (Rp.mono s d _ h1) (RpT.mono s ds _ h2)
theorem RpS.mono (s : Same F F') : ∀ (ds : List (Str × D)) (vs : List (Str × V)), RpS K F vs ds → RpS K F' vs ds
  | [], _, h => by cases h; exact .nil
  | (k, d) :: ds, _, h => by
    cases h with
    | cons h1 h2 => exact .cons (Rp.mono s d _ h1) (RpS.mono s ds _ h2)
end
theorem Rps.length : ∀ {vs : List V} {ds : List D}, Rps K F vs ds → vs.length = ds.length
  | _, _, .nil => rfl
  | _, _, .cons _ t => congrArg (· + 1) (Rps.length t)
theorem Rps.get : ∀ {vs : List V} {ds : List D} {i : Nat} {d : D}, Rps K F vs ds → ds[i]? = some d → ∃ v, vs[i]? = some v ∧ Rp K F v d
  | _, _, _, _, .nil, e => by simp at e
  | _, _, 0, _, .cons r _, e => by simp at e; subst e; exact ⟨_, rfl, r⟩
  | _, _, i + 1, x, .cons _ t, e => by
    obtain ⟨u, h1, h2⟩ := Rps.get (i := i) (d := x) t (by simpa using e)
    exact ⟨u, by simpa using h1, h2⟩
theorem Rps.append : ∀ {xs ys : List V} {us ws : List D}, Rps K F xs us → Rps K F ys ws → Rps K F (xs ++ ys) (us ++ ws)
  | _, _, _, _, .nil, s => s
  | _, _, _, _, .cons r t, s => .cons r (Rps.append t s)
theorem Rps.set {x : V} {u : D} (r : Rp K F x u) : ∀ {xs : List V} {us : List D} (i : Nat), Rps K F xs us → Rps K F (xs.set i x) (us.set i u)
  | _, _, _, .nil => .nil
  | _, _, 0, .cons _ t => .cons r t
  | _, _, i + 1, .cons q t => .cons q (Rps.set r i t)
theorem Rps.take : ∀ {xs : List V} {us : List D} (n : Nat), Rps K F xs us → Rps K F (xs.take n) (us.take n)
  | _, _, 0, _ => .nil
  | _, _, _ + 1, .nil => .nil
  | _, _, n + 1, .cons r t => .cons r (Rps.take n t)
theorem Rps.drop : ∀ {xs : List V} {us : List D} (n : Nat), Rps K F xs us → Rps K F (xs.drop n) (us.drop n)
  | _, _, 0, r => r
  | _, _, _ + 1, .nil => .nil
  | _, _, n + 1, .cons _ t => Rps.drop n t
theorem Rps.ints : ∀ {vs : List V} {ns : List Int}, Rps K F vs (ns.map D.int) → vs = ns.map V.int
  | [], [], _ => rfl
  | [], _ :: _, h => by cases h
  | _ :: _, [], h => by cases h
  | v :: vs, n :: ns, h => by
    cases h with
    | cons h1 h2 =>
      cases h1
      rw [Rps.ints h2]
      rfl
theorem Rps.bls : ∀ {vs : List V} {ns : List Bool}, Rps K F vs (ns.map D.bl) → vs = ns.map V.bl
  | [], [], _ => rfl
  | [], _ :: _, h => by cases h
  | _ :: _, [], h => by cases h
  | v :: vs, n :: ns, h => by
    cases h with
    | cons h1 h2 =>
      cases h1
      rw [Rps.bls h2]
      rfl
theorem Rps.ofInts : ∀ (ns : List Int), Rps K F (ns.map V.int) (ns.map D.int)
  | [] => .nil
  | n :: ns => .cons (.int n) (Rps.ofInts ns)
end
/-- fields: by name -/
def RpF (K : KTb) (F : Hp) : List (Str × V) → List (Str × D) → Prop := Paired fun (p : Str × V) (q : Str × D) => p.1 = q.1 ∧ Rp K F p.2 q.2
theorem Paired.mapP2 {α β : Type} {F G : α → β → Prop} : ∀ {l₁ : List α} {l₂ : List β}, Paired F l₁ l₂ → (∀ a b, F a b → G a b) → Paired G l₁ l₂
  | _, _, .nil, _ => .nil
  | _, _, .cons r t, f => .cons (f _ _ r) (Paired.mapP2 t f)
theorem RpF.mono {K : KTb} {F F' : Hp} {vs : List (Str × V)} {ds : List (Str × D)} (s : Same F F') (h : RpF K F vs ds) : RpF K F' vs ds := Paired.mapP2 h fun _ _ z => ⟨z.1, z.2.mono s⟩
theorem RpF.look {K : KTb} {F : Hp} {f : Str} {d : D} : ∀ {vs : List (Str × V)} {ds : List (Str × D)}, RpF K F vs ds → ds.lookup f = some d → ∃ v, vs.lookup f = some v ∧ Rp K F v d
  | _, _, .nil, e => by cases e
  | (g, v) :: vs, (g', d') :: ds, .cons r t, e => by
    obtain ⟨e1, r⟩ := r
    have e1 : g = g' := e1
    subst e1
    rw [List.lookup_cons] at e ⊢
    cases hb : f == g with
    | true =>
      rw [hb] at e
      have e : some d' = some d := e
      cases e
      exact ⟨v, rfl, r⟩
    | false =>
      rw [hb] at e
      exact RpF.look t e
theorem RpF.lookN {K : KTb} {F : Hp} {f : Str} : ∀ {vs : List (Str × V)} {ds : List (Str × D)}, RpF K F vs ds → ds.lookup f = none → vs.lookup f = none
  | _, _, .nil, _ => rfl
  | (g, v) :: vs, (g', d') :: ds, .cons r t, e => by
    obtain ⟨e1, r⟩ := r
    have e1 : g = g' := e1
    subst e1
    rw [List.lookup_cons] at e ⊢
    cases hb : f == g with
    | true =>
      rw [hb] at e
      cases e
    | false =>
      rw [hb] at e
      exact RpF.lookN t e
def RpC (K : KTb) (F : Hp) : Cell → HO → Prop
  | .lst ds, o => ∃ vs, o = .lst vs ∧ Rps K F vs ds
  | .dic ds, o => ∃ vs, o = .dK vs ∧ RpK K F vs ds
  | .dit ds, o => ∃ vs, o = .dT vs ∧ RpT K F vs ds
  | .lkd ds u, o => o = u ∧ ∃ od vs, u = .frz od (.dK vs) ∧ RpK K F vs ds
  | .ins C fs, o => ∃ dx vs, o = .ins C dx vs ∧ RpF K F vs fs
  | .opq φ, o => ∃ vs ds, φ ds ∧ o = .lst vs ∧ Rps K F vs ds
theorem RpC.mono {K : KTb} {F F' : Hp} (s : Same F F') : ∀ {c : Cell} {o : HO}, RpC K F c o → RpC K F' c o
  | .lst _, _, ⟨vs, e, h⟩ => ⟨vs, e, h.mono s⟩
  | .dic _, _, ⟨vs, e, h⟩ => ⟨vs, e, h.mono s⟩
  | .dit _, _, ⟨vs, e, h⟩ => ⟨vs, e, h.mono s⟩
  | .lkd _ _, _, ⟨e0, od, vs, e, h⟩ => ⟨e0, od, vs, e, h.mono s⟩
  | .ins _ _, _, ⟨dx, vs, e, h⟩ => ⟨dx, vs, e, h.mono s⟩
  | .opq _, _, ⟨vs, ds, e1, e2, h⟩ => ⟨vs, ds, e1, e2, h.mono s⟩
/-- it stands there, a dict perhaps locked -/
def Sd (H : Hp) (a : Addr) (o : HO) : Prop := H a = some o ∨ ((∃ kvs, o = .dK kvs) ∧ ∃ ob, H a = some (.frz ob o))
def Fk : HO → Prop
  | .lst _ => True
  | .tup _ => True
  | .dK _ => True
  | .dT _ => True
  | .ins _ _ _ => True
  | .frz _ (.lst _) => True
  | .ext _ => True
  | .xd _ => True
  | _ => False
/-- the frozen part F and the cells M stand in the heap H -/
structure Cc (K : KTb) (M : Mp) (F H : Hp) : Prop where
  tb : LamX.Tabs K.T H
  fk : ∀ a o, F a = some o → Fk o
  fr : ∀ a o, F a = some o → Sd H a o
  ow : ∀ a c, M a = some c → F a = none ∧ ∃ o, H a = some o ∧ RpC K F c o
section
variable {K : KTb} {M : Mp} {F F' H : Hp} {p : Addr}
theorem Sd.ne_none {a : Addr} {o : HO} (r : Sd H a o) (h : H a = none) : False := by
  rcases r with r | ⟨_, _, r⟩ <;> rw [h] at r <;> cases r
theorem Sd.rd {a : Addr} {o : HO} (r : Sd H a o) : Rd H a o := by
  rcases r with r | ⟨_, ob, r⟩
  · exact .inl r
  · exact .inr ⟨ob, r⟩
theorem Sd.lst {a : Addr} {xs : List V} (r : Sd H a (.lst xs)) : H a = some (.lst xs) := by
  rcases r with r | ⟨⟨_, e⟩, _⟩
  · exact r
  · cases e
theorem Sd.tup {a : Addr} {xs : List V} (r : Sd H a (.tup xs)) : H a = some (.tup xs) := by
  rcases r with r | ⟨⟨_, e⟩, _⟩
  · exact r
  · cases e
theorem Cc.Fnone (c : Cc K M F H) (h : H p = none) : F p = none := by
  cases e : F p with
  | none => rfl
  | some o => exact (Sd.ne_none (c.fr _ _ e) h).elim
theorem Cc.Mnone (c : Cc K M F H) (h : H p = none) : M p = none := by
  cases e : M p with
  | none => rfl
  | some o =>
    obtain ⟨_, o, e', _⟩ := c.ow _ _ e
    rw [h] at e'
    cases e'
theorem Sd.upd {a : Addr} {o u : HO} (r : Sd H a o) (h : a ≠ p) : Sd (upd H p u) a o := by
  rcases r with r | ⟨e, ob, r⟩
  · exact .inl (by rw [upd_ne h]; exact r)
  · exact .inr ⟨e, ob, by rw [upd_ne h]; exact r⟩
theorem Same.upd {o : HO} (h : F p = none) : Same F (upd F p o) := fun b u e => by
  rw [upd_ne (ne_of_none e h)]
  exact e
/-- the tables stay where p is none of their objects -/
theorem tabs_upd {T : List (Addr × Str)} {o : HO} (t : LamX.Tabs T H) (h : H p = none ∨ ∃ u, H p = some u ∧ (∀ ps, u ≠ .tbl ps) ∧ ∀ φ, u ≠ .ext φ) : LamX.Tabs T (upd H p o) := fun q hq => by
  obtain ⟨ps, e1, e2, e3⟩ := t q hq
  have ne : ∀ b u, H b = some u → ((∃ ps, u = .tbl ps) ∨ ∃ φ, u = .ext φ) → b ≠ p := fun b u e k z => by
    rw [z] at e
    rcases h with h | ⟨u', h, n1, n2⟩
    · rw [h] at e; cases e
    · rw [h] at e
      cases e
      rcases k with ⟨ps, k⟩ | ⟨φ, k⟩
      · exact n1 ps k
      · exact n2 φ k
  refine ⟨ps, by rw [upd_ne (ne _ _ e1 (.inl ⟨_, rfl⟩))]; exact e1, e2, fun pos cv hc => ?_⟩
  obtain ⟨c, e4, e5⟩ := e3 pos cv hc
  exact ⟨c, e4, by rw [upd_ne (ne _ _ e5 (.inr ⟨_, rfl⟩))]; exact e5⟩
theorem rpc_kind {F : Hp} {c : Cell} {o : HO} (r : RpC K F c o) : (∀ ps, o ≠ .tbl ps) ∧ ∀ φ, o ≠ .ext φ := by
  cases c with
  | lst ds => obtain ⟨vs, e, _⟩ := r; subst e; exact ⟨fun _ z => (by cases z), fun _ z => (by cases z)⟩
  | dic ds => obtain ⟨vs, e, _⟩ := r; subst e; exact ⟨fun _ z => (by cases z), fun _ z => (by cases z)⟩
  | dit ds => obtain ⟨vs, e, _⟩ := r; subst e; exact ⟨fun _ z => (by cases z), fun _ z => (by cases z)⟩
  | lkd ds u => obtain ⟨e0, od, vs, e, _⟩ := r; subst e0; subst e; exact ⟨fun _ z => (by cases z), fun _ z => (by cases z)⟩
  | ins C fs => obtain ⟨dx, vs, e, _⟩ := r; subst e; exact ⟨fun _ z => (by cases z), fun _ z => (by cases z)⟩
  | opq φ => obtain ⟨vs, ds, _, e, _⟩ := r; subst e; exact ⟨fun _ z => (by cases z), fun _ z => (by cases z)⟩
/-- a new thing that is frozen at once -/
theorem Cc.newF {o : HO} (c : Cc K M F H) (h : H p = none) (hk : Fk o := by exact True.intro) : Cc K M (upd F p o) (upd H p o) where
  tb := tabs_upd c.tb (.inl h)
  fk := fun a u e => by
    by_cases ha : a = p
    · subst ha
      rw [upd_same] at e
      cases e
      exact hk
    · rw [upd_ne ha] at e
      exact c.fk _ _ e
  fr := fun a u e => by
    by_cases ha : a = p
    · subst ha
      rw [upd_same] at e
      cases e
      exact .inl upd_same
    · rw [upd_ne ha] at e
      exact Sd.upd (c.fr _ _ e) ha
  ow := fun a u e => by
    obtain ⟨h1, o', h2, h3⟩ := c.ow _ _ e
    have ha : a ≠ p := fun z => by rw [z, h] at h2; cases h2
    exact ⟨by rw [upd_ne ha]; exact h1, o', by rw [upd_ne ha]; exact h2, h3.mono (Same.upd (c.Fnone h))⟩
/-- a new cell -/
theorem Cc.newM {o : HO} {x : Cell} (c : Cc K M F H) (h : H p = none) (r : RpC K F x o) : Cc K (mup M p x) F (upd H p o) where
  tb := tabs_upd c.tb (.inl h)
  fk := c.fk
  fr := fun a u e => by
    have ha : a ≠ p := fun z => by rw [z, c.Fnone h] at e; cases e
    exact Sd.upd (c.fr _ _ e) ha
  ow := fun a u e => by
    by_cases ha : a = p
    · subst ha
      rw [mup_same] at e
      cases e
      exact ⟨c.Fnone h, o, upd_same, r⟩
    · rw [mup_ne ha] at e
      obtain ⟨h1, o', h2, h3⟩ := c.ow _ _ e
      exact ⟨h1, o', by rw [upd_ne ha]; exact h2, h3⟩
/-- a cell is written -/
theorem Cc.write {o : HO} {x y : Cell} (c : Cc K M F H) (h : M p = some y) (r : RpC K F x o) : Cc K (mup M p x) F (upd H p o) where
  tb := by
    obtain ⟨_, o', h2, h3⟩ := c.ow _ _ h
    exact tabs_upd c.tb (.inr ⟨o', h2, rpc_kind h3⟩)
  fk := c.fk
  fr := fun a u e => by
    have ha : a ≠ p := fun z => by rw [z, (c.ow _ _ h).1] at e; cases e
    exact Sd.upd (c.fr _ _ e) ha
  ow := fun a u e => by
    by_cases ha : a = p
    · subst ha
      rw [mup_same] at e
      cases e
      exact ⟨(c.ow _ _ h).1, o, upd_same, r⟩
    · rw [mup_ne ha] at e
      obtain ⟨h1, o', h2, h3⟩ := c.ow _ _ e
      exact ⟨h1, o', by rw [upd_ne ha]; exact h2, h3⟩
/-- new things that nobody asks about, the tables grown -/
theorem Cc.ext {H' : Hp} (c : Cc K M F H) (s : LamX.ExtN H H') (t : LamX.Tabs K.T H') : Cc K M F H' where
  tb := t
  fk := c.fk
  fr := fun a u e => by
    have k := c.fk _ _ e
    refine (c.fr a u e).imp (fun q => s _ _ q fun ps z => by subst z; exact k) fun ⟨q, o, z⟩ => ⟨q, o, s _ _ z fun ps z => by cases z⟩
  ow := fun a u e => by
    obtain ⟨h1, o', h2, h3⟩ := c.ow _ _ e
    exact ⟨h1, o', s _ _ h2 (rpc_kind h3).1, h3⟩
theorem Cc.same {H' : Hp} (c : Cc K M F H) (s : Same H H') : Cc K M F H' := c.ext (LamX.ExtN.of s) (c.tb.ext s)
theorem Cc.less {M' : Mp} (c : Cc K M F H) (h : ∀ a u, M' a = some u → M a = some u) : Cc K M' F H := ⟨c.tb, c.fk, c.fr, fun a u e => c.ow a u (h a u e)⟩
/-- a cell is frozen -/
theorem Cc.freezeO {x : Cell} {o : HO} (c : Cc K M F H) (h : M p = some x) (ho : H p = some o) (hk : Fk o) : Same F (upd F p o) ∧ Cc K (mdel M p) (upd F p o) H := by
  obtain ⟨h1, o', h2, h3⟩ := c.ow _ _ h
  have s : Same F (upd F p o) := Same.upd h1
  refine ⟨s, c.tb, fun a u e => ?_, fun a u e => ?_, fun a u e => ?_⟩
  · by_cases ha : a = p
    · subst ha
      rw [upd_same] at e
      cases e
      exact hk
    · rw [upd_ne ha] at e
      exact c.fk _ _ e
  · by_cases ha : a = p
    · subst ha
      rw [upd_same] at e
      cases e
      exact .inl ho
    · rw [upd_ne ha] at e
      exact c.fr _ _ e
  · by_cases ha : a = p
    · subst ha
      rw [mdel_same] at e
      cases e
    · rw [mdel_ne ha] at e
      obtain ⟨g1, o', g2, g3⟩ := c.ow _ _ e
      exact ⟨by rw [upd_ne ha]; exact g1, o', g2, g3.mono s⟩
theorem Cc.freeze {ds : List D} (c : Cc K M F H) (h : M p = some (.lst ds)) : ∃ F', Same F F' ∧ Cc K (mdel M p) F' H ∧ Rp K F' (.ref p) (.lst ds) := by
  obtain ⟨h1, o, h2, vs, e, h3⟩ := c.ow _ _ h
  subst e
  obtain ⟨s, c2⟩ := c.freezeO h h2 True.intro
  exact ⟨_, s, c2, .lst upd_same (h3.mono s)⟩
theorem rpF_of {K : KTb} {F : Hp} : ∀ {vs : List (Str × V)} {fs : List (Str × D)}, RpS K F vs fs → RpF K F vs fs
  | _, _, .nil => .nil
  | _, _, .cons r t => .cons ⟨rfl, r⟩ (rpF_of t)
theorem Cc.open {φ : List D → Prop} (c : Cc K M F H) (h : M p = some (.opq φ)) : ∃ ds, φ ds ∧ Cc K (mup M p (.lst ds)) F H := by
  obtain ⟨h1, o, h2, vs, ds, e1, e2, h3⟩ := c.ow _ _ h
  refine ⟨ds, e1, c.tb, c.fk, c.fr, fun a u e => ?_⟩
  by_cases ha : a = p
  · subst ha
    rw [mup_same] at e
    cases e
    exact ⟨h1, o, h2, vs, e2, h3⟩
  · rw [mup_ne ha] at e
    exact c.ow _ _ e
theorem Cc.close {φ : List D → Prop} {ds : List D} (c : Cc K M F H) (h : M p = some (.lst ds)) (hd : φ ds) : Cc K (mup M p (.opq φ)) F H := by
  obtain ⟨h1, o, h2, vs, e, h3⟩ := c.ow _ _ h
  refine ⟨c.tb, c.fk, c.fr, fun a u e => ?_⟩
  by_cases ha : a = p
  · subst ha
    rw [mup_same] at e
    cases e
    exact ⟨h1, o, h2, vs, ds, hd, by assumption, h3⟩
  · rw [mup_ne ha] at e
    exact c.ow _ _ e
end
end DL
namespace DL
open PySem L2
abbrev DG := List (Option D)
abbrev DQ := D → Mp → Prop
/-- an exception: the slots, the class's address, its fields, the cells -/
abbrev DXE := DG → Addr → List (Str × D) → Mp → Prop
abbrev DTE := DG → Mp → DQ → DXE → Prop
abbrev DTT := DG → Mp → (Bool → Mp → Prop) → DXE → Prop
abbrev DTA := DG → Mp → (List D → Mp → Prop) → DXE → Prop
structure DEnds where
  nx : DG → Mp → Prop
  rt : DQ
  bk : DG → Mp → Prop := fun _ _ => False
  ct : DG → Mp → Prop := fun _ _ => False
  ex : DXE := fun _ _ _ _ => False
abbrev DTS := DEnds → DG → Mp → Prop
structure RpG (K : KTb) (F : Hp) (σ : St) (Γ : DG) : Prop where
  len : σ.length = Γ.length
  at_ : ∀ (i : Nat) (d : D), Γ[i]? = some (some d) → ∃ v, σ[i]? = some (some v) ∧ Rp K F v d
theorem RpG.mono {K : KTb} {F F' : Hp} {σ : St} {Γ : DG} (g : RpG K F σ Γ) (s : Same F F') : RpG K F' σ Γ :=
  ⟨g.len, fun i d e => let ⟨v, e1, r⟩ := g.at_ i d e; ⟨v, e1, r.mono s⟩⟩
theorem RpG.set {K : KTb} {F : Hp} {σ : St} {Γ : DG} {v : V} {d : D} (g : RpG K F σ Γ) (r : Rp K F v d) (i : Nat) : RpG K F (σ.set i (some v)) (Γ.set i (some d)) := by
  refine ⟨by rw [List.length_set, List.length_set]; exact g.len, fun j e h => ?_⟩
  by_cases hj : i = j
  · subst hj
    by_cases hl : i < Γ.length
    · rw [List.getElem?_set_self hl] at h
      cases h
      exact ⟨v, by rw [List.getElem?_set_self (by rw [g.len]; exact hl)], r⟩
    · rw [List.getElem?_eq_none (by rw [List.length_set]; omega)] at h
      cases h
  · rw [List.getElem?_set_ne hj] at h ⊢
    exact g.at_ j e h
theorem RpG.unset {K : KTb} {F : Hp} {σ : St} {Γ : DG} (g : RpG K F σ Γ) (i : Nat) : RpG K F (σ.set i none) (Γ.set i none) := by
  refine ⟨by rw [List.length_set, List.length_set]; exact g.len, fun j e h => ?_⟩
  by_cases hj : i = j
  · subst hj
    by_cases hl : i < Γ.length
    · rw [List.getElem?_set_self hl] at h
      cases h
    · rw [List.getElem?_eq_none (by rw [List.length_set]; omega)] at h
      cases h
  · rw [List.getElem?_set_ne hj] at h ⊢
    exact g.at_ j e h
/-- what is wished of exceptions, the tables -/
structure WT where
  T : List (Addr × Str)
  w : WX
abbrev kt (X : Cx) (W : WT) : KTb := ⟨X.K, W.T⟩
/-- what is wished of an exception, from the frozen part F on -/
def Ew (K : KTb) (F : Hp) (E : DXE) (W : WX) : Prop := ∀ (F' H' : Hp) (σ : St) (Γ : DG) (C d : Addr) (vs : List (Str × V)) (fs : List (Str × D)) (M : Mp),
  Same F F' → Cc K M F' H' → RpG K F' σ Γ → H' d = some (.xd vs) → RpF K F' vs fs → E Γ C fs M → W (.ref C) (some d) σ H'
theorem Ew.mono {K : KTb} {F F1 : Hp} {E : DXE} {W : WX} (w : Ew K F E W) (s : Same F F1) : Ew K F1 E W := fun F' H' σ Γ C d vs fs M s1 => w F' H' σ Γ C d vs fs M (s.trans s1)
/-- where one stands -/
structure At (K : KTb) (W : WX) (σ : St) (H : Hp) (Γ : DG) (M : Mp) (F : Hp) (E : DXE) : Prop where
  c : Cc K M F H
  g : RpG K F σ Γ
  w : Ew K F E W
theorem At.next {K : KTb} {W : WX} {σ : St} {H H' F F' : Hp} {Γ : DG} {M M' : Mp} {E : DXE} (a : At K W σ H Γ M F E) (s : Same F F') (c : Cc K M' F' H') : At K W σ H' Γ M' F' E := ⟨c, a.g.mono s, a.w.mono s⟩
/-- what is to follow a value -/
def CoQ (K : KTb) (F : Hp) (Qd : DQ) (Q : VK) : Prop := ∀ (F' H' : Hp) (v : V) (d : D) (M' : Mp), Same F F' → Cc K M' F' H' → Rp K F' v d → Qd d M' → Q v H'
theorem CoQ.mono {K : KTb} {F F1 : Hp} {Qd : DQ} {Q : VK} (w : CoQ K F Qd Q) (s : Same F F1) : CoQ K F1 Qd Q := fun F' H' v d M s1 => w F' H' v d M (s.trans s1)
def upE (K : KTb) (W : WX) (t : DTE) : TE := fun σ H Q => ∃ (Γ : DG) (M : Mp) (F : Hp) (E : DXE) (Qd : DQ), At K W σ H Γ M F E ∧ t Γ M Qd E ∧ CoQ K F Qd Q
def upT (K : KTb) (W : WX) (t : DTT) : TT := fun σ H Q => ∃ (Γ : DG) (M : Mp) (F : Hp) (E : DXE) (Qd : Bool → Mp → Prop), At K W σ H Γ M F E ∧ t Γ M Qd E ∧
  ∀ (F' H' : Hp) (b : Bool) (M' : Mp), Same F F' → Cc K M' F' H' → Qd b M' → Q b H'
def upA (K : KTb) (W : WX) (t : DTA) : TA := fun σ H Q => ∃ (Γ : DG) (M : Mp) (F : Hp) (E : DXE) (Qd : List D → Mp → Prop), At K W σ H Γ M F E ∧ t Γ M Qd E ∧
  ∀ (F' H' : Hp) (vs : List V) (ds : List D) (M' : Mp), Same F F' → Cc K M' F' H' → Rps K F' vs ds → Qd ds M' → Q vs H'
def CoS (K : KTb) (F : Hp) (Qd : DG → Mp → Prop) (Q : St → Hp → Prop) : Prop := ∀ (F' H' : Hp) (σ' : St) (Γ' : DG) (M' : Mp), Same F F' → Cc K M' F' H' → RpG K F' σ' Γ' → Qd Γ' M' → Q σ' H'
theorem CoS.mono {K : KTb} {F F1 : Hp} {Qd : DG → Mp → Prop} {Q : St → Hp → Prop} (w : CoS K F Qd Q) (s : Same F F1) : CoS K F1 Qd Q := fun F' H' σ Γ M s1 => w F' H' σ Γ M (s.trans s1)
structure CoE (K : KTb) (F : Hp) (Dn : DEnds) (E : Ends) : Prop where
  nx : CoS K F Dn.nx E.nx
  rt : CoQ K F Dn.rt E.rt
  bk : CoS K F Dn.bk E.bk
  ct : CoS K F Dn.ct E.ct
theorem CoE.mono {K : KTb} {F F1 : Hp} {Dn : DEnds} {E : Ends} (w : CoE K F Dn E) (s : Same F F1) : CoE K F1 Dn E := ⟨w.nx.mono s, w.rt.mono s, w.bk.mono s, w.ct.mono s⟩
def upS (K : KTb) (W : WX) (t : DTS) : TS := fun E σ H => ∃ (Γ : DG) (M : Mp) (F : Hp) (Dn : DEnds), At K W σ H Γ M F Dn.ex ∧ t Dn Γ M ∧ CoE K F Dn E
structure DE (X : Cx) (W : WT) (e : Expr) (t : DTE) : Prop where
  pe : PE X e (upE (kt X W) W.w t)
structure DT (X : Cx) (W : WT) (e : Expr) (t : DTT) : Prop where
  pt : PT X e (upT (kt X W) W.w t)
structure DW (X : Cx) (W : WT) (e : Expr) (t : DTT) : Prop where
  pw : PW X e (upT (kt X W) W.w t)
structure DA (X : Cx) (W : WT) (es : List Expr) (t : DTA) : Prop where
  pa : PA X es (upA (kt X W) W.w t)
structure DS (X : Cx) (W : WT) (s : Stmt) (t : DTS) : Prop where
  ps : PS X s (upS (kt X W) W.w t)
structure DSs (X : Cx) (W : WT) (s : List Stmt) (t : DTS) : Prop where
  ps : PSs X s (upS (kt X W) W.w t)
section
variable {X : Cx} {W : WT} {e a b : Expr} {es : List Expr} {st : Stmt} {sts : List Stmt}
theorem peW {t t' : TE} (p : PE X e t) (h : ∀ σ H Q, t' σ H Q → t σ H Q) : PE X e t' := ⟨fun pins s σ H Q I q => p.run pins s σ H Q I (h σ H Q q)⟩
theorem ptW {t t' : TT} (p : PT X e t) (h : ∀ σ H Q, t' σ H Q → t σ H Q) : PT X e t' := ⟨fun pins s σ H Q I q => p.run pins s σ H Q I (h σ H Q q)⟩
theorem pwW {t t' : TT} (p : PW X e t) (h : ∀ σ H Q, t' σ H Q → t σ H Q) : PW X e t' := ⟨fun wh pins s σ H Q I q => p.run wh pins s σ H Q I (h σ H Q q)⟩
theorem paW {t t' : TA} (p : PA X es t) (h : ∀ σ H Q, t' σ H Q → t σ H Q) : PA X es t' := ⟨fun pos pins s σ H Q I q => p.run pos pins s σ H Q I (h σ H Q q)⟩
theorem psW {t t' : TS} (p : PS X st t) (h : ∀ D σ H, t' D σ H → t D σ H) : PS X st t' := ⟨fun pins s σ H D I q => p.run pins s σ H D I (h D σ H q)⟩
theorem pssW {t t' : TS} (p : PSs X sts t) (h : ∀ D σ H, t' D σ H → t D σ H) : PSs X sts t' := ⟨fun pins s σ H D I q => p.run pins s σ H D I (h D σ H q)⟩
def dVar (i : Nat) : DTE := fun Γ M Q _ => ∃ d, Γ[i]? = some (some d) ∧ Q d M
theorem dv (i : Nat) {x : Str} {pos : Pos} (hN : X.N[i]? = some x := by rfl) (hv : Vis X.env.scope x := by first | exact Or.inl rfl | exact Or.inr (Or.inl rfl) | exact Or.inr (Or.inr rfl)) (hd : (x == ("__debug__" : Str)) = false := by decide)
    (hcd : (x == ("__classdict__" : Str)) = false := by decide) : DE X W (.Name x pos) (dVar i) :=
  ⟨peW (pe_var (i := i) hN hv hd hcd) fun σ H Q ⟨Γ, M, F, E, Qd, a, ⟨d, e, q⟩, k⟩ => by
    obtain ⟨v, e1, r⟩ := a.g.at_ i d e
    exact ⟨v, e1, k F H v d M (Same.refl _) a.c r q⟩⟩
def dC (d : D) : DTE := fun _ M Q _ => Q d M
theorem deC {v : V} {d : D} (p : PE X e (tC v)) (r : ∀ F, Rp (kt X W) F v d) : DE X W e (dC d) :=
  ⟨peW p fun σ H Q ⟨Γ, M, F, E, Qd, a, q, k⟩ => k F H v d M (Same.refl _) a.c (r F) q⟩
theorem de_int {i j pos} : DE X W (.Constant (.int i) j pos) (dC (.int i)) := deC pe_int fun _ => .int i
theorem de_bl {b j pos} : DE X W (.Constant (.bool b) j pos) (dC (.bl b)) := deC pe_bl fun _ => .bl b
theorem de_non {j pos} : DE X W (.Constant .none j pos) (dC .non) := deC pe_non fun _ => .non
theorem de_str {x j pos} : DE X W (.Constant (.str x) j pos) (dC (.str x)) := deC pe_str fun _ => .str x
theorem de_glob {x : Str} {v : V} {d : D} {u : Value} {pos : Pos} (hg : Gl X x) (hm : X.mg x = some u) (r : RelV v u) (hr : ∀ F, Rp (kt X W) F v d) (hd : (x == ("__debug__" : Str)) = false := by decide) : DE X W (.Name x pos) (dC d) :=
  deC (pe_glob hg hm r hd) hr
def dNil : DTA := fun _ M Q _ => Q [] M
def dCons (ta : DTE) (tr : DTA) : DTA := fun Γ M Q E => ta Γ M (fun x M1 => tr Γ M1 (fun xs M2 => Q (x :: xs) M2) E) E
theorem da_nil : DA X W [] dNil := ⟨paW pa_nil fun σ H Q ⟨Γ, M, F, E, Qd, a, q, k⟩ => k F H [] [] M (Same.refl _) a.c .nil q⟩
theorem da_cons {te : DTE} {t : DTA} (ha : DE X W e te) (hr : DA X W es t) (hs : starEach (e :: es) X.env = (false, eval e X.env) :: starEach es X.env := by rfl) : DA X W (e :: es) (dCons te t) :=
  ⟨paW (pa_cons ha.pe hr.pa hs) fun σ H Q ⟨Γ, M, F, E, Qd, a, q, k⟩ => ⟨Γ, M, F, E, _, a, q, fun F1 H1 v d M1 s1 c1 r1 q1 =>
    ⟨Γ, M1, F1, E, _, a.next s1 c1, q1, fun F2 H2 vs ds M2 s2 c2 r2 q2 => k F2 H2 _ _ M2 (s1.trans s2) c2 (.cons (r1.mono s2) r2) q2⟩⟩⟩
def dTup (t : DTA) : DTE := fun Γ M Q E => t Γ M (fun xs M1 => xs.length ≤ sizeLine ∧ Q (.tup xs) M1) E
theorem de_tup {x1 pos} {t : DTA} (h : DA X W es t) : DE X W (.Tuple es x1 pos) (dTup t) :=
  ⟨peW (pe_tup h.pa) fun σ H Q ⟨Γ, M, F, E, Qd, a, q, k⟩ => ⟨Γ, M, F, E, _, a, q, fun F1 H1 vs ds M1 s1 c1 r1 ⟨z, q1⟩ => ⟨by rw [r1.length]; exact z, fun p hp =>
    k _ _ _ _ M1 (s1.trans (Same.upd (c1.Fnone hp))) (c1.newF hp) (.tup (.inl upd_same) (r1.mono (Same.upd (c1.Fnone hp)))) q1⟩⟩⟩
/-- a new list, frozen at once -/
def dLst (t : DTA) : DTE := fun Γ M Q E => t Γ M (fun xs M1 => xs.length ≤ sizeLine ∧ Q (.lst xs) M1) E
theorem de_lst {pos} {t : DTA} (h : DA X W es t) : DE X W (.List es pos) (dLst t) :=
  ⟨peW (pe_lst h.pa) fun σ H Q ⟨Γ, M, F, E, Qd, a, q, k⟩ => ⟨Γ, M, F, E, _, a, q, fun F1 H1 vs ds M1 s1 c1 r1 ⟨z, q1⟩ => ⟨by rw [r1.length]; exact z, fun p hp =>
    k _ _ _ _ M1 (s1.trans (Same.upd (c1.Fnone hp))) (c1.newF hp) (.lst upd_same (r1.mono (Same.upd (c1.Fnone hp)))) q1⟩⟩⟩
/-- a new list, a cell -/
def dLstO (t : DTA) : DTE := fun Γ M Q E => t Γ M (fun xs M1 => xs.length ≤ sizeLine ∧ ∀ p, M1 p = none → Q (.ref p) (mup M1 p (.lst xs))) E
theorem de_lstO {pos} {t : DTA} (h : DA X W es t) : DE X W (.List es pos) (dLstO t) :=
  ⟨peW (pe_lst h.pa) fun σ H Q ⟨Γ, M, F, E, Qd, a, q, k⟩ => ⟨Γ, M, F, E, _, a, q, fun F1 H1 vs ds M1 s1 c1 r1 ⟨z, q1⟩ => ⟨by rw [r1.length]; exact z, fun p hp =>
    k _ _ _ _ _ s1 (c1.newM (x := .lst ds) hp ⟨vs, rfl, r1⟩) (.ref p) (q1 p (c1.Mnone hp))⟩⟩⟩
abbrev D2 := D → D → Mp → DQ → Prop
def Real2 (K : KTb) (r : R2) (rd : D2) : Prop := ∀ (F H : Hp) (M : Mp) (x y : V) (d e : D) (Qd : DQ) (Q : VK), Cc K M F H → Rp K F x d → Rp K F y e → rd d e M Qd → CoQ K F Qd Q → r x y H Q
def dOp (rd : D2) (ta tb : DTE) : DTE := fun Γ M Q E => ta Γ M (fun x M1 => tb Γ M1 (fun y M2 => rd x y M2 Q) E) E
theorem upOp {r : R2} {rd : D2} {ta tb : DTE} {σ : St} {H : Hp} {Q : VK} (hr : Real2 (kt X W) r rd) (h : upE (kt X W) W.w (dOp rd ta tb) σ H Q) : tOp r (upE (kt X W) W.w ta) (upE (kt X W) W.w tb) σ H Q := by
  obtain ⟨Γ, M, F, E, Qd, a, q, k⟩ := h
  exact ⟨Γ, M, F, E, _, a, q, fun F1 H1 v d M1 s1 c1 r1 q1 => ⟨Γ, M1, F1, E, _, a.next s1 c1, q1, fun F2 H2 w e M2 s2 c2 r2 q2 => hr F2 H2 M2 v w d e Qd Q c2 (r1.mono s2) r2 q2 (k.mono (s1.trans s2))⟩⟩
theorem de_op {op : Operator} {r : R2} {rd : D2} {ta tb : DTE} {pos : Pos} (ho : OpR X (binaryOp op) r) (hr : Real2 (kt X W) r rd) (ha : DE X W a ta) (hb : DE X W b tb) : DE X W (.BinOp a op b pos) (dOp rd ta tb) :=
  ⟨peW (pe_op ho ha.pe hb.pe) fun _ _ _ h => upOp hr h⟩
theorem de_cmp {op : CmpOp} {r : R2} {rd : D2} {ta tb : DTE} {pos : Pos} (ho : OpR X (compareOp op) r) (hr : Real2 (kt X W) r rd) (ha : DE X W a ta) (hb : DE X W b tb) (hm : behindInMarks op b = false) : DE X W (.Compare a [op] [b] pos) (dOp rd ta tb) :=
  ⟨peW (pe_cmpR ho ha.pe hb.pe hm) fun _ _ _ h => upOp hr h⟩
/-- a value as a test -/
def dTest (t : DTE) : DTT := fun Γ M Q E => t Γ M (fun x M1 => ∃ k, x = .bl k ∧ Q k M1) E
theorem upTest {t : DTE} {σ : St} {H : Hp} {Q : Bool → Hp → Prop} (h : upT (kt X W) W.w (dTest t) σ H Q) : upE (kt X W) W.w t σ H (fun x H' => ∃ k, x = V.bl k ∧ Q k H') := by
  obtain ⟨Γ, M, F, E, Qd, a, q, k⟩ := h
  refine ⟨Γ, M, F, E, _, a, q, fun F1 H1 v d M1 s1 c1 r1 ⟨b, e, q1⟩ => ?_⟩
  subst e
  cases r1
  exact ⟨b, rfl, k F1 H1 b M1 s1 c1 q1⟩
theorem dt_val {t : DTE} (h : DE X W e t) (he : ∀ whole, isTrue e X.env whole = (do let v ← whole; standAt e.pos; holding [v] (truthy v)) := by intro _; rfl) : DT X W e (dTest t) := ⟨ptW (pt_val h.pe he) fun σ H Q q => upTest q⟩
theorem dt_cmp {op : CmpOp} {r : R2} {rd : D2} {ta tb : DTE} {pos : Pos} (ho : OpR X (compareOp op) r) (hr : Real2 (kt X W) r rd) (ha : DE X W a ta) (hb : DE X W b tb) (hm : behindInMarks op b = false) : DT X W (.Compare a [op] [b] pos) (dTest (dOp rd ta tb)) :=
  ⟨ptW (pt_cmpR ho ha.pe hb.pe hm) fun σ H Q q => upOp hr (upTest q)⟩
/-- a op b op c -/
def dChain (rd rd' : D2) (ta tb tc : DTE) : DTE := fun Γ M Q E => ta Γ M (fun x M1 => tb Γ M1 (fun y M2 => rd x y M2 (fun z M3 => ∃ k, z = .bl k ∧
  (if k = true then tc Γ M3 (fun w M4 => rd' y w M4 Q) E else Q (.bl false) M3))) E) E
theorem upChain {r r' : R2} {rd rd' : D2} {ta tb tc : DTE} {σ : St} {H : Hp} {Q : VK} (hr : Real2 (kt X W) r rd) (hr' : Real2 (kt X W) r' rd') (h : upE (kt X W) W.w (dChain rd rd' ta tb tc) σ H Q) : tChain r r' (upE (kt X W) W.w ta) (upE (kt X W) W.w tb) (upE (kt X W) W.w tc) σ H Q := by
  obtain ⟨Γ, M, F, E, Qd, a, q, k⟩ := h
  refine ⟨Γ, M, F, E, _, a, q, fun F1 H1 v d M1 s1 c1 r1 q1 => ⟨Γ, M1, F1, E, _, a.next s1 c1, q1, fun F2 H2 w e M2 s2 c2 r2 q2 => hr F2 H2 M2 v w d e _ _ c2 (r1.mono s2) r2 q2 fun F3 H3 z dz M3 s3 c3 r3 ⟨b, eb, q3⟩ => ?_⟩⟩
  subst eb
  cases r3
  refine ⟨b, rfl, ?_⟩
  cases b with
  | false =>
    rw [if_neg Bool.false_ne_true] at q3 ⊢
    exact k F3 H3 _ _ M3 ((s1.trans s2).trans s3) c3 (.bl false) q3
  | true =>
    rw [if_pos rfl] at q3 ⊢
    exact ⟨Γ, M3, F3, E, _, a.next ((s1.trans s2).trans s3) c3, q3, fun F4 H4 u f M4 s4 c4 r4 q4 => hr' F4 H4 M4 w u e f Qd Q c4 (r2.mono (s3.trans s4)) r4 q4 (k.mono (((s1.trans s2).trans s3).trans s4))⟩
theorem dt_chain {c : Expr} {op op' : CmpOp} {r r' : R2} {rd rd' : D2} {ta tb tc : DTE} {pos : Pos} (ho : OpR X (compareOp op) r) (ho' : OpR X (compareOp op') r') (hr : Real2 (kt X W) r rd) (hr' : Real2 (kt X W) r' rd') (ha : DE X W a ta) (hb : DE X W b tb) (hc : DE X W c tc)
    (hm : lastMarks [op, op'] [b, c] = false := by with_unfolding_all rfl) : DT X W (.Compare a [op, op'] [b, c] pos) (dTest (dChain rd rd' ta tb tc)) :=
  ⟨ptW (pt_chain ho ho' ha.pe hb.pe hc.pe hm) fun σ H Q q => upChain hr hr' (upTest q)⟩
def dAnd (t u : DTT) : DTT := fun Γ M Q E => t Γ M (fun c M1 => if c = true then u Γ M1 Q E else Q false M1) E
def dOr (t u : DTT) : DTT := fun Γ M Q E => t Γ M (fun c M1 => if c = true then Q true M1 else u Γ M1 Q E) E
def dNot (t : DTT) : DTT := fun Γ M Q E => t Γ M (fun c M1 => Q (!c) M1) E
theorem upAnd {t u : DTT} {σ : St} {H : Hp} {Q : Bool → Hp → Prop} (h : upT (kt X W) W.w (dAnd t u) σ H Q) : tAnd (upT (kt X W) W.w t) (upT (kt X W) W.w u) σ H Q := by
  obtain ⟨Γ, M, F, E, Qd, a, q, k⟩ := h
  refine ⟨Γ, M, F, E, _, a, q, fun F1 H1 b M1 s1 c1 q1 => ?_⟩
  cases b with
  | false =>
    rw [if_neg Bool.false_ne_true] at q1 ⊢
    exact k F1 H1 _ M1 s1 c1 q1
  | true =>
    rw [if_pos rfl] at q1 ⊢
    exact ⟨Γ, M1, F1, E, _, a.next s1 c1, q1, fun F2 H2 b M2 s2 c2 q2 => k F2 H2 b M2 (s1.trans s2) c2 q2⟩
theorem upOr {t u : DTT} {σ : St} {H : Hp} {Q : Bool → Hp → Prop} (h : upT (kt X W) W.w (dOr t u) σ H Q) : tOr (upT (kt X W) W.w t) (upT (kt X W) W.w u) σ H Q := by
  obtain ⟨Γ, M, F, E, Qd, a, q, k⟩ := h
  refine ⟨Γ, M, F, E, _, a, q, fun F1 H1 b M1 s1 c1 q1 => ?_⟩
  cases b with
  | true =>
    rw [if_pos rfl] at q1 ⊢
    exact k F1 H1 _ M1 s1 c1 q1
  | false =>
    rw [if_neg Bool.false_ne_true] at q1 ⊢
    exact ⟨Γ, M1, F1, E, _, a.next s1 c1, q1, fun F2 H2 b M2 s2 c2 q2 => k F2 H2 b M2 (s1.trans s2) c2 q2⟩
theorem upNot {t : DTT} {σ : St} {H : Hp} {Q : Bool → Hp → Prop} (h : upT (kt X W) W.w (dNot t) σ H Q) : tNot (upT (kt X W) W.w t) σ H Q := by
  obtain ⟨Γ, M, F, E, Qd, a, q, k⟩ := h
  exact ⟨Γ, M, F, E, _, a, q, fun F1 H1 b M1 s1 c1 q1 => k F1 H1 _ M1 s1 c1 q1⟩
end
end DL
namespace DL
open PySem L2
/-- a list: frozen, a cell, the script -/
def sqD (M : Mp) : D → Option (List D)
  | .lst xs => some xs
  | .scr ns => some (ns.map D.int)
  | .ref p => match M p with
    | some (.lst xs) => some xs
    | _ => none
  | _ => none
/-- a list that is not the script -/
def sqX (M : Mp) : D → Option (List D)
  | .lst xs => some xs
  | .ref p => match M p with
    | some (.lst xs) => some xs
    | _ => none
  | _ => none
def tpD : D → Option (List D)
  | .tup xs => some xs
  | _ => none
/-- a list or a tuple -/
def seqD (M : Mp) (d : D) : Option (List D) := match tpD d with
  | some xs => some xs
  | none => sqD M d
/-- a cell's list read as data -/
def res (M : Mp) (d : D) : D := match sqD M d with
  | some xs => .lst xs
  | none => d
theorem sqD_lst {M : Mp} {xs : List D} : sqD M (.lst xs) = some xs := rfl
theorem sqD_ref {M : Mp} {p : Addr} {xs : List D} (h : M p = some (.lst xs)) : sqD M (.ref p) = some xs := by simp [sqD, h]
theorem sqX_ref {M : Mp} {p : Addr} {xs : List D} (h : M p = some (.lst xs)) : sqX M (.ref p) = some xs := by simp [sqX, h]
section
variable {K : KTb} {M : Mp} {F H : Hp} {v : V} {d : D} {xs : List D}
theorem sq_of (c : Cc K M F H) (r : Rp K F v d) (h : sqD M d = some xs) : ∃ a vs, v = .ref a ∧ SqL K.K H a vs ∧ Rps K F vs xs := by
  cases d with
  | lst ys =>
    cases h
    cases r with
    | lst h1 h2 => exact ⟨_, _, rfl, .inl (c.fr _ _ h1).rd, h2⟩
  | scr ns =>
    cases h
    cases r with
    | scr h1 =>
      rcases h1 with h1 | ⟨ob, h1⟩ | h1
      · exact ⟨_, _, rfl, .inl (c.fr _ _ h1).rd, .ofInts ns⟩
      · refine ⟨_, _, rfl, .inl (.inr ⟨ob, ?_⟩), .ofInts ns⟩
        rcases c.fr _ _ h1 with z | ⟨⟨_, z⟩, _⟩
        · exact z
        · cases z
      · exact ⟨_, _, rfl, .inr h1, .ofInts ns⟩
  | ref p =>
    cases r
    cases e : M p with
    | none => simp [sqD, e] at h
    | some x =>
      obtain ⟨_, o, h2, h3⟩ := c.ow _ _ e
      cases x with
      | lst ys =>
        simp [sqD, e] at h
        subst h
        obtain ⟨vs, e1, h4⟩ := h3
        exact ⟨p, vs, rfl, .inl (.inl (by rw [h2, e1])), h4⟩
      | dic ys => simp [sqD, e] at h
      | dit ys => simp [sqD, e] at h
      | lkd ys u => simp [sqD, e] at h
      | ins C fs => simp [sqD, e] at h
      | opq φ => simp [sqD, e] at h
  | _ => simp [sqD] at h
theorem sqx_of (c : Cc K M F H) (r : Rp K F v d) (h : sqX M d = some xs) : ∃ a vs, v = .ref a ∧ H a = some (.lst vs) ∧ Rps K F vs xs := by
  cases d with
  | lst ys =>
    cases h
    cases r with
    | lst h1 h2 => exact ⟨_, _, rfl, (c.fr _ _ h1).lst, h2⟩
  | ref p =>
    cases r
    cases e : M p with
    | none => simp [sqX, e] at h
    | some x =>
      obtain ⟨_, o, h2, h3⟩ := c.ow _ _ e
      cases x with
      | lst ys =>
        simp [sqX, e] at h
        subst h
        obtain ⟨vs, e1, h4⟩ := h3
        exact ⟨p, vs, rfl, by rw [h2, e1], h4⟩
      | dic ys => simp [sqX, e] at h
      | dit ys => simp [sqX, e] at h
      | lkd ys u => simp [sqX, e] at h
      | ins C fs => simp [sqX, e] at h
      | opq φ => simp [sqX, e] at h
  | _ => simp [sqX] at h
theorem tp_of (c : Cc K M F H) (r : Rp K F v (.tup xs)) : ∃ a vs, v = .ref a ∧ SqT K.K H a vs ∧ Rps K F vs xs := by
  cases r with
  | tup h1 h2 =>
    rcases h1 with h1 | h1
    · exact ⟨_, _, rfl, .inl (c.fr _ _ h1).rd, h2⟩
    · exact ⟨_, _, rfl, .inr h1.2, h2⟩
theorem tpD_eq (h : tpD d = some xs) : d = .tup xs := by
  cases d <;> simp [tpD] at h
  rw [h]
/-- a frozen or cell list told as data -/
theorem res_of (c : Cc K M F H) (r : Rp K F v d) : (∃ xs a vs, sqD M d = some xs ∧ res M d = .lst xs ∧ v = .ref a ∧ SqL K.K H a vs ∧ Rps K F vs xs) ∨ (sqD M d = none ∧ res M d = d) := by
  cases e : sqD M d with
  | none => exact .inr ⟨rfl, by simp [res, e]⟩
  | some xs =>
    obtain ⟨a, vs, h1, h2, h3⟩ := sq_of c r e
    exact .inl ⟨xs, a, vs, rfl, by simp [res, e], h1, h2, h3⟩
end
mutual
def D.py : D → PyData
  | .non => .none
  | .bl b => .bool b
  | .int i => .int i
  | .str x => .str x
  | .ref _ => .dict []
  | .tup xs => .tuple (pys xs)
  | .lst xs => .list (pys xs)
  | .dic _ => .dict []
  | .scr _ => .dict []
  | .obj _ _ => .dict []
  | .dit _ => .dict []
  | .any _ _ => .dict []
def pys : List D → List PyData
  | [] => []
  | d :: ds => d.py :: pys ds
end
theorem pys_map : ∀ ds : List D, pys ds = ds.map D.py
  | [] => by simp [pys]
  | d :: ds => by simp [pys, pys_map ds]
mutual
theorem dp_of {K : KTb} {M : Mp} {F H : Hp} (c : Cc K M F H) : ∀ (d : D) (v : V), Rp K F v d → d.py.canLay0 = true → Dp K.K H v d.py
  | .non, _, r, _ => by cases r; simp only [D.py]; exact .non
  | .bl b, _, r, _ => by cases r; simp only [D.py]; exact .bl b
  | .int b, _, r, _ => by cases r; simp only [D.py]; exact .int b
  | .str b, _, r, _ => by cases r; simp only [D.py]; exact .str b
  | .ref p, _, r, h => by simp [D.py, PyData.canLay0] at h
  | .dic p, _, r, h => by simp [D.py, PyData.canLay0] at h
  | .scr p, _, r, h => by simp [D.py, PyData.canLay0] at h
  | .obj _ _, _, r, h => by simp [D.py, PyData.canLay0] at h
  | .dit _, _, r, h => by simp [D.py, PyData.canLay0] at h
  | .any p _, _, r, h => by simp [D.py, PyData.canLay0] at h
  | .tup xs, _, r, h => by
    obtain ⟨a, vs, rfl, h1, h2⟩ := tp_of c r
    simp only [D.py, PyData.canLay0] at h ⊢
    exact .tup h1 (dps_of c xs vs h2 h)
  | .lst xs, _, r, h => by
    obtain ⟨a, vs, rfl, h1, h2⟩ := sq_of c r (sqD_lst (xs := xs))
    simp only [D.py, PyData.canLay0] at h ⊢
    exact .lst h1 (dps_of c xs vs h2 h)
theorem dps_of {K : KTb} {M : Mp} {F H : Hp} (c : Cc K M F H) : ∀ (ds : List D) (vs : List V), Rps K F vs ds → PyData.canLayAll0 (pys ds) = true → DpAll K.K H vs (pys ds)
  | [], _, r, _ => by cases r; simp only [pys]; exact .nil
  | d :: ds, _, r, h => by
    cases r with
    | cons r1 r2 =>
      simp only [pys, PyData.canLayAll0, Bool.and_eq_true] at h ⊢
      exact .cons (dp_of c d _ r1 h.1) (dps_of c ds _ r2 h.2)
end
def shD (d : D) : Bool := SeqAt.shaped d.py
def deq (d e : D) : Bool := PyData.eqv d.py e.py
theorem shD_lay {d : D} (h : shD d = true) : d.py.canLay0 = true := SeqAt.canLay_of_shaped h
theorem dp_res {K : KTb} {M : Mp} {F H : Hp} {v : V} {d : D} (c : Cc K M F H) (r : Rp K F v d) (h : shD (res M d) = true) : Dp K.K H v (res M d).py := by
  rcases res_of c r with ⟨xs, a, vs, _, e2, e3, h1, h2⟩ | ⟨_, e⟩
  · subst e3
    rw [e2] at h ⊢
    have h' := shD_lay h
    simp only [D.py, PyData.canLay0] at h' ⊢
    exact .lst h1 (dps_of c xs vs h2 h')
  · rw [e] at h ⊢
    exact dp_of c d v r (shD_lay h)
def rdEq : D2 := fun x y M Q => shD (res M x) = true ∧ shD (res M y) = true ∧ Q (.bl (deq (res M x) (res M y))) M
def rdNe : D2 := fun x y M Q => shD (res M x) = true ∧ shD (res M y) = true ∧ Q (.bl (!deq (res M x) (res M y))) M
theorem real_eq {K : KTb} : Real2 K (rEqD K.K) rdEq := fun F H M x y d e Qd Q c rx ry ⟨h1, h2, q⟩ k => ⟨_, _, dp_res c rx h1, dp_res c ry h2, h1, h2, k F H _ _ M (Same.refl _) c (.bl _) q⟩
theorem real_ne {K : KTb} : Real2 K (rNeD K.K) rdNe := fun F H M x y d e Qd Q c rx ry ⟨h1, h2, q⟩ k => ⟨_, _, dp_res c rx h1, dp_res c ry h2, h1, h2, k F H _ _ M (Same.refl _) c (.bl _) q⟩
/-- x in a list -/
def rdIn (neg : Bool) : D2 := fun x y M Q => ∃ ys, res M y = .lst ys ∧ shD (res M x) = true ∧ shD (.lst ys) = true ∧ Q (.bl (if neg then !(ys.any fun z => deq z (res M x)) else ys.any fun z => deq z (res M x))) M
theorem real_in {K : KTb} : Real2 K (rInD K.K) (rdIn false) := fun F H M x y d e Qd Q c rx ry ⟨ys, e1, h1, h2, q⟩ k => by
  have hy := dp_res c ry (by rw [e1]; exact h2)
  rw [e1] at hy
  simp only [D.py] at hy
  refine ⟨_, pys ys, dp_res c rx h1, hy, h1, by simpa [shD, D.py] using h2, k F H _ _ M (Same.refl _) c (.bl _) ?_⟩
  rw [pys_map, List.any_map]
  simpa [deq, Function.comp_def] using q
def rdI (g : Int → Int → D) : D2 := fun x y M Q => ∃ i j, x = .int i ∧ y = .int j ∧ Q (g i j) M
def rdIc (C : Int → Int → Prop) (g : Int → Int → D) : D2 := fun x y M Q => ∃ i j, x = .int i ∧ y = .int j ∧ C i j ∧ Q (g i j) M
theorem real_I {K : KTb} {g : Int → Int → V} {g' : Int → Int → D} (h : ∀ F i j, Rp K F (g i j) (g' i j)) : Real2 K (rI0 g) (rdI g') := fun F H M x y d e Qd Q c rx ry ⟨i, j, e1, e2, q⟩ k => by
  subst e1
  subst e2
  cases rx
  cases ry
  exact ⟨i, j, rfl, rfl, k F H _ _ M (Same.refl _) c (h F i j) q⟩
theorem real_Ic {K : KTb} {C : Int → Int → Prop} {g : Int → Int → V} {g' : Int → Int → D} (h : ∀ F i j, Rp K F (g i j) (g' i j)) : Real2 K (rI C g) (rdIc C g') := fun F H M x y d e Qd Q c rx ry ⟨i, j, e1, e2, hc, q⟩ k => by
  subst e1
  subst e2
  cases rx
  cases ry
  exact ⟨i, j, rfl, rfl, hc, k F H _ _ M (Same.refl _) c (h F i j) q⟩
theorem real_lt {K : KTb} : Real2 K (rI0 fun i j => .bl (decide (i < j))) (rdI fun i j => .bl (decide (i < j))) := real_I fun _ _ _ => .bl _
theorem real_le {K : KTb} : Real2 K (rI0 fun i j => .bl (decide (i ≤ j))) (rdI fun i j => .bl (decide (i ≤ j))) := real_I fun _ _ _ => .bl _
theorem real_gt {K : KTb} : Real2 K (rI0 fun i j => .bl (decide (j < i))) (rdI fun i j => .bl (decide (j < i))) := real_I fun _ _ _ => .bl _
theorem real_ge {K : KTb} : Real2 K (rI0 fun i j => .bl (decide (j ≤ i))) (rdI fun i j => .bl (decide (j ≤ i))) := real_I fun _ _ _ => .bl _
theorem real_sub {K : KTb} : Real2 K (rI0 fun i j => .int (i - j)) (rdI fun i j => .int (i - j)) := real_I fun _ _ _ => .int _
theorem real_mod {K : KTb} : Real2 K (rI (fun _ j => 0 < j) fun i j => .int (i % j)) (rdIc (fun _ j => 0 < j) fun i j => .int (i % j)) := real_Ic fun _ _ _ => .int _
theorem real_fdiv {K : KTb} : Real2 K (rI CDiv fun i j => .int (i / j)) (rdIc CDiv fun i j => .int (i / j)) := real_Ic fun _ _ _ => .int _
theorem real_pow {K : KTb} : Real2 K (rI CPow fun i j => .int (i ^ j.toNat)) (rdIc CPow fun i j => .int (i ^ j.toNat)) := real_Ic fun _ _ _ => .int _
/-- a + b: ints, texts, lists (a new list, frozen) -/
def rdAdd : D2 := fun x y M Q => match x, y with
  | .int i, .int j => Q (.int (i + j)) M
  | .str i, .str j => i.length + j.length ≤ sizeLine ∧ Q (.str (i ++ j)) M
  | x, y => ∃ xs ys, sqX M x = some xs ∧ sqX M y = some ys ∧ xs.length + ys.length ≤ sizeLine ∧ Q (.lst (xs ++ ys)) M
def rAdd3 : R2 := fun x y H Q => rI0 (fun i j => .int (i + j)) x y H Q ∨ ((∃ i j, x = .str i ∧ y = .str j ∧ i.length + j.length ≤ sizeLine ∧ Q (.str (i ++ j)) H) ∨ rCat x y H Q)
theorem op_add3 {X : Cx} : OpR X (binaryOp .Add) rAdd3 := op_add.or (op_add_str.or op_cat)
theorem real_cat {K : KTb} : Real2 K rCat (fun x y M Q => ∃ xs ys, sqX M x = some xs ∧ sqX M y = some ys ∧ xs.length + ys.length ≤ sizeLine ∧ Q (.lst (xs ++ ys)) M) := fun F H M x y d e Qd Q c rx ry ⟨xs, ys, e1, e2, hz, q⟩ k => by
  obtain ⟨a, vs, rfl, h1, r1⟩ := sqx_of c rx e1
  obtain ⟨b, us, rfl, h2, r2⟩ := sqx_of c ry e2
  refine ⟨a, b, vs, us, rfl, rfl, h1, h2, by rw [r1.length, r2.length]; exact hz, fun p hp => ?_⟩
  have s := Same.upd (o := .lst (vs ++ us)) (c.Fnone hp)
  exact k _ _ _ _ M s (c.newF hp) (.lst upd_same ((r1.append r2).mono s)) q
theorem real_add {K : KTb} : Real2 K rAdd3 rdAdd := fun F H M x y d e Qd Q c rx ry q k => by
  unfold rdAdd at q
  split at q
  · exact .inl (real_I (g' := fun i j => .int (i + j)) (fun _ _ _ => .int _) F H M x y _ _ Qd Q c rx ry ⟨_, _, rfl, rfl, q⟩ k)
  · obtain ⟨h1, q⟩ := q
    cases rx
    cases ry
    exact .inr (.inl ⟨_, _, rfl, rfl, h1, k F H _ _ M (Same.refl _) c (.str _) q⟩)
  · exact .inr (.inr (real_cat F H M x y _ _ Qd Q c rx ry q k))
/-- a * b: ints, a list some times -/
def rdMul : D2 := fun x y M Q => match x, y with
  | .int i, .int j => CMul i j ∧ Q (.int (i * j)) M
  | x, y => ∃ xs k, sqX M x = some xs ∧ y = .int k ∧ -(2 ^ 63) ≤ k ∧ k < 2 ^ 63 ∧ xs.length * k.toNat ≤ sizeLine ∧ Q (.lst (List.replicate k.toNat xs).flatten) M
def rMul2 : R2 := fun x y H Q => rI CMul (fun i j => .int (i * j)) x y H Q ∨ rRep x y H Q
theorem op_mul2 {X : Cx} : OpR X (binaryOp .Mult) rMul2 := op_mul.or op_rep
theorem rps_rep {K : KTb} {F : Hp} {vs : List V} {ds : List D} (r : Rps K F vs ds) : ∀ n : Nat, Rps K F (List.replicate n vs).flatten (List.replicate n ds).flatten
  | 0 => .nil
  | n + 1 => by
    rw [List.replicate_succ, List.replicate_succ, List.flatten_cons, List.flatten_cons]
    exact r.append (rps_rep r n)
theorem real_mul {K : KTb} : Real2 K rMul2 rdMul := fun F H M x y d e Qd Q c rx ry q k => by
  unfold rdMul at q
  split at q
  · exact .inl (real_Ic (g' := fun i j => .int (i * j)) (fun _ _ _ => .int _) F H M x y _ _ Qd Q c rx ry ⟨_, _, rfl, rfl, q⟩ k)
  · obtain ⟨xs, n, e1, e2, h1, h2, h3, q⟩ := q
    subst e2
    cases ry
    obtain ⟨a, vs, rfl, h4, r1⟩ := sqx_of c rx e1
    refine .inr ⟨a, n, vs, rfl, rfl, h4, h1, h2, by rw [r1.length]; exact h3, fun p hp => ?_⟩
    have s := Same.upd (o := .lst (List.replicate n.toNat vs).flatten) (c.Fnone hp)
    exact k _ _ _ _ M s (c.newF hp) (.lst upd_same ((rps_rep r1 _).mono s)) q
/-- a list some times, a cell -/
def rdRepO : D2 := fun x y M Q => ∃ xs k, sqX M x = some xs ∧ y = .int k ∧ -(2 ^ 63) ≤ k ∧ k < 2 ^ 63 ∧ xs.length * k.toNat ≤ sizeLine ∧ ∀ p, M p = none → Q (.ref p) (mup M p (.lst (List.replicate k.toNat xs).flatten))
theorem real_repO {K : KTb} : Real2 K rRep rdRepO := fun F H M x y d e Qd Q c rx ry ⟨xs, n, e1, e2, h1, h2, h3, q⟩ k => by
  subst e2
  cases ry
  obtain ⟨a, vs, rfl, h4, r1⟩ := sqx_of c rx e1
  refine ⟨a, n, vs, rfl, rfl, h4, h1, h2, by rw [r1.length]; exact h3, fun p hp => ?_⟩
  exact k _ _ _ _ _ (Same.refl _) (c.newM (x := .lst _) hp ⟨_, rfl, rps_rep r1 _⟩) (.ref p) (q p (c.Mnone hp))
/-- is None, is not None -/
def rdIsN (neg : Bool) : D2 := fun x y M Q => y = .non ∧ Q (.bl (if neg then (match x with | .non => false | _ => true) else (match x with | .non => true | _ => false))) M
theorem real_isN {K : KTb} : Real2 K (fun x y H Q => y = .non ∧ Q (.bl (decide (x = .non))) H) (rdIsN false) := fun F H M x y d e Qd Q c rx ry ⟨e1, q⟩ k => by
  subst e1
  cases ry
  refine ⟨rfl, k F H _ _ M (Same.refl _) c ?_ q⟩
  cases rx with
  | any n _ =>
    rw [decide_eq_false n]
    exact .bl _
  | _ => exact .bl _
def ixD (M : Mp) (x y : D) : Option D := match y with
  | .int i => match x with
    | .tup xs => atI xs i
    | .str z => if z.length ≤ sizeLine then (atI z.cps.toList i).map fun c => .str ⟨#[c]⟩ else none
    | x => (sqD M x).bind fun xs => atI xs i
  | _ => none
def rdIx : D2 := fun x y M Q => ∃ d, ixD M x y = some d ∧ Q d M
theorem atI_of {K : KTb} {F : Hp} {vs : List V} {ds : List D} {i : Int} {d : D} (r : Rps K F vs ds) (h : atI ds i = some d) : ∃ v, atI vs i = some v ∧ Rp K F v d := by
  unfold atI at h ⊢
  rw [r.length]
  cases e : ixN ds.length i with
  | none => rw [e] at h; cases h
  | some j =>
    rw [e] at h
    exact r.get h
theorem real_ix {K : KTb} : Real2 K (rIx K.K) rdIx := fun F H M x y d e Qd Q c rx ry ⟨z, h, q⟩ k => by
  cases e with
  | int i =>
    cases ry
    have lst : ∀ ys, sqD M d = some ys → atI ys i = some z → rIx K.K x (.int i) H Q := fun ys e1 e2 => by
      obtain ⟨a, vs, rfl, h1, r1⟩ := sq_of c rx e1
      obtain ⟨w, h2, r2⟩ := atI_of r1 e2
      exact .inl ⟨a, vs, _, w, rfl, rfl, h1, h2, k F H _ _ M (Same.refl _) c r2 q⟩
    cases d with
    | tup xs =>
      have h : atI xs i = some z := h
      obtain ⟨a, vs, rfl, h1, r1⟩ := tp_of c rx
      obtain ⟨w, h2, r2⟩ := atI_of r1 h
      exact .inr (.inl ⟨a, vs, i, w, rfl, rfl, h1, h2, k F H _ _ M (Same.refl _) c r2 q⟩)
    | str y =>
      have h : (if y.length ≤ sizeLine then (atI y.cps.toList i).map fun c => D.str ⟨#[c]⟩ else none) = some z := h
      split at h
      · rename_i hz
        cases e : atI y.cps.toList i with
        | none => rw [e] at h; cases h
        | some ch =>
          rw [e] at h
          cases h
          cases rx
          exact .inr (.inr ⟨y, i, ch, rfl, rfl, hz, e, k F H _ _ M (Same.refl _) c (.str _) q⟩)
      · cases h
    | lst ys =>
      have h : atI ys i = some z := h
      exact lst ys rfl h
    | ref p =>
      have h : ((sqD M (.ref p)).bind fun xs => atI xs i) = some z := h
      cases e : sqD M (.ref p) with
      | none => rw [e] at h; cases h
      | some ys => rw [e] at h; exact lst ys e h
    | scr ns =>
      have h : atI (ns.map D.int) i = some z := h
      exact lst _ rfl h
    | _ => cases h
  | _ => cases h
section
variable {X : Cx} {W : WT} {e a b : Expr} {es : List Expr}
theorem de_ix {ta tb : DTE} {pos : Pos} (ha : DE X W a ta) (hb : DE X W b tb) (hs : PlainIx b := by intro _ _; rfl) : DE X W (.Subscript a b pos) (dOp rdIx ta tb) :=
  ⟨peW (pe_ix ix_seq ha.pe hb.pe hs) fun _ _ _ h => upOp real_ix h⟩
abbrev DTO := DG → Mp → (Option Int → Mp → Prop) → DXE → Prop
def upO (K : KTb) (W : WX) (t : DTO) : TO := fun σ H Q => ∃ (Γ : DG) (M : Mp) (F : Hp) (E : DXE) (Qd : Option Int → Mp → Prop), At K W σ H Γ M F E ∧ t Γ M Qd E ∧
  ∀ (F' H' : Hp) (o : Option Int) (M' : Mp), Same F F' → Cc K M' F' H' → Qd o M' → Q o H'
structure DO (X : Cx) (W : WT) (e : Option Expr) (t : DTO) : Prop where
  po : PO X e (upO (kt X W) W.w t)
theorem poW {e : Option Expr} {t t' : TO} (p : PO X e t) (h : ∀ σ H Q, t' σ H Q → t σ H Q) : PO X e t' := ⟨fun pins s σ H Q I q => p.run pins s σ H Q I (h σ H Q q)⟩
def dNoPart : DTO := fun _ M Q _ => Q none M
def dPart (t : DTE) : DTO := fun Γ M Q E => t Γ M (fun x M1 => ∃ i, x = .int i ∧ Q (some i) M1) E
theorem do_none : DO X W none dNoPart := ⟨poW po_none fun σ H Q ⟨Γ, M, F, E, Qd, a, q, k⟩ => k F H _ M (Same.refl _) a.c q⟩
theorem do_some {t : DTE} (h : DE X W e t) : DO X W (some e) (dPart t) := ⟨poW (po_some h.pe) fun σ H Q ⟨Γ, M, F, E, Qd, a, q, k⟩ => ⟨Γ, M, F, E, _, a, q, fun F1 H1 v d M1 s1 c1 r1 ⟨i, e1, q1⟩ => by
  subst e1
  cases r1
  exact ⟨i, rfl, k F1 H1 _ M1 s1 c1 q1⟩⟩⟩
def cutD {α : Type} (xs : List α) (lo hi : Option Int) : List α := (xs.drop (HT.sIx xs.length 0 lo)).take (HT.sIx xs.length xs.length hi - HT.sIx xs.length 0 lo)
theorem rps_cut {K : KTb} {F : Hp} {vs : List V} {ds : List D} (r : Rps K F vs ds) (lo hi : Option Int) : Rps K F (cutV vs lo hi) (cutD ds lo hi) := by
  unfold cutV cutD
  rw [r.length]
  exact (r.drop _).take _
/-- a slice of a list (new, frozen), of a tuple (not the whole) -/
def rdSl : D → Option Int → Option Int → Mp → DQ → Prop := fun x lo hi M Q => match x with
  | .tup xs => ¬ (HT.sIx xs.length 0 lo = 0 ∧ HT.sIx xs.length xs.length hi = xs.length) ∧ Q (.tup (cutD xs lo hi)) M
  | x => ∃ xs, sqD M x = some xs ∧ Q (.lst (cutD xs lo hi)) M
def dSl (rd : D → Option Int → Option Int → Mp → DQ → Prop) (te : DTE) (tl th : DTO) : DTE := fun Γ M Q E => te Γ M (fun x M1 => tl Γ M1 (fun l M2 => th Γ M2 (fun u M3 => rd x l u M3 Q) E) E) E
def RealSl (K : KTb) (r : V → Option Int → Option Int → Hp → VK → Prop) (rd : D → Option Int → Option Int → Mp → DQ → Prop) : Prop := ∀ (F H : Hp) (M : Mp) (x : V) (d : D) (lo hi : Option Int) (Qd : DQ) (Q : VK), Cc K M F H → Rp K F x d → rd d lo hi M Qd → CoQ K F Qd Q → r x lo hi H Q
theorem upSl {r : V → Option Int → Option Int → Hp → VK → Prop} {rd : D → Option Int → Option Int → Mp → DQ → Prop} {te : DTE} {tl th : DTO} {σ : St} {H : Hp} {Q : VK} (hr : RealSl (kt X W) r rd) (h : upE (kt X W) W.w (dSl rd te tl th) σ H Q) : tSl r (upE (kt X W) W.w te) (upO (kt X W) W.w tl) (upO (kt X W) W.w th) σ H Q := by
  obtain ⟨Γ, M, F, E, Qd, a, q, k⟩ := h
  exact ⟨Γ, M, F, E, _, a, q, fun F1 H1 v d M1 s1 c1 r1 q1 => ⟨Γ, M1, F1, E, _, a.next s1 c1, q1, fun F2 H2 l M2 s2 c2 q2 => ⟨Γ, M2, F2, E, _, a.next (s1.trans s2) c2, q2, fun F3 H3 u M3 s3 c3 q3 =>
    hr F3 H3 M3 v d l u Qd Q c3 (r1.mono (s2.trans s3)) q3 (k.mono ((s1.trans s2).trans s3))⟩⟩⟩
def rSl2 (K : PySem.W.Frag) : V → Option Int → Option Int → Hp → VK → Prop := fun x lo hi H Q => rSlL K x lo hi H Q ∨ rSlT K x lo hi H Q
theorem sl_two : SlR X (rSl2 X.K) := SlR.or sl_list sl_tup
theorem real_sl {K : KTb} : RealSl K (rSl2 K.K) rdSl := fun F H M x d lo hi Qd Q c rx q k => by
  unfold rdSl at q
  split at q
  · obtain ⟨a, vs, rfl, h1, r1⟩ := tp_of c rx
    obtain ⟨h2, q⟩ := q
    refine .inr ⟨a, vs, rfl, h1, by rw [r1.length]; exact h2, fun p hp => ?_⟩
    have s := Same.upd (o := .tup (cutV vs lo hi)) (c.Fnone hp)
    exact k _ _ _ _ M s (c.newF hp) (.tup (.inl upd_same) ((rps_cut r1 lo hi).mono s)) q
  · obtain ⟨xs, e1, q⟩ := q
    obtain ⟨a, vs, rfl, h1, r1⟩ := sq_of c rx e1
    refine .inl ⟨a, vs, rfl, h1, fun p hp => ?_⟩
    have s := Same.upd (o := .lst (cutV vs lo hi)) (c.Fnone hp)
    exact k _ _ _ _ M s (c.newF hp) (.lst upd_same ((rps_cut r1 lo hi).mono s)) q
theorem de_sl {te : DTE} {tl th : DTO} {lo hi : Option Expr} {pos p2 : Pos} (he : DE X W e te) (hl : DO X W lo tl) (hu : DO X W hi th) : DE X W (.Subscript e (.Slice lo hi none p2) pos) (dSl rdSl te tl th) :=
  ⟨peW (pe_slice sl_two he.pe hl.po hu.po) fun _ _ _ h => upSl real_sl h⟩
abbrev D1s := List D → Mp → DQ → Prop
def Real1 (K : KTb) (r : List V → Hp → VK → Prop) (rd : D1s) : Prop := ∀ (F H : Hp) (M : Mp) (xs : List V) (ds : List D) (Qd : DQ) (Q : VK), Cc K M F H → Rps K F xs ds → rd ds M Qd → CoQ K F Qd Q → r xs H Q
def dCB (rd : D1s) (t : DTA) : DTE := fun Γ M Q E => t Γ M (fun ds M1 => rd ds M1 Q) E
theorem upCB {r : List V → Hp → VK → Prop} {rd : D1s} {t : DTA} {σ : St} {H : Hp} {Q : VK} (hr : Real1 (kt X W) r rd) (h : upE (kt X W) W.w (dCB rd t) σ H Q) : tCB r (upA (kt X W) W.w t) σ H Q := by
  obtain ⟨Γ, M, F, E, Qd, a, q, k⟩ := h
  exact ⟨Γ, M, F, E, _, a, q, fun F1 H1 vs ds M1 s1 c1 r1 q1 => hr F1 H1 M1 vs ds Qd Q c1 r1 q1 (k.mono s1)⟩
theorem de_callB {id : String} {x : Str} {p pos : Pos} {r : List V → Hp → VK → Prop} {rd : D1s} {t : DTA} (hc : CallR X (.builtin id) r) (hr : Real1 (kt X W) r rd) (hg : Gl X x) (hm : X.mg x = none) (hv : bootBuiltins x = some (.builtin id)) (ha : DA X W (e :: es) t) (hn : x ≠ "__name__" := by decide) (hdb : (x == ("__debug__" : Str)) = false := by decide)
    (he : starEach (e :: es) X.env = (false, eval e X.env) :: starEach es X.env := by rfl) (hpl : (backTo pos (starEach es X.env)).any (·.1) = false := by rfl) : DE X W (.Call (.Name x p) (e :: es) [] pos) (dCB rd t) :=
  ⟨peW (pe_callB hc hg hm hv ha.pa hn hdb he hpl) fun _ _ _ h => upCB hr h⟩
theorem de_callTy {T : String} {x : Str} {p pos : Pos} {r : List V → Hp → VK → Prop} {rd : D1s} {t : DTA} (hc : CallR X (.type T) r) (hr : Real1 (kt X W) r rd) (hg : Gl X x) (hm : X.mg x = none) (hv : bootBuiltins x = some (.type T)) (ha : DA X W (e :: es) t) (hn : x ≠ "__name__" := by decide) (hdb : (x == ("__debug__" : Str)) = false := by decide)
    (he : starEach (e :: es) X.env = (false, eval e X.env) :: starEach es X.env := by rfl) (hpl : (backTo pos (starEach es X.env)).any (·.1) = false := by rfl) : DE X W (.Call (.Name x p) (e :: es) [] pos) (dCB rd t) :=
  ⟨peW (pe_callTy hc hg hm hv ha.pa hn hdb he hpl) fun _ _ _ h => upCB hr h⟩
/-- len -/
def lenD (M : Mp) (d : D) : Option Nat := match d with
  | .tup xs => some xs.length
  | .str y => if y.length ≤ sizeLine then some y.length else none
  | d => (sqD M d).map List.length
def rdLen : D1s := fun ds M Q => ∃ d n, ds = [d] ∧ lenD M d = some n ∧ Q (.int (n : Nat)) M
theorem rps1 {K : KTb} {F : Hp} {vs : List V} {d : D} (r : Rps K F vs [d]) : ∃ v, vs = [v] ∧ Rp K F v d := by
  cases r with
  | cons r1 r2 =>
    cases r2
    exact ⟨_, rfl, r1⟩
theorem rps2 {K : KTb} {F : Hp} {vs : List V} {d e : D} (r : Rps K F vs [d, e]) : ∃ v w, vs = [v, w] ∧ Rp K F v d ∧ Rp K F w e := by
  cases r with
  | cons r1 r2 =>
    obtain ⟨w, rfl, r3⟩ := rps1 r2
    exact ⟨_, _, rfl, r1, r3⟩
theorem real_len {K : KTb} : Real1 K (fun xs H Q => ∃ x n, xs = [x] ∧ LenV K.K x H n ∧ Q (.int n) H) rdLen := fun F H M xs ds Qd Q c r ⟨d, n, e1, h, q⟩ k => by
  subst e1
  obtain ⟨v, rfl, rv⟩ := rps1 r
  refine ⟨v, n, rfl, ?_, k F H _ _ M (Same.refl _) c (.int _) q⟩
  have lst : (sqD M d).map List.length = some n → LenV K.K v H n := fun h => by
    cases e : sqD M d with
    | none => rw [e] at h; cases h
    | some ys =>
      rw [e] at h
      cases h
      obtain ⟨a, vs, rfl, h1, r1⟩ := sq_of c rv e
      exact .inl ⟨vs, h1, r1.length.symm⟩
  cases d with
  | tup xs =>
    obtain ⟨a, vs, rfl, h1, r1⟩ := tp_of c rv
    cases h
    exact .inr ⟨vs, h1, r1.length.symm⟩
  | str y =>
    have h : (if y.length ≤ sizeLine then some y.length else none) = some n := h
    cases rv
    split at h
    · rename_i hz
      cases h
      exact ⟨hz, rfl⟩
    · cases h
  | lst ys => exact lst h
  | ref p => exact lst h
  | _ => exact lst h
def rdInt2 (g : Int → Int → Int) : D1s := fun ds M Q => ∃ i j, ds = [.int i, .int j] ∧ Q (.int (g i j)) M
theorem real_int2 {K : KTb} {g : Int → Int → Int} : Real1 K (fun xs H Q => ∃ i j, xs = [.int i, .int j] ∧ Q (.int (g i j)) H) (rdInt2 g) := fun F H M xs ds Qd Q c r ⟨i, j, e1, q⟩ k => by
  subst e1
  obtain ⟨v, w, rfl, rv, rw⟩ := rps2 r
  cases rv
  cases rw
  exact ⟨i, j, rfl, k F H _ _ M (Same.refl _) c (.int _) q⟩
def rdAbs : D1s := fun ds M Q => ∃ i, ds = [.int i] ∧ Q (.int (if i < 0 then -i else i)) M
theorem real_abs {K : KTb} : Real1 K (fun xs H Q => ∃ i, xs = [.int i] ∧ Q (.int (if i < 0 then -i else i)) H) rdAbs := fun F H M xs ds Qd Q c r ⟨i, e1, q⟩ k => by
  subst e1
  obtain ⟨v, rfl, rv⟩ := rps1 r
  cases rv
  exact ⟨i, rfl, k F H _ _ M (Same.refl _) c (.int _) q⟩
def rdMin : D1s := fun ds M Q => ∃ (d : D) (ns : List Int), ds = [d] ∧ sqD M d = some (ns.map D.int) ∧ 0 < ns.length ∧ ∀ m, m ∈ ns → (∀ y, y ∈ ns → m ≤ y) → Q (.int m) M
theorem real_min {K : KTb} : Real1 K (rMin K.K) rdMin := fun F H M xs ds Qd Q c r ⟨d, ns, e1, h, hl, q⟩ k => by
  subst e1
  obtain ⟨v, rfl, rv⟩ := rps1 r
  obtain ⟨a, vs, rfl, h1, r1⟩ := sq_of c rv h
  rw [r1.ints] at h1
  exact ⟨a, ns, rfl, h1, hl, fun m hm hy => k F H _ _ M (Same.refl _) c (.int _) (q m hm hy)⟩
def rdAny : D1s := fun ds M Q => ∃ (d : D) (bs : List Bool), ds = [d] ∧ sqD M d = some (bs.map D.bl) ∧ Q (.bl (bs.any id)) M
theorem real_any {K : KTb} : Real1 K (rAny K.K) rdAny := fun F H M xs ds Qd Q c r ⟨d, bs, e1, h, q⟩ k => by
  subst e1
  obtain ⟨v, rfl, rv⟩ := rps1 r
  obtain ⟨a, vs, rfl, h1, r1⟩ := sq_of c rv h
  rw [r1.bls] at h1
  exact ⟨a, bs, rfl, h1, k F H _ _ M (Same.refl _) c (.bl _) q⟩
def rdAll : D1s := fun ds M Q => ∃ (d : D) (bs : List Bool), ds = [d] ∧ sqD M d = some (bs.map D.bl) ∧ Q (.bl (bs.all id)) M
theorem real_all {K : KTb} : Real1 K (rAll K.K) rdAll := fun F H M xs ds Qd Q c r ⟨d, bs, e1, h, q⟩ k => by
  subst e1
  obtain ⟨v, rfl, rv⟩ := rps1 r
  obtain ⟨a, vs, rfl, h1, r1⟩ := sq_of c rv h
  rw [r1.bls] at h1
  exact ⟨a, bs, rfl, h1, k F H _ _ M (Same.refl _) c (.bl _) q⟩
end
end DL
namespace DL
open PySem L2 PyProof.Rows
structure DIt where
  seq : List D
  ok : Mp → Prop
def RealIt (K : KTb) (F0 : Hp) (J : It) (it : DIt) : Prop := it.seq.length ≤ sizeLine ∧ ∀ (F H : Hp) (M : Mp) (i : Nat), Same F0 F → Cc K M F H → it.ok M →
  (∀ d, it.seq[i]? = some d → J.go i H ∧ ∀ x H', J.yld i H x H' → ∃ F', Same F F' ∧ Cc K M F' H' ∧ Rp K F' x d) ∧ (it.seq.length ≤ i → J.stop i H)
abbrev DTI := DG → Mp → (DIt → Mp → Prop) → DXE → Prop
def upI (K : KTb) (W : WX) (t : DTI) : TI := fun σ H R => ∃ (Γ : DG) (M : Mp) (F : Hp) (E : DXE) (Rd : DIt → Mp → Prop), At K W σ H Γ M F E ∧ t Γ M Rd E ∧
  ∀ (F' H' : Hp) (J : It) (it : DIt) (M' : Mp), Same F F' → Cc K M' F' H' → RealIt K F' J it → Rd it M' → R J H'
structure DI (X : Cx) (W : WT) (tg e : Expr) (t : DTI) : Prop where
  pi : PI X tg e (upI (kt X W) W.w t)
theorem piW {X : Cx} {tg e : Expr} {t t' : TI} (p : PI X tg e t) (h : ∀ σ H R, t' σ H R → t σ H R) : PI X tg e t' := ⟨fun pins s σ H Q I q => p.run pins s σ H Q I (h σ H Q q)⟩
/-- a list, a tuple, a text -/
def iAll (K : PySem.W.Frag) (tl : TE) : TI := fun σ H R => tl σ H fun x H1 => (∃ a xs, x = .ref a ∧ SqL K H1 a xs ∧ (xs.length ≤ sizeLine → R (Itl K a) H1)) ∨ (∃ a xs, x = .ref a ∧ SqT K H1 a xs ∧ (xs.length ≤ sizeLine → R (Itt K a) H1)) ∨ (∃ x', x = .str x' ∧ R (Its x') H1)
theorem pi_all {X : Cx} {tg l : Expr} {tl : TE} (hl : PE X l tl) : PI X tg l (iAll X.K tl) := by
  refine ⟨fun pins s σ H R I h => ?_⟩
  refine thn (hl.run pins s σ H _ I h) fun v s1 ⟨x, H1, I1, r1, q1⟩ => ?_
  rcases q1 with ⟨a, xs, e, hq, q⟩ | ⟨a, xs, e, hq, q⟩ | ⟨x', ex, q⟩
  · subst e
    cases r1
    obtain ⟨its, rv, p, hz⟩ := I1.list hq
    refine wpAny_pyIter_list p.isList ?_
    refine ⟨s1.heap.objs.size, [s1.heap.objs.size], _, _, H1, rfl, I1.kept (t' := s1.toks) fun b o e => Heap.get?_push_of_some _ e, turn_list a _, ⟨_, Heap.get?_push_size _ rfl, rfl, rfl⟩, fun b hb => ?_, q hz⟩
    have e : b = s1.heap.objs.size := by simpa using hb
    subst e
    exact I1.fpOk (Nat.le_refl _) (I1.hok.fresh (Nat.le_refl _))
  · subst e
    cases r1
    obtain ⟨its, rv, p, hz⟩ := I1.tuple hq
    refine wpAny_pyIter_tuple (show s1.heap.IsTuple a its.toArray from p) ?_
    refine ⟨s1.heap.objs.size, [s1.heap.objs.size], _, _, H1, rfl, I1.kept (t' := s1.toks) fun b o e => Heap.get?_push_of_some _ e, turn_tuple a _, ⟨_, Heap.get?_push_size _ rfl, rfl, rfl⟩, fun b hb => ?_, q hz⟩
    have e : b = s1.heap.objs.size := by simpa using hb
    subst e
    exact I1.fpOk (Nat.le_refl _) (I1.hok.fresh (Nat.le_refl _))
  · subst ex
    obtain ⟨t, rfl⟩ := r1
    cases ha : x'.cps.all (· < 128)
    · exact wpAny_pyIter_wide ha (pi_one (tk := s1.toks) I1 _ (turn_str _ x' t "str_iterator" (.inr rfl)) ⟨_, Heap.get?_push_size _ rfl, rfl, rfl⟩ q)
    · exact wpAny_pyIter_ascii ha (pi_one (tk := s1.toks) I1 _ (turn_str _ x' t "str_ascii_iterator" (.inl rfl)) ⟨_, Heap.get?_push_size _ rfl, rfl, rfl⟩ q)
/-- what is walked, by its value -/
def itD (M : Mp) (d : D) : Option (List D) := match d with
  | .tup xs => some xs
  | .str z => if z.length ≤ sizeLine then some (z.cps.toList.map fun c => .str ⟨#[c]⟩) else none
  | d => sqD M d
def dISeq (t : DTE) : DTI := fun Γ M R E => t Γ M (fun d M1 => ∃ xs, itD M1 d = some xs ∧ R ⟨xs, fun M2 => itD M2 d = some xs⟩ M1) E
section
variable {X : Cx} {W : WT} {e a b tg : Expr} {es : List Expr}
theorem di_seq {t : DTE} (h : DE X W e t) : DI X W tg e (dISeq t) := ⟨piW (pi_all h.pe) fun σ H R ⟨Γ, M, F, E, Rd, a, q, k⟩ => ⟨Γ, M, F, E, _, a, q, fun F1 H1 v d M1 s1 c1 r1 ⟨xs, e1, q1⟩ => by
  have lst : sqD M1 d = some xs → (∀ M2, itD M2 d = sqD M2 d) → (∃ a xs, v = .ref a ∧ SqL X.K H1 a xs ∧ (xs.length ≤ sizeLine → R (Itl X.K a) H1)) := fun h0 hM => by
    obtain ⟨p, vs, rfl, h1, r2⟩ := sq_of c1 r1 h0
    refine ⟨p, vs, rfl, h1, fun hz => k F1 H1 _ _ M1 s1 c1 ⟨by rw [← r2.length]; exact hz, fun F2 H2 M2 i s2 c2 ok => ?_⟩ q1⟩
    have ok : itD M2 d = some xs := ok
    rw [hM] at ok
    obtain ⟨p2, vs2, e2, h2, r3⟩ := sq_of c2 (r1.mono s2) ok
    cases e2
    refine ⟨fun d' hd => ?_, fun hl => ⟨vs2, h2, by rw [r3.length]; exact hl⟩⟩
    obtain ⟨v', e3, r4⟩ := r3.get hd
    refine ⟨⟨vs2, v', h2, e3⟩, fun x H' y => ?_⟩
    obtain ⟨eH, y⟩ := y
    have e5 := y vs2 h2
    rw [e3] at e5
    cases e5
    exact ⟨F2, Same.refl _, by rw [eH]; exact c2, r4⟩
  cases d with
  | lst ys => exact .inl (lst e1 fun _ => rfl)
  | ref p => exact .inl (lst e1 fun _ => rfl)
  | scr p => exact .inl (lst e1 fun _ => rfl)
  | tup ys =>
    cases e1
    obtain ⟨p, vs, rfl, h1, r2⟩ := tp_of c1 r1
    refine .inr (.inl ⟨p, vs, rfl, h1, fun hz => k F1 H1 _ _ M1 s1 c1 ⟨by rw [← r2.length]; exact hz, fun F2 H2 M2 i s2 c2 ok => ?_⟩ q1⟩)
    obtain ⟨p2, vs2, e2, h2, r3⟩ := tp_of c2 (r1.mono s2)
    cases e2
    refine ⟨fun d' hd => ?_, fun hl => ⟨vs2, h2, by rw [r3.length]; exact hl⟩⟩
    obtain ⟨v', e3, r4⟩ := r3.get hd
    refine ⟨⟨vs2, v', h2, e3⟩, fun x H' y => ?_⟩
    obtain ⟨eH, y⟩ := y
    have e5 := y vs2 h2
    rw [e3] at e5
    cases e5
    exact ⟨F2, Same.refl _, by rw [eH]; exact c2, r4⟩
  | str z =>
    have e1' : (if z.length ≤ sizeLine then some (z.cps.toList.map fun c => D.str ⟨#[c]⟩) else none) = some xs := e1
    split at e1'
    · rename_i hz
      cases e1'
      cases r1
      refine .inr (.inr ⟨z, rfl, k F1 H1 _ _ M1 s1 c1 ⟨by simpa [Str.length] using hz, fun F2 H2 M2 i s2 c2 ok => ⟨fun d' hd => ?_, fun hl => ?_⟩⟩ q1⟩)
      · simp only [List.getElem?_map, Option.map_eq_some_iff] at hd
        obtain ⟨ch, h1, h2⟩ := hd
        subst h2
        have hi : z.cps[i]? = some ch := by rw [← Array.getElem?_toList]; exact h1
        refine ⟨?_, fun x H' y => ?_⟩
        · obtain ⟨hi2, _⟩ := Array.getElem?_eq_some_iff.mp hi
          exact hi2
        · obtain ⟨eH, c', h3, e4⟩ := y
          rw [hi] at h3
          cases h3
          subst e4
          exact ⟨F2, Same.refl _, by rw [eH]; exact c2, .str _⟩
      · show z.cps.size ≤ i
        simpa using hl
    · cases e1'
  | _ => cases e1⟩⟩
def rngD (lo c : Int) (n : Nat) : List D := (List.range n).map fun k => D.int (lo + (k : Nat) * c)
theorem real_rng {K : KTb} {F0 : Hp} {lo : Int} {n : Nat} (h : n ≤ sizeLine) : RealIt K F0 (Itr lo n) ⟨rngD lo 1 n, fun _ => True⟩ := by
  refine ⟨by simpa [rngD] using h, fun F H M i s c _ => ⟨fun d hd => ?_, fun hl => ?_⟩⟩
  · simp only [rngD, List.getElem?_map, Option.map_eq_some_iff] at hd
    obtain ⟨j, h1, rfl⟩ := hd
    obtain ⟨h2, h3⟩ := List.getElem?_eq_some_iff.mp h1
    simp at h2 h3
    subst h3
    refine ⟨h2, fun x H' y => ?_⟩
    obtain ⟨eH, ex⟩ := y
    subst ex
    rw [Int.mul_one]
    exact ⟨F, Same.refl _, by rw [eH]; exact c, .int _⟩
  · simp only [rngD, List.length_map, List.length_range] at hl
    exact hl
def small (i : Int) : Prop := -10000000 ≤ i ∧ i ≤ 10000000
def dIRng1 (t : DTA) : DTI := fun Γ M R E => t Γ M (fun ds M1 => ∃ j : Int, ds = [.int j] ∧ small j ∧ R ⟨rngD 0 1 j.toNat, fun _ => True⟩ M1) E
theorem rps1' {K : KTb} {F : Hp} {vs : List V} {i : Int} (r : Rps K F vs [.int i]) : vs = [.int i] := by
  obtain ⟨v, rfl, rv⟩ := rps1 r
  cases rv
  rfl
theorem rps2' {K : KTb} {F : Hp} {vs : List V} {i j : Int} (r : Rps K F vs [.int i, .int j]) : vs = [.int i, .int j] := by
  obtain ⟨v, w, rfl, ra, rb⟩ := rps2 r
  cases ra
  cases rb
  rfl
theorem szl : (sizeLine : Nat) = 16777216 := sizeLine_eq
theorem di_rng1 {t : DTA} {p pos : Pos} (hg : Gl X "range") (hm : X.mg "range" = none) (ha : DA X W [a] t) (hs : starEach [a] X.env = [(false, eval a X.env)] := by rfl) : DI X W tg (.Call (.Name "range" p) [a] [] pos) (dIRng1 t) :=
  ⟨piW (pi_range1 hg hm ha.pa hs) fun σ H R ⟨Γ, M, F, E, Rd, a, q, k⟩ => ⟨Γ, M, F, E, _, a, q, fun F1 H1 vs ds M1 s1 c1 r1 ⟨j, e1, h1, q1⟩ => by
    subst e1
    obtain ⟨h1, h2⟩ := h1
    exact ⟨j, rps1' r1, by omega, by omega, k F1 H1 _ _ M1 s1 c1 (real_rng (by rw [szl]; omega)) q1⟩⟩⟩
def dIRng2 (t : DTA) : DTI := fun Γ M R E => t Γ M (fun ds M1 => ∃ i j : Int, ds = [.int i, .int j] ∧ small i ∧ small j ∧ (j - i) ≤ 10000000 ∧ R ⟨rngD i 1 (j - i).toNat, fun _ => True⟩ M1) E
theorem di_rng2 {t : DTA} {p pos : Pos} (hg : Gl X "range") (hm : X.mg "range" = none) (ha : DA X W [a, b] t) (hs : starEach [a, b] X.env = [(false, eval a X.env), (false, eval b X.env)] := by rfl) (hs2 : starEach [b] X.env = [(false, eval b X.env)] := by rfl) : DI X W tg (.Call (.Name "range" p) [a, b] [] pos) (dIRng2 t) :=
  ⟨piW (pi_range2 hg hm ha.pa hs hs2) fun σ H R ⟨Γ, M, F, E, Rd, a, q, k⟩ => ⟨Γ, M, F, E, _, a, q, fun F1 H1 vs ds M1 s1 c1 r1 ⟨i, j, e1, h1, h2, h3, q1⟩ => by
    subst e1
    obtain ⟨h1, h1'⟩ := h1
    obtain ⟨h2, h2'⟩ := h2
    exact ⟨i, j, rps2' r1, by omega, k F1 H1 _ _ M1 s1 c1 (real_rng (by rw [szl]; omega)) q1⟩⟩⟩
def enD (xs : List D) : List D := xs.zipIdx.map fun p => .tup [.int (p.2 : Nat), p.1]
def dIEn (t : DTA) : DTI := fun Γ M R E => t Γ M (fun ds M1 => ∃ d xs, ds = [d] ∧ sqD M1 d = some xs ∧ xs.length ≤ sizeLine ∧ R ⟨enD xs, fun M2 => sqD M2 d = some xs⟩ M1) E
theorem di_enum {elts : List Expr} {kk : Nat} {tpos p pos : Pos} {t : DTA} (hg : Gl X "enumerate") (hm : X.mg "enumerate" = none) (ha : DA X W [e] t) (hs : starEach [e] X.env = [(false, eval e X.env)] := by rfl) :
    DI X W (.Tuple elts kk tpos) (.Call (.Name "enumerate" p) [e] [] pos) (dIEn t) :=
  ⟨piW (pi_enum hg hm ha.pa hs) fun σ H R ⟨Γ, M, F, E, Rd, a, q, k⟩ => ⟨Γ, M, F, E, _, a, q, fun F1 H1 vs ds M1 s1 c1 r1 ⟨d, xs, e1, h1, hz, q1⟩ => by
    subst e1
    obtain ⟨v, rfl, rv⟩ := rps1 r1
    obtain ⟨p, vs, rfl, h2, r2⟩ := sq_of c1 rv h1
    refine ⟨p, vs, rfl, h2, k F1 H1 _ _ M1 s1 c1 ⟨by simpa [enD] using hz, fun F2 H2 M2 i s2 c2 ok => ?_⟩ q1⟩
    obtain ⟨p2, vs2, e2, h3, r3⟩ := sq_of c2 (rv.mono s2) ok
    cases e2
    refine ⟨fun d' hd => ?_, fun hl => ⟨vs2, h3, by rw [r3.length]; simpa [enD] using hl⟩⟩
    simp only [enD, List.getElem?_map, Option.map_eq_some_iff, List.getElem?_zipIdx] at hd
    obtain ⟨⟨y, j⟩, ⟨y', g1, g2⟩, g3⟩ := hd
    cases g2
    subst g3
    simp only [Nat.zero_add]
    obtain ⟨v', e3, r4⟩ := r3.get g1
    refine ⟨⟨vs2, v', h3, e3⟩, fun x H' y => ?_⟩
    obtain ⟨T, x', e4, e5, e6, e7⟩ := y
    have e8 := e7 vs2 h3
    rw [e3] at e8
    cases e8
    subst e4
    rw [e6]
    have s := Same.upd (o := .tup [.int (i : Nat), v']) (c2.Fnone e5)
    exact ⟨_, s, c2.newF e5, .tup (.inl upd_same) (.cons (.int _) (.cons (r4.mono s) .nil))⟩⟩⟩
def zipD (xs ys : List D) : List D := List.zipWith (fun a b => .tup [a, b]) xs ys
/-- of two lists, of two tuples -/
def zpD (M : Mp) (d e : D) : Option (List D × List D) := match d, e with
  | .tup xs, .tup ys => some (xs, ys)
  | d, e => (sqD M d).bind fun xs => (sqD M e).map fun ys => (xs, ys)
def dIZip (t : DTA) : DTI := fun Γ M R E => t Γ M (fun ds M1 => ∃ d e xs ys, ds = [d, e] ∧ zpD M1 d e = some (xs, ys) ∧ xs.length ≤ sizeLine ∧ R ⟨zipD xs ys, fun M2 => zpD M2 d e = some (xs, ys)⟩ M1) E
theorem zpD_tup {M : Mp} {xs ys : List D} : zpD M (.tup xs) (.tup ys) = some (xs, ys) := rfl
theorem zpD_cases {M : Mp} {d e : D} {xs ys : List D} (h : zpD M d e = some (xs, ys)) : (d = .tup xs ∧ e = .tup ys) ∨ (sqD M d = some xs ∧ sqD M e = some ys) := by
  unfold zpD at h
  split at h
  · cases h
    exact .inl ⟨rfl, rfl⟩
  · cases h1 : sqD M d with
    | none => rw [h1] at h; cases h
    | some as =>
      cases h2 : sqD M e with
      | none => rw [h1, h2] at h; cases h
      | some bs =>
        rw [h1, h2] at h
        cases h
        exact .inr ⟨rfl, rfl⟩
theorem zip_turn {K : KTb} {F H H' : Hp} {M : Mp} {x y : V} {d e : D} {T : Addr} (c : Cc K M F H) (h : H T = none) (eH : H' = upd H T (.tup [x, y])) (r1 : Rp K F x d) (r2 : Rp K F y e) : ∃ F', Same F F' ∧ Cc K M F' H' ∧ Rp K F' (.ref T) (.tup [d, e]) := by
  have s := Same.upd (o := .tup [x, y]) (c.Fnone h)
  rw [eH]
  exact ⟨_, s, c.newF h, .tup (.inl upd_same) (.cons (r1.mono s) (.cons (r2.mono s) .nil))⟩
theorem di_zip {elts : List Expr} {kk : Nat} {tpos p pos : Pos} {t : DTA} (hg : Gl X "zip") (hm : X.mg "zip" = none) (ha : DA X W [a, b] t)
    (hs : starEach [a, b] X.env = (false, eval a X.env) :: starEach [b] X.env := by rfl) (hpl : (backTo pos (starEach [b] X.env)).any (·.1) = false := by rfl) : DI X W (.Tuple elts kk tpos) (.Call (.Name "zip" p) [a, b] [] pos) (dIZip t) :=
  ⟨piW (RZ.pi_zipA hg hm ha.pa hs hpl) fun σ H R ⟨Γ, M, F, E, Rd, a, q, k⟩ => ⟨Γ, M, F, E, _, a, q, fun F1 H1 vs ds M1 s1 c1 r1 ⟨d, e, xs, ys, e1, h1, hz, q1⟩ => by
    subst e1
    obtain ⟨v, w, rfl, rv, rw⟩ := rps2 r1
    have len : (zipD xs ys).length ≤ sizeLine := by
      simp only [zipD, List.length_zipWith]
      omega
    have item : ∀ {i : Nat} {d' : D}, (zipD xs ys)[i]? = some d' → ∃ x y, xs[i]? = some x ∧ ys[i]? = some y ∧ d' = .tup [x, y] := fun {i d'} h => by
      simp only [zipD, List.getElem?_zipWith] at h
      cases hx : xs[i]? with
      | none => rw [hx] at h; simp at h
      | some x =>
        cases hy : ys[i]? with
        | none => rw [hx, hy] at h; simp at h
        | some y =>
          rw [hx, hy] at h
          simp at h
          exact ⟨x, y, rfl, rfl, h.symm⟩
    rcases zpD_cases h1 with ⟨rfl, rfl⟩ | ⟨g1, g2⟩
    · obtain ⟨p, us, rfl, h2, r2⟩ := tp_of c1 rv
      obtain ⟨p', us', rfl, h2', r2'⟩ := tp_of c1 rw
      refine ⟨p, p', us, us', rfl, .inr ⟨h2, h2', k F1 H1 _ _ M1 s1 c1 ⟨len, fun F2 H2 M2 i s2 c2 ok => ?_⟩ q1⟩⟩
      obtain ⟨p2, vs2, e2, h3, r3⟩ := tp_of c2 (rv.mono s2)
      cases e2
      obtain ⟨p2', vs2', e2', h3', r3'⟩ := tp_of c2 (rw.mono s2)
      cases e2'
      refine ⟨fun d' hd => ?_, fun hl => ⟨vs2, vs2', h3, h3', ?_⟩⟩
      · obtain ⟨x, y, hx, hy, rfl⟩ := item hd
        obtain ⟨vx, ex, rx⟩ := r3.get hx
        obtain ⟨vy, ey, ry⟩ := r3'.get hy
        refine ⟨⟨vs2, vs2', vx, vy, h3, h3', ex, ey⟩, fun u H' y' => ?_⟩
        obtain ⟨T, a1, a2, e4, e5, e6, e7, e8⟩ := y'
        have e9 := e7 vs2 h3
        rw [ex] at e9
        cases e9
        have e10 := e8 vs2' h3'
        rw [ey] at e10
        cases e10
        subst e4
        exact zip_turn c2 e5 e6 rx ry
      · simp only [zipD, List.length_zipWith] at hl
        rw [r3.length, r3'.length]
        omega
    · obtain ⟨p, us, rfl, h2, r2⟩ := sq_of c1 rv g1
      obtain ⟨p', us', rfl, h2', r2'⟩ := sq_of c1 rw g2
      refine ⟨p, p', us, us', rfl, .inl ⟨h2, h2', k F1 H1 _ _ M1 s1 c1 ⟨len, fun F2 H2 M2 i s2 c2 ok => ?_⟩ q1⟩⟩
      have ok : zpD M2 d e = some (xs, ys) := ok
      have g : sqD M2 d = some xs ∧ sqD M2 e = some ys := by
        rcases zpD_cases ok with ⟨rfl, rfl⟩ | g
        · simp [sqD] at g1
        · exact g
      obtain ⟨p2, vs2, e2, h3, r3⟩ := sq_of c2 (rv.mono s2) g.1
      cases e2
      obtain ⟨p2', vs2', e2', h3', r3'⟩ := sq_of c2 (rw.mono s2) g.2
      cases e2'
      refine ⟨fun d' hd => ?_, fun hl => ⟨vs2, vs2', h3, h3', ?_⟩⟩
      · obtain ⟨x, y, hx, hy, rfl⟩ := item hd
        obtain ⟨vx, ex, rx⟩ := r3.get hx
        obtain ⟨vy, ey, ry⟩ := r3'.get hy
        refine ⟨⟨vs2, vs2', vx, vy, h3, h3', ex, ey⟩, fun u H' y' => ?_⟩
        obtain ⟨T, a1, a2, e4, e5, e6, e7, e8⟩ := y'
        have e9 := e7 vs2 h3
        rw [ex] at e9
        cases e9
        have e10 := e8 vs2' h3'
        rw [ey] at e10
        cases e10
        subst e4
        exact zip_turn c2 e5 e6 rx ry
      · simp only [zipD, List.length_zipWith] at hl
        rw [r3.length, r3'.length]
        omega⟩⟩
end
end DL
namespace DL
open PySem L2
def dNext : DTS := fun Dn Γ M => Dn.nx Γ M
def dSeq (t u : DTS) : DTS := fun Dn Γ M => t { Dn with nx := u Dn } Γ M
section
variable {X : Cx} {W : WT} {e a b tg : Expr} {es : List Expr} {st : Stmt} {sts rest : List Stmt} {pos : Pos}
theorem dss_nil : DSs X W [] dNext := ⟨pssW pss_nil fun E σ H ⟨Γ, M, F, Dn, a, h, k⟩ => k.nx F H σ Γ M (Same.refl _) a.c a.g h⟩
theorem upSeq {t u : DTS} {E : Ends} {σ : St} {H : Hp} (h : upS (kt X W) W.w (dSeq t u) E σ H) : tSeq (upS (kt X W) W.w t) (upS (kt X W) W.w u) E σ H := by
  obtain ⟨Γ, M, F, Dn, a, h, k⟩ := h
  exact ⟨Γ, M, F, { Dn with nx := u Dn }, a, h, ⟨fun F1 H1 σ1 Γ1 M1 s1 c1 g1 q1 => ⟨Γ1, M1, F1, Dn, ⟨c1, g1, a.w.mono s1⟩, q1, k.mono s1⟩, k.rt, k.bk, k.ct⟩⟩
theorem dss_cons {t u : DTS} (h1 : DS X W st t) (h2 : DSs X W rest u) : DSs X W (st :: rest) (dSeq t u) := ⟨pssW (pss_cons h1.ps h2.ps) fun _ _ _ h => upSeq h⟩
theorem dss_one {t : DTS} (h1 : DS X W st t) : DSs X W [st] t := ⟨pss_one h1.ps⟩
def dBreak : DTS := fun Dn Γ M => Dn.bk Γ M
def dCont : DTS := fun Dn Γ M => Dn.ct Γ M
def dDrop (te : DTE) : DTS := fun Dn Γ M => te Γ M (fun _ M1 => Dn.nx Γ M1) Dn.ex
theorem ds_expr {te : DTE} (he : DE X W e te) (hs : swapsWith e none pos.line X.env = pure false := by rfl) : DS X W (.Expr e pos) (dDrop te) :=
  ⟨psW (ps_expr he.pe hs) fun E σ H ⟨Γ, M, F, Dn, a, h, k⟩ => ⟨Γ, M, F, _, _, a, h, fun F1 H1 v d M1 s1 c1 r1 q1 => k.nx F1 H1 σ Γ M1 s1 c1 (a.g.mono s1) q1⟩⟩
def dRet (te : DTE) : DTS := fun Dn Γ M => te Γ M Dn.rt Dn.ex
theorem ds_ret {te : DTE} (he : DE X W e te) : DS X W (.Return (some e) pos) (dRet te) :=
  ⟨psW (ps_ret he.pe) fun E σ H ⟨Γ, M, F, Dn, a, h, k⟩ => ⟨Γ, M, F, _, _, a, h, k.rt⟩⟩
def dRetN : DTS := fun Dn _ M => Dn.rt .non M
theorem ds_retN : DS X W (.Return none pos) dRetN := ⟨psW ps_retN fun E σ H ⟨Γ, M, F, Dn, a, h, k⟩ => k.rt F H _ _ M (Same.refl _) a.c .non h⟩
def dIfS (c : DTT) (t u : DTS) : DTS := fun Dn Γ M => c Γ M (fun b M1 => if b = true then t Dn Γ M1 else u Dn Γ M1) Dn.ex
theorem ds_if {c : Expr} {p q : List Stmt} {tc : DTT} {t u : DTS} (hc : DT X W c tc) (ha : DSs X W p t) (hb : DSs X W q u) : DS X W (.If c p q pos) (dIfS tc t u) :=
  ⟨psW (ps_if hc.pt ha.ps hb.ps) fun E σ H ⟨Γ, M, F, Dn, a, h, k⟩ => ⟨Γ, M, F, _, _, a, h, fun F1 H1 b M1 s1 c1 q1 => by
    cases b with
    | true =>
      rw [if_pos rfl] at q1 ⊢
      exact ⟨Γ, M1, F1, Dn, a.next s1 c1, q1, k.mono s1⟩
    | false =>
      rw [if_neg Bool.false_ne_true] at q1 ⊢
      exact ⟨Γ, M1, F1, Dn, a.next s1 c1, q1, k.mono s1⟩⟩⟩
theorem dss_never : DSs X W sts (fun _ _ _ => False) := ⟨pssW pss_never fun E σ H ⟨Γ, M, F, Dn, a, h, k⟩ => h⟩
theorem dw_and1 {tA : DTT} (ha : DT X W a tA) : DW X W (.BoolOp .And [a] pos) tA := ⟨pw_and1 ha.pt⟩
theorem dw_or1 {tA : DTT} (ha : DT X W a tA) : DW X W (.BoolOp .Or [a] pos) tA := ⟨pw_or1 ha.pt⟩
theorem dw_and {rest : List Expr} {tA tB : DTT} (ha : DT X W a tA) (hb : DW X W (.BoolOp .And (b :: rest) pos) tB) : DW X W (.BoolOp .And (a :: b :: rest) pos) (dAnd tA tB) := ⟨pwW (pw_and ha.pt hb.pw) fun _ _ _ h => upAnd h⟩
theorem dw_or {rest : List Expr} {tA tB : DTT} (ha : DT X W a tA) (hb : DW X W (.BoolOp .Or (b :: rest) pos) tB) : DW X W (.BoolOp .Or (a :: b :: rest) pos) (dOr tA tB) := ⟨pwW (pw_or ha.pt hb.pw) fun _ _ _ h => upOr h⟩
theorem dw_pt {tA : DTT} (ha : DW X W e tA) : DT X W e tA := ⟨ha.pw.pt⟩
theorem dt_not {tA : DTT} (ha : DT X W a tA) : DT X W (.UnaryOp .Not a pos) (dNot tA) := ⟨ptW (pt_not ha.pt) fun _ _ _ h => upNot h⟩
/-- as values -/
def dAndV (ta tb : DTE) : DTE := fun Γ M Q E => ta Γ M (fun x M1 => ∃ c, x = .bl c ∧ if c = true then tb Γ M1 Q E else Q (.bl false) M1) E
def dOrV (ta tb : DTE) : DTE := fun Γ M Q E => ta Γ M (fun x M1 => ∃ c, x = .bl c ∧ if c = true then Q (.bl true) M1 else tb Γ M1 Q E) E
def dNotV (ta : DTE) : DTE := fun Γ M Q E => ta Γ M (fun x M1 => ∃ c, x = .bl c ∧ Q (.bl (!c)) M1) E
theorem de_one {op} {t : DTE} (h : DE X W a t) : DE X W (.BoolOp op [a] pos) t := ⟨pe_one h.pe⟩
theorem de_and {rest : List Expr} {ta tb : DTE} (ha : DE X W a ta) (hb : DE X W (.BoolOp .And (b :: rest) pos) tb) : DE X W (.BoolOp .And (a :: b :: rest) pos) (dAndV ta tb) :=
  ⟨peW (pe_and ha.pe hb.pe) fun σ H Q ⟨Γ, M, F, E, Qd, a, q, k⟩ => ⟨Γ, M, F, E, _, a, q, fun F1 H1 v d M1 s1 c1 r1 ⟨c, e1, q1⟩ => by
    subst e1
    cases r1
    refine ⟨c, rfl, ?_⟩
    cases c with
    | true =>
      rw [if_pos rfl] at q1 ⊢
      exact ⟨Γ, M1, F1, E, Qd, a.next s1 c1, q1, k.mono s1⟩
    | false =>
      rw [if_neg Bool.false_ne_true] at q1 ⊢
      exact k F1 H1 _ _ M1 s1 c1 (.bl false) q1⟩⟩
theorem de_or {rest : List Expr} {ta tb : DTE} (ha : DE X W a ta) (hb : DE X W (.BoolOp .Or (b :: rest) pos) tb) : DE X W (.BoolOp .Or (a :: b :: rest) pos) (dOrV ta tb) :=
  ⟨peW (pe_or ha.pe hb.pe) fun σ H Q ⟨Γ, M, F, E, Qd, a, q, k⟩ => ⟨Γ, M, F, E, _, a, q, fun F1 H1 v d M1 s1 c1 r1 ⟨c, e1, q1⟩ => by
    subst e1
    cases r1
    refine ⟨c, rfl, ?_⟩
    cases c with
    | true =>
      rw [if_pos rfl] at q1 ⊢
      exact k F1 H1 _ _ M1 s1 c1 (.bl true) q1
    | false =>
      rw [if_neg Bool.false_ne_true] at q1 ⊢
      exact ⟨Γ, M1, F1, E, Qd, a.next s1 c1, q1, k.mono s1⟩⟩⟩
def dIf (t : DTT) (ta tb : DTE) : DTE := fun Γ M Q E => t Γ M (fun c M1 => if c = true then ta Γ M1 Q E else tb Γ M1 Q E) E
theorem de_if {c : Expr} {tA : DTT} {ta tb : DTE} (hc : DT X W c tA) (ha : DE X W a ta) (hb : DE X W b tb) : DE X W (.IfExp c a b pos) (dIf tA ta tb) :=
  ⟨peW (pe_ifExp hc.pt ha.pe hb.pe) fun σ H Q ⟨Γ, M, F, E, Qd, a, q, k⟩ => ⟨Γ, M, F, E, _, a, q, fun F1 H1 c M1 s1 c1 q1 => by
    cases c with
    | true =>
      rw [if_pos rfl] at q1 ⊢
      exact ⟨Γ, M1, F1, E, Qd, a.next s1 c1, q1, k.mono s1⟩
    | false =>
      rw [if_neg Bool.false_ne_true] at q1 ⊢
      exact ⟨Γ, M1, F1, E, Qd, a.next s1 c1, q1, k.mono s1⟩⟩⟩
/-- -a -/
def dUn (g : Int → Int) (ta : DTE) : DTE := fun Γ M Q E => ta Γ M (fun x M1 => ∃ i, x = .int i ∧ Q (.int (g i)) M1) E
theorem de_neg {ta : DTE} (ha : DE X W a ta) : DE X W (.UnaryOp .USub a pos) (dUn (fun i => -i) ta) :=
  ⟨peW (pe_un un_neg ha.pe) fun σ H Q ⟨Γ, M, F, E, Qd, a, q, k⟩ => ⟨Γ, M, F, E, _, a, q, fun F1 H1 v d M1 s1 c1 r1 ⟨i, e1, q1⟩ => by
    subst e1
    cases r1
    exact ⟨i, rfl, k F1 H1 _ _ M1 s1 c1 (.int _) q1⟩⟩⟩
abbrev DTG := D → DG → Mp → (DG → Mp → Prop) → Prop
abbrev DTGs := List D → DG → Mp → (DG → Mp → Prop) → Prop
/-- the slots beside vs stay (a comprehension's own names) -/
def upG (K : KTb) (vs : Option (List Nat)) (t : DTG) : TG := fun v σ H Q => ∃ (d : D) (Γ : DG) (M : Mp) (F : Hp) (Qd : DG → Mp → Prop), Cc K M F H ∧ RpG K F σ Γ ∧ Rp K F v d ∧ t d Γ M Qd ∧
  ∀ (F' H' : Hp) (σ' : St) (Γ' : DG) (M' : Mp), Same F F' → Cc K M' F' H' → RpG K F' σ' Γ' → (∀ l, vs = some l → wipe σ' l = wipe σ l) → Qd Γ' M' → Q σ' H'
def upGs (K : KTb) (vs : Option (List Nat)) (t : DTGs) : TGs := fun v σ H Q => ∃ (d : List D) (Γ : DG) (M : Mp) (F : Hp) (Qd : DG → Mp → Prop), Cc K M F H ∧ RpG K F σ Γ ∧ Rps K F v d ∧ t d Γ M Qd ∧
  ∀ (F' H' : Hp) (σ' : St) (Γ' : DG) (M' : Mp), Same F F' → Cc K M' F' H' → RpG K F' σ' Γ' → (∀ l, vs = some l → wipe σ' l = wipe σ l) → Qd Γ' M' → Q σ' H'
structure DGt (X : Cx) (T : List (Addr × Str)) (vs : Option (List Nat)) (tg : Expr) (t : DTG) : Prop where
  pg : PG X tg (upG ⟨X.K, T⟩ vs t)
structure DGts (X : Cx) (T : List (Addr × Str)) (vs : Option (List Nat)) (tg : List Expr) (t : DTGs) : Prop where
  pg : PGs X tg (upGs ⟨X.K, T⟩ vs t)
theorem pgW {t t' : TG} (p : PG X tg t) (h : ∀ v σ H Q, t' v σ H Q → t v σ H Q) : PG X tg t' := ⟨fun pins s σ H v u Q I r q => p.run pins s σ H v u Q I r (h v σ H Q q)⟩
theorem pgsW {t t' : TGs} (p : PGs X es t) (h : ∀ v σ H Q, t' v σ H Q → t v σ H Q) : PGs X es t' := ⟨fun pins s σ H v u Q I r q => p.run pins s σ H v u Q I r (h v σ H Q q)⟩
theorem wipe_set {i : Nat} {v : Option V} : ∀ {vs : List Nat} {σ : St}, i ∈ vs → wipe (σ.set i v) vs = wipe σ vs := by
  intro vs
  induction vs with
  | nil => intro σ h; cases h
  | cons j vs ih =>
    intro σ h
    show (wipe (σ.set i v) vs).set j none = (wipe σ vs).set j none
    by_cases hi : i ∈ vs
    · rw [ih hi]
    · have e : i = j := by
        rcases List.mem_cons.mp h with e | e
        · exact e
        · exact absurd e hi
      subst e
      have comm : ∀ (l : List Nat) (σ : St), i ∉ l → wipe (σ.set i v) l = (wipe σ l).set i v := by
        intro l
        induction l with
        | nil => intro σ _; rfl
        | cons k l ihl =>
          intro σ hk
          show (wipe (σ.set i v) l).set k none = ((wipe σ l).set k none).set i v
          rw [ihl σ fun z => hk (List.mem_cons_of_mem _ z)]
          exact List.set_comm _ _ fun z => hk (by rw [z]; exact List.mem_cons_self)
      rw [comm vs σ hi, List.set_set]
def gdName (i : Nat) : DTG := fun d Γ M Q => Q (Γ.set i (some d)) M
theorem dg_name {i : Nat} {x : Str} {T : List (Addr × Str)} {vs : Option (List Nat)} (hN : X.N.Nodup) (hi : X.N[i]? = some x) (hx : Loc X.env.scope x) (hv : ∀ l, vs = some l → i ∈ l) (hf : X.fn x = true ∨ X.env.scope.names.lookup x = some .local := by first | exact .inl rfl | exact .inr rfl | assumption) : DGt X T vs (.Name x pos) (gdName i) :=
  ⟨pgW (pg_name hN hi hx hf) fun v σ H Q ⟨d, Γ, M, F, Qd, c, g, r, q, k⟩ => k F H _ _ M (Same.refl _) c (g.set r i) (fun l e => wipe_set (hv l e)) q⟩
def gdNil : DTGs := fun ds Γ M Q => ds = [] ∧ Q Γ M
def gdCons (t : DTG) (u : DTGs) : DTGs := fun ds Γ M Q => ∃ d r, ds = d :: r ∧ t d Γ M (fun Γ1 M1 => u r Γ1 M1 Q)
theorem dgs_nil {T : List (Addr × Str)} {vs : Option (List Nat)} : DGts X T vs [] gdNil := ⟨pgsW pgs_nil fun v σ H Q ⟨d, Γ, M, F, Qd, c, g, r, ⟨e, q⟩, k⟩ => by
  subst e
  cases r
  exact ⟨rfl, k F H σ Γ M (Same.refl _) c g (fun _ _ => rfl) q⟩⟩
theorem dgs_cons {T : List (Addr × Str)} {vs : Option (List Nat)} {t : DTG} {u : DTGs} (h1 : DGt X T vs e t) (h2 : DGts X T vs es u) (hs : (assignEach (e :: es) X.env).map (·.2) = assign e X.env :: (assignEach es X.env).map (·.2) := by rfl) : DGts X T vs (e :: es) (gdCons t u) :=
  ⟨pgsW (pgs_cons h1.pg h2.pg hs) fun v σ H Q ⟨d, Γ, M, F, Qd, c, g, r, ⟨d0, dr, e1, q⟩, k⟩ => by
    subst e1
    cases r with
    | cons r1 r2 => exact ⟨_, _, rfl, d0, Γ, M, F, _, c, g, r1, q, fun F1 H1 σ1 Γ1 M1 s1 c1 g1 w1 q1 => ⟨dr, Γ1, M1, F1, Qd, c1, g1, r2.mono s1, q1, fun F2 H2 σ2 Γ2 M2 s2 c2 g2 w2 q2 =>
        k F2 H2 σ2 Γ2 M2 (s1.trans s2) c2 g2 (fun l e => (w2 l e).trans (w1 l e)) q2⟩⟩⟩
def gdTup (n : Nat) (t : DTGs) : DTG := fun d Γ M Q => ∃ ds, tpD d = some ds ∧ ds.length = n ∧ t ds Γ M Q
theorem dg_tup {k : Nat} {T : List (Addr × Str)} {vs : Option (List Nat)} {t : DTGs} {n : Nat} (hc : X.calm = true) (h : DGts X T vs es t) (hn : (assignEach es X.env).length = n := by rfl) (hst : (assignEach es X.env).findIdx? (·.1) = none := by rfl) : DGt X T vs (.Tuple es k pos) (gdTup n t) :=
  ⟨pgW (pg_tup hc h.pg hn hst) fun v σ H Q ⟨d, Γ, M, F, Qd, c, g, r, ⟨ds, e1, hl, q⟩, k⟩ => by
    rw [tpD_eq e1] at r
    obtain ⟨a, us, rfl, h1, r1⟩ := tp_of c r
    exact ⟨a, us, rfl, h1, by rw [r1.length]; exact hl, ds, Γ, M, F, Qd, c, g, r1, q, k⟩⟩
/-- target = value -/
def dAsg (te : DTE) (g : DTG) : DTS := fun Dn Γ M => te Γ M (fun d M1 => g d Γ M1 Dn.nx) Dn.ex
theorem upAsg {te : DTE} {g : DTG} {E : Ends} {σ : St} {H : Hp} (h : upS (kt X W) W.w (dAsg te g) E σ H) : tAsg (upE (kt X W) W.w te) (upG (kt X W) none g) E σ H := by
  obtain ⟨Γ, M, F, Dn, a, h, k⟩ := h
  exact ⟨Γ, M, F, _, _, a, h, fun F1 H1 v d M1 s1 c1 r1 q1 => ⟨d, Γ, M1, F1, Dn.nx, c1, a.g.mono s1, r1, q1, fun F2 H2 σ2 Γ2 M2 s2 c2 g2 _ q2 => k.nx F2 H2 σ2 Γ2 M2 (s1.trans s2) c2 g2 q2⟩⟩
theorem ds_asg {te : DTE} {g : DTG} (he : DE X W e te) (hg : DGt X W.T none tg g) (hs : swapsWithSole [tg] e pos.line X.env = pure false := by rfl) (hw : swappedStores [tg] e X.env = pure none := by rfl) (h1 : (assignEach [tg] X.env).map (·.2) = [assign tg X.env] := by rfl) : DS X W (.Assign [tg] e pos) (dAsg te g) :=
  ⟨psW (ps_asg he.pe hg.pg hs hw h1) fun _ _ _ h => upAsg h⟩
def dSet (te : DTE) (i : Nat) : DTS := fun Dn Γ M => te Γ M (fun d M1 => Dn.nx (Γ.set i (some d)) M1) Dn.ex
theorem ds_set (i : Nat) {x : Str} {te : DTE} {pos' : Pos} (hN : X.N.Nodup) (he : DE X W e te) (hi : X.N[i]? = some x := by rfl) (hx : Loc X.env.scope x := by first | exact Or.inl rfl | exact Or.inr rfl) (hs : swapsWith e (some (.Name x pos')) pos.line X.env = pure false := by rfl) (hf : X.fn x = true ∨ X.env.scope.names.lookup x = some .local := by first | exact .inl rfl | exact .inr rfl | assumption) :
    DS X W (.Assign [.Name x pos'] e pos) (dSet te i) :=
  ⟨psW (ps_set hN hi hx he.pe hs hf) fun E σ H ⟨Γ, M, F, Dn, a, h, k⟩ => ⟨Γ, M, F, _, _, a, h, fun F1 H1 v d M1 s1 c1 r1 q1 => k.nx F1 H1 _ _ M1 s1 c1 ((a.g.mono s1).set r1 i) q1⟩⟩
/-- a, b = x, y with two local names -/
def dPar (i j : Nat) (ta : DTA) : DTS := fun Dn Γ M => ta Γ M (fun ds M1 => ∃ d e, ds = [d, e] ∧ Dn.nx ((Γ.set i (some d)).set j (some e)) M1) Dn.ex
theorem ds_par {i j : Nat} {x y : Str} {ta : DTA} {px py pt : Pos} {kt k2 pt2} (hc : X.calm = true) (hN : X.N.Nodup) (hij : i ≠ j)
    (ha : DA X W [a, b] ta) (hi : X.N[i]? = some x := by rfl) (hj : X.N[j]? = some y := by rfl) (hx : X.env.scope.names.lookup x = some .local := by rfl) (hy : X.env.scope.names.lookup y = some .local := by rfl)
    (hw : swappedStores [.Tuple [.Name x px, .Name y py] kt pt] (.Tuple [a, b] k2 pt2) X.env = pure (some [x, y]) := by rfl)
    (hs : swapsWithSole [.Tuple [.Name x px, .Name y py] kt pt] (.Tuple [a, b] k2 pt2) pos.line X.env = pure false := by rfl) :
    DS X W (.Assign [.Tuple [.Name x px, .Name y py] kt pt] (.Tuple [a, b] k2 pt2) pos) (dPar i j ta) :=
  ⟨psW (ps_par hc hN hi hj hij hx hy ha.pa hw hs) fun E σ H ⟨Γ, M, F, Dn, a, h, k⟩ => ⟨Γ, M, F, _, _, a, h, fun F1 H1 vs ds M1 s1 c1 r1 ⟨d, e, e1, q1⟩ => by
    subst e1
    obtain ⟨v, w, rfl, rv, rw⟩ := rps2 r1
    exact ⟨v, w, rfl, k.nx F1 H1 _ _ M1 s1 c1 (((a.g.mono s1).set rv i).set rw j) q1⟩⟩⟩
/-- name op= value -/
def dAug (i : Nat) (te : DTE) (rd : D2) : DTS := fun Dn Γ M => ∃ x, Γ[i]? = some (some x) ∧ te Γ M (fun y M1 => rd x y M1 (fun z M2 => Dn.nx (Γ.set i (some z)) M2)) Dn.ex
theorem ds_aug {i : Nat} {x : Str} {te : DTE} {op : Operator} {ti : TIp} {rd : D2} {pos' : Pos} (hN : X.N.Nodup) (he : DE X W e te) (ho : PIp X op ti) (hr : Real2 (kt X W) ti rd) (hi : X.N[i]? = some x := by rfl) (hx : Loc X.env.scope x := by first | exact Or.inl rfl | exact Or.inr rfl) (hf : X.fn x = true ∨ X.env.scope.names.lookup x = some .local := by first | exact .inl rfl | exact .inr rfl | assumption) :
    DS X W (.AugAssign (.Name x pos') op e pos) (dAug i te rd) :=
  ⟨psW (ps_aug hN hi hx he.pe ho hf) fun E σ H ⟨Γ, M, F, Dn, a, ⟨d, e1, h⟩, k⟩ => by
    obtain ⟨v, e2, r⟩ := a.g.at_ i d e1
    exact ⟨v, e2, Γ, M, F, _, _, a, h, fun F1 H1 w e M1 s1 c1 r1 q1 => hr F1 H1 M1 v w d e _ _ c1 (r.mono s1) r1 q1 fun F2 H2 z f M2 s2 c2 r2 q2 => k.nx F2 H2 _ _ M2 (s1.trans s2) c2 ((a.g.mono (s1.trans s2)).set r2 i) q2⟩⟩
def dWhile (c : DTT) (tb : DTS) : DTS := fun Dn Γ M => ∃ Wv : Nat → DG → Mp → Prop, (∃ m, Wv m Γ M) ∧ ∀ m Γ2 M2, Wv m Γ2 M2 → c Γ2 M2 (fun b M3 => if b = true then
  tb { Dn with nx := fun Γ4 M4 => ∃ m', m' < m ∧ Wv m' Γ4 M4, ct := fun Γ4 M4 => ∃ m', m' < m ∧ Wv m' Γ4 M4, bk := Dn.nx } Γ2 M3 else Dn.nx Γ2 M3) Dn.ex
theorem ds_while {c : Expr} {body : List Stmt} {tc : DTT} {tb : DTS} (hp : PassesOwn (model X.prog X.w) X.A X.env X.xe) (hc : DT X W c tc) (hb : DSs X W body tb) : DS X W (.While c body [] pos) (dWhile tc tb) :=
  ⟨psW (ps_while hp hc.pt hb.ps) fun E σ H ⟨Γ, M, F, Dn, a, ⟨Wv, ⟨m0, w0⟩, turn⟩, k⟩ => by
    refine ⟨fun m σ2 H2 => ∃ Γ2 M2 F2, Same F F2 ∧ At (kt X W) W.w σ2 H2 Γ2 M2 F2 Dn.ex ∧ Wv m Γ2 M2, ⟨m0, Γ, M, F, Same.refl _, a, w0⟩, fun m σ2 H2 ⟨Γ2, M2, F2, s2, a2, w2⟩ => ?_⟩
    refine ⟨Γ2, M2, F2, _, _, a2, turn m Γ2 M2 w2, fun F3 H3 b M3 s3 c3 q3 => ?_⟩
    cases b with
    | false =>
      rw [if_neg Bool.false_ne_true] at q3 ⊢
      exact k.nx F3 H3 _ _ M3 (s2.trans s3) c3 (a2.g.mono s3) q3
    | true =>
      rw [if_pos rfl] at q3 ⊢
      refine ⟨fun σ4 H4 => ∃ m', m' < m ∧ ∃ Γ2 M2 F2, Same F F2 ∧ At (kt X W) W.w σ4 H4 Γ2 M2 F2 Dn.ex ∧ Wv m' Γ2 M2, fun σ4 H4 q => q, Γ2, M3, F3, { Dn with nx := fun Γ4 M4 => ∃ m', m' < m ∧ Wv m' Γ4 M4, ct := fun Γ4 M4 => ∃ m', m' < m ∧ Wv m' Γ4 M4, bk := Dn.nx }, a2.next s3 c3, q3, ?_⟩
      have k3 := k.mono (s2.trans s3)
      have nx : CoS (kt X W) F3 (fun Γ4 M4 => ∃ m', m' < m ∧ Wv m' Γ4 M4) (fun σ4 H4 => ∃ m', m' < m ∧ ∃ Γ2 M2 F2, Same F F2 ∧ At (kt X W) W.w σ4 H4 Γ2 M2 F2 Dn.ex ∧ Wv m' Γ2 M2) := fun F4 H4 σ4 Γ4 M4 s4 c4 g4 ⟨m', hm, w4⟩ =>
        ⟨m', hm, Γ4, M4, F4, (s2.trans s3).trans s4, ⟨c4, g4, a2.w.mono (s3.trans s4)⟩, w4⟩
      exact ⟨nx, k3.rt, k3.nx, nx⟩⟩
def dFor (ti : DTI) (g : DTG) (tb : DTS) : DTS := fun Dn Γ M => ti Γ M (fun it M1 => ∃ Wv : Nat → DG → Mp → Prop, Wv 0 Γ M1 ∧ ∀ i Γ2 M2, i ≤ it.seq.length → Wv i Γ2 M2 → it.ok M2 ∧
  (∀ d, it.seq[i]? = some d → g d Γ2 M2 (fun Γ3 M3 => tb { Dn with nx := Wv (i + 1), ct := Wv (i + 1), bk := Dn.nx } Γ3 M3)) ∧ (i = it.seq.length → Dn.nx Γ2 M2)) Dn.ex
theorem ds_for {iter : Expr} {body : List Stmt} {ti : DTI} {g : DTG} {tb : DTS} (hp : PassesOwn (model X.prog X.w) X.A X.env X.xe) (hc : X.calm = true) (hi : DI X W tg iter ti) (hg : DGt X W.T none tg g) (hb : DSs X W body tb) (hs : ∀ x, foldedSetIterable iter X.env x = pure x := by intro _; rfl) :
    DS X W (.For tg iter body [] pos) (dFor ti g tb) :=
  ⟨psW (ps_for hp hc hi.pi hg.pg hb.ps hs) fun E σ H ⟨Γ, M, F, Dn, a, h, k⟩ => ⟨Γ, M, F, Dn.ex, _, a, h, fun F1 H1 J it M1 s1 c1 ⟨hz, rj⟩ ⟨Wv, w0, turn⟩ => by
    refine ⟨fun i m σ2 H2 => m = it.seq.length - i ∧ i ≤ it.seq.length ∧ ∃ Γ2 M2 F2, Same F1 F2 ∧ At (kt X W) W.w σ2 H2 Γ2 M2 F2 Dn.ex ∧ Wv i Γ2 M2, ⟨_, rfl, Nat.zero_le _, Γ, M1, F1, Same.refl _, a.next s1 c1, w0⟩, ?_⟩
    rintro i m σ2 H2 ⟨rfl, hi, Γ2, M2, F2, s2, a2, w2⟩
    obtain ⟨ok, t1, t2⟩ := turn i Γ2 M2 hi w2
    obtain ⟨j1, j2⟩ := rj F2 H2 M2 i s2 a2.c ok
    by_cases hlt : i < it.seq.length
    · obtain ⟨go, yl⟩ := j1 _ (List.getElem?_eq_getElem hlt)
      refine .inr ⟨go, fun σ4 H4 => ∃ Γ4 M4 F4, Same F1 F4 ∧ At (kt X W) W.w σ4 H4 Γ4 M4 F4 Dn.ex ∧ Wv (i + 1) Γ4 M4, fun σ4 H4 q => ⟨_, by omega, rfl, hlt, q⟩, fun x H' y => ?_⟩
      obtain ⟨F3, s3, c3, r3⟩ := yl x H' y
      refine ⟨_, Γ2, M2, F3, _, c3, a2.g.mono s3, r3, t1 _ (List.getElem?_eq_getElem hlt), fun F4 H4 σ4 Γ4 M4 s4 c4 g4 _ q4 => ?_⟩
      have k4 := k.mono (((s1.trans s2).trans s3).trans s4)
      have nx : CoS (kt X W) F4 (Wv (i + 1)) (fun σ4 H4 => ∃ Γ4 M4 F4, Same F1 F4 ∧ At (kt X W) W.w σ4 H4 Γ4 M4 F4 Dn.ex ∧ Wv (i + 1) Γ4 M4) := fun F5 H5 σ5 Γ5 M5 s5 c5 g5 w5 =>
        ⟨Γ5, M5, F5, ((s2.trans s3).trans s4).trans s5, ⟨c5, g5, a2.w.mono ((s3.trans s4).trans s5)⟩, w5⟩
      exact ⟨Γ4, M4, F4, { Dn with nx := Wv (i + 1), ct := Wv (i + 1), bk := Dn.nx }, ⟨c4, g4, a2.w.mono (s3.trans s4)⟩, q4, ⟨nx, k4.rt, k4.nx, nx⟩⟩
    · have e : i = it.seq.length := by omega
      exact .inl ⟨j2 (by omega), k.nx F2 H2 _ _ M2 (s1.trans s2) a2.c a2.g (t2 e)⟩⟩⟩
def dwipe (Γ : DG) : List Nat → DG
  | [] => Γ
  | v :: vs => (dwipe Γ vs).set v none
theorem RpG.wipe {K : KTb} {F : Hp} {σ : St} {Γ : DG} (g : RpG K F σ Γ) : ∀ vs : List Nat, RpG K F (wipe σ vs) (dwipe Γ vs)
  | [] => g
  | v :: vs => (g.wipe vs).unset v
/-- M with more cells -/
def Ext (M M' : Mp) : Prop := ∀ a c, M a = some c → M' a = some c
theorem Ext.refl (M : Mp) : Ext M M := fun _ _ h => h
abbrev noW : WX := fun _ _ _ _ => False
abbrev noT (T : List (Addr × Str)) : WT := ⟨T, noW⟩
abbrev noE : DXE := fun _ _ _ _ => False
structure DTs (X : Cx) (W : WT) (ifs : List Expr) (t : DTT) : Prop where
  pt : PTs X ifs (upT (kt X W) W.w t)
theorem ptsW {ifs : List Expr} {t t' : TT} (p : PTs X ifs t) (h : ∀ σ H Q, t' σ H Q → t σ H Q) : PTs X ifs t' := ⟨fun pins s σ H Q I q => p.run pins s σ H Q I (h σ H Q q)⟩
def dYes : DTT := fun _ M Q _ => Q true M
theorem dts_nil : DTs X W [] dYes := ⟨ptsW pts_nil fun σ H Q ⟨Γ, M, F, E, Qd, a, q, k⟩ => k F H _ M (Same.refl _) a.c q⟩
theorem dts_one {t : DTT} (h : DT X W e t) : DTs X W [e] t := ⟨pts_one h.pt⟩
/-- the block's reading: each item gives P d (some y) or P d none, no cell is changed -/
def dLcBody (g : DTG) (tt : DTT) (te : DTE) (vs : List Nat) (Γ : DG) (M1 : Mp) (it : DIt) (P : D → Option D → Prop) : Prop := (∀ M', Ext M1 M' → it.ok M') ∧
  ∀ d, d ∈ it.seq → ∀ M', Ext M1 M' → g d (dwipe Γ vs) M' (fun Γ2 M3 => tt Γ2 M3 (fun b M4 => if b = true then te Γ2 M4 (fun y M5 => M5 = M' ∧ P d (some y)) noE else M4 = M' ∧ P d none) noE)
/-- all ways: os the elements' results -/
inductive All2 {α β : Type} (P : α → β → Prop) : List α → List β → Prop
  | nil : All2 P [] []
  | cons {a : α} {b : β} {as : List α} {bs : List β} : P a b → All2 P as bs → All2 P (a :: as) (b :: bs)
theorem All2.snoc {α β : Type} {P : α → β → Prop} {as : List α} {bs : List β} {a : α} {b : β} (h : All2 P as bs) (p : P a b) : All2 P (as ++ [a]) (bs ++ [b]) := by
  induction h with
  | nil => exact .cons p .nil
  | cons q _ ih => exact .cons q ih
theorem All2.length {α β : Type} {P : α → β → Prop} {as : List α} {bs : List β} (h : All2 P as bs) : as.length = bs.length := by
  induction h with
  | nil => rfl
  | cons _ _ ih => exact congrArg (· + 1) ih
def dLcN (ti : DTI) (g : DTG) (tt : DTT) (te : DTE) (vs : List Nat) : DTE := fun Γ M Q E => ti Γ M (fun it M1 => ∃ P : D → Option D → Prop, dLcBody g tt te vs Γ M1 it P ∧ ∀ os, All2 P it.seq os → Q (.lst (os.filterMap id)) M1) E
def dLcNO (ti : DTI) (g : DTG) (tt : DTT) (te : DTE) (vs : List Nat) : DTE := fun Γ M Q E => ti Γ M (fun it M1 => ∃ P : D → Option D → Prop, dLcBody g tt te vs Γ M1 it P ∧ ∀ os, All2 P it.seq os → ∀ p, M1 p = none → Q (.ref p) (mup M1 p (.lst (os.filterMap id)))) E
theorem upLcX {ti : DTI} {g : DTG} {tt : DTT} {te : DTE} {vs : List Nat} {σ : St} {H : Hp} {Q : VK} {Γ : DG} {M F : _} {E : DXE} {Qf : List (Option D) → Mp → Addr → Prop} {Cn : DIt → Mp → Prop} (a : At (kt X W) W.w σ H Γ M F E)
    (h : ti Γ M Cn E) (hC : ∀ it M1, Cn it M1 → ∃ P : D → Option D → Prop, dLcBody g tt te vs Γ M1 it P ∧ ∀ os, All2 P it.seq os → ∀ p, M1 p = none → Qf os M1 p)
    (k : ∀ (F' H' : Hp) (os : List (Option D)) (M' : Mp) (p : Addr) (us : List V), Same F F' → Cc (kt X W) M' F' H' → F' p = none → M' p = none → H' p = some (.lst us) → Rps (kt X W) F' us (os.filterMap id) → Qf os M' p → Q (.ref p) H') :
    tLc (upI (kt X W) W.w ti) (upG (kt X W) (some vs) g) (upT (kt X W) noW tt) (upE (kt X W) noW te) vs σ H Q := by
  refine ⟨Γ, M, F, E, _, a, h, fun F1 H1 J it M1 s1 c1 ⟨hz, rj⟩ hc0 Dd hD => ?_⟩
  obtain ⟨P, ⟨okx, body⟩, q⟩ := hC it M1 hc0
  have m1 : M1 Dd = none := c1.Mnone hD
  -- the cells and the new list
  refine ⟨fun i m H2 => m = it.seq.length - i ∧ i ≤ it.seq.length ∧ ∃ F2 os us, Same F1 F2 ∧ All2 P (it.seq.take i) os ∧ Cc (kt X W) (mup M1 Dd (.lst (os.filterMap id))) F2 H2 ∧ H2 Dd = some (.lst us) ∧ us.length ≤ i ∧ Rps (kt X W) F2 us (os.filterMap id),
    ⟨_, rfl, Nat.zero_le _, F1, [], [], Same.refl _, .nil, c1.newM (x := .lst []) hD ⟨[], rfl, .nil⟩, upd_same, Nat.zero_le _, .nil⟩, ?_⟩
  rintro i m H2 ⟨rfl, hi, F2, os, us, s2, ho, c2, e2, hl, r2⟩
  have ext : Ext M1 (mup M1 Dd (.lst (os.filterMap id))) := fun b c hb => by
    rw [mup_ne fun z => by rw [z, m1] at hb; cases hb]
    exact hb
  obtain ⟨j1, j2⟩ := rj F2 H2 _ i s2 c2 (okx _ ext)
  by_cases hlt : i < it.seq.length
  · have hget : it.seq[i]? = some it.seq[i] := List.getElem?_eq_getElem hlt
    have ht : it.seq.take (i + 1) = it.seq.take i ++ [it.seq[i]] := by rw [List.take_add_one, hget]; rfl
    obtain ⟨go, yl⟩ := j1 _ hget
    refine .inr ⟨go, fun H4 => i + 1 ≤ it.seq.length ∧ ∃ F4 os us, Same F1 F4 ∧ All2 P (it.seq.take (i + 1)) os ∧ Cc (kt X W) (mup M1 Dd (.lst (os.filterMap id))) F4 H4 ∧ H4 Dd = some (.lst us) ∧ us.length ≤ i + 1 ∧ Rps (kt X W) F4 us (os.filterMap id),
      fun H4 qq => ⟨_, by omega, rfl, qq⟩, fun x H' y => ?_⟩
    obtain ⟨F3, s3, c3, r3⟩ := yl x H' y
    refine ⟨_, dwipe Γ vs, _, F3, _, c3, (a.g.mono ((s1.trans s2).trans s3)).wipe vs, r3, body _ (List.getElem_mem hlt) _ ext, fun F4 H4 σ4 Γ4 M4 s4 c4 g4 w4 q4 => ⟨?_, ?_⟩⟩
    · have z := w4 vs rfl
      rw [z]
      have wid : ∀ (l l2 : List Nat) (σ : St), (∀ j ∈ l, j ∈ l2) → wipe (wipe σ l2) l = wipe σ l2 := by
        intro l
        induction l with
        | nil => intro l2 σ _; rfl
        | cons j l ih =>
          intro l2 σ hj
          show (wipe (wipe σ l2) l).set j none = _
          rw [ih l2 σ fun j' hj' => hj j' (List.mem_cons_of_mem _ hj')]
          have hin : j ∈ l2 := hj j List.mem_cons_self
          have key : ∀ (l2 : List Nat) (σ : St), j ∈ l2 → (wipe σ l2).set j none = wipe σ l2 := by
            intro l2
            induction l2 with
            | nil => intro σ h; cases h
            | cons q l2 ih2 =>
              intro σ h
              show ((wipe σ l2).set q none).set j none = (wipe σ l2).set q none
              by_cases hq : q = j
              · subst hq
                rw [List.set_set]
              · have hm : j ∈ l2 := by
                  rcases List.mem_cons.mp h with e | e
                  · exact absurd e.symm hq
                  · exact e
                rw [List.set_comm _ _ hq, ih2 σ hm]
          exact key l2 σ hin
      exact wid vs vs σ fun _ hh => hh
    · refine ⟨Γ4, M4, F4, noE, _, ⟨c4, g4, fun _ _ _ _ _ _ _ _ _ _ _ _ _ _ z => z⟩, q4, fun F5 H5 b M5 s5 c5 q5 => ?_⟩
      have s15 := ((s2.trans s3).trans s4).trans s5
      cases b with
      | false =>
        rw [if_neg Bool.false_ne_true] at q5
        refine iteF ?_
        obtain ⟨e5, p5⟩ := q5
        subst e5
        obtain ⟨f5, o5, e6, us5, e7, r5⟩ := c5.ow Dd _ mup_same
        subst e7
        refine ⟨hlt, F5, os ++ [none], us5, s15, by rw [ht]; exact ho.snoc p5, ?_, e6, by rw [r5.length, ← r2.length]; omega, ?_⟩
        · rw [List.filterMap_append]
          simpa using c5
        · rw [List.filterMap_append]
          simpa using r5
      | true =>
        rw [if_pos rfl] at q5
        refine iteT ?_
        refine ⟨Γ4, M5, F5, noE, _, ⟨c5, g4.mono s5, fun _ _ _ _ _ _ _ _ _ _ _ _ _ _ z => z⟩, q5, fun F6 H6 v d M6 s6 c6 r6 ⟨e6, p6⟩ => ?_⟩
        subst e6
        obtain ⟨f7, o7, e7, us7, e8, r7⟩ := c6.ow Dd _ mup_same
        subst e8
        have hus : us7.length ≤ i := by rw [r7.length, ← r2.length]; exact hl
        refine ⟨us7, e7, by omega, hlt, F6, os ++ [some d], us7 ++ [v], s15.trans s6, by rw [ht]; exact ho.snoc p6, ?_, upd_same, by rw [List.length_append, List.length_singleton]; omega, ?_⟩
        · rw [List.filterMap_append]
          have c8 := c6.write (p := Dd) (x := .lst (os.filterMap id ++ [d])) (o := .lst (us7 ++ [v])) mup_same ⟨_, rfl, r7.append (.cons r6 .nil)⟩
          rw [mup_mup] at c8
          simpa using c8
        · rw [List.filterMap_append]
          simpa using r7.append (.cons r6 .nil)
  · have e : i = it.seq.length := by omega
    refine .inl ⟨j2 (by omega), ?_⟩
    rw [e, List.take_length] at ho
    have cl : Cc (kt X W) M1 F2 H2 := c2.less fun b u hb => by
      rw [mup_ne fun z => by rw [z, m1] at hb; cases hb]
      exact hb
    exact k F2 H2 os M1 Dd us (s1.trans s2) cl (c2.ow Dd _ mup_same).1 m1 e2 r2 (q os ho Dd m1)
theorem ownNew {K : KTb} {M : Mp} {F H : Hp} {p : Addr} {us : List V} {ds : List D} (c : Cc K M F H) (fp : F p = none) (mp : M p = none) (hp : H p = some (.lst us)) (r : Rps K F us ds) : Cc K (mup M p (.lst ds)) F H :=
  ⟨c.tb, c.fk, c.fr, fun b u e => by
    by_cases hb : b = p
    · subst hb
      rw [mup_same] at e
      cases e
      exact ⟨fp, _, hp, us, rfl, r⟩
    · rw [mup_ne hb] at e
      exact c.ow _ _ e⟩
theorem freezeNew {K : KTb} {M : Mp} {F H : Hp} {p : Addr} {us : List V} {ds : List D} (c : Cc K M F H) (fp : F p = none) (mp : M p = none) (hp : H p = some (.lst us)) (r : Rps K F us ds) : ∃ F', Same F F' ∧ Cc K M F' H ∧ Rp K F' (.ref p) (.lst ds) := by
  obtain ⟨F', s, c2, r2⟩ := (ownNew c fp mp hp r).freeze mup_same
  rw [mdel_mup mp] at c2
  exact ⟨F', s, c2, r2⟩
theorem upLcN {ti : DTI} {g : DTG} {tt : DTT} {te : DTE} {vs : List Nat} {σ : St} {H : Hp} {Q : VK} (h : upE (kt X W) W.w (dLcN ti g tt te vs) σ H Q) : tLc (upI (kt X W) W.w ti) (upG (kt X W) (some vs) g) (upT (kt X W) noW tt) (upE (kt X W) noW te) vs σ H Q := by
  obtain ⟨Γ, M, F, E, Qd, a, q, k⟩ := h
  refine upLcX (Qf := fun os M1 p => Qd (.lst (os.filterMap id)) M1) a q (fun it M1 ⟨P, b, hq⟩ => ⟨P, b, fun os ho _ _ => hq os ho⟩) fun F' H' os M' p us s c fp mp hp r qq => ?_
  obtain ⟨F2, s2, c2, r2⟩ := freezeNew c fp mp hp r
  exact k F2 H' _ _ M' (s.trans s2) c2 r2 qq
/-- the parts of a comprehension: its walk, target, tests, element, within the block -/
structure LcOk (X : Cx) (W : WT) (elt tg iter : Expr) (ifs : List Expr) (scope : Scope) (own : List (Str × Nat)) (ti : DTI) (g : DTG) (tt : DTT) (te : DTE) : Prop where
  hc : X.calm = true
  hN : X.N.Nodup
  hi : DI X W tg iter ti
  ok : BlkOk X.N X.env.scope scope own
  hg : ∀ (s : Shared) (H : Hp) (C : Addr) (cl : List (Str × Addr)) (fp : List Addr), DGt (X.blk s H scope (compEnvC scope cl C X.env) fp) W.T (some (own.map (·.2))) tg g
  ht : ∀ (s : Shared) (H : Hp) (C : Addr) (cl : List (Str × Addr)) (fp : List Addr), DTs (X.blk s H scope (compEnvC scope cl C X.env) fp) (noT W.T) ifs tt
  he : ∀ (s : Shared) (H : Hp) (C : Addr) (cl : List (Str × Addr)) (fp : List Addr), DE (X.blk s H scope (compEnvC scope cl C X.env) fp) (noT W.T) elt te
section
variable {elt iter : Expr} {ifs : List Expr} {scope : Scope} {own : List (Str × Nat)} {ti : DTI} {g : DTG} {tt : DTT} {te : DTE}
theorem de_lcG {t : DTE} (L : LcOk X W elt tg iter ifs scope own ti g tt te) (h : ∀ σ H Q, upE (kt X W) W.w t σ H Q → tLc (upI (kt X W) W.w ti) (upG (kt X W) (some (own.map (·.2))) g) (upT (kt X W) noW tt) (upE (kt X W) noW te) (own.map (·.2)) σ H Q) (hs : ∀ x, foldedSetIterable iter X.env x = pure x := by intro _; rfl) :
    DE X W (.ListComp elt [⟨tg, iter, ifs, 0⟩] scope pos) t :=
  ⟨peW (pe_lc L.hc L.hN L.hi.pi L.ok (fun s H C cl fp => (L.hg s H C cl fp).pg) (fun s H C cl fp => (L.ht s H C cl fp).pt) (fun s H C cl fp => (L.he s H C cl fp).pe) hs) h⟩
theorem de_lcN (L : LcOk X W elt tg iter ifs scope own ti g tt te) (hs : ∀ x, foldedSetIterable iter X.env x = pure x := by intro _; rfl) : DE X W (.ListComp elt [⟨tg, iter, ifs, 0⟩] scope pos) (dLcN ti g tt te (own.map (·.2))) := de_lcG L (fun _ _ _ h => upLcN h) hs
/-- name = [..], the name a local, on one line -/
theorem ds_setLcG {i : Nat} {y : Str} {py pos2 : Pos} {t : DTE} (L : LcOk X W elt tg iter ifs scope own ti g tt te) (h : ∀ σ H Q, upE (kt X W) W.w t σ H Q → tLc (upI (kt X W) W.w ti) (upG (kt X W) (some (own.map (·.2))) g) (upT (kt X W) noW tt) (upE (kt X W) noW te) (own.map (·.2)) σ H Q)
    (hy : X.N[i]? = some y) (hyl : X.env.scope.names.lookup y = some .local) (hsw : swapsWith (.ListComp elt [⟨tg, iter, ifs, 0⟩] scope pos) (some (.Name y py)) pos2.line X.env = pure true) (hs : ∀ x, foldedSetIterable iter X.env x = pure x := by intro _; rfl) :
    DS X W (.Assign [.Name y py] (.ListComp elt [⟨tg, iter, ifs, 0⟩] scope pos) pos2) (dSet t i) :=
  ⟨psW (ps_setLc L.hc L.hN hy hyl hsw L.hi.pi L.ok (fun s H C cl fp => (L.hg s H C cl fp).pg) (fun s H C cl fp => (L.ht s H C cl fp).pt) (fun s H C cl fp => (L.he s H C cl fp).pe) hs) fun E σ H ⟨Γ, M, F, Dn, a, q, k⟩ =>
    h σ H _ ⟨Γ, M, F, _, _, a, q, fun F1 H1 v d M1 s1 c1 r1 q1 => k.nx F1 H1 _ _ M1 s1 c1 ((a.g.mono s1).set r1 i) q1⟩⟩
theorem ds_setLcN (i : Nat) {y : Str} {py pos2 : Pos} (L : LcOk X W elt tg iter ifs scope own ti g tt te) (hsw : swapsWith (.ListComp elt [⟨tg, iter, ifs, 0⟩] scope pos) (some (.Name y py)) pos2.line X.env = pure true) (hy : X.N[i]? = some y := by rfl) (hyl : X.env.scope.names.lookup y = some .local := by rfl) (hs : ∀ x, foldedSetIterable iter X.env x = pure x := by intro _; rfl) : DS X W (.Assign [.Name y py] (.ListComp elt [⟨tg, iter, ifs, 0⟩] scope pos) pos2) (dSet (dLcN ti g tt te (own.map (·.2))) i) := ds_setLcG L (fun _ _ _ h => upLcN h) hy hyl hsw hs
end
end
end DL
namespace DL
open PySem L2
abbrev DXK := Addr → List (Str × D) → Mp → Prop
abbrev DSp := List D → Mp → DQ → DXK → Prop
def CoX (K : KTb) (F : Hp) (Ed : DXK) (E : XK) : Prop := ∀ (F' H' : Hp) (C d : Addr) (us : List (Str × V)) (fs : List (Str × D)) (M' : Mp), Same F F' → Cc K M' F' H' → H' d = some (.xd us) → RpF K F' us fs → Ed C fs M' → E (.ref C) (some d) H'
theorem CoX.mono {K : KTb} {F F1 : Hp} {Ed : DXK} {E : XK} (w : CoX K F Ed E) (s : Same F F1) : CoX K F1 Ed E := fun F' H' C d us fs M s1 => w F' H' C d us fs M (s.trans s1)
def spUp (K : KTb) (sp : DSp) : Sp := fun vs H Q E => ∃ (ds : List D) (M : Mp) (F : Hp) (Qd : DQ) (Ed : DXK), Cc K M F H ∧ Rps K F vs ds ∧ sp ds M Qd Ed ∧ CoQ K F Qd Q ∧ CoX K F Ed E
/-- a value handed back may be frozen, cells may be let go -/
def Fin (K : KTb) (Qd : DQ) : DQ := fun d M => ∀ (F H : Hp) (v : V), Cc K M F H → Rp K F v d → ∃ (F2 : Hp) (d2 : D) (M2 : Mp), Same F F2 ∧ Cc K M2 F2 H ∧ Rp K F2 v d2 ∧ Qd d2 M2
theorem Fin.same {K : KTb} {Qd : DQ} {d : D} {M : Mp} (h : Qd d M) : Fin K Qd d M := fun F H v c r => ⟨F, d, M, Same.refl _, c, r, h⟩
theorem Fin.less {K : KTb} {Qd : DQ} {d : D} {M M2 : Mp} (h : Qd d M2) (e : ∀ a u, M2 a = some u → M a = some u) : Fin K Qd d M := fun F H v c r => ⟨F, d, M2, Same.refl _, c.less e, r, h⟩
theorem Fin.frz {K : KTb} {Qd : DQ} {p : Addr} {xs : List D} {M : Mp} (e : M p = some (.lst xs)) (h : Qd (.lst xs) (mdel M p)) : Fin K Qd (.ref p) M := fun F H v c r => by
  cases r
  obtain ⟨F2, s, c2, r2⟩ := c.freeze e
  exact ⟨F2, _, _, s, c2, r2, h⟩
/-- the new list at p is handed back frozen -/
theorem Fin.frzN {K : KTb} {Qd : DQ} {p : Addr} {xs : List D} {M : Mp} (e : M p = none) (h : Qd (.lst xs) M) : Fin K Qd (.ref p) (mup M p (.lst xs)) := Fin.frz mup_same (by rw [mdel_mup e]; exact h)
abbrev wOf (T : List (Addr × Str)) (E : XK) : WT := ⟨T, fun cls d _ H => E cls d H⟩
def dstart (N : List Str) (ds : List D) : DG := ds.map some ++ List.replicate (N.length - ds.length) none
theorem start_rp {K : KTb} {F : Hp} {N : List Str} {vs : List V} {ds : List D} (r : Rps K F vs ds) (hl : vs.length ≤ N.length) : RpG K F (start N vs) (dstart N ds) := by
  refine ⟨by simp [L2.start, dstart, r.length], fun i d h => ?_⟩
  unfold dstart at h
  unfold L2.start
  by_cases hi : i < ds.length
  · rw [List.getElem?_append_left (by simpa using hi), List.getElem?_map] at h
    rw [List.getElem?_append_left (by simpa [r.length] using hi), List.getElem?_map]
    cases e : ds[i]? with
    | none => rw [e] at h; cases h
    | some d' =>
      rw [e] at h
      cases h
      obtain ⟨v, h1, h2⟩ := r.get e
      exact ⟨v, by rw [h1] <;> rfl, h2⟩
  · rw [List.getElem?_append_right (by simpa using hi), List.getElem?_replicate] at h
    split at h <;> cases h
/-- a def as it stands behind the top, whatever its defaults are -/
structure FunK (K : PySem.W.Frag) (x qual : Str) (st : Stmt) (f : Addr) (fd : FuncData) : Prop where
  ex : ∃ (oc : Value) (od : Option Addr) (dV kV doc pm : Value) (an : Option Addr) (cdv ct : Value) (osl : Array (Option Value)),
    fd = PySem.W.fnOf x qual (defArgs st) (defBody st) (defScope st) dV kV doc pm an cdv ct ∧ K.lookup f = some ⟨oc, od, .func fd, osl⟩ ∧ PySem.W.codeIn K cdv qual = true
  kp : PySem.W.keepIn K (.ref f) = true
theorem FunK.of {K : PySem.W.Frag} {x qual : Str} {st : Stmt} {f : Addr} {fd : FuncData} (F : Fun K x qual st f fd) : FunK K x qual st f fd := by
  obtain ⟨oc, od, kV, doc, pm, an, cdv, ct, osl, h1, h2, h3⟩ := F.ex
  exact ⟨⟨oc, od, .none, kV, doc, pm, an, cdv, ct, osl, h1, h2, h3⟩, F.kp⟩
theorem FunK.ofD {K : PySem.W.Frag} {x qual : Str} {st : Stmt} {f : Addr} {fd : FuncData} {dvs : List V} {kws : List (Str × V)} (F : FunD K x qual (defArgs st) (defBody st) (defScope st) dvs kws f fd) : FunK K x qual st f fd := by
  obtain ⟨oc, od, dV, kV, doc, pm, an, cdv, ct, osl, h1, h2, h3, _⟩ := F.ex
  exact ⟨⟨oc, od, dV, kV, doc, pm, an, cdv, ct, osl, h1, h2, h3⟩, F.kp⟩
section
variable {P : Program} {w : World} {K : PySem.W.Frag} {T : List (Addr × Str)} {mg : Str → Option Value} {base : Heap}
/-- as Fun.okX -/
theorem FunK.okX {x qual : Str} {st : Stmt} {f : Addr} {fd : FuncData} {N ps : List Str} {k : Nat} {sp : Sp} (F : FunK K x qual st f fd) (S : FnScope N ps (defScope st)) (len : ∀ vs H Q E, sp vs H Q E → vs.length = ps.length)
    (hbody : ∀ (cdv : Value) (A : Around) (outer : List Env) (s : Shared) (H : Hp) (vs : List V) (Q : VK) (E : XK), Room k (A.deeper (PyProof.Rows.envOfC qual (defScope st) s.heap.objs.size f cdv)) → sp vs H Q E →
      ∃ t, PSs (cxOf (L2.CX P w) P w K mg base N qual (defScope st) f cdv A outer s H E) (defBody st) t ∧ t { nx := fun _ H' => Q .non H', rt := Q } (L2.start N vs) H) : FnOk P w K mg base (L2.CX P w) (k + 1) f fd ps sp := by
  obtain ⟨oc, od, dV, kV, doc, pm, an, cdv, ct, osl, rfl, lk, hcd⟩ := F.ex
  exact fn_of lk hcd S len fun A outer s H vs Q E hr hsp => hbody cdv A outer s H vs Q E hr hsp
/-- THE RULE for a def: its body's reading, over data -/
theorem dfn {x qual : Str} {st : Stmt} {f : Addr} {fd : FuncData} {N ps : List Str} {k : Nat} {sp : DSp} (Fn : FunK K x qual st f fd) (S : FnScope N ps (defScope st)) (len : ∀ ds M Q E, sp ds M Q E → ds.length = ps.length)
    (hbody : ∀ (cdv : Value) (A : Around) (outer : List Env) (s : Shared) (H : Hp) (E : XK), Room k (A.deeper (PyProof.Rows.envOfC qual (defScope st) s.heap.objs.size f cdv)) → ∃ t, DSs (cxOf (L2.CX P w) P w K mg base N qual (defScope st) f cdv A outer s H E) (wOf T E) (defBody st) t ∧
      ∀ (ds : List D) (M : Mp) (Qd : DQ) (Ed : DXK) (F : Hp) (H : Hp), sp ds M Qd Ed → Cc ⟨K, T⟩ M F H → ∃ (F2 : Hp) (M2 : Mp), Same F F2 ∧ Cc ⟨K, T⟩ M2 F2 H ∧ t { nx := fun _ M' => Fin ⟨K, T⟩ Qd .non M', rt := Fin ⟨K, T⟩ Qd, ex := fun _ C fs M' => Ed C fs M' } (dstart N ds) M2) : FnOk P w K mg base (L2.CX P w) (k + 1) f fd ps (spUp ⟨K, T⟩ sp) := by
  have hlen : ∀ vs H Q E, spUp ⟨K, T⟩ sp vs H Q E → vs.length = ps.length := fun vs H Q E ⟨ds, M, F, Qd, Ed, c, r, h, _, _⟩ => by rw [r.length]; exact len _ _ _ _ h
  refine Fn.okX S hlen fun cdv A outer s H vs Q E hr h => ?_
  have hl := hlen _ _ _ _ h
  obtain ⟨ds, M, F, Qd, Ed, c, r, h, kq, kx⟩ := h
  obtain ⟨t, ht, hb⟩ := hbody cdv A outer s H E hr
  refine ⟨_, ht.ps, ?_⟩
  obtain ⟨F2, M2, s2, c2, hb⟩ := hb ds M Qd Ed F H h c
  have hpl : ps.length ≤ N.length := by have := congrArg List.length S.pre; rw [List.length_take] at this; omega
  refine ⟨dstart N ds, M2, F2, _, ⟨c2, start_rp (r.mono s2) (by omega), fun F' H' σ Γ C d us fs M' s1 c1 _ hd rf q => kx F' H' C d us fs M' (s2.trans s1) c1 hd rf q⟩, hb, ?_, ?_, fun _ _ _ _ _ _ _ _ z => z.elim, fun _ _ _ _ _ _ _ _ z => z.elim⟩
  · intro F' H' σ' Γ' M' s1 c1 g1 q1
    obtain ⟨F3, d2, M3, s3, c3, r3, q3⟩ := q1 F' H' .non c1 .non
    exact kq F3 H' _ _ _ ((s2.trans s1).trans s3) c3 r3 q3
  · intro F' H' v d M' s1 c1 r1 q1
    obtain ⟨F3, d2, M3, s3, c3, r3, q3⟩ := q1 F' H' v c1 r1
    exact kq F3 H' _ _ _ ((s2.trans s1).trans s3) c3 r3 q3
/-- a def of the module, where its text stands; it binds its parameters ps, dds the defaults that fill up -/
structure DefAt (K : PySem.W.Frag) (mg : Str → Option Value) (x : Str) (st : Stmt) (ps : List Str) : Prop where
  ex : ∃ f fd, mg x = some (.ref f) ∧ FunK K x x st f fd ∧ Binds K fd ps []
/-- a def of the module keeps a promise over data -/
structure Dfk (P : Program) (w : World) (K : PySem.W.Frag) (mg : Str → Option Value) (base : Heap) (T : List (Addr × Str)) (x : Str) (k : Nat) (ps : List Str) (sp : DSp) : Prop where
  ex : ∃ f fd, FnOk P w K mg base (L2.CX P w) k f fd ps (spUp ⟨K, T⟩ sp) ∧ mg x = some (.ref f) ∧ PySem.W.keepIn K (.ref f) = true ∧ Binds K fd ps []
theorem Dfk.imp {x : Str} {k : Nat} {ps : List Str} {sp sp' : DSp} (h : Dfk P w K mg base T x k ps sp) (i : ∀ ds M Q E, sp' ds M Q E → sp ds M Q E) : Dfk P w K mg base T x k ps sp' := by
  obtain ⟨f, fd, h1, h2⟩ := h.ex
  exact ⟨f, fd, h1.imp fun vs H Q E ⟨ds, M, F, Qd, Ed, c, r, q, k⟩ => ⟨ds, M, F, Qd, Ed, c, r, i _ _ _ _ q, k⟩, h2⟩
theorem Dfk.mono {x : Str} {k k' : Nat} {ps : List Str} {sp : DSp} (h : Dfk P w K mg base T x k ps sp) (i : k ≤ k') : Dfk P w K mg base T x k' ps sp := by
  obtain ⟨f, fd, h1, h2⟩ := h.ex
  exact ⟨f, fd, h1.mono i, h2⟩
/-- THE RULE for a def of the module whose cells need no opening -/
theorem DefAt.ok {x : Str} {st : Stmt} {N ps : List Str} {k : Nat} {sp : DSp} (Fn : DefAt K mg x st ps) (S : FnScope N ps (defScope st)) (len : ∀ ds M Q E, sp ds M Q E → ds.length = ps.length)
    (hbody : ∀ (f : Addr) (cdv : Value) (A : Around) (outer : List Env) (s : Shared) (H : Hp) (E : XK), Room k (A.deeper (PyProof.Rows.envOfC x (defScope st) s.heap.objs.size f cdv)) → ∃ t, DSs (cxOf (L2.CX P w) P w K mg base N x (defScope st) f cdv A outer s H E) (wOf T E) (defBody st) t ∧
      ∀ (ds : List D) (M : Mp) (Qd : DQ) (Ed : DXK), sp ds M Qd Ed → t { nx := fun _ M' => Fin ⟨K, T⟩ Qd .non M', rt := Fin ⟨K, T⟩ Qd, ex := fun _ C fs M' => Ed C fs M' } (dstart N ds) M) : Dfk P w K mg base T x (k + 1) ps sp := by
  obtain ⟨f, fd, h1, h2, h3⟩ := Fn.ex
  refine ⟨f, fd, dfn h2 S len fun cdv A outer s H E hr => ?_, h1, h2.kp, h3⟩
  obtain ⟨t, ht, hq⟩ := hbody f cdv A outer s H E hr
  exact ⟨t, ht, fun ds M Qd Ed F H h c => ⟨F, M, Same.refl _, c, hq ds M Qd Ed h⟩⟩
end
section
variable {X : Cx} {W : WT} {e : Expr} {es : List Expr} {pos : Pos}
def dCall (sp : DSp) (dds : List D) (t : DTA) : DTE := fun Γ M Q E => t Γ M (fun ds M1 => sp (ds ++ dds) M1 Q (fun C fs M2 => E Γ C fs M2)) E
theorem up_sp {sp : DSp} {F H : Hp} {M : Mp} {vs dvs : List V} {ds dds : List D} {Qd : DQ} {Q : VK} {σ : St} {Γ : DG} {E : DXE} (c : Cc (kt X W) M F H) (r : Rps (kt X W) F vs ds) (hd : ∀ F, Rps (kt X W) F dvs dds) (g : RpG (kt X W) F σ Γ) (w : Ew (kt X W) F E W.w)
    (q : sp (ds ++ dds) M Qd (fun C fs M2 => E Γ C fs M2)) (k : CoQ (kt X W) F Qd Q) : spUp (kt X W) sp (vs ++ dvs) H Q (fun cls d H => W.w cls d σ H) :=
  ⟨ds ++ dds, M, F, Qd, _, c, r.append (hd F), q, k, fun F' H' C d us fs M' s c hd rf q => w F' H' σ Γ C d us fs M' s c (g.mono s) hd rf q⟩
theorem de_call {k : Nat} {f : Addr} {fd : FuncData} {ps : List Str} {sp : DSp} {dvs : List V} {dds : List D} {vds : List Value} {x : Str} {p : Pos} {t : DTA} (Fn : FnOk X.prog X.w X.K X.mg X.base (L2.CX X.prog X.w) k f fd ps (spUp (kt X W) sp)) (hr : Room k X.A) (hm : X.mg x = some (.ref f)) (hk : PySem.W.keepIn X.K (.ref f) = true) (hb : Binds X.K fd ps vds) (hd : Vals dvs vds) (hdd : ∀ F, Rps (kt X W) F dvs dds) (tk : Takes X W.w)
    (ha : DA X W (e :: es) t) (hg : Gl X x := by rfl) (hdb : (x == ("__debug__" : Str)) = false := by decide) (he : starEach (e :: es) X.env = (false, eval e X.env) :: starEach es X.env := by rfl) (hpl : (backTo pos (starEach es X.env)).any (·.1) = false := by rfl) :
    DE X W (.Call (.Name x p) (e :: es) [] pos) (dCall sp dds t) :=
  ⟨peW (pe_callSD (E := fun σ cls d H => W.w cls d σ H) Fn hr hg hm hk hb hd (fun σ => passAt tk σ) ha.pa hdb he hpl) fun σ H Q ⟨Γ, M, F, E, Qd, a, q, k⟩ => ⟨Γ, M, F, E, _, a, q, fun F1 H1 vs ds M1 s1 c1 r1 q1 =>
    up_sp c1 r1 hdd (a.g.mono s1) (a.w.mono s1) q1 (k.mono s1)⟩⟩
/-- all parameters given -/
theorem de_callA {k : Nat} {ps : List Str} {sp : DSp} {x : Str} {p : Pos} {t : DTA} (Fn : Dfk X.prog X.w X.K X.mg X.base W.T x k ps sp) (hr : Room k X.A) (tk : Takes X W.w)
    (ha : DA X W (e :: es) t) (hg : Gl X x := by rfl) (hdb : (x == ("__debug__" : Str)) = false := by decide) (he : starEach (e :: es) X.env = (false, eval e X.env) :: starEach es X.env := by rfl) (hpl : (backTo pos (starEach es X.env)).any (·.1) = false := by rfl) :
    DE X W (.Call (.Name x p) (e :: es) [] pos) (dCall sp [] t) := by
  obtain ⟨f, fd, h1, h2, h3, h4⟩ := Fn.ex
  exact de_call h1 hr h2 h3 h4 .nil (fun _ => .nil) tk ha hg hdb he hpl
def dAppend (tx te : DTE) : DTE := fun Γ M Q E => tx Γ M (fun d M1 => (∃ xs, sqX M1 d = some xs) ∧ te Γ M1 (fun y M2 => ∃ p xs, d = .ref p ∧ M2 p = some (.lst xs) ∧ xs.length < sizeLine ∧ Q .non (mup M2 p (.lst (xs ++ [y])))) E) E
theorem ty_list {K : KTb} {M : Mp} {F H : Hp} {v : V} {d : D} {xs : List D} (c : Cc K M F H) (r : Rp K F v d) (h : sqX M d = some xs) : tyV K.K "list" v H := by
  obtain ⟨a, vs, rfl, h1, _⟩ := sqx_of c r h
  exact .inl ⟨rfl, vs, .inl (.inl h1)⟩
theorem de_append {xs y : Expr} {apos cpos : Pos} {tx te : DTE} (hx : DE X W xs tx) (hy : DE X W y te)
    (hbase : attributeBase xs "append" X.env (eval xs X.env) = eval xs X.env := by rfl)
    (hfew : ((backTo cpos (starEach [y] X.env)).all (fun x => !x.1) && (backToKw cpos (keywordEach [] X.env)).all (fun x => x.1.isSome) && decide (([y] : List Expr).length + ([] : List Keyword).length + (if ([] : List Keyword).isEmpty then 0 else 1) < 30)) = true := by rfl)
    (hline : (apos.endLine == cpos.line) = true := by rfl) (hs : starEach [y] X.env = (false, eval y X.env) :: starEach [] X.env := by rfl) : DE X W (.Call (.Attribute xs "append" apos) [y] [] cpos) (dAppend tx te) :=
  ⟨peW (pe_bm PySem.F.plainAttrs_list PySem.F.slot_list_append PySem.F.type_list_append mt_append hx.pe (pa_cons hy.pe pa_nil hs) hbase hfew hline hs rfl) fun σ H Q ⟨Γ, M, F, E, Qd, a, q, k⟩ => ⟨Γ, M, F, E, _, a, q, fun F1 H1 v d M1 s1 c1 r1 ⟨⟨xs, e1⟩, q1⟩ => ⟨ty_list c1 r1 e1,
    Γ, M1, F1, E, _, a.next s1 c1, q1, fun F2 H2 w e M2 s2 c2 r2 ⟨p, ys, e2, e3, hz, q2⟩ => by
      subst e2
      cases r1
      obtain ⟨f, o, e4, us, e5, r5⟩ := c2.ow _ _ e3
      subst e5
      exact ⟨p, us, w, rfl, rfl, e4, by rw [r5.length]; exact hz, k _ _ _ _ _ (s1.trans s2) (c2.write (x := .lst _) e3 ⟨_, rfl, r5.append (.cons r2 .nil)⟩) .non q2⟩⟩⟩⟩
/-- o[i] = e, o a list -/
def gdSub (to ti : DTE) : DTG := fun d Γ M Q => to Γ M (fun o M1 => ti Γ M1 (fun i M2 => ∃ p xs k j, o = .ref p ∧ i = .int k ∧ M2 p = some (.lst xs) ∧ ixN xs.length k = some j ∧ Q Γ (mup M2 p (.lst (xs.set j d)))) noE) noE
theorem dg_sub {o i : Expr} {to ti : DTE} {T : List (Addr × Str)} (ho : DE X (noT T) o to) (hi : DE X (noT T) i ti)
    (ha : ∀ v, assign (.Subscript o i pos) X.env v = (do
      let ov ← holding [v] (eval o X.env)
      let iv ← holding [v, ov] (eval i X.env)
      standAt pos
      holding [v, ov, iv] (setItem ov iv v)
      release [v, ov, iv] []) := by intro _; rfl) : DGt X T none (.Subscript o i pos) (gdSub to ti) :=
  ⟨pgW (pg_sub ho.pe hi.pe set_list ha) fun v σ H Q ⟨d, Γ, M, F, Qd, c, g, r, q, k⟩ => ⟨Γ, M, F, noE, _, ⟨c, g, fun _ _ _ _ _ _ _ _ _ _ _ _ _ _ z => z⟩, q, fun F1 H1 x o M1 s1 c1 r1 q1 => ⟨Γ, M1, F1, noE, _, ⟨c1, g.mono s1, fun _ _ _ _ _ _ _ _ _ _ _ _ _ _ z => z⟩, q1, fun F2 H2 y i M2 s2 c2 r2 ⟨p, xs, kk, j, e1, e2, e3, hj, q2⟩ => by
    subst e1
    subst e2
    cases r1
    cases r2
    obtain ⟨f, o, e4, us, e5, r5⟩ := c2.ow _ _ e3
    subst e5
    exact ⟨p, us, kk, j, rfl, rfl, e4, by rw [r5.length]; exact hj, k _ _ _ _ _ (s1.trans s2) (c2.write (x := .lst _) e3 ⟨_, rfl, r5.set (r.mono (s1.trans s2)) j⟩) (g.mono (s1.trans s2)) (fun _ e => nomatch e) q2⟩⟩⟩⟩
/-- what is known may be told otherwise -/
def GhS (K : KTb) (P : DG → Mp → Prop) : DG → Mp → Prop := fun Γ M => ∀ (F H : Hp) (σ : St), Cc K M F H → RpG K F σ Γ → ∃ (F2 : Hp) (Γ2 : DG) (M2 : Mp), Same F F2 ∧ Cc K M2 F2 H ∧ RpG K F2 σ Γ2 ∧ P Γ2 M2
theorem dss_gh {sts : List Stmt} {t : DTS} (h : DSs X W sts t) : DSs X W sts (fun Dn Γ M => GhS (kt X W) (t Dn) Γ M) := ⟨pssW h.ps fun E σ H ⟨Γ, M, F, Dn, a, q, k⟩ => by
  obtain ⟨F2, Γ2, M2, s, c, g, q⟩ := q F H σ a.c a.g
  exact ⟨Γ2, M2, F2, Dn, ⟨c, g, a.w.mono s⟩, q, k.mono s⟩⟩
theorem GhS.same {K : KTb} {P : DG → Mp → Prop} {Γ : DG} {M : Mp} (h : P Γ M) : GhS K P Γ M := fun F H σ c g => ⟨F, Γ, M, Same.refl _, c, g, h⟩
/-- the cell at p in slot i is frozen -/
theorem GhS.frz {K : KTb} {P : DG → Mp → Prop} {Γ : DG} {M : Mp} {i : Nat} {p : Addr} {xs : List D} (h1 : Γ[i]? = some (some (.ref p))) (h2 : M p = some (.lst xs)) (h : P (Γ.set i (some (.lst xs))) (mdel M p)) : GhS K P Γ M := fun F H σ c g => by
  obtain ⟨F2, s, c2, r2⟩ := c.freeze h2
  obtain ⟨v, e, r⟩ := g.at_ i _ h1
  cases r
  have g2 := (g.mono s).set r2 i
  have es : σ.set i (some (.ref p)) = σ := by
    obtain ⟨hl, e'⟩ := List.getElem?_eq_some_iff.mp e
    rw [← e']
    exact List.set_getElem_self hl
  rw [es] at g2
  exact ⟨F2, _, _, s, c2, g2, h⟩
/-- slots forgotten, cells let go -/
theorem GhS.less {K : KTb} {P : DG → Mp → Prop} {Γ Γ2 : DG} {M M2 : Mp} (hl : Γ2.length = Γ.length) (h1 : ∀ (i : Nat) (d : D), Γ2[i]? = some (some d) → Γ[i]? = some (some d)) (h2 : ∀ a u, M2 a = some u → M a = some u) (h : P Γ2 M2) : GhS K P Γ M := fun F H σ c g =>
  ⟨F, Γ2, M2, Same.refl _, c.less h2, ⟨by rw [g.len, hl], fun i d e => g.at_ i d (h1 i d e)⟩, h⟩
end
end DL
namespace DL
open PySem L2
section
variable {X : Cx} {CX : CXT} {k : Nat} {f : Addr} {fd : FuncData} {ps : List Str} {sp : Sp} {E : XK} {x m : Str} {CL : Addr} {mc : Value} {p1 p2 pos : Pos} {e : Expr} {es : List Expr} {t : TA} {pl : Sem Bool}
/-- C.m(e, ..), C a class of the module, m a def of it: called as it is -/
theorem pe_clscall (hm : X.mg x = some (.ref CL)) (r : ClX.CRead X.K CL mc) (kk : PySem.W.findCls X.K (.ref CL) mc m = some (.val (.ref f))) (Fn : FnOk X.prog X.w X.K X.mg X.base CX k f fd ps sp) (hr : Room k X.A) (hk : PySem.W.keepIn X.K (.ref f) = true) (hb : Binds X.K fd ps []) (hx : Passes CX X E)
    (ha : PA X (e :: es) t) (hg : Gl X x := by rfl) (hdb : (x == ("__debug__" : Str)) = false := by decide)
    (hst : starEach (e :: es) X.env = (false, eval e X.env) :: starEach es X.env := by rfl) (hpl : (backTo pos (starEach es X.env)).any (·.1) = false := by rfl)
    (ht : eval (.Call (.Attribute (.Name x p1) m p2) (e :: es) [] pos) X.env = (do
      let ov ← eval (.Name x p1) X.env
      standAt p2.atName
      let (f, first) ← holding [ov] (getMethod ov m pl)
      callWith pos f first (backTo pos (starEach (e :: es) X.env)) (backToKw pos (keywordEach [] X.env))) := by rfl) :
    PE X (.Call (.Attribute (.Name x p1) m p2) (e :: es) [] pos) (tCall sp [] E t) := by
  refine ⟨fun pins s σ H Q I h => ?_⟩
  refine PySem.W.methodCall_KW (pl := pl) (ld_glob I hg hm ?_ hdb) ht
  refine PySem.W.method_cls I.kIn r.ga (ClX.getcval_ok I r (v := .ref f) ⟨kk, rfl⟩ fun s' I' => ?_)
  refine PySem.W.callWith_K (h₀ := X.base) I'.ok.mod.kin hk (thn (ha.run pos pins s' σ H _ I' h) fun us s1 ⟨vs, H1, I1, r, q⟩ => ⟨I1.kIn, ?_⟩) hst hpl
  exact run_fn Fn hr hb .nil hx I1 r q
end
/-- __init__ of an exception's class: what it leaves -/
def spIni (C : Addr) (n : Nat) (fs : List V → List (Str × V)) : Sp := fun vs H Q _ => ∃ (a : Addr) (ws : List V), vs = .ref a :: ws ∧ ws.length = n ∧ H a = some (exo a C none) ∧
  ∀ (d : Addr) (H' : Hp), H d = none → d ≠ a → H' a = some (exo a C (some d)) → H' d = some (exd d (fs ws)) → (∀ b, b ≠ a → b ≠ d → H' b = H b) → Q .non H'
/-- .. of the base, for any class above it that has no attribute of the name -/
def spBase (K : PySem.W.Frag) (f : Str) : Sp := fun vs H Q _ => ∃ (a C : Addr) (v : V), vs = [.ref a, v] ∧ OexC K C ∧ PySem.W.findIn K (.ref C) f = some none ∧ H a = some (exo a C none) ∧
  ∀ (d : Addr), H d = none → d ≠ a → Q .non (upd (upd H d (exd d [(f, v)])) a (exo a C (some d)))
/-- a base: its class, its __init__ -/
structure ExB (P : Program) (w : World) (K : PySem.W.Frag) (mg : Str → Option Value) (base : Heap) (x : Str) (fw : Str) : Prop where
  ex : ∃ (CL f : Addr) (fd : FuncData) (mc : Value), mg x = some (.ref CL) ∧ ClX.CRead K CL mc ∧ PySem.W.findCls K (.ref CL) mc "__init__" = some (.val (.ref f)) ∧ FnOk P w K mg base (L2.CX P w) 1 f fd ["self", "word"] (spBase K fw) ∧ PySem.W.keepIn K (.ref f) = true ∧ Binds K fd ["self", "word"] []
/-- a class that is raised: n arguments, its fields by them (the last one stored first) -/
structure ExC (P : Program) (w : World) (K : PySem.W.Frag) (mg : Str → Option Value) (base : Heap) (x : Str) (C : Addr) (n : Nat) (fs : List V → List (Str × V)) : Prop where
  T : OexC K C
  mgC : mg x = some (.ref C)
  ex : ∃ (f : Addr) (fd : FuncData) (ps : List Str), PySem.W.findIn K (.ref C) "__init__" = some (some (.ref f)) ∧ PySem.W.typeIn K (.ref f) = some (.type "function") ∧ FnOk P w K mg base (L2.CX P w) 2 f fd ps (spIni C n fs) ∧ Binds K fd ps []
theorem passL0 {X : Cx} : Passes (L2.CX X.prog X.w) X (fun _ _ _ => False) := fun _ _ _ _ _ _ _ h => by
  obtain ⟨_, _, _, _, _, _, _, _, _, _, _, _, z⟩ := h
  exact z.elim
section
variable {P : Program} {w : World} {K : PySem.W.Frag} {mg : Str → Option Value} {base : Heap}
/-- def __init__(self, word): self.word = word -/
theorem okBase {qual f : Str} {st : Stmt} {g : Addr} {fd : FuncData} (F : FunK K "__init__" qual st g fd) (S : FnScope ["self", "word"] ["self", "word"] (defScope st))
    (hps : ∀ (cdv : Value) (A : Around) (outer : List Env) (s : Shared) (H : Hp) (E : XK), PSs (cxOf (L2.CX P w) P w K mg base ["self", "word"] qual (defScope st) g cdv A outer s H E) (defBody st) (tOst K f (tVar 0) (tVar 1))) :
    FnOk P w K mg base (L2.CX P w) 1 g fd ["self", "word"] (spBase K f) := by
  refine F.okX S (fun vs H Q E ⟨a, C, v, e, _⟩ => by subst e; rfl) fun cdv A outer s H vs Q E hr h => ?_
  obtain ⟨a, C, v, rfl, T, hno, ha, k⟩ := h
  refine ⟨_, hps cdv A outer s H E, ?_⟩
  exact ⟨v, rfl, .ref a, rfl, a, C, rfl, T, hno, .inl ⟨ha, fun d hd hne => k d hd hne⟩⟩
/-- def __init__(self): B.__init__(self, 'word') -/
theorem okIni0 {qual bx wd : Str} {st : Stmt} {C g : Addr} {fd : FuncData} (B : ExB P w K mg base bx "word") (T : OexC K C) (hno : PySem.W.findIn K (.ref C) "word" = some none) (F : FunK K "__init__" qual st g fd) (S : FnScope ["self"] ["self"] (defScope st))
    (hps : ∀ (CL f : Addr) (fdb : FuncData) (mc : Value), mg bx = some (.ref CL) → ClX.CRead K CL mc → PySem.W.findCls K (.ref CL) mc "__init__" = some (.val (.ref f)) → FnOk P w K mg base (L2.CX P w) 1 f fdb ["self", "word"] (spBase K "word") → PySem.W.keepIn K (.ref f) = true → Binds K fdb ["self", "word"] [] →
      ∀ (cdv : Value) (A : Around) (outer : List Env) (s : Shared) (H : Hp) (E : XK), Room 1 (A.deeper (PyProof.Rows.envOfC qual (defScope st) s.heap.objs.size g cdv)) → PSs (cxOf (L2.CX P w) P w K mg base ["self"] qual (defScope st) g cdv A outer s H E) (defBody st) (tDrop (tCall (spBase K "word") [] (fun _ _ _ => False) (tCons (tVar 0) (tCons (tC (.str wd)) tNil))))) :
    FnOk P w K mg base (L2.CX P w) 2 g fd ["self"] (spIni C 0 fun _ => [("word", .str wd)]) := by
  refine F.okX S (fun vs H Q E ⟨a, ws, e, hl, _⟩ => by
    subst e
    have : ws = [] := List.length_eq_zero_iff.mp hl
    subst this
    rfl) fun cdv A outer s H vs Q E hr h => ?_
  obtain ⟨a, ws, rfl, hl, ha, k⟩ := h
  have e : ws = [] := List.length_eq_zero_iff.mp hl
  subst e
  obtain ⟨CL, f, fdb, mc, m1, r, kk, Fb, kp, bb⟩ := B.ex
  refine ⟨_, hps CL f fdb mc m1 r kk Fb kp bb cdv A outer s H E hr, ?_⟩
  refine ⟨.ref a, rfl, a, C, .str wd, rfl, T, hno, ha, fun d hd hne => ?_⟩
  refine k d _ hd hne upd_same (by rw [upd_ne hne, upd_same]) fun b h1 h2 => by rw [upd_ne h1, upd_ne h2]
/-- def __init__(self, y): B.__init__(self, 'word'); self.y = y -/
theorem okIni1 {qual bx wd y : Str} {st : Stmt} {C g : Addr} {fd : FuncData} (B : ExB P w K mg base bx "word") (T : OexC K C) (hno : PySem.W.findIn K (.ref C) "word" = some none) (hno2 : PySem.W.findIn K (.ref C) y = some none) (F : FunK K "__init__" qual st g fd) (S : FnScope ["self", y] ["self", y] (defScope st))
    (hps : ∀ (CL f : Addr) (fdb : FuncData) (mc : Value), mg bx = some (.ref CL) → ClX.CRead K CL mc → PySem.W.findCls K (.ref CL) mc "__init__" = some (.val (.ref f)) → FnOk P w K mg base (L2.CX P w) 1 f fdb ["self", "word"] (spBase K "word") → PySem.W.keepIn K (.ref f) = true → Binds K fdb ["self", "word"] [] →
      ∀ (cdv : Value) (A : Around) (outer : List Env) (s : Shared) (H : Hp) (E : XK), Room 1 (A.deeper (PyProof.Rows.envOfC qual (defScope st) s.heap.objs.size g cdv)) → PSs (cxOf (L2.CX P w) P w K mg base ["self", y] qual (defScope st) g cdv A outer s H E) (defBody st)
        (tSeq (tDrop (tCall (spBase K "word") [] (fun _ _ _ => False) (tCons (tVar 0) (tCons (tC (.str wd)) tNil)))) (tOst K y (tVar 0) (tVar 1)))) :
    FnOk P w K mg base (L2.CX P w) 2 g fd ["self", y] (spIni C 1 fun ws => [(y, ws.headD .non), ("word", .str wd)]) := by
  refine F.okX S (fun vs H Q E ⟨a, ws, e, hl, _⟩ => by
    subst e
    match ws, hl with
    | [v], _ => rfl) fun cdv A outer s H vs Q E hr h => ?_
  obtain ⟨a, ws, rfl, hl, ha, k⟩ := h
  match ws, hl with
  | [v], _ =>
  obtain ⟨CL, f, fdb, mc, m1, r, kk, Fb, kp, bb⟩ := B.ex
  refine ⟨_, hps CL f fdb mc m1 r kk Fb kp bb cdv A outer s H E hr, ?_⟩
  refine ⟨.ref a, rfl, a, C, .str wd, rfl, T, hno, ha, fun d hd hne => ?_⟩
  refine ⟨v, rfl, .ref a, rfl, a, C, rfl, T, hno2, .inr ⟨d, [("word", .str wd)], upd_same, by rw [upd_ne hne, upd_same], Nat.le_of_ble_eq_true rfl, ?_⟩⟩
  refine k d _ hd hne (by rw [upd_ne (Ne.symm hne), upd_same]) upd_same fun b h1 h2 => by rw [upd_ne h2, upd_ne h1, upd_ne h2]
end
section
variable {X : Cx} {CX : CXT} {k : Nat} {C fI : Addr} {fd : FuncData} {ps : List Str} {sp : Sp} {x : Str} {p pos : Pos}
/-- C() -/
theorem pmk_oex0 (T : OexC X.K C) (iC : PySem.W.findIn X.K (.ref C) "__init__" = some (some (.ref fI))) (tI : PySem.W.typeIn X.K (.ref fI) = some (.type "function"))
    (F1 : FnOk X.prog X.w X.K X.mg X.base CX k fI fd ps sp) (hr : Room (k + 1) X.A) (hb : Binds X.K fd ps []) (hx : Passes CX X (fun _ _ _ => False)) (hg : Gl X x) (hm : X.mg x = some (.ref C)) (hdb : (x == ("__debug__" : Str)) = false := by decide) :
    PMk X (.Call (.Name x p) [] [] pos) (tMkO C sp [] tNil) := by
  intro pins s σ H Q I1 h
  obtain ⟨nm, q, N, bs, bm, sn, sub, ab, col, dd, k0, k1, k2, k3, k5, hC, hbm⟩ := T.cls
  obtain ⟨hz, q1⟩ := (show _ ∧ _ from h)
  refine wpAny_Call_Name_kw (ld_glob I1 hg hm ?_ hdb)
  refine PySem.W.callWith_K0 I1.kIn T.kC ?_
  obtain ⟨hp, g, dr, tk, os⟩ := s
  have hsz : hp.objs.size ≤ hp.objs.size + 1 := Nat.le_succ _
  have hn : H (hp.objs.size + 1) = none := I1.hok.fresh hsz
  have hq := q1 (hp.objs.size + 1) hn
  have kk : ∀ b o, hp.get? b = some o → ((hp.push (PySem.W.kdv_tup [])).push (PySem.HandSPX.excO C hp.objs.size)).get? b = some o := fun b o e => Heap.get?_push_of_some _ (Heap.get?_push_of_some _ e)
  have hget : ((hp.push (PySem.W.kdv_tup [])).push (PySem.HandSPX.excO C hp.objs.size)).get? (hp.objs.size + 1) = some (PySem.HandSPX.excO C hp.objs.size) := by heap_get
  have I2 : Inv X pins σ (upd H (hp.objs.size + 1) (exo (hp.objs.size + 1) C none)) ⟨(hp.push (PySem.W.kdv_tup [])).push (PySem.HandSPX.excO C hp.objs.size), g, dr, tk, os⟩ :=
    I1.laid (t' := tk) (a := hp.objs.size + 1) (o := exo (hp.objs.size + 1) C none) (h' := (hp.push (PySem.W.kdv_tup [])).push (PySem.HandSPX.excO C hp.objs.size)) kk hsz (exo_ok hget)
  have r2 : Vals [V.ref (hp.objs.size + 1)] [Value.ref (hp.objs.size + 1)] := .cons rfl .nil
  have hl : ([Value.ref (hp.objs.size + 1)] ++ []).length = ps.length := F1.len _ _ _ _ hq
  refine wpAny_call (PySem.HandSPX.call_own PySem.F.excBase_ValueError (fun Y => PySem.HandSPX.refsVE_contains Y bm hbm) (I1.kIn _ _ hC) (PySem.W.looks_findIn I1.kIn iC) (fun self => PySem.W.bind_fn I1.kIn self tI) (by decide)
    (codeAny_mono (F1.run _ X.stack _ _ ⟨[Value.ref (hp.objs.size + 1)], []⟩ [Value.ref (hp.objs.size + 1)] _ _ (fun _ _ _ => False) (hr.make C [] []) (I2.env0.make C [] []) (hb _ (Value.ref (hp.objs.size + 1) :: []) I2.kIn hl) r2 hq) fun r s' hq' => ?_))
  cases r with
  | error er => exact hx pins σ _ _ er s' I2 hq'
  | ok fl =>
    cases fl with
    | ret u =>
      obtain ⟨v, H2, os2, bare2, un2, hok2, rv, ev, d, fs, ea, ed, hd1, q2⟩ := hq'
      subst ev
      obtain ⟨h2, g2, d2, t2, os'⟩ := s'
      exact ⟨rv, mk_end (raises_own T.exC T.tyC) I1 hsz kk un2 hok2 os2 bare2 ea ed hd1 q2⟩
    | next => exact False.elim hq'
    | brk => exact False.elim hq'
    | cont => exact False.elim hq'
end
section
variable {X : Cx} {W : WT} {e : Expr} {es : List Expr} {x : Str} {p pos pos2 : Pos} {C : Addr} {n : Nat} {fs : List V → List (Str × V)} {fd : List D → List (Str × D)} {t : DTA}
/-- raise C(..): fd the fields by the arguments -/
def dRaise (C : Addr) (n : Nat) (fd : List D → List (Str × D)) (t : DTA) : DTS := fun Dn Γ M => t Γ M (fun ds M1 => ds.length = n ∧ Dn.ex Γ C (fd ds) M1) Dn.ex
theorem upRaise {ta : TA} {E : Ends} {σ : St} {H : Hp} (hn : n ≤ 1000) (hfd : ∀ F ws ds, Rps (kt X W) F ws ds → RpF (kt X W) F (fs ws) (fd ds)) (hta : ∀ Q, upA (kt X W) W.w t σ H Q → ta σ H Q) (h : upS (kt X W) W.w (dRaise C n fd t) E σ H) :
    tMkO C (spIni C n fs) [] ta σ H (fun cls d H' => W.w cls d σ H') := by
  obtain ⟨Γ, M, F, Dn, a, q, k⟩ := h
  refine hta _ ⟨Γ, M, F, _, _, a, q, fun F1 H1 vs ds M1 s1 c1 r1 ⟨hl, q1⟩ => ⟨by rw [r1.length, hl]; exact hn, fun b hb => ?_⟩⟩
  refine ⟨b, vs, by simp, by rw [r1.length, hl], upd_same, fun d H' hd hne e1 e2 e3 => ⟨rfl, d, fs vs, e1, e2, ?_, ?_⟩⟩
  · rw [upd_ne hne] at hd
    exact hd
  · rw [upd_ne hne] at hd
    have sm : Same H1 (upd (del H' b) d (.xd (fs vs))) := fun y o ey => by
      have h1 : y ≠ b := ne_of_none ey hb
      have h2 : y ≠ d := ne_of_none ey hd
      rw [upd_ne h2, del_ne h1, e3 y h1 h2, upd_ne h1]
      exact ey
    exact a.w F1 _ σ Γ C d (fs vs) (fd ds) M1 s1 (c1.same sm) (a.g.mono s1) upd_same (hfd F1 vs ds r1) q1
theorem ds_raise (Ec : ExC X.prog X.w X.K X.mg X.base x C n fs) (hn : n ≤ 1000) (hfd : ∀ F ws ds, Rps (kt X W) F ws ds → RpF (kt X W) F (fs ws) (fd ds)) (hr : Room 3 X.A) (hc : X.calm = true) (tk : Takes X W.w) (ha : DA X W (e :: es) t) (hg : Gl X x := by rfl) (hdb : (x == ("__debug__" : Str)) = false := by decide)
    (he : starEach (e :: es) X.env = (false, eval e X.env) :: starEach es X.env := by rfl) (hpl : (backTo pos (starEach es X.env)).any (·.1) = false := by rfl) : DS X W (.Raise (some (.Call (.Name x p) (e :: es) [] pos)) none pos2) (dRaise C n fd t) := by
  obtain ⟨f, fdd, ps, h1, h2, h3, h4⟩ := Ec.ex
  exact ⟨psW (ps_raise hc tk (pmk_oex Ec.T h1 h2 h3 hr h4 .nil passL0 hg Ec.mgC ha.pa hdb he hpl)) fun E σ H h => upRaise hn hfd (fun Q q => q) h⟩
theorem ds_raise0 (Ec : ExC X.prog X.w X.K X.mg X.base x C 0 fs) (hfd : ∀ F ws ds, Rps (kt X W) F ws ds → RpF (kt X W) F (fs ws) (fd ds)) (hr : Room 3 X.A) (hc : X.calm = true) (tk : Takes X W.w) (hg : Gl X x := by rfl) (hdb : (x == ("__debug__" : Str)) = false := by decide) : DS X W (.Raise (some (.Call (.Name x p) [] [] pos)) none pos2) (dRaise C 0 fd dNil) := by
  obtain ⟨f, fdd, ps, h1, h2, h3, h4⟩ := Ec.ex
  exact ⟨psW (ps_raise hc tk (pmk_oex0 Ec.T h1 h2 h3 hr h4 passL0 hg Ec.mgC hdb)) fun E σ H h => upRaise (t := dNil) (by decide) hfd (fun Q ⟨Γ, M, F, E, Qd, a, q, k⟩ => k F H [] [] M (Same.refl _) a.c .nil q) h⟩
/-- BadX(): its word -/
def fd0 (wd : Str) : List D → List (Str × D) := fun _ => [("word", .str wd)]
theorem rf0 {K : KTb} {wd : Str} : ∀ F ws ds, Rps K F ws ds → RpF K F ((fun _ => [(("word" : Str), V.str wd)]) ws) (fd0 wd ds) := fun F ws ds _ => .cons ⟨rfl, .str _⟩ .nil
def fd1 (y wd : Str) : List D → List (Str × D) := fun ds => [(y, ds.headD .non), ("word", .str wd)]
theorem rf1 {K : KTb} {y wd : Str} : ∀ F ws ds, Rps K F ws ds → RpF K F ((fun ws : List V => [(y, ws.headD .non), (("word" : Str), V.str wd)]) ws) (fd1 y wd ds) := fun F ws ds r => by
  refine .cons ⟨rfl, ?_⟩ (.cons ⟨rfl, .str _⟩ .nil)
  cases r with
  | nil => exact .non
  | cons h _ => exact h
end
end DL
namespace DLS
open PySem PyProof.Rows SrtO Srt
abbrev lexLt := HT.lexLt
/-- of one length: a strict weak (even total) order -/
theorem lex_asym : ∀ (l m : List Int), l.length = m.length → lexLt l m = true → lexLt m l = false
  | [], [], _, h => by cases h
  | [], _ :: _, h, _ => by cases h
  | _ :: _, [], h, _ => by cases h
  | x :: l, y :: m, hl, h => by
    have h : (if x = y then lexLt l m else decide (x < y)) = true := h
    show (if y = x then lexLt m l else decide (y < x)) = false
    by_cases e : x = y
    · subst e
      rw [if_pos rfl] at h ⊢
      exact lex_asym l m (by simpa using hl) h
    · rw [if_neg e] at h
      rw [if_neg (Ne.symm e)]
      have := of_decide_eq_true h
      exact decide_eq_false (by omega)
theorem lex_tot : ∀ (l m : List Int), l.length = m.length → lexLt l m = false → lexLt m l = false → l = m
  | [], [], _, _, _ => rfl
  | [], _ :: _, h, _, _ => by cases h
  | _ :: _, [], h, _, _ => by cases h
  | x :: l, y :: m, hl, h, h2 => by
    have h : (if x = y then lexLt l m else decide (x < y)) = false := h
    have h2 : (if y = x then lexLt m l else decide (y < x)) = false := h2
    by_cases e : x = y
    · subst e
      rw [if_pos rfl] at h h2
      rw [lex_tot l m (by simpa using hl) h h2]
    · rw [if_neg e] at h
      rw [if_neg (Ne.symm e)] at h2
      have := of_decide_eq_false h
      have := of_decide_eq_false h2
      omega
theorem lex_trans : ∀ (l m n : List Int), l.length = m.length → m.length = n.length → lexLt l m = true → lexLt m n = true → lexLt l n = true
  | [], [], _, _, _, h, _ => by cases h
  | [], _ :: _, _, h, _, _, _ => by cases h
  | _ :: _, [], _, h, _, _, _ => by cases h
  | _ :: _, _ :: _, [], _, h, _, _ => by cases h
  | x :: l, y :: m, z :: n, h1, h2, a, b => by
    have a : (if x = y then lexLt l m else decide (x < y)) = true := a
    have b : (if y = z then lexLt m n else decide (y < z)) = true := b
    show (if x = z then lexLt l n else decide (x < z)) = true
    by_cases e : x = y
    · subst e
      rw [if_pos rfl] at a
      by_cases f : x = z
      · subst f
        rw [if_pos rfl] at b ⊢
        exact lex_trans l m n (by simpa using h1) (by simpa using h2) a b
      · rw [if_neg f] at b ⊢
        exact b
    · rw [if_neg e] at a
      have a := of_decide_eq_true a
      by_cases f : y = z
      · subst f
        rw [if_neg e]
        exact decide_eq_true a
      · rw [if_neg f] at b
        have b := of_decide_eq_true b
        rw [if_neg (by omega)]
        exact decide_eq_true (by omega)
/-- the order on values by their ints; of other length: by the length -/
def lexK (d : Nat) (l m : List Int) : Bool := if l.length = d ∧ m.length = d then lexLt l m else decide (l.length = d ∧ m.length ≠ d)
theorem swo_lexK (d : Nat) (k : Value → List Int) : Swo fun v u => lexK d (k v) (k u) := by
  refine ⟨fun x y h => ?_, fun x y z h1 h2 => ?_⟩
  · unfold lexK at h ⊢
    by_cases a : (k x).length = d <;> by_cases b : (k y).length = d <;> simp [a, b] at h ⊢
    exact lex_asym _ _ (a.trans b.symm) h
  · unfold lexK at h1 h2 ⊢
    by_cases a : (k x).length = d <;> by_cases b : (k y).length = d <;> by_cases c : (k z).length = d <;> simp [a, b, c] at h1 h2 ⊢
    -- not less is passed on
    cases e : lexLt (k z) (k x) with
    | false => rfl
    | true =>
      exfalso
      cases e2 : lexLt (k x) (k y) with
      | true =>
        have := lex_trans _ _ _ (c.trans a.symm) (a.trans b.symm) e e2
        rw [h2] at this
        cases this
      | false =>
        have := lex_tot _ _ (a.trans b.symm) e2 h1
        rw [this, h2] at e
        cases e
section
variable {prog : Program} {w : World} {A : Around} {E : Value → Shared → Prop} {s : Shared}
theorem kat_ints {Q : Bool → Shared → Prop} : ∀ (us vs : List Value) (l m : List Int) (i : Nat), IntsAre us l → IntsAre vs m → l.length = m.length → Q (lexLt l m) s → PySem.W.KatLex prog w A true false Q (us.zip vs) i s
  | _, _, _, _, i, .nil, .nil, _, q => PySem.W.kat_nil q
  | _, _, _, _, i, .nil, .cons .., h, _ => by cases h
  | _, _, _, _, i, .cons .., .nil, h, _ => by cases h
  | _, _, _, _, i, .cons (vs := us) (ns := l) x t hu, .cons (vs := vs) (ns := m) y u hv, h, q => by
    refine PySem.W.kat_cons (SeqAt.EqAt.int_int x t y u prog w _ _ ?_)
    have q : Q (if x = y then lexLt l m else decide (x < y)) s := q
    refine PySem.W.kat_go (fun e1 => ?_) (fun e1 => ?_)
    · have ex : x = y := by simpa using e1
      rw [if_pos ex] at q
      exact PySem.W.kat_yes (kat_ints us vs l m (i + 1) hu hv (by simpa using h) q)
    · have ex : ¬ x = y := by simpa using e1
      rw [if_neg ex] at q
      by_cases hi : i = 0
      · subst hi
        exact PySem.W.kat_no (oneLt_int q)
      · have hb : (true && i == 0) = false := by simp [hi]
        refine PySem.W.kat_no ?_
        rw [hb]
        exact PySem.W.kat_one _ _ (PyProof.Rows.lt_int q)
theorem tups_cmp {vs : List Value} {d : Nat} {k : Value → List Int} (hp : ∀ v ∈ vs, TS.TupInts s.heap v (k v) ∧ (k v).length = d) : Cmp prog w A s (tuples' true) (fun p => p.1 ∈ vs) (lt2 fun v u => lexK d (k v) (k u)) := by
  intro p q hm hm'
  obtain ⟨h1, l1⟩ := hp _ hm
  obtain ⟨h2, l2⟩ := hp _ hm'
  show wpAny (model prog w) A (keyLt' (tuples' true) p.1 q.1) (fun r s' => s' = s ∧ r = lexK d (k p.1) (k q.1)) (fun _ _ => False) s
  have el : lexK d (k p.1) (k q.1) = lexLt (k p.1) (k q.1) := by
    unfold lexK
    rw [if_pos ⟨l1, l2⟩]
  rw [el]
  have ll := l1.trans l2.symm
  generalize k p.1 = l at h1 ll ⊢
  generalize k q.1 = m at h2 ll ⊢
  obtain ⟨a, xs, e, ⟨o, ho, hc, n, hd⟩, hi⟩ := h1
  obtain ⟨a', xs', e', ⟨o', ho', hc', n', hd'⟩, hi'⟩ := h2
  rw [e, e']
  refine PySem.W.kat_lt ho hd ho' hd' ?_
  have hs : (decide (xs.size < xs'.size)) = false := by
    have h1 := hi.length
    have h2 := hi'.length
    rw [Array.length_toList] at h1 h2
    exact decide_eq_false (by omega)
  rw [hs]
  exact kat_ints _ _ _ _ 0 hi hi' ll ⟨rfl, rfl⟩
theorem tupKeep {h h' : Heap} {v : Value} {ns : List Int} (x : TS.TupInts h v ns) (k : ∀ b o, h.get? b = some o → o.cls = .type "tuple" → h'.get? b = some o) : TS.TupInts h' v ns := by
  obtain ⟨a, xs, e, ⟨o, ho, hc, r⟩, hi⟩ := x
  exact ⟨a, xs, e, ⟨o, k _ _ ho hc, hc, r⟩, hi⟩
theorem firsts_tups {h : Heap} {d : Nat} (hd : 1 ≤ d) : ∀ {vs : List Value} {k : Value → List Int}, (∀ v ∈ vs, TS.TupInts h v (k v) ∧ (k v).length = d) → ∃ fs, PySem.W.KatTups h vs fs ∧ fs.length = vs.length ∧ ∀ f ∈ fs, ∃ x t, f = Value.int x t
  | [], _, _ => ⟨[], .nil, rfl, fun f hf => by cases hf⟩
  | v :: vs, k, hp => by
    obtain ⟨fs, h1, h2, h3⟩ := firsts_tups hd (vs := vs) (k := k) fun u hu => hp u (List.mem_cons_of_mem _ hu)
    obtain ⟨⟨a, xs, e, ⟨o, ho, hc, n, hdt⟩, hi⟩, l⟩ := hp v List.mem_cons_self
    have hlen : 0 < xs.toList.length := by rw [hi.length, l]; omega
    obtain ⟨f, hf⟩ : ∃ f, xs.toList[0]? = some f := ⟨xs.toList[0], List.getElem?_eq_getElem hlen⟩
    have hint : ∃ x t, f = Value.int x t := by
      clear l hlen
      generalize xs.toList = ys at hi hf
      generalize k v = kk at hi
      cases hi with
      | nil => cases hf
      | cons x t r =>
        cases hf
        exact ⟨x, t, rfl⟩
    refine ⟨f :: fs, ?_, congrArg (· + 1) h2, fun g hg => ?_⟩
    · rw [e]
      exact .cons ho hc hdt (by rw [← Array.getElem?_toList]; exact hf) h1
    · rcases List.mem_cons.mp hg with z | z
      · rw [z]; exact hint
      · exact h3 g z
theorem tups_sortableO {a : Addr} {vs : List Value} {d : Nat} {k : Value → List Int} (h0 : 0 < vs.length) (hd : 1 ≤ d) (hp : ∀ v ∈ vs, TS.TupInts s.heap v (k v) ∧ (k v).length = d) (ha : ∀ o, s.heap.get? a = some o → o.cls ≠ .type "tuple") : SortableO prog w A s a vs fun v u => lexK d (k v) (k u) := by
  intro h' keep
  have hp' : ∀ v ∈ vs, TS.TupInts h' v (k v) ∧ (k v).length = d := fun v hm => ⟨tupKeep (hp v hm).1 fun b o e c => keep b o (fun z => by subst z; exact ha o e c) e, (hp v hm).2⟩
  obtain ⟨fs, h1, h2, h3⟩ := firsts_tups hd hp'
  refine ⟨tuples' true, fun Q E hq => ?_, tups_cmp hp'⟩
  refine PySem.W.kat_kind (T := .type "int") h1 (by omega) (fun f hm => ?_) (by rfl) ?_
  · obtain ⟨x, t, rfl⟩ := h3 f hm
    exact PySem.W.Looks.now
  · have e : (Value.type "int" != Value.type "tuple") = true := by first | decide +kernel | rfl | decide
    rw [e]
    exact hq
/-- sorted(l) of tuples of d ints, any number of them -/
theorem sorted_tupsO {l : Addr} {vs : List Value} {d : Nat} {k : Value → List Int} {Q : Value → Shared → Prop} (hd : 1 ≤ d) (hl : s.heap.IsList l vs.toArray) (hz : vs.length ≤ sizeLine) (hp : ∀ v ∈ vs, TS.TupInts s.heap v (k v) ∧ (k v).length = d)
    (h : ∀ (h' : Heap) (dd : Addr) (out : List Value), Srtd (fun v u => lexK d (k v) (k u)) out → out.Perm vs → (∀ b o, s.heap.get? b = some o → h'.get? b = some o) → s.heap.objs.size ≤ dd → (∃ n, h'.get? dd = some (seqObj "list" out.toArray n)) → Q (.ref dd) { s with heap := h' }) :
    wpAny (model prog w) A (call (.builtin "sorted") [.ref l]) Q E s := by
  refine sorted_ord (swo_lexK d k) hl hz (fun h2 h₁ a ha kk => ?_) fun out hs hb => ?_
  · refine tups_sortableO (s := { s with heap := h₁ }) (by omega) hd (fun v hm => ⟨tupKeep (hp v hm).1 fun b o e _ => (kk b o e).2, (hp v hm).2⟩) fun o e => ?_
    have e' : some o = some (seqObj "list" vs.toArray 0) := e.symm.trans ha
    cases e'
    intro c
    exact absurd (Value.type.inj c) (by decide)
  · exact h _ _ out hs hb.perm (fun b o e => sortedAll_old e) (Nat.le_succ _) (sortedAll_at s.heap vs out.toArray)
end
end DLS
namespace DL
open PySem L2
abbrev tupI (ks : List Int) : D := .tup (ks.map D.int)
def rSortedTs (K : PySem.W.Frag) : List V → Hp → VK → Prop := fun vs H Q => ∃ (a : Addr) (L : List (Addr × List Int)) (d : Nat), vs = [V.ref a] ∧ SqL K H a (L.map fun p => V.ref p.1) ∧ 1 ≤ d ∧ (∀ p ∈ L, SqT K H p.1 (p.2.map V.int) ∧ p.2.length = d) ∧
  ∀ (L' : List (Addr × List Int)) (p : Addr), L'.Perm L → L'.Pairwise (fun x y => HT.lexLt y.2 x.2 = false) → H p = none → Q (.ref p) (upd H p (.lst (L'.map fun p => V.ref p.1)))
theorem vals_refs : ∀ {L : List (Addr × List Int)} {us : List Value}, Vals (L.map fun p => V.ref p.1) us → us = L.map fun p => Value.ref p.1
  | [], _, .nil => rfl
  | p :: L, _, .cons r t => by
    cases r
    rw [vals_refs t]
    rfl
theorem refs_vals : ∀ (L : List (Addr × List Int)), Vals (L.map fun p => V.ref p.1) (L.map fun p => Value.ref p.1)
  | [] => .nil
  | p :: L => .cons rfl (refs_vals L)
def adr : Value → Addr
  | .ref a => a
  | _ => 0
theorem cr_sortedTs {X : Cx} : CallR X (.builtin "sorted") (rSortedTs X.K) := by
  intro pins s σ H vs us Q I r h
  obtain ⟨a, L, d, rfl, hs, hd, hL, q⟩ := h
  obtain ⟨its, rv, hl, hz⟩ := I.list hs
  obtain ⟨u, rfl, ru⟩ := vals1 r
  obtain rfl : u = Value.ref a := ru
  have eits := vals_refs rv
  have tup : ∀ p ∈ L, TS.TupInts s.heap (.ref p.1) p.2 := fun p hp => tupI_raw I (hL p hp).1
  have hk : ∀ v ∈ its, TS.TupInts s.heap v (TS.intsOf s.heap v) ∧ (TS.intsOf s.heap v).length = d := fun v hv => by
    rw [eits] at hv
    obtain ⟨p, hp, rfl⟩ := List.mem_map.mp hv
    rw [(tup p hp).ints]
    exact ⟨tup p hp, (hL p hp).2⟩
  refine DLS.sorted_tupsO hd hl.isList (by rw [← rv.length]; exact hz) hk fun h' dd out h1 h2 kp hdd hn => ?_
  obtain ⟨n, hn⟩ := hn
  -- the pairs of the values that came
  have eL : L = its.map fun v => (adr v, TS.intsOf s.heap v) := by
    rw [eits, List.map_map]
    have : ∀ p ∈ L, p = ((fun v => (adr v, TS.intsOf s.heap v)) ∘ fun p => Value.ref p.1) p := fun p hp => by
      show p = (p.1, TS.intsOf s.heap (.ref p.1))
      rw [(tup p hp).ints]
    calc L = L.map id := by simp
      _ = _ := List.map_congr_left this
  have perm : (out.map fun v => (adr v, TS.intsOf s.heap v)).Perm L := by
    have z := h2.map fun v => (adr v, TS.intsOf s.heap v)
    rw [← eL] at z
    exact z
  have eo : out = (out.map fun v => (adr v, TS.intsOf s.heap v)).map fun p => Value.ref p.1 := by
    rw [List.map_map]
    have : ∀ v ∈ out, v = ((fun p : Addr × List Int => Value.ref p.1) ∘ fun v => (adr v, TS.intsOf s.heap v)) v := fun v hv => by
      have hv := h2.mem_iff.mp hv
      rw [eits] at hv
      obtain ⟨p, hp, rfl⟩ := List.mem_map.mp hv
      rfl
    calc out = out.map id := by simp
      _ = _ := List.map_congr_left this
  have pw : (out.map fun v => (adr v, TS.intsOf s.heap v)).Pairwise fun x y => HT.lexLt y.2 x.2 = false := by
    rw [List.pairwise_map]
    refine List.Pairwise.imp_of_mem (fun {x y} hx hy hxy => ?_) h1
    have l1 := (hk x (h2.mem_iff.mp hx)).2
    have l2 := (hk y (h2.mem_iff.mp hy)).2
    have hxy : DLS.lexK d (TS.intsOf s.heap y) (TS.intsOf s.heap x) = false := hxy
    unfold DLS.lexK at hxy
    rw [if_pos ⟨l2, l1⟩] at hxy
    exact hxy
  have hlen : ((out.map fun v => (adr v, TS.intsOf s.heap v)).map fun p => V.ref p.1).length ≤ sizeLine := by
    rw [List.length_map, List.length_map, h2.length_eq, ← rv.length]
    exact hz
  exact ⟨.ref dd, upd H dd (.lst ((out.map fun v => (adr v, TS.intsOf s.heap v)).map fun p => V.ref p.1)), I.laid (o := .lst ((out.map fun v => (adr v, TS.intsOf s.heap v)).map fun p => V.ref p.1)) (t' := s.toks) kp hdd ⟨hlen, out, n, (congrArg (Vals _) eo.symm).mp (refs_vals _), hn⟩, rfl, q _ dd perm pw (I.hok.fresh hdd)⟩
def rdSortedT : D1s := fun ds M Q => ∃ (d : D) (Ls : List (List Int)) (n : Nat), ds = [d] ∧ sqD M d = some (Ls.map tupI) ∧ 1 ≤ n ∧ (∀ k ∈ Ls, k.length = n) ∧
  ∀ (Ls' : List (List Int)) (p : Addr), Ls'.Perm Ls → Ls'.Pairwise (fun x y => HT.lexLt y x = false) → M p = none → Q (.ref p) (mup M p (.lst (Ls'.map tupI)))
theorem tups_of {K : KTb} {M : Mp} {F H : Hp} (c : Cc K M F H) : ∀ {vs : List V} {Ls : List (List Int)}, Rps K F vs (Ls.map tupI) → ∃ L : List (Addr × List Int), vs = L.map (fun p => V.ref p.1) ∧ Ls = L.map (·.2) ∧ ∀ p ∈ L, SqT K.K H p.1 (p.2.map V.int) ∧ Rp K F (.ref p.1) (tupI p.2)
  | [], [], _ => ⟨[], rfl, rfl, fun p hp => by cases hp⟩
  | [], _ :: _, r => by cases r
  | _ :: _, [], r => by cases r
  | v :: vs, k :: Ls, r => by
    cases r with
    | cons r1 r2 =>
      obtain ⟨L, h1, h2, h3⟩ := tups_of c r2
      obtain ⟨a, us, rfl, h4, h5⟩ := tp_of c r1
      rw [h5.ints] at h4
      refine ⟨(a, k) :: L, by rw [h1]; rfl, by rw [h2]; rfl, fun p hp => ?_⟩
      rcases List.mem_cons.mp hp with e | hp
      · subst e
        exact ⟨h4, r1⟩
      · exact h3 p hp
theorem real_sortedT {K : KTb} : Real1 K (rSortedTs K.K) rdSortedT := fun F H M xs ds Qd Q c r ⟨d, Ls, n, e1, h, hn, hl, q⟩ k => by
  subst e1
  obtain ⟨v, rfl, rv⟩ := rps1 r
  obtain ⟨a, vs, rfl, h1, r1⟩ := sq_of c rv h
  obtain ⟨L, rfl, rfl, h3⟩ := tups_of c r1
  refine ⟨a, L, n, rfl, h1, hn, fun p hp => ⟨(h3 p hp).1, hl _ (List.mem_map.mpr ⟨p, hp, rfl⟩)⟩, fun L' p pm pw hp => ?_⟩
  have rr : ∀ L'' : List (Addr × List Int), (∀ p ∈ L'', p ∈ L) → Rps K F (L''.map fun p => V.ref p.1) ((L''.map (·.2)).map tupI) := by
    intro L''
    induction L'' with
    | nil => intro _; exact .nil
    | cons p L'' ih => intro hh; exact .cons (h3 p (hh p List.mem_cons_self)).2 (ih fun q hq => hh q (List.mem_cons_of_mem _ hq))
  exact k _ _ _ _ _ (Same.refl _) (c.newM (x := .lst ((L'.map (·.2)).map tupI)) hp ⟨_, rfl, rr L' fun p hp => pm.mem_iff.mp hp⟩) (.ref p) (q (L'.map (·.2)) p (pm.map _) (by rw [List.pairwise_map]; exact pw) (c.Mnone hp))
def rdSortedI : D1s := fun ds M Q => ∃ (d : D) (ns : List Int), ds = [d] ∧ sqD M d = some (ns.map D.int) ∧ ∀ (ns' : List Int) (p : Addr), ns'.Perm ns → ns'.Pairwise (· ≤ ·) → M p = none → Q (.ref p) (mup M p (.lst (ns'.map D.int)))
theorem real_sortedI {K : KTb} : Real1 K (rSortedI K.K) rdSortedI := fun F H M xs ds Qd Q c r ⟨d, ns, e1, h, q⟩ k => by
  subst e1
  obtain ⟨v, rfl, rv⟩ := rps1 r
  obtain ⟨a, vs, rfl, h1, r1⟩ := sq_of c rv h
  rw [r1.ints] at h1
  exact ⟨a, ns, rfl, h1, fun ns' p pm pw hp => k _ _ _ _ _ (Same.refl _) (c.newM (x := .lst (ns'.map D.int)) hp ⟨_, rfl, Rps.ofInts ns'⟩) (.ref p) (q ns' p pm pw (c.Mnone hp))⟩
theorem CallR.orr {X : Cx} {f : Value} {r r' : List V → Hp → VK → Prop} (h : CallR X f r) (h' : CallR X f r') : CallR X f (fun x H Q => r x H Q ∨ r' x H Q) := by
  intro pins s σ H xs us Q I r1 q
  rcases q with q | q
  · exact h pins s σ H xs us Q I r1 q
  · exact h' pins s σ H xs us Q I r1 q
theorem Real1.orr {K : KTb} {r r' : List V → Hp → VK → Prop} {rd rd' : D1s} (h : Real1 K r rd) (h' : Real1 K r' rd') : Real1 K (fun x H Q => r x H Q ∨ r' x H Q) (fun ds M Q => rd ds M Q ∨ rd' ds M Q) := fun F H M xs ds Qd Q c rr q k =>
  q.imp (fun q => h F H M xs ds Qd Q c rr q k) fun q => h' F H M xs ds Qd Q c rr q k
/-- sorted of ints, of tuples of ints: a cell -/
def rdSorted : D1s := fun ds M Q => rdSortedI ds M Q ∨ rdSortedT ds M Q
section
variable {X : Cx} {W : WT} {e a b : Expr} {es : List Expr} {pos : Pos}
theorem de_sorted {x : Str} {p : Pos} {t : DTA} (hm : X.mg x = none) (hv : bootBuiltins x = some (.builtin "sorted")) (ha : DA X W (e :: es) t) (hg : Gl X x := by rfl) (hn : x ≠ "__name__" := by decide) (hdb : (x == ("__debug__" : Str)) = false := by decide)
    (he : starEach (e :: es) X.env = (false, eval e X.env) :: starEach es X.env := by rfl) (hpl : (backTo pos (starEach es X.env)).any (·.1) = false := by rfl) : DE X W (.Call (.Name x p) (e :: es) [] pos) (dCB rdSorted t) :=
  de_callB (CallR.orr cr_sortedI cr_sortedTs) (real_sortedI.orr real_sortedT) hg hm hv ha hn hdb he hpl
/-- a cell handed on is frozen -/
def dFrz (t : DTE) : DTE := fun Γ M Q E => t Γ M (fun d M1 => ∃ p xs, d = .ref p ∧ M1 p = some (.lst xs) ∧ Q (.lst xs) (mdel M1 p)) E
theorem de_frz {t : DTE} (h : DE X W e t) : DE X W e (dFrz t) := ⟨peW h.pe fun σ H Q ⟨Γ, M, F, E, Qd, a, q, k⟩ => ⟨Γ, M, F, E, _, a, q, fun F1 H1 v d M1 s1 c1 r1 ⟨p, xs, e1, e2, q1⟩ => by
  subst e1
  cases r1
  obtain ⟨F2, s2, c2, r2⟩ := c1.freeze e2
  exact k F2 H1 _ _ _ (s1.trans s2) c2 r2 q1⟩⟩
/-- list(xs), list(t): a cell -/
def rdList : D1s := fun ds M Q => ∃ d xs, ds = [d] ∧ seqD M d = some xs ∧ ∀ p, M p = none → Q (.ref p) (mup M p (.lst xs))
end
end DL
namespace DL
open PySem L2
end DL
namespace DL
open PySem L2
section
variable {X : Cx} {W : WT} {e : Expr} {pos : Pos}
open PyProof.Rows in
theorem pget_list : PGet X (rIxL X.K) := by
  intro pins s σ H x y v u Q I rx ry h
  obtain ⟨p, xs, i, z, rfl, rfl, hq, he, q⟩ := h
  cases rx
  obtain ⟨t, rfl⟩ := ry
  obtain ⟨its, r, pl, hz⟩ := I.list hq
  obtain ⟨j, h1, h2, h3, h4, h5⟩ := atI_get he
  obtain ⟨w, ew, rw'⟩ := r.get h2
  have hl := r.length
  have hn := line63
  have fin : EP X pins σ Q w s := ⟨z, H, I, rw', q⟩
  by_cases h0 : 0 ≤ i
  · have hj : i.toNat = j := by
      rw [seqIndex_of h0 h5] at h1
      exact Option.some.inj h1
    exact wpAny_getItem_list pl.isList h0 (by omega) (by rw [hj]; simpa using ew) fin
  · have hj : (i + (its.toArray.size : Int)).toNat = j := by
      rw [seqIndex_neg (by omega) h4] at h1
      rw [List.size_toArray, ← hl]
      exact Option.some.inj h1
    exact wpAny_getItem_list_neg pl.isList (by omega) (by rw [List.size_toArray] <;> omega) (by omega) (by rw [hj]; simpa using ew) fin
/-- o[i] op= e: a list's cell, ints -/
def dAugS (to ti te : DTE) (g : Int → Int → Int) : DTS := fun Dn Γ M => to Γ M (fun o M1 => ti Γ M1 (fun i M2 => ∃ p xs k j a, o = .ref p ∧ i = .int k ∧ M2 p = some (.lst xs) ∧ ixN xs.length k = some j ∧ atI xs k = some (.int a) ∧
  te Γ M2 (fun y M3 => ∃ b ys, y = .int b ∧ M3 p = some (.lst ys) ∧ ixN ys.length k = some j ∧ Dn.nx Γ (mup M3 p (.lst (ys.set j (.int (g a b)))))) Dn.ex) Dn.ex) Dn.ex
theorem ds_augS {o i e : Expr} {to ti te : DTE} {op : Operator} {tpos : Pos} {g : Int → Int → Int} (ho : DE X W o to) (hi : DE X W i ti) (he : DE X W e te) (hp : PIp X op (ipI g))
    (ha : ∀ ov iv new, augStore i ov iv new = (do holding [new, ov, iv] (setItem ov iv new); release [new, ov, iv] []; pure .next) := by intros; rfl) : DS X W (.AugAssign (.Subscript o i tpos) op e pos) (dAugS to ti te g) :=
  ⟨psW (ps_augS ho.pe hi.pe pget_list he.pe hp set_list ha) fun E σ H ⟨Γ, M, F, Dn, a, q, k⟩ => ⟨Γ, M, F, _, _, a, q, fun F1 H1 v d M1 s1 c1 r1 q1 => ⟨Γ, M1, F1, _, _, a.next s1 c1, q1, fun F2 H2 w e M2 s2 c2 r2 ⟨p, xs, kk, j, x, e1, e2, e3, hj, hx, q2⟩ => by
    subst e1
    subst e2
    cases r1
    cases r2
    obtain ⟨f, o, e4, us, e5, r5⟩ := c2.ow _ _ e3
    subst e5
    obtain ⟨z, h2, rz⟩ := atI_of r5 hx
    cases rz
    refine ⟨p, us, kk, _, rfl, rfl, .inl (.inl e4), h2, ?_⟩
    refine ⟨Γ, M2, F2, _, _, a.next (s1.trans s2) c2, q2, fun F3 H3 y d M3 s3 c3 r3 ⟨b, ys, e6, e7, hj2, q3⟩ => ?_⟩
    subst e6
    cases r3
    obtain ⟨f3, o3, e8, us3, e9, r9⟩ := c3.ow _ _ e7
    subst e9
    refine ⟨x, b, rfl, rfl, p, us3, kk, j, rfl, rfl, e8, by rw [r9.length]; exact hj2, ?_⟩
    exact k.nx _ _ _ _ _ ((s1.trans s2).trans s3) (c3.write (x := .lst _) e7 ⟨_, rfl, r9.set (.int _) j⟩) (a.g.mono ((s1.trans s2).trans s3)) q3⟩⟩⟩
end
theorem Room.un65 {k : Nat} {A : Around} (r : Room k A) : A.units + 65 < cLine := by have := r.un; omega
/-- list(xs), list(t): a cell; frozen -/
theorem real_list {K : KTb} : Real1 K (fun xs H Q => ∃ p ys, xs = [.ref p] ∧ (SqL K.K H p ys ∨ SqT K.K H p ys) ∧ ∀ l, H l = none → Q (.ref l) (upd H l (.lst ys))) rdList := fun F H M xs ds Qd Q c r ⟨d, ys, e1, h, q⟩ k => by
  subst e1
  obtain ⟨v, rfl, rv⟩ := rps1 r
  have go : ∃ p vs, v = .ref p ∧ (SqL K.K H p vs ∨ SqT K.K H p vs) ∧ Rps K F vs ys := by
    unfold seqD at h
    cases e : tpD d with
    | some zs =>
      rw [e] at h
      cases h
      obtain rfl := tpD_eq e
      obtain ⟨a, vs, rfl, h1, r1⟩ := tp_of c rv
      exact ⟨a, vs, rfl, .inr h1, r1⟩
    | none =>
      rw [e] at h
      obtain ⟨a, vs, rfl, h1, r1⟩ := sq_of c rv h
      exact ⟨a, vs, rfl, .inl h1, r1⟩
  obtain ⟨p, vs, rfl, h1, r1⟩ := go
  exact ⟨p, vs, rfl, h1, fun l hl => k _ _ _ _ _ (Same.refl _) (c.newM (x := .lst ys) hl ⟨_, rfl, r1⟩) (.ref l) (q l (c.Mnone hl))⟩
end DL
namespace DL
open PySem L2
section
variable {X : Cx} {W : WT} {pos : Pos}
theorem de_globI {x : Str} {i : Int} (hm : ∃ t, X.mg x = some (.int i t)) (hg : Gl X x := by rfl) (hd : (x == ("__debug__" : Str)) = false := by decide) : DE X W (.Name x pos) (dC (.int i)) := by
  obtain ⟨t, hm⟩ := hm
  exact de_glob hg hm (v := .int i) ⟨t, rfl⟩ (fun _ => .int i) hd
end
section
variable {X : Cx} {W : WT} {a b c d : Expr} {pos : Pos}
open PyProof.Rows in
/-- a op b op c op d -/
def tChain3 (r r' r'' : R2) (ta tb tc td : TE) : TE := fun σ H Q => ta σ H fun x H1 => tb σ H1 fun y H2 => r x y H2 fun z H3 => ∃ k, z = .bl k ∧
  (if k = true then tc σ H3 fun w H4 => r' y w H4 fun z H5 => ∃ k, z = .bl k ∧ (if k = true then td σ H5 fun u H6 => r'' w u H6 Q else Q (.bl false) H5) else Q (.bl false) H3)
open PyProof.Rows in
theorem pe_chain3 {op op' op2 : CmpOp} {r r' r2 : R2} {ta tb tc td : TE} (ho : OpR X (compareOp op) r) (ho' : OpR X (compareOp op') r') (ho2 : OpR X (compareOp op2) r2) (ha : PE X a ta) (hb : PE X b tb) (hc : PE X c tc) (hd : PE X d td)
    (hm : lastMarks [op, op', op2] [b, c, d] = false := by with_unfolding_all rfl) : PE X (.Compare a [op, op', op2] [b, c, d] pos) (tChain3 r r' r2 ta tb tc td) := by
  refine ⟨fun pins s σ H Q I h => ?_⟩
  refine Compare_chain (thn (ha.run pins s σ H _ I h) fun v s1 ⟨x, H1, I1, r1, q1⟩ => chain_link (thn (hb.run pins s1 σ H1 _ I1 q1) fun u s2 ⟨y, H2, I2, r2, q2⟩ =>
    thn (ho pins s2 σ H2 x y v u _ I2 r1 r2 q2) fun d s3 ⟨z, H3, I3, r3, k, e, q3⟩ => ?_)) hm
  subst e
  cases r3
  refine wpAny_truthy_bool ?_
  cases k with
  | false => exact ite_ff ⟨.bl false, H3, I3, rfl, q3⟩
  | true =>
    refine ite_tt (chain_link (thn (hc.run pins s3 σ H3 _ I3 q3) fun w' s4 ⟨z', H4, I4, r4, q4⟩ => thn (ho' pins s4 σ H4 y z' u w' _ I4 r2 r4 q4) fun d2 s5 ⟨z2, H5, I5, r5, k2, e2, q5⟩ => ?_))
    subst e2
    cases r5
    refine wpAny_truthy_bool ?_
    cases k2 with
    | false => exact ite_ff ⟨.bl false, H5, I5, rfl, q5⟩
    | true => exact ite_tt (chain_last (thn (hd.run pins s5 σ H5 _ I5 q5) fun w3 s6 ⟨z3, H6, I6, r6, q6⟩ => ho2 pins s6 σ H6 z' z3 w' w3 Q I6 r4 r6 q6))
def dChain3 (rd rd' rd2 : D2) (ta tb tc td : DTE) : DTE := fun Γ M Q E => ta Γ M (fun x M1 => tb Γ M1 (fun y M2 => rd x y M2 (fun z M3 => ∃ k, z = .bl k ∧
  (if k = true then tc Γ M3 (fun w M4 => rd' y w M4 (fun z M5 => ∃ k, z = .bl k ∧ (if k = true then td Γ M5 (fun u M6 => rd2 w u M6 Q) E else Q (.bl false) M5))) E else Q (.bl false) M3))) E) E
theorem upChain3 {r r' r2 : R2} {rd rd' rd2 : D2} {ta tb tc td : DTE} {σ : St} {H : Hp} {Q : VK} (hr : Real2 (kt X W) r rd) (hr' : Real2 (kt X W) r' rd') (hr2 : Real2 (kt X W) r2 rd2) (h : upE (kt X W) W.w (dChain3 rd rd' rd2 ta tb tc td) σ H Q) : tChain3 r r' r2 (upE (kt X W) W.w ta) (upE (kt X W) W.w tb) (upE (kt X W) W.w tc) (upE (kt X W) W.w td) σ H Q := by
  obtain ⟨Γ, M, F, E, Qd, a, q, k⟩ := h
  refine ⟨Γ, M, F, E, _, a, q, fun F1 H1 v d M1 s1 c1 r1 q1 => ⟨Γ, M1, F1, E, _, a.next s1 c1, q1, fun F2 H2 w e M2 s2 c2 r2 q2 => hr F2 H2 M2 v w d e _ _ c2 (r1.mono s2) r2 q2 fun F3 H3 z dz M3 s3 c3 r3 ⟨b, eb, q3⟩ => ?_⟩⟩
  subst eb
  cases r3
  refine ⟨b, rfl, ?_⟩
  cases b with
  | false =>
    rw [if_neg Bool.false_ne_true] at q3 ⊢
    exact k F3 H3 _ _ M3 ((s1.trans s2).trans s3) c3 (.bl false) q3
  | true =>
    rw [if_pos rfl] at q3 ⊢
    refine ⟨Γ, M3, F3, E, _, a.next ((s1.trans s2).trans s3) c3, q3, fun F4 H4 u f M4 s4 c4 r4 q4 => hr' F4 H4 M4 w u e f _ _ c4 (r2.mono (s3.trans s4)) r4 q4 fun F5 H5 z5 d5 M5 s5 c5 r5 ⟨b5, eb5, q5⟩ => ?_⟩
    subst eb5
    cases r5
    refine ⟨b5, rfl, ?_⟩
    have s15 := (((s1.trans s2).trans s3).trans s4).trans s5
    cases b5 with
    | false =>
      rw [if_neg Bool.false_ne_true] at q5 ⊢
      exact k F5 H5 _ _ M5 s15 c5 (.bl false) q5
    | true =>
      rw [if_pos rfl] at q5 ⊢
      exact ⟨Γ, M5, F5, E, _, a.next s15 c5, q5, fun F6 H6 y6 d6 M6 s6 c6 r6 q6 => hr2 F6 H6 M6 u y6 f d6 Qd Q c6 (r4.mono (s5.trans s6)) r6 q6 (k.mono (s15.trans s6))⟩
theorem de_chain3 {op op' op2 : CmpOp} {r r' r2 : R2} {rd rd' rd2 : D2} {ta tb tc td : DTE} (ho : OpR X (compareOp op) r) (ho' : OpR X (compareOp op') r') (ho2 : OpR X (compareOp op2) r2) (hr : Real2 (kt X W) r rd) (hr' : Real2 (kt X W) r' rd') (hr2 : Real2 (kt X W) r2 rd2) (ha : DE X W a ta) (hb : DE X W b tb) (hc : DE X W c tc) (hd : DE X W d td)
    (hm : lastMarks [op, op', op2] [b, c, d] = false := by with_unfolding_all rfl) : DE X W (.Compare a [op, op', op2] [b, c, d] pos) (dChain3 rd rd' rd2 ta tb tc td) :=
  ⟨peW (pe_chain3 ho ho' ho2 ha.pe hb.pe hc.pe hd.pe hm) fun _ _ _ h => upChain3 hr hr' hr2 h⟩
end
theorem ixd_tup {M : Mp} {xs : List D} {i : Int} : ixD M (.tup xs) (.int i) = atI xs i := rfl
theorem ixd_lst {M : Mp} {xs : List D} {i : Int} : ixD M (.lst xs) (.int i) = atI xs i := rfl
theorem ixd_ref {M : Mp} {p : Addr} {xs : List D} {i : Int} (h : M p = some (.lst xs)) : ixD M (.ref p) (.int i) = atI xs i := by
  show (sqD M (.ref p)).bind _ = _
  rw [sqD_ref h]
  rfl
theorem at0 {α : Type} {x : α} {xs : List α} : atI (x :: xs) 0 = some x := by simp [atI, ixN]
theorem at1 {α : Type} {x y : α} {xs : List α} : atI (x :: y :: xs) 1 = some y := by
  unfold atI ixN
  rw [if_pos (by omega), if_pos (by simp only [List.length_cons]; omega)]
  rfl
theorem at2 {α : Type} {x y z : α} {xs : List α} : atI (x :: y :: z :: xs) 2 = some z := by
  unfold atI ixN
  rw [if_pos (by omega), if_pos (by simp only [List.length_cons]; omega)]
  rfl
theorem at3 {α : Type} {x y z u : α} {xs : List α} : atI (x :: y :: z :: u :: xs) 3 = some u := by
  unfold atI ixN
  rw [if_pos (by omega), if_pos (by simp only [List.length_cons]; omega)]
  rfl
theorem atN {α : Type} {xs : List α} {i : Nat} {x : α} (h : xs[i]? = some x) : atI xs (i : Int) = some x := by
  have hi : i < xs.length := (List.getElem?_eq_some_iff.mp h).1
  unfold atI ixN
  rw [if_pos (by omega), if_pos (by omega)]
  simpa using h
/-- ints and texts by == -/
theorem deq_int {i j : Int} : deq (.int i) (.int j) = decide (i = j) := by
  unfold deq D.py PyData.eqv
  rfl
/-- a datum of depth ≤ n without objects -/
def lay (n : Nat) (d : D) : Prop := d.py.canLay0 = true ∧ d.py.depth ≤ n
theorem lay_int (n : Nat) (i : Int) : lay n (.int i) := ⟨by simp [D.py, PyData.canLay0], by simp [D.py, PyData.depth]⟩
theorem lay_bl (n : Nat) (b : Bool) : lay n (.bl b) := ⟨by simp [D.py, PyData.canLay0], by simp [D.py, PyData.depth]⟩
theorem lay_non (n : Nat) : lay n .non := ⟨by simp [D.py, PyData.canLay0], by simp [D.py, PyData.depth]⟩
theorem lays {n : Nat} : ∀ {xs : List D}, (∀ x ∈ xs, lay n x) → PyData.canLayAll0 (pys xs) = true ∧ PyData.depthAll (pys xs) ≤ n
  | [], _ => ⟨by simp [pys, PyData.canLayAll0], by simp [pys, PyData.depthAll]⟩
  | x :: xs, h => by
    obtain ⟨h1, h2⟩ := h x List.mem_cons_self
    obtain ⟨h3, h4⟩ := lays (xs := xs) fun y hy => h y (List.mem_cons_of_mem _ hy)
    exact ⟨by simp [pys, PyData.canLayAll0, h1, h3], by simp only [pys, PyData.depthAll]; omega⟩
theorem lay_tup {n : Nat} {xs : List D} (h : ∀ x ∈ xs, lay n x) : lay (n + 1) (.tup xs) := by
  obtain ⟨h1, h2⟩ := lays h
  exact ⟨by simp [D.py, PyData.canLay0, h1], by simp only [D.py, PyData.depth]; omega⟩
theorem lay_lst {n : Nat} {xs : List D} (h : ∀ x ∈ xs, lay n x) : lay (n + 1) (.lst xs) := by
  obtain ⟨h1, h2⟩ := lays h
  exact ⟨by simp [D.py, PyData.canLay0, h1], by simp only [D.py, PyData.depth]; omega⟩
theorem sh_of {n : Nat} {d : D} (h : lay n d) (hn : n ≤ 64 := by decide) : shD d = true := by
  have h1 := h.1
  have h2 : d.py.depth ≤ 64 := Nat.le_trans h.2 hn
  unfold shD SeqAt.shaped
  simp [h1, h2]
theorem lay_tupI (ns : List Int) : lay 1 (tupI ns) := lay_tup fun x hx => by
  obtain ⟨i, _, rfl⟩ := List.mem_map.mp hx
  exact lay_int 0 i
theorem sh_int {i : Int} : shD (.int i) = true := sh_of (lay_int 0 i)
theorem deqs {α : Type} [DecidableEq α] {f : α → D} (h : ∀ a b, deq (f a) (f b) = decide (a = b)) : ∀ (as bs : List α), PyData.eqvAll (pys (as.map f)) (pys (bs.map f)) = decide (as = bs)
  | [], [] => by simp [pys, PyData.eqvAll]
  | [], b :: bs => by simp [pys, PyData.eqvAll]
  | a :: as, [] => by simp [pys, PyData.eqvAll]
  | a :: as, b :: bs => by
    have h1 := h a b
    unfold deq at h1
    simp [pys, PyData.eqvAll, h1, deqs h as bs]
theorem deq_tupM {α : Type} [DecidableEq α] {f : α → D} (h : ∀ a b, deq (f a) (f b) = decide (a = b)) (as bs : List α) : deq (.tup (as.map f)) (.tup (bs.map f)) = decide (as = bs) := by
  have := deqs h as bs
  simpa [deq, D.py, PyData.eqv] using this
theorem deq_lstM {α : Type} [DecidableEq α] {f : α → D} (h : ∀ a b, deq (f a) (f b) = decide (a = b)) (as bs : List α) : deq (.lst (as.map f)) (.lst (bs.map f)) = decide (as = bs) := by
  have := deqs h as bs
  simpa [deq, D.py, PyData.eqv] using this
theorem deq_tupI (ns ms : List Int) : deq (tupI ns) (tupI ms) = decide (ns = ms) := deq_tupM (fun _ _ => deq_int) ns ms
/-- spans, marks as data -/
def spD (s : Int × Int) : D := .tup [.int s.1, .int s.2]
def mkD (m : Int × Int × Int) : D := .tup [.int m.1, .int m.2.1, .int m.2.2]
theorem spD_eq (s : Int × Int) : spD s = tupI [s.1, s.2] := rfl
theorem mkD_eq (m : Int × Int × Int) : mkD m = tupI [m.1, m.2.1, m.2.2] := rfl
theorem deq_spD (s t : Int × Int) : deq (spD s) (spD t) = decide (s = t) := by
  rw [spD_eq, spD_eq, deq_tupI]
  obtain ⟨a, b⟩ := s
  obtain ⟨c, d⟩ := t
  simp
theorem deq_mkD (s t : Int × Int × Int) : deq (mkD s) (mkD t) = decide (s = t) := by
  rw [mkD_eq, mkD_eq, deq_tupI]
  obtain ⟨a, b, e⟩ := s
  obtain ⟨c, d, f⟩ := t
  simp
theorem lay_spD (s : Int × Int) : lay 1 (spD s) := lay_tupI [s.1, s.2]
theorem lay_mkD (s : Int × Int × Int) : lay 1 (mkD s) := lay_tupI [s.1, s.2.1, s.2.2]
theorem lay_mapL {α : Type} {f : α → D} {n : Nat} (h : ∀ a, lay n (f a)) (as : List α) : lay (n + 1) (.lst (as.map f)) := lay_lst fun x hx => by
  obtain ⟨a, _, rfl⟩ := List.mem_map.mp hx
  exact h a
theorem res_int {M : Mp} {i : Int} : res M (.int i) = .int i := rfl
theorem res_tup {M : Mp} {xs : List D} : res M (.tup xs) = .tup xs := rfl
theorem res_lst {M : Mp} {xs : List D} : res M (.lst xs) = .lst xs := rfl
theorem res_ref {M : Mp} {p : Addr} {xs : List D} (h : M p = some (.lst xs)) : res M (.ref p) = .lst xs := by unfold res; rw [sqD_ref h]
theorem addI {i j : Int} {M : Mp} {Q : DQ} : rdAdd (.int i) (.int j) M Q = Q (.int (i + j)) M := rfl
theorem iffB {b : Bool} {P Q : Prop} : (if b = true then P else Q) ↔ ((b = true → P) ∧ (b = false → Q)) := by cases b <;> simp
theorem gdCons_eq {t : DTG} {u : DTGs} {d : D} {r : List D} {Γ : DG} {M : Mp} {Q : DG → Mp → Prop} : gdCons t u (d :: r) Γ M Q = t d Γ M (fun Γ1 M1 => u r Γ1 M1 Q) := by
  unfold gdCons
  refine propext ⟨fun ⟨d', r', e, h⟩ => ?_, fun h => ⟨_, _, rfl, h⟩⟩
  cases e
  exact h
theorem gdNil_eq {Γ : DG} {M : Mp} {Q : DG → Mp → Prop} : gdNil [] Γ M Q = Q Γ M := by simp [gdNil]
theorem rdI_eq {g : Int → Int → D} {i j : Int} {M : Mp} {Q : DQ} : rdI g (.int i) (.int j) M Q = Q (g i j) M := by
  unfold rdI
  refine propext ⟨fun ⟨d', r', e, e2, h⟩ => ?_, fun h => ⟨_, _, rfl, rfl, h⟩⟩
  cases e
  cases e2
  exact h
theorem rdIc_eq {C : Int → Int → Prop} {g : Int → Int → D} {i j : Int} {M : Mp} {Q : DQ} : rdIc C g (.int i) (.int j) M Q = (C i j ∧ Q (g i j) M) := by
  unfold rdIc
  refine propext ⟨fun ⟨d', r', e, e2, h⟩ => ?_, fun h => ⟨_, _, rfl, rfl, h⟩⟩
  cases e
  cases e2
  exact h
theorem rdInt2_eq {g : Int → Int → Int} {i j : Int} {M : Mp} {Q : DQ} : rdInt2 g [.int i, .int j] M Q = Q (.int (g i j)) M := by
  unfold rdInt2
  refine propext ⟨fun ⟨d', r', e, h⟩ => ?_, fun h => ⟨_, _, rfl, h⟩⟩
  cases e
  exact h
theorem lenL {xs : List D} {M : Mp} {Q : DQ} : rdLen [.lst xs] M Q = Q (.int (xs.length : Nat)) M := by
  unfold rdLen
  refine propext ⟨fun ⟨d', r', e, e2, h⟩ => ?_, fun h => ⟨_, _, rfl, rfl, h⟩⟩
  cases e
  cases e2
  exact h
theorem lenR {p : Addr} {xs : List D} {M : Mp} {Q : DQ} (h : M p = some (.lst xs)) : rdLen [.ref p] M Q = Q (.int (xs.length : Nat)) M := by
  have e0 : lenD M (.ref p) = some xs.length := by
    show (sqD M (.ref p)).map List.length = _
    rw [sqD_ref h]
    rfl
  unfold rdLen
  refine propext ⟨fun ⟨d', r', e, e2, h⟩ => ?_, fun h => ⟨_, _, rfl, e0, h⟩⟩
  cases e
  rw [e0] at e2
  cases e2
  exact h
theorem isN_non {M : Mp} {Q : DQ} {b : Bool} : rdIsN b .non .non M Q = Q (.bl (!b)) M := by cases b <;> simp [rdIsN]
theorem isN_tup {M : Mp} {Q : DQ} {b : Bool} {xs : List D} : rdIsN b (.tup xs) .non M Q = Q (.bl b) M := by cases b <;> simp [rdIsN]
theorem isN_int {M : Mp} {Q : DQ} {b : Bool} {i : Int} : rdIsN b (.int i) .non M Q = Q (.bl b) M := by cases b <;> simp [rdIsN]
theorem parEq {α : Type} {x y : α} {P : α → α → Prop} : (∃ d e, (x = d ∧ y = e) ∧ P d e) = P x y := by
  refine propext ⟨fun ⟨d', r', ⟨e, e2⟩, h⟩ => ?_, fun h => ⟨_, _, ⟨rfl, rfl⟩, h⟩⟩
  subst e
  subst e2
  exact h
end DL
namespace DL
open PySem L2
theorem GhS.open {K : KTb} {P : DG → Mp → Prop} {Γ : DG} {M : Mp} {p : Addr} {φ : List D → Prop} (h : M p = some (.opq φ)) (k : ∀ ds, φ ds → P Γ (mup M p (.lst ds))) : GhS K P Γ M := fun F H σ c g => by
  obtain ⟨ds, h1, c2⟩ := c.open h
  exact ⟨F, Γ, _, Same.refl _, c2, g, k ds h1⟩
theorem Fin.close {K : KTb} {Qd : DQ} {d : D} {p : Addr} {φ : List D → Prop} {ds : List D} {M : Mp} (e : M p = some (.lst ds)) (hd : φ ds) (h : Qd d (mup M p (.opq φ))) : Fin K Qd d M := fun F H v c r => ⟨F, d, _, Same.refl _, c.close e hd, r, h⟩
section
variable {X : Cx} {W : WT} {st : Stmt} {rest : List Stmt}
/-- what holds between two statements is told -/
def dCut (t u : DTS) : DTS := fun Dn Γ M => ∃ I : DG → Mp → Prop, t { Dn with nx := I } Γ M ∧ ∀ Γ' M', I Γ' M' → u Dn Γ' M'
theorem dss_cut {t u : DTS} (h1 : DS X W st t) (h2 : DSs X W rest u) : DSs X W (st :: rest) (dCut t u) := ⟨pssW (pss_cons h1.ps h2.ps) fun E σ H ⟨Γ, M, F, Dn, a, ⟨I, h, n⟩, k⟩ =>
  ⟨Γ, M, F, { Dn with nx := I }, a, h, ⟨fun F1 H1 σ1 Γ1 M1 s1 c1 g1 q1 => ⟨Γ1, M1, F1, Dn, ⟨c1, g1, a.w.mono s1⟩, n _ _ q1, k.mono s1⟩, k.rt, k.bk, k.ct⟩⟩⟩
end
theorem ixS {M : Mp} {b : Addr} {xs : List D} {i : Int} : ixD (mup M b (.lst xs)) (.ref b) (.int i) = atI xs i := ixd_ref mup_same
theorem sqI {M : Mp} {ns : List Int} : sqD M (.scr ns) = some (ns.map D.int) := rfl
theorem mulI {i j : Int} {M : Mp} {Q : DQ} : rdMul (.int i) (.int j) M Q = (CMul i j ∧ Q (.int (i * j)) M) := rfl
theorem eqI {i j : Int} {M : Mp} {Q : DQ} : rdEq (.int i) (.int j) M Q = Q (.bl (decide (i = j))) M := by
  unfold rdEq
  rw [res_int, res_int, sh_int, sh_int, deq_int]
  simp
theorem neI {i j : Int} {M : Mp} {Q : DQ} : rdNe (.int i) (.int j) M Q = Q (.bl (!decide (i = j))) M := by
  unfold rdNe
  rw [res_int, res_int, sh_int, sh_int, deq_int]
  simp
theorem xN4_0 : ixN 4 0 = some 0 := by decide
theorem xN4_1 : ixN 4 1 = some 1 := by decide
theorem xN4_2 : ixN 4 2 = some 2 := by decide
theorem xN4_3 : ixN 4 3 = some 3 := by decide
theorem atJ {α : Type} {f : α → D} {xs : List α} {i : Int} (h0 : 0 ≤ i) (h1 : i < xs.length) : ∃ z, z ∈ xs ∧ xs[i.toNat]? = some z ∧ atI (xs.map f) i = some (f z) := by
  have hi : i.toNat < xs.length := by omega
  refine ⟨xs[i.toNat], List.getElem_mem hi, List.getElem?_eq_getElem hi, ?_⟩
  unfold atI ixN
  rw [List.length_map, if_pos h0, if_pos h1]
  simp [hi]
theorem sz4 : (4 : Nat) ≤ sizeLine := by rw [szl]; decide
theorem szOf {n : Nat} (h : n ≤ 16777216) : n ≤ sizeLine := by rw [szl]; exact h
theorem rdAbs_eq {i : Int} {M : Mp} {Q : DQ} : rdAbs [.int i] M Q = Q (.int (if i < 0 then -i else i)) M := by
  unfold rdAbs
  refine propext ⟨fun ⟨d', e, h⟩ => ?_, fun h => ⟨_, rfl, h⟩⟩
  cases e
  exact h
end DL
namespace DL
open PySem L2
def FI (it : DIt) (g : DTG) (tb : DTS) (Dn : DEnds) (Γ : DG) (M : Mp) : Prop := ∃ Wv : Nat → DG → Mp → Prop, Wv 0 Γ M ∧ ∀ i Γ2 M2, i ≤ it.seq.length → Wv i Γ2 M2 → it.ok M2 ∧
  (∀ d, it.seq[i]? = some d → g d Γ2 M2 (fun Γ3 M3 => tb { Dn with nx := Wv (i + 1), ct := Wv (i + 1), bk := Dn.nx } Γ3 M3)) ∧ (i = it.seq.length → Dn.nx Γ2 M2)
theorem dFor_eq {ti : DTI} {g : DTG} {tb : DTS} {Dn : DEnds} {Γ : DG} {M : Mp} : dFor ti g tb Dn Γ M = ti Γ M (fun it M1 => FI it g tb Dn Γ M1) Dn.ex := rfl
theorem forBy {α : Type} {f : α → D} {xs : List α} {ok : Mp → Prop} {g : DTG} {tb : DTS} {Dn : DEnds} {Γ : DG} {M : Mp} (I : Nat → DG → Mp → Prop) (h0 : I 0 Γ M) (hok : ∀ i Γ2 M2, I i Γ2 M2 → ok M2)
    (step : ∀ i x Γ2 M2, xs[i]? = some x → I i Γ2 M2 → g (f x) Γ2 M2 (fun Γ3 M3 => tb { Dn with nx := I (i + 1), ct := I (i + 1), bk := Dn.nx } Γ3 M3)) (fin : ∀ Γ2 M2, I xs.length Γ2 M2 → Dn.nx Γ2 M2) :
    FI ⟨xs.map f, ok⟩ g tb Dn Γ M := by
  refine ⟨I, h0, fun i Γ2 M2 hi h => ⟨hok i Γ2 M2 h, fun d hd => ?_, fun e => ?_⟩⟩
  · have hd : (xs.map f)[i]? = some d := hd
    rw [List.getElem?_map, Option.map_eq_some_iff] at hd
    obtain ⟨x, hx, rfl⟩ := hd
    exact step i x Γ2 M2 hx h
  · have e : i = (xs.map f).length := e
    rw [List.length_map] at e
    subst e
    exact fin Γ2 M2 h
/-- a loop whose steps keep what holds -/
theorem forInv {α : Type} {f : α → D} {xs : List α} {ok : Mp → Prop} {g : DTG} {tb : DTS} {Dn : DEnds} {Γ : DG} {M : Mp} (I : DG → Mp → Prop) (h0 : I Γ M) (hok : ∀ Γ2 M2, I Γ2 M2 → ok M2)
    (step : ∀ x Γ2 M2, x ∈ xs → I Γ2 M2 → g (f x) Γ2 M2 (fun Γ3 M3 => tb { Dn with nx := I, ct := I, bk := Dn.nx } Γ3 M3)) (fin : ∀ Γ2 M2, I Γ2 M2 → Dn.nx Γ2 M2) : FI ⟨xs.map f, ok⟩ g tb Dn Γ M :=
  forBy (fun _ => I) h0 (fun _ => hok) (fun i x Γ2 M2 hx h => step x Γ2 M2 (List.mem_of_getElem? hx) h) fin
/-- over range -/
theorem forRng {lo : Int} {n : Nat} {ok : Mp → Prop} {g : DTG} {tb : DTS} {Dn : DEnds} {Γ : DG} {M : Mp} (I : Nat → DG → Mp → Prop) (h0 : I 0 Γ M) (hok : ∀ M2, ok M2)
    (step : ∀ i Γ2 M2, i < n → I i Γ2 M2 → g (.int (lo + (i : Nat))) Γ2 M2 (fun Γ3 M3 => tb { Dn with nx := I (i + 1), ct := I (i + 1), bk := Dn.nx } Γ3 M3)) (fin : ∀ Γ2 M2, I n Γ2 M2 → Dn.nx Γ2 M2) :
    FI ⟨rngD lo 1 n, ok⟩ g tb Dn Γ M :=
  forBy (xs := List.range n) (f := fun k => D.int (lo + (k : Nat) * 1)) I h0 (fun _ _ _ _ => hok _) (fun i x Γ2 M2 hx h => by
    have hi := (List.getElem?_eq_some_iff.mp hx).1
    rw [List.length_range] at hi
    rw [List.getElem?_range hi] at hx
    cases hx
    rw [Int.mul_one]
    exact step i Γ2 M2 hi h) (fun Γ2 M2 h => fin Γ2 M2 (by rwa [List.length_range] at h))
theorem enD_eq {α : Type} {f : α → D} {xs : List α} : enD (xs.map f) = xs.zipIdx.map fun p => D.tup [.int (p.2 : Nat), f p.1] := by
  unfold enD
  rw [List.zipIdx_map, List.map_map]
  rfl
theorem sq_cases {M : Mp} {d : D} {xs : List D} (h : sqD M d = some xs) : (d = .lst xs) ∨ (∃ p, d = .ref p ∧ M p = some (.lst xs)) ∨ ∃ ns, d = .scr ns ∧ xs = ns.map D.int := by
  cases d with
  | lst ys => cases h; exact .inl rfl
  | ref p =>
    have h : (match M p with | some (.lst xs) => some xs | _ => none) = some xs := h
    split at h
    · rename_i e
      cases h
      exact .inr (.inl ⟨p, rfl, e⟩)
    · cases h
  | scr ns => cases h; exact .inr (.inr ⟨ns, rfl, rfl⟩)
  | _ => cases h
theorem itSq {M : Mp} {d : D} {xs : List D} (h : sqD M d = some xs) : itD M d = some xs := by
  rcases sq_cases h with rfl | ⟨p, rfl, e⟩ | ⟨ns, rfl, rfl⟩
  · rfl
  · exact h
  · rfl
theorem ixSq {M : Mp} {d : D} {xs : List D} {i : Int} (h : sqD M d = some xs) : ixD M d (.int i) = atI xs i := by
  rcases sq_cases h with rfl | ⟨p, rfl, e⟩ | ⟨ns, rfl, rfl⟩
  · rfl
  · exact ixd_ref e
  · rfl
theorem lenSq {M : Mp} {d : D} {xs : List D} {Q : DQ} (h : sqD M d = some xs) : rdLen [d] M Q = Q (.int (xs.length : Nat)) M := by
  have e0 : lenD M d = some xs.length := by
    rcases sq_cases h with rfl | ⟨p, rfl, e⟩ | ⟨ns, rfl, rfl⟩
    · rfl
    · show (sqD M (.ref p)).map List.length = _
      rw [h]
      rfl
    · show (sqD M (.scr ns)).map List.length = _
      rw [h]
      rfl
  unfold rdLen
  refine propext ⟨fun ⟨d', r', e, e2, h⟩ => ?_, fun h => ⟨_, _, rfl, e0, h⟩⟩
  cases e
  rw [e0] at e2
  cases e2
  exact h
theorem resSq {M : Mp} {d : D} {xs : List D} (h : sqD M d = some xs) : res M d = .lst xs := by unfold res; rw [h]
/-- xs[i], i in range -/
theorem atL {xs : List D} {i : Int} (h0 : 0 ≤ i) (h1 : i < xs.length) : ∃ x, x ∈ xs ∧ xs[i.toNat]? = some x ∧ atI xs i = some x := by
  have := atJ (f := id) h0 h1
  simpa using this
theorem atMn {α : Type} {f : α → D} {xs : List α} {i : Nat} {x : α} (h : xs[i]? = some x) : atI (xs.map f) (i : Int) = some (f x) := atN (by rw [List.getElem?_map, h]; rfl)
theorem atLast {α : Type} {f : α → D} {xs : List α} (h : xs ≠ []) : atI (xs.map f) (-1) = some (f (xs.getLast h)) := by
  have hl : 0 < xs.length := List.length_pos_iff.mpr h
  unfold atI ixN
  rw [if_neg (by decide), if_pos (by rw [List.length_map]; omega)]
  simp only [Option.bind_some, List.length_map]
  have e : (-1 + (xs.length : Int)).toNat = xs.length - 1 := by omega
  rw [e, List.getElem?_map, List.getLast_eq_getElem, List.getElem?_eq_getElem (by omega)]
  rfl
theorem rdSortedT_by {α : Type} {f : α → List Int} {g : List Int → α} {n : Nat} {d : D} {as : List α} {M : Mp} {Q : DQ} (hg : ∀ a, g (f a) = a) (hd : sqD M d = some (as.map fun a => tupI (f a))) (hn : 1 ≤ n) (hl : ∀ a, (f a).length = n)
    (h : ∀ (L : List α) (p : Addr), L.Perm as → L.Pairwise (fun x y => HT.lexLt (f y) (f x) = false) → M p = none → Q (.ref p) (mup M p (.lst (L.map fun a => tupI (f a))))) : rdSorted [d] M Q := by
  refine .inr ⟨d, as.map f, n, rfl, by rw [List.map_map]; exact hd, hn, fun k hk => by obtain ⟨a, _, rfl⟩ := List.mem_map.mp hk; exact hl a, fun Ls' p pm pw hp => ?_⟩
  have e1 : Ls' = (Ls'.map g).map f := by
    rw [List.map_map]
    have : ∀ x ∈ Ls', x = (f ∘ g) x := fun x hx => by
      obtain ⟨a, _, rfl⟩ := List.mem_map.mp (pm.mem_iff.mp hx)
      show f a = f (g (f a))
      rw [hg]
    calc Ls' = Ls'.map id := by simp
      _ = _ := List.map_congr_left this
  have pm2 : (Ls'.map g).Perm as := by
    have z := pm.map g
    rw [List.map_map] at z
    have : as.map (g ∘ f) = as := by
      have : ∀ x ∈ as, (g ∘ f) x = x := fun x _ => hg x
      rw [List.map_congr_left this]
      simp
    rw [this] at z
    exact z
  have pw2 : (Ls'.map g).Pairwise (fun x y => HT.lexLt (f y) (f x) = false) := by
    rw [e1, List.pairwise_map] at pw
    exact pw
  have := h _ p pm2 pw2 hp
  rw [show (Ls'.map g).map (fun a => tupI (f a)) = Ls'.map tupI by
    conv => rhs; rw [e1]
    simp [List.map_map]] at this
  exact this
/-- the order of spans, of marks -/
def spLt (a b : Int × Int) : Prop := a.1 < b.1 ∨ (a.1 = b.1 ∧ a.2 < b.2)
def mkLt (a b : Int × Int × Int) : Prop := a.1 < b.1 ∨ (a.1 = b.1 ∧ (a.2.1 < b.2.1 ∨ (a.2.1 = b.2.1 ∧ a.2.2 < b.2.2)))
theorem lexSp {a b : Int × Int} : HT.lexLt [a.1, a.2] [b.1, b.2] = true ↔ spLt a b := by
  unfold spLt
  simp only [HT.lexLt]
  repeat' split
  all_goals (simp; try omega)
theorem lexMk {a b : Int × Int × Int} : HT.lexLt [a.1, a.2.1, a.2.2] [b.1, b.2.1, b.2.2] = true ↔ mkLt a b := by
  unfold mkLt
  simp only [HT.lexLt]
  repeat' split
  all_goals (simp; try omega)
theorem rdSortedSp {d : D} {as : List (Int × Int)} {M : Mp} {Q : DQ} (hd : sqD M d = some (as.map spD))
    (h : ∀ (L : List (Int × Int)) (p : Addr), L.Perm as → L.Pairwise (fun x y => ¬ spLt y x) → M p = none → Q (.ref p) (mup M p (.lst (L.map spD)))) : rdSorted [d] M Q :=
  rdSortedT_by (f := fun s : Int × Int => [s.1, s.2]) (g := fun l => (l.headD 0, l.tail.headD 0)) (n := 2) (fun _ => rfl) hd (by decide) (fun _ => rfl) fun L p pm pw hp => h L p pm (pw.imp fun z e => by rw [lexSp.mpr e] at z; cases z) hp
theorem rdSortedMk {d : D} {as : List (Int × Int × Int)} {M : Mp} {Q : DQ} (hd : sqD M d = some (as.map mkD))
    (h : ∀ (L : List (Int × Int × Int)) (p : Addr), L.Perm as → L.Pairwise (fun x y => ¬ mkLt y x) → M p = none → Q (.ref p) (mup M p (.lst (L.map mkD)))) : rdSorted [d] M Q :=
  rdSortedT_by (f := fun s : Int × Int × Int => [s.1, s.2.1, s.2.2]) (g := fun l => (l.headD 0, l.tail.headD 0, l.tail.tail.headD 0)) (n := 3) (fun _ => rfl) hd (by decide) (fun _ => rfl) fun L p pm pw hp => h L p pm (pw.imp fun z e => by rw [lexMk.mpr e] at z; cases z) hp
theorem rdSortedIn {d : D} {ns : List Int} {M : Mp} {Q : DQ} (hd : sqD M d = some (ns.map D.int))
    (h : ∀ (L : List Int) (p : Addr), L.Perm ns → L.Pairwise (· ≤ ·) → M p = none → Q (.ref p) (mup M p (.lst (L.map D.int)))) : rdSorted [d] M Q :=
  .inl ⟨d, ns, rfl, hd, h⟩
theorem eqNilR {α : Type} {f : α → D} {bs : List α} {p : Addr} {M : Mp} {Q : DQ} {n : Nat} (hf : ∀ a, lay n (f a)) (hn : n ≤ 63 := by decide) : rdEq (.ref p) (.lst []) (mup M p (.lst (bs.map f))) Q = Q (.bl bs.isEmpty) (mup M p (.lst (bs.map f))) := by
  have h1 : shD (.lst (bs.map f)) = true := sh_of (lay_mapL hf bs) (by omega)
  have h2 : shD (.lst []) = true := sh_of (lay_mapL (f := D.int) (lay_int 0) []) (by decide)
  have h3 : deq (.lst (bs.map f)) (.lst []) = bs.isEmpty := by
    cases bs <;> simp [deq, D.py, pys, PyData.eqv, PyData.eqvAll]
  unfold rdEq
  rw [res_ref mup_same, res_lst, h1, h2, h3]
  simp
theorem neSp {s t : Int × Int} {M : Mp} {Q : DQ} : rdNe (spD s) (spD t) M Q = Q (.bl (!decide (s = t))) M := by
  unfold rdNe
  show (shD (spD s) = true ∧ shD (spD t) = true ∧ Q (.bl (!deq (spD s) (spD t))) M) = _
  rw [sh_of (lay_spD s), sh_of (lay_spD t), deq_spD]
  simp
theorem eqSp {s t : Int × Int} {M : Mp} {Q : DQ} : rdEq (spD s) (spD t) M Q = Q (.bl (decide (s = t))) M := by
  unfold rdEq
  show (shD (spD s) = true ∧ shD (spD t) = true ∧ Q (.bl (deq (spD s) (spD t))) M) = _
  rw [sh_of (lay_spD s), sh_of (lay_spD t), deq_spD]
  simp
theorem eqMk {s t : Int × Int × Int} {M : Mp} {Q : DQ} : rdEq (mkD s) (mkD t) M Q = Q (.bl (decide (s = t))) M := by
  unfold rdEq
  show (shD (mkD s) = true ∧ shD (mkD t) = true ∧ Q (.bl (deq (mkD s) (mkD t))) M) = _
  rw [sh_of (lay_mkD s), sh_of (lay_mkD t), deq_mkD]
  simp
theorem neMk {s t : Int × Int × Int} {M : Mp} {Q : DQ} : rdNe (mkD s) (mkD t) M Q = Q (.bl (!decide (s = t))) M := by
  unfold rdNe
  show (shD (mkD s) = true ∧ shD (mkD t) = true ∧ Q (.bl (!deq (mkD s) (mkD t))) M) = _
  rw [sh_of (lay_mkD s), sh_of (lay_mkD t), deq_mkD]
  simp
theorem inD {α : Type} [DecidableEq α] {f : α → D} {n : Nat} {x : α} {ys : List α} {d : D} {M : Mp} {Q : DQ} (hf : ∀ a, lay n (f a)) (he : ∀ a b, deq (f a) (f b) = decide (a = b)) (hr : res M (f x) = f x) (hd : sqD M d = some (ys.map f)) (hn : n ≤ 63) :
    rdIn false (f x) d M Q ↔ Q (.bl (decide (x ∈ ys))) M := by
  have e : ((ys.map f).any fun z => deq z (f x)) = decide (x ∈ ys) := by
    induction ys with
    | nil => simp
    | cons y ys ih =>
      simp only [List.map_cons, List.any_cons, he]
      have : ((ys.map f).any fun z => deq z (f x)) = decide (x ∈ ys) := by
        clear ih hd
        induction ys with
        | nil => simp
        | cons y ys ih => simp only [List.map_cons, List.any_cons, he, ih]; simp [eq_comm]
      rw [this]
      simp [eq_comm]
  unfold rdIn
  constructor
  · rintro ⟨zs, h1, _, _, q⟩
    rw [resSq hd] at h1
    cases h1
    rw [hr, if_neg Bool.false_ne_true, e] at q
    exact q
  · intro q
    refine ⟨_, resSq hd, by rw [hr]; exact sh_of (hf x) (by omega), sh_of (lay_mapL hf ys) (by omega), ?_⟩
    rw [hr, if_neg Bool.false_ne_true, e]
    exact q
theorem exX {M : Mp} {p : Addr} {ys : List D} : (∃ xs, sqX (mup M p (.lst ys)) (.ref p) = some xs) = True := by
  rw [sqX_ref mup_same]
  simp
theorem Ext.up {M M' : Mp} {p : Addr} {c : Cell} (h : Ext M M') (hp : M p = none) : Ext M (mup M' p c) := fun a u e => by
  rw [mup_ne fun z => by rw [z, hp] at e; cases e]
  exact h a u e
theorem Ext.trans {M M' M2 : Mp} (h : Ext M M') (h2 : Ext M' M2) : Ext M M2 := fun a u e => h2 a u (h a u e)
theorem sq_ext {M M' : Mp} {d : D} {xs : List D} (x : Ext M M') (h : sqD M d = some xs) : sqD M' d = some xs := by
  rcases sq_cases h with rfl | ⟨p, rfl, e⟩ | ⟨ns, rfl, rfl⟩
  · rfl
  · exact sqD_ref (x _ _ e)
  · rfl
theorem Fin.frzE {K : KTb} {Qd : DQ} {p : Addr} {xs : List D} {M M3 : Mp} (e : M p = some (.lst xs)) (hp : M3 p = none) (x : Ext M3 M) (h : Qd (.lst xs) M3) : Fin K Qd (.ref p) M := fun F H v c r => by
  cases r
  obtain ⟨F2, s, c2, r2⟩ := c.freeze e
  refine ⟨F2, _, M3, s, c2.less fun a u q => ?_, r2, h⟩
  have ha : a ≠ p := fun z => by rw [z, hp] at q; cases q
  unfold mdel
  rw [if_neg ha]
  exact x a u q
theorem Fin.lessE {K : KTb} {Qd : DQ} {d : D} {M M3 : Mp} (x : Ext M3 M) (h : Qd d M3) : Fin K Qd d M := Fin.less h x
end DL
namespace DL
open PySem L2
def LI (it : DIt) (g : DTG) (tt : DTT) (te : DTE) (vs : List Nat) (Γ : DG) (M : Mp) (Q : DQ) : Prop := ∃ P : D → Option D → Prop, dLcBody g tt te vs Γ M it P ∧ ∀ os, All2 P it.seq os → Q (.lst (os.filterMap id)) M
def LIO (it : DIt) (g : DTG) (tt : DTT) (te : DTE) (vs : List Nat) (Γ : DG) (M : Mp) (Q : DQ) : Prop := ∃ P : D → Option D → Prop, dLcBody g tt te vs Γ M it P ∧ ∀ os, All2 P it.seq os → ∀ p, M p = none → Q (.ref p) (mup M p (.lst (os.filterMap id)))
theorem dLcN_eq {ti : DTI} {g : DTG} {tt : DTT} {te : DTE} {vs : List Nat} {Γ : DG} {M : Mp} {Q : DQ} {E : DXE} : dLcN ti g tt te vs Γ M Q E = ti Γ M (fun it M1 => LI it g tt te vs Γ M1 Q) E := rfl
theorem dLcNO_eq {ti : DTI} {g : DTG} {tt : DTT} {te : DTE} {vs : List Nat} {Γ : DG} {M : Mp} {Q : DQ} {E : DXE} : dLcNO ti g tt te vs Γ M Q E = ti Γ M (fun it M1 => LIO it g tt te vs Γ M1 Q) E := rfl
/-- one item's part -/
def LB (g : DTG) (tt : DTT) (te : DTE) (Γ : DG) (M : Mp) (d : D) (R : Option D → Prop) : Prop := g d Γ M (fun Γ2 M3 => tt Γ2 M3 (fun b M4 => if b = true then te Γ2 M4 (fun y M5 => M5 = M ∧ R (some y)) noE else M4 = M ∧ R none) noE)
section
variable {α : Type} {F : α → D} {xs : List α} {ok : Mp → Prop} {g : DTG} {tt : DTT} {te : DTE} {vs : List Nat} {Γ : DG} {M : Mp} {Q : DQ}
theorem all2_fn {H : α → Option D} : ∀ {xs : List α} {os : List (Option D)}, All2 (fun x o => o = H x) xs os → os.filterMap id = xs.filterMap H
  | [], [], _ => rfl
  | [], _ :: _, h => by cases h
  | x :: xs, [], h => by cases h
  | x :: xs, o :: os, h => by
    cases h with
    | cons h1 h2 =>
      subst h1
      have ih := all2_fn h2
      cases e : H x <;> simp [e, ih]
theorem bodyR (inj : ∀ a b, F a = F b → a = b) {R : α → Option D → Prop} (hok : ∀ M', Ext M M' → ok M') (body : ∀ x, x ∈ xs → ∀ M', Ext M M' → LB g tt te (dwipe Γ vs) M' (F x) (R x)) : ∃ P, dLcBody g tt te vs Γ M ⟨xs.map F, ok⟩ P ∧ ∀ os, All2 P (xs.map F) os → All2 R xs os := by
  cases xs with
  | nil => exact ⟨fun _ _ => True, ⟨hok, fun d hd => by cases hd⟩, fun os h => by cases h; exact .nil⟩
  | cons x0 t =>
    classical
    let inv : D → α := fun d => if h : ∃ x, F x = d then h.choose else x0
    have hinv : ∀ x, inv (F x) = x := fun x => by
      have h : ∃ y, F y = F x := ⟨x, rfl⟩
      show (if h : ∃ y, F y = F x then h.choose else x0) = x
      rw [dif_pos h]
      exact inj _ _ h.choose_spec
    refine ⟨fun d o => R (inv d) o, ⟨hok, fun d hd M' x' => ?_⟩, fun os => ?_⟩
    · obtain ⟨x, hx, rfl⟩ := List.mem_map.mp hd
      have b := body x hx M' x'
      simp only [hinv]
      exact b
    · have : ∀ (l : List α) (os : List (Option D)), All2 (fun d o => R (inv d) o) (l.map F) os → All2 R l os := by
        intro l
        induction l with
        | nil => intro os h; cases h; exact .nil
        | cons y l ih =>
          intro os h
          cases h with
          | cons h1 h2 =>
            rw [hinv] at h1
            exact .cons h1 (ih _ h2)
      exact this _ os
theorem LI_R (inj : ∀ a b, F a = F b → a = b) (R : α → Option D → Prop) (hok : ∀ M', Ext M M' → ok M') (body : ∀ x, x ∈ xs → ∀ M', Ext M M' → LB g tt te (dwipe Γ vs) M' (F x) (R x)) (q : ∀ os, All2 R xs os → Q (.lst (os.filterMap id)) M) : LI ⟨xs.map F, ok⟩ g tt te vs Γ M Q := by
  obtain ⟨P, h1, h2⟩ := bodyR inj hok body
  exact ⟨P, h1, fun os h => q os (h2 os h)⟩
theorem LI_F (inj : ∀ a b, F a = F b → a = b) (H : α → Option D) (hok : ∀ M', Ext M M' → ok M') (body : ∀ x, x ∈ xs → ∀ M', Ext M M' → LB g tt te (dwipe Γ vs) M' (F x) (fun o => o = H x)) (q : Q (.lst (xs.filterMap H)) M) : LI ⟨xs.map F, ok⟩ g tt te vs Γ M Q :=
  LI_R inj (fun x o => o = H x) hok body fun os h => by rw [all2_fn h]; exact q
end
section
variable {X : Cx} {es : List Expr} {pos : Pos}
def gdUnl (n : Nat) (t : DTGs) : DTG := fun d Γ M Q => ∃ ds, sqD M d = some ds ∧ ds.length = n ∧ t ds Γ M Q
theorem dg_unl {k : Nat} {T : List (Addr × Str)} {vs : Option (List Nat)} {t : DTGs} {n : Nat} (hc : X.calm = true) (h : DGts X T vs es t) (hn : (assignEach es X.env).length = n := by rfl) (hst : (assignEach es X.env).findIdx? (·.1) = none := by rfl) : DGt X T vs (.Tuple es k pos) (gdUnl n t) :=
  ⟨pgW (pg_unl hc h.pg hn hst) fun v σ H Q ⟨d, Γ, M, F, Qd, c, g, r, ⟨ds, e1, hl, q⟩, k⟩ => by
    obtain ⟨a, us, rfl, h1, r1⟩ := sq_of c r e1
    exact ⟨a, us, rfl, h1, by rw [r1.length]; exact hl, ds, Γ, M, F, Qd, c, g, r1, q, k⟩⟩
end
theorem all2_vals {α β : Type} {f : β → D} {P : β → Prop} : ∀ {xs : List α} {os : List (Option D)}, All2 (fun _ o => ∃ z, o = some (f z) ∧ P z) xs os → ∃ zs : List β, os.filterMap id = zs.map f ∧ (∀ z ∈ zs, P z) ∧ zs.length = xs.length
  | _, _, .nil => ⟨[], rfl, (fun _ h => by cases h), rfl⟩
  | _, _, .cons h1 h2 => by
    obtain ⟨z, rfl, hz⟩ := h1
    obtain ⟨zs, e, h3, hl⟩ := all2_vals h2
    refine ⟨z :: zs, by simp [e], fun y hy => ?_, by simp [hl]⟩
    rcases List.mem_cons.mp hy with rfl | hy
    · exact hz
    · exact h3 y hy
theorem sorted2 {a b : Int} {L : List Int} (pm : L.Perm [a, b]) (pw : L.Pairwise (· ≤ ·)) : ∃ x y, L = [x, y] ∧ x ≤ y ∧ (x = a ∨ x = b) ∧ (y = a ∨ y = b) := by
  have hl := pm.length_eq
  match L, hl with
  | [x, y], _ =>
    have hx := pm.mem_iff.mp (show x ∈ [x, y] by simp)
    have hy := pm.mem_iff.mp (show y ∈ [x, y] by simp)
    simp only [List.mem_cons, List.not_mem_nil, or_false] at hx hy
    exact ⟨x, y, rfl, by simpa using pw, hx, hy⟩
theorem inF {α : Type} [DecidableEq α] {f : α → D} {n : Nat} {x : α} {ys : List α} {d : D} {M : Mp} {Q : DQ} (hf : ∀ a, lay n (f a)) (he : ∀ a b, deq (f a) (f b) = decide (a = b)) (hr : res M (f x) = f x) (hd : sqD M d = some (ys.map f)) (hn : n ≤ 63) (hx : x ∉ ys) (h : Q (.bl false) M) : rdIn false (f x) d M Q :=
  (inD hf he hr hd hn).mpr (by rw [decide_eq_false hx]; exact h)
instance (a b : Int × Int × Int) : Decidable (mkLt a b) := by unfold mkLt; infer_instance
instance (a b : Int × Int) : Decidable (spLt a b) := by unfold spLt; infer_instance
theorem cut_to {α : Type} {f : α → D} {xs : List α} {n : Nat} : cutD (xs.map f) none (some (n : Int)) = (xs.take n).map f := by
  unfold cutD HT.sIx
  simp only [List.length_map]
  rw [if_neg (by omega)]
  simp only [Int.toNat_natCast, List.drop_zero, Nat.sub_zero]
  rw [List.map_take, Nat.min_def]
  split
  · rfl
  · rw [List.take_of_length_le (by simp), List.take_of_length_le (by simp; omega)]
theorem allT {ds : List D} {M : Mp} {Q : DQ} (bs : List Bool) (e : ds = bs.map D.bl) (h : Q (.bl (bs.all id)) M) : rdAll [.lst ds] M Q := ⟨.lst ds, bs, rfl, by rw [e]; rfl, h⟩
theorem anyT {ds : List D} {M : Mp} {Q : DQ} (bs : List Bool) (e : ds = bs.map D.bl) (h : Q (.bl (bs.any id)) M) : rdAny [.lst ds] M Q := ⟨.lst ds, bs, rfl, by rw [e]; rfl, h⟩
theorem addL {xs ys : List D} {M : Mp} {Q : DQ} : rdAdd (.lst xs) (.lst ys) M Q = (xs.length + ys.length ≤ sizeLine ∧ Q (.lst (xs ++ ys)) M) := by
  refine propext ⟨fun h => ?_, fun h => ⟨xs, ys, rfl, rfl, h⟩⟩
  obtain ⟨a, b, e1, e2, h⟩ := (show ∃ a b, sqX M (.lst xs) = some a ∧ sqX M (.lst ys) = some b ∧ a.length + b.length ≤ sizeLine ∧ Q (.lst (a ++ b)) M from h)
  cases e1
  cases e2
  exact h
theorem sz0 : (0 ≤ sizeLine) = True := by simp
theorem sz1 : (1 ≤ sizeLine) = True := by rw [szl]; decide
theorem sz2 : (2 ≤ sizeLine) = True := by rw [szl]; decide
theorem sz3 : (3 ≤ sizeLine) = True := by rw [szl]; decide
theorem injSp : ∀ a b : Int × Int, spD a = spD b → a = b := fun a b h => by
  unfold spD at h
  simp only [D.tup.injEq, List.cons.injEq, D.int.injEq, and_true] at h
  exact Prod.ext h.1 h.2
theorem injMk : ∀ a b : Int × Int × Int, mkD a = mkD b → a = b := fun a b h => by
  unfold mkD at h
  simp only [D.tup.injEq, List.cons.injEq, D.int.injEq, and_true] at h
  exact Prod.ext h.1 (Prod.ext h.2.1 h.2.2)
theorem injRng {lo c : Int} (hc : c ≠ 0) : ∀ a b : Nat, D.int (lo + (a : Nat) * c) = D.int (lo + (b : Nat) * c) → a = b := fun a b h => by
  rw [D.int.injEq] at h
  have : (a : Int) * c = b * c := by omega
  have := Int.eq_of_mul_eq_mul_right hc this
  omega
theorem filterMap_some {α β : Type} {f : α → β} (xs : List α) : xs.filterMap (fun x => some (f x)) = xs.map f := by simp
end DL
namespace DL
open PySem L2
theorem lawIn {K : PySem.W.Frag} {H : Hp} {a : Addr} {ns : List Int} {sp : DSp} (hsp : ∀ (ns : List Int) (M : Mp) (Q : DQ), ns.length ≤ 63 → (∀ M2, Q (.bl true) M2) → sp [.scr ns] M Q (fun _ _ _ => False)) (hl : ns.length ≤ 63) (hO : Only H) (hS : SqL K H a (ns.map V.int)) :
    spUp ⟨K, []⟩ sp [.ref a] H (fun v _ => v = .bl true) (fun _ _ _ => False) := by
  refine ⟨[.scr ns], fun _ => none, H, fun d _ => d = .bl true, fun _ _ _ => False, ⟨(fun p hp => nomatch hp), (fun b o e => ?_), (fun b o e => .inl e), (fun b c e => nomatch e)⟩, .cons (.scr ?_) .nil, hsp ns _ _ hl (fun _ => rfl), fun F' H' v d M' _ _ r e => ?_, fun _ _ _ _ _ _ _ _ _ _ _ z => z.elim⟩
  · rcases hO b with h | ⟨ob, xs, h⟩
    · rw [h] at e
      cases e
    · rw [h] at e
      cases e
      trivial
  · rcases hS with h | h
    · rcases h with h | h
      · exact .inl h
      · exact .inr (.inl h)
    · exact .inr (.inr h)
  · subst e
    cases r
    rfl
section
variable {P : Program} {w : World} {K : PySem.W.Frag} {mg : Str → Option Value} {base : Heap}
theorem FunK.okS {T : List (Addr × Str)} {x : Str} {st : Stmt} {f : Addr} {fd : FuncData} {N ps : List Str} {k : Nat} {sp : DSp} (Fn : FunK K x x st f fd) (S : FnScope N ps (defScope st)) (len : ∀ ds M Q E, sp ds M Q E → ds.length = ps.length)
    (hbody : ∀ (cdv : Value) (A : Around) (outer : List Env) (s : Shared) (H : Hp) (E : XK), Room k (A.deeper (PyProof.Rows.envOfC x (defScope st) s.heap.objs.size f cdv)) → ∃ t, DSs (cxOf (L2.CX P w) P w K mg base N x (defScope st) f cdv A outer s H E) (wOf T E) (defBody st) t ∧
      ∀ (ds : List D) (M : Mp) (Qd : DQ) (Ed : DXK), sp ds M Qd Ed → t { nx := fun _ M' => Fin ⟨K, T⟩ Qd .non M', rt := Fin ⟨K, T⟩ Qd, ex := fun _ C fs M' => Ed C fs M' } (dstart N ds) M) : FnOk P w K mg base (L2.CX P w) (k + 1) f fd ps (spUp ⟨K, T⟩ sp) :=
  dfn Fn S len fun cdv A outer s H E hr => by
    obtain ⟨t, ht, hq⟩ := hbody cdv A outer s H E hr
    exact ⟨t, ht, fun ds M Qd Ed F H h c => ⟨F, M, Same.refl _, c, hq ds M Qd Ed h⟩⟩
theorem exB_of {x qual : Str} {st : Stmt} {CL f : Addr} {mc : Value} {fd : FuncData} (m : mg x = some (.ref CL)) (rd : PySem.W.readsIn K CL mc = true) (ga : PySem.W.specialIn K (.ref CL) "__getattribute__" = some (some (.builtin "type.__getattribute__")))
    (kk : PySem.W.findCls K (.ref CL) mc "__init__" = some (.val (.ref f))) (F : Fun K "__init__" qual st f fd) (S : FnScope ["self", "word"] ["self", "word"] (defScope st)) (b : Binds K fd ["self", "word"] [])
    (hps : ∀ (cdv : Value) (A : Around) (outer : List Env) (s : Shared) (H : Hp) (E : XK), PSs (cxOf (L2.CX P w) P w K mg base ["self", "word"] qual (defScope st) f cdv A outer s H E) (defBody st) (tOst K "word" (tVar 0) (tVar 1))) : ExB P w K mg base x "word" :=
  ⟨⟨CL, f, fd, mc, m, ⟨rd, ga⟩, kk, okBase (FunK.of F) S hps, F.kp, b⟩⟩
end
end DL
namespace DL
open PySem L2
section
variable {X : Cx} {W : WT} {e : Expr} {x : Str}
/-- sorted({x for x in xs}), xs a list of spans -/
def dSetSp (i : Nat) (t : DTE) : DTE := fun Γ M Q E => i < Γ.length ∧ t Γ M (fun d M1 => ∃ (as : List (Int × Int)) (B : Int), sqD M1 d = some (as.map spD) ∧ as.length < 64 ∧ (∀ s ∈ as, 0 ≤ s.1 ∧ s.1 < B ∧ 0 ≤ s.2 ∧ s.2 < B) ∧
  ∀ (L : List (Int × Int)) (p : Addr), (∀ s, s ∈ L ↔ s ∈ as) → L.length ≤ as.length → L.Pairwise spLt → M1 p = none → Q (.ref p) (mup M1 p (.lst (L.map spD)))) E
end
end DL
namespace DL
open PySem L2
section
variable {X : Cx} {W : WT} {e : Expr} {x y : Str}
/-- the ends of the spans are few -/
def FewP (as : List (Int × Int)) : Prop := as.length ≤ 1000
/-- sorted({p for x in xs for p in x}), xs a list of spans -/
def dSetIn (i j : Nat) (t : DTE) : DTE := fun Γ M Q E => i < Γ.length ∧ j < Γ.length ∧ i ≠ j ∧ t Γ M (fun d M1 => ∃ (as : List (Int × Int)), sqD M1 d = some (as.map spD) ∧ FewP as ∧
  ∀ (L : List Int) (p : Addr), (∀ z, z ∈ L ↔ ∃ s ∈ as, z = s.1 ∨ z = s.2) → L.length ≤ 2 * as.length → L.Pairwise (· < ·) → M1 p = none → Q (.ref p) (mup M1 p (.lst (L.map D.int)))) E
end
end DL
namespace DL
open PySem L2
/-- the inner clause's items -/
def L2in (g : DTG) (tt : DTT) (te : DTE) (vs : List Nat) (Γ : DG) (M1 : Mp) (it : DIt) (R : List D → Prop) : Prop := (∀ M', Ext M1 M' → it.ok M') ∧ ∃ P : D → Option D → Prop,
  (∀ d, d ∈ it.seq → ∀ M', Ext M1 M' → g d (dwipe Γ vs) M' (fun Γ2 M3 => tt Γ2 M3 (fun b M4 => if b = true then te Γ2 M4 (fun y M5 => M5 = M' ∧ P d (some y)) noE else M4 = M' ∧ P d none) noE)) ∧ ∀ os, All2 P it.seq os → R (os.filterMap id)
/-- [elt for tg in it if .. for tg1 in it1 if ..]: a cell. B bounds the inner ones -/
def dLc2O (ti : DTI) (g : DTG) (tt : DTT) (ti1 : DTI) (g1 : DTG) (tt1 : DTT) (te : DTE) (vs vs1 : List Nat) : DTE := fun Γ M Q E => ti Γ M (fun it M1 => ∃ (P : D → List D → Prop) (B : Nat), it.seq.length * B ≤ sizeLine ∧ (∀ M', Ext M1 M' → it.ok M') ∧
  (∀ d, d ∈ it.seq → ∀ M', Ext M1 M' → g d (dwipe Γ vs) M' (fun Γ2 M3 => tt Γ2 M3 (fun b M4 => if b = true then ti1 Γ2 M4 (fun it1 M5 => M5 = M' ∧ it1.seq.length ≤ B ∧ L2in g1 tt1 te vs1 Γ2 M1 it1 (P d)) noE else M4 = M' ∧ P d []) noE)) ∧
  ∀ rs : List (List D), All2 P it.seq rs → ∀ p, M1 p = none → Q (.ref p) (mup M1 p (.lst rs.flatten))) E
end DL
namespace DL
open PySem L2
/-- the name of a datum's type -/
def tyD (M : Mp) : D → Option String
  | .non => some "NoneType"
  | .bl _ => some "bool"
  | .int _ => some "int"
  | .str _ => some "str"
  | .tup _ => some "tuple"
  | .lst _ => some "list"
  | .scr _ => some "list"
  | .ref p => match M p with
    | some (.lst _) => some "list"
    | _ => none
  | _ => none
theorem tyL {K : PySem.W.Frag} {H : Hp} {a : Addr} {xs : List V} (h : SqL K H a xs) : TyX K H (.ref a) (.type "list") := by
  rcases h with (h | ⟨ob, h⟩) | ⟨o, its, n, h1, h2, _⟩
  · exact .base (.lst h)
  · exact .base (.frz h)
  · exact .kList h1 h2
theorem tyT {K : PySem.W.Frag} {H : Hp} {a : Addr} {xs : List V} (h : SqT K H a xs) : TyX K H (.ref a) (.type "tuple") := by
  rcases h with (h | ⟨ob, h⟩) | ⟨o, its, n, h1, h2, _⟩
  · exact .base (.tup h)
  · exact .fTuple h
  · exact .kTuple h1 h2
theorem ty_of {K : KTb} {M : Mp} {F H : Hp} {v : V} {d : D} {n : String} (c : Cc K M F H) (r : Rp K F v d) (h : tyD M d = some n) : TyX K.K H v (.type n) := by
  have lst : ∀ xs, sqD M d = some xs → n = "list" → TyX K.K H v (.type n) := fun xs e en => by
    obtain ⟨a, vs, rfl, h1, _⟩ := sq_of c r e
    rw [en]
    exact tyL h1
  cases d with
  | non => cases h; cases r; exact .base .non
  | bl b => cases h; cases r; exact .base (.bl b)
  | int i => cases h; cases r; exact .base (.int i)
  | str x => cases h; cases r; exact .base (.str x)
  | tup xs =>
    cases h
    obtain ⟨a, vs, rfl, h1, _⟩ := tp_of c r
    exact tyT h1
  | lst xs => cases h; exact lst xs rfl rfl
  | scr ns => cases h; exact lst _ rfl rfl
  | ref p =>
    have h : (match M p with | some (.lst _) => some "list" | _ => none) = some n := h
    split at h
    · rename_i xs e
      cases h
      exact lst xs (sqD_ref e) rfl
    · cases h
  | dic _ => cases h
  | dit _ => cases h
  | obj _ _ => cases h
  | any _ _ => cases h
def isa (a b : String) : Bool := a == b || (a == "bool" && b == "int")
def tys : List String := ["NoneType", "bool", "int", "str", "tuple", "list"]
def tcs : List String := ["bool", "int", "str", "tuple", "list"]
theorem ty_in {M : Mp} {d : D} {n : String} (h : tyD M d = some n) : n ∈ tys := by
  unfold tyD at h
  repeat' split at h
  all_goals first
    | (cases h; done)
    | (cases h; decide)
theorem isa_ok : ∀ a ∈ tys, ∀ b ∈ tcs, kitB a b = some (isa a b) := by decide +kernel
section
variable {X : Cx} {W : WT} {e : Expr}
theorem pe_ty {n : String} {x : Str} {pos : Pos} (hm : X.mg x = none) (hv : bootBuiltins x = some (.type n)) (hg : Gl X x := by rfl) (hn : x ≠ "__name__" := by decide) (hdb : (x == ("__debug__" : Str)) = false := by decide) : PE X (.Name x pos) (tC (.ty n)) :=
  ⟨fun pins s σ H Q I h => ld_blt I hg hm hv ⟨.ty n, H, I, rfl, h⟩ hn hdb⟩
def dIsi (te : DTE) (c : String) : DTE := fun Γ M Q E => te Γ M (fun d M1 => ∃ n, tyD M1 d = some n ∧ Q (.bl (isa n c)) M1) E
theorem de_isi {te : DTE} {c : String} {x y : Str} {p p2 pos : Pos} (he : DE X W e te) (hm : X.mg x = none) (hx : bootBuiltins x = some (.builtin "isinstance")) (hmy : X.mg y = none) (hy : bootBuiltins y = some (.type c)) (hc : c ∈ tcs := by decide) (hg : Gl X x := by rfl) (hgy : Gl X y := by rfl) (hn : x ≠ "__name__" := by decide) (hdb : (x == ("__debug__" : Str)) = false := by decide)
    (hny : y ≠ "__name__" := by decide) (hdby : (y == ("__debug__" : Str)) = false := by decide) (hs : starEach [e, .Name y p2] X.env = (false, eval e X.env) :: starEach [.Name y p2] X.env := by rfl) (hs2 : starEach [.Name y p2] X.env = (false, eval (.Name y p2) X.env) :: starEach [] X.env := by rfl) (hpl : (backTo pos (starEach [.Name y p2] X.env)).any (·.1) = false := by rfl) :
    DE X W (.Call (.Name x p) [e, .Name y p2] [] pos) (dIsi te c) :=
  ⟨peW (pe_callB call_isi hg hm hx (pa_cons he.pe (pa_cons (pe_ty hmy hy hgy hny hdby) pa_nil hs2) hs) hn hdb hs hpl) fun σ H Q ⟨Γ, M, F, E, Qd, a, q, k⟩ => ⟨Γ, M, F, E, _, a, q, fun F1 H1 v d M1 s1 c1 r1 ⟨n, e1, q1⟩ =>
    ⟨v, .ty c, .type n, .type c, isa n c, rfl, .ty c, ty_of c1 r1 e1, kit_ty (isa_ok n (ty_in e1) c hc), k F1 H1 _ _ M1 s1 c1 (.bl _) q1⟩⟩⟩
def dIsi2 (te : DTE) (c c' : String) : DTE := fun Γ M Q E => te Γ M (fun d M1 => ∃ n, tyD M1 d = some n ∧ Q (.bl (isa n c || isa n c')) M1) E
theorem de_isi2 {te : DTE} {c c' : String} {x y z : Str} {k1 : Nat} {p p2 p3 pt pos : Pos} (he : DE X W e te) (hm : X.mg x = none) (hx : bootBuiltins x = some (.builtin "isinstance")) (hmy : X.mg y = none) (hy : bootBuiltins y = some (.type c)) (hmz : X.mg z = none) (hz : bootBuiltins z = some (.type c')) (hc : c ∈ tcs := by decide) (hc' : c' ∈ tcs := by decide) (hg : Gl X x := by rfl) (hgy : Gl X y := by rfl) (hgz : Gl X z := by rfl) (hn : x ≠ "__name__" := by decide) (hdb : (x == ("__debug__" : Str)) = false := by decide)
    (hny : y ≠ "__name__" := by decide) (hdby : (y == ("__debug__" : Str)) = false := by decide) (hnz : z ≠ "__name__" := by decide) (hdbz : (z == ("__debug__" : Str)) = false := by decide)
    (hs : starEach [e, .Tuple [.Name y p2, .Name z p3] k1 pt] X.env = (false, eval e X.env) :: starEach [.Tuple [.Name y p2, .Name z p3] k1 pt] X.env := by rfl) (hs2 : starEach [.Tuple [.Name y p2, .Name z p3] k1 pt] X.env = (false, eval (.Tuple [.Name y p2, .Name z p3] k1 pt) X.env) :: starEach [] X.env := by rfl) (hpl : (backTo pos (starEach [.Tuple [.Name y p2, .Name z p3] k1 pt] X.env)).any (·.1) = false := by rfl)
    (hs3 : starEach [.Name y p2, .Name z p3] X.env = (false, eval (.Name y p2) X.env) :: starEach [.Name z p3] X.env := by rfl) (hs4 : starEach [.Name z p3] X.env = (false, eval (.Name z p3) X.env) :: starEach [] X.env := by rfl) :
    DE X W (.Call (.Name x p) [e, .Tuple [.Name y p2, .Name z p3] k1 pt] [] pos) (dIsi2 te c c') :=
  ⟨peW (pe_callB call_isiT hg hm hx (pa_cons he.pe (pa_cons (pe_tup (pa_cons (pe_ty hmy hy hgy hny hdby) (pa_cons (pe_ty hmz hz hgz hnz hdbz) pa_nil hs4) hs3)) pa_nil hs2) hs) hn hdb hs hpl) fun σ H Q ⟨Γ, M, F, E, Qd, a, q, k⟩ => ⟨Γ, M, F, E, _, a, q, fun F1 H1 v d M1 s1 c1 r1 ⟨n, e1, q1⟩ =>
    ⟨show 2 ≤ sizeLine from szOf (by decide), fun tp hp => ⟨v, tp, [.ty c, .ty c'], .type n, [.type c, .type c'], isa n c || isa n c', rfl, upd_same, .cons (.ty c) (.cons (.ty c') .nil), ty_of (c1.same (Same.upd hp)) r1 e1, by
      have h1 := isa_ok n (ty_in e1) c hc
      have h2 := isa_ok n (ty_in e1) c' hc'
      refine kitAny_cons (kit_ty h1) (fun hb => ?_) fun hb => by rw [hb]; rfl
      rw [hb, Bool.false_or]
      exact kitAny_cons (kit_ty h2) (fun hb => by rw [hb]; exact kitAny_nil) fun hb => hb, k F1 _ _ _ M1 s1 (c1.same (Same.upd hp)) (.bl _) q1⟩⟩⟩⟩
end
theorem tyI {M : Mp} {i : Int} : tyD M (.int i) = some "int" := rfl
theorem tyB {M : Mp} {b : Bool} : tyD M (.bl b) = some "bool" := rfl
theorem tyN {M : Mp} : tyD M .non = some "NoneType" := rfl
theorem tyTu {M : Mp} {xs : List D} : tyD M (.tup xs) = some "tuple" := rfl
theorem tyLs {M : Mp} {xs : List D} : tyD M (.lst xs) = some "list" := rfl
end DL
namespace DL
open PySem L2
theorem lookup_rel {env : Env} : ∀ {names : List (Str × NameKind)} {x : Str}, (names.lookup x = some .cell ∨ names.lookup x = some .free) →
    ((names.map fun (n, k) => if (k == NameKind.free && env.scope.kind == .function && env.kindOf n == some .cell) then (n, NameKind.cell) else (n, k)).lookup x = some .cell ∨
    (names.map fun (n, k) => if (k == NameKind.free && env.scope.kind == .function && env.kindOf n == some .cell) then (n, NameKind.cell) else (n, k)).lookup x = some .free)
  | [], x, h => by rcases h with h | h <;> cases h
  | (n, k) :: r, x, h => by
    have ih := @lookup_rel env r x
    simp only [List.map_cons]
    by_cases hx : x == n
    · simp only [List.lookup, hx] at h
      by_cases c : (k == NameKind.free && env.scope.kind == .function && env.kindOf n == some .cell) = true
      · simp only [c, if_true, List.lookup, hx]
        exact .inl trivial
      · simp only [c, if_false, List.lookup, hx, Bool.false_eq_true]
        exact h
    · have hx' : (x == n) = false := by simpa using hx
      simp only [List.lookup, hx'] at h
      by_cases c : (k == NameKind.free && env.scope.kind == .function && env.kindOf n == some .cell) = true
      · simp only [c, if_true, List.lookup, hx']
        exact ih h
      · simp only [c, if_false, List.lookup, hx', Bool.false_eq_true]
        exact ih h
theorem blkOk_rel {N : List Str} {sc scope : Scope} {own : List (Str × Nat)} {env : Env} (h : blkC N sc scope own = true) : BlkOk N (relabel sc env) scope own := by
  have b := blkOk_by h
  exact ⟨b.kind, b.uniq, b.ix, fun y hy e => lookup_rel (b.free y hy e), b.own⟩
section
variable {X : Cx} {W : WT} {a b : Expr}
def dListRg (ta tb : DTE) : DTE := fun Γ M Q E => ta Γ M (fun x M1 => ∃ i : Int, x = .int i ∧ tb Γ M1 (fun y M2 => ∃ j : Int, y = .int j ∧ RgOk i j ∧ ∀ p, M2 p = none → Q (.ref p) (mup M2 p (.lst (rngD i 1 (j - i).toNat)))) E) E
end
end DL
namespace DL
open PySem L2
theorem neSpU {a b c d : Int} {M : Mp} {Q : DQ} : rdNe (.tup [.int a, .int b]) (.tup [.int c, .int d]) M Q = Q (.bl (!decide ((a, b) = (c, d)))) M := neSp (s := (a, b)) (t := (c, d))
theorem eqSpU {a b c d : Int} {M : Mp} {Q : DQ} : rdEq (.tup [.int a, .int b]) (.tup [.int c, .int d]) M Q = Q (.bl (decide ((a, b) = (c, d)))) M := eqSp (s := (a, b)) (t := (c, d))
theorem neMkU {a b e c d f : Int} {M : Mp} {Q : DQ} : rdNe (.tup [.int a, .int b, .int e]) (.tup [.int c, .int d, .int f]) M Q = Q (.bl (!decide ((a, b, e) = (c, d, f)))) M := neMk (s := (a, b, e)) (t := (c, d, f))
theorem eqMkU {a b e c d f : Int} {M : Mp} {Q : DQ} : rdEq (.tup [.int a, .int b, .int e]) (.tup [.int c, .int d, .int f]) M Q = Q (.bl (decide ((a, b, e) = (c, d, f)))) M := eqMk (s := (a, b, e)) (t := (c, d, f))
theorem deq_bl {a b : Bool} : deq (.bl a) (.bl b) = decide (a = b) := by cases a <;> cases b <;> rfl
theorem eqB {a b : Bool} {M : Mp} {Q : DQ} : rdEq (.bl a) (.bl b) M Q = Q (.bl (decide (a = b))) M := by
  unfold rdEq
  show (shD (.bl a) = true ∧ shD (.bl b) = true ∧ Q (.bl (deq (.bl a) (.bl b))) M) = _
  rw [sh_of (lay_bl 0 a), sh_of (lay_bl 0 b), deq_bl]
  simp
theorem neB {a b : Bool} {M : Mp} {Q : DQ} : rdNe (.bl a) (.bl b) M Q = Q (.bl (!decide (a = b))) M := by
  unfold rdNe
  show (shD (.bl a) = true ∧ shD (.bl b) = true ∧ Q (.bl (!deq (.bl a) (.bl b))) M) = _
  rw [sh_of (lay_bl 0 a), sh_of (lay_bl 0 b), deq_bl]
  simp
theorem isN_bl {M : Mp} {Q : DQ} {b c : Bool} : rdIsN b (.bl c) .non M Q = Q (.bl b) M := by cases b <;> simp [rdIsN]
theorem isN_lst {M : Mp} {Q : DQ} {b : Bool} {xs : List D} : rdIsN b (.lst xs) .non M Q = Q (.bl b) M := by cases b <;> simp [rdIsN]
theorem isN_ref {M : Mp} {Q : DQ} {b : Bool} {p : Addr} : rdIsN b (.ref p) .non M Q = Q (.bl b) M := by cases b <;> simp [rdIsN]
theorem isaBB : isa "bool" "bool" = true := by decide
theorem isaBL : isa "bool" "list" = false := by decide
theorem isaBT : isa "bool" "tuple" = false := by decide
theorem isaBI : isa "bool" "int" = true := by decide
theorem isaBS : isa "bool" "str" = false := by decide
end DL
namespace DL
open PySem L2
theorem zip_map {α β : Type} {f : α → D} {g : β → D} (as : List α) (bs : List β) : zipD (as.map f) (bs.map g) = (as.zip bs).map fun p => D.tup [f p.1, g p.2] := by
  induction as generalizing bs with
  | nil => rfl
  | cons a as ih =>
    cases bs with
    | nil => rfl
    | cons b bs =>
      show D.tup [f a, g b] :: zipD (as.map f) (bs.map g) = _
      rw [ih]
      rfl
theorem zpL {M : Mp} {xs ys : List D} : zpD M (.lst xs) (.lst ys) = some (xs, ys) := rfl
theorem lenT {xs : List D} {M : Mp} {Q : DQ} : rdLen [.tup xs] M Q = Q (.int (xs.length : Nat)) M := by
  unfold rdLen
  refine propext ⟨fun ⟨d', r', e, e2, h⟩ => ?_, fun h => ⟨_, _, rfl, rfl, h⟩⟩
  cases e
  cases e2
  exact h
theorem isaTL : isa "tuple" "list" = false := by decide
theorem isaTT : isa "tuple" "tuple" = true := by decide
theorem isaLL : isa "list" "list" = true := by decide
theorem isaLT : isa "list" "tuple" = false := by decide
theorem isaIB : isa "int" "bool" = false := by decide
theorem isaII : isa "int" "int" = true := by decide
theorem isaIS : isa "int" "str" = false := by decide
theorem isaIL : isa "int" "list" = false := by decide
theorem isaIT : isa "int" "tuple" = false := by decide
end DL
namespace DL
open PySem L2
section
variable {X : Cx} {W : WT} {e : Expr}
/-- xs[::-1], a list: frozen -/
def dRev (te : DTE) : DTE := fun Γ M Q E => te Γ M (fun d M1 => ∃ xs, sqD M1 d = some xs ∧ Q (.lst xs.reverse) M1) E
end
end DL
namespace DL
open PySem PySem.Spec PyProof.Rows L2 LamX NdefX
/-- the object at f is the lambda of the words G and the body be -/
def LmO (f : Addr) (G : NF) (be : Expr) : HO := .ext fun h => ∃ pm ctv, h.get? f = some (PySem.W.kla_obj G.name G.qual G.params be G.scope G.cl pm G.c ctv)
/-- what captured cells held at the frame's begin they hold still -/
theorem cells_later {X : Cx} {pins : List (Addr × Obj)} {σ : L2.St} {H : Hp} {s : Shared} {cl : List (Str × Addr)} {fr : List Str} {ws : List (Option V)} (C : CellsAt cl fr ws X.s_0.heap X.H_0) (hx : X.ex = []) (J : Inv X pins σ H s) : CellsAt cl fr ws s.heap H := by
  have nx : ∀ b : Addr, b ∉ X.ex := fun b z => by rw [hx] at z; cases z
  have still : ∀ (c : Addr) (v : Option Value), X.H_0 c = none → X.s_0.heap.IsCell c v → s.heap.IsCell c v := fun c v n ⟨o, ho, hd⟩ => by
    obtain ⟨sl, q⟩ := J.base.any ho n (nx c)
    exact ⟨_, q, hd⟩
  refine ⟨C.len, fun y c e => ?_, C.inj, fun i y e => ?_⟩
  · obtain ⟨n, v, z⟩ := C.all y c e
    refine ⟨?_, v, still c v n z⟩
    obtain ⟨o, ho, _⟩ := z
    exact J.base.free c o ho n (nx c)
  · obtain ⟨c, hc, hv⟩ := C.has i y e
    refine ⟨c, hc, fun v ev => ?_⟩
    obtain ⟨u, r, z⟩ := hv v ev
    exact ⟨u, r, still c _ (C.all y c hc).1 z⟩
section
variable {P : Program} {w : World} {K : PySem.W.Frag} {mg : Str → Option Value} {base : Heap}
/-- the promise of a lambda, by data: wd what is known of the captured names -/
structure LmK (P : Program) (w : World) (K : PySem.W.Frag) (mg : Str → Option Value) (base : Heap) (T : List (Addr × Str)) (k : Nat) (G : NF) (be : Expr) (fr : List Str) (wd : DG) (sp : DSp) : Prop where
  run : ∀ (f : Addr) (A : Around) (outer : List Env) (s : Shared) (H : Hp) (us : List Value) (vs : List V) (ws : List (Option V)) (Q : VK) (E : XK) (ds : List D) (M : Mp) (F : Hp) (Qd : DQ) (Ed : DXK), Room k A → Env0 P w K mg base A outer s H → H f = some (LmO f G be) → H G.c = some (CodeO G.c G.qual) → CellsAt G.cl fr ws s.heap H → Vals vs us →
    Cc ⟨K, T⟩ M F H → Rps ⟨K, T⟩ F vs ds → RpG ⟨K, T⟩ F ws wd → sp ds M Qd Ed → CoQ ⟨K, T⟩ F Qd Q → CoX ⟨K, T⟩ F Ed E → codeAny (model P w) A (.call (.ref f) ⟨us, []⟩) (CR (L2.CX P w) outer P w H s Q E) s
/-- the slots at a lambda's begin -/
def startL (N : List Str) (ds : List D) (wd : DG) : DG := ds.map some ++ (wd ++ List.replicate (N.length - ds.length - wd.length) none)
/-- a lambda's promise is its body's reading -/
def spLm (N : List Str) (n : Nat) (wd : DG) (t : DTE) : DSp := fun ds M Q E => ds.length = n ∧ t (startL N ds wd) M Q (fun _ C fs M2 => E C fs M2)
end
end DL
namespace DL
open PySem L2
mutual
def sameD : D → D → Bool
  | .non, .non => true
  | .bl a, .bl b => decide (a = b)
  | .int a, .int b => decide (a = b)
  | .str a, .str b => decide (a = b)
  | .tup xs, .tup ys => samesD xs ys
  | .lst xs, .lst ys => samesD xs ys
  | _, _ => false
def samesD : List D → List D → Bool
  | [], [] => true
  | x :: xs, y :: ys => sameD x y && samesD xs ys
  | _, _ => false
end
def flatD : D → Prop
  | .non => True
  | .bl _ => True
  | .int _ => True
  | .str x => PyData.strOk x = true
  | _ => False
/-- data of depth n -/
def dep : Nat → D → Prop
  | 0, d => flatD d
  | n + 1, d => flatD d ∨ ∃ xs, (d = .tup xs ∨ d = .lst xs) ∧ xs.length ≤ 16000000 ∧ ∀ x ∈ xs, dep n x
theorem dep_flat {n : Nat} {d : D} (h : flatD d) : dep n d := by
  cases n with
  | zero => exact h
  | succ n => exact .inl h
theorem dep_lst {n : Nat} {α : Type} {f : α → D} {as : List α} (h : ∀ a ∈ as, dep n (f a)) (hl : as.length ≤ 16000000) : dep (n + 1) (.lst (as.map f)) := .inr ⟨_, .inr rfl, by rw [List.length_map]; exact hl, fun x hx => by
  obtain ⟨a, ha, rfl⟩ := List.mem_map.mp hx
  exact h a ha⟩
theorem dep_tup {n : Nat} {xs : List D} (h : ∀ a ∈ xs, dep n a) (hl : xs.length ≤ 16000000) : dep (n + 1) (.tup xs) := .inr ⟨_, .inl rfl, hl, h⟩
theorem dep_int {n : Nat} {i : Int} : dep n (.int i) := dep_flat trivial
theorem dep_mkD {n : Nat} {s : Int × Int × Int} : dep (n + 1) (mkD s) := dep_tup (fun a ha => by
  simp only [List.mem_cons, List.not_mem_nil, or_false] at ha
  rcases ha with rfl | rfl | rfl <;> exact dep_int) (by simp)
/-- the type's name of a resolved datum -/
def tyR : D → String
  | .non => "NoneType"
  | .bl _ => "bool"
  | .int _ => "int"
  | .str _ => "str"
  | .tup _ => "tuple"
  | _ => "list"
theorem sq_res {M : Mp} {d : D} {xs : List D} (h : res M d = .lst xs) : sqD M d = some xs := by
  cases e : sqD M d with
  | some ys =>
    rw [resSq e] at h
    cases h
    rfl
  | none =>
    have e2 : res M d = d := by unfold res; rw [e]
    rw [e2] at h
    subst h
    cases e
theorem nsq_res {M : Mp} {d : D} (h : ∀ xs, res M d ≠ .lst xs) : res M d = d := by
  cases e : sqD M d with
  | some ys => exact absurd (resSq e) (h ys)
  | none => unfold res; rw [e]
theorem tyRes {M : Mp} {d : D} {n : Nat} (h : dep n (res M d)) : tyD M d = some (tyR (res M d)) := by
  have go : (∃ xs, res M d = .lst xs) → tyD M d = some (tyR (res M d)) := fun ⟨xs, e⟩ => by
    rw [e]
    rcases sq_cases (sq_res e) with rfl | ⟨p, rfl, e2⟩ | ⟨ns, rfl, _⟩
    · rfl
    · simp [tyD, e2, tyR]
    · rfl
  by_cases hx : ∃ xs, res M d = .lst xs
  · exact go hx
  · have e := nsq_res fun xs z => hx ⟨xs, z⟩
    rw [e] at h ⊢
    have fl : flatD d → tyD M d = some (tyR d) := fun z => by cases d <;> first | rfl | exact z.elim
    cases n with
    | zero => exact fl h
    | succ n =>
      rcases h with h | ⟨xs, rfl | rfl, _⟩
      · exact fl h
      · rfl
      · rfl
theorem samesD_zip : ∀ {xs ys : List D}, xs.length = ys.length → ((xs.zip ys).map fun p => sameD p.1 p.2).all id = samesD xs ys
  | [], [], _ => by simp [samesD]
  | x :: xs, y :: ys, h => by
    have ih := samesD_zip (xs := xs) (ys := ys) (by simpa using h)
    simp only [List.zip_cons_cons, List.map_cons, List.all_cons, id, ih, samesD]
theorem samesD_len : ∀ {xs ys : List D}, samesD xs ys = true → xs.length = ys.length
  | [], [], _ => rfl
  | x :: xs, y :: ys, h => by
    simp only [samesD, Bool.and_eq_true] at h
    simp [samesD_len h.2]
  | [], y :: ys, h => by simp [samesD] at h
  | x :: xs, [], h => by simp [samesD] at h
mutual
theorem sameD_refl : ∀ (n : Nat) (d : D), dep n d → sameD d d = true
  | _, .non, _ => by simp [sameD]
  | _, .bl b, _ => by simp [sameD]
  | _, .int b, _ => by simp [sameD]
  | _, .str b, _ => by simp [sameD]
  | 0, .tup xs, h => h.elim
  | 0, .lst xs, h => h.elim
  | n + 1, .tup xs, h => by
    rcases h with h | ⟨ys, e, _, h⟩
    · exact h.elim
    · simp only [D.tup.injEq, reduceCtorEq, or_false] at e
      subst e
      simp only [sameD]
      exact samesD_refl n xs h
  | n + 1, .lst xs, h => by
    rcases h with h | ⟨ys, e, _, h⟩
    · exact h.elim
    · simp only [D.lst.injEq, reduceCtorEq, false_or] at e
      subst e
      simp only [sameD]
      exact samesD_refl n xs h
  | n, .ref _, h => by cases n with | zero => exact h.elim | succ n => rcases h with h | ⟨_, e | e, _⟩ <;> first | exact h.elim | cases e
  | n, .dic _, h => by cases n with | zero => exact h.elim | succ n => rcases h with h | ⟨_, e | e, _⟩ <;> first | exact h.elim | cases e
  | n, .scr _, h => by cases n with | zero => exact h.elim | succ n => rcases h with h | ⟨_, e | e, _⟩ <;> first | exact h.elim | cases e
  | n, .obj _ _, h => by cases n with | zero => exact h.elim | succ n => rcases h with h | ⟨_, e | e, _⟩ <;> first | exact h.elim | cases e
  | n, .dit _, h => by cases n with | zero => exact h.elim | succ n => rcases h with h | ⟨_, e | e, _⟩ <;> first | exact h.elim | cases e
  | n, .any _ _, h => by cases n with | zero => exact h.elim | succ n => rcases h with h | ⟨_, e | e, _⟩ <;> first | exact h.elim | cases e
theorem samesD_refl : ∀ (n : Nat) (xs : List D), (∀ x ∈ xs, dep n x) → samesD xs xs = true
  | _, [], _ => by simp [samesD]
  | n, x :: xs, h => by
    simp only [samesD, Bool.and_eq_true]
    exact ⟨sameD_refl n x (h x List.mem_cons_self), samesD_refl n xs fun y hy => h y (List.mem_cons_of_mem _ hy)⟩
end
theorem lenDr {M : Mp} {d : D} {xs : List D} (h : res M d = .lst xs ∨ (d = .tup xs)) {Q : DQ} : rdLen [d] M Q = Q (.int (xs.length : Nat)) M := by
  rcases h with h | rfl
  · exact lenSq (sq_res h)
  · exact lenT
theorem zipPr (xs ys : List D) : zipD xs ys = (xs.zip ys).map fun p => D.tup [p.1, p.2] := by
  have := zip_map (f := id) (g := id) xs ys
  simpa using this
theorem injPair : ∀ p q : D × D, D.tup [p.1, p.2] = D.tup [q.1, q.2] → p = q := fun p q h => by
  simp only [D.tup.injEq, List.cons.injEq, and_true] at h
  exact Prod.ext h.1 h.2
theorem lay_str {n : Nat} {x : Str} (h : PyData.strOk x = true) : lay n (.str x) := ⟨by simp only [D.py, PyData.canLay0]; exact h, by simp [D.py, PyData.depth]⟩
theorem sh_flat {x : D} (h : flatD x) : shD x = true := by
  cases x with
  | non => exact sh_of (lay_non 0)
  | bl b => exact sh_of (lay_bl 0 b)
  | int i => exact sh_of (lay_int 0 i)
  | str s => exact sh_of (lay_str (n := 0) h)
  | _ => exact h.elim
end DL
namespace DL
open PySem L2
theorem isa_No_bo : isa "NoneType" "bool" = false := by decide
theorem isa_No_in : isa "NoneType" "int" = false := by decide
theorem isa_No_st : isa "NoneType" "str" = false := by decide
theorem isa_No_tu : isa "NoneType" "tuple" = false := by decide
theorem isa_No_li : isa "NoneType" "list" = false := by decide
theorem isa_bo_bo : isa "bool" "bool" = true := by decide
theorem isa_bo_in : isa "bool" "int" = true := by decide
theorem isa_bo_st : isa "bool" "str" = false := by decide
theorem isa_bo_tu : isa "bool" "tuple" = false := by decide
theorem isa_bo_li : isa "bool" "list" = false := by decide
theorem isa_in_bo : isa "int" "bool" = false := by decide
theorem isa_in_in : isa "int" "int" = true := by decide
theorem isa_in_st : isa "int" "str" = false := by decide
theorem isa_in_tu : isa "int" "tuple" = false := by decide
theorem isa_in_li : isa "int" "list" = false := by decide
theorem isa_st_bo : isa "str" "bool" = false := by decide
theorem isa_st_in : isa "str" "int" = false := by decide
theorem isa_st_st : isa "str" "str" = true := by decide
theorem isa_st_tu : isa "str" "tuple" = false := by decide
theorem isa_st_li : isa "str" "list" = false := by decide
theorem isa_tu_bo : isa "tuple" "bool" = false := by decide
theorem isa_tu_in : isa "tuple" "int" = false := by decide
theorem isa_tu_st : isa "tuple" "str" = false := by decide
theorem isa_tu_tu : isa "tuple" "tuple" = true := by decide
theorem isa_tu_li : isa "tuple" "list" = false := by decide
theorem isa_li_bo : isa "list" "bool" = false := by decide
theorem isa_li_in : isa "list" "int" = false := by decide
theorem isa_li_st : isa "list" "str" = false := by decide
theorem isa_li_tu : isa "list" "tuple" = false := by decide
theorem isa_li_li : isa "list" "list" = true := by decide
theorem tyStr {M : Mp} {x : Str} : tyD M (.str x) = some "str" := rfl
theorem isN_str {M : Mp} {Q : DQ} {b : Bool} {i : Str} : rdIsN b (.str i) .non M Q = Q (.bl b) M := by cases b <;> simp [rdIsN]
theorem eqSq {x y : D} {M : Mp} {Q : DQ} {b : Bool} (h1 : shD (res M x) = true) (h2 : shD (res M y) = true) (e : deq (res M x) (res M y) = b) (q : Q (.bl b) M) : rdEq x y M Q := ⟨h1, h2, by rw [e]; exact q⟩
theorem neSq {x y : D} {M : Mp} {Q : DQ} {b : Bool} (h1 : shD (res M x) = true) (h2 : shD (res M y) = true) (e : deq (res M x) (res M y) = !b) (q : Q (.bl b) M) : rdNe x y M Q := ⟨h1, h2, by rw [e, Bool.not_not]; exact q⟩
theorem nSq_flat {x : D} (h : flatD x) : ∀ M, res M x = x := fun M => nsq_res fun xs z => by
  have e : sqD M x = none := by cases x <;> first | exact h.elim | rfl
  have : res M x = x := by unfold res; rw [e]
  rw [this] at z
  subst z
  exact h
theorem zpRes {M : Mp} {d e : D} {xs ys : List D} (h1 : res M d = .lst xs) (h2 : res M e = .lst ys) : zpD M d e = some (xs, ys) := by
  have e1 := sq_res h1
  have e2 := sq_res h2
  unfold zpD
  split
  · cases e1
  · rw [e1, e2]
    rfl
/-- the loop of all(..) over the pairs -/
theorem dep_mem {n : Nat} {xs : List D} (h : dep (n + 1) (.lst xs) ∨ dep (n + 1) (.tup xs)) : xs.length ≤ 16000000 ∧ ∀ x ∈ xs, dep n x := by
  rcases h with (h | ⟨ys, e, hl, h⟩) | (h | ⟨ys, e, hl, h⟩)
  · exact h.elim
  · rcases e with e | e
    · cases e
    · cases e; exact ⟨hl, h⟩
  · exact h.elim
  · rcases e with e | e
    · cases e; exact ⟨hl, h⟩
    · cases e
theorem res_dep {n : Nat} {x : D} (h : dep n x) : ∀ M, res M x = x := fun M => by
  cases n with
  | zero => exact nSq_flat h M
  | succ n =>
    rcases h with h | ⟨xs, rfl | rfl, _⟩
    · exact nSq_flat h M
    · rfl
    · rfl
theorem dep_kinds {n : Nat} {x : D} (h : dep n x) : flatD x ∨ (∃ xs, x = .tup xs) ∨ ∃ xs, x = .lst xs := by
  cases n with
  | zero => exact .inl h
  | succ n =>
    rcases h with h | ⟨xs, rfl | rfl, _⟩
    · exact .inl h
    · exact .inr (.inl ⟨xs, rfl⟩)
    · exact .inr (.inr ⟨xs, rfl⟩)
theorem deq_str {i j : Str} : deq (.str i) (.str j) = decide (i = j) := by
  simp only [deq, D.py, PyData.eqv]
  by_cases h : i = j
  · subst h; simp
  · rw [decide_eq_false h]
    simpa using h
theorem isN_sq {d : D} {xs : List D} {b : Bool} {M : Mp} {Q : DQ} (h : res M d = .lst xs) : rdIsN b d .non M Q = Q (.bl b) M := by
  rcases sq_cases (sq_res h) with rfl | ⟨p, rfl, _⟩ | ⟨ns, rfl, _⟩
  · exact isN_lst
  · exact isN_ref
  · cases b <;> simp [rdIsN]
end DL
namespace DL
open PySem L2
section
variable {X : Cx} {W : WT}
/-- xs.insert(i, y) -/
def dInsert (tx ti te : DTE) : DTE := fun Γ M Q E => tx Γ M (fun d M1 => (∃ xs, sqX M1 d = some xs) ∧ ti Γ M1 (fun i M2 => te Γ M2 (fun y M3 => ∃ p xs k, d = .ref p ∧ i = .int k ∧ M3 p = some (.lst xs) ∧ xs.length < sizeLine ∧ 0 ≤ k ∧ k < 2 ^ 63 ∧ Q .non (mup M3 p (.lst (xs.take k.toNat ++ [y] ++ xs.drop k.toNat)))) E) E) E
theorem de_insert {xs i y : Expr} {apos cpos : Pos} {tx ti te : DTE} (hx : DE X W xs tx) (hi : DE X W i ti) (hy : DE X W y te)
    (hb : attributeBase xs "insert" X.env (eval xs X.env) = eval xs X.env := by rfl)
    (hf : ((backTo cpos (starEach [i, y] X.env)).all (fun z => !z.1) && (backToKw cpos (keywordEach [] X.env)).all (fun z => z.1.isSome) && decide (([i, y] : List Expr).length + ([] : List Keyword).length + (if ([] : List Keyword).isEmpty then 0 else 1) < 30)) = true := by rfl)
    (hl : (apos.endLine == cpos.line) = true := by rfl) (hs : starEach [i, y] X.env = (false, eval i X.env) :: starEach [y] X.env := by rfl) (hs2 : starEach [y] X.env = (false, eval y X.env) :: starEach [] X.env := by rfl) (hp : (backTo cpos (starEach [y] X.env)).any (·.1) = false := by rfl) :
    DE X W (.Call (.Attribute xs "insert" apos) [i, y] [] cpos) (dInsert tx ti te) :=
  ⟨peW (pe_bm PySem.F.plainAttrs_list PySem.F.slot_list_insert PySem.F.type_list_insert mt_insert hx.pe (pa_cons hi.pe (pa_cons hy.pe pa_nil hs2) hs) hb hf hl hs hp) fun σ H Q ⟨Γ, M, F, E, Qd, a, q, k⟩ => ⟨Γ, M, F, E, _, a, q, fun F1 H1 v d M1 s1 c1 r1 ⟨⟨xs, e1⟩, q1⟩ => ⟨ty_list c1 r1 e1,
    Γ, M1, F1, E, _, a.next s1 c1, q1, fun F2 H2 w e M2 s2 c2 r2 q2 => ⟨Γ, M2, F2, E, _, a.next (s1.trans s2) c2, q2, fun F3 H3 u f M3 s3 c3 r3 ⟨p, ys, j, e2, e3, e4, hz, h0, h63, q3⟩ => by
      subst e2
      subst e3
      cases r1
      cases r2
      obtain ⟨fz, o, e5, us, e6, r5⟩ := c3.ow _ _ e4
      subst e6
      refine ⟨p, us, j, u, rfl, rfl, e5, by rw [r5.length]; exact hz, h0, h63, k _ _ _ _ _ ((s1.trans s2).trans s3) (c3.write (x := .lst _) e4 ⟨_, rfl, ?_⟩) .non q3⟩
      exact ((r5.take _).append (.cons r3 .nil)).append (r5.drop _)⟩⟩⟩⟩
end
end DL
namespace DL
open PySem PySem.Spec PyProof.Rows L2
abbrev HdT := Value × Nat × (Addr → Value → Option Addr → TS)
/-- what stands behind a clause: the name's slot is empty -/
def offS (i : Nat) (D : Ends) : Ends := { nx := fun τ G => D.nx (τ.set i none) G, rt := D.rt, bk := fun τ G => D.bk (τ.set i none) G, ct := fun τ G => D.ct (τ.set i none) G }
def wNm (K : PySem.W.Frag) (Wout : WX) (D : Ends) : List HdT → WX
  | [] => Wout
  | (c, i, ts) :: r => fun cls d τ G => ∃ b, PySem.W.exmOne K cls c = some b ∧ (b = true → ∀ p, G p = none → ts p cls d (offS i D) (τ.set i (some (.ref p))) G) ∧ (b = false → wNm K Wout D r cls d τ G)
inductive HdN (X : Cx) : List ExceptHandler → List HdT → Prop
  | nil : HdN X [] []
  | cons {x n : Str} {c : Value} {i : Nat} {ts : Addr → Value → Option Addr → TS} {b0 : Stmt} {su : List Stmt} {np ps : Pos} {hds : List ExceptHandler} {l : List HdT} (hc : Names X x c) (hi : X.N[i]? = some n) (hn : X.env.kindOf n = some .local)
      (hsu : ∀ (p : Addr) (oe : Obj) (cls : Value) (d : Option Addr) (pn : List (Addr × Obj)), Zc cls d oe → (∃ vs, oe.data = .fields vs) → PSs (X.suite p ((p, oe) :: pn)) (b0 :: su) (ts p cls d)) (r : HdN X hds l) :
      HdN X (.ExceptHandler (some (.Name x np)) (some n) (b0 :: su) ps :: hds) ((c, i, ts) :: l)
section
variable {X : Cx} {body : List Stmt} {h0 : ExceptHandler} {hds : List ExceptHandler} {l : List HdT} {pos : Pos} {tb : WX → TS} {Wout : WX}
theorem ps_tryN (hst : X.stack = X.env :: X.outer) (hfr : X.env.frame = some X.env.locals) (hN : X.N.Nodup) (tk : Takes X Wout)
    (hb : ∀ (W : WX) (pn : List (Addr × Obj)) (xe : Value → Shared → Prop), Takes (X.tr pn xe) W → PSs (X.tr pn xe) body (tb W)) (hh : HdN X (h0 :: hds) l) :
    PS X (.Try body (h0 :: hds) [] [] pos) (fun D σ H => tb (wNm X.K Wout D l) D σ H) := by
  refine ⟨fun pins s σ H D J q0 => ?_⟩
  have okX := J.ok
  have frA : X.A.frames = some (X.env :: X.outer) := by rw [okX.frames, hst]
  let catch_ : Value → Shared → Prop := fun u z1 => wpAny (model X.prog X.w) X.A (noteFrame u X.env) (fun _ z2 => wpAny (model X.prog X.w) X.A (setFlight u none) (fun _ z3 => wpAny (model X.prog X.w) X.A (handleBy u X.env (h0 :: hds)) (SP X pins D) X.xe z3) X.xe z2) X.xe z1
  have tkB : Takes (X.tr (X.pn ++ pins) catch_) (wNm X.K Wout D l) := fun u s2 big => by
    obtain ⟨p, B, sI, pinsB, τ, G, cls, d, rfl, JB, nb, up, sky, np, os, ag, w⟩ := big
    have J1 : Inv X pins τ G sI := JB.ofTry okX
    have sky1 : Sky B (X.env :: X.outer) p (Zc cls d) X.env.locals s2.heap := hst ▸ sky
    show wpAny (model X.prog X.w) X.A (noteFrame (.ref p) X.env) _ _ _
    refine Sky.land Zc.steady frA hfr sky1 fun g fl upg => ?_
    have J2 : Inv X pins τ G { s2 with heap := g } := J1.landed nb fl.1 (up.trans upg) os ag
    obtain ⟨oe, vs, ge, ze, de⟩ := fl.there
    have pfr : p ∉ frs (X.env :: X.outer) := fun hm => by
      obtain ⟨_, o1, e1, nf⟩ := fl.2.2.1.mem hm
      rw [ge] at e1
      cases e1
      exact nf _ de
    have pL : p ≠ X.env.locals := fun z => pfr (List.mem_filterMap.mpr ⟨X.env, List.mem_cons_self, by rw [hfr, z]⟩)
    have pF : p ∉ X.fs := fun hm => by
      obtain ⟨ev, h1, h2⟩ := List.mem_filterMap.mp hm
      exact pfr (List.mem_filterMap.mpr ⟨ev, List.mem_cons_of_mem _ h1, h2⟩)
    have JS := J2.suite ge de np pL pF
    have walk : ∀ {hds' : List ExceptHandler} {l' : List HdT}, HdN X hds' l' → wNm X.K Wout D l' cls d τ G → wpAny (model X.prog X.w) X.A (handleBy (.ref p) X.env hds') (SP X pins D) X.xe { s2 with heap := g } := by
      intro hds' l' hk
      induction hk with
      | nil =>
        intro w
        refine wpAny_handleBy_nil ?_
        obtain ⟨k1, k2, k3, o3, vs3, T3, oT, ts3, q1, q2, q3, q4, q5⟩ := id fl
        unfold PySem.passOn
        refine wpAny_bind (wpAny_field q1 q3 q4 ?_)
        rw [if_neg (show ¬ ((Value.ref T3 == Value.none) = true) by simp)]
        have out : wpAny (model X.prog X.w) X.A (setFlight (.ref p) X.env.frame) (fun _ z4 => wpAny (model X.prog X.w) X.A (throw (.ref p) : Sem Flow) (SP X pins D) X.xe z4) X.xe { s2 with heap := g } := by
          rw [hfr]
          refine HandSPX.setFlight_upZ fl fun g4 hg4 up4 => wpAny_throw (tk _ _ ?_)
          exact ⟨p, B, sI, pins, τ, G, cls, d, rfl, J1, nb, (up.trans upg).trans up4, .inr (.inr (hst ▸ hg4)), np, os, ag, w⟩
        first | exact wpAny_bind (wpAny_pure (wpAny_bind out)) | exact wpAny_bind out
      | @cons x n c i ts b0 su npos pss hds2 l2 hc hi hn hsu r ih =>
        intro w
        obtain ⟨b, eb, yes, no⟩ := w
        refine wpAny_handleBy_cons (codeAny_handlers_test ?_) (by intro z; cases z)
        have lt1 : PySem.W.Looks (model X.prog X.w) g (typeOf (.ref p)) cls := fun A Q E z k q => wpAny_typeOf_ref (k _ _ ge) (by rw [ze.1]; exact q)
        have lm1 := PySem.W.exm_one (M := model X.prog X.w) J2.kIn lt1 eb
        have nameOf : ∀ {Q : Value → Shared → Prop} {E : Value → Shared → Prop}, Q c { s2 with heap := g } → wpAny (model X.prog X.w) (X.A.mark (some (.ref p))) (eval (.Name x npos) X.env) Q E { s2 with heap := g } := fun {Q E} q => by
          obtain ⟨g1, g2, g3 | ⟨g3, g4, g5⟩⟩ := hc
          · exact ld_glob (X := X.suite p ((p, oe) :: (X.pn ++ pins))) JS g1 g3 q g2
          · exact ld_blt (X := X.suite p ((p, oe) :: (X.pn ++ pins))) JS g1 g3 g4 q g5 g2
        refine nameOf (lm1.here ?_)
        cases b with
        | false =>
          show wpAny _ X.A (handleBy (.ref p) X.env hds2) _ _ _
          exact ih (no rfl)
        | true =>
          refine codeAny_handlers_suite_as ?_
          refine HandSPX.lands_againZ fl fun g4 fl4 up4 => ?_
          have J4 : Inv X pins τ G { s2 with heap := g4 } := J1.landed nb fl4.1 ((up.trans upg).trans up4) os ag
          obtain ⟨oe4, vs4, ge4, ze4, de4⟩ := fl4.there
          have JS4 := J4.suite ge4 de4 np pL pF
          refine store_ok (X := X.suite p ((p, oe4) :: (X.pn ++ pins))) (v := .ref p) JS4 hN hi (.inl hn) rfl (fun z5 J5 => ?_) (.inr hn)
          refine wpAny_mono ((hsu p oe4 cls d (X.pn ++ pins) ze4 ⟨_, de4⟩).run [] z5 _ G _ J5 (yes rfl p np)) (fun fl6 z6 hs6 => ?_) (fun _ _ z => z.elim)
          have close : ∀ {τ6 : L2.St} {G6 : Hp} {R : Shared → Prop}, Inv (X.suite p ((p, oe4) :: (X.pn ++ pins))) [] τ6 G6 z6 → (∀ z7, Inv X pins (τ6.set i none) G6 z7 → R z7) →
              wpAny (model X.prog X.w) X.A (do bindName X.env n .none; unbindBehindTheSuite X.env n pss) (fun _ z7 => R z7) X.xe z6 := fun {τ6 G6 R} J6 hq => gone_ok (J6.unsuite okX) hN hi hn hq
          cases fl6 with
          | ret u =>
            obtain ⟨v6, τ6, G6, J6, r6, q6⟩ := hs6
            exact close J6 fun z7 J7 => ⟨v6, _, _, J7, r6, q6⟩
          | next =>
            obtain ⟨τ6, G6, J6, q6⟩ := hs6
            exact close J6 fun z7 J7 => ⟨_, G6, J7, q6⟩
          | brk =>
            obtain ⟨τ6, G6, J6, q6⟩ := hs6
            exact close J6 fun z7 J7 => ⟨_, G6, J7, q6⟩
          | cont =>
            obtain ⟨τ6, G6, J6, q6⟩ := hs6
            exact close J6 fun z7 J7 => ⟨_, G6, J7, q6⟩
    exact walk hh w
  refine wpAny_Try_except ?_
  refine wpAny_mono ((hb (wNm X.K Wout D l) (X.pn ++ pins) catch_ tkB).run [] s σ H D (J.toTry _) q0) (fun fl s1 hs => ?_) (fun e s1 he => he)
  cases fl with
  | ret u =>
    obtain ⟨v, τ, G, J1, r, q⟩ := hs
    exact ⟨v, τ, G, J1.ofTry okX, r, q⟩
  | next =>
    obtain ⟨τ, G, J1, q⟩ := hs
    exact wpAny_execs_nil ⟨τ, G, J1.ofTry okX, q⟩
  | brk =>
    obtain ⟨τ, G, J1, q⟩ := hs
    exact ⟨τ, G, J1.ofTry okX, q⟩
  | cont =>
    obtain ⟨τ, G, J1, q⟩ := hs
    exact ⟨τ, G, J1.ofTry okX, q⟩
end
end DL
namespace DL
open PySem PySem.Spec PyProof.Rows L2 LamX NdefX
section
variable {K : KTb} {M : Mp} {F H : Hp}
/-- a thing that stands in H is known from now on -/
theorem Cc.known {a : Addr} {o : HO} (c : Cc K M F H) (e : H a = some o) (hk : Fk o) (h1 : ∀ x F', ¬ RpC K F' x o) (h2 : ∀ kvs, o ≠ .dK kvs) (h3 : ∀ ob u, o ≠ .frz ob u) : ∃ F1, Same F F1 ∧ Cc K M F1 H ∧ F1 a = some o := by
  cases e1 : F a with
  | some u =>
    have : H a = some u ∨ _ := c.fr a u e1
    rcases this with z | ⟨_, ob, z⟩
    · rw [e] at z
      cases z
      exact ⟨F, Same.refl _, c, e1⟩
    · rw [e] at z
      cases z
      exact absurd rfl (h3 ob u)
  | none =>
    have mN : M a = none := by
      cases em : M a with
      | none => rfl
      | some x =>
        obtain ⟨_, o1, z1, z2⟩ := c.ow a x em
        rw [e] at z1
        cases z1
        exact absurd z2 (h1 x F)
    have sm : Same F (upd F a o) := Same.upd e1
    refine ⟨upd F a o, sm, ⟨c.tb, fun b u eb => ?_, fun b u eb => ?_, fun b x eb => ?_⟩, upd_same⟩
    · by_cases hb : b = a
      · subst hb
        rw [upd_same] at eb
        cases eb
        exact hk
      · rw [upd_ne hb] at eb
        exact c.fk b u eb
    · by_cases hb : b = a
      · subst hb
        rw [upd_same] at eb
        cases eb
        exact .inl e
      · rw [upd_ne hb] at eb
        exact c.fr b u eb
    · obtain ⟨f1, o1, z1, z2⟩ := c.ow b x eb
      have hb : b ≠ a := fun z => by rw [z, mN] at eb; cases eb
      exact ⟨by rw [upd_ne hb]; exact f1, o1, z1, z2.mono sm⟩
theorem Cc.at_xd {a : Addr} {vs : List (Str × V)} (c : Cc K M F H) (e : F a = some (.xd vs)) : H a = some (.xd vs) := by
  rcases c.fr a _ e with z | ⟨⟨_, z⟩, _⟩
  · exact z
  · cases z
theorem rpc_xd {K : KTb} {x : Cell} {F : Hp} {vs : List (Str × V)} : ¬ RpC K F x (.xd vs) := fun r => by
  cases x with
  | lst ds => obtain ⟨_, z, _⟩ := r; cases z
  | dic ds => obtain ⟨_, z, _⟩ := r; cases z
  | dit ds => obtain ⟨_, z, _⟩ := r; cases z
  | lkd ds u => obtain ⟨e, _, _, z, _⟩ := r; subst e; cases z
  | ins C fs => obtain ⟨_, _, z, _⟩ := r; cases z
  | opq φ => obtain ⟨_, _, _, z, _⟩ := r; cases z
end
/-- a caught exception at a, its fields -/
def excD (K : KTb) (a d : Addr) (fs : List (Str × D)) : D := .any (.ref a) fun F => ∃ vs, F d = some (.xd vs) ∧ RpF K F vs fs
/-- a lambda's value; wd: what is known of the names that it captured -/
def lamD (K : KTb) (f : Addr) (G : NF) (be : Expr) (ws : List (Option V)) (wd : DG) : D := .any (.ref f) fun F => F f = some (LmO f G be) ∧ F G.c = some (CodeO G.c G.qual) ∧ RpG K F ws wd
section
variable {X : Cx} {W : WT}
def dXf (K : KTb) (a : Addr) (cls : Value) (d : Option Addr) (n : Str) (te : DTE) : DTE := fun Γ M Q E => te Γ M (fun x M1 => ∃ (C dd : Addr) (fs : List (Str × D)) (v : D), cls = .ref C ∧ XfC K.K C ∧ PySem.W.findIn K.K (.ref C) n = some none ∧ d = some dd ∧ x = excD K a dd fs ∧ fs.lookup n = some v ∧ Q v M1) E
theorem de_xfX {a : Addr} {oe : Obj} {cls : Value} {d : Option Addr} {pn : List (Addr × Obj)} {e : Expr} {te : DTE} {pos : Pos} {n : Str} (hz : Zc cls d oe) (hf : ∃ vs, oe.data = .fields vs) (he : DE (X.suite a ((a, oe) :: pn)) W e te) (hb : attributeBase e n X.env (eval e X.env) = eval e X.env := by rfl) :
    DE (X.suite a ((a, oe) :: pn)) W (.Attribute e n pos) (dXf (kt X W) a cls d n te) := by
  refine ⟨⟨fun pins s σ H Q J ⟨Γ, M, F, E, Qd, at1, q, k⟩ => ?_⟩⟩
  by_cases hC : ∃ C, cls = .ref C ∧ XfC X.K C ∧ PySem.W.findIn X.K (.ref C) n = some none
  · obtain ⟨C, ec, T, no⟩ := hC
    refine (pe_xf T no hz hf he.pe hb).run pins s σ H Q J ?_
    refine ⟨Γ, M, F, E, _, at1, q, fun F1 H1 v dv M1 s1 c1 r1 ⟨C2, dd, fs, w, _, _, _, e4, e5, e6, q1⟩ => ?_⟩
    subst e5
    cases r1 with
    | any _ r1 =>
      obtain ⟨vs, z1, z2⟩ := r1 F1 (Same.refl _)
      obtain ⟨u, l1, l2⟩ := z2.look e6
      exact ⟨rfl, ec, dd, vs, u, e4, c1.at_xd z1, l1, k F1 H1 u w M1 s1 c1 l2 q1⟩
  · have he2 : DE (X.suite a ((a, oe) :: pn)) W e te := he
    refine attr_of hb (thn (he2.pe.run pins s σ H (fun _ _ => False) J ⟨Γ, M, F, E, _, at1, q, fun F1 H1 v dv M1 s1 c1 r1 ⟨C2, dd, fs, w, e1, e2, e3, _⟩ => absurd ⟨C2, e1, e2, e3⟩ hC⟩) fun u s1 hh => ?_)
    obtain ⟨_, _, _, _, z⟩ := hh
    exact z.elim
theorem de_xf {K : KTb} {a : Addr} {oe : Obj} {cls : Value} {d : Option Addr} {pn : List (Addr × Obj)} {e : Expr} {te : DTE} {pos : Pos} {n : Str} (hK : kt X W = K) (hz : Zc cls d oe) (hf : ∃ vs, oe.data = .fields vs) (he : DE (X.suite a ((a, oe) :: pn)) W e te) (hb : attributeBase e n X.env (eval e X.env) = eval e X.env := by rfl) :
    DE (X.suite a ((a, oe) :: pn)) W (.Attribute e n pos) (dXf K a cls d n te) := hK ▸ de_xfX hz hf he hb
abbrev HdD := Addr × Nat × (Addr → Value → Option Addr → DTS)
def offD (i : Nat) (Dn : DEnds) : DEnds := { nx := fun Γ M => Dn.nx (Γ.set i none) M, rt := Dn.rt, bk := fun Γ M => Dn.bk (Γ.set i none) M, ct := fun Γ M => Dn.ct (Γ.set i none) M }
def exN (K : KTb) (Dn : DEnds) : List HdD → DXE
  | [] => Dn.ex
  | (B, i, td) :: r => fun Γ C fs M => ∃ b, PySem.W.exmOne K.K (.ref C) (.ref B) = some b ∧ (b = true → ∀ p dd, td p (.ref C) (some dd) (offD i Dn) (Γ.set i (some (excD K p dd fs))) M) ∧ (b = false → exN K Dn r Γ C fs M)
inductive HdsN (X : Cx) (T : List (Addr × Str)) : List ExceptHandler → List HdD → Prop
  | nil : HdsN X T [] []
  | cons {x n : Str} {B : Addr} {i : Nat} {td : Addr → Value → Option Addr → DTS} {b0 : Stmt} {su : List Stmt} {np ps : Pos} {hds : List ExceptHandler} {l : List HdD} (hc : Names X x (.ref B)) (hi : X.N[i]? = some n) (hn : X.env.kindOf n = some .local)
      (hsu : ∀ (p : Addr) (oe : Obj) (cls : Value) (d : Option Addr) (pn : List (Addr × Obj)), Zc cls d oe → (∃ vs, oe.data = .fields vs) → DSs (X.suite p ((p, oe) :: pn)) (noT T) (b0 :: su) (td p cls d)) (r : HdsN X T hds l) :
      HdsN X T (.ExceptHandler (some (.Name x np)) (some n) (b0 :: su) ps :: hds) ((B, i, td) :: l)
def hdU (K : KTb) : List HdD → List HdT
  | [] => []
  | (B, i, td) :: r => (.ref B, i, fun p cls d => upS K noW (td p cls d)) :: hdU K r
theorem hdU_ok {hds : List ExceptHandler} {l : List HdD} (h : HdsN X W.T hds l) : HdN X hds (hdU (kt X W) l) := by
  induction h with
  | nil => exact .nil
  | cons hc hi hn hsu _ ih => exact .cons hc hi hn (fun p oe cls d pn hz hf => (hsu p oe cls d pn hz hf).ps) ih
theorem CoS.off {K : KTb} {F : Hp} {Qd : DG → Mp → Prop} {Q : L2.St → Hp → Prop} (i : Nat) (k : CoS K F Qd Q) : CoS K F (fun Γ M => Qd (Γ.set i none) M) (fun τ G => Q (τ.set i none) G) := fun F1 H1 τ Γ M s c g q => k F1 H1 _ _ M s c (g.unset i) q
theorem ew_N {K : KTb} {W0 : WX} {D : Ends} : ∀ {l : List HdD} {F : Hp} {Dn : DEnds}, CoE K F Dn D → Ew K F Dn.ex W0 → Ew K F (exN K Dn l) (wNm K.K W0 D (hdU K l))
  | [], F, Dn, k, w => w
  | (B, i, td) :: r, F, Dn, k, w => fun F1 H1 σ Γ C d vs fs M s1 c1 g1 hd rf ⟨b, eb, yes, no⟩ => by
    refine ⟨b, eb, fun hb p np => ?_, fun hb => ew_N k w F1 H1 σ Γ C d vs fs M s1 c1 g1 hd rf (no hb)⟩
    obtain ⟨F2, s2, c2, e2⟩ := c1.known (a := d) hd trivial (fun x F' => rpc_xd) (fun kvs z => by cases z) (fun ob u z => by cases z)
    have rx : Rp K F2 (.ref p) (excD K p d fs) := .any (fun z => by cases z) fun F3 s3 => ⟨vs, s3 _ _ e2, (rf.mono s2).mono s3⟩
    have k2 := k.mono (s1.trans s2)
    exact ⟨Γ.set i (some (excD K p d fs)), M, F2, offD i Dn, ⟨c2, (g1.mono s2).set rx i, fun _ _ _ _ _ _ _ _ _ _ _ _ _ _ z => z⟩, yes hb p d, ⟨k2.nx.off i, k2.rt, k2.bk.off i, k2.ct.off i⟩⟩
def dTryN (K : KTb) (tb : DTS) (l : List HdD) : DTS := fun Dn Γ M => tb { Dn with ex := exN K Dn l } Γ M
theorem ds_tryN {body : List Stmt} {h0 : ExceptHandler} {hds : List ExceptHandler} {l : List HdD} {pos : Pos} {tb : DTS} (hst : X.stack = X.env :: X.outer) (hfr : X.env.frame = some X.env.locals) (hN : X.N.Nodup) (tk : Takes X W.w)
    (hb : ∀ (W1 : WX) (pn : List (Addr × Obj)) (xe : Value → Shared → Prop), Takes (X.tr pn xe) (WT.w ⟨W.T, W1⟩) → DSs (X.tr pn xe) ⟨W.T, W1⟩ body tb) (hh : HdsN X W.T (h0 :: hds) l) :
    DS X W (.Try body (h0 :: hds) [] [] pos) (dTryN (kt X W) tb l) :=
  ⟨psW (ps_tryN (tb := fun W1 => upS (kt X W) W1 tb) hst hfr hN tk (fun W1 pn xe t => (hb W1 pn xe t).ps) (hdU_ok hh)) fun D σ H ⟨Γ, M, F, Dn, a, q, k⟩ => ⟨Γ, M, F, { Dn with ex := exN (kt X W) Dn l }, ⟨a.c, a.g, ew_N k a.w⟩, q, ⟨k.nx, k.rt, k.bk, k.ct⟩⟩⟩
end
end DL
namespace DL
open PySem PySem.Spec PyProof.Rows L2 LamX NdefX
/-- the cells of a lambda hold what they held, wherever the frame X stands -/
def Holds (X : Cx) (G : NF) (fr : List Str) (ws : List (Option V)) : Prop := ∀ (pins : List (Addr × Obj)) (σ : L2.St) (H : Hp) (s : Shared), Inv X pins σ H s → CellsAt G.cl fr ws s.heap H
theorem Holds.start {X : Cx} {G : NF} {fr : List Str} {ws : List (Option V)} (C : CellsAt G.cl fr ws X.s_0.heap X.H_0) (hx : X.ex = []) : Holds X G fr ws := fun _ _ _ _ J => cells_later C hx J
/-- x(..), x a parameter that holds the lambda -/
def dAct (K : KTb) (j : Nat) (G : NF) (be : Expr) (ws : List (Option V)) (wd : DG) (sp : DSp) (t : DTA) : DTE := fun Γ M Q E => ∃ f, Γ[j]? = some (some (lamD K f G be ws wd)) ∧ t Γ M (fun ds M1 => sp ds M1 Q (fun C fs M2 => E Γ C fs M2)) E
section
variable {P : Program} {w : World} {K : PySem.W.Frag} {mg : Str → Option Value} {base : Heap} {T : List (Addr × Str)}
/-- the def x keeps the promise sp, told by the lambda's value and promise -/
structure Hof (P : Program) (w : World) (K : PySem.W.Frag) (mg : Str → Option Value) (base : Heap) (T : List (Addr × Str)) (x : Str) (k kl : Nat) (ps : List Str) (sp : D → DSp → DSp) : Prop where
  ex : ∃ g, mg x = some (.ref g) ∧ PySem.W.keepIn K (.ref g) = true ∧ ∀ (G : NF) (be : Expr) (fr : List Str) (wd : DG) (spL : DSp), LmK P w K mg base T kl G be fr wd spL →
    ∀ (f : Addr) (ws : List (Option V)) (A : Around) (outer : List Env) (s : Shared) (H : Hp) (us : List Value) (vs : List V) (Q : VK) (E : XK) (ds : List D) (M : Mp) (F : Hp) (Qd : DQ) (Ed : DXK), Room k A → Env0 P w K mg base A outer s H → CellsAt G.cl fr ws s.heap H → Vals vs us →
      Cc ⟨K, T⟩ M F H → Rps ⟨K, T⟩ F vs ds → sp (lamD ⟨K, T⟩ f G be ws wd) spL ds M Qd Ed → CoQ ⟨K, T⟩ F Qd Q → CoX ⟨K, T⟩ F Ed E → codeAny (model P w) A (.call (.ref g) ⟨us, []⟩) (CR (L2.CX P w) outer P w H s Q E) s
theorem Hof.mono {x : Str} {k k2 kl : Nat} {ps : List Str} {sp : D → DSp → DSp} (h : Hof P w K mg base T x k kl ps sp) (i : k ≤ k2) : Hof P w K mg base T x k2 kl ps sp := by
  obtain ⟨g, h1, h2, h3⟩ := h.ex
  exact ⟨g, h1, h2, fun G be fr wd spL LK f ws A outer s H us vs Q E ds M F Qd Ed hr => h3 G be fr wd spL LK f ws A outer s H us vs Q E ds M F Qd Ed (hr.mono i)⟩
end
/-- what the frame's slots js tell -/
def capD (Γ : DG) (js : List Nat) : DG := js.map fun j => (Γ[j]?).join
/-- where lambdas of the def's text are made: its code object's table -/
structure LamAt (X : Cx) (T : List (Addr × Str)) : Prop where
  ex : ∃ c Pt, TabB X.base X.mg c Pt ∧ X.env.code = .ref c ∧ (Pt, X.env.qual ++ "<lambda>") ∈ T ∧ ∀ p ∈ T, p.1 = Pt → p.2 = X.env.qual ++ "<lambda>"
/-- the reading: sp the def's promise, spL the lambda's -/
def dHof (K : KTb) (sp : D → DSp → DSp) (mk : Addr → NF) (be : Expr) (js : List Nat) (spL : DG → DSp) (t : DTA) : DTE := fun Γ M Q E => t Γ M (fun ds M1 => ∀ f c ws, sp (lamD K f (mk c) be ws (capD Γ js)) (spL (capD Γ js)) (ds ++ [lamD K f (mk c) be ws (capD Γ js)]) M1 Q (fun C fs M2 => E Γ C fs M2)) E
end DL
namespace DL
open PySem PySem.Spec PyProof.Rows L2 LamX NdefX
section
variable {P : Program} {w : World} {K : PySem.W.Frag} {mg : Str → Option Value} {base : Heap} {T : List (Addr × Str)}
theorem LmK.mono {k k2 : Nat} {G : NF} {be : Expr} {fr : List Str} {wd : DG} {sp : DSp} (h : LmK P w K mg base T k G be fr wd sp) (i : k ≤ k2) : LmK P w K mg base T k2 G be fr wd sp :=
  ⟨fun f A outer s H us vs ws Q E ds M F Qd Ed hr => h.run f A outer s H us vs ws Q E ds M F Qd Ed (hr.mono i)⟩
/-- the name of a lambda's code object -/
def lq (x : Str) (st : Stmt) : Str := (PyProof.Rows.envOfC x (defScope st) 0 0 .none).qual ++ "<lambda>"
/-- as FunK, the code object told -/
structure FunC (K : PySem.W.Frag) (x : Str) (st : Stmt) (f : Addr) (fd : FuncData) (cdv : Value) : Prop where
  ex : ∃ (oc : Value) (od : Option Addr) (dV kV doc pm : Value) (an : Option Addr) (ct : Value) (osl : Array (Option Value)),
    fd = PySem.W.fnOf x x (defArgs st) (defBody st) (defScope st) dV kV doc pm an cdv ct ∧ K.lookup f = some ⟨oc, od, .func fd, osl⟩ ∧ PySem.W.codeIn K cdv x = true
  kp : PySem.W.keepIn K (.ref f) = true
/-- the table of the def's lambdas -/
structure TabC (mg : Str → Option Value) (base : Heap) (T : List (Addr × Str)) (x : Str) (st : Stmt) (cdv : Value) : Prop where
  ex : ∃ c Pt, TabB base mg c Pt ∧ cdv = .ref c ∧ (Pt, lq x st) ∈ T ∧ ∀ p ∈ T, p.1 = Pt → p.2 = lq x st
theorem TabC.at_ {x : Str} {st : Stmt} {cdv : Value} (h : TabC mg base T x st cdv) {N : List Str} {f : Addr} {A : Around} {outer : List Env} {s : Shared} {H : Hp} {E : XK} : LamAt (cxOf (L2.CX P w) P w K mg base N x (defScope st) f cdv A outer s H E) T := by
  obtain ⟨c, Pt, h1, h2, h3, h4⟩ := h.ex
  exact ⟨⟨c, Pt, h1, h2, h3, h4⟩⟩
structure DefT (K : PySem.W.Frag) (mg : Str → Option Value) (base : Heap) (T : List (Addr × Str)) (x : Str) (st : Stmt) (ps : List Str) : Prop where
  ex : ∃ f fd cdv, mg x = some (.ref f) ∧ FunC K x st f fd cdv ∧ Binds K fd ps [] ∧ TabC mg base T x st cdv
/-- a def's promise from its body, the code object told -/
theorem FunC.ok {x : Str} {st : Stmt} {f : Addr} {fd : FuncData} {cdv : Value} {N ps : List Str} {k : Nat} {sp : DSp} (Fn : FunC K x st f fd cdv) (S : FnScope N ps (defScope st)) (len : ∀ ds M Q E, sp ds M Q E → ds.length = ps.length)
    (hbody : ∀ (A : Around) (outer : List Env) (s : Shared) (H : Hp) (E : XK), Room k (A.deeper (PyProof.Rows.envOfC x (defScope st) s.heap.objs.size f cdv)) → ∃ t, DSs (cxOf (L2.CX P w) P w K mg base N x (defScope st) f cdv A outer s H E) (wOf T E) (defBody st) t ∧
      ∀ (ds : List D) (M : Mp) (Qd : DQ) (Ed : DXK), sp ds M Qd Ed → t { nx := fun _ M' => Fin ⟨K, T⟩ Qd .non M', rt := Fin ⟨K, T⟩ Qd, ex := fun _ C fs M' => Ed C fs M' } (dstart N ds) M) : FnOk P w K mg base (L2.CX P w) (k + 1) f fd ps (spUp ⟨K, T⟩ sp) := by
  have hlen : ∀ vs H Q E, spUp ⟨K, T⟩ sp vs H Q E → vs.length = ps.length := fun vs H Q E ⟨ds, M, F, Qd, Ed, c, r, h, _, _⟩ => r.length.trans (len _ _ _ _ h)
  obtain ⟨oc, od, dV, kV, doc, pm, an, ct, osl, rfl, lk, hcd⟩ := Fn.ex
  refine fn_of lk hcd S hlen fun A outer s H vs Q E hr h => ?_
  have hl := hlen _ _ _ _ h
  obtain ⟨ds, M, F, Qd, Ed, c, r, h, kq, kx⟩ := h
  obtain ⟨t, ht, hb⟩ := hbody A outer s H E hr
  refine ⟨_, ht.ps, ?_⟩
  have hpl : ps.length ≤ N.length := by have := congrArg List.length S.pre; rw [List.length_take] at this; omega
  refine ⟨dstart N ds, M, F, _, ⟨c, start_rp r (by omega), fun F1 H1 σ Γ C d us fs M1 s1 c1 _ hd rf q => kx F1 H1 C d us fs M1 s1 c1 hd rf q⟩, hb ds M Qd Ed h, ?_, ?_, fun _ _ _ _ _ _ _ _ z => z.elim, fun _ _ _ _ _ _ _ _ z => z.elim⟩
  · intro F1 H1 σ1 Γ1 M1 s1 c1 g1 q1
    obtain ⟨F3, d2, M3, s3, c3, r3, q3⟩ := q1 F1 H1 .non c1 .non
    exact kq F3 H1 _ _ _ (s1.trans s3) c3 r3 q3
  · intro F1 H1 v d M1 s1 c1 r1 q1
    obtain ⟨F3, d2, M3, s3, c3, r3, q3⟩ := q1 F1 H1 v c1 r1
    exact kq F3 H1 _ _ _ (s1.trans s3) c3 r3 q3
theorem DefT.ok {x : Str} {st : Stmt} {N ps : List Str} {k : Nat} {sp : DSp} (Fn : DefT K mg base T x st ps) (S : FnScope N ps (defScope st)) (len : ∀ ds M Q E, sp ds M Q E → ds.length = ps.length)
    (hbody : ∀ (f : Addr) (cdv : Value) (A : Around) (outer : List Env) (s : Shared) (H : Hp) (E : XK), LamAt (cxOf (L2.CX P w) P w K mg base N x (defScope st) f cdv A outer s H E) T → Room k (A.deeper (PyProof.Rows.envOfC x (defScope st) s.heap.objs.size f cdv)) → ∃ t, DSs (cxOf (L2.CX P w) P w K mg base N x (defScope st) f cdv A outer s H E) (wOf T E) (defBody st) t ∧
      ∀ (ds : List D) (M : Mp) (Qd : DQ) (Ed : DXK), sp ds M Qd Ed → t { nx := fun _ M' => Fin ⟨K, T⟩ Qd .non M', rt := Fin ⟨K, T⟩ Qd, ex := fun _ C fs M' => Ed C fs M' } (dstart N ds) M) : Dfk P w K mg base T x (k + 1) ps sp := by
  obtain ⟨f, fd, cdv, h1, h2, h3, h4⟩ := Fn.ex
  exact ⟨f, fd, h2.ok S len fun A outer s H E hr => hbody f cdv A outer s H E h4.at_ hr, h1, h2.kp, h3⟩
end
/-- the def x stands with an empty table -/
def TabOf (mg : Str → Option Value) (h : Heap) (x : Str) : Prop := ∃ (a : Addr) (o : Obj) (fd : FuncData) (c Pt : Addr), mg x = some (.ref a) ∧ h.get? a = some o ∧ o.data = .func fd ∧ fd.code = .ref c ∧ PySem.W.CodeHd h c Pt ∧ h.get? Pt = some { cls := .none, data := .fields #[] }
/-- .. K tells where the table lies -/
theorem TabOf.at_ {K : PySem.W.Frag} {mg : Str → Option Value} {h : Heap} {y : Str} {f c Pt : Addr} {oc ec : Value} {od dc : Option Addr} {fd : FuncData} {osl slc : Array (Option Value)} {vs : Array Value} (t : TabOf mg h y) (kin : K.In h) (m : mg y = some (.ref f)) (l : K.lookup f = some ⟨oc, od, .func fd, osl⟩) (ec' : fd.code = .ref c)
    (lc : K.lookup c = some ⟨ec, dc, .fields vs, slc⟩) (lp : vs[11]? = some (.ref Pt)) : PySem.W.CodeHd h c Pt ∧ h.get? Pt = some { cls := .none, data := .fields #[] } := by
  obtain ⟨a, o, fd1, c1, P1, h1, h2, h3, h4, h5, h6⟩ := t
  rw [m] at h1
  cases h1
  have g1 := kin _ _ l
  rw [h2] at g1
  cases g1
  cases h3
  rw [ec'] at h4
  cases h4
  have g2 := kin _ _ lc
  have h5' := h5
  obtain ⟨o5, us, file, tf, flags, tg, inF, text, tt, q1, q2, q3, q4, _⟩ := h5'
  rw [g2] at q1
  cases q1
  cases q3
  rw [lp] at q4
  cases q4
  exact ⟨h5, h6⟩
end DL
namespace DL
open PySem L2
section
variable {X : Cx} {W : WT} {a b c d f : Expr} {pos : Pos}
def dChain4 (rd rd' rd2 rd3 : D2) (ta tb tc td tf : DTE) : DTE := fun Γ M Q E => ta Γ M (fun x M1 => tb Γ M1 (fun y M2 => rd x y M2 (fun z M3 => ∃ k, z = .bl k ∧
  (if k = true then tc Γ M3 (fun w M4 => rd' y w M4 (fun z M5 => ∃ k, z = .bl k ∧ (if k = true then td Γ M5 (fun u M6 => rd2 w u M6 (fun z M7 => ∃ k, z = .bl k ∧ (if k = true then tf Γ M7 (fun t M8 => rd3 u t M8 Q) E else Q (.bl false) M7))) E else Q (.bl false) M5))) E else Q (.bl false) M3))) E) E
end
end DL
namespace DL
open PySem L2
theorem rdSl_sq {x : D} {xs : List D} {lo hi : Option Int} {M : Mp} {Q : DQ} (h : sqD M x = some xs) (q : Q (.lst (cutD xs lo hi)) M) : rdSl x lo hi M Q := by
  rcases sq_cases h with rfl | ⟨p, rfl, _⟩ | ⟨ns, rfl, _⟩ <;> exact ⟨_, h, q⟩
theorem rdSl_to {α : Type} {f : α → D} {x : D} {xs : List α} {n : Nat} {M : Mp} {Q : DQ} (h : sqD M x = some (xs.map f)) (q : Q (.lst ((xs.take n).map f)) M) : rdSl x none (some (n : Int)) M Q := rdSl_sq h (by rw [cut_to]; exact q)
end DL
namespace DL
open PySem L2
end DL
namespace DL
open PySem L2
/-- a def of the module with keyword-only parameters (names ks, their defaults kd) behind n others -/
structure DefAtK (K : PySem.W.Frag) (mg : Str → Option Value) (x : Str) (st : Stmt) (ps : List Str) (n : Nat) (ks : List Str) (dvs : List V) : Prop where
  ex : ∃ f fd, mg x = some (.ref f) ∧ FunK K x x st f fd ∧ KBn K fd ps n ks (fun us ws => us ++ ws) (fun vs zs => vs ++ zs) ∧ ∃ vds, Vals dvs vds ∧ Binds K fd ps vds
structure DfkK (P : Program) (w : World) (K : PySem.W.Frag) (mg : Str → Option Value) (base : Heap) (T : List (Addr × Str)) (x : Str) (k : Nat) (ps : List Str) (n : Nat) (ks : List Str) (dvs : List V) (sp : DSp) : Prop where
  ex : ∃ f fd, FnOk P w K mg base (L2.CX P w) k f fd ps (spUp ⟨K, T⟩ sp) ∧ mg x = some (.ref f) ∧ PySem.W.keepIn K (.ref f) = true ∧ KBn K fd ps n ks (fun us ws => us ++ ws) (fun vs zs => vs ++ zs) ∧ ∃ vds, Vals dvs vds ∧ Binds K fd ps vds
section
variable {P : Program} {w : World} {K : PySem.W.Frag} {T : List (Addr × Str)} {mg : Str → Option Value} {base : Heap}
theorem DefAtK.ok {x : Str} {st : Stmt} {N ps ks : List Str} {n : Nat} {dvs : List V} {k : Nat} {sp : DSp} (Fn : DefAtK K mg x st ps n ks dvs) (S : FnScope N ps (defScope st)) (len : ∀ ds M Q E, sp ds M Q E → ds.length = ps.length)
    (hbody : ∀ (f : Addr) (cdv : Value) (A : Around) (outer : List Env) (s : Shared) (H : Hp) (E : XK), Room k (A.deeper (PyProof.Rows.envOfC x (defScope st) s.heap.objs.size f cdv)) → ∃ t, DSs (cxOf (L2.CX P w) P w K mg base N x (defScope st) f cdv A outer s H E) (wOf T E) (defBody st) t ∧
      ∀ (ds : List D) (M : Mp) (Qd : DQ) (Ed : DXK), sp ds M Qd Ed → t { nx := fun _ M' => Fin ⟨K, T⟩ Qd .non M', rt := Fin ⟨K, T⟩ Qd, ex := fun _ C fs M' => Ed C fs M' } (dstart N ds) M) : DfkK P w K mg base T x (k + 1) ps n ks dvs sp := by
  obtain ⟨f, fd, h1, h2, h3⟩ := Fn.ex
  refine ⟨f, fd, dfn h2 S len fun cdv A outer s H E hr => ?_, h1, h2.kp, h3⟩
  obtain ⟨t, ht, hq⟩ := hbody f cdv A outer s H E hr
  exact ⟨t, ht, fun ds M Qd Ed F H h c => ⟨F, M, Same.refl _, c, hq ds M Qd Ed h⟩⟩
end
section
variable {X : Cx} {W : WT} {e : Expr} {es : List Expr} {pos : Pos}
def dCallK (n m : Nat) (sp : DSp) (t tk : DTA) : DTE := fun Γ M Q E => t Γ M (fun ds M1 => tk Γ M1 (fun zs M2 => ds.length = n ∧ zs.length = m ∧ sp (ds ++ zs) M2 Q (fun C fs M3 => E Γ C fs M3)) E) E
end
end DL
namespace DL
open PySem PySem.Spec PyProof.Rows L2 LamX NdefX
end DL
namespace DL
open PySem PySem.Spec PyProof.Rows L2 LamX NdefX
end DL
namespace DL
open PySem L2
end DL
namespace DL
open PySem PySem.Spec PyProof.Rows L2
def dCBK (rd : List D → List D → Mp → DQ → Prop) (t tk : DTA) : DTE := fun Γ M Q E => t Γ M (fun ds M1 => tk Γ M1 (fun es M2 => rd ds es M2 Q) E) E
end DL
namespace DL
open PySem L2
end DL
namespace DL
open PySem L2
theorem inDB {α : Type} [DecidableEq α] {f : α → D} {n : Nat} {x : α} {ys : List α} {d : D} {M : Mp} {Q : DQ} (hf : ∀ a, lay n (f a)) (he : ∀ a b, deq (f a) (f b) = decide (a = b)) (hr : res M (f x) = f x) (hd : sqD M d = some (ys.map f)) (hn : n ≤ 63)
    (q : ∀ b : Bool, (b = true ↔ x ∈ ys) → Q (.bl b) M) : rdIn false (f x) d M Q := (inD hf he hr hd hn).mpr (q _ (by simp))
theorem eqNilL {α : Type} {f : α → D} {bs : List α} {M : Mp} {Q : DQ} {n : Nat} (hf : ∀ a, lay n (f a)) (hn : n ≤ 63 := by decide) : rdEq (.lst (bs.map f)) (.lst []) M Q = Q (.bl bs.isEmpty) M := by
  have h1 : shD (.lst (bs.map f)) = true := sh_of (lay_mapL hf bs) (by omega)
  have h2 : shD (.lst []) = true := sh_of (lay_mapL (f := D.int) (lay_int 0) []) (by decide)
  have h3 : deq (.lst (bs.map f)) (.lst []) = bs.isEmpty := by
    cases bs <;> simp [deq, D.py, pys, PyData.eqv, PyData.eqvAll]
  unfold rdEq
  rw [res_lst, res_lst, h1, h2, h3]
  simp
section
variable {X : Cx} {W : WT}
/-- xs.pop() -/
def dPop (tx : DTE) : DTE := fun Γ M Q E => tx Γ M (fun d M1 => ∃ p xs y, d = .ref p ∧ M1 p = some (.lst xs) ∧ xs.getLast? = some y ∧ Q y (mup M1 p (.lst xs.dropLast))) E
end
structure RepOk (n w : Nat) (d : D) : Prop where
  l : lay n d
  s : d.py.showable = true
  h : d.py.hasDict = false
  b : d.py.leavesShort 8 = true
  k : d.py.bulk ≤ w
theorem RepOk.mono {n w n' w' : Nat} {d : D} (r : RepOk n w d) (h1 : n ≤ n') (h2 : w ≤ w') : RepOk n' w' d := ⟨⟨r.l.1, Nat.le_trans r.l.2 h1⟩, r.s, r.h, r.b, Nat.le_trans r.k h2⟩
end DL
namespace DL
open PySem PySem.Spec PyProof.Rows L2
section
variable {X : Cx} {CX : CXT} {k : Nat} {f C : Addr} {fd : FuncData} {ps : List Str} {sp : Sp} {E : L2.St → XK} {x m : Str} {p pos apos : Pos} {e o : Expr} {es : List Expr} {ta : TE} {t : TA}
def tMethQ (C : Addr) (m : Str) (sp : Sp) (E : L2.St → XK) (ta : TE) (t : TA) : TE := fun σ H Q => ta σ H fun x H1 => ∃ a dx fs, x = .ref a ∧ H1 a = some (.ins C dx fs) ∧ fs.lookup m = none ∧ t σ H1 fun vs H2 => sp (x :: vs) H2 Q (E σ)
theorem pe_methQ {pl : Sem Bool} (hO : PE X o ta) (hC : Cls X.K C) (hM : Meth X.K C m f) (hF : FnOk X.prog X.w X.K X.mg X.base CX k f fd ps sp) (hr : Room k X.A) (hb : L2.Binds X.K fd ps []) (hx : ∀ σ, PassesAt CX X σ (E σ)) (hA : PA X (e :: es) t)
    (hst : starEach (e :: es) X.env = (false, eval e X.env) :: starEach es X.env := by rfl) (hpl : (backTo pos (starEach es X.env)).any (·.1) = false := by rfl)
    (ht : eval (.Call (.Attribute o m apos) (e :: es) [] pos) X.env = (do
      let ov ← eval o X.env
      standAt apos.atName
      let (g, fst) ← holding [ov] (getMethod ov m pl)
      callWith pos g fst (backTo pos (starEach (e :: es) X.env)) (backToKw pos (keywordEach [] X.env))) := by rfl) :
    PE X (.Call (.Attribute o m apos) (e :: es) [] pos) (tMethQ C m sp E ta t) := by
  refine ⟨fun pins s σ H Q J q0 => ?_⟩
  refine PySem.W.methodCall_KW (pl := pl) (thn (hO.run pins s σ H _ J q0) fun u s1 ⟨y, H1, J1, ry, a, dx, fs, ey, ea, l, q1⟩ => ?_) ht
  subst ey
  obtain rfl : u = Value.ref a := ry
  refine getmeth_ok J1 ea hC hM l (PySem.W.callWith_K (first := [.ref a]) (h₀ := X.base) J.ok.mod.kin hM.kp (thn (hA.run pos pins s1 σ H1 _ J1 q1) fun us s2 ⟨vs, H2, J2, r, q2⟩ => ⟨J2.kIn, ?_⟩) hst hpl)
  exact run_fnS (us := .ref a :: us) (vs := .ref a :: vs) hF hr hb (hx σ) J2 (.cons rfl r) q2
theorem pe_meth0Q {pl : Sem Bool} (hO : PE X o ta) (hC : Cls X.K C) (hM : Meth X.K C m f) (hF : FnOk X.prog X.w X.K X.mg X.base CX k f fd ps sp) (hr : Room k X.A) (hb : L2.Binds X.K fd ps []) (hx : ∀ σ, PassesAt CX X σ (E σ))
    (ht : eval (.Call (.Attribute o m apos) [] [] pos) X.env = (do
      let ov ← eval o X.env
      standAt apos.atName
      let (g, fst) ← holding [ov] (getMethod ov m pl)
      callWith pos g fst (backTo pos (starEach [] X.env)) (backToKw pos (keywordEach [] X.env))) := by rfl) :
    PE X (.Call (.Attribute o m apos) [] [] pos) (tMethQ C m sp E ta tNil) := by
  refine ⟨fun pins s σ H Q J q0 => ?_⟩
  refine PySem.W.methodCall_KW (pl := pl) (thn (hO.run pins s σ H _ J q0) fun u s1 ⟨y, H1, J1, ry, a, dx, fs, ey, ea, l, q1⟩ => ?_) ht
  subst ey
  obtain rfl : u = Value.ref a := ry
  exact getmeth_ok J1 ea hC hM l (PySem.W.callWith_K0 (first := [.ref a]) J1.kIn hM.kp (run_fnS (us := [.ref a]) (vs := [.ref a]) hF hr hb (hx σ) J1 (.cons rfl .nil) q1))
def tMakeQ (C : Addr) (sp : Sp) (E : L2.St → XK) (t : TA) : TE := fun σ H Q => t σ H fun vs H1 => ∀ y dx, H1 y = none → H1 dx = none → dx ≠ y → sp (.ref y :: vs) (upd (upd H1 dx (.own y)) y (.ins C dx [])) (fun v H2 => v = .non ∧ Q (.ref y) H2) (E σ)
/-- what is raised in __init__ is wished for where the new instance stands, too -/
theorem run_makeQ {pins : List (Addr × Obj)} {σ : L2.St} {H : Hp} {s : Shared} {Q : VK} {us : List Value} {vs : List V} (M : Mk X.K C f) (hF : FnOk X.prog X.w X.K X.mg X.base CX k f fd ps sp) (hr : Room (k + 1) X.A) (hb : L2.Binds X.K fd ps [])
    (hx : ∀ σ, PassesAt CX X σ (E σ)) (J : Inv X pins σ H s) (r : Vals vs us)
    (q : ∀ y dx, H y = none → H dx = none → dx ≠ y → sp (.ref y :: vs) (upd (upd H dx (.own y)) y (.ins C dx [])) (fun v H2 => v = .non ∧ Q (.ref y) H2) (E σ)) :
    wpAny (model X.prog X.w) X.A (call (.ref C) us) (EP X pins σ Q) X.xe s := by
  have q0 := q (s.heap.objs.size + 1) s.heap.objs.size (J.hok.fresh (Nat.le_succ _)) (J.hok.fresh (Nat.le_refl _)) (Nat.ne_of_lt (Nat.lt_succ_self _))
  have J2 := Inv.made (C := C) J
  have r2 : Vals (V.ref (s.heap.objs.size + 1) :: vs) (Value.ref (s.heap.objs.size + 1) :: us) := .cons rfl r
  have hl : (Value.ref (s.heap.objs.size + 1) :: us).length = ps.length := r2.length.symm.trans (hF.len _ _ _ _ q0)
  have bb := hb { s with heap := (s.heap.push PySem.W.emptyDict).push (PySem.W.instObj C s.heap.objs.size) } (Value.ref (s.heap.objs.size + 1) :: us) J2.kIn (by rw [List.append_nil]; exact hl)
  rw [List.append_nil] at bb
  refine wpAny_call (make_map (f := f) J.kIn M.makes M.init (beq_iff_eq.mp M.fn) (codeAny_mono (hF.run _ X.stack _ _ ⟨Value.ref (s.heap.objs.size + 1) :: us, []⟩ _ _ _ (E σ) (hr.make C us []) (J2.env0.make C us []) bb r2 q0) fun r s' hq => ?_))
  cases r with
  | error e => exact hx σ pins _ _ e s' J2 hq
  | ok fl =>
    cases fl with
    | ret u =>
      obtain ⟨v, H', J3, rv, ev, q3⟩ := J2.after hq
      subst ev
      exact ⟨rv, ⟨V.ref (s.heap.objs.size + 1), H', J3, rfl, q3⟩⟩
    | next => exact False.elim hq
    | brk => exact False.elim hq
    | cont => exact False.elim hq
theorem pe_makeQ (M : Mk X.K C f) (hF : FnOk X.prog X.w X.K X.mg X.base CX k f fd ps sp) (hr : Room (k + 1) X.A) (hg : Gl X x) (hm : X.mg x = some (.ref C)) (hb : L2.Binds X.K fd ps []) (hx : ∀ σ, PassesAt CX X σ (E σ))
    (hA : PA X (e :: es) t) (hdb : (x == ("__debug__" : Str)) = false := by decide) (he : starEach (e :: es) X.env = (false, eval e X.env) :: starEach es X.env := by rfl) (hpl : (backTo pos (starEach es X.env)).any (·.1) = false := by rfl) :
    PE X (.Call (.Name x p) (e :: es) [] pos) (tMakeQ C sp E t) := by
  refine ⟨fun pins s σ H Q J q0 => ?_⟩
  refine wpAny_Call_Name_kw (ld_glob J hg hm (PySem.W.callWith_K (h₀ := X.base) J.ok.mod.kin M.kp (thn (hA.run pos pins s σ H _ J q0) fun us s1 ⟨vs, H1, J1, r, q⟩ => ⟨J1.kIn, ?_⟩) he hpl) hdb)
  exact run_makeQ M hF hr hb hx J1 r q
end
def insD (M : Mp) : D → Option (Addr × List (Str × D))
  | .obj C fs => some (C, fs)
  | .ref p => match M p with
    | some (.ins C fs) => some (C, fs)
    | _ => none
  | _ => none
theorem ins_of {K : KTb} {M : Mp} {F H : Hp} {v : V} {d : D} {C : Addr} {fs : List (Str × D)} (c : Cc K M F H) (r : Rp K F v d) (h : insD M d = some (C, fs)) : ∃ a dx vs, v = .ref a ∧ H a = some (.ins C dx vs) ∧ RpF K F vs fs := by
  cases d with
  | obj C' fs' =>
    cases h
    cases r with
    | obj h1 h2 =>
      rcases c.fr _ _ h1 with z | ⟨⟨_, z⟩, _⟩
      · exact ⟨_, _, _, rfl, z, rpF_of h2⟩
      · cases z
  | ref p =>
    cases r
    cases e : M p with
    | none => simp [insD, e] at h
    | some x =>
      obtain ⟨_, o, h2, h3⟩ := c.ow _ _ e
      cases x with
      | ins C' fs' =>
        simp [insD, e] at h
        obtain ⟨rfl, rfl⟩ := h
        obtain ⟨dx, vs, e1, h4⟩ := h3
        exact ⟨p, dx, vs, rfl, by rw [h2, e1], h4⟩
      | _ => simp [insD, e] at h
  | _ => simp [insD] at h
theorem RpF.lookO {K : KTb} {F : Hp} {f : Str} {vs : List (Str × V)} {fs : List (Str × D)} (h : RpF K F vs fs) (e : fs.lookup f = none) : vs.lookup f = none := h.lookN e
def putD (f : Str) (v : D) : List (Str × D) → List (Str × D)
  | [] => [(f, v)]
  | (g, x) :: r => if g = f then (g, v) :: r else (g, x) :: putD f v r
theorem RpF.put {K : KTb} {F : Hp} {f : Str} {v : V} {d : D} (r : Rp K F v d) : ∀ {vs : List (Str × V)} {fs : List (Str × D)}, RpF K F vs fs → RpF K F (putF f v vs) (putD f d fs)
  | _, _, .nil => .cons ⟨rfl, r⟩ .nil
  | (g, u) :: vs, (g', u') :: fs, .cons q t => by
    obtain ⟨e1, q⟩ := q
    have e1 : g = g' := e1
    subst e1
    show RpF K F (if g = f then (g, v) :: vs else (g, u) :: putF f v vs) (if g = f then (g, d) :: fs else (g, u') :: putD f d fs)
    by_cases z : g = f
    · rw [if_pos z, if_pos z]
      exact .cons ⟨rfl, r⟩ t
    · rw [if_neg z, if_neg z]
      exact .cons ⟨rfl, q⟩ (RpF.put r t)
theorem RpF.len {K : KTb} {F : Hp} : ∀ {vs : List (Str × V)} {fs : List (Str × D)}, RpF K F vs fs → vs.length = fs.length
  | _, _, .nil => rfl
  | _, _, .cons _ t => congrArg (· + 1) (RpF.len t)
section
variable {X : Cx} {W : WT} {e o a : Expr} {es : List Expr} {pos pos' apos : Pos} {C : Addr} {f m : Str}
/-- o.f -/
def dFld (C : Addr) (f : Str) (to : DTE) : DTE := fun Γ M Q E => to Γ M (fun x M1 => ∃ fs d, insD M1 x = some (C, fs) ∧ fs.lookup f = some d ∧ Q d M1) E
theorem de_fld {to : DTE} (hC : Cls X.K C) (hn : NoAttr X.K C f) (ho : DE X W o to) (hb : attributeBase o f X.env (eval o X.env) = eval o X.env := by rfl) : DE X W (.Attribute o f pos) (dFld C f to) :=
  ⟨peW (pe_fld ho.pe hb) fun σ H Q ⟨Γ, M, F, E, Qd, a, q, k⟩ => ⟨Γ, M, F, E, _, a, q, fun F1 H1 v d M1 s1 c1 r1 ⟨fs, d1, e1, e2, q1⟩ => by
    obtain ⟨b, dx, vs, rfl, hH, rf⟩ := ins_of c1 r1 e1
    obtain ⟨u, l1, l2⟩ := rf.look e2
    exact ⟨b, C, dx, vs, u, rfl, hH, hC, hn, l1, k F1 H1 u d1 M1 s1 c1 l2 q1⟩⟩⟩
/-- o.f = e -/
def dPut (C : Addr) (f : Str) (to te : DTE) : DTS := fun Dn Γ M => te Γ M (fun d M1 => to Γ M1 (fun x M2 => ∃ p fs, x = .ref p ∧ M2 p = some (.ins C fs) ∧ fs.length < 1000 ∧ Dn.nx Γ (mup M2 p (.ins C (putD f d fs)))) Dn.ex) Dn.ex
theorem ds_put {to te : DTE} (hC : Cls X.K C) (hn : NoAttr X.K C f) (ho : DE X W o to) (he : DE X W e te) (hs : swapsWith e (some (.Attribute o f pos')) pos.line X.env = pure false := by rfl) : DS X W (.Assign [.Attribute o f pos'] e pos) (dPut C f to te) :=
  ⟨psW (ps_fld ho.pe he.pe hs) fun E σ H ⟨Γ, M, F, Dn, a, h, k⟩ => ⟨Γ, M, F, _, _, a, h, fun F1 H1 v d M1 s1 c1 r1 q1 => ⟨Γ, M1, F1, _, _, a.next s1 c1, q1, fun F2 H2 w x M2 s2 c2 r2 ⟨p, fs, e1, e2, hl, q2⟩ => by
    subst e1
    cases r2
    obtain ⟨fz, u, h2, dx, vs, e3, rf⟩ := c2.ow _ _ e2
    subst e3
    exact ⟨p, C, dx, vs, rfl, h2, hC, hn, by rw [rf.len]; exact hl, k.nx F2 _ _ _ _ (s1.trans s2) (c2.write (x := .ins C (putD f d fs)) e2 ⟨dx, _, rfl, rf.put (r1.mono s2)⟩) (a.g.mono (s1.trans s2)) q2⟩⟩⟩⟩
end
section
variable {P : Program} {w : World} {K : PySem.W.Frag} {T : List (Addr × Str)} {mg : Str → Option Value} {base : Heap}
/-- the method m of the class at C, as it stands in the text -/
structure MethAt (K : PySem.W.Frag) (C : Addr) (m qual : Str) (st : Stmt) (ps : List Str) : Prop where
  ex : ∃ f fd, Meth K C m f ∧ FunK K m qual st f fd ∧ L2.Binds K fd ps []
/-- it keeps a promise over data -/
structure Mfk (P : Program) (w : World) (K : PySem.W.Frag) (mg : Str → Option Value) (base : Heap) (T : List (Addr × Str)) (C : Addr) (m : Str) (k : Nat) (ps : List Str) (sp : DSp) : Prop where
  ex : ∃ f fd, FnOk P w K mg base (L2.CX P w) k f fd ps (spUp ⟨K, T⟩ sp) ∧ Meth K C m f ∧ L2.Binds K fd ps []
theorem MethAt.ok {C : Addr} {m qual : Str} {st : Stmt} {N ps : List Str} {k : Nat} {sp : DSp} (Fn : MethAt K C m qual st ps) (S : FnScope N ps (defScope st)) (len : ∀ ds M Q E, sp ds M Q E → ds.length = ps.length)
    (hbody : ∀ (f : Addr) (cdv : Value) (A : Around) (outer : List Env) (s : Shared) (H : Hp) (E : XK), Room k (A.deeper (PyProof.Rows.envOfC qual (defScope st) s.heap.objs.size f cdv)) → ∃ t, DSs (cxOf (L2.CX P w) P w K mg base N qual (defScope st) f cdv A outer s H E) (wOf T E) (defBody st) t ∧
      ∀ (ds : List D) (M : Mp) (Qd : DQ) (Ed : DXK), sp ds M Qd Ed → t { nx := fun _ M' => Fin ⟨K, T⟩ Qd .non M', rt := Fin ⟨K, T⟩ Qd, ex := fun _ C fs M' => Ed C fs M' } (dstart N ds) M) : Mfk P w K mg base T C m (k + 1) ps sp := by
  obtain ⟨f, fd, h1, h2, h3⟩ := Fn.ex
  refine ⟨f, fd, dfn h2 S len fun cdv A outer s H E hr => ?_, h1, h3⟩
  obtain ⟨t, ht, hq⟩ := hbody f cdv A outer s H E hr
  exact ⟨t, ht, fun ds M Qd Ed F H h c => ⟨F, M, Same.refl _, c, hq ds M Qd Ed h⟩⟩
end
section
variable {X : Cx} {W : WT} {e o : Expr} {es : List Expr} {pos apos p : Pos} {C : Addr} {x m : Str}
/-- o.m(..) -/
def dMeth (C : Addr) (m : Str) (sp : DSp) (to : DTE) (t : DTA) : DTE := fun Γ M Q E => to Γ M (fun x M1 => (∃ fs, insD M1 x = some (C, fs) ∧ fs.lookup m = none) ∧ t Γ M1 (fun ds M2 => sp (x :: ds) M2 Q (fun C fs M3 => E Γ C fs M3)) E) E
theorem up_methE {sp : DSp} {F H : Hp} {M : Mp} {vs : List V} {ds : List D} {Qd : DQ} {Q : VK} {σ : L2.St} {Γ : DG} {E : DXE} (c : Cc (kt X W) M F H) (r : Rps (kt X W) F vs ds) (g : RpG (kt X W) F σ Γ) (w : Ew (kt X W) F E W.w)
    (q : sp ds M Qd (fun C fs M2 => E Γ C fs M2)) (k : CoQ (kt X W) F Qd Q) : spUp (kt X W) sp vs H Q (fun cls d H => W.w cls d σ H) :=
  ⟨ds, M, F, Qd, _, c, r, q, k, fun F' H' C d us fs M' s c hd rf q => w F' H' σ Γ C d us fs M' s c (g.mono s) hd rf q⟩
theorem de_meth {k : Nat} {ps : List Str} {sp : DSp} {to : DTE} {t : DTA} {pl : Sem Bool} (Fn : Mfk X.prog X.w X.K X.mg X.base W.T C m k ps sp) (hC : Cls X.K C) (hr : Room k X.A) (tk : Takes X W.w) (ho : DE X W o to) (ha : DA X W (e :: es) t)
    (hst : starEach (e :: es) X.env = (false, eval e X.env) :: starEach es X.env := by rfl) (hpl : (backTo pos (starEach es X.env)).any (·.1) = false := by rfl)
    (ht : eval (.Call (.Attribute o m apos) (e :: es) [] pos) X.env = (do
      let ov ← eval o X.env
      standAt apos.atName
      let (g, fst) ← holding [ov] (getMethod ov m pl)
      callWith pos g fst (backTo pos (starEach (e :: es) X.env)) (backToKw pos (keywordEach [] X.env))) := by rfl) :
    DE X W (.Call (.Attribute o m apos) (e :: es) [] pos) (dMeth C m sp to t) := by
  obtain ⟨f, fd, h1, h2, h3⟩ := Fn.ex
  exact ⟨peW (pe_methQ (E := fun σ cls d H => W.w cls d σ H) ho.pe hC h2 h1 hr h3 (fun σ => passAt tk σ) ha.pa hst hpl ht) fun σ H Q ⟨Γ, M, F, E, Qd, a, q, k⟩ => ⟨Γ, M, F, E, _, a, q, fun F1 H1 v d M1 s1 c1 r1 ⟨⟨fs, e1, e2⟩, q1⟩ => by
    obtain ⟨b, dx, vs, rfl, hH, rf⟩ := ins_of c1 r1 e1
    exact ⟨b, dx, vs, rfl, hH, rf.lookO e2, Γ, M1, F1, E, _, a.next s1 c1, q1, fun F2 H2 us ds M2 s2 c2 r2 q2 => up_methE c2 (.cons (r1.mono s2) r2) (a.g.mono (s1.trans s2)) (a.w.mono (s1.trans s2)) q2 (k.mono (s1.trans s2))⟩⟩⟩
theorem de_meth0 {k : Nat} {ps : List Str} {sp : DSp} {to : DTE} {pl : Sem Bool} (Fn : Mfk X.prog X.w X.K X.mg X.base W.T C m k ps sp) (hC : Cls X.K C) (hr : Room k X.A) (tk : Takes X W.w) (ho : DE X W o to)
    (ht : eval (.Call (.Attribute o m apos) [] [] pos) X.env = (do
      let ov ← eval o X.env
      standAt apos.atName
      let (g, fst) ← holding [ov] (getMethod ov m pl)
      callWith pos g fst (backTo pos (starEach [] X.env)) (backToKw pos (keywordEach [] X.env))) := by rfl) :
    DE X W (.Call (.Attribute o m apos) [] [] pos) (dMeth C m sp to dNil) := by
  obtain ⟨f, fd, h1, h2, h3⟩ := Fn.ex
  exact ⟨peW (pe_meth0Q (E := fun σ cls d H => W.w cls d σ H) ho.pe hC h2 h1 hr h3 (fun σ => passAt tk σ) ht) fun σ H Q ⟨Γ, M, F, E, Qd, a, q, k⟩ => ⟨Γ, M, F, E, _, a, q, fun F1 H1 v d M1 s1 c1 r1 ⟨⟨fs, e1, e2⟩, q1⟩ => by
    obtain ⟨b, dx, vs, rfl, hH, rf⟩ := ins_of c1 r1 e1
    exact ⟨b, dx, vs, rfl, hH, rf.lookO e2, up_methE c1 (.cons r1 .nil) (a.g.mono s1) (a.w.mono s1) q1 (k.mono s1)⟩⟩⟩
/-- C(..): a cell -/
def dMake (C : Addr) (sp : DSp) (t : DTA) : DTE := fun Γ M Q E => t Γ M (fun ds M1 => ∀ p, M1 p = none → sp (.ref p :: ds) (mup M1 p (.ins C [])) (fun d M2 => d = .non ∧ Q (.ref p) M2) (fun C fs M3 => E Γ C fs M3)) E
/-- a class of the text that is made by its __init__ -/
structure Mkk (P : Program) (w : World) (K : PySem.W.Frag) (mg : Str → Option Value) (base : Heap) (T : List (Addr × Str)) (x : Str) (C : Addr) (k : Nat) (ps : List Str) (sp : DSp) : Prop where
  ex : ∃ f fd, FnOk P w K mg base (L2.CX P w) k f fd ps (spUp ⟨K, T⟩ sp) ∧ Mk K C f ∧ L2.Binds K fd ps [] ∧ mg x = some (.ref C)
theorem de_make {k : Nat} {ps : List Str} {sp : DSp} {t : DTA} (Fn : Mkk X.prog X.w X.K X.mg X.base W.T x C k ps sp) (hr : Room (k + 1) X.A) (tk : Takes X W.w) (ha : DA X W (e :: es) t)
    (hg : Gl X x := by rfl) (hdb : (x == ("__debug__" : Str)) = false := by decide) (he : starEach (e :: es) X.env = (false, eval e X.env) :: starEach es X.env := by rfl) (hpl : (backTo pos (starEach es X.env)).any (·.1) = false := by rfl) :
    DE X W (.Call (.Name x p) (e :: es) [] pos) (dMake C sp t) := by
  obtain ⟨f, fd, h1, h2, h3, h4⟩ := Fn.ex
  exact ⟨peW (pe_makeQ (E := fun σ cls d H => W.w cls d σ H) h2 h1 hr hg h4 h3 (fun σ => passAt tk σ) ha.pa hdb he hpl) fun σ H Q ⟨Γ, M, F, E, Qd, a, q, k⟩ => ⟨Γ, M, F, E, _, a, q, fun F1 H1 vs ds M1 s1 c1 r1 q1 y dx hy hdx hne => by
    have sm := Same.upd (o := HO.own y) hdx
    have c2 := c1.same sm
    have hy2 : upd H1 dx (HO.own y) y = none := by rw [upd_ne (Ne.symm hne)]; exact hy
    have c3 := c2.newM (x := .ins C []) hy2 (o := .ins C dx []) ⟨dx, [], rfl, .nil⟩
    refine up_methE c3 (.cons (.ref y) r1) (a.g.mono s1) (a.w.mono s1) (q1 y (c1.Mnone hy)) fun F2 H2 v d M2 s2 c4 r4 ⟨e1, q2⟩ => ?_
    subst e1
    cases r4
    exact ⟨rfl, k F2 H2 _ _ M2 (s1.trans s2) c4 (.ref y) q2⟩⟩⟩
end
end DL
namespace DL
open PySem L2
section
variable {κ β : Type} [DecidableEq κ]
def valG (kvs : List (κ × β)) (k : κ) : Option β := (kvs.find? fun kv => decide (kv.1 = k)).map (·.2)
def putG (kvs : List (κ × β)) (k : κ) (v : β) : List (κ × β) := if (kvs.any fun kv => decide (kv.1 = k)) = true then kvs.map (fun kv => if kv.1 = k then (kv.1, v) else kv) else kvs ++ [(k, v)]
def dropG (kvs : List (κ × β)) (k : κ) : List (κ × β) := kvs.filter fun kv => decide (kv.1 ≠ k)
end
section
variable {K : KTb} {F : Hp}
theorem RpK.val {k : Key} : ∀ {vs : List (Key × V)} {ds : List (Key × D)}, RpK K F vs ds → (∀ d, valG ds k = some d → ∃ v, valV vs k = some v ∧ Rp K F v d) ∧ (valG ds k = none → valV vs k = none)
  | _, _, .nil => ⟨fun d e => (by cases e), fun _ => rfl⟩
  | (k1, v1) :: vs, (_, d1) :: ds, .cons r t => by
    obtain ⟨h1, h2⟩ := RpK.val (k := k) t
    by_cases e : k1 = k
    · have e1 : valG ((k1, d1) :: ds) k = some d1 := by simp [valG, e]
      have e2 : valV ((k1, v1) :: vs) k = some v1 := by simp [valV, e]
      rw [e1, e2]
      exact ⟨fun d z => by cases z; exact ⟨v1, rfl, r⟩, fun z => by cases z⟩
    · have e1 : valG ((k1, d1) :: ds) k = valG ds k := by simp [valG, e]
      have e2 : valV ((k1, v1) :: vs) k = valV vs k := by simp [valV, e]
      rw [e1, e2]
      exact ⟨h1, h2⟩
theorem RpK.some {k : Key} {vs : List (Key × V)} {ds : List (Key × D)} (h : RpK K F vs ds) : (valV vs k).isSome = (valG ds k).isSome := by
  obtain ⟨h1, h2⟩ := h.val (k := k)
  cases e : valG ds k with
  | none => rw [h2 e]; rfl
  | some d =>
    obtain ⟨v, e2, _⟩ := h1 d e
    rw [e2]
    rfl
theorem RpK.len : ∀ {vs : List (Key × V)} {ds : List (Key × D)}, RpK K F vs ds → vs.length = ds.length
  | _, _, .nil => rfl
  | _, _, .cons _ t => congrArg (· + 1) (RpK.len t)
theorem RpK.any {k : Key} : ∀ {vs : List (Key × V)} {ds : List (Key × D)}, RpK K F vs ds → (vs.any fun kv => decide (kv.1 = k)) = (ds.any fun kv => decide (kv.1 = k))
  | _, _, .nil => rfl
  | (k1, v1) :: vs, (_, d1) :: ds, .cons r t => by
    rw [List.any_cons, List.any_cons, RpK.any t]
theorem RpK.over {k : Key} {v : V} {d : D} (r : Rp K F v d) : ∀ {vs : List (Key × V)} {ds : List (Key × D)}, RpK K F vs ds → RpK K F (vs.map fun kv => if kv.1 = k then (kv.1, v) else kv) (ds.map fun kv => if kv.1 = k then (kv.1, d) else kv)
  | _, _, .nil => .nil
  | (k1, v1) :: vs, (_, d1) :: ds, .cons q t => by
    rw [List.map_cons, List.map_cons]
    by_cases e : k1 = k
    · rw [if_pos e, if_pos e]
      exact .cons r (RpK.over r t)
    · rw [if_neg e, if_neg e]
      exact .cons q (RpK.over r t)
theorem RpK.app : ∀ {vs us : List (Key × V)} {ds es : List (Key × D)}, RpK K F vs ds → RpK K F us es → RpK K F (vs ++ us) (ds ++ es)
  | _, _, _, _, .nil, s => s
  | _, _, _, _, .cons r t, s => .cons r (RpK.app t s)
theorem RpK.put {k : Key} {v : V} {d : D} {vs : List (Key × V)} {ds : List (Key × D)} (r : Rp K F v d) (h : RpK K F vs ds) : RpK K F (putK vs k v) (putG ds k d) := by
  unfold putK putG
  rw [h.any]
  split
  · exact h.over r
  · exact h.app (.cons r .nil)
theorem RpK.drop {k : Key} : ∀ {vs : List (Key × V)} {ds : List (Key × D)}, RpK K F vs ds → RpK K F (dropK vs k) (dropG ds k)
  | _, _, .nil => .nil
  | (k1, v1) :: vs, (_, d1) :: ds, .cons r t => by
    unfold dropK dropG
    rw [List.filter_cons, List.filter_cons]
    by_cases e : k1 = k
    · simp only [e, ne_eq, not_true_eq_false, decide_false, Bool.false_eq_true, if_false]
      exact RpK.drop t
    · simp only [e, ne_eq, not_false_eq_true, decide_true, if_true]
      exact .cons r (RpK.drop t)
theorem RpK.get : ∀ {vs : List (Key × V)} {ds : List (Key × D)} {i : Nat} {k : Key} {d : D}, RpK K F vs ds → ds[i]? = .some (k, d) → ∃ v, vs[i]? = .some (k, v) ∧ Rp K F v d
  | _, _, _, _, _, .nil, e => by simp at e
  | (k1, v1) :: vs, (_, d1) :: ds, 0, k, d, .cons r t, e => by
    simp at e
    obtain ⟨rfl, rfl⟩ := e
    exact ⟨v1, rfl, r⟩
  | (k1, v1) :: vs, (_, d1) :: ds, i + 1, k, d, .cons r t, e => by
    obtain ⟨v, h1, h2⟩ := RpK.get (i := i) t (by simpa using e)
    exact ⟨v, by simpa using h1, h2⟩
end
/-- a dict: frozen, a cell -/
def dcD (M : Mp) : D → Option (List (Key × D))
  | .dic kvs => some kvs
  | .ref p => match M p with
    | some (.dic kvs) => some kvs
    | some (.lkd kvs _) => some kvs
    | _ => none
  | _ => none
def keyD : D → Option Key
  | .int i => some (.inl i)
  | .str x => some (.inr x)
  | _ => none
theorem key_of {K : KTb} {F : Hp} {v : V} {d : D} {k : Key} (r : Rp K F v d) (h : keyD d = some k) : v = kV k := by
  cases d <;> simp [keyD] at h
  · subst h; cases r; rfl
  · subst h; cases r; rfl
theorem dc_of {K : KTb} {M : Mp} {F H : Hp} {v : V} {d : D} {kvs : List (Key × D)} (c : Cc K M F H) (r : Rp K F v d) (h : dcD M d = some kvs) : ∃ a vs, v = .ref a ∧ Rd H a (.dK vs) ∧ RpK K F vs kvs := by
  cases d with
  | dic ks =>
    cases h
    cases r with
    | dic h1 h2 => exact ⟨_, _, rfl, (c.fr _ _ h1).rd, h2⟩
  | ref p =>
    cases r
    cases e : M p with
    | none => simp [dcD, e] at h
    | some x =>
      obtain ⟨_, o, h2, h3⟩ := c.ow _ _ e
      cases x with
      | dic ks =>
        simp [dcD, e] at h
        subst h
        obtain ⟨vs, e1, h4⟩ := h3
        exact ⟨p, vs, rfl, .inl (by rw [h2, e1]), h4⟩
      | lkd ks u =>
        simp [dcD, e] at h
        subst h
        obtain ⟨e0, od, vs, e1, h4⟩ := h3
        subst e0
        exact ⟨p, vs, rfl, .inr ⟨od, by rw [h2, e1]⟩, h4⟩
      | _ => simp [dcD, e] at h
  | _ => simp [dcD] at h
section
variable {X : Cx} {W : WT} {e a b o i tg : Expr} {pos pos' tpos : Pos}
/-- {} -/
def dDnew : DTE := fun _ M Q _ => ∀ p, M p = none → Q (.ref p) (mup M p (.dic []))
theorem de_dnew : DE X W (.Dict [] [] pos) dDnew := ⟨peW pe_dnewK fun σ H Q ⟨Γ, M, F, E, Qd, a, q, k⟩ p hp => k _ _ _ _ _ (Same.refl _) (a.c.newM (x := .dic []) hp ⟨[], rfl, .nil⟩) (.ref p) (q p (a.c.Mnone hp))⟩
/-- k in d -/
def dDin (neg : Bool) (ty td : DTE) : DTE := fun Γ M Q E => ty Γ M (fun x M1 => td Γ M1 (fun y M2 => ∃ kvs k, dcD M2 y = some kvs ∧ keyD x = some k ∧ Q (.bl (if neg = true then !(valG kvs k).isSome else (valG kvs k).isSome)) M2) E) E
theorem upDin {neg : Bool} {ty td : DTE} {σ : St} {H : Hp} {Q : VK} (h : upE (kt X W) W.w (dDin neg ty td) σ H Q) : upE (kt X W) W.w ty σ H fun y H1 => upE (kt X W) W.w td σ H1 fun x H2 => ∃ a o, x = .ref a ∧ DGet H2 a y o ∧ Q (.bl (if neg = true then !o.isSome else o.isSome)) H2 := by
  obtain ⟨Γ, M, F, E, Qd, a, q, k⟩ := h
  refine ⟨Γ, M, F, E, _, a, q, fun F1 H1 v d M1 s1 c1 r1 q1 => ⟨Γ, M1, F1, E, _, a.next s1 c1, q1, fun F2 H2 u d2 M2 s2 c2 r2 ⟨kvs, ky, e1, e2, q2⟩ => ?_⟩⟩
  obtain ⟨b, vs, rfl, hR, rk⟩ := dc_of c2 r2 e1
  have ev := key_of (r1.mono s2) e2
  subst ev
  refine ⟨b, valV vs ky, rfl, .inl ⟨vs, ky, hR, rfl, rfl⟩, ?_⟩
  rw [rk.some]
  exact k F2 H2 _ _ M2 (s1.trans s2) c2 (.bl _) q2
theorem dt_din {ty td : DTE} (hu : X.A.units + 1 < cLine) (hi : DE X W i ty) (ho : DE X W o td) (hm : behindInMarks .In o = false := by rfl) : DT X W (.Compare i [.In] [o] pos) (dTest (dDin false ty td)) :=
  ⟨ptW (pt_cmp (pc_din hu hi.pe ho.pe) hm) fun σ H Q q => upDin (upTest q)⟩
theorem dt_dnotin {ty td : DTE} (hu : X.A.units + 1 < cLine) (hi : DE X W i ty) (ho : DE X W o td) (hm : behindInMarks .NotIn o = false := by rfl) : DT X W (.Compare i [.NotIn] [o] pos) (dTest (dDin true ty td)) :=
  ⟨ptW (pt_cmp (pc_dnotin hu hi.pe ho.pe) hm) fun σ H Q q => upDin (upTest q)⟩
/-- d[k] -/
def dDget (td ty : DTE) : DTE := fun Γ M Q E => td Γ M (fun x M1 => ty Γ M1 (fun y M2 => ∃ kvs k d, dcD M2 x = some kvs ∧ keyD y = some k ∧ valG kvs k = some d ∧ Q d M2) E) E
theorem de_dget {td ty : DTE} (hu : X.A.units + 1 < cLine) (ho : DE X W o td) (hi : DE X W i ty) (hs : NoSl i := by exact fun _ _ => rfl) : DE X W (.Subscript o i pos) (dDget td ty) :=
  ⟨peW (pe_dget hu ho.pe hi.pe hs) fun σ H Q ⟨Γ, M, F, E, Qd, a, q, k⟩ => ⟨Γ, M, F, E, _, a, q, fun F1 H1 v d M1 s1 c1 r1 q1 => ⟨Γ, M1, F1, E, _, a.next s1 c1, q1, fun F2 H2 u d2 M2 s2 c2 r2 ⟨kvs, ky, x, e1, e2, e3, q2⟩ => by
    obtain ⟨b, vs, rfl, hR, rk⟩ := dc_of c2 (r1.mono s2) e1
    have ev := key_of r2 e2
    subst ev
    obtain ⟨z, h1, h2⟩ := rk.val.1 x e3
    exact ⟨b, z, rfl, .inl ⟨vs, ky, hR, rfl, h1.symm⟩, k F2 H2 z x M2 (s1.trans s2) c2 h2 q2⟩⟩⟩⟩
/-- d[k] = v -/
def dDput (td ty tv : DTE) : DTS := fun Dn Γ M => tv Γ M (fun v M1 => td Γ M1 (fun x M2 => ty Γ M2 (fun y M3 => ∃ p kvs k, x = .ref p ∧ keyD y = some k ∧ M3 p = some (.dic kvs) ∧ kvs.length < sizeLine ∧ Dn.nx Γ (mup M3 p (.dic (putG kvs k v)))) Dn.ex) Dn.ex) Dn.ex
theorem ds_dput {td ty tv : DTE} (hu : X.A.units + 1 < cLine) (ho : DE X W o td) (hi : DE X W i ty) (hv : DE X W e tv) (hs : swapsWith e (some (.Subscript o i pos')) pos.line X.env = pure false := by rfl) : DS X W (.Assign [.Subscript o i pos'] e pos) (dDput td ty tv) :=
  ⟨psW (ps_dput hu ho.pe hi.pe hv.pe hs) fun E σ H ⟨Γ, M, F, Dn, a, h, k⟩ => ⟨Γ, M, F, _, _, a, h, fun F1 H1 v d M1 s1 c1 r1 q1 => ⟨Γ, M1, F1, _, _, a.next s1 c1, q1, fun F2 H2 u d2 M2 s2 c2 r2 q2 => ⟨Γ, M2, F2, _, _, a.next (s1.trans s2) c2, q2, fun F3 H3 w d3 M3 s3 c3 r3 ⟨p, kvs, ky, e1, e2, e3, hl, q3⟩ => by
    subst e1
    cases r2
    have ev := key_of r3 e2
    subst ev
    obtain ⟨fz, ob, h2, vs, e4, rk⟩ := c3.ow _ _ e3
    subst e4
    have s13 := (s1.trans s2).trans s3
    exact ⟨p, _, rfl, DPut.k h2 (by rw [rk.len]; exact hl), k.nx F3 _ _ _ _ s13 (c3.write (x := .dic _) e3 ⟨_, rfl, rk.put (r1.mono (s2.trans s3))⟩) (a.g.mono s13) q3⟩⟩⟩⟩⟩
/-- the dict in a slot is locked while the expression runs -/
def dLck (t : DTE) : DTE := fun Γ M Q E => ∃ p kvs, M p = some (.dic kvs) ∧ ∀ u, t Γ (mup M p (.lkd kvs u)) (fun x M1 => M1 p = some (.lkd kvs u) ∧ Q x (mup M1 p (.dic kvs))) noE
def keyV : Key → D
  | .inl i => .int i
  | .inr x => .str x
/-- for k in d, d locked -/
def dIKeys (t : DTE) : DTI := fun Γ M R E => t Γ M (fun d M1 => ∃ p kvs u, d = .ref p ∧ M1 p = some (.lkd kvs u) ∧ kvs.length ≤ sizeLine ∧ R ⟨kvs.map fun kv => keyV kv.1, fun M2 => M2 p = some (.lkd kvs u)⟩ M1) E
theorem di_keys {t : DTE} (h : DE X W e t) : DI X W tg e (dIKeys t) := ⟨piW (pi_keys h.pe) fun σ H R ⟨Γ, M, F, E, Rd, a, q, k⟩ => ⟨Γ, M, F, E, _, a, q, fun F1 H1 v d M1 s1 c1 r1 ⟨p, kvs, u, e1, e2, hz, q1⟩ => by
  subst e1
  cases r1
  obtain ⟨fz, ob, h2, e5, od, vs, e6, rk⟩ := c1.ow _ _ e2
  subst e5
  subst e6
  refine ⟨p, od, rfl, .inl ⟨vs, h2, k F1 H1 _ _ M1 s1 c1 ⟨by rw [List.length_map]; exact hz, fun F2 H2 M2 i s2 c2 ok => ?_⟩ q1⟩⟩
  have ok : M2 p = some (.lkd kvs (.frz od (.dK vs))) := ok
  obtain ⟨fz3, ob3, h3, e7, od3, vs3, e8, rk3⟩ := c2.ow _ _ ok
  subst e7
  cases e8
  refine ⟨fun d' hd => ?_, fun hl => ⟨h3, by rw [rk.len]; rw [List.length_map] at hl; exact hl⟩⟩
  rw [List.getElem?_map, Option.map_eq_some_iff] at hd
  obtain ⟨⟨ky, x⟩, h4, rfl⟩ := hd
  obtain ⟨w, h5, _⟩ := rk3.get h4
  refine ⟨⟨h3, (List.getElem?_eq_some_iff.mp h5).1⟩, fun x2 H' y => ?_⟩
  obtain ⟨eH, k2, v2, h6, e9⟩ := y
  rw [h5] at h6
  cases h6
  subst e9
  refine ⟨F2, Same.refl _, by rw [eH]; exact c2, ?_⟩
  cases ky with
  | inl i => exact .int i
  | inr x => exact .str x⟩⟩
end
end DL
namespace DL
open PySem L2
theorem wipe_in {q : Nat} : ∀ (l : List Nat) (σ : L2.St), q ∈ l → (wipe σ l).set q none = wipe σ l
  | [], _, h => by cases h
  | j :: l, σ, h => by
    show ((wipe σ l).set j none).set q none = (wipe σ l).set j none
    by_cases e : j = q
    · subst e
      rw [List.set_set]
    · have hm : q ∈ l := by
        rcases List.mem_cons.mp h with z | z
        · exact absurd z.symm e
        · exact z
      rw [List.set_comm _ _ e, wipe_in l σ hm]
theorem wipe_wipe : ∀ (l l2 : List Nat) (σ : L2.St), (∀ j ∈ l, j ∈ l2) → wipe (wipe σ l2) l = wipe σ l2
  | [], _, _, _ => rfl
  | j :: l, l2, σ, h => by
    show (wipe (wipe σ l2) l).set j none = _
    rw [wipe_wipe l l2 σ fun i hi => h i (List.mem_cons_of_mem _ hi)]
    exact wipe_in l2 σ (h j List.mem_cons_self)
def dcF (f : D → Option (Key × D)) (xs : List D) : List (Key × D) := xs.foldl (fun kvs d => match f d with | some p => putG kvs p.1 p.2 | none => kvs) []
theorem putG_len {κ β : Type} [DecidableEq κ] (kvs : List (κ × β)) (k : κ) (v : β) : (putG kvs k v).length ≤ kvs.length + 1 := by
  unfold putG
  split <;> simp
theorem dcF_snoc (f : D → Option (Key × D)) (xs : List D) (d : D) : dcF f (xs ++ [d]) = match f d with | some p => putG (dcF f xs) p.1 p.2 | none => dcF f xs := by
  unfold dcF
  rw [List.foldl_append]
  rfl
theorem dcF_len (f : D → Option (Key × D)) (xs : List D) : (dcF f xs).length ≤ xs.length := by
  have key : ∀ (xs : List D) (kvs : List (Key × D)), (xs.foldl (fun kvs d => match f d with | some p => putG kvs p.1 p.2 | none => kvs) kvs).length ≤ kvs.length + xs.length := by
    intro xs
    induction xs with
    | nil => intro kvs; exact Nat.le_refl _
    | cons x xs ih =>
      intro kvs
      rw [List.foldl_cons, List.length_cons]
      refine Nat.le_trans (ih _) ?_
      cases f x with
      | none => dsimp only; omega
      | some p =>
        have := putG_len kvs p.1 p.2
        dsimp only
        omega
  have := key xs []
  simpa [dcF] using this
section
variable {X : Cx} {W : WT} {tg : Expr} {pos : Pos}
def dDc (ti : DTI) (g : DTG) (tt : DTT) (tk tv : DTE) (vs : List Nat) : DTE := fun Γ M Q E => ti Γ M (fun it M1 => ∃ f : D → Option (Key × D), (∀ M', Ext M1 M' → it.ok M') ∧
  (∀ d, d ∈ it.seq → ∀ M', Ext M1 M' → g d (dwipe Γ vs) M' (fun Γ2 M3 => tt Γ2 M3 (fun b M4 => if b = true then tk Γ2 M4 (fun y M5 => tv Γ2 M5 (fun z M6 => M6 = M' ∧ ∃ k, keyD y = some k ∧ f d = some (k, z)) noE) noE else M4 = M' ∧ f d = none) noE)) ∧
  it.seq.length < sizeLine ∧ ∀ p, M1 p = none → Q (.ref p) (mup M1 p (.dic (dcF f it.seq)))) E
theorem upDc {ti : DTI} {g : DTG} {tt : DTT} {tk tv : DTE} {vs : List Nat} {σ : L2.St} {H : Hp} {Q : VK} (h : upE (kt X W) W.w (dDc ti g tt tk tv vs) σ H Q) :
    tDc (upI (kt X W) W.w ti) (upG (kt X W) (some vs) g) (upT (kt X W) noW tt) (upE (kt X W) noW tk) (upE (kt X W) noW tv) vs σ H Q := by
  obtain ⟨Γ, M, F, E, Qd, a, h, kq⟩ := h
  refine ⟨Γ, M, F, E, _, a, h, fun F1 H1 J it M1 s1 c1 ⟨hz, rj⟩ ⟨f, okx, body, hsz, q⟩ Dd hD => ?_⟩
  have m1 : M1 Dd = none := c1.Mnone hD
  refine ⟨fun i m H2 => m = it.seq.length - i ∧ i ≤ it.seq.length ∧ ∃ F2, Same F1 F2 ∧ Cc (kt X W) (mup M1 Dd (.dic (dcF f (it.seq.take i)))) F2 H2,
    ⟨_, rfl, Nat.zero_le _, F1, Same.refl _, c1.newM (x := .dic []) hD ⟨[], rfl, .nil⟩⟩, ?_⟩
  rintro i m H2 ⟨rfl, hi, F2, s2, c2⟩
  have ext : Ext M1 (mup M1 Dd (.dic (dcF f (it.seq.take i)))) := fun b c hb => by
    rw [mup_ne fun z => by rw [z, m1] at hb; cases hb]
    exact hb
  obtain ⟨j1, j2⟩ := rj F2 H2 _ i s2 c2 (okx _ ext)
  by_cases hlt : i < it.seq.length
  · have hget : it.seq[i]? = some it.seq[i] := List.getElem?_eq_getElem hlt
    have ht : it.seq.take (i + 1) = it.seq.take i ++ [it.seq[i]] := by rw [List.take_add_one, hget]; rfl
    obtain ⟨go, yl⟩ := j1 _ hget
    refine .inr ⟨go, fun H4 => i + 1 ≤ it.seq.length ∧ ∃ F4, Same F1 F4 ∧ Cc (kt X W) (mup M1 Dd (.dic (dcF f (it.seq.take (i + 1))))) F4 H4, fun H4 qq => ⟨_, by omega, rfl, qq⟩, fun x H' y => ?_⟩
    obtain ⟨F3, s3, c3, r3⟩ := yl x H' y
    refine ⟨_, dwipe Γ vs, _, F3, _, c3, (a.g.mono ((s1.trans s2).trans s3)).wipe vs, r3, body _ (List.getElem_mem hlt) _ ext, fun F4 H4 σ4 Γ4 M4 s4 c4 g4 w4 q4 => ⟨?_, ?_⟩⟩
    · rw [w4 vs rfl]
      exact wipe_wipe vs vs σ fun _ hh => hh
    · refine ⟨Γ4, M4, F4, noE, _, ⟨c4, g4, fun _ _ _ _ _ _ _ _ _ _ _ _ _ _ z => z⟩, q4, fun F5 H5 b M5 s5 c5 q5 => ?_⟩
      have s15 := ((s2.trans s3).trans s4).trans s5
      cases b with
      | false =>
        rw [if_neg Bool.false_ne_true] at q5
        refine iteF ?_
        obtain ⟨e5, p5⟩ := q5
        subst e5
        refine ⟨hlt, F5, s15, ?_⟩
        rw [ht, dcF_snoc, p5]
        exact c5
      | true =>
        rw [if_pos rfl] at q5
        refine iteT ?_
        refine ⟨Γ4, M5, F5, noE, _, ⟨c5, g4.mono s5, fun _ _ _ _ _ _ _ _ _ _ _ _ _ _ z => z⟩, q5, fun F6 H6 yv yd M6 s6 c6 r6 q6 => ?_⟩
        refine ⟨Γ4, M6, F6, noE, _, ⟨c6, g4.mono (s5.trans s6), fun _ _ _ _ _ _ _ _ _ _ _ _ _ _ z => z⟩, q6, fun F7 H7 zv zd M7 s7 c7 r7 ⟨e7, k, e8, e9⟩ => ?_⟩
        subst e7
        have ev := key_of (r6.mono s7) e8
        subst ev
        obtain ⟨f7, o7, e10, us7, e11, rk⟩ := c7.ow Dd _ mup_same
        subst e11
        have hln := dcF_len f (it.seq.take i)
        rw [List.length_take] at hln
        refine ⟨us7, k, rfl, e10, by rw [rk.len]; omega, hlt, F7, (s15.trans s6).trans s7, ?_⟩
        rw [ht, dcF_snoc, e9]
        have c8 := c7.write (p := Dd) (x := .dic (putG (dcF f (it.seq.take i)) k zd)) (o := .dK (putK us7 k zv)) mup_same ⟨_, rfl, rk.put r7⟩
        rw [mup_mup] at c8
        exact c8
  · have e : i = it.seq.length := by omega
    refine .inl ⟨j2 (by omega), ?_⟩
    rw [e, List.take_length] at c2
    exact kq F2 H2 _ _ _ (s1.trans s2) c2 (.ref Dd) (q Dd m1)
theorem de_dc {kx vx iter : Expr} {ifs : List Expr} {scope : Scope} {own : List (Str × Nat)} {ti : DTI} {g : DTG} {tt : DTT} {tk tv : DTE} (hc : X.calm = true) (hN : X.N.Nodup) (hi : DI X W tg iter ti) (ok : BlkOk X.N X.env.scope scope own)
    (hg : ∀ (s : Shared) (H : Hp) (C : Addr) (cl : List (Str × Addr)) (fp : List Addr), DGt (X.blk s H scope (compEnvC scope cl C X.env) fp) W.T (some (own.map (·.2))) tg g)
    (ht : ∀ (s : Shared) (H : Hp) (C : Addr) (cl : List (Str × Addr)) (fp : List Addr), DTs (X.blk s H scope (compEnvC scope cl C X.env) fp) (noT W.T) ifs tt)
    (hk : ∀ (s : Shared) (H : Hp) (C : Addr) (cl : List (Str × Addr)) (fp : List Addr), DE (X.blk s H scope (compEnvC scope cl C X.env) fp) (noT W.T) kx tk)
    (hv : ∀ (s : Shared) (H : Hp) (C : Addr) (cl : List (Str × Addr)) (fp : List Addr), DE (X.blk s H scope (compEnvC scope cl C X.env) fp) (noT W.T) vx tv)
    (hs : ∀ x, foldedSetIterable iter X.env x = pure x := by intro _; rfl) : DE X W (.DictComp kx vx [⟨tg, iter, ifs, 0⟩] scope pos) (dDc ti g tt tk tv (own.map (·.2))) :=
  ⟨peW (pe_dc hc hN hi.pi ok (fun s H C cl fp => (hg s H C cl fp).pg) (fun s H C cl fp => (ht s H C cl fp).pt) (fun s H C cl fp => (hk s H C cl fp).pe) (fun s H C cl fp => (hv s H C cl fp).pe) hs) fun _ _ _ h => upDc h⟩
end
theorem real_ip {K : KTb} {g : Int → Int → Int} : Real2 K (ipI g) (rdI fun i j => .int (g i j)) := fun F H M x y d e Qd Q c rx ry ⟨i, j, e1, e2, q⟩ k => by
  subst e1
  subst e2
  cases rx
  cases ry
  exact ⟨i, j, rfl, rfl, k F H _ _ M (Same.refl _) c (.int _) q⟩
/-- the statement runs while a dict is locked; no exception leaves it -/
def dLckS (t : DTS) : DTS := fun Dn Γ M => ∃ p kvs, M p = some (.dic kvs) ∧ ∀ u, t { nx := fun Γ' M' => M' p = some (.lkd kvs u) ∧ Dn.nx Γ' (mup M' p (.dic kvs)), rt := fun x M' => M' p = some (.lkd kvs u) ∧ Dn.rt x (mup M' p (.dic kvs)), bk := fun Γ' M' => M' p = some (.lkd kvs u) ∧ Dn.bk Γ' (mup M' p (.dic kvs)), ct := fun Γ' M' => M' p = some (.lkd kvs u) ∧ Dn.ct Γ' (mup M' p (.dic kvs)) } Γ (mup M p (.lkd kvs u))
theorem ds_lock {X : Cx} {W : WT} {st : Stmt} {t : DTS} (h : DS X W st t) : DS X W st (dLckS t) :=
  ⟨psW (ps_lock h.ps) fun E σ H ⟨Γ, M, F, Dn, a, ⟨p, kvs, e1, q⟩, k⟩ => by
    obtain ⟨fz, ob, h2, vs, e4, rk⟩ := a.c.ow _ _ e1
    subst e4
    have back : ∀ (F1 H1 : Hp) (M1 : Mp) (od : Obj), Cc (kt X W) M1 F1 H1 → M1 p = some (.lkd kvs (.frz od (.dK vs))) → H1 p = some (.frz od (.dK vs)) ∧ Cc (kt X W) (mup M1 p (.dic kvs)) F1 (upd H1 p (.dK vs)) := fun F1 H1 M1 od c1 e2 => by
      obtain ⟨fz2, ob2, h3, e5, od2, vs2, e6, rk2⟩ := c1.ow _ _ e2
      subst e5
      cases e6
      exact ⟨h3, c1.write (x := .dic kvs) e2 (o := .dK vs) ⟨_, rfl, rk2⟩⟩
    refine ⟨p, .dK vs, h2, True.intro, fun od => ⟨Γ, _, F, _, ⟨a.c.write (x := .lkd kvs (.frz od (.dK vs))) e1 (o := .frz od (.dK vs)) ⟨rfl, od, vs, rfl, rk⟩, a.g, fun _ _ _ _ _ _ _ _ _ _ _ _ _ _ z => False.elim z⟩, q _, ?_, ?_, ?_, ?_⟩⟩
    · intro F1 H1 σ1 Γ1 M1 s1 c1 g1 ⟨e2, q1⟩
      obtain ⟨h3, c2⟩ := back F1 H1 M1 od c1 e2
      exact ⟨h3, k.nx F1 _ σ1 Γ1 _ s1 c2 g1 q1⟩
    · intro F1 H1 v d M1 s1 c1 r1 ⟨e2, q1⟩
      obtain ⟨h3, c2⟩ := back F1 H1 M1 od c1 e2
      exact ⟨h3, k.rt F1 _ v d _ s1 c2 r1 q1⟩
    · intro F1 H1 σ1 Γ1 M1 s1 c1 g1 ⟨e2, q1⟩
      obtain ⟨h3, c2⟩ := back F1 H1 M1 od c1 e2
      exact ⟨h3, k.bk F1 _ σ1 Γ1 _ s1 c2 g1 q1⟩
    · intro F1 H1 σ1 Γ1 M1 s1 c1 g1 ⟨e2, q1⟩
      obtain ⟨h3, c2⟩ := back F1 H1 M1 od c1 e2
      exact ⟨h3, k.ct F1 _ σ1 Γ1 _ s1 c2 g1 q1⟩⟩
theorem _root_.L2.Room.u1 {k : Nat} {A : Around} (r : Room k A) : A.units + 1 < cLine := by have := r.units; omega
/-- what a class must have to be made, but for its __init__ -/
structure MkF (K : PySem.W.Frag) (mg : Str → Option Value) (x : Str) (C : Addr) : Prop where
  makes : PySem.W.makesIn K C = true
  kp : PySem.W.keepIn K (.ref C) = true
  at_ : mg x = some (.ref C)
theorem mkk_of {P : Program} {w : World} {K : PySem.W.Frag} {T : List (Addr × Str)} {mg : Str → Option Value} {base : Heap} {x : Str} {C : Addr} {k : Nat} {ps : List Str} {sp : DSp} (h : Mfk P w K mg base T C "__init__" k ps sp) (m : MkF K mg x C) : Mkk P w K mg base T x C k ps sp := by
  obtain ⟨f, fd, h1, h2, h3⟩ := h.ex
  exact ⟨⟨f, fd, h1, ⟨m.makes, h2.at_, h2.fn, m.kp⟩, h3, m.at_⟩⟩
theorem insF {M : Mp} {p C : Addr} {fs : List (Str × D)} : insD (mup M p (.ins C fs)) (.ref p) = some (C, fs) := by
  show (match mup M p (.ins C fs) p with | some (.ins C fs) => some (C, fs) | _ => none) = _
  rw [mup_same]
theorem dcF1 {M : Mp} {p : Addr} {kvs : List (Key × D)} : dcD (mup M p (.dic kvs)) (.ref p) = some kvs := by
  show (match mup M p (.dic kvs) p with | some (.dic kvs) => some kvs | some (.lkd kvs _) => some kvs | _ => none) = _
  rw [mup_same]
theorem insR {M : Mp} {p C : Addr} {fs : List (Str × D)} (h : M p = some (.ins C fs)) : insD M (.ref p) = some (C, fs) := by
  show (match M p with | some (.ins C fs) => some (C, fs) | _ => none) = _
  rw [h]
theorem dcR {M : Mp} {p : Addr} {kvs : List (Key × D)} (h : M p = some (.dic kvs)) : dcD M (.ref p) = some kvs := by
  show (match M p with | some (.dic kvs) => some kvs | some (.lkd kvs _) => some kvs | _ => none) = _
  rw [h]
end DL
namespace DL
open PySem L2
theorem Rps.erase {K : KTb} {F : Hp} {vs : List V} {ds : List D} (r : Rps K F vs ds) (k : Nat) : Rps K F (vs.eraseIdx k) (ds.eraseIdx k) := by
  rw [List.eraseIdx_eq_take_drop_succ, List.eraseIdx_eq_take_drop_succ]
  exact (r.take k).append (r.drop (k + 1))
section
variable {X : Cx} {W : WT} {o i : Expr} {pos tpos : Pos}
def dDelL (to ti : DTE) : DTS := fun Dn Γ M => to Γ M (fun x M1 => ti Γ M1 (fun y M2 => ∃ (p : Addr) (xs : List D) (k : Nat), x = .ref p ∧ y = .int (k : Nat) ∧ M2 p = some (.lst xs) ∧ k < xs.length ∧ xs.length ≤ 10000000 ∧ Dn.nx Γ (mup M2 p (.lst (xs.eraseIdx k)))) Dn.ex) Dn.ex
end
theorem neSS {α : Type} [DecidableEq α] {f : α → D} {as bs : List α} {x y : D} {M : Mp} {Q : DQ} {n : Nat} (hf : ∀ a, lay n (f a)) (he : ∀ a b, deq (f a) (f b) = decide (a = b)) (h : sqD M x = some (as.map f)) (g : sqD M y = some (bs.map f)) (hn : n ≤ 63) (qq : Q (.bl (!decide (as = bs))) M) : rdNe x y M Q := by
  have h1 : shD (.lst (as.map f)) = true := sh_of (lay_mapL hf as) (by omega)
  have h2 : shD (.lst (bs.map f)) = true := sh_of (lay_mapL hf bs) (by omega)
  refine neSq (b := !decide (as = bs)) (by rw [resSq h]; exact h1) (by rw [resSq g]; exact h2) ?_ qq
  rw [resSq h, resSq g, deq_lstM he, Bool.not_not]
theorem eqSS {α : Type} [DecidableEq α] {f : α → D} {as bs : List α} {x y : D} {M : Mp} {Q : DQ} {n : Nat} (hf : ∀ a, lay n (f a)) (he : ∀ a b, deq (f a) (f b) = decide (a = b)) (h : sqD M x = some (as.map f)) (g : sqD M y = some (bs.map f)) (hn : n ≤ 63) (qq : Q (.bl (decide (as = bs))) M) : rdEq x y M Q := by
  have h1 : shD (.lst (as.map f)) = true := sh_of (lay_mapL hf as) (by omega)
  have h2 : shD (.lst (bs.map f)) = true := sh_of (lay_mapL hf bs) (by omega)
  refine eqSq (b := decide (as = bs)) (by rw [resSq h]; exact h1) (by rw [resSq g]; exact h2) ?_ qq
  rw [resSq h, resSq g, deq_lstM he]
end DL
namespace DL
open PySem PySem.Spec PyProof.Rows L2
end DL
namespace DL
open PySem L2
structure ExO (K : PySem.W.Frag) (C : Addr) (y : Str) : Prop where
  one : PySem.W.exmOne K (.ref C) (.ref C) = some true
  fld : XfC K C
  nof : PySem.W.findIn K (.ref C) y = some none
/-- an __init__ with a default for its one argument, which is handed all the same -/
theorem ini1_mk {K : PySem.W.Frag} {x qual : Str} {st : Stmt} {f T e : Addr} {oc oc2 : Value} {od od2 an : Option Addr} {osl osl2 : Array (Option Value)} {n : Nat} {kV doc pm cdv ct : Value} {ps : List Str} (hps : ps.length = 2)
    (l : K.lookup f = some ⟨oc, od, .func (PySem.W.fnOf x qual (defArgs st) (defBody st) (defScope st) (.ref T) kV doc pm an cdv ct), osl⟩) (c : PySem.W.codeIn K cdv qual = true) (k : PySem.W.keepIn K (.ref f) = true)
    (lT : K.lookup T = some ⟨oc2, od2, .seq #[.ref e] n, osl2⟩)
    (h : ∀ (T : Addr) (kV doc pm : Value) (an : Option Addr) (cdv ct : Value) (us its : List Value), us.length = 2 → its.length = 1 →
      ∃ k, bindArgs (PySem.W.fnOf x qual (defArgs st) (defBody st) (defScope st) (.ref T) kV doc pm an cdv ct) ⟨us, []⟩ = seqItems? (.ref T) >>= k ∧ k (some its.toArray) = pure (ps.zip (us ++ its.drop 1))) :
    FunK K x qual st f (PySem.W.fnOf x qual (defArgs st) (defBody st) (defScope st) (.ref T) kV doc pm an cdv ct) ∧ Binds K (PySem.W.fnOf x qual (defArgs st) (defBody st) (defScope st) (.ref T) kV doc pm an cdv ct) ps [] := by
  have F : FunD K x qual (defArgs st) (defBody st) (defScope st) [V.ref e] [] f (PySem.W.fnOf x qual (defArgs st) (defBody st) (defScope st) (.ref T) kV doc pm an cdv ct) := ⟨⟨oc, od, .ref T, kV, doc, pm, an, cdv, ct, osl, rfl, l, c, .inr ⟨by simp, T, _, [.ref e], n, rfl, lT, rfl, .cons rfl .nil⟩, .inl rfl⟩, k⟩
  refine ⟨FunK.ofD F, ?_⟩
  obtain ⟨ds, r, b⟩ := F.binds1 (ps := ps) 2 1 (by simp) (by simp [hps]) h
  cases r
  exact b
section
variable {X : Cx} {W : WT}
/-- xs.pop(i), i a place -/
def dPopI (tx te : DTE) : DTE := fun Γ M Q E => tx Γ M (fun d M1 => (∃ xs, sqX M1 d = some xs) ∧ te Γ M1 (fun i M2 => ∃ (p : Addr) (xs : List D) (k : Nat) (y : D), d = .ref p ∧ i = .int (k : Nat) ∧ M2 p = some (.lst xs) ∧ xs[k]? = some y ∧ xs.length ≤ 10000000 ∧ Q y (mup M2 p (.lst (xs.eraseIdx k)))) E) E
end
end DL
namespace DL
open PySem PySem.Spec PyProof.Rows L2
section
variable {X : Cx}
theorem nodup_le {α : Type} [DecidableEq α] : ∀ {a b : List α}, a.Nodup → (∀ x ∈ a, x ∈ b) → a.length ≤ b.length
  | [], b, _, _ => Nat.zero_le _
  | x :: a, b, h, hs => by
    obtain ⟨h1, h2⟩ := List.nodup_cons.mp h
    have hx := hs x List.mem_cons_self
    have := nodup_le (b := b.erase x) h2 fun y hy => (List.mem_erase_of_ne (fun e => h1 (by rw [← e]; exact hy))).mpr (hs y (List.mem_cons_of_mem _ hy))
    rw [List.length_erase_of_mem hx] at this
    have := List.length_pos_of_mem hx
    rw [List.length_cons]
    omega
end
section
variable {X : Cx} {W : WT}
def dLenSet (t : DTE) : DTE := fun Γ M Q E => t Γ M (fun d M1 => ∃ ms : List (Int × Int × Int), sqD M1 d = some (ms.map mkD) ∧ ms.length < 64 ∧ ms.Nodup ∧ Q (.int (ms.length : Nat)) M1) E
end
end DL
namespace DL
open PySem PySem.Spec PyProof.Rows L2
section
variable {X : Cx} {W : WT}
/-- xs.index(y) -/
def dIndex (tx te : DTE) : DTE := fun Γ M Q E => tx Γ M (fun d M1 => (∃ xs, sqX M1 d = some xs) ∧ te Γ M1 (fun y M2 => ∃ (xs : List D) (j : Nat) (z : D), res M2 d = .lst xs ∧ shD (.lst xs) = true ∧ shD (res M2 y) = true ∧ xs[j]? = some z ∧ deq z (res M2 y) = true ∧
  (∀ (m : Nat) (z' : D), m < j → xs[m]? = some z' → deq z' (res M2 y) = false) ∧ Q (.int (j : Nat)) M2) E) E
end
end DL
namespace DL
open PySem PySem.Spec PyProof.Rows L2 LamX NdefX
abbrev pI (p : Int × Int) : D := tupI [p.1, p.2]
def pLt (p q : Int × Int) : Bool := HT.lexLt [p.1, p.2] [q.1, q.2]
/-- the reading: t the list's, sp the lambda's promise -/
def dMaxK (sp : DSp) (t : DTE) : DTE := fun Γ M Q E => t Γ M (fun d M1 => ∃ (ds : List D) (kf : D → Int × Int), sqD M1 d = some ds ∧ ds ≠ [] ∧ (∀ x, x ∈ ds → sp [x] M1 (fun v M2 => M2 = M1 ∧ v = pI (kf x)) (fun _ _ _ => False)) ∧
  ∀ x, x ∈ ds → (∀ y, y ∈ ds → pLt (kf x) (kf y) = false) → Q x M1) E
end DL
namespace DL
open PySem PySem.Spec PyProof.Rows L2
def ikey (k : List Int) : List L2.Key := k.map Sum.inl
/-- the object at a is the dict of these entries: key, the key's tuple, value -/
def DtO (P : Program) (w : World) (a : Addr) (xs : List (List L2.Key × Addr × Value)) : HO := .ext fun h => ∃ o es ep, h.get? a = some o ∧ o.ExactDict ∧ o.data = .dict es ep ∧ es.toList = xs.map (entryOfKey (tupleKind (mixKind P w))) ∧ (xs.map (·.1)).Nodup
/-- one entry: the key's tuple stands at its address -/
def EntV (K : PySem.W.Frag) (H : Hp) (p : List Int × Int) (q : List L2.Key × Addr × Value) : Prop := q.1 = ikey p.1 ∧ SqT K H q.2.1 (p.1.map V.int) ∧ ∃ t, q.2.2 = .int p.2 t
inductive Ents (K : PySem.W.Frag) (H : Hp) : List (List Int × Int) → List (List L2.Key × Addr × Value) → Prop
  | nil : Ents K H [] []
  | cons {p ps q qs} : EntV K H p q → Ents K H ps qs → Ents K H (p :: ps) (q :: qs)
section
variable {K : PySem.W.Frag} {H : Hp}
theorem Ents.len {ps qs} (h : Ents K H ps qs) : ps.length = qs.length := by
  induction h with
  | nil => rfl
  | cons _ _ ih => simp [ih]
theorem Ents.mem {ps qs} (h : Ents K H ps qs) : ∀ q ∈ qs, ∃ p ∈ ps, EntV K H p q := by
  induction h with
  | nil => intro q hq; cases hq
  | cons e _ ih =>
    intro q hq
    rcases List.mem_cons.mp hq with rfl | hq
    · exact ⟨_, List.mem_cons_self, e⟩
    · obtain ⟨p, hp, r⟩ := ih q hq
      exact ⟨p, List.mem_cons_of_mem _ hp, r⟩
end
/-- .. by data -/
def dctD (K : KTb) (P : Program) (w : World) (a : Addr) (kvs : List (List Int × Int)) : D := .any (.ref a) fun F => ∃ L : List (Addr × Value), L.length = kvs.length ∧ F a = some (DtO P w a ((kvs.zip L).map fun p => (ikey p.1.1, p.2.1, p.2.2))) ∧ ∀ p ∈ kvs.zip L, Rp K F (.ref p.2.1) (tupI p.1.1) ∧ ∃ t, p.2.2 = Value.int p.1.2 t
def kvD (p : List Int × Int) : D := .tup [tupI p.1, .int p.2]
def rdDictP (K : KTb) (P : Program) (w : World) : D1s := fun ds M Q => ∃ (d : D) (kvs : List (List Int × Int)), ds = [d] ∧ sqD M d = some (kvs.map kvD) ∧ (kvs.map (·.1)).Nodup ∧ ∀ a, Q (dctD K P w a kvs) M
section
variable {X : Cx} {W : WT} {o i : Expr} {pos : Pos}
def dDctGet (K : KTb) (P : Program) (w : World) (td ty : DTE) : DTE := fun Γ M Q E => td Γ M (fun d M1 => ty Γ M1 (fun y M2 => ∃ (a : Addr) (kvs : List (List Int × Int)) (k : List Int) (v : Int), d = dctD K P w a kvs ∧ y = tupI k ∧ (kvs.find? fun p => decide (p.1 = k)) = some (k, v) ∧ Q (.int v) M2) E) E
end
end DL
namespace L2
open PySem PySem.Spec PyProof.Rows
end L2
namespace DL
open PySem L2
section
variable {X : Cx} {es : List Expr} {e : Expr} {pos p : Pos}
/-- a, *rest = ..; the rest is frozen -/
def gdStar (t : DTGs) : DTG := fun d Γ M Q => ∃ x xs, (sqD M d = some (x :: xs) ∨ tpD d = some (x :: xs)) ∧ xs.length + 1 ≤ 16384 ∧ t [x, .lst xs] Γ M Q
/-- a new instance that is frozen at once -/
def dFrzI (t : DTE) : DTE := fun Γ M Q E => t Γ M (fun d M1 => ∃ p C fs, d = .ref p ∧ M1 p = some (.ins C fs) ∧ Q (.obj C fs) (mdel M1 p)) E
end
section
variable {X : Cx} {W : WT} {a : Expr}
/-- list(range(n)): a cell -/
def dListRg1 (ta : DTE) : DTE := fun Γ M Q E => ta Γ M (fun x M1 => ∃ j : Int, x = .int j ∧ RgOk 0 j ∧ ∀ p, M1 p = none → Q (.ref p) (mup M1 p (.lst (rngD 0 1 j.toNat)))) E
end
end DL
namespace L2
open PySem PySem.Spec PyProof.Rows HT
end L2
namespace DL
open PySem L2
section
variable {X : Cx} {W : WT} {o value : Expr} {lo hi : Option Expr} {p2 pos pos' tpos : Pos}
def dDelSl (to : DTE) (tl th : DTO) : DTS := fun Dn Γ M => to Γ M (fun x M1 => tl Γ M1 (fun l M2 => th Γ M2 (fun u M3 => ∃ p xs a c, x = .ref p ∧ l = some a ∧ u = some c ∧ M3 p = some (.lst xs) ∧ 0 ≤ a ∧ a ≤ c ∧ c ≤ xs.length ∧ Dn.nx Γ (mup M3 p (.lst (xs.take a.toNat ++ xs.drop c.toNat)))) Dn.ex) Dn.ex) Dn.ex
def dSetSl (tv to : DTE) (tl th : DTO) : DTS := fun Dn Γ M => tv Γ M (fun v M0 => to Γ M0 (fun x M1 => tl Γ M1 (fun l M2 => th Γ M2 (fun u M3 => ∃ p xs ys a c, x = .ref p ∧ v = .lst ys ∧ l = some a ∧ u = some c ∧ M3 p = some (.lst xs) ∧ 0 ≤ a ∧ a ≤ c ∧ c ≤ xs.length ∧ xs.length + ys.length ≤ sizeLine ∧ Dn.nx Γ (mup M3 p (.lst (xs.take a.toNat ++ ys ++ xs.drop c.toNat)))) Dn.ex) Dn.ex) Dn.ex) Dn.ex
end
section
variable {X : Cx} {W : WT} {o e : Expr} {pos tpos apos cpos : Pos}
/-- d.pop(k), there -/
def dDpop (td ty : DTE) : DTE := fun Γ M Q E => td Γ M (fun x M1 => (∃ kvs, dcD M1 x = some kvs) ∧ ty Γ M1 (fun y M2 => ∃ p kvs k d, x = .ref p ∧ M2 p = some (.dic kvs) ∧ keyD y = some k ∧ valG kvs k = some d ∧ Q d (mup M2 p (.dic (dropG kvs k)))) E) E
/-- del d[k] -/
def dDdel (td ty : DTE) : DTS := fun Dn Γ M => td Γ M (fun x M1 => ty Γ M1 (fun y M2 => ∃ p kvs k, x = .ref p ∧ M2 p = some (.dic kvs) ∧ keyD y = some k ∧ (valG kvs k).isSome = true ∧ Dn.nx Γ (mup M2 p (.dic (dropG kvs k)))) Dn.ex) Dn.ex
end
section
variable {K : KTb} {F : Hp}
theorem RpT.val {k : List Key} : ∀ {vs : List (List Key × V)} {ds : List (List Key × D)}, RpT K F vs ds → (∀ d, valG ds k = some d → ∃ v, valV vs k = some v ∧ Rp K F v d) ∧ (valG ds k = none → valV vs k = none)
  | _, _, .nil => ⟨fun d e => (by cases e), fun _ => rfl⟩
  | (k1, v1) :: vs, (_, d1) :: ds, .cons r t => by
    obtain ⟨h1, h2⟩ := RpT.val (k := k) t
    by_cases e : k1 = k
    · have e1 : valG ((k1, d1) :: ds) k = some d1 := by simp [valG, e]
      have e2 : valV ((k1, v1) :: vs) k = some v1 := by simp [valV, e]
      rw [e1, e2]
      exact ⟨fun d z => by cases z; exact ⟨v1, rfl, r⟩, fun z => by cases z⟩
    · have e1 : valG ((k1, d1) :: ds) k = valG ds k := by simp [valG, e]
      have e2 : valV ((k1, v1) :: vs) k = valV vs k := by simp [valV, e]
      rw [e1, e2]
      exact ⟨h1, h2⟩
theorem RpT.some {k : List Key} {vs : List (List Key × V)} {ds : List (List Key × D)} (h : RpT K F vs ds) : (valV vs k).isSome = (valG ds k).isSome := by
  obtain ⟨h1, h2⟩ := h.val (k := k)
  cases e : valG ds k with
  | none => rw [h2 e]; rfl
  | some d =>
    obtain ⟨v, e2, _⟩ := h1 d e
    rw [e2]
    rfl
theorem RpT.len : ∀ {vs : List (List Key × V)} {ds : List (List Key × D)}, RpT K F vs ds → vs.length = ds.length
  | _, _, .nil => rfl
  | _, _, .cons _ t => congrArg (· + 1) (RpT.len t)
theorem RpT.any {k : List Key} : ∀ {vs : List (List Key × V)} {ds : List (List Key × D)}, RpT K F vs ds → (vs.any fun kv => decide (kv.1 = k)) = (ds.any fun kv => decide (kv.1 = k))
  | _, _, .nil => rfl
  | (k1, v1) :: vs, (_, d1) :: ds, .cons r t => by
    rw [List.any_cons, List.any_cons, RpT.any t]
theorem RpT.over {k : List Key} {v : V} {d : D} (r : Rp K F v d) : ∀ {vs : List (List Key × V)} {ds : List (List Key × D)}, RpT K F vs ds → RpT K F (vs.map fun kv => if kv.1 = k then (kv.1, v) else kv) (ds.map fun kv => if kv.1 = k then (kv.1, d) else kv)
  | _, _, .nil => .nil
  | (k1, v1) :: vs, (_, d1) :: ds, .cons q t => by
    rw [List.map_cons, List.map_cons]
    by_cases e : k1 = k
    · rw [if_pos e, if_pos e]
      exact .cons r (RpT.over r t)
    · rw [if_neg e, if_neg e]
      exact .cons q (RpT.over r t)
theorem RpT.app : ∀ {vs us : List (List Key × V)} {ds es : List (List Key × D)}, RpT K F vs ds → RpT K F us es → RpT K F (vs ++ us) (ds ++ es)
  | _, _, _, _, .nil, s => s
  | _, _, _, _, .cons r t, s => .cons r (RpT.app t s)
theorem RpT.put {k : List Key} {v : V} {d : D} {vs : List (List Key × V)} {ds : List (List Key × D)} (r : Rp K F v d) (h : RpT K F vs ds) : RpT K F (putK vs k v) (putG ds k d) := by
  unfold putK putG
  rw [h.any]
  split
  · exact h.over r
  · exact h.app (.cons r .nil)
end
/-- a dict by tuples: frozen, a cell -/
def dtD (M : Mp) : D → Option (List (List Key × D))
  | .dit kvs => some kvs
  | .ref p => match M p with
    | some (.dit kvs) => some kvs
    | _ => none
  | _ => none
/-- a tuple of ints that was made by the text -/
def keyT (b : Addr) (ns : List Int) : D := .any (.ref b) fun F => F b = some (.tup (ns.map V.int))
section
variable {X : Cx} {W : WT} {e a b o i tg : Expr} {pos pos' tpos : Pos}
def dDnewT : DTE := fun _ M Q _ => ∀ p, M p = none → Q (.ref p) (mup M p (.dit []))
def dDinT (neg : Bool) (ty td : DTE) : DTE := fun Γ M Q E => ty Γ M (fun x M1 => td Γ M1 (fun y M2 => ∃ kvs b ns, dtD M2 y = some kvs ∧ x = keyT b ns ∧ Q (.bl (if neg = true then !(valG kvs (ikey ns)).isSome else (valG kvs (ikey ns)).isSome)) M2) E) E
def dDgetT (td ty : DTE) : DTE := fun Γ M Q E => td Γ M (fun x M1 => ty Γ M1 (fun y M2 => ∃ kvs b ns d, dtD M2 x = some kvs ∧ y = keyT b ns ∧ valG kvs (ikey ns) = some d ∧ Q d M2) E) E
def dDputT (td ty tv : DTE) : DTS := fun Dn Γ M => tv Γ M (fun v M1 => td Γ M1 (fun x M2 => ty Γ M2 (fun y M3 => ∃ p kvs b ns, x = .ref p ∧ y = keyT b ns ∧ M3 p = some (.dit kvs) ∧ kvs.length < sizeLine ∧ Dn.nx Γ (mup M3 p (.dit (putG kvs (ikey ns) v)))) Dn.ex) Dn.ex) Dn.ex
end
end DL
namespace L2
open PySem PySem.Spec PyProof.Rows
end L2
namespace DL
open PySem L2
section
variable {X : Cx} {W : WT} {e o : Expr} {es : List Expr} {pos pos' apos p : Pos} {C : Addr} {f x m : Str} {kws : List Keyword}
/-- o.f += e, ints -/
def dFldAug (C : Addr) (f : Str) (to te : DTE) : DTS := fun Dn Γ M => to Γ M (fun x M1 => ∃ q fs i, x = .ref q ∧ M1 q = some (.ins C fs) ∧ fs.lookup f = some (.int i) ∧ te Γ M1 (fun y M2 => ∃ j fs', y = .int j ∧ M2 q = some (.ins C fs') ∧ fs'.length < 1000 ∧ Dn.nx Γ (mup M2 q (.ins C (putD f (.int (i + j)) fs')))) Dn.ex) Dn.ex
/-- try: body / finally: suite -/
def dFin (tb tf : DTS) : DTS := fun Dn Γ M => tb { nx := fun Γ2 M2 => tf { nx := Dn.nx, rt := Dn.rt, bk := Dn.bk, ct := Dn.ct } Γ2 M2, rt := fun _ _ => False, ex := fun Γ2 C fs M2 => tf { nx := fun Γ3 M3 => Dn.ex Γ3 C fs M3, rt := fun _ _ => False } Γ2 M2 } Γ M
structure PatD (K : PySem.W.Frag) where
  n : Nat
  ks : List Str
  gV : List V → List V → List V
  gD : List D → List D → List D
  rel : ∀ {T : List (Addr × Str)} {F : Hp} {vs zs : List V} {ds es : List D}, Rps ⟨K, T⟩ F vs ds → Rps ⟨K, T⟩ F zs es → vs.length = n → zs.length = ks.length → Rps ⟨K, T⟩ F (gV vs zs) (gD ds es)
end
section
variable {P : Program} {w : World} {K : PySem.W.Frag} {T : List (Addr × Str)} {mg : Str → Option Value} {base : Heap}
structure MethAtP (K : PySem.W.Frag) (C : Addr) (m qual : Str) (st : Stmt) (ps : List Str) (pats : List (PatD K)) : Prop where
  ex : ∃ f fd, Meth K C m f ∧ FunK K m qual st f fd ∧ ∀ pt ∈ pats, ∃ g, KBn K fd ps pt.n pt.ks g pt.gV
structure MfkP (P : Program) (w : World) (K : PySem.W.Frag) (mg : Str → Option Value) (base : Heap) (T : List (Addr × Str)) (C : Addr) (m : Str) (k : Nat) (ps : List Str) (pats : List (PatD K)) (sp : DSp) : Prop where
  ex : ∃ f fd, FnOk P w K mg base (L2.CX P w) k f fd ps (spUp ⟨K, T⟩ sp) ∧ Meth K C m f ∧ ∀ pt ∈ pats, ∃ g, KBn K fd ps pt.n pt.ks g pt.gV
theorem MethAtP.ok {C : Addr} {m qual : Str} {st : Stmt} {N ps : List Str} {pats : List (PatD K)} {k : Nat} {sp : DSp} (Fn : MethAtP K C m qual st ps pats) (S : FnScope N ps (defScope st)) (len : ∀ ds M Q E, sp ds M Q E → ds.length = ps.length)
    (hbody : ∀ (f : Addr) (cdv : Value) (A : Around) (outer : List Env) (s : Shared) (H : Hp) (E : XK), Room k (A.deeper (PyProof.Rows.envOfC qual (defScope st) s.heap.objs.size f cdv)) → ∃ t, DSs (cxOf (L2.CX P w) P w K mg base N qual (defScope st) f cdv A outer s H E) (wOf T E) (defBody st) t ∧
      ∀ (ds : List D) (M : Mp) (Qd : DQ) (Ed : DXK), sp ds M Qd Ed → t { nx := fun _ M' => Fin ⟨K, T⟩ Qd .non M', rt := Fin ⟨K, T⟩ Qd, ex := fun _ C fs M' => Ed C fs M' } (dstart N ds) M) : MfkP P w K mg base T C m (k + 1) ps pats sp := by
  obtain ⟨f, fd, h1, h2, h3⟩ := Fn.ex
  refine ⟨f, fd, dfn h2 S len fun cdv A outer s H E hr => ?_, h1, h3⟩
  obtain ⟨t, ht, hq⟩ := hbody f cdv A outer s H E hr
  exact ⟨t, ht, fun ds M Qd Ed F H h c => ⟨F, M, Same.refl _, c, hq ds M Qd Ed h⟩⟩
end
section
variable {X : Cx} {W : WT} {e o : Expr} {es : List Expr} {pos apos p : Pos} {C : Addr} {x m : Str} {kws : List Keyword}
def dMethK (C : Addr) (m : Str) {K : PySem.W.Frag} (pt : PatD K) (sp : DSp) (to : DTE) (t tk : DTA) : DTE := fun Γ M Q E => to Γ M (fun x M1 => (∃ fs, insD M1 x = some (C, fs) ∧ fs.lookup m = none) ∧ t Γ M1 (fun ds M2 => tk Γ M2 (fun zs M3 => ds.length + 1 = pt.n ∧ zs.length = pt.ks.length ∧ sp (pt.gD (x :: ds) zs) M3 Q (fun C fs M4 => E Γ C fs M4)) E) E) E
end
end DL
namespace DL
open PySem L2
section
variable {X : Cx} {W : WT} {e o : Expr} {es : List Expr} {pos apos p : Pos} {C : Addr} {x m : Str} {kws : List Keyword}
def dMakeK (C : Addr) {K : PySem.W.Frag} (pt : PatD K) (sp : DSp) (t tk : DTA) : DTE := fun Γ M Q E => t Γ M (fun ds M1 => tk Γ M1 (fun zs M2 => ds.length + 1 = pt.n ∧ zs.length = pt.ks.length ∧ ∀ p, M2 p = none → sp (pt.gD (.ref p :: ds) zs) (mup M2 p (.ins C [])) (fun d M3 => d = .non ∧ Q (.ref p) M3) (fun C fs M4 => E Γ C fs M4)) E) E
end
end DL
namespace DL
open PySem L2 PySem.Spec PyProof.Rows
section
variable {X : Cx} {W : WT} {e : Expr} {apos cpos p p2 : Pos} {te : DTE} {kvs : List (Str × Int)} {miss : List Str} {x : Str}
def dWget (kvs : List (Str × Int)) (miss : List Str) (te : DTE) (j : Int) : DTE := fun Γ M Q E => te Γ M (fun y M1 => ∃ z, y = .str z ∧ ((∃ i, (z, i) ∈ kvs ∧ Q (.int i) M1) ∨ (z ∈ miss ∧ Q (.int j) M1))) E
end
section
variable {X : Cx} {W : WT} {e : Expr}
def dFrzD (t : DTE) : DTE := fun Γ M Q E => t Γ M (fun d M1 => ∃ p kvs, d = .ref p ∧ M1 p = some (.dic kvs) ∧ Q (.dic kvs) (mdel M1 p)) E
def dFrzT (t : DTE) : DTE := fun Γ M Q E => t Γ M (fun d M1 => ∃ p kvs, d = .ref p ∧ M1 p = some (.dit kvs) ∧ Q (.dit kvs) (mdel M1 p)) E
end
end DL
namespace PySem
open Sem (wp)
open AutoSeq1 (wpAny_loadPart')
end PySem
namespace L2
open PySem PySem.Spec PyProof.Rows
end L2
namespace DL
open PySem L2
section
variable {X : Cx} {W : WT} {e : Expr}
def dIEn0 (t : DTA) : DTI := fun Γ M R E => t Γ M (fun ds M1 => ∃ d, ds = [d] ∧ ((∃ xs, sqD M1 d = some xs ∧ xs.length ≤ sizeLine ∧ R ⟨enD xs, fun M2 => sqD M2 d = some xs⟩ M1) ∨ (d = .tup [] ∧ R ⟨[], fun _ => True⟩ M1))) E
end
end DL
namespace L2
open PySem PySem.Spec PyProof.Rows
end L2
namespace DL
open PySem L2
def rdEqE : D2 := fun x y M Q => ∃ xs, sqD M x = some xs ∧ sqD M y = some [] ∧ Q (.bl xs.isEmpty) M
end DL
namespace DL
open PySem PySem.W PySem.Calls PyProof.Rows HeadRun
theorem obK {K : Params → Frag} {as : List Addr} {ek : ∀ P, as = (K P).map (·.1)} : ∀ s : SharedT, as.map (getT s) = (kHook K as ek).obs s.abs := fun s => List.map_congr_left fun a _ => getT_eq s a
/-- the written part and its addresses -/
structure HP where
  K : Params → Frag
  as : List Addr
  e : ∀ P, as = (K P).map (·.1)
def HP.ofK {K : Params → Frag} {as : List Addr} {e : ∀ P, as = (K P).map (·.1)} (H : Hook) (_ : H = kHook K as e) : HP := ⟨K, as, e⟩
def HP.ofM {K : Params → Frag} {as ts : List Addr} {e : ∀ P, as = (K P).map (·.1)} (H : Hook) (_ : H = kmHook K as e ts) : HP := ⟨K, as, e⟩
def RunAt (r : OpenRow) (q : Program) (P : HP) (M : Nat) (loose : List PySem.Str) (w : World) : Prop :=
  ∀ os : OsState, (endF (stepQ (denQ tabQ) r.prog w) M r.prog w os).map (fun s => (looksF r.prog (boot_heap w.params) s.abs, seenQ q loose (importedModules r.prog.main.body) (fun s => xlAt q [] s && recOk r.toRowW.records s) s.abs, P.as.map (getT s))) = some (true, openGood q loose, (P.K w.params).map fun x => some x.2)
theorem run_split {r : OpenRow} {q : Program} {P : HP} {M : Nat} {loose : List PySem.Str} (row : String) (hf : ∀ w : World, RunAt r q P M loose (w.withFollow row false)) (ht : ∀ w : World, RunAt r q P M loose (w.withFollow row true)) : ∀ w, RunEq r q (kHook P.K P.as P.e) (fun s => P.as.map (getT s)) M loose w := fun w => by
  have e := World.withFollow_self w row
  have h1 := hf w
  have h2 := ht w
  cases hb : w.params.followText row <;> rw [hb] at e
  · rw [e] at h1
    exact h1
  · rw [e] at h2
    exact h2
theorem head_at {r : OpenRow} {q : Program} {P : HP} {M : Nat} {loose : List PySem.Str} {d : DefRec} {kwd : List (PySem.Str × PySem.Expr)} (row : String) (hf : ∀ w : World, RunAt r q P M loose (w.withFollow row false)) (ht : ∀ w : World, RunAt r q P M loose (w.withFollow row true))
    (e : opening r.prog = plainProg r.prog.main.scope.names) (f : ∀ s, fenceModules? r.prog s = some s)
    (hdef : defOf q r.name = some (d, kwd)) (hp : r.prog.theDef r.name = some (d.params, d.body, d.scope)) (hk : kwWritten? d.params.kwonlyargs d.params.kw_defaults = some kwd)
    (hwr : (!r.writes || r.records.isEmpty) = true) (k1 : r.wellSaid = true) (ok : (chainsOk q && opensWell r.prog && (frees r.toRowW && r.within.isEmpty)) = true) (hb : r.prog.bare) (hw : r.toRowW.promised)
    (call : WalkO q loose (XL q []) (kHook P.K P.as P.e).says r.toRowW d kwd fun f vs => PySem.call f vs) : r.Holds :=
  head_any (H := kHook P.K P.as P.e) (ob := fun s => P.as.map (getT s)) obK e f (run_split row hf ht) hdef hp hk hwr k1 ok hb hw call
def viewP (p : Program) (l : List Nat) : Program := { p with main := { p.main with body := l.map fun i => p.main.body.getD i (.Pass ⟨0, 0, 0, 0⟩) } }
def strL (l : List String) : List PySem.Str := l.map PySem.Str.ofString
end DL
namespace DL
open PySem PySem.Spec PyProof.Rows L2
def rdDictN : D1s := fun ds M Q => ∃ (d : D) (kvs : List (Str × D)), ds = [d] ∧ sqD M d = some (kvs.map fun kv => .tup [.str kv.1, kv.2]) ∧ (kvs.map (·.1)).Nodup ∧ ∀ p, M p = none → Q (.ref p) (mup M p (.dic (kvs.map fun kv => ((Sum.inr kv.1 : L2.Key), kv.2))))
end DL
namespace L2
open PySem PySem.Spec PyProof.Rows
end L2
namespace DL
open PySem PySem.Spec PyProof.Rows L2
section
variable {X : Cx} {W : WT} {e : Expr} {es : List Expr} {pos p : Pos}
def dFmt (te : DTE) : DTE := fun Γ M Q E => te Γ M (fun d M1 => (∃ y : Str, d = .str y ∧ y.length ≤ sizeLine ∧ Q (.str y) M1) ∨ ∃ i : Int, d = .int i ∧ i.natAbs.log2 < 1920 ∧ Q (.str (toString i)) M1) E
def dJs : List DTE → Str → DG → Mp → DQ → DXE → Prop
  | [], acc, _, M, Q, _ => Q (.str acc) M
  | t :: ts, acc, Γ, M, Q, E => t Γ M (fun d M1 => ∃ y : Str, d = .str y ∧ (acc ++ y).length ≤ sizeLine ∧ dJs ts (acc ++ y) Γ M1 Q E) E
def dJoined (ts : List DTE) : DTE := fun Γ M Q E => dJs ts Str.empty Γ M Q E
end
end DL
namespace PySem
namespace LkX
open Builtin Builtin.ObjectAttr
def low : List Value := [.type "LookupError", .type "Exception", .type "BaseException", .type "object"]
/-- classes of the text, then LookupError's line -/
def isLow : List Value → Bool
  | .ref _ :: more => isLow more
  | ends => ends == low
theorem isLow_two {y : Value} {more : List Value} (h : isLow (y :: more) = true) : (∃ c, y = .ref c ∧ isLow more = true) ∨ y :: more = low := by
  cases y with
  | ref c => exact .inl ⟨c, rfl, h⟩
  | _ => exact .inr (beq_iff_eq.mp h)
/-- what is asked of the line of bases -/
structure LowX (ms : List Value) : Prop where
  pass : ∀ self : Value, refuseLoop self "__setattr__" ms = pure ()
  has : ∀ X : String, ms.contains (.type X) = low.contains (.type X)
  some : ms.isEmpty = false
theorem lowX : ∀ {ms : List Value}, isLow ms = true → LowX ms
  | [], h => by cases h
  | y :: more, h => by
    rcases isLow_two h with ⟨c, rfl, h2⟩ | h2
    · have ih := lowX h2
      exact ⟨fun self => (by rw [refuseLoop_ref]; exact ih.pass self), fun X => (List.contains_cons).trans (by rw [ih.has X]; rfl), rfl⟩
    · rw [h2]
      exact ⟨fun self => PySem.F.store_LookupError.passes self, fun _ => rfl, rfl⟩
end LkX
end PySem
namespace L2
open PySem PySem.Spec PyProof.Rows
/-- what the written part says of a class beneath LookupError -/
structure OexL (K : PySem.W.Frag) (C : Addr) : Prop where
  cls : ∃ nm q N bs bm sn sub ab col dd k0 k1 k2 k3 k5, K.lookup C = some (excClassObj nm q C N bs bm true sn sub ab col dd k0 k1 k2 k3 k5 "LookupError.__new__") ∧ LkX.isLow bm = true
  sa : PySem.W.findIn K (.ref C) "__setattr__" = some (some (.builtin "object.__setattr__"))
  exC : PySem.W.subIn K (.ref C) (.type "BaseException") = some true
  tyC : PySem.W.typeIn K (.ref C) = some (.type "type")
  kC : PySem.W.keepIn K (.ref C) = true
theorem OexL.data {K : PySem.W.Frag} {C : Addr} (T : OexL K C) : ∃ cd : ClassData, PySem.W.clsIn K C = some cd ∧ LkX.LowX cd.mro ∧ cd.hasDict = true := by
  obtain ⟨nm, q, N, bs, bm, sn, sub, ab, col, dd, k0, k1, k2, k3, k5, hC, hbm⟩ := T.cls
  refine ⟨_, (by unfold PySem.W.clsIn; rw [hC]), LkX.lowX (ms := .ref C :: bm) hbm, rfl⟩
end L2
namespace DL
open PySem L2
end DL
namespace L2
open PySem PySem.Spec PyProof.Rows
/-- what the values of a dict are as data -/
inductive DpK (K : PySem.W.Frag) (H : Hp) : List (Key × V) → List (Key × PyData) → Prop
  | nil : DpK K H [] []
  | cons {k : Key} {v : V} {d : PyData} {vs : List (Key × V)} {ds : List (Key × PyData)} : Dp K H v d → SeqAt.shaped d = true → DpK K H vs ds → DpK K H ((k, v) :: vs) ((k, d) :: ds)
def valP (ds : List (Key × PyData)) (k : Key) : Option PyData := (ds.find? fun kv => decide (kv.1 = k)).map (·.2)
section
variable {K : PySem.W.Frag} {H : Hp}
theorem DpK.len {vs : List (Key × V)} {ds : List (Key × PyData)} (h : DpK K H vs ds) : vs.length = ds.length := by
  induction h with
  | nil => rfl
  | cons _ _ _ ih => simp [ih]
theorem DpK.val {vs : List (Key × V)} {ds : List (Key × PyData)} (h : DpK K H vs ds) (k : Key) : (valV vs k = none ∧ valP ds k = none) ∨ ∃ v d, valV vs k = some v ∧ valP ds k = some d ∧ Dp K H v d ∧ SeqAt.shaped d = true := by
  induction h with
  | nil => exact .inl ⟨rfl, rfl⟩
  | @cons k1 v d vs ds h1 h2 _ ih =>
    unfold valV valP at ih ⊢
    rw [List.find?_cons, List.find?_cons]
    by_cases e : k1 = k
    · rw [decide_eq_true e]
      exact .inr ⟨v, d, rfl, rfl, h1, h2⟩
    · rw [decide_eq_false e]
      exact ih
end
end L2
namespace DL
open PySem L2
section
variable {X : Cx} {W : WT} {e a b o i tg : Expr} {pos pos' tpos : Pos}
def dDinP (neg : Bool) (ty td : DTE) : DTE := fun Γ M Q E => ty Γ M (fun x M1 => td Γ M1 (fun y M2 => ∃ kvs a b, dtD M2 y = some kvs ∧ x = .tup [.int a, .int b] ∧ Q (.bl (if neg = true then !(valG kvs (ikey [a, b])).isSome else (valG kvs (ikey [a, b])).isSome)) M2) E) E
def dDgetP (td ty : DTE) : DTE := fun Γ M Q E => td Γ M (fun x M1 => ty Γ M1 (fun y M2 => ∃ kvs a b d, dtD M2 x = some kvs ∧ y = .tup [.int a, .int b] ∧ valG kvs (ikey [a, b]) = some d ∧ Q d M2) E) E
def dDputP (td ty tv : DTE) : DTS := fun Dn Γ M => tv Γ M (fun v M1 => td Γ M1 (fun x M2 => ty Γ M2 (fun y M3 => ∃ p kvs a b, x = .ref p ∧ y = .tup [.int a, .int b] ∧ M3 p = some (.dit kvs) ∧ kvs.length < sizeLine ∧ Dn.nx Γ (mup M3 p (.dit (putG kvs (ikey [a, b]) v)))) Dn.ex) Dn.ex) Dn.ex
end
end DL
namespace DL
open PySem L2
end DL
namespace DL
open PySem L2
end DL
namespace DL
open PySem L2
end DL
namespace DL
open PySem PySem.Spec PyProof.Rows L2
end DL
namespace L2
open PySem PySem.Spec PyProof.Rows
end L2
namespace DL
open PySem L2
end DL
namespace DL
open PySem L2
section
variable {X : Cx} {W : WT}
def dJoin (tx te : DTE) : DTE := fun Γ M Q E => tx Γ M (fun d M1 => (∃ a, d = .str a) ∧ te Γ M1 (fun y M2 => ∃ (a : Str) (ys : List Str), d = .str a ∧ sqD M2 y = some (ys.map D.str) ∧ (ys.map (·.length)).sum + ys.length * a.length ≤ 16777216 ∧ Q (.str (Txt.join a ys)) M2) E) E
def dSplit (tx te : DTE) : DTE := fun Γ M Q E => tx Γ M (fun d M1 => (∃ a, d = .str a) ∧ te Γ M1 (fun y M2 => ∃ (a b : Str), d = .str a ∧ y = .str b ∧ (b.length == 0) = false ∧ a.length + 2 ≤ sizeLine ∧ ∀ p, M2 p = none → Q (.ref p) (mup M2 p (.lst ((Txt.split a b).map D.str)))) E) E
end
end DL
namespace DL
open PySem PySem.Spec PyProof.Rows L2
theorem nodup_cover {α : Type} [DecidableEq α] : ∀ {a b : List α}, a.Nodup → (∀ x ∈ a, x ∈ b) → b.length ≤ a.length → b.Nodup
  | [], b, _, _, h => by
    cases b with
    | nil => exact List.Pairwise.nil
    | cons _ _ => simp at h
  | x :: a, b, nd, hs, hl => by
    obtain ⟨n1, n2⟩ := List.nodup_cons.mp nd
    have hx := hs x List.mem_cons_self
    have le := List.length_erase_of_mem hx
    have sub : ∀ y ∈ a, y ∈ b.erase x := fun y hy => (List.mem_erase_of_ne fun e => n1 (by rw [← e]; exact hy)).mpr (hs y (List.mem_cons_of_mem _ hy))
    rw [List.length_cons] at hl
    have ih := nodup_cover n2 sub (by omega)
    have nx : x ∉ b.erase x := fun z => by
      have := nodup_le (a := x :: a) (b := b.erase x) nd fun y hy => by
        rcases List.mem_cons.mp hy with e | hy2
        · rw [e]; exact z
        · exact sub y hy2
      rw [List.length_cons] at this
      have := List.length_pos_of_mem hx
      omega
    exact ((List.perm_cons_erase hx).nodup_iff).mpr (List.nodup_cons.mpr ⟨nx, ih⟩)
section
variable {X : Cx}
def tLenSetA (K : PySem.W.Frag) (ta : TE) : TE := fun σ H Q => ta σ H fun x H1 => ∃ (l : Addr) (ks : List (Addr × List Int)), x = V.ref l ∧ SqL K H1 l (ks.map fun p => V.ref p.1) ∧ (∀ p ∈ ks, SqT K H1 p.1 (p.2.map V.int)) ∧ ks.length < 64 ∧ ∀ n : Nat, n ≤ ks.length → ((ks.map (·.2)).Nodup ↔ n = ks.length) → Q (.int n) H1
theorem pe_lenSetA {a : Expr} {ta : TE} {p p2 q pos : Pos} (hc : X.calm = true) (hu : X.A.units + 64 < cLine) (hg : Gl X "len") (hm : X.mg "len" = none) (hg2 : Gl X "set") (hm2 : X.mg "set" = none) (ha : PE X a ta)
    (na : starEach [a] X.env = (false, eval a X.env) :: starEach [] X.env := by rfl) : PE X (.Call (.Name "len" p) [.Call (.Name "set" p2) [a] [] q] [] pos) (tLenSetA X.K ta) := by
  refine ⟨fun pins s σ H Q I h => ?_⟩
  refine Call_ (ld_blt I hg hm PySem.boot_len ?_)
  refine PyProof.Rows.callWith_builtin1 (PyProof.Rows.args_cons ?_ rfl) rfl rfl
  refine Call_ (ld_blt I hg2 hm2 PyProof.Rows.boot_set ?_)
  refine PyProof.Rows.callWith_type1 (PyProof.Rows.args_cons (thn (ha.run pins s σ H _ I h) fun v s1 ⟨x, H1, I1, r1, q1⟩ => PyProof.Rows.args_nil ?_) na) na rfl
  obtain ⟨l, ks, rfl, hq, hk, h1, q1⟩ := q1
  cases r1
  obtain ⟨its, r, pl, hz⟩ := I1.list hq
  refine call_set_tups (P := X.prog) (w := X.w) ks (I1.ok.hd hc) pl.isList (by simpa using refs_of_vals r) (fun p hp => I1.isT (hk p hp)) h1 (by omega) fun h' tk L es ep t R g k => ?_
  refine PyProof.Rows.args_nil ?_
  obtain ⟨o, ho, hex, hd⟩ := R.ob
  have hes : es.size = L.length := by
    have e := congrArg List.length R.rows
    rw [Array.length_toList] at e
    rw [e]
    simp [rowsOf]
  have sub : ∀ x ∈ L.map (·.2), x ∈ ks.map (·.2) := fun x hx => by
    obtain ⟨p, hp, rfl⟩ := List.mem_map.mp hx
    exact List.mem_map_of_mem (List.mem_of_mem_take (g.sub p hp))
  have hL1 : L.length ≤ ks.length := by
    have := nodup_le R.nd sub
    simpa using this
  have hiff : (ks.map (·.2)).Nodup ↔ L.length = ks.length := by
    constructor
    · intro hnd
      have := nodup_le hnd (b := L.map (·.2)) fun x hx => by
        obtain ⟨p, hp, rfl⟩ := List.mem_map.mp hx
        exact g.all p (by rw [List.take_length]; exact hp)
      have : ks.length ≤ L.length := by simpa using this
      omega
    · intro e
      exact nodup_cover R.nd sub (by rw [List.length_map, List.length_map, e]; exact Nat.le_refl _)
  have I2 : Inv X pins σ H1 { s1 with heap := h', toks := tk } := I1.kept fun b o e => k b o e
  exact call_len_set ho hex hd (SetTR.fits (s := { s1 with heap := h', toks := tk }) R) (by rw [hes]; omega) ⟨.int L.length, H1, I2.tok _, ⟨_, by rw [hes]⟩, q1 L.length hL1 hiff⟩
end
section
variable {X : Cx} {W : WT}
def dLenSetA (t : DTE) : DTE := fun Γ M Q E => t Γ M (fun d M1 => ∃ ms : List (Int × Int × Int), sqD M1 d = some (ms.map mkD) ∧ ms.length < 64 ∧ ∀ n : Nat, n ≤ ms.length → (ms.Nodup ↔ n = ms.length) → Q (.int (n : Nat)) M1) E
theorem de_lenSetA {a : Expr} {p p2 q pos : Pos} {te : DTE} (hc : X.calm = true) (hu : X.A.units + 64 < cLine) (hg : Gl X "len") (hm : X.mg "len" = none) (hg2 : Gl X "set") (hm2 : X.mg "set" = none) (ha : DE X W a te)
    (na : starEach [a] X.env = (false, eval a X.env) :: starEach [] X.env := by rfl) : DE X W (.Call (.Name "len" p) [.Call (.Name "set" p2) [a] [] q] [] pos) (dLenSetA te) :=
  ⟨peW (pe_lenSetA hc hu hg hm hg2 hm2 ha.pe na) fun σ H Q ⟨Γ, M, F, E, Qd, at1, q, k⟩ => ⟨Γ, M, F, E, _, at1, q, fun F1 H1 v d M1 s1 c1 r1 ⟨ms, hd, hl, q1⟩ => by
    obtain ⟨ad, vs, rfl, hq, rv⟩ := sq_of c1 r1 hd
    have em : ms.map mkD = (ms.map fun s => [s.1, s.2.1, s.2.2]).map tupI := by rw [List.map_map]; rfl
    rw [em] at rv
    obtain ⟨L, rfl, eL, hL⟩ := tups_of c1 rv
    have lenL : L.length = ms.length := by have := congrArg List.length eL; simpa using this.symm
    have inj : ∀ a b : Int × Int × Int, [a.1, a.2.1, a.2.2] = [b.1, b.2.1, b.2.2] → a = b := fun a b e => by
      simp only [List.cons.injEq, and_true] at e
      exact Prod.ext e.1 (Prod.ext e.2.1 e.2.2)
    have hnd : (L.map (·.2)).Nodup ↔ ms.Nodup := by
      rw [← eL]
      refine ⟨fun h => ?_, fun h => (List.pairwise_map).mpr (h.imp fun {a b} g e => g (inj a b e))⟩
      exact ((List.pairwise_map).mp h).imp fun {a b} g e => g (by rw [e])
    refine ⟨ad, L, rfl, hq, fun p hp => (hL p hp).1, by omega, fun n hn hi => ?_⟩
    exact k F1 H1 _ _ M1 s1 c1 (.int _) (q1 n (by omega) (by rw [← hnd, hi, lenL]))⟩⟩
end
end DL
section
open PySem PySem.W PyProof.Rows
def LW.view : Program := DL.viewP PySem.Challenge.pw_joinlarder_k09_chains_of_marks [37]
def LW.loose : List PySem.Str := DL.strL ["LarderError", "BadMark", "Crossing", "CELLS", "is_stretch", "look_mark", "are_bound", "go_across", "is_under", "look_marks", "Matching", "chained", "chains", "_law_bag", "_law_take", "_law_of", "_law_turned", "_law_same", "_law_asks", "_law_rising", "_law_marks", "_law_least_ask", "_law_essential", "_law_bound", "_law_left", "_law_cross", "_law_under", "_law_taken", "_law_pairs_of", "_law_others_right", "_law_refused", "_law_first_cross"]
set_option hygiene false in
local macro_rules | `(tactic| o_head $H) => `(tactic| (exact h; first | exact DL.HP.ofK $H rfl | exact DL.HP.ofM $H rfl))
set_option maxRecDepth 100000 in
set_option maxHeartbeats 0 in
noncomputable def LW.HD : PProd DL.HP (PySem.Challenge.rw_joinlarder_k09_chains_of_marks.row.Holds → PySem.Challenge.rw_joinlarder_k09_chains_of_marks.row.Holds) := by
  refine ⟨?HH, fun h => ?PP⟩
  rotate_left
  w_on; k_head
set_option maxRecDepth 100000 in
set_option maxHeartbeats 0 in
theorem LW.hf : ∀ w : World, DL.RunAt PySem.Challenge.rw_joinlarder_k09_chains_of_marks.row LW.view LW.HD.1 40000 LW.loose (w.withFollow "special-get-raises" false) := by
  intro w os
  kernel_rfl
set_option maxRecDepth 100000 in
set_option maxHeartbeats 0 in
theorem LW.ht : ∀ w : World, DL.RunAt PySem.Challenge.rw_joinlarder_k09_chains_of_marks.row LW.view LW.HD.1 40000 LW.loose (w.withFollow "special-get-raises" true) := by
  intro w os
  kernel_rfl
end
namespace LW
open PySem L2 DL
abbrev Sp2 := Int × Int
abbrev Mk := Int × Int × Int
def okS (s : Sp2) : Prop := 0 ≤ s.1 ∧ s.1 < s.2 ∧ s.2 ≤ 400
def okM (m : Mk) : Prop := 0 ≤ m.2.1 ∧ m.2.1 < m.2.2 ∧ m.2.2 ≤ 400 ∧ m.2.1 ≤ m.1 ∧ m.1 < m.2.2
instance (s : Sp2) : Decidable (okS s) := by unfold okS; infer_instance
instance (m : Mk) : Decidable (okM m) := by unfold okM; infer_instance
/-- bound: one stretch may serve both -/
def bnd (a b : Mk) : Prop := a.2.1 ≤ a.1 ∧ a.2.1 ≤ b.1 ∧ b.2.1 ≤ a.1 ∧ b.2.1 ≤ b.1 ∧ a.1 < a.2.2 ∧ b.1 < a.2.2 ∧ a.1 < b.2.2 ∧ b.1 < b.2.2
def und (a b : Mk) : Prop := a.1 ≤ b.1 ∧ b.2.1 ≤ a.2.1 ∧ b.2.2 ≤ a.2.2
def acr (a b : Mk) : Prop := a.1 < b.1 ∧ a.2.1 < b.2.1 ∧ a.2.2 < b.2.2 ∧ bnd a b
instance (a b : Mk) : Decidable (bnd a b) := by unfold bnd; infer_instance
instance (a b : Mk) : Decidable (und a b) := by unfold und; infer_instance
instance (a b : Mk) : Decidable (acr a b) := by unfold acr; infer_instance
theorem bEq {P Q : Prop} [Decidable P] [Decidable Q] (h : P ↔ Q) : D.bl (decide P) = D.bl (decide Q) := by simp [h]
section
variable {K : KTb} {Q : DQ} {M : Mp} {p q : Prop} [Decidable p] [Decidable q]
theorem finB (h : Q (.bl (decide p)) M) (e : p ↔ q) : Fin K Q (.bl (decide q)) M := Fin.same (by rw [← bEq e]; exact h)
theorem finT (h : Q (.bl (decide p)) M) (e : p) : Fin K Q (.bl true) M := Fin.same (by rw [decide_eq_true e] at h; exact h)
theorem finF (h : Q (.bl (decide p)) M) (e : ¬ p) : Fin K Q (.bl false) M := Fin.same (by rw [decide_eq_false e] at h; exact h)
end
/-- the bag of what is drawn -/
def BagOk (ds : List D) : Prop := ∃ (ns : List Int) (i r s : Int), ds = [.lst (ns.map D.int), .int i, .int r, .int s] ∧ ns.length ≤ 63 ∧ 0 ≤ i ∧ 0 ≤ r ∧ 0 ≤ s ∧ s < 2147483629
abbrev bagC : Cell := .opq BagOk
theorem rise {L bs : List Sp2} {i : Nat} {x : Sp2} (hx : L[i]? = some x) (pw : L.Pairwise (fun x y => ¬ spLt y x)) (hm : ∀ y, y ∈ bs ↔ y ∈ L.take i) (hp : bs.Pairwise spLt) (hn : bs.getLast? ≠ some x) (hl : bs.getLast? = (L.take i).getLast?) : (bs ++ [x]).Pairwise spLt := by
  have hi := (List.getElem?_eq_some_iff.mp hx)
  obtain ⟨hi, ex⟩ := hi
  refine List.pairwise_append.mpr ⟨hp, List.pairwise_singleton _ _, fun y hy z hz => ?_⟩
  obtain rfl : z = x := by simpa using hz
  -- y is in the part ahead of x
  have hy2 := (hm y).mp hy
  obtain ⟨j, hj, ej⟩ := List.getElem_of_mem hy2
  rw [List.length_take] at hj
  have ej' : L[j] = y := by rw [← ej, List.getElem_take]
  have n1 : ¬ spLt z y := by
    have := List.pairwise_iff_getElem.mp pw j i (by omega) hi (by omega)
    rw [ej', ex] at this
    exact this
  -- y is not x: the last one is the greatest
  by_cases e : y = z
  · exfalso
    subst e
    have hne : bs ≠ [] := by intro z; subst z; cases hy
    have hlast := List.getLast?_eq_some_getLast hne
    have hm2 : bs.getLast hne ∈ L.take i := (hm _).mp (List.getLast_mem hne)
    obtain ⟨j2, hj2, ej2⟩ := List.getElem_of_mem hm2
    rw [List.length_take] at hj2
    have ej2' : L[j2] = bs.getLast hne := by rw [← ej2, List.getElem_take]
    have n2 : ¬ spLt y (bs.getLast hne) := by
      have := List.pairwise_iff_getElem.mp pw j2 i (by omega) hi (by omega)
      rw [ej2', ex] at this
      exact this
    have n3 : y = bs.getLast hne ∨ spLt y (bs.getLast hne) := by
      rw [← List.dropLast_concat_getLast hne] at hy hp
      rcases List.mem_append.mp hy with hy | hy
      · exact .inr ((List.pairwise_append.mp hp).2.2 y hy _ (by simp))
      · exact .inl (by simpa using hy)
    rcases n3 with n3 | n3
    · exact hn (by rw [hlast, ← n3])
    · exact n2 n3
  · unfold spLt at n1 ⊢
    have : y.1 ≠ z.1 ∨ y.2 ≠ z.2 := by
      by_cases c : y.1 = z.1
      · exact .inr fun c2 => e (Prod.ext c c2)
      · exact .inl c
    omega
/-- the marks of asks -/
def marksOf1 (s : Sp2) : List Mk := (List.range (s.2 - s.1).toNat).map fun k => (s.1 + (k : Nat), s.1, s.2)
def marksOf (bs : List Sp2) : List Mk := bs.flatMap marksOf1
theorem mem_marksOf1 {s : Sp2} {m : Mk} : m ∈ marksOf1 s ↔ (m.2.1 = s.1 ∧ m.2.2 = s.2 ∧ s.1 ≤ m.1 ∧ m.1 < s.2) := by
  unfold marksOf1
  rw [List.mem_map]
  constructor
  · rintro ⟨k, hk, rfl⟩
    rw [List.mem_range] at hk
    exact ⟨rfl, rfl, by show s.1 ≤ s.1 + (k : Int); omega, by show s.1 + (k : Int) < s.2; omega⟩
  · rintro ⟨h1, h2, h3, h4⟩
    refine ⟨(m.1 - s.1).toNat, by rw [List.mem_range]; omega, ?_⟩
    obtain ⟨a, b, c⟩ := m
    simp only at h1 h2 h3 h4
    subst h1
    subst h2
    simp
    omega
theorem mem_marksOf {bs : List Sp2} {m : Mk} : m ∈ marksOf bs ↔ (m.2.1, m.2.2) ∈ bs ∧ m.2.1 ≤ m.1 ∧ m.1 < m.2.2 := by
  unfold marksOf
  rw [List.mem_flatMap]
  constructor
  · rintro ⟨s, hs, h⟩
    obtain ⟨h1, h2, h3, h4⟩ := mem_marksOf1.mp h
    obtain ⟨a, b⟩ := s
    simp only at h1 h2 h3 h4
    subst h1
    subst h2
    exact ⟨hs, h3, h4⟩
  · rintro ⟨h1, h2, h3⟩
    exact ⟨_, h1, mem_marksOf1.mpr ⟨rfl, rfl, h2, h3⟩⟩
theorem len_marksOf {n : Nat} : ∀ {bs : List Sp2}, (∀ s ∈ bs, s.2 - s.1 ≤ n) → (marksOf bs).length ≤ bs.length * n
  | [], _ => by simp [marksOf]
  | s :: bs, h => by
    have ih := len_marksOf (bs := bs) fun t ht => h t (List.mem_cons_of_mem _ ht)
    have h1 := h s List.mem_cons_self
    have e : marksOf (s :: bs) = marksOf1 s ++ marksOf bs := by simp [marksOf]
    have e1 : (marksOf1 s).length = (s.2 - s.1).toNat := by simp [marksOf1]
    rw [e, List.length_append, e1, List.length_cons, Nat.succ_mul]
    omega
/-- the pairs of places below n -/
def pairs1 (n i : Nat) : List Sp2 := (List.range (n - (i + 1))).map fun k => ((i : Nat), (i : Int) + 1 + (k : Nat))
def pairsTo (n j : Nat) : List Sp2 := (List.range j).flatMap (pairs1 n)
theorem mem_pairs1 {n i : Nat} {p : Sp2} : p ∈ pairs1 n i ↔ p.1 = i ∧ (i : Int) < p.2 ∧ p.2 < n := by
  unfold pairs1
  rw [List.mem_map]
  constructor
  · rintro ⟨k, hk, rfl⟩
    rw [List.mem_range] at hk
    refine ⟨rfl, ?_, ?_⟩ <;> simp only <;> omega
  · rintro ⟨h1, h2, h3⟩
    refine ⟨(p.2 - i - 1).toNat, by rw [List.mem_range]; omega, ?_⟩
    obtain ⟨a, b⟩ := p
    simp only at h1 h2 h3
    subst h1
    simp
    omega
theorem mem_pairsTo {n j : Nat} {p : Sp2} (h : p ∈ pairsTo n j) : 0 ≤ p.1 ∧ p.1 < p.2 ∧ p.2 < n := by
  unfold pairsTo at h
  rw [List.mem_flatMap] at h
  obtain ⟨i, _, h⟩ := h
  obtain ⟨h1, h2, h3⟩ := mem_pairs1.mp h
  omega
theorem pairsTo_succ (n j : Nat) : pairsTo n (j + 1) = pairsTo n j ++ pairs1 n j := by
  unfold pairsTo
  rw [List.range_succ, List.flatMap_append]
  simp
theorem len_pairsTo (n j : Nat) : (pairsTo n j).length ≤ n * j := by
  induction j with
  | zero => simp [pairsTo]
  | succ j ih =>
    rw [pairsTo_succ, List.length_append, Nat.mul_succ]
    have : (pairs1 n j).length ≤ n := by simp [pairs1]
    omega
def holds (x : Int) (s : Sp2) : Bool := decide (s.1 ≤ x) && decide (x < s.2)
def within (o a : Sp2) : Prop := a.1 ≤ o.1 ∧ o.2 ≤ a.2
instance (o a : Sp2) : Decidable (within o a) := by unfold within; infer_instance
def nar (o a : Sp2) : Bool := !decide (o = a) && decide (within o a)
def leastAt (x : Int) (as : List Sp2) : List Sp2 := (as.filter (holds x)).filter fun a => !((as.filter (holds x)).any fun o => nar o a)
theorem fm_ite {α β : Type} {f : α → β} {p : α → Bool} (xs : List α) : xs.filterMap (fun x => if p x = true then some (f x) else none) = (xs.filter p).map f := by
  induction xs with
  | nil => rfl
  | cons x xs ih =>
    by_cases h : p x = true
    · simp [h, ih]
    · simp [h, ih]
theorem mem_leastAt {x : Int} {as : List Sp2} {a : Sp2} : a ∈ leastAt x as ↔ a ∈ as ∧ a.1 ≤ x ∧ x < a.2 ∧ ∀ o ∈ as, o.1 ≤ x → x < o.2 → o ≠ a → ¬ within o a := by
  unfold leastAt nar holds
  simp only [List.mem_filter, Bool.and_eq_true, decide_eq_true_eq, Bool.not_eq_true', List.any_eq_false, Bool.not_eq_false']
  constructor
  · rintro ⟨⟨h1, h2, h3⟩, h4⟩
    refine ⟨h1, h2, h3, fun o ho q1 q2 q3 q4 => ?_⟩
    exact h4 o ⟨ho, q1, q2⟩ ⟨by simpa using q3, q4⟩
  · rintro ⟨h1, h2, h3, h4⟩
    refine ⟨⟨h1, h2, h3⟩, fun o ⟨ho, q1, q2⟩ ⟨q3, q4⟩ => h4 o ho q1 q2 (by simpa using q3) q4⟩
/-- m is a mark of as, no other ask within its own holds its cell -/
def isEss (as : List Sp2) (m : Mk) : Prop := (m.2.1, m.2.2) ∈ leastAt m.1 as
/-- the essential marks of as, in order -/
def EssP (as : List Sp2) (ms : List Mk) : Prop := ms.Pairwise mkLt ∧ ∀ m, m ∈ ms ↔ isEss as m
def crossAny (f : List Mk) (m : Mk) : Bool := f.any fun o => decide (acr o m ∨ acr m o)
def takenOf (ms : List Mk) : List Mk := ms.foldl (fun f m => if crossAny f m = true then f else f ++ [m]) []
theorem takenOf_snoc (ms : List Mk) (m : Mk) : takenOf (ms ++ [m]) = if crossAny (takenOf ms) m = true then takenOf ms else takenOf ms ++ [m] := by
  unfold takenOf
  rw [List.foldl_append]
  rfl
theorem snoc_ind {P : List Mk → Prop} (h0 : P []) (h1 : ∀ ms m, P ms → P (ms ++ [m])) (ms : List Mk) : P ms := by
  rw [← List.reverse_reverse ms]
  induction ms.reverse with
  | nil => exact h0
  | cons x t ih => rw [List.reverse_cons]; exact h1 _ _ ih
theorem takenOf_len (ms : List Mk) : (takenOf ms).length ≤ ms.length := by
  refine snoc_ind (P := fun ms => (takenOf ms).length ≤ ms.length) (Nat.le_refl _) (fun ms m ih => ?_) ms
  rw [takenOf_snoc, List.length_append]
  split
  · omega
  · rw [List.length_append]; simp; omega
theorem takenOf_sub (ms : List Mk) : (takenOf ms).Sublist ms := by
  refine snoc_ind (P := fun ms => (takenOf ms).Sublist ms) (List.Sublist.refl _) (fun ms m ih => ?_) ms
  rw [takenOf_snoc]
  split
  · exact ih.trans (List.sublist_append_left _ _)
  · exact List.Sublist.append ih (List.Sublist.refl _)
theorem takenOf_apart (ms : List Mk) : (takenOf ms).Pairwise fun a b => ¬ acr a b ∧ ¬ acr b a := by
  refine snoc_ind (P := fun ms => (takenOf ms).Pairwise fun a b => ¬ acr a b ∧ ¬ acr b a) List.Pairwise.nil (fun ms m ih => ?_) ms
  rw [takenOf_snoc]
  split
  · exact ih
  · rename_i h
    refine List.pairwise_append.mpr ⟨ih, List.pairwise_singleton _ _, fun a ha b hb => ?_⟩
    obtain rfl : b = m := by simpa using hb
    have : crossAny (takenOf ms) b = false := by simpa using h
    unfold crossAny at this
    rw [List.any_eq_false] at this
    have := this a ha
    simp only [decide_eq_true_eq, not_or] at this
    exact this
theorem ess_ok {as : List Sp2} {m : Mk} (hok : ∀ s ∈ as, okS s) (h : isEss as m) : okM m := by
  obtain ⟨h1, h2, h3, _⟩ := mem_leastAt.mp h
  have h4 := hok _ h1
  exact ⟨h4.1, h4.2.1, h4.2.2, h2, h3⟩
/-- essential marks that do not cross: bound just where one is under the other -/
theorem bound_under {as : List Sp2} {a c : Mk} (ha : isEss as a) (hc : isEss as c) (h1 : ¬ acr a c) (h2 : ¬ acr c a) (hb : bnd a c) : und a c ∨ und c a := by
  obtain ⟨a1, a2, a3, a4⟩ := mem_leastAt.mp ha
  obtain ⟨c1, c2, c3, c4⟩ := mem_leastAt.mp hc
  have hb' : bnd c a := by unfold bnd at hb ⊢; omega
  have n1 : ¬ (a.1 < c.1 ∧ a.2.1 < c.2.1 ∧ a.2.2 < c.2.2) := fun z => h1 ⟨z.1, z.2.1, z.2.2, hb⟩
  have n2 : ¬ (c.1 < a.1 ∧ c.2.1 < a.2.1 ∧ c.2.2 < a.2.2) := fun z => h2 ⟨z.1, z.2.1, z.2.2, hb'⟩
  unfold bnd at hb
  unfold und
  by_cases e : (c.2.1, c.2.2) = (a.2.1, a.2.2)
  · simp only [Prod.mk.injEq] at e
    omega
  · have m1 := a4 _ c1 (by show c.2.1 ≤ a.1; omega) (by show a.1 < c.2.2; omega) e
    have m2 := c4 _ a1 (by show a.2.1 ≤ c.1; omega) (by show c.1 < a.2.2; omega) (fun z => e z.symm)
    unfold within at m1 m2
    simp only at m1 m2
    simp only [Prod.mk.injEq] at e
    omega
instance (as : List Sp2) (m : Mk) : Decidable (isEss as m) := by unfold isEss; infer_instance
theorem marksOf_nodup {bs : List Sp2} (h : bs.Pairwise spLt) : (marksOf bs).Nodup := by
  unfold marksOf List.Nodup
  rw [List.pairwise_flatMap]
  refine ⟨fun s _ => ?_, h.imp fun {a b} hab x hx y hy e => ?_⟩
  · unfold marksOf1
    rw [List.pairwise_map]
    exact List.pairwise_lt_range.imp fun {i j} hij e => by simp only [Prod.mk.injEq] at e; omega
  · subst e
    have h1 := mem_marksOf1.mp hx
    have h2 := mem_marksOf1.mp hy
    unfold spLt at hab
    omega
theorem essP_sorted {as bs : List Sp2} {L : List Mk} (hm : ∀ s, s ∈ bs ↔ s ∈ as) (hp : bs.Pairwise spLt) (pm : L.Perm ((marksOf bs).filter fun m => decide (isEss as m))) (pw : L.Pairwise fun x y => ¬ mkLt y x) : EssP as L := by
  have nd : L.Nodup := pm.nodup_iff.mpr ((marksOf_nodup hp).filter _)
  have step : ∀ a b : Mk, ¬ mkLt b a → a ≠ b → mkLt a b := fun a b h1 h2 => by
    unfold mkLt at h1 ⊢
    have : ¬ (a.1 = b.1 ∧ a.2.1 = b.2.1 ∧ a.2.2 = b.2.2) := fun z => h2 (Prod.ext z.1 (Prod.ext z.2.1 z.2.2))
    omega
  refine ⟨(pw.and nd).imp fun {a b} z => step a b z.1 z.2, fun m => ?_⟩
  · rw [pm.mem_iff, List.mem_filter, decide_eq_true_eq, mem_marksOf]
    refine ⟨fun z => z.2, fun z => ⟨?_, z⟩⟩
    obtain ⟨h1, h2, h3, _⟩ := mem_leastAt.mp z
    exact ⟨(hm _).mpr h1, h2, h3⟩
theorem mkLt_irr {a : Mk} : ¬ mkLt a a := by unfold mkLt; omega
theorem spLt_asym {a b : Sp2} (h : spLt a b) : ¬ spLt b a := by unfold spLt at h ⊢; omega
theorem pairs1_pw (n i : Nat) : (pairs1 n i).Pairwise spLt := by
  unfold pairs1
  rw [List.pairwise_map]
  exact List.pairwise_lt_range.imp fun {x y} h => .inr ⟨rfl, by show (i : Int) + 1 + (x : Int) < (i : Int) + 1 + (y : Int); omega⟩
theorem pairsTo_pw (n j : Nat) : (pairsTo n j).Pairwise spLt := by
  induction j with
  | zero => simp [pairsTo]
  | succ j ih =>
    rw [pairsTo_succ]
    refine List.pairwise_append.mpr ⟨ih, pairs1_pw n j, fun p hp q hq => .inl ?_⟩
    unfold pairsTo at hp
    rw [List.mem_flatMap] at hp
    obtain ⟨i, hi, hp⟩ := hp
    rw [List.mem_range] at hi
    have h1 := (mem_pairs1.mp hp).1
    have h2 := (mem_pairs1.mp hq).1
    omega
theorem pairsTo_mem {n : Nat} {i j : Nat} (h1 : i < j) (h2 : j < n) : ((i : Int), (j : Int)) ∈ pairsTo n n := by
  unfold pairsTo
  rw [List.mem_flatMap]
  exact ⟨i, List.mem_range.mpr (by omega), mem_pairs1.mpr ⟨rfl, by show (i : Int) < (j : Int); omega, by show (j : Int) < (n : Int); omega⟩⟩
theorem ahead {L : List Sp2} {k : Nat} {p q : Sp2} (hw : L.Pairwise spLt) (hk : L[k]? = some p) (hq : q ∈ L) (h : spLt q p) : q ∈ L.take k := by
  obtain ⟨m, hm, em⟩ := List.getElem_of_mem hq
  obtain ⟨hk1, ek⟩ := List.getElem?_eq_some_iff.mp hk
  by_cases hmk : m < k
  · exact List.mem_take_iff_getElem.mpr ⟨m, by omega, em⟩
  · exfalso
    by_cases e : m = k
    · subst e
      rw [em] at ek
      subst ek
      exact spLt_asym h h
    · have := List.pairwise_iff_getElem.mp hw k m hk1 hm (by omega)
      rw [ek, em] at this
      exact spLt_asym h this
/-- s serves m -/
def servs (s : Sp2) (m : Mk) : Prop := m.2.1 ≤ s.1 ∧ s.1 ≤ m.1 ∧ m.1 < s.2 ∧ s.2 ≤ m.2.2
instance (s : Sp2) (m : Mk) : Decidable (servs s m) := by unfold servs; infer_instance
def servedBy (ks : List Sp2) (m : Mk) : Bool := ks.any fun s => decide (servs s m)
theorem ixN_nat {n k : Nat} (h : k < n) : ixN n (k : Int) = some k := by
  simp [ixN]
  omega
end LW
namespace LW
theorem nodup_sub {α : Type} [DecidableEq α] : ∀ {a b : List α}, a.Nodup → (∀ x ∈ a, x ∈ b) → a.length ≤ b.length
  | [], _, _, _ => Nat.zero_le _
  | x :: a, b, h, s => by
    obtain ⟨h1, h2⟩ := List.nodup_cons.mp h
    have hx := s x List.mem_cons_self
    have := nodup_sub (a := a) (b := b.erase x) h2 fun y hy => (List.mem_erase_of_ne fun e => h1 (by rw [← e]; exact hy)).mpr (s y (List.mem_cons_of_mem _ hy))
    rw [List.length_erase_of_mem hx] at this
    have : 0 < b.length := List.length_pos_of_mem hx
    rw [List.length_cons]
    omega
theorem getD_set {α : Type} {d v : α} {l : List α} {i j : Nat} : (l.set i v).getD j d = if i = j ∧ i < l.length then v else l.getD j d := by
  simp only [List.getD_eq_getElem?_getD]
  by_cases e : i = j
  · subst e
    by_cases h : i < l.length
    · rw [List.getElem?_set_self h, if_pos ⟨rfl, h⟩]; rfl
    · rw [if_neg fun z => h z.2, List.getElem?_eq_none (by rw [List.length_set]; omega), List.getElem?_eq_none (by omega)]
  · rw [List.getElem?_set_ne e, if_neg fun z => e z.1]
theorem filter_split {α : Type} (p : α → Bool) : ∀ l : List α, (l.filter p).length + (l.filter fun x => !p x).length = l.length
  | [] => rfl
  | x :: l => by
    have := filter_split p l
    cases h : p x <;> simp [h] <;> omega
abbrev RS := List Nat × List (Nat × Nat)
/-- the lower one by which an upper one came -/
def whence (came : List (Nat × Nat)) (to : Nat) : Option Nat := (came.find? fun p => p.1 == to).map (·.2)
def isIn (came : List (Nat × Nat)) (to : Nat) : Bool := came.any fun p => p.1 == to
def rstep (below : List Int) (low : Nat) (s : RS) (to : Nat) : RS :=
  if isIn s.2 to = true then s else (if 0 ≤ below.getD to (-1) then s.1 ++ [(below.getD to (-1)).toNat] else s.1, s.2 ++ [(to, low)])
def rturn (ups : List (List Nat)) (below : List Int) (s : RS) (at_ : Nat) : RS := (ups.getD (s.1.getD at_ 0) []).foldl (rstep below (s.1.getD at_ 0)) s
def reachF (ups : List (List Nat)) (below : List Int) : Nat → Nat → RS → RS
  | 0, _, s => s
  | f + 1, a, s => if a < s.1.length then reachF ups below f (a + 1) (rturn ups below s a) else s
def reached (ups : List (List Nat)) (below : List Int) (begin_ : List Nat) : RS := reachF ups below (begin_.length + ups.length + 1) 0 (begin_, [])
theorem isIn_iff {came : List (Nat × Nat)} {to : Nat} : isIn came to = true ↔ to ∈ came.map (·.1) := by
  unfold isIn
  rw [List.any_eq_true, List.mem_map]
  constructor
  · rintro ⟨p, h1, h2⟩
    exact ⟨p, h1, by simpa using h2⟩
  · rintro ⟨p, h1, h2⟩
    exact ⟨p, h1, by simpa using h2⟩
/-- what holds all along the search: from the first turns `a` on all is done; n: all places are below -/
structure RI (ups : List (List Nat)) (below : List Int) (begin_ : List Nat) (s : RS) : Prop where
  nd : (s.2.map (·.1)).Nodup
  kb : ∀ p ∈ s.2, p.1 < ups.length ∧ p.2 ∈ s.1 ∧ p.1 ∈ ups.getD p.2 []
  lb : ∃ r, s.1 = begin_ ++ r ∧ r.length ≤ s.2.length ∧ ∀ l ∈ r, ∃ q ∈ s.2, below.getD q.1 (-1) = (l : Int)
  bl : ∀ p ∈ s.2, 0 ≤ below.getD p.1 (-1) → (below.getD p.1 (-1)).toNat ∈ s.1
  /-- a lower one by which one came is of the beginning, or matched by an earlier upper one -/
  wf : ∀ (i : Nat) (p : Nat × Nat), s.2[i]? = some p → p.2 ∈ begin_ ∨ ∃ j q, j < i ∧ s.2[j]? = some q ∧ below.getD q.1 (-1) = (p.2 : Int)
section
variable {ups : List (List Nat)} {below : List Int} {begin_ : List Nat}
theorem RI.low {s : RS} (h : RI ups below begin_ s) {l : Nat} (hl : l ∈ s.1) : l ∈ begin_ ∨ ∃ (j : Nat) (q : Nat × Nat), j < s.2.length ∧ s.2[j]? = some q ∧ below.getD q.1 (-1) = (l : Int) := by
  obtain ⟨r, e, _, h2⟩ := h.lb
  rw [e] at hl
  rcases List.mem_append.mp hl with hl | hl
  · exact .inl hl
  · obtain ⟨q, hq, e2⟩ := h2 l hl
    obtain ⟨j, hj⟩ := List.mem_iff_getElem?.mp hq
    exact .inr ⟨j, q, (List.getElem?_eq_some_iff.mp hj).1, hj, e2⟩
theorem RI.step {s : RS} {low to : Nat} (h : RI ups below begin_ s) (hl : low ∈ s.1) (ht : to < ups.length) (hu : to ∈ ups.getD low []) : RI ups below begin_ (rstep below low s to) := by
  unfold rstep
  split
  · exact h
  · rename_i hn
    have hn : to ∉ s.2.map (·.1) := fun z => hn (isIn_iff.mpr z)
    refine ⟨?_, ?_, ?_, ?_, ?_⟩
    · rw [List.map_append]
      refine List.nodup_append.mpr ⟨h.nd, by simp, ?_⟩
      intro a ha b hb e
      have : b = to := by simpa using hb
      subst e
      subst this
      exact hn ha
    · intro p hp
      have up : ∀ l ∈ s.1, l ∈ (if 0 ≤ below.getD to (-1) then s.1 ++ [(below.getD to (-1)).toNat] else s.1) := fun l hl => by split <;> simp [hl]
      rcases List.mem_append.mp hp with hp | hp
      · obtain ⟨a, b, c⟩ := h.kb p hp
        exact ⟨a, up _ b, c⟩
      · obtain rfl : p = (to, low) := by simpa using hp
        exact ⟨ht, up _ hl, hu⟩
    · obtain ⟨r, e, e2, e3⟩ := h.lb
      dsimp only
      split
      · rename_i h0
        refine ⟨r ++ [(below.getD to (-1)).toNat], by rw [e, List.append_assoc], by simp; exact e2, fun l hl => ?_⟩
        rcases List.mem_append.mp hl with hl | hl
        · obtain ⟨q, hq, z⟩ := e3 l hl
          exact ⟨q, List.mem_append_left _ hq, z⟩
        · obtain rfl : l = (below.getD to (-1)).toNat := by simpa using hl
          exact ⟨(to, low), by simp, by show below.getD to (-1) = _; omega⟩
      · exact ⟨r, e, by simp; omega, fun l hl => let ⟨q, hq, z⟩ := e3 l hl; ⟨q, List.mem_append_left _ hq, z⟩⟩
    · intro p hp h0
      dsimp only
      rcases List.mem_append.mp hp with hp | hp
      · have := h.bl p hp h0
        split
        · exact List.mem_append_left _ this
        · exact this
      · obtain rfl : p = (to, low) := by simpa using hp
        have h0 : 0 ≤ below.getD to (-1) := h0
        rw [if_pos h0]
        simp
    · intro i p hp
      have hp : (s.2 ++ [(to, low)])[i]? = some p := hp
      have lift : ∀ (l : Nat) (i : Nat), i ≤ s.2.length → (l ∈ begin_ ∨ ∃ (j : Nat) (q : Nat × Nat), j < i ∧ s.2[j]? = some q ∧ below.getD q.1 (-1) = (l : Int)) → (l ∈ begin_ ∨ ∃ (j : Nat) (q : Nat × Nat), j < i ∧ (s.2 ++ [(to, low)])[j]? = some q ∧ below.getD q.1 (-1) = (l : Int)) := fun l i hi z => z.imp id fun ⟨j, q, a, b, c⟩ => ⟨j, q, a, by rw [List.getElem?_append_left (by omega)]; exact b, c⟩
      by_cases hi : i < s.2.length
      · rw [List.getElem?_append_left hi] at hp
        exact lift _ i (by omega) (h.wf i p hp)
      · have hi2 : i = s.2.length := by
          have := (List.getElem?_eq_some_iff.mp hp).1
          simp at this
          omega
        subst hi2
        rw [List.getElem?_append_right (Nat.le_refl _)] at hp
        obtain rfl : (to, low) = p := by simpa using hp
        refine lift _ _ (Nat.le_refl _) ?_
        exact (h.low hl).imp id fun ⟨j, q, a, b, c⟩ => ⟨j, q, a, b, c⟩
/-- the search only grows -/
def grows (s t : RS) : Prop := (∃ r, t.1 = s.1 ++ r) ∧ ∃ r, t.2 = s.2 ++ r
theorem grows.refl (s : RS) : grows s s := ⟨⟨[], by simp⟩, [], by simp⟩
theorem grows.trans {s t u : RS} (h : grows s t) (g : grows t u) : grows s u := by
  obtain ⟨⟨a, ha⟩, b, hb⟩ := h
  obtain ⟨⟨c, hc⟩, d, hd⟩ := g
  exact ⟨⟨a ++ c, by rw [hc, ha, List.append_assoc]⟩, b ++ d, by rw [hd, hb, List.append_assoc]⟩
theorem grows.step (below : List Int) (low : Nat) (s : RS) (to : Nat) : grows s (rstep below low s to) := by
  unfold rstep
  split
  · exact grows.refl s
  · refine ⟨?_, _, rfl⟩
    dsimp only
    split
    · exact ⟨_, rfl⟩
    · exact ⟨[], by simp⟩
theorem grows.len {s t : RS} (h : grows s t) : s.1.length ≤ t.1.length := by
  obtain ⟨⟨r, e⟩, _⟩ := h
  rw [e]
  simp
theorem grows.get {s t : RS} (h : grows s t) {i : Nat} (hi : i < s.1.length) : t.1.getD i 0 = s.1.getD i 0 := by
  obtain ⟨⟨r, e⟩, _⟩ := h
  rw [e, List.getD_eq_getElem?_getD, List.getElem?_append_left hi, List.getD_eq_getElem?_getD]
theorem grows.key {s t : RS} (h : grows s t) {k : Nat} (hk : k ∈ s.2.map (·.1)) : k ∈ t.2.map (·.1) := by
  obtain ⟨_, r, e⟩ := h
  rw [e, List.map_append]
  exact List.mem_append_left _ hk
theorem step_key (below : List Int) (low : Nat) (s : RS) (to : Nat) : to ∈ (rstep below low s to).2.map (·.1) := by
  unfold rstep
  split
  · rename_i h
    exact isIn_iff.mp h
  · simp
theorem fold_ri {low : Nat} : ∀ (ts : List Nat) (s : RS), RI ups below begin_ s → low ∈ s.1 → (∀ t ∈ ts, t < ups.length ∧ t ∈ ups.getD low []) →
    RI ups below begin_ (ts.foldl (rstep below low) s) ∧ grows s (ts.foldl (rstep below low) s) ∧ ∀ t ∈ ts, t ∈ (ts.foldl (rstep below low) s).2.map (·.1)
  | [], s, h, _, _ => ⟨h, grows.refl s, fun t ht => (by cases ht)⟩
  | t :: ts, s, h, hl, ht => by
    have g := grows.step below low s t
    obtain ⟨a, b⟩ := ht t List.mem_cons_self
    have hl2 : low ∈ (rstep below low s t).1 := by
      obtain ⟨⟨r, e⟩, _⟩ := g
      rw [e]
      exact List.mem_append_left _ hl
    obtain ⟨h1, h2, h3⟩ := fold_ri ts _ (h.step hl a b) hl2 fun t ht' => ht t (List.mem_cons_of_mem _ ht')
    refine ⟨h1, g.trans h2, fun x hx => ?_⟩
    rcases List.mem_cons.mp hx with rfl | hx
    · exact h2.key (step_key below low s x)
    · exact h3 x hx
/-- the first a lower ones are gone through -/
def RDone (ups : List (List Nat)) (a : Nat) (s : RS) : Prop := ∀ i, i < a → ∀ t ∈ ups.getD (s.1.getD i 0) [], t ∈ s.2.map (·.1)
theorem turn_ri {s : RS} {a : Nat} (hu : ∀ l, ∀ t ∈ ups.getD l [], t < ups.length) (h : RI ups below begin_ s) (hd : RDone ups a s) (ha : a < s.1.length) : RI ups below begin_ (rturn ups below s a) ∧ grows s (rturn ups below s a) ∧ RDone ups (a + 1) (rturn ups below s a) := by
  have hm : s.1.getD a 0 ∈ s.1 := by
    rw [List.getD_eq_getElem?_getD, List.getElem?_eq_getElem ha]
    exact List.getElem_mem ha
  obtain ⟨h1, h2, h3⟩ := fold_ri (ups.getD (s.1.getD a 0) []) s h hm fun t ht => ⟨hu _ t ht, ht⟩
  refine ⟨h1, h2, fun i hi t ht => ?_⟩
  have e := h2.get (i := i) (by omega)
  unfold rturn at ht ⊢
  rw [e] at ht
  by_cases z : i = a
  · subst z
    exact h3 t ht
  · exact h2.key (hd i (by omega) t ht)
theorem RI.count {s : RS} (h : RI ups below begin_ s) : s.1.length ≤ begin_.length + ups.length := by
  obtain ⟨r, e, h2, _⟩ := h.lb
  have : (s.2.map (·.1)).length ≤ (List.range ups.length).length := nodup_sub h.nd fun x hx => by
    obtain ⟨p, hp, rfl⟩ := List.mem_map.mp hx
    exact List.mem_range.mpr (h.kb p hp).1
  rw [List.length_map, List.length_range] at this
  rw [e, List.length_append]
  omega
theorem reachF_ri (hu : ∀ l, ∀ t ∈ ups.getD l [], t < ups.length) : ∀ (f a : Nat) (s : RS), RI ups below begin_ s → RDone ups a s → begin_.length + ups.length < f + a → a ≤ s.1.length →
    RI ups below begin_ (reachF ups below f a s) ∧ grows s (reachF ups below f a s) ∧ RDone ups (reachF ups below f a s).1.length (reachF ups below f a s)
  | 0, a, s, h, hd, hf, ha => by
    have := h.count
    exact ⟨h, grows.refl s, by omega⟩
  | f + 1, a, s, h, hd, hf, ha => by
    unfold reachF
    split
    · rename_i hlt
      obtain ⟨h1, h2, h3⟩ := turn_ri hu h hd hlt
      obtain ⟨g1, g2, g3⟩ := reachF_ri hu f (a + 1) _ h1 h3 (by omega) (by have := h2.len; omega)
      exact ⟨g1, h2.trans g2, g3⟩
    · rename_i hlt
      have : a = s.1.length := by omega
      subst this
      exact ⟨h, grows.refl s, hd⟩
theorem ri0 (ups : List (List Nat)) (below : List Int) (begin_ : List Nat) : RI ups below begin_ (begin_, []) :=
  ⟨by simp, fun p hp => (by cases hp), ⟨[], by simp, Nat.le_refl _, fun l hl => (by cases hl)⟩, fun p hp => (by cases hp), fun i p hp => (by simp at hp)⟩
theorem reached_ri (hu : ∀ l, ∀ t ∈ ups.getD l [], t < ups.length) : RI ups below begin_ (reached ups below begin_) ∧ (∀ l ∈ begin_, l ∈ (reached ups below begin_).1) ∧
    ∀ l ∈ (reached ups below begin_).1, ∀ t ∈ ups.getD l [], t ∈ (reached ups below begin_).2.map (·.1) := by
  obtain ⟨h1, ⟨⟨r, h2⟩, _⟩, h3⟩ := reachF_ri (below := below) (begin_ := begin_) hu (begin_.length + ups.length + 1) 0 (begin_, []) (ri0 _ _ _) (fun i hi => by omega) (by omega) (Nat.zero_le _)
  refine ⟨h1, fun l hl => ?_, fun l hl t ht => ?_⟩
  · show l ∈ (reachF _ _ _ _ _).1
    rw [h2]
    exact List.mem_append_left _ hl
  · obtain ⟨i, hi⟩ := List.mem_iff_getElem?.mp hl
    obtain ⟨hi1, hi2⟩ := List.getElem?_eq_some_iff.mp hi
    refine h3 i hi1 t ?_
    have : (reachF ups below (begin_.length + ups.length + 1) 0 (begin_, [])).1.getD i 0 = l := by
      rw [List.getD_eq_getElem?_getD]
      have hi : (reachF ups below (begin_.length + ups.length + 1) 0 (begin_, [])).1[i]? = some l := hi
      rw [hi]
      rfl
    rw [this]
    exact ht
end
end LW
namespace LW
abbrev MS := List Int × List Int
def augF (came : List (Nat × Nat)) (beg : Nat) : Nat → Nat → MS → MS
  | 0, _, m => m
  | f + 1, to, m =>
    let low := (whence came to).getD 0
    if low = beg then (m.1.set low (to : Int), m.2.set to (low : Int)) else augF came beg f (m.1.getD low (-1)).toNat (m.1.set low (to : Int), m.2.set to (low : Int))
def minN : List Nat → Nat
  | [] => 0
  | x :: r => r.foldl min x
theorem foldl_minN : ∀ (r : List Nat) (x : Nat), (r.foldl min x = x ∨ r.foldl min x ∈ r) ∧ r.foldl min x ≤ x ∧ ∀ y ∈ r, r.foldl min x ≤ y
  | [], x => ⟨.inl rfl, Nat.le_refl _, fun y h => (by cases h)⟩
  | y :: r, x => by
    obtain ⟨h1, h2, h3⟩ := foldl_minN r (min x y)
    rw [List.foldl_cons]
    have m1 : min x y ≤ x := Nat.min_le_left _ _
    have m2 : min x y ≤ y := Nat.min_le_right _ _
    refine ⟨?_, by omega, fun z hz => ?_⟩
    · rcases h1 with e | e
      · rw [e]
        rcases Nat.le_total x y with q | q
        · exact .inl (Nat.min_eq_left q)
        · exact .inr (by rw [Nat.min_eq_right q]; exact List.mem_cons_self)
      · exact .inr (List.mem_cons_of_mem _ e)
    · rcases List.mem_cons.mp hz with rfl | hz
      · omega
      · exact h3 z hz
theorem minN_mem {l : List Nat} (h : l ≠ []) : minN l ∈ l ∧ ∀ y ∈ l, minN l ≤ y := by
  cases l with
  | nil => exact absurd rfl h
  | cons x r =>
    obtain ⟨h1, h2, h3⟩ := foldl_minN r x
    refine ⟨?_, fun y hy => ?_⟩
    · rcases h1 with e | e
      · show r.foldl min x ∈ _
        rw [e]
        exact List.mem_cons_self
      · exact List.mem_cons_of_mem _ e
    · rcases List.mem_cons.mp hy with rfl | hy
      · exact h2
      · exact h3 y hy
def freeOf (below : List Int) (r : RS) : List Nat := (r.2.map (·.1)).filter fun to => decide (below.getD to (-1) < 0)
def widenF (ups : List (List Nat)) (m : MS) (beg : Nat) : MS :=
  let r := reached ups m.2 [beg]
  if freeOf m.2 r = [] then m else augF r.2 beg (r.2.length + 1) (minN (freeOf m.2 r)) m
def matchF (ups : List (List Nat)) (k : Nat) : MS := (List.range k).foldl (widenF ups) (List.replicate ups.length (-1), List.replicate ups.length (-1))
/-- above and below tell the same pairs, each an edge -/
structure Con (ups : List (List Nat)) (m : MS) : Prop where
  l1 : m.1.length = ups.length
  l2 : m.2.length = ups.length
  a : ∀ l t : Nat, m.1.getD l (-1) = (t : Int) → t < ups.length ∧ m.2.getD t (-1) = (l : Int) ∧ t ∈ ups.getD l []
  b : ∀ t l : Nat, m.2.getD t (-1) = (l : Int) → l < ups.length ∧ m.1.getD l (-1) = (t : Int)
/-- nothing free is come to from L: uppers of L are in U, U's are matched in L -/
def Dead (ups : List (List Nat)) (below : List Int) (L U : Nat → Prop) : Prop := (∀ l, L l → ∀ t ∈ ups.getD l [], U t) ∧ ∀ u, U u → ∃ l : Nat, L l ∧ below.getD u (-1) = (l : Int)
structure AI (ups : List (List Nat)) (m0 : MS) (came : List (Nat × Nat)) (beg : Nat) (i to : Nat) (m : MS) : Prop where
  l1 : m.1.length = ups.length
  l2 : m.2.length = ups.length
  a : ∀ l t : Nat, m.1.getD l (-1) = (t : Int) → t < ups.length ∧ m.2.getD t (-1) = (l : Int) ∧ t ≠ to ∧ t ∈ ups.getD l []
  b : ∀ t l : Nat, t ≠ to → m.2.getD t (-1) = (l : Int) → l < ups.length ∧ m.1.getD l (-1) = (t : Int)
  c : m.1.getD beg (-1) < 0
  d : ∀ l t : Nat, m0.1.getD l (-1) = (t : Int) → m.1.getD l (-1) = (t : Int) ∨ ∃ k q, i ≤ k ∧ came[k]? = some q ∧ q.1 = t
  e : ∀ l, 0 ≤ m0.1.getD l (-1) → 0 ≤ m.1.getD l (-1)
  g : ∀ l, 0 ≤ m.1.getD l (-1) → 0 ≤ m0.1.getD l (-1)
  f : ∀ L U : Nat → Prop, Dead ups m0.2 L U → ¬ L beg → ¬ U to ∧ ∀ u, U u → m.2.getD u (-1) = m0.2.getD u (-1)
theorem keys_at {came : List (Nat × Nat)} (nd : (came.map (·.1)).Nodup) {i j : Nat} {p q : Nat × Nat} (h1 : came[i]? = some p) (h2 : came[j]? = some q) (e : p.1 = q.1) : i = j := by
  obtain ⟨hi, e1⟩ := List.getElem?_eq_some_iff.mp h1
  obtain ⟨hj, e2⟩ := List.getElem?_eq_some_iff.mp h2
  have := (List.getElem_inj (h₀ := by simpa using hi) (h₁ := by simpa using hj) nd).mp (by simp [e1, e2, e])
  exact this
theorem whence_at {came : List (Nat × Nat)} (nd : (came.map (·.1)).Nodup) {i : Nat} {p : Nat × Nat} (h : came[i]? = some p) : whence came p.1 = some p.2 := by
  unfold whence
  have hm : p ∈ came := List.mem_of_getElem? h
  cases hf : came.find? (fun q => q.1 == p.1) with
  | none =>
    have := List.find?_eq_none.mp hf p hm
    simp at this
  | some q =>
    have hq := List.mem_of_find?_eq_some hf
    have e : q.1 = p.1 := by simpa using List.find?_some hf
    obtain ⟨j, hj⟩ := List.mem_iff_getElem?.mp hq
    have := keys_at nd hj h e
    subst this
    rw [h] at hj
    cases hj
    rfl
theorem aug_ok {ups : List (List Nat)} {m0 : MS} {beg : Nat} {r : RS} (C : Con ups m0) (hb : beg < ups.length) (hul : ∀ l, ∀ t ∈ ups.getD l [], l < ups.length) (R : RI ups m0.2 [beg] r) : ∀ (f i to low : Nat) (m : MS), i < f → r.2[i]? = some (to, low) → AI ups m0 r.2 beg i to m →
    Con ups (augF r.2 beg f to m) ∧ 0 ≤ (augF r.2 beg f to m).1.getD beg (-1) ∧ (∀ l, 0 ≤ m0.1.getD l (-1) → 0 ≤ (augF r.2 beg f to m).1.getD l (-1)) ∧ (∀ l, 0 ≤ (augF r.2 beg f to m).1.getD l (-1) → 0 ≤ m0.1.getD l (-1) ∨ l = beg) ∧ ∀ L U : Nat → Prop, Dead ups m0.2 L U → ¬ L beg → Dead ups (augF r.2 beg f to m).2 L U
  | 0, i, _, _, _, h, _, _ => by omega
  | f + 1, i, to, low, m, hi, hr, A => by
    have hw : whence r.2 to = some low := whence_at R.nd (p := (to, low)) hr
    obtain ⟨tb, lm, tu⟩ := R.kb _ (List.mem_of_getElem? hr)
    have tb : to < ups.length := tb
    have tu : to ∈ ups.getD low [] := tu
    have hlow : low < ups.length := hul low to tu
    have hl1 : low < m.1.length := by rw [A.l1]; exact hlow
    have ht2 : to < m.2.length := by rw [A.l2]; exact tb
    have g1 : ∀ j, (m.1.set low (to : Int)).getD j (-1) = if low = j then (to : Int) else m.1.getD j (-1) := fun j => by
      rw [getD_set]
      by_cases z : low = j
      · rw [if_pos ⟨z, hl1⟩, if_pos z]
      · rw [if_neg fun q => z q.1, if_neg z]
    have g2 : ∀ j, (m.2.set to (low : Int)).getD j (-1) = if to = j then (low : Int) else m.2.getD j (-1) := fun j => by
      rw [getD_set]
      by_cases z : to = j
      · rw [if_pos ⟨z, ht2⟩, if_pos z]
      · rw [if_neg fun q => z q.1, if_neg z]
    unfold augF
    rw [hw]
    dsimp only [Option.getD_some]
    have dead2 : ∀ L U : Nat → Prop, Dead ups m0.2 L U → ¬ L beg → ¬ L low := fun L U D hL hl => (A.f L U D hL).1 (D.1 low hl to tu)
    have keep : ∀ L U : Nat → Prop, Dead ups m0.2 L U → ¬ L beg → ∀ u, U u → (m.2.set to (low : Int)).getD u (-1) = m0.2.getD u (-1) := fun L U D hL u hu => by
      obtain ⟨h1, h2⟩ := A.f L U D hL
      rw [g2, if_neg fun z : to = u => h1 (by rw [z]; exact hu)]
      exact h2 u hu
    have e2 : ∀ l, 0 ≤ m0.1.getD l (-1) → 0 ≤ (m.1.set low (to : Int)).getD l (-1) := fun l h => by
      rw [g1]
      split
      · omega
      · exact A.e l h
    by_cases hbeg : low = beg
    · rw [if_pos hbeg]
      refine ⟨⟨by rw [List.length_set]; exact A.l1, by rw [List.length_set]; exact A.l2, fun l t h => ?_, fun t l h => ?_⟩, ?_, e2, fun l h => ?_, fun L U D hL => ⟨D.1, fun u hu => ?_⟩⟩
      · dsimp only at h ⊢
        rw [g1] at h
        by_cases z : low = l
        · rw [if_pos z] at h
          have : to = t := by omega
          subst this
          subst z
          exact ⟨tb, by rw [g2, if_pos rfl], tu⟩
        · rw [if_neg z] at h
          obtain ⟨q1, q2, q3, q4⟩ := A.a l t h
          exact ⟨q1, by rw [g2, if_neg fun y => q3 y.symm]; exact q2, q4⟩
      · dsimp only at h ⊢
        rw [g2] at h
        by_cases z : to = t
        · rw [if_pos z] at h
          have : low = l := by omega
          subst this
          subst z
          exact ⟨hlow, by rw [g1, if_pos rfl]⟩
        · rw [if_neg z] at h
          obtain ⟨q1, q2⟩ := A.b t l (fun y => z y.symm) h
          refine ⟨q1, ?_⟩
          rw [g1]
          by_cases y : low = l
          · exfalso
            have := A.c
            rw [← hbeg, y, q2] at this
            omega
          · rw [if_neg y]
            exact q2
      · dsimp only
        rw [g1, if_pos hbeg]
        omega
      · dsimp only at h
        rw [g1] at h
        by_cases z : low = l
        · exact .inr (by omega)
        · rw [if_neg z] at h
          exact .inl (A.g l h)
      · dsimp only
        rw [keep L U D hL u hu]
        exact D.2 u hu
    · rw [if_neg hbeg]
      obtain ⟨j, q, hj, hq, hbe⟩ : ∃ j q, j < i ∧ r.2[j]? = some q ∧ m0.2.getD q.1 (-1) = (low : Int) := by
        rcases R.wf i (to, low) hr with h | h
        · exact absurd (by simpa using h) hbeg
        · exact h
      obtain ⟨_, hab0⟩ := C.b q.1 low hbe
      have hab : m.1.getD low (-1) = (q.1 : Int) := by
        rcases A.d low q.1 hab0 with h | ⟨k, p, hk, hp, e⟩
        · exact h
        · have := keys_at R.nd hp hq e
          omega
      obtain ⟨q1, q2, q3, q4⟩ := A.a low q.1 hab
      rw [hab]
      have en : ((q.1 : Nat) : Int).toNat = q.1 := by omega
      rw [en]
      refine aug_ok C hb hul R f j q.1 q.2 _ (by omega) hq ⟨by rw [List.length_set]; exact A.l1, by rw [List.length_set]; exact A.l2, fun l t h => ?_, fun t l ht h => ?_, ?_, fun l t h => ?_, e2, fun l h => ?_, fun L U D hL => ⟨fun hu => ?_, keep L U D hL⟩⟩
      · dsimp only at h ⊢
        rw [g1] at h
        by_cases z : low = l
        · rw [if_pos z] at h
          have : to = t := by omega
          subst this
          subst z
          exact ⟨tb, by rw [g2, if_pos rfl], fun y => q3 y.symm, tu⟩
        · rw [if_neg z] at h
          obtain ⟨p1, p2, p3, p4⟩ := A.a l t h
          refine ⟨p1, by rw [g2, if_neg fun y => p3 y.symm]; exact p2, fun y => ?_, p4⟩
          rw [y, q2] at p2
          exact z (by omega)
      · dsimp only at h ⊢
        rw [g2] at h
        by_cases z : to = t
        · rw [if_pos z] at h
          have : low = l := by omega
          subst this
          subst z
          exact ⟨hlow, by rw [g1, if_pos rfl]⟩
        · rw [if_neg z] at h
          obtain ⟨p1, p2⟩ := A.b t l (fun y => z y.symm) h
          refine ⟨p1, ?_⟩
          rw [g1]
          by_cases y : low = l
          · exfalso
            rw [← y, hab] at p2
            exact ht (by omega)
          · rw [if_neg y]
            exact p2
      · dsimp only
        rw [g1, if_neg hbeg]
        exact A.c
      · dsimp only
        by_cases z : low = l
        · subst z
          rw [hab0] at h
          have : q.1 = t := by omega
          exact .inr ⟨j, q, Nat.le_refl _, hq, this⟩
        · rw [g1, if_neg z]
          exact (A.d l t h).imp id fun ⟨k, p, a1, a2⟩ => ⟨k, p, by omega, a2⟩
      · dsimp only at h
        rw [g1] at h
        by_cases z : low = l
        · subst z
          omega
        · rw [if_neg z] at h
          exact A.g l h
      · -- the next upper one is not dead
        obtain ⟨l, hl, e⟩ := D.2 _ hu
        rw [hbe] at e
        have : low = l := by omega
        subst this
        exact dead2 L U D hL hl
theorem freeOf_nil {below : List Int} {r : RS} (h : freeOf below r = []) : ∀ p ∈ r.2, 0 ≤ below.getD p.1 (-1) := fun p hp => by
  unfold freeOf at h
  rw [List.filter_eq_nil_iff] at h
  have := h p.1 (List.mem_map.mpr ⟨p, hp, rfl⟩)
  simp only [decide_eq_true_eq] at this
  omega
/-- what holds when the first k places have been gone through -/
structure MI (ups : List (List Nat)) (k : Nat) (m : MS) : Prop where
  con : Con ups m
  dead : ∃ L U : Nat → Prop, Dead ups m.2 L U ∧ (∀ l, l < k → m.1.getD l (-1) < 0 → L l) ∧ ∀ l, L l → m.1.getD l (-1) < 0 → l < k
  un : ∀ l, k ≤ l → m.1.getD l (-1) < 0
theorem widen_ok {ups : List (List Nat)} (hu : ∀ l, ∀ t ∈ ups.getD l [], t < ups.length) (hul : ∀ l, ∀ t ∈ ups.getD l [], l < ups.length) {k : Nat} {m : MS} (hk : k < ups.length) (M : MI ups k m) : MI ups (k + 1) (widenF ups m k) := by
  obtain ⟨L, U, D, d1, d2⟩ := M.dead
  obtain ⟨R, R2, R3⟩ := reached_ri (ups := ups) (below := m.2) (begin_ := [k]) hu
  unfold widenF
  dsimp only
  generalize reached ups m.2 [k] = r at R R2 R3
  by_cases hf : freeOf m.2 r = []
  · rw [if_pos hf]
    have hfree := freeOf_nil hf
    refine ⟨M.con, ⟨fun l => L l ∨ l ∈ r.1, fun u => U u ∨ u ∈ r.2.map (·.1), ⟨fun l hl t ht => ?_, fun u hu' => ?_⟩, fun l hl h0 => ?_, fun l hl h0 => ?_⟩, fun l hl => M.un l (by omega)⟩
    · rcases hl with hl | hl
      · exact .inl (D.1 l hl t ht)
      · exact .inr (R3 l hl t ht)
    · rcases hu' with hu' | hu'
      · obtain ⟨l, h1, h2⟩ := D.2 u hu'
        exact ⟨l, .inl h1, h2⟩
      · obtain ⟨p, hp, rfl⟩ := List.mem_map.mp hu'
        have h0 := hfree p hp
        exact ⟨_, .inr (R.bl p hp h0), by omega⟩
    · by_cases z : l < k
      · exact .inl (d1 l z h0)
      · have : l = k := by omega
        subst this
        exact .inr (R2 l (by simp))
    · rcases hl with hl | hl
      · have := d2 l hl h0
        omega
      · rcases R.low hl with h | ⟨j, q, _, hq, e⟩
        · have : l = k := by simpa using h
          omega
        · obtain ⟨_, e2⟩ := M.con.b q.1 l e
          rw [e2] at h0
          omega
  · rw [if_neg hf]
    obtain ⟨hm1, _⟩ := minN_mem hf
    generalize minN (freeOf m.2 r) = to at hm1
    unfold freeOf at hm1
    obtain ⟨hm2, hm3⟩ := List.mem_filter.mp hm1
    have hm3 : m.2.getD to (-1) < 0 := by simpa using hm3
    obtain ⟨p, hp, e⟩ := List.mem_map.mp hm2
    obtain ⟨i, hi⟩ := List.mem_iff_getElem?.mp hp
    have hil := (List.getElem?_eq_some_iff.mp hi).1
    obtain ⟨p1, low⟩ := p
    have e : p1 = to := e
    subst e
    have hkm := M.un k (Nat.le_refl _)
    have hLk : ¬ L k := fun z => by
      have := d2 k z hkm
      omega
    have A : AI ups m r.2 k i p1 m := ⟨M.con.l1, M.con.l2, fun l t h => (by
        obtain ⟨a1, a2, a3⟩ := M.con.a l t h
        refine ⟨a1, a2, fun z => ?_, a3⟩
        rw [z] at a2
        omega), fun t l _ h => M.con.b t l h, hkm, fun l t h => .inl h, fun l h => h, fun l h => h, fun L' U' D' _ => ⟨fun z => (by
        obtain ⟨l, _, e⟩ := D'.2 _ z
        omega), fun _ _ => rfl⟩⟩
    obtain ⟨c1, c2, c3, c5, c4⟩ := aug_ok M.con hk hul R (r.2.length + 1) i p1 low m (by omega) hi A
    generalize augF r.2 k (r.2.length + 1) p1 m = m' at c1 c2 c3 c4 c5
    refine ⟨c1, ⟨L, U, c4 L U D hLk, fun l hl h0 => ?_, fun l hl h0 => ?_⟩, fun l hl => ?_⟩
    · by_cases z : l = k
      · subst z
        omega
      · refine d1 l (by omega) ?_
        by_cases y : 0 ≤ m.1.getD l (-1)
        · have := c3 l y
          omega
        · omega
    · have : m.1.getD l (-1) < 0 := by
        by_cases y : 0 ≤ m.1.getD l (-1)
        · have := c3 l y
          omega
        · omega
      have := d2 l hl this
      omega
    · by_cases y : 0 ≤ m'.1.getD l (-1)
      · rcases c5 l y with q | q
        · have := M.un l (by omega)
          omega
        · omega
      · omega
theorem con0 (ups : List (List Nat)) : Con ups (List.replicate ups.length (-1), List.replicate ups.length (-1)) := by
  have h : ∀ j, (List.replicate ups.length (-1 : Int)).getD j (-1) = -1 := fun j => by
    rw [List.getD_eq_getElem?_getD, List.getElem?_replicate]
    split <;> rfl
  refine ⟨by simp, by simp, fun l t e => ?_, fun t l e => ?_⟩
  · dsimp only at e
    rw [h] at e
    omega
  · dsimp only at e
    rw [h] at e
    omega
theorem match_mi {ups : List (List Nat)} (hu : ∀ l, ∀ t ∈ ups.getD l [], t < ups.length) (hul : ∀ l, ∀ t ∈ ups.getD l [], l < ups.length) : ∀ k, k ≤ ups.length → MI ups k (matchF ups k)
  | 0, _ => ⟨con0 ups, ⟨fun _ => False, fun _ => False, ⟨fun _ h => h.elim, fun _ h => h.elim⟩, fun l h => by omega, fun _ h => h.elim⟩, fun l _ => by
    show (List.replicate ups.length (-1 : Int)).getD l (-1) < 0
    rw [List.getD_eq_getElem?_getD, List.getElem?_replicate]
    split <;> decide⟩
  | k + 1, h => by
    have ih := match_mi hu hul k (by omega)
    have e : matchF ups (k + 1) = widenF ups (matchF ups k) k := by
      unfold matchF
      rw [List.range_succ, List.foldl_append]
      rfl
    rw [e]
    exact widen_ok hu hul (by omega) ih
def freeLow (m : MS) : List Nat := (List.range m.1.length).filter fun a => decide (m.1.getD a (-1) < 0)
def unlikeF (ups : List (List Nat)) (m : MS) : List Nat :=
  let r := reached ups m.2 (freeLow m)
  (List.range m.1.length).filter fun a => decide (a ∈ r.1) && !isIn r.2 a
def startsF (m : MS) : List Nat := (List.range m.2.length).filter fun a => decide (m.2.getD a (-1) < 0)
theorem reach_dead {ups : List (List Nat)} {below : List Int} {begin_ : List Nat} {L U : Nat → Prop} {r : RS} (R : RI ups below begin_ r) (D : Dead ups below L U) (hb : ∀ l ∈ begin_, L l) : ∀ (i : Nat) (p : Nat × Nat), r.2[i]? = some p → L p.2 ∧ U p.1 := by
  intro i
  induction i using Nat.strongRecOn with
  | _ i ih =>
    intro p hp
    have hL : L p.2 := by
      rcases R.wf i p hp with h | ⟨j, q, hj, hq, e⟩
      · exact hb _ h
      · obtain ⟨_, hU⟩ := ih j hj q hq
        obtain ⟨l, hl, e2⟩ := D.2 _ hU
        rw [e] at e2
        have : p.2 = l := by omega
        rw [this]
        exact hl
    exact ⟨hL, D.1 _ hL _ (R.kb p (List.mem_of_getElem? hp)).2.2⟩
theorem mem_unlike {ups : List (List Nat)} {m : MS} {a : Nat} : a ∈ unlikeF ups m ↔ a < m.1.length ∧ a ∈ (reached ups m.2 (freeLow m)).1 ∧ a ∉ (reached ups m.2 (freeLow m)).2.map (·.1) := by
  unfold unlikeF
  simp only [List.mem_filter, List.mem_range, Bool.and_eq_true, decide_eq_true_eq, Bool.not_eq_true']
  rw [← isIn_iff]
  simp
/-- as many unlike ones as chains begin, no edge among them -/
theorem unlike_ok {ups : List (List Nat)} (hu : ∀ l, ∀ t ∈ ups.getD l [], t < ups.length) {m : MS} (M : MI ups ups.length m) : (startsF m).length ≤ (unlikeF ups m).length ∧ ∀ a ∈ unlikeF ups m, ∀ b ∈ unlikeF ups m, b ∉ ups.getD a [] := by
  obtain ⟨R, R2, R3⟩ := reached_ri (ups := ups) (below := m.2) (begin_ := freeLow m) hu
  obtain ⟨L, U, D, d1, d2⟩ := M.dead
  have hfl : ∀ l ∈ freeLow m, L l := fun l hl => by
    unfold freeLow at hl
    obtain ⟨h1, h2⟩ := List.mem_filter.mp hl
    rw [List.mem_range, M.con.l1] at h1
    exact d1 l h1 (by simpa using h2)
  have hD := reach_dead R D hfl
  refine ⟨?_, fun a ha b hb he => ?_⟩
  · have hul : (unlikeF ups m) = (List.range m.1.length).filter fun a => decide (a ∈ (reached ups m.2 (freeLow m)).1) && !isIn (reached ups m.2 (freeLow m)).2 a := rfl
    rw [hul]
    generalize reached ups m.2 (freeLow m) = r at R R2 R3 hD
    have n1 := M.con.l1
    have n2 := M.con.l2
    -- all places: n; not reached; come to
    let n := ups.length
    let U1 := (List.range n).filter fun a => !decide (m.2.getD a (-1) < 0)
    have hU1 : (startsF m).length + U1.length = n := by
      have := filter_split (fun a => decide (m.2.getD a (-1) < 0)) (List.range n)
      rw [List.length_range] at this
      unfold startsF
      rw [n2]
      exact this
    let N1 := (List.range n).filter fun a => !decide (a ∈ r.1)
    have key : (r.2.map (·.1) ++ N1.map fun a => (m.1.getD a (-1)).toNat).length ≤ U1.length := by
      have hN1 : ∀ a ∈ N1, ∃ t : Nat, m.1.getD a (-1) = (t : Int) := fun a ha => by
        obtain ⟨h1, h2⟩ := List.mem_filter.mp ha
        have h2 : a ∉ r.1 := by simpa using h2
        have h3 : ¬ m.1.getD a (-1) < 0 := fun z => h2 (R2 a (by
          unfold freeLow
          rw [List.mem_filter, n1]
          exact ⟨h1, by simpa using z⟩))
        exact ⟨(m.1.getD a (-1)).toNat, by omega⟩
      have hnr : ∀ a ∈ N1, a ∉ r.1 := fun a ha => by simpa using (List.mem_filter.mp ha).2
      refine nodup_sub (List.nodup_append.mpr ⟨R.nd, ?_, ?_⟩) ?_
      · have nd : N1.Nodup := List.nodup_range.filter _
        refine List.pairwise_map.mpr (nd.imp_of_mem fun {a b} ha hb hab e => hab ?_)
        obtain ⟨t, ht⟩ := hN1 a ha
        obtain ⟨u, hu'⟩ := hN1 b hb
        have : t = u := by omega
        subst this
        have h1 := (M.con.a a t ht).2.1
        have h2 := (M.con.a b t hu').2.1
        omega
      · intro x hx y hy e
        subst e
        obtain ⟨a, ha, e⟩ := List.mem_map.mp hy
        obtain ⟨t, ht⟩ := hN1 a ha
        have : x = t := by omega
        subst this
        obtain ⟨p, hp, rfl⟩ := List.mem_map.mp hx
        have h1 := (M.con.a a p.1 ht).2.1
        have := R.bl p hp (by omega)
        rw [h1] at this
        exact hnr a ha (by simpa using this)
      · intro x hx
        refine List.mem_filter.mpr ?_
        rcases List.mem_append.mp hx with hx | hx
        · obtain ⟨p, hp, rfl⟩ := List.mem_map.mp hx
          obtain ⟨i, hi⟩ := List.mem_iff_getElem?.mp hp
          obtain ⟨_, hU⟩ := hD i p hi
          obtain ⟨l, _, e⟩ := D.2 _ hU
          refine ⟨List.mem_range.mpr (R.kb p hp).1, ?_⟩
          have : ¬ m.2.getD p.1 (-1) < 0 := by omega
          simpa using this
        · obtain ⟨a, ha, rfl⟩ := List.mem_map.mp hx
          obtain ⟨t, ht⟩ := hN1 a ha
          obtain ⟨h1, h2, _⟩ := M.con.a a t ht
          have e : (m.1.getD a (-1)).toNat = t := by omega
          rw [e]
          refine ⟨List.mem_range.mpr h1, ?_⟩
          have : ¬ m.2.getD t (-1) < 0 := by omega
          simpa using this
    rw [List.length_append, List.length_map, List.length_map] at key
    -- n = unlike + the others
    have hs := filter_split (fun a => decide (a ∈ r.1) && !isIn r.2 a) (List.range n)
    rw [List.length_range] at hs
    have ho : ((List.range n).filter fun x => !(decide (x ∈ r.1) && !isIn r.2 x)).length ≤ (N1 ++ r.2.map (·.1)).length := nodup_sub (List.nodup_range.filter _) fun x hx => by
      obtain ⟨h1, h2⟩ := List.mem_filter.mp hx
      rw [List.mem_append]
      by_cases z : x ∈ r.1
      · right
        rw [← isIn_iff]
        simpa [z] using h2
      · left
        exact List.mem_filter.mpr ⟨h1, by simpa using z⟩
    rw [List.length_append, List.length_map] at ho
    rw [n1]
    show _ ≤ ((List.range n).filter _).length
    omega
  · obtain ⟨_, h1, h2⟩ := mem_unlike.mp ha
    obtain ⟨_, h3, h4⟩ := mem_unlike.mp hb
    exact h4 (R3 a h1 b he)
end LW
namespace LW
theorem aug_next {ups : List (List Nat)} {m0 : MS} {beg : Nat} {r : RS} (C : Con ups m0) (hul : ∀ l, ∀ t ∈ ups.getD l [], l < ups.length) (R : RI ups m0.2 [beg] r) {i to low : Nat} {m : MS} (hr : r.2[i]? = some (to, low)) (A : AI ups m0 r.2 beg i to m) (hbeg : low ≠ beg) :
    ∃ j q, j < i ∧ r.2[j]? = some q ∧ m.1.getD low (-1) = (q.1 : Int) ∧ AI ups m0 r.2 beg j q.1 (m.1.set low (to : Int), m.2.set to (low : Int)) := by
  obtain ⟨tb, lm, tu⟩ := R.kb _ (List.mem_of_getElem? hr)
  have tb : to < ups.length := tb
  have tu : to ∈ ups.getD low [] := tu
  have hlow : low < ups.length := hul low to tu
  have hl1 : low < m.1.length := by rw [A.l1]; exact hlow
  have ht2 : to < m.2.length := by rw [A.l2]; exact tb
  have g1 : ∀ j, (m.1.set low (to : Int)).getD j (-1) = if low = j then (to : Int) else m.1.getD j (-1) := fun j => by
    rw [getD_set]
    by_cases z : low = j
    · rw [if_pos ⟨z, hl1⟩, if_pos z]
    · rw [if_neg fun q => z q.1, if_neg z]
  have g2 : ∀ j, (m.2.set to (low : Int)).getD j (-1) = if to = j then (low : Int) else m.2.getD j (-1) := fun j => by
    rw [getD_set]
    by_cases z : to = j
    · rw [if_pos ⟨z, ht2⟩, if_pos z]
    · rw [if_neg fun q => z q.1, if_neg z]
  have dead2 : ∀ L U : Nat → Prop, Dead ups m0.2 L U → ¬ L beg → ¬ L low := fun L U D hL hl => (A.f L U D hL).1 (D.1 low hl to tu)
  have keep : ∀ L U : Nat → Prop, Dead ups m0.2 L U → ¬ L beg → ∀ u, U u → (m.2.set to (low : Int)).getD u (-1) = m0.2.getD u (-1) := fun L U D hL u hu => by
    obtain ⟨h1, h2⟩ := A.f L U D hL
    rw [g2, if_neg fun z : to = u => h1 (by rw [z]; exact hu)]
    exact h2 u hu
  obtain ⟨j, q, hj, hq, hbe⟩ : ∃ j q, j < i ∧ r.2[j]? = some q ∧ m0.2.getD q.1 (-1) = (low : Int) := by
    rcases R.wf i (to, low) hr with h | h
    · exact absurd (by simpa using h) hbeg
    · exact h
  obtain ⟨_, hab0⟩ := C.b q.1 low hbe
  have hab : m.1.getD low (-1) = (q.1 : Int) := by
    rcases A.d low q.1 hab0 with h | ⟨k, p, hk, hp, e⟩
    · exact h
    · have := keys_at R.nd hp hq e
      omega
  obtain ⟨q1, q2, q3, q4⟩ := A.a low q.1 hab
  refine ⟨j, q, hj, hq, hab, ⟨by rw [List.length_set]; exact A.l1, by rw [List.length_set]; exact A.l2, fun l t h => ?_, fun t l ht h => ?_, ?_, fun l t h => ?_, fun l h => ?_, fun l h => ?_, fun L U D hL => ⟨fun hu => ?_, keep L U D hL⟩⟩⟩
  · dsimp only at h ⊢
    rw [g1] at h
    by_cases z : low = l
    · rw [if_pos z] at h
      have : to = t := by omega
      subst this
      subst z
      exact ⟨tb, by rw [g2, if_pos rfl], fun y => q3 y.symm, tu⟩
    · rw [if_neg z] at h
      obtain ⟨p1, p2, p3, p4⟩ := A.a l t h
      refine ⟨p1, by rw [g2, if_neg fun y => p3 y.symm]; exact p2, fun y => ?_, p4⟩
      rw [y, q2] at p2
      exact z (by omega)
  · dsimp only at h ⊢
    rw [g2] at h
    by_cases z : to = t
    · rw [if_pos z] at h
      have : low = l := by omega
      subst this
      subst z
      exact ⟨hlow, by rw [g1, if_pos rfl]⟩
    · rw [if_neg z] at h
      obtain ⟨p1, p2⟩ := A.b t l (fun y => z y.symm) h
      refine ⟨p1, ?_⟩
      rw [g1]
      by_cases y : low = l
      · exfalso
        rw [← y, hab] at p2
        exact ht (by omega)
      · rw [if_neg y]
        exact p2
  · dsimp only
    rw [g1, if_neg hbeg]
    exact A.c
  · dsimp only
    by_cases z : low = l
    · subst z
      rw [hab0] at h
      have : q.1 = t := by omega
      exact .inr ⟨j, q, Nat.le_refl _, hq, this⟩
    · rw [g1, if_neg z]
      exact (A.d l t h).imp id fun ⟨k, p, a1, a2⟩ => ⟨k, p, by omega, a2⟩
  · dsimp only
    rw [g1]
    split
    · omega
    · exact A.e l h
  · dsimp only at h
    rw [g1] at h
    by_cases z : low = l
    · subst z
      omega
    · rw [if_neg z] at h
      exact A.g l h
  · obtain ⟨l, hl, e⟩ := D.2 _ hu
    rw [hbe] at e
    have : low = l := by omega
    subst this
    exact dead2 L U D hL hl
def rowF (ab : List Int) : Nat → Nat → List Nat
  | 0, a => [a]
  | f + 1, a => if 0 ≤ ab.getD a (-1) then a :: rowF ab f (ab.getD a (-1)).toNat else [a]
def rowsF (m : MS) : List (List Nat) := (startsF m).map (rowF m.1 m.1.length)
/-- edges go up by a rank -/
structure Rank (ups : List (List Nat)) (rk : Nat → Nat) : Prop where
  up : ∀ l, ∀ t ∈ ups.getD l [], rk l < rk t
  lt : ∀ t, t < ups.length → rk t < ups.length
theorem rowF_head (ab : List Int) (f a : Nat) : ∃ r, rowF ab f a = a :: r := by
  cases f with
  | zero => exact ⟨[], rfl⟩
  | succ f =>
    unfold rowF
    split
    · exact ⟨_, rfl⟩
    · exact ⟨[], rfl⟩
theorem rowF_ne (ab : List Int) (f a : Nat) : rowF ab f a ≠ [] := by
  obtain ⟨r, e⟩ := rowF_head ab f a
  rw [e]
  simp
section
variable {ups : List (List Nat)} {m : MS} {rk : Nat → Nat}
theorem Con.edge (C : Con ups m) {a : Nat} (h : 0 ≤ m.1.getD a (-1)) : ∃ t : Nat, m.1.getD a (-1) = (t : Int) ∧ t < ups.length ∧ m.2.getD t (-1) = (a : Int) ∧ t ∈ ups.getD a [] := by
  refine ⟨(m.1.getD a (-1)).toNat, by omega, ?_⟩
  exact C.a a _ (by omega)
theorem rowF_next (C : Con ups m) (R : Rank ups rk) : ∀ (f a : Nat), a < ups.length → ups.length ≤ f + rk a → ∀ x ∈ rowF m.1 f a, ∀ y : Nat, m.1.getD x (-1) = (y : Int) → y ∈ rowF m.1 f a
  | 0, a, ha, hf, _, _, _, _ => by
    have := R.lt a ha
    omega
  | f + 1, a, ha, hf, x, hx, y, hy => by
    unfold rowF at hx ⊢
    by_cases h0 : 0 ≤ m.1.getD a (-1)
    · rw [if_pos h0] at hx ⊢
      obtain ⟨t, e, ht, _, hu⟩ := C.edge h0
      have et : (m.1.getD a (-1)).toNat = t := by omega
      rw [et] at hx ⊢
      have hr := R.up a t hu
      rcases List.mem_cons.mp hx with rfl | hx
      · have : y = t := by omega
        subst this
        obtain ⟨r, e2⟩ := rowF_head m.1 f y
        rw [e2]
        simp
      · exact List.mem_cons_of_mem _ (rowF_next C R f t ht (by omega) x hx y hy)
    · rw [if_neg h0] at hx
      obtain rfl : x = a := by simpa using hx
      omega
theorem rowF_mem (C : Con ups m) : ∀ (f a : Nat), a < ups.length → ∀ x ∈ rowF m.1 f a, x < ups.length
  | 0, a, ha, x, hx => by
    obtain rfl : x = a := by simpa [rowF] using hx
    exact ha
  | f + 1, a, ha, x, hx => by
    unfold rowF at hx
    by_cases h0 : 0 ≤ m.1.getD a (-1)
    · rw [if_pos h0] at hx
      obtain ⟨t, e, ht, _, _⟩ := C.edge h0
      have et : (m.1.getD a (-1)).toNat = t := by omega
      rw [et] at hx
      rcases List.mem_cons.mp hx with rfl | hx
      · exact ha
      · exact rowF_mem C f t ht x hx
    · rw [if_neg h0] at hx
      obtain rfl : x = a := by simpa using hx
      exact ha
/-- each place stands in a row -/
theorem rows_cover (C : Con ups m) (R : Rank ups rk) : ∀ (n a : Nat), rk a ≤ n → a < ups.length → ∃ s ∈ startsF m, a ∈ rowF m.1 ups.length s
  | n, a, hn, ha => by
    by_cases h0 : m.2.getD a (-1) < 0
    · refine ⟨a, ?_, ?_⟩
      · unfold startsF
        rw [List.mem_filter, List.mem_range, C.l2]
        exact ⟨ha, by simpa using h0⟩
      · obtain ⟨r, e⟩ := rowF_head m.1 ups.length a
        rw [e]
        simp
    · have hb : m.2.getD a (-1) = (((m.2.getD a (-1)).toNat : Nat) : Int) := by omega
      obtain ⟨hl, e⟩ := C.b a _ hb
      obtain ⟨_, _, hu⟩ := C.a _ a e
      have hr := R.up _ a hu
      match n, hn with
      | 0, hn => omega
      | n + 1, hn =>
        obtain ⟨s, hs, hm⟩ := rows_cover C R n _ (by omega) hl
        refine ⟨s, hs, rowF_next C R _ s ?_ (by omega) _ hm a e⟩
        unfold startsF at hs
        have := List.mem_range.mp (List.mem_filter.mp hs).1
        rw [C.l2] at this
        exact this
/-- what holds of each edge and goes on holds from the head on, and to the last -/
theorem rowF_rel (C : Con ups m) {P : Nat → Nat → Prop} (rf : ∀ a, a < ups.length → P a a) (tr : ∀ a b c, P a b → P b c → P a c) (ed : ∀ l, ∀ t ∈ ups.getD l [], P l t) : ∀ (f a : Nat), a < ups.length → (∀ x ∈ rowF m.1 f a, P a x) ∧ ∀ x ∈ rowF m.1 f a, P x ((rowF m.1 f a).getLast (rowF_ne _ _ _))
  | 0, a, ha => by
    refine ⟨fun x hx => ?_, fun x hx => ?_⟩
    · obtain rfl : x = a := by simpa [rowF] using hx
      exact rf x ha
    · obtain rfl : x = a := by simpa [rowF] using hx
      simpa [rowF] using rf x ha
  | f + 1, a, ha => by
    by_cases h0 : 0 ≤ m.1.getD a (-1)
    · obtain ⟨t, e, ht, _, hu⟩ := C.edge h0
      have et : (m.1.getD a (-1)).toNat = t := by omega
      have er : rowF m.1 (f + 1) a = a :: rowF m.1 f t := by
        conv => lhs; unfold rowF
        rw [if_pos h0, et]
      obtain ⟨h1, h2⟩ := rowF_rel C rf tr ed f t ht
      have hat := ed a t hu
      have el : (rowF m.1 (f + 1) a).getLast (rowF_ne _ _ _) = (rowF m.1 f t).getLast (rowF_ne _ _ _) := by
        simp only [er]
        exact List.getLast_cons _
      have htl := h2 t (by obtain ⟨r, e2⟩ := rowF_head m.1 f t; rw [e2]; simp)
      refine ⟨fun x hx => ?_, fun x hx => ?_⟩
      · rw [er] at hx
        rcases List.mem_cons.mp hx with rfl | hx
        · exact rf x ha
        · exact tr _ _ _ hat (h1 x hx)
      · rw [el]
        rw [er] at hx
        rcases List.mem_cons.mp hx with rfl | hx
        · exact tr _ _ _ hat htl
        · exact h2 x hx
    · have er : rowF m.1 (f + 1) a = [a] := by
        unfold rowF
        rw [if_neg h0]
      refine ⟨fun x hx => ?_, fun x hx => ?_⟩
      · rw [er] at hx
        obtain rfl : x = a := by simpa using hx
        exact rf x ha
      · rw [er] at hx
        obtain rfl : x = a := by simpa using hx
        simp only [er, List.getLast_singleton]
        exact rf x ha
end
def noMk : Mk := (0, 0, 0)
def upsOf (ms : List Mk) : List (List Nat) := (List.range ms.length).map fun a => (List.range ms.length).filter fun t => !decide (t = a) && decide (und (ms.getD a noMk) (ms.getD t noMk))
theorem upsOf_len (ms : List Mk) : (upsOf ms).length = ms.length := by simp [upsOf]
theorem mem_upsOf {ms : List Mk} {l t : Nat} : t ∈ (upsOf ms).getD l [] ↔ l < ms.length ∧ t < ms.length ∧ t ≠ l ∧ und (ms.getD l noMk) (ms.getD t noMk) := by
  unfold upsOf
  rw [List.getD_eq_getElem?_getD, List.getElem?_map]
  by_cases h : l < ms.length
  · rw [List.getElem?_range h]
    simp only [Option.map_some, Option.getD_some, List.mem_filter, List.mem_range, Bool.and_eq_true, decide_eq_true_eq, Bool.not_eq_true', decide_eq_false_iff_not]
    exact ⟨fun ⟨a, b, c⟩ => ⟨h, a, b, c⟩, fun ⟨_, a, b, c⟩ => ⟨a, b, c⟩⟩
  · rw [List.getElem?_eq_none (by simpa using h)]
    simp [h]
theorem filter_lt {α : Type} {p q : α → Bool} : ∀ {l : List α} {x : α}, (∀ y ∈ l, p y = true → q y = true) → x ∈ l → q x = true → p x = false → (l.filter p).length < (l.filter q).length
  | y :: l, x, h, hx, hq, hp => by
    have hl : ∀ z ∈ l, p z = true → q z = true := fun z hz => h z (List.mem_cons_of_mem _ hz)
    have le : ∀ l : List α, (∀ z ∈ l, p z = true → q z = true) → (l.filter p).length ≤ (l.filter q).length := by
      intro l
      induction l with
      | nil => intro _; exact Nat.le_refl _
      | cons z l ih =>
        intro hh
        have i2 := ih fun w hw => hh w (List.mem_cons_of_mem _ hw)
        have hz := hh z List.mem_cons_self
        rw [List.filter_cons, List.filter_cons]
        cases h1 : p z <;> cases h2 : q z <;> simp [h1, h2] at hz ⊢ <;> omega
    rw [List.filter_cons, List.filter_cons]
    rcases List.mem_cons.mp hx with e | hx
    · subst e
      rw [hq, hp]
      have := le l hl
      simp
      omega
    · have := filter_lt hl hx hq hp
      have hy := h y List.mem_cons_self
      cases h1 : p y <;> cases h2 : q y <;> simp [h1, h2] at hy ⊢ <;> omega
theorem und_refl (a : Mk) : und a a := by unfold und; omega
theorem und_trans {a b c : Mk} (h1 : und a b) (h2 : und b c) : und a c := by unfold und at *; omega
theorem und_anti {a b : Mk} (h1 : und a b) (h2 : und b a) : a = b := by
  unfold und at *
  exact Prod.ext (by omega) (Prod.ext (by omega) (by omega))
theorem getD_inj {ms : List Mk} (nd : ms.Nodup) {a b : Nat} (ha : a < ms.length) (hb : b < ms.length) (e : ms.getD a noMk = ms.getD b noMk) : a = b := by
  rw [List.getD_eq_getElem?_getD, List.getD_eq_getElem?_getD, List.getElem?_eq_getElem ha, List.getElem?_eq_getElem hb] at e
  exact (List.getElem_inj nd).mp e
theorem upsOf_rank {ms : List Mk} (nd : ms.Nodup) : ∃ rk, Rank (upsOf ms) rk := by
  refine ⟨fun t => ((List.range ms.length).filter fun s => !decide (s = t) && decide (und (ms.getD s noMk) (ms.getD t noMk))).length, fun l t ht => ?_, fun t ht => ?_⟩
  · obtain ⟨h1, h2, h3, h4⟩ := mem_upsOf.mp ht
    refine filter_lt (x := l) (fun s hs hp => ?_) (List.mem_range.mpr h1) ?_ ?_
    · simp only [Bool.and_eq_true, decide_eq_true_eq, Bool.not_eq_true', decide_eq_false_iff_not] at hp ⊢
      refine ⟨fun e => ?_, und_trans hp.2 h4⟩
      subst e
      exact h3 (getD_inj nd h2 h1 (und_anti hp.2 h4))
    · simp only [Bool.and_eq_true, decide_eq_true_eq, Bool.not_eq_true', decide_eq_false_iff_not]
      exact ⟨h3.symm, h4⟩
    · simp
  · rw [upsOf_len] at ht ⊢
    have : ((List.range ms.length).filter fun s => !decide (s = t) && decide (und (ms.getD s noMk) (ms.getD t noMk))).length < ((List.range ms.length).filter fun _ => true).length := filter_lt (x := t) (fun _ _ _ => rfl) (List.mem_range.mpr ht) rfl (by simp)
    have e : ((List.range ms.length).filter fun _ => true).length = ms.length := by rw [List.filter_eq_self.mpr (fun _ _ => rfl), List.length_range]
    rw [e] at this
    exact this
def matchOf (ms : List Mk) : MS := matchF (upsOf ms) ms.length
def rowsOf (ms : List Mk) : List (List Mk) := (rowsF (matchOf ms)).map fun r => r.map fun a => ms.getD a noMk
def unlikeOf (ms : List Mk) : List Mk := (unlikeF (upsOf ms) (matchOf ms)).map fun a => ms.getD a noMk
theorem upsOf_hu (ms : List Mk) : ∀ l, ∀ t ∈ (upsOf ms).getD l [], t < (upsOf ms).length := fun l t ht => by rw [upsOf_len]; exact (mem_upsOf.mp ht).2.1
theorem upsOf_hul (ms : List Mk) : ∀ l, ∀ t ∈ (upsOf ms).getD l [], l < (upsOf ms).length := fun l t ht => by rw [upsOf_len]; exact (mem_upsOf.mp ht).1
theorem matchOf_mi (ms : List Mk) : MI (upsOf ms) (upsOf ms).length (matchOf ms) := by
  have := match_mi (upsOf_hu ms) (upsOf_hul ms) (upsOf ms).length (Nat.le_refl _)
  unfold matchOf
  rw [← upsOf_len ms]
  exact this
theorem rowsOf_len (ms : List Mk) : (rowsOf ms).length ≤ (unlikeOf ms).length := by
  have := (unlike_ok (upsOf_hu ms) (matchOf_mi ms)).1
  unfold rowsOf rowsF unlikeOf
  simpa using this
theorem getD_mem {ms : List Mk} {a : Nat} (h : a < ms.length) : ms.getD a noMk ∈ ms := by
  rw [List.getD_eq_getElem?_getD, List.getElem?_eq_getElem h]
  exact List.getElem_mem h
theorem unlikeOf_mem {ms : List Mk} {x : Mk} (h : x ∈ unlikeOf ms) : x ∈ ms := by
  obtain ⟨a, ha, rfl⟩ := List.mem_map.mp h
  have := (mem_unlike.mp ha).1
  rw [(matchOf_mi ms).con.l1, upsOf_len] at this
  exact getD_mem this
/-- no two of them under one another -/
theorem unlikeOf_pw {ms : List Mk} (nd : ms.Nodup) : (unlikeOf ms).Pairwise fun x y => ¬ und x y ∧ ¬ und y x := by
  unfold unlikeOf
  rw [List.pairwise_map]
  have hn : (unlikeF (upsOf ms) (matchOf ms)).Nodup := by
    unfold unlikeF
    exact List.nodup_range.filter _
  have h2 := (unlike_ok (upsOf_hu ms) (matchOf_mi ms)).2
  have hl : ∀ a ∈ unlikeF (upsOf ms) (matchOf ms), a < ms.length := fun a ha => by
    have := (mem_unlike.mp ha).1
    rw [(matchOf_mi ms).con.l1, upsOf_len] at this
    exact this
  refine hn.imp_of_mem fun {a b} ha hb hab => ⟨fun z => ?_, fun z => ?_⟩
  · exact h2 a ha b hb (mem_upsOf.mpr ⟨hl a ha, hl b hb, fun e => hab e.symm, z⟩)
  · exact h2 b hb a ha (mem_upsOf.mpr ⟨hl b hb, hl a ha, hab, z⟩)
theorem unlikeOf_nodup {ms : List Mk} (nd : ms.Nodup) : (unlikeOf ms).Nodup := (unlikeOf_pw nd).imp fun {a b} h e => h.1 (by rw [e]; exact und_refl _)
end LW
namespace LW
open PySem L2 DL
def natD (k : Nat) : D := .int (k : Int)
def upD (r : List Nat) : D := .lst (r.map natD)
def cameD (p : Nat × Nat) : Key × D := (Sum.inl (p.1 : Int), natD p.2)
theorem injNat : ∀ a b : Nat, natD a = natD b → a = b := fun a b h => by
  have : (a : Int) = b := by simpa [natD] using h
  omega
theorem came_val (came : List (Nat × Nat)) (to : Nat) : valG (came.map cameD) (Sum.inl (to : Int) : Key) = (whence came to).map natD := by
  induction came with
  | nil => rfl
  | cons p came ih =>
    unfold valG whence at ih ⊢
    rw [List.map_cons, List.find?_cons, List.find?_cons]
    by_cases e : p.1 = to
    · have e1 : decide ((cameD p).1 = (Sum.inl (to : Int) : Key)) = true := by simp [cameD, e]
      have e2 : (p.1 == to) = true := by simp [e]
      rw [e1, e2]
      rfl
    · have e1 : decide ((cameD p).1 = (Sum.inl (to : Int) : Key)) = false := by
        simp only [cameD, decide_eq_false_iff_not, Sum.inl.injEq]
        omega
      have e2 : (p.1 == to) = false := by simp [e]
      rw [e1, e2]
      exact ih
theorem whence_isIn (came : List (Nat × Nat)) (to : Nat) : (whence came to).isSome = isIn came to := by
  unfold whence isIn
  rw [Option.isSome_map]
  induction came with
  | nil => rfl
  | cons p came ih =>
    rw [List.find?_cons, List.any_cons, ← ih]
    cases p.1 == to <;> rfl
theorem came_in (came : List (Nat × Nat)) (to : Nat) : (valG (came.map cameD) (Sum.inl (to : Int) : Key)).isSome = isIn came to := by
  rw [came_val, Option.isSome_map, whence_isIn]
theorem came_put {came : List (Nat × Nat)} {to low : Nat} (h : isIn came to = false) : putG (came.map cameD) (Sum.inl (to : Int) : Key) (natD low) = (came ++ [(to, low)]).map cameD := by
  have e : ((came.map cameD).any fun kv => decide (kv.1 = (Sum.inl (to : Int) : Key))) = false := by
    rw [List.any_map, List.any_eq_false]
    unfold isIn at h
    rw [List.any_eq_false] at h
    intro p hp
    have := h p hp
    simp only [Function.comp, cameD, decide_eq_true_eq, Sum.inl.injEq]
    simp at this
    omega
  unfold putG
  rw [e, if_neg (by decide), List.map_append]
  rfl
/-- a matching at p: its edges at u, above at a, below at b -/
structure MatM (C : Addr) (M : Mp) (p u a b : Addr) (ups : List (List Nat)) (m : MS) : Prop where
  ho : M p = some (.ins C [("ups", .ref u), ("above", .ref a), ("below", .ref b)])
  hu : M u = some (.lst (ups.map upD))
  ha : M a = some (.lst (m.1.map D.int))
  hb : M b = some (.lst (m.2.map D.int))
  ua : u ≠ a
  ub : u ≠ b
  ab : a ≠ b
theorem MatM.ext {C : Addr} {M M' : Mp} {p u a b : Addr} {ups : List (List Nat)} {m : MS} (h : MatM C M p u a b ups m) (x : Ext M M') : MatM C M' p u a b ups m := ⟨x _ _ h.ho, x _ _ h.hu, x _ _ h.ha, x _ _ h.hb, h.ua, h.ub, h.ab⟩
theorem MatM.pa {C : Addr} {M : Mp} {p u a b : Addr} {ups : List (List Nat)} {m : MS} (h : MatM C M p u a b ups m) : p ≠ a ∧ p ≠ b ∧ p ≠ u := by
  refine ⟨fun z => ?_, fun z => ?_, fun z => ?_⟩
  · have := h.ho
    rw [z, h.ha] at this
    cases this
  · have := h.ho
    rw [z, h.hb] at this
    cases this
  · have := h.ho
    rw [z, h.hu] at this
    cases this
/-- both lists written -/
theorem MatM.put {C : Addr} {M : Mp} {p u a b : Addr} {ups : List (List Nat)} {m m' : MS} (h : MatM C M p u a b ups m) : MatM C (mup (mup M a (.lst (m'.1.map D.int))) b (.lst (m'.2.map D.int))) p u a b ups m' := by
  obtain ⟨h1, h2, h3⟩ := h.pa
  refine ⟨?_, ?_, ?_, mup_same, h.ua, h.ub, h.ab⟩
  · rw [mup_ne h2, mup_ne h1]; exact h.ho
  · rw [mup_ne h.ub, mup_ne h.ua]; exact h.hu
  · rw [mup_ne h.ab]; exact mup_same
theorem atI_int {l : List Int} {i : Nat} (h : i < l.length) : atI (l.map D.int) (i : Int) = some (.int (l.getD i (-1))) := by
  refine atMn ?_
  rw [List.getD_eq_getElem?_getD, List.getElem?_eq_getElem h]
  rfl
theorem atI_nat {l : List Nat} {i : Nat} (h : i < l.length) : atI (l.map natD) (i : Int) = some (natD (l.getD i 0)) := by
  refine atMn ?_
  rw [List.getD_eq_getElem?_getD, List.getElem?_eq_getElem h]
  rfl
theorem atI_up {l : List (List Nat)} {i : Nat} (h : i < l.length) : atI (l.map upD) (i : Int) = some (upD (l.getD i [])) := by
  refine atMn ?_
  rw [List.getD_eq_getElem?_getD, List.getElem?_eq_getElem h]
  rfl
theorem seqSq {M : Mp} {d : D} {xs : List D} (h : sqD M d = some xs) : seqD M d = some xs := by
  rcases sq_cases h with rfl | ⟨p, rfl, _⟩ | ⟨ns, rfl, rfl⟩
  · rfl
  · exact h
  · rfl
/-- the values of a matching stay in range -/
def Bnds (n : Nat) (m : MS) : Prop := m.1.length = n ∧ m.2.length = n ∧ ∀ t l : Nat, m.2.getD t (-1) = (l : Int) → l < n
theorem putA {x y : D} : putD ("above" : Str) x [(("ups" : Str), y)] = [(("ups" : Str), y), (("above" : Str), x)] := rfl
theorem putB {x y z : D} : putD ("below" : Str) x [(("ups" : Str), y), (("above" : Str), z)] = [(("ups" : Str), y), (("above" : Str), z), (("below" : Str), x)] := rfl
theorem rowF_succ (ab : List Int) (f a : Nat) : rowF ab (f + 1) a = if 0 ≤ ab.getD a (-1) then a :: rowF ab f (ab.getD a (-1)).toNat else [a] := rfl
theorem rowF_len (ab : List Int) : ∀ (f a : Nat), (rowF ab f a).length ≤ f + 1
  | 0, a => by simp [rowF]
  | f + 1, a => by
    rw [rowF_succ]
    split
    · have := rowF_len ab f (ab.getD a (-1)).toNat
      rw [List.length_cons]
      omega
    · simp
theorem valG_any {κ β : Type} [DecidableEq κ] (kvs : List (κ × β)) (k : κ) : (valG kvs k).isSome = kvs.any fun p => decide (p.1 = k) := by
  unfold valG
  rw [Option.isSome_map]
  induction kvs with
  | nil => rfl
  | cons p kvs ih =>
    rw [List.find?_cons, List.any_cons, ← ih]
    cases decide (p.1 = k) <;> rfl
theorem putG_any {κ β : Type} [DecidableEq κ] (kvs : List (κ × β)) (k k' : κ) (v : β) : (valG (putG kvs k v) k').isSome = (decide (k = k') || (valG kvs k').isSome) := by
  rw [valG_any, valG_any]
  unfold putG
  split
  · rename_i h
    rw [List.any_map]
    have e : ((fun p => decide (p.1 = k')) ∘ fun kv : κ × β => if kv.1 = k then (kv.1, v) else kv) = fun p => decide (p.1 = k') := by
      funext p
      simp only [Function.comp]
      split <;> rfl
    rw [e]
    by_cases z : k = k'
    · subst z
      rw [h]
      simp
    · simp [z]
  · rw [List.any_append]
    simp [Bool.or_comm]
def knownF (d : D) : Option (Key × D) := match d with
  | .int i => some (.inl i, .bl true)
  | _ => none
theorem known_in (k : Nat) (xs : List Nat) : (valG (dcF knownF (xs.map natD)) (Sum.inl (k : Int) : Key)).isSome = decide (k ∈ xs) := by
  rw [← List.reverse_reverse xs]
  induction xs.reverse with
  | nil => simp [dcF, valG]
  | cons x t ih =>
    rw [List.reverse_cons, List.map_append, List.map_singleton, dcF_snoc]
    show (valG (putG _ (Sum.inl (x : Int)) _) _).isSome = _
    rw [putG_any, ih]
    have : decide ((Sum.inl (x : Int) : Key) = Sum.inl (k : Int)) = decide (k = x) := decide_eq_decide.mpr ⟨fun z => by
      have := Sum.inl.inj z
      omega, fun z => by rw [z]⟩
    rw [this]
    simp only [List.mem_append, List.mem_singleton, Bool.decide_or]
    rw [Bool.or_comm]
/-- all cells but p stay -/
def But (p : Addr) (M M' : Mp) : Prop := ∀ x c, x ≠ p → M x = some c → M' x = some c
theorem sq_but {p : Addr} {M M' : Mp} {d : D} {xs : List D} {C : Addr} {fs : List (Str × D)} (x : But p M M') (hp : M p = some (.ins C fs)) (h : sqD M d = some xs) : sqD M' d = some xs := by
  rcases sq_cases h with rfl | ⟨q, rfl, e⟩ | ⟨ns, rfl, rfl⟩
  · rfl
  · exact sqD_ref (x q _ (fun z => by rw [z, hp] at e; cases e) e)
  · rfl
theorem ext_put2 {M M' : Mp} {a b : Addr} {A B : Cell} (x : Ext M M') : Ext (mup (mup M a A) b B) (mup (mup M' a A) b B) := fun q c h => by
  by_cases e : q = b
  · subst e
    rw [mup_same] at h ⊢
    exact h
  · rw [mup_ne e] at h ⊢
    by_cases e2 : q = a
    · subst e2
      rw [mup_same] at h ⊢
      exact h
    · rw [mup_ne e2] at h ⊢
      exact x _ _ h
theorem came_keys (came : List (Nat × Nat)) : ((came.map cameD).map fun kv => keyV kv.1) = (came.map (·.1)).map natD := by
  rw [List.map_map, List.map_map]
  rfl
theorem natL (l : List Nat) : l.map natD = (l.map fun k : Nat => (k : Int)).map D.int := by
  rw [List.map_map]
  rfl
theorem Con.bnds {ups : List (List Nat)} {m : MS} (C : Con ups m) : Bnds ups.length m := ⟨C.l1, C.l2, fun t l h => (C.b t l h).1⟩
end LW
namespace LW
open DL
def noSp : Sp2 := (0, 0)
theorem servedBy_iff {ks : List Sp2} {m : Mk} : servedBy ks m = true ↔ ∃ k ∈ ks, servs k m := by
  unfold servedBy
  rw [List.any_eq_true]
  simp
theorem servedBy_at {ks : List Sp2} {m : Mk} (h : servedBy ks m = true) : ∃ (i : Nat) (k : Sp2), ks[i]? = some k ∧ servs k m := by
  obtain ⟨k, hk, hs⟩ := servedBy_iff.mp h
  obtain ⟨i, hi⟩ := List.mem_iff_getElem?.mp hk
  exact ⟨i, k, hi, hs⟩
theorem servedBy_of {ks : List Sp2} {m : Mk} {i : Nat} {k : Sp2} (h : ks[i]? = some k) (hs : servs k m) : servedBy ks m = true := servedBy_iff.mpr ⟨k, List.mem_of_getElem? h, hs⟩
theorem getD_of {α : Type} {l : List α} {i : Nat} {x d : α} (h : l[i]? = some x) : l.getD i d = x := by rw [List.getD_eq_getElem?_getD, h]; rfl
/-- the ends of stretches stand among those of others -/
def EndsIn (ks : List Sp2) (P : Int → Prop) : Prop := ∀ k ∈ ks, P k.1 ∧ P k.2 ∧ k.1 < k.2
end LW
namespace LW
open DL
def minI : List Int → Int
  | [] => 0
  | x :: r => r.foldl min x
def maxI : List Int → Int
  | [] => 0
  | x :: r => r.foldl max x
theorem foldl_minI : ∀ (r : List Int) (x : Int), (r.foldl min x = x ∨ r.foldl min x ∈ r) ∧ r.foldl min x ≤ x ∧ ∀ y ∈ r, r.foldl min x ≤ y
  | [], x => ⟨.inl rfl, Int.le_refl _, fun y h => (by cases h)⟩
  | y :: r, x => by
    obtain ⟨h1, h2, h3⟩ := foldl_minI r (min x y)
    rw [List.foldl_cons]
    refine ⟨?_, by omega, fun z hz => ?_⟩
    · rcases h1 with e | e
      · rw [e]
        rcases Int.le_total x y with q | q
        · exact .inl (by omega)
        · exact .inr (by rw [show min x y = y by omega]; exact List.mem_cons_self)
      · exact .inr (List.mem_cons_of_mem _ e)
    · rcases List.mem_cons.mp hz with rfl | hz
      · omega
      · exact h3 z hz
theorem foldl_maxI : ∀ (r : List Int) (x : Int), (r.foldl max x = x ∨ r.foldl max x ∈ r) ∧ x ≤ r.foldl max x ∧ ∀ y ∈ r, y ≤ r.foldl max x
  | [], x => ⟨.inl rfl, Int.le_refl _, fun y h => (by cases h)⟩
  | y :: r, x => by
    obtain ⟨h1, h2, h3⟩ := foldl_maxI r (max x y)
    rw [List.foldl_cons]
    refine ⟨?_, by omega, fun z hz => ?_⟩
    · rcases h1 with e | e
      · rw [e]
        rcases Int.le_total x y with q | q
        · exact .inr (by rw [show max x y = y by omega]; exact List.mem_cons_self)
        · exact .inl (by omega)
      · exact .inr (List.mem_cons_of_mem _ e)
    · rcases List.mem_cons.mp hz with rfl | hz
      · omega
      · exact h3 z hz
theorem minI_ok {l : List Int} (h : l ≠ []) : minI l ∈ l ∧ ∀ y ∈ l, minI l ≤ y := by
  cases l with
  | nil => exact absurd rfl h
  | cons x r =>
    obtain ⟨h1, h2, h3⟩ := foldl_minI r x
    refine ⟨?_, fun y hy => ?_⟩
    · rcases h1 with e | e
      · show r.foldl min x ∈ _
        rw [e]
        exact List.mem_cons_self
      · exact List.mem_cons_of_mem _ e
    · rcases List.mem_cons.mp hy with rfl | hy
      · exact h2
      · exact h3 y hy
theorem maxI_ok {l : List Int} (h : l ≠ []) : maxI l ∈ l ∧ ∀ y ∈ l, y ≤ maxI l := by
  cases l with
  | nil => exact absurd rfl h
  | cons x r =>
    obtain ⟨h1, h2, h3⟩ := foldl_maxI r x
    refine ⟨?_, fun y hy => ?_⟩
    · rcases h1 with e | e
      · show r.foldl max x ∈ _
        rw [e]
        exact List.mem_cons_self
      · exact List.mem_cons_of_mem _ e
    · rcases List.mem_cons.mp hy with rfl | hy
      · exact h2
      · exact h3 y hy
theorem er_iff {ks : List Sp2} {i : Nat} {m : Mk} : servedBy (ks.eraseIdx i) m = true ↔ ∃ (n : Nat) (q : Sp2), n ≠ i ∧ ks[n]? = some q ∧ servs q m := by
  rw [servedBy_iff]
  constructor
  · rintro ⟨k, hk, hs⟩
    obtain ⟨n, h1, h2⟩ := List.mem_eraseIdx_iff_getElem?.mp hk
    exact ⟨n, k, h1, h2, hs⟩
  · rintro ⟨n, q, h1, h2, hs⟩
    exact ⟨q, List.mem_eraseIdx_iff_getElem?.mpr ⟨n, h1, h2⟩, hs⟩
def aloneF (ks : List Sp2) (i : Nat) (ms : List Mk) : List Int := (ms.filter fun m => decide (servs (ks.getD i noSp) m) && !servedBy (ks.eraseIdx i) m).map (·.1)
theorem mem_alone {ks : List Sp2} {i : Nat} {ms : List Mk} {c : Int} {k : Sp2} (h : ks[i]? = some k) : c ∈ aloneF ks i ms ↔ ∃ m ∈ ms, m.1 = c ∧ servs k m ∧ servedBy (ks.eraseIdx i) m = false := by
  unfold aloneF
  rw [List.mem_map, getD_of h]
  constructor
  · rintro ⟨m, hm, e⟩
    obtain ⟨h1, h2⟩ := List.mem_filter.mp hm
    simp only [Bool.and_eq_true, decide_eq_true_eq, Bool.not_eq_true'] at h2
    exact ⟨m, h1, e, h2⟩
  · rintro ⟨m, hm, e, h1, h2⟩
    exact ⟨m, List.mem_filter.mpr ⟨hm, by simp [h1, h2]⟩, e⟩
def takenIn (pl : List Int) (left : Bool) (k : Sp2) (cs : List Int) : Sp2 := if left = true then (minI cs, k.2) else (k.1, minI (pl.filter fun p => decide (maxI cs < p)))
structure TI (pl : List Int) (ms : List Mk) (ks : List Sp2) : Prop where
  sv : ∀ m ∈ ms, servedBy ks m = true
  en : EndsIn ks (· ∈ pl)
section
variable {pl : List Int} {ms : List Mk} {left : Bool}
theorem taken_in {ks : List Sp2} {i : Nat} {k : Sp2} (hc : ∀ m ∈ ms, m.1 ∈ pl) (T : TI pl ms ks) (h : ks[i]? = some k) (hne : aloneF ks i ms ≠ []) :
    within (takenIn pl left k (aloneF ks i ms)) k ∧ (takenIn pl left k (aloneF ks i ms)).1 ∈ pl ∧ (takenIn pl left k (aloneF ks i ms)).2 ∈ pl ∧ (takenIn pl left k (aloneF ks i ms)).1 < (takenIn pl left k (aloneF ks i ms)).2 ∧
    ∀ m ∈ ms, servs k m → servedBy (ks.eraseIdx i) m = false → servs (takenIn pl left k (aloneF ks i ms)) m := by
  obtain ⟨n1, n2⟩ := minI_ok hne
  obtain ⟨x1, x2⟩ := maxI_ok hne
  have inK : ∀ c ∈ aloneF ks i ms, k.1 ≤ c ∧ c < k.2 ∧ c ∈ pl := fun c hc2 => by
    obtain ⟨m, hm, e, hs, _⟩ := (mem_alone h).mp hc2
    unfold servs at hs
    rw [← e]
    exact ⟨by omega, by omega, hc m hm⟩
  obtain ⟨e1, e2, e3⟩ := T.en k (List.mem_of_getElem? h)
  have own : ∀ m ∈ ms, servs k m → servedBy (ks.eraseIdx i) m = false → m.1 ∈ aloneF ks i ms := fun m hm h1 h2 => (mem_alone h).mpr ⟨m, hm, rfl, h1, h2⟩
  unfold takenIn
  cases left with
  | true =>
    rw [if_pos rfl]
    have := inK _ n1
    refine ⟨by unfold within; dsimp only; omega, this.2.2, e2, this.2.1, fun m hm h1 h2 => ?_⟩
    have := n2 _ (own m hm h1 h2)
    unfold servs at *
    dsimp only
    omega
  | false =>
    rw [if_neg (by decide)]
    have hmx := inK _ x1
    have hk2 : k.2 ∈ pl.filter fun p => decide (maxI (aloneF ks i ms) < p) := List.mem_filter.mpr ⟨e2, by simpa using hmx.2.1⟩
    obtain ⟨f1, f2⟩ := minI_ok (List.ne_nil_of_mem hk2)
    obtain ⟨f3, f4⟩ := List.mem_filter.mp f1
    have f4 : maxI (aloneF ks i ms) < minI (pl.filter fun p => decide (maxI (aloneF ks i ms) < p)) := by simpa using f4
    have f5 := f2 _ hk2
    refine ⟨by unfold within; dsimp only; omega, e1, f3, by dsimp only; omega, fun m hm h1 h2 => ?_⟩
    have := x2 _ (own m hm h1 h2)
    unfold servs at *
    dsimp only
    omega
theorem TI.set {ks : List Sp2} {i : Nat} {k : Sp2} (hc : ∀ m ∈ ms, m.1 ∈ pl) (T : TI pl ms ks) (h : ks[i]? = some k) (hne : aloneF ks i ms ≠ []) : TI pl ms (ks.set i (takenIn pl left k (aloneF ks i ms))) := by
  obtain ⟨_, t2, t3, t4, t5⟩ := taken_in (left := left) hc T h hne
  have hil := (List.getElem?_eq_some_iff.mp h).1
  refine ⟨fun m hm => ?_, fun e he => ?_⟩
  · by_cases z : servedBy (ks.eraseIdx i) m = true
    · obtain ⟨n, q, h1, h2, h3⟩ := er_iff.mp z
      exact servedBy_of (i := n) (by rw [List.getElem?_set_ne (Ne.symm h1)]; exact h2) h3
    · have z : servedBy (ks.eraseIdx i) m = false := by simpa using z
      obtain ⟨n, q, h1, h2⟩ := servedBy_at (T.sv m hm)
      have hn : n = i := Classical.byContradiction fun y => by
        have := er_iff.mpr ⟨n, q, y, h1, h2⟩
        rw [z] at this
        cases this
      subst hn
      rw [h] at h1
      cases h1
      exact servedBy_of (i := n) (by rw [List.getElem?_set_self hil]) (t5 m hm h2 z)
  · rcases List.mem_or_eq_of_mem_set he with he | rfl
    · exact T.en e he
    · exact ⟨t2, t3, t4⟩
theorem TI.erase {ks : List Sp2} {i : Nat} {k : Sp2} (T : TI pl ms ks) (h : ks[i]? = some k) (hne : aloneF ks i ms = []) : TI pl ms (ks.eraseIdx i) := by
  refine ⟨fun m hm => ?_, fun e he => T.en e (List.mem_of_mem_eraseIdx he)⟩
  by_cases z : servedBy (ks.eraseIdx i) m = true
  · exact z
  · have z : servedBy (ks.eraseIdx i) m = false := by simpa using z
    obtain ⟨n, q, h1, h2⟩ := servedBy_at (T.sv m hm)
    have hn : n = i := Classical.byContradiction fun y => by
      have := er_iff.mpr ⟨n, q, y, h1, h2⟩
      rw [z] at this
      cases this
    subst hn
    rw [h] at h1
    cases h1
    have : m.1 ∈ aloneF ks n ms := (mem_alone h).mpr ⟨m, hm, rfl, h2, z⟩
    rw [hne] at this
    cases this
end
instance (a b : Sp2) : Decidable (spLt a b) := by unfold spLt; infer_instance
instance (a b : Mk) : Decidable (mkLt a b) := by unfold mkLt; infer_instance
section
variable {α : Type} {r : α → α → Prop} [DecidableRel r]
/-- sorted lists of the same members, each as often, are one -/
theorem sorted_uniq (an : ∀ a b, ¬ r a b → ¬ r b a → a = b) : ∀ {a b : List α}, a.Perm b → a.Pairwise (fun x y => ¬ r y x) → b.Pairwise (fun x y => ¬ r y x) → a = b
  | [], b, h, _, _ => (List.Perm.nil_eq h)
  | x :: a, [], h, _, _ => by
    have := h.length_eq
    simp at this
  | x :: a, y :: b, h, h1, h2 => by
    obtain ⟨p1, p2⟩ := List.pairwise_cons.mp h1
    obtain ⟨q1, q2⟩ := List.pairwise_cons.mp h2
    have e : x = y := by
      rcases List.mem_cons.mp (h.mem_iff.mp List.mem_cons_self) with e | hx
      · exact e
      · rcases List.mem_cons.mp (h.mem_iff.mpr List.mem_cons_self) with e | hy
        · exact e.symm
        · exact an _ _ (p1 y hy |> fun z => (q1 x hx)) (p1 y hy)
    subst e
    rw [sorted_uniq an ((List.perm_cons x).mp h) p2 q2]
end
theorem mkLt_an (a b : Mk) (h1 : ¬ mkLt a b) (h2 : ¬ mkLt b a) : a = b := by unfold mkLt at *; exact Prod.ext (by omega) (Prod.ext (by omega) (by omega))
section
variable {pl : List Int} {ms : List Mk}
theorem TI.perm {a b : List Sp2} (h : a.Perm b) (T : TI pl ms a) : TI pl ms b := ⟨fun m hm => by
  obtain ⟨k, hk, hs⟩ := servedBy_iff.mp (T.sv m hm)
  exact servedBy_iff.mpr ⟨k, h.mem_iff.mp hk, hs⟩, fun e he => T.en e (h.mem_iff.mpr he)⟩
end
end LW
namespace LW
open DL
def dd : List Sp2 → List Sp2
  | [] => []
  | s :: l => if s ∈ dd l then dd l else s :: dd l
/-- the ends are few -/
def FewE (as : List Sp2) : Prop := ∃ N : List Int, N.length ≤ 122 ∧ ∀ s ∈ as, s.1 ∈ N ∧ s.2 ∈ N
theorem FewE.sub {as bs : List Sp2} (h : FewE as) (hs : ∀ s ∈ bs, s ∈ as) : FewE bs := by
  obtain ⟨N, h1, h2⟩ := h
  exact ⟨N, h1, fun s h => h2 s (hs s h)⟩
end LW
namespace LW
open DL
/-- essential marks of asks within eight cells are few -/
theorem ess_few {as : List Sp2} {ms : List Mk} (h : EssP as ms) (h8 : ∀ s ∈ as, 0 ≤ s.1 ∧ s.1 < s.2 ∧ s.2 ≤ 8) : ms.length ≤ 36 := by
  have in1 : ∀ m ∈ ms, 0 ≤ m.2.1 ∧ m.2.1 ≤ m.1 ∧ m.1 < 8 := fun m hm => by
    obtain ⟨h1, h2, h3, _⟩ := mem_leastAt.mp ((h.2 m).mp hm)
    have := h8 _ h1
    dsimp only at this h2 h3
    omega
  have nd : (ms.map fun m => (m.1.toNat, m.2.1.toNat)).Nodup := by
    refine List.pairwise_map.mpr (h.1.imp_of_mem fun {a b} ha hb hlt e => ?_)
    have ia := in1 a ha
    have ib := in1 b hb
    have e1 := congrArg Prod.fst e
    have e2 := congrArg Prod.snd e
    dsimp only at e1 e2
    have c1 : a.1 = b.1 := by omega
    have c2 : a.2.1 = b.2.1 := by omega
    obtain ⟨a1, a2, a3, a4⟩ := mem_leastAt.mp ((h.2 a).mp ha)
    obtain ⟨b1, b2, b3, b4⟩ := mem_leastAt.mp ((h.2 b).mp hb)
    dsimp only at a1 a2 a3 a4 b1 b2 b3 b4
    have c3 : a.2.2 = b.2.2 := by
      rcases Int.lt_trichotomy a.2.2 b.2.2 with z | z | z
      · exact absurd (by unfold within; dsimp only; omega) (b4 _ a1 (by dsimp only; omega) (by dsimp only; omega) fun y => by
          have := congrArg Prod.snd y
          dsimp only at this
          omega)
      · exact z
      · exact absurd (by unfold within; dsimp only; omega) (a4 _ b1 (by dsimp only; omega) (by dsimp only; omega) fun y => by
          have := congrArg Prod.snd y
          dsimp only at this
          omega)
    unfold mkLt at hlt
    omega
  have := nodup_sub nd (b := (List.range 8).flatMap fun c => (List.range (c + 1)).map fun a => (c, a)) fun x hx => by
    obtain ⟨m, hm, rfl⟩ := List.mem_map.mp hx
    have := in1 m hm
    refine List.mem_flatMap.mpr ⟨m.1.toNat, List.mem_range.mpr (by omega), List.mem_map.mpr ⟨m.2.1.toNat, List.mem_range.mpr (by omega), rfl⟩⟩
  rw [List.length_map] at this
  exact Nat.le_trans this (by decide)
end LW
namespace LW
open DL
section
variable {ups : List (List Nat)} {m : MS} {rk : Nat → Nat}
theorem rowF_step (C : Con ups m) {f a : Nat} (h0 : 0 ≤ m.1.getD a (-1)) : ∃ t : Nat, rowF m.1 (f + 1) a = a :: rowF m.1 f t ∧ m.1.getD a (-1) = (t : Int) ∧ t < ups.length ∧ m.2.getD t (-1) = (a : Int) ∧ t ∈ ups.getD a [] := by
  obtain ⟨t, e, ht, hb, hu⟩ := C.edge h0
  have et : (m.1.getD a (-1)).toNat = t := by omega
  refine ⟨t, ?_, e, ht, hb, hu⟩
  conv => lhs; unfold rowF
  rw [if_pos h0, et]
theorem rowF_end {f a : Nat} (h0 : ¬ 0 ≤ m.1.getD a (-1)) : rowF m.1 (f + 1) a = [a] := by
  unfold rowF
  rw [if_neg h0]
/-- what stands in a row, but its head, has one below it there -/
theorem rowF_pred (C : Con ups m) : ∀ (f a x : Nat), x ∈ rowF m.1 f a → x = a ∨ ∃ l ∈ rowF m.1 f a, m.2.getD x (-1) = (l : Int) ∧ x ∈ ups.getD l []
  | 0, a, x, h => .inl (by simpa [rowF] using h)
  | f + 1, a, x, h => by
    by_cases h0 : 0 ≤ m.1.getD a (-1)
    · obtain ⟨t, er, e, ht, hb, hu⟩ := rowF_step C (f := f) h0
      rw [er] at h ⊢
      rcases List.mem_cons.mp h with h | h
      · exact .inl h
      · right
        rcases rowF_pred C f t x h with rfl | ⟨l, hl, e2, e3⟩
        · exact ⟨a, List.mem_cons_self, hb, hu⟩
        · exact ⟨l, List.mem_cons_of_mem _ hl, e2, e3⟩
    · rw [rowF_end h0] at h
      exact .inl (by simpa using h)
theorem row_one (C : Con ups m) (R : Rank ups rk) : ∀ (n f g a b x : Nat), rk x ≤ n → m.2.getD a (-1) < 0 → m.2.getD b (-1) < 0 → x ∈ rowF m.1 f a → x ∈ rowF m.1 g b → a = b := by
  intro n
  induction n with
  | zero =>
    intro f g a b x hn ha hb hx hy
    rcases rowF_pred C f a x hx with rfl | ⟨l, hl, e, eu⟩
    · rcases rowF_pred C g b x hy with rfl | ⟨l2, _, e2, _⟩
      · rfl
      · omega
    · have := R.up l x eu
      omega
  | succ n ih =>
    intro f g a b x hn ha hb hx hy
    rcases rowF_pred C f a x hx with rfl | ⟨l, hl, e, eu⟩
    · rcases rowF_pred C g b x hy with rfl | ⟨l2, _, e2, _⟩
      · rfl
      · omega
    · rcases rowF_pred C g b x hy with rfl | ⟨l2, hl2, e2, eu2⟩
      · omega
      · have : l2 = l := by omega
        subst this
        have := R.up l2 x eu
        exact ih f g a b l2 (by omega) ha hb hl hl2
/-- of two in a row the one ahead is P to the one behind -/
theorem rowF_pw (C : Con ups m) {P : Nat → Nat → Prop} (rf : ∀ a, a < ups.length → P a a) (tr : ∀ a b c, P a b → P b c → P a c) (ed : ∀ l, ∀ t ∈ ups.getD l [], P l t) : ∀ (f a : Nat), a < ups.length → (rowF m.1 f a).Pairwise P
  | 0, a, _ => by simp [rowF]
  | f + 1, a, ha => by
    by_cases h0 : 0 ≤ m.1.getD a (-1)
    · obtain ⟨t, er, e, ht, hb, hu⟩ := rowF_step C (f := f) h0
      rw [er]
      obtain ⟨h1, _⟩ := rowF_rel C rf tr ed f t ht
      exact List.pairwise_cons.mpr ⟨fun x hx => tr _ _ _ (ed a t hu) (h1 x hx), rowF_pw C rf tr ed f t ht⟩
    · rw [rowF_end h0]
      simp
theorem rowF_lt (C : Con ups m) (R : Rank ups rk) : ∀ (f a : Nat), (∀ x ∈ rowF m.1 f a, rk a ≤ rk x) ∧ (rowF m.1 f a).Nodup
  | 0, a => by simp [rowF]
  | f + 1, a => by
    by_cases h0 : 0 ≤ m.1.getD a (-1)
    · obtain ⟨t, er, e, ht, hb, hu⟩ := rowF_step C (f := f) h0
      obtain ⟨h1, h2⟩ := rowF_lt C R f t
      have := R.up a t hu
      rw [er]
      refine ⟨fun x hx => ?_, List.nodup_cons.mpr ⟨fun z => ?_, h2⟩⟩
      · rcases List.mem_cons.mp hx with rfl | hx
        · exact Nat.le_refl _
        · have := h1 x hx
          omega
      · have := h1 a z
        omega
    · rw [rowF_end h0]
      simp
end
theorem starts_lt {ms : List Mk} {s : Nat} (hs : s ∈ startsF (matchOf ms)) : s < (upsOf ms).length ∧ (matchOf ms).2.getD s (-1) < 0 := by
  unfold startsF at hs
  obtain ⟨h1, h2⟩ := List.mem_filter.mp hs
  have := List.mem_range.mp h1
  rw [(matchOf_mi ms).con.l2] at this
  exact ⟨this, of_decide_eq_true h2⟩
theorem rowsF_perm {ms : List Mk} (nd : ms.Nodup) : (rowsF (matchOf ms)).flatten.Perm (List.range ms.length) := by
  obtain ⟨rk, R⟩ := upsOf_rank nd
  have M := matchOf_mi ms
  have l1 := M.con.l1
  have n1 : (rowsF (matchOf ms)).flatten.Nodup := by
    unfold rowsF
    refine List.pairwise_flatten.mpr ⟨fun r hr => ?_, ?_⟩
    · obtain ⟨s, hs, rfl⟩ := List.mem_map.mp hr
      exact (rowF_lt M.con R _ s).2
    · refine List.pairwise_map.mpr ?_
      have : (startsF (matchOf ms)).Nodup := by unfold startsF; exact List.nodup_range.filter _
      refine this.imp_of_mem fun {a b} ha hb hab => ?_
      intro x hx y hy e
      subst e
      exact hab (row_one M.con R _ _ _ a b x (Nat.le_refl _) (starts_lt ha).2 (starts_lt hb).2 hx hy)
  refine (List.perm_ext_iff_of_nodup n1 List.nodup_range).mpr fun x => ?_
  rw [List.mem_flatten, List.mem_range]
  constructor
  · rintro ⟨r, hr, hx⟩
    obtain ⟨s, hs, rfl⟩ := List.mem_map.mp hr
    have := rowF_mem M.con _ s (starts_lt hs).1 x hx
    rw [upsOf_len] at this
    exact this
  · intro hx
    obtain ⟨s, hs, h⟩ := rows_cover M.con R _ x (Nat.le_refl _) (by rw [upsOf_len]; exact hx)
    refine ⟨_, List.mem_map.mpr ⟨s, hs, rfl⟩, ?_⟩
    rw [l1]
    exact h
theorem range_getD (ms : List Mk) : (List.range ms.length).map (fun a => ms.getD a noMk) = ms := by
  refine List.ext_getElem? fun i => ?_
  rw [List.getElem?_map]
  by_cases h : i < ms.length
  · rw [List.getElem?_range h, List.getElem?_eq_getElem h]
    show some (ms.getD i noMk) = _
    rw [List.getD_eq_getElem?_getD, List.getElem?_eq_getElem h]
    rfl
  · rw [List.getElem?_eq_none (by simpa using h), List.getElem?_eq_none (by omega)]
    rfl
/-- every mark stands once in the rows -/
theorem rowsOf_perm {ms : List Mk} (nd : ms.Nodup) : (rowsOf ms).flatten.Perm ms := by
  have := (rowsF_perm nd).map fun a => ms.getD a noMk
  rw [range_getD] at this
  unfold rowsOf
  rw [← List.map_flatten]
  exact this
theorem rowsOf_pw (ms : List Mk) : ∀ r ∈ rowsOf ms, r ≠ [] ∧ r.Pairwise und := fun r hr => by
  obtain ⟨q, hq, rfl⟩ := List.mem_map.mp hr
  obtain ⟨s, hs, rfl⟩ := List.mem_map.mp hq
  refine ⟨fun z => rowF_ne _ _ _ (List.map_eq_nil_iff.mp z), List.pairwise_map.mpr ?_⟩
  exact rowF_pw (P := fun a b => und (ms.getD a noMk) (ms.getD b noMk)) (matchOf_mi ms).con (fun _ _ => und_refl _) (fun _ _ _ => und_trans) (fun l t ht => (mem_upsOf.mp ht).2.2.2) _ s (starts_lt hs).1
theorem pw_any {r : List Mk} (h : r.Pairwise und) {x y : Mk} (hx : x ∈ r) (hy : y ∈ r) : und x y ∨ und y x := by
  induction h with
  | nil => cases hx
  | cons h1 _ ih =>
    rcases List.mem_cons.mp hx with e1 | hx2
    · rcases List.mem_cons.mp hy with e2 | hy2
      · rw [e1, e2]; exact .inl (und_refl _)
      · rw [e1]; exact .inl (h1 _ hy2)
    · rcases List.mem_cons.mp hy with e2 | hy2
      · rw [e2]; exact .inr (h1 _ hx2)
      · exact ih hx2 hy2
/-- as many unlike ones as rows -/
theorem unlike_rows {ms : List Mk} (nd : ms.Nodup) : (unlikeOf ms).length = (rowsOf ms).length := by
  refine Nat.le_antisymm ?_ (rowsOf_len ms)
  have key : ∀ (U : List Mk) (Rs : List (List Mk)), U.Nodup → (U.Pairwise fun x y => ¬ und x y ∧ ¬ und y x) → (∀ r ∈ Rs, r.Pairwise und) → (∀ x ∈ U, ∃ r ∈ Rs, x ∈ r) → U.length ≤ Rs.length := by
    intro U Rs
    induction Rs generalizing U with
    | nil =>
      intro _ _ _ h
      cases U with
      | nil => exact Nat.le_refl _
      | cons x _ => obtain ⟨r, hr, _⟩ := h x List.mem_cons_self; cases hr
    | cons r Rs ih =>
      intro hn hp hr hc
      by_cases hz : ∃ x ∈ U, x ∈ r
      · obtain ⟨x, hx, hxr⟩ := hz
        have := ih (U.erase x) (hn.erase x) (hp.sublist List.erase_sublist) (fun q hq => hr q (List.mem_cons_of_mem _ hq)) fun y hy => by
          have hyU := List.mem_of_mem_erase hy
          have hyx : y ≠ x := fun e => by
            rw [e] at hy
            exact (List.Nodup.not_mem_erase hn) hy
          obtain ⟨q, hq, hyq⟩ := hc y hyU
          rcases List.mem_cons.mp hq with rfl | hq
          · exfalso
            have two := pw_any (hr _ List.mem_cons_self) hxr hyq
            have nn : ∀ {l : List Mk}, (l.Pairwise fun x y => ¬ und x y ∧ ¬ und y x) → ∀ {a b : Mk}, a ∈ l → b ∈ l → a ≠ b → ¬ und a b ∧ ¬ und b a := by
              intro l hl
              induction hl with
              | nil => intro a b ha; cases ha
              | cons g1 _ g3 =>
                intro a b ha hb hab
                rcases List.mem_cons.mp ha with e1 | ha2
                · rcases List.mem_cons.mp hb with e2 | hb2
                  · exact absurd (e1.trans e2.symm) hab
                  · rw [e1]; exact g1 _ hb2
                · rcases List.mem_cons.mp hb with e2 | hb2
                  · rw [e2]; exact ⟨(g1 _ ha2).2, (g1 _ ha2).1⟩
                  · exact g3 ha2 hb2 hab
            have := nn hp hx hyU (Ne.symm hyx)
            rcases two with z | z
            · exact this.1 z
            · exact this.2 z
          · exact ⟨q, hq, hyq⟩
        rw [List.length_erase_of_mem hx] at this
        have := List.length_pos_of_mem hx
        rw [List.length_cons]
        omega
      · have := ih U hn hp (fun q hq => hr q (List.mem_cons_of_mem _ hq)) fun y hy => by
          obtain ⟨q, hq, hyq⟩ := hc y hy
          rcases List.mem_cons.mp hq with rfl | hq
          · exact absurd ⟨y, hy, hyq⟩ hz
          · exact ⟨q, hq, hyq⟩
        rw [List.length_cons]
        omega
  refine key (unlikeOf ms) (rowsOf ms) (unlikeOf_nodup nd) (unlikeOf_pw nd) (fun r hr => (rowsOf_pw ms r hr).2) fun x hx => ?_
  have := ((rowsOf_perm nd).mem_iff).mpr (unlikeOf_mem hx)
  obtain ⟨r, hr, h⟩ := List.mem_flatten.mp this
  exact ⟨r, hr, h⟩
end LW
namespace LW
open DL
def noC (ms : List Mk) (i j : Nat) : Prop := ∀ a b, ms[i]? = some a → ms[j]? = some b → ¬ (acr a b ∨ acr b a)
def FirstC (ms : List Mk) (i j : Nat) (a b : Mk) : Prop := i < j ∧ ms[i]? = some a ∧ ms[j]? = some b ∧ (acr a b ∨ acr b a) ∧ ∀ i' j', i' < j' → (i' < i ∨ i' = i ∧ j' < j) → noC ms i' j'
theorem FirstC.uniq {ms : List Mk} {i j i2 j2 : Nat} {a b a2 b2 : Mk} (h : FirstC ms i j a b) (g : FirstC ms i2 j2 a2 b2) : i2 = i ∧ j2 = j := by
  obtain ⟨h1, h2, h3, h4, h5⟩ := h
  obtain ⟨g1, g2, g3, g4, g5⟩ := g
  have n1 : ¬ (i2 < i ∨ i2 = i ∧ j2 < j) := fun z => h5 i2 j2 g1 z a2 b2 g2 g3 g4
  have n2 : ¬ (i < i2 ∨ i = i2 ∧ j < j2) := fun z => g5 i j h1 z a b h2 h3 h4
  omega
def pairC (i j : Nat) : DL.D := .tup [.int (i : Nat), .int (j : Nat)]
theorem noC_pw {fs : List Mk} (h : fs.Pairwise fun a c => ¬ (acr a c ∨ acr c a)) : ∀ i j, i < j → noC fs i j := fun i j hij a b ha hb hx => by
  obtain ⟨hi, ea⟩ := List.getElem?_eq_some_iff.mp ha
  obtain ⟨hj, eb⟩ := List.getElem?_eq_some_iff.mp hb
  have := List.pairwise_iff_getElem.mp h i j hi hj hij
  rw [ea, eb] at this
  exact this hx
theorem noC_no {fs : List Mk} (h : fs.Pairwise fun a c => ¬ (acr a c ∨ acr c a)) {i j : Nat} {a b : Mk} : ¬ FirstC fs i j a b := fun F => noC_pw h i j F.1 a b F.2.1 F.2.2.1 F.2.2.2.1
theorem take_flat {Rs : List (List Mk)} {i : Nat} {r : List Mk} (h : Rs[i]? = some r) : (Rs.take (i + 1)).flatten = (Rs.take i).flatten ++ r := by
  rw [List.take_add_one, h, List.flatten_append]
  simp
theorem pw_next {r : List Mk} (h : r.Pairwise und) {k : Nat} {x y : Mk} (hx : r[k]? = some x) (hy : r[k + 1]? = some y) : und x y := by
  obtain ⟨hi, ea⟩ := List.getElem?_eq_some_iff.mp hx
  obtain ⟨hj, eb⟩ := List.getElem?_eq_some_iff.mp hy
  have := List.pairwise_iff_getElem.mp h k (k + 1) hi hj (by omega)
  rw [ea, eb] at this
  exact this
theorem all2_sub {α : Type} {f : α → D} : ∀ {xs : List α} {os : List (Option D)}, All2 (fun x o => o = some (f x) ∨ o = none) xs os → ∃ ys : List α, ys.Sublist xs ∧ os.filterMap id = ys.map f
  | [], [], _ => ⟨[], List.Sublist.slnil, rfl⟩
  | [], _ :: _, h => by cases h
  | x :: xs, [], h => by cases h
  | x :: xs, o :: os, h => by
    cases h with
    | cons h1 h2 =>
      obtain ⟨ys, hs, e⟩ := all2_sub h2
      rcases h1 with rfl | rfl
      · exact ⟨x :: ys, hs.cons₂ x, by simp [e]⟩
      · exact ⟨ys, hs.cons x, by simp [e]⟩
theorem taken_pw {es ts ms : List Mk} (pm : ts.Perm (takenOf es)) (hs : ms.Sublist ts) : ms.Pairwise fun a c => ¬ (acr a c ∨ acr c a) := by
  have h := (takenOf_apart es)
  have h2 := (pm.pairwise_iff (R := fun a b => ¬ acr a b ∧ ¬ acr b a) fun {a b} h => ⟨h.2, h.1⟩).mpr h
  exact (h2.sublist hs).imp fun {a c} g w => w.elim g.1 g.2
theorem isEss_ok {as : List Sp2} {m : Mk} (h : isEss as m) (ok : ∀ s ∈ as, okS s) : okM m := by
  obtain ⟨h1, h2, h3, _⟩ := mem_leastAt.mp h
  have := ok _ h1
  unfold okS at this
  unfold okM
  dsimp only at this h2 h3 ⊢
  omega
def wide9 : List Mk := (List.range 61).map fun k : Nat => ((k : Int), (0 : Int), (61 : Int))
theorem und_wide {a c : Int} (h : a ≤ c) : und (a, 0, 61) (c, 0, 61) := ⟨h, Int.le_refl _, Int.le_refl _⟩
theorem wide_row {ms : List Mk} (pm : ms.Perm wide9) : rowsOf ms = [wide9] := by
  have ndw : wide9.Nodup := by
    unfold wide9
    refine List.pairwise_map.mpr (List.pairwise_lt_range.imp fun {a b} h e => ?_)
    have := congrArg Prod.fst e
    simp at this
    omega
  have nd : ms.Nodup := (pm.nodup_iff).mpr ndw
  have rp := rowsOf_perm nd
  have pw := rowsOf_pw ms
  have ul := unlike_rows nd
  have up := unlikeOf_pw nd
  have um : ∀ x ∈ unlikeOf ms, ∃ c : Int, x = (c, 0, 61) := fun x hx => by
    have := pm.mem_iff.mp (unlikeOf_mem hx)
    unfold wide9 at this
    obtain ⟨k, _, rfl⟩ := List.mem_map.mp this
    exact ⟨k, rfl⟩
  have u1 : (unlikeOf ms).length ≤ 1 := by
    match h : unlikeOf ms with
    | [] => simp
    | [_] => simp
    | x :: y :: l =>
      exfalso
      rw [h] at up um
      obtain ⟨c1, rfl⟩ := um x (by simp)
      obtain ⟨c2, rfl⟩ := um y (by simp)
      have := (List.pairwise_cons.mp up).1 (c2, 0, 61) (by simp)
      by_cases hc : c1 ≤ c2
      · exact this.1 (und_wide hc)
      · exact this.2 (und_wide (by omega))
  rw [ul] at u1
  match h : rowsOf ms with
  | [] =>
    exfalso
    rw [h] at rp
    have := (rp.trans pm).length_eq
    unfold wide9 at this
    simp at this
  | [r] =>
    rw [h] at rp pw
    have rp2 : r.Perm wide9 := by
      have : [r].flatten = r := by simp
      rw [this] at rp
      exact rp.trans pm
    have rpw := (pw r (by simp)).2
    have e : r = wide9 := by
      refine sorted_uniq mkLt_an rp2 ?_ ?_
      · refine rpw.imp_of_mem fun {a b} ha hb hu z => ?_
        have ha2 := rp2.mem_iff.mp ha
        have hb2 := rp2.mem_iff.mp hb
        unfold wide9 at ha2 hb2
        obtain ⟨i, _, rfl⟩ := List.mem_map.mp ha2
        obtain ⟨j, _, rfl⟩ := List.mem_map.mp hb2
        unfold und at hu
        unfold mkLt at z
        dsimp only at hu z
        omega
      · unfold wide9
        refine List.pairwise_map.mpr (List.pairwise_lt_range.imp fun {a b} h z => ?_)
        unfold mkLt at z
        dsimp only at z
        omega
    rw [e]
  | _ :: _ :: _ => rw [h] at u1; simp at u1
theorem sameT9 {n : Nat} {x y : DL.D} {P : Bool → Prop} (d : dep n x) (e : y = x) (h : P true) : ∃ k, D.bl (sameD y x) = .bl k ∧ P k := ⟨true, by rw [e, sameD_refl n _ d], h⟩
theorem share9 {Y G : Prop} (hY : Y) (h : Y → G) : G := h hY
theorem nePC {a c : DL.D} {M : Mp} {Q : DQ} (hs : (a = .non ∨ ∃ i j, a = pairC i j)) (e : a = c) (q : Q (.bl false) M) : rdNe a c M Q := by
  subst e
  rcases hs with rfl | ⟨i, j, rfl⟩
  · exact neSq (b := false) rfl rfl rfl q
  · refine neSq (b := false) rfl rfl ?_ q
    show deq (pairC i j) (pairC i j) = true
    have := deq_spD ((i : Int), (j : Int)) ((i : Int), (j : Int))
    rw [decide_eq_true rfl] at this
    exact this
theorem dup9 {us : List Mk} (h : us ≠ []) : ¬ (us ++ us.take 1).Nodup := by
  cases us with
  | nil => exact absurd rfl h
  | cons x l =>
    intro z
    exact (List.nodup_append.mp z).2.2 x List.mem_cons_self x (by simp) rfl
theorem ok9 {us : List Mk} {n : Nat} (h : ∀ m ∈ us, okM m) : ∀ m ∈ us ++ us.take n, okM m := fun m hm => by
  rcases List.mem_append.mp hm with hm | hm
  · exact h m hm
  · exact h m (List.mem_of_mem_take hm)
theorem neMrk {M : Mp} {Q : DQ} (q : Q (.bl false) M) : rdNe (.str "mark") (.str "mark") M Q := neSq (b := false) (by show shD (.str "mark") = true; decide +kernel) (by show shD (.str "mark") = true; decide +kernel) (by show deq (.str "mark") (.str "mark") = true; decide +kernel) q
theorem bad9 {P : Prop} {ms : List Mk} (hm : ((0, 1, 2) : Mk) ∈ ms) (h : ∀ m ∈ ms, okM m) : P := by
  have := h _ hm
  unfold okM at this
  dsimp only at this
  omega
theorem wide_mem {vs : List Mk} (pm : vs.Perm wide9) {m : Mk} (hm : m ∈ vs) : ∃ k : Int, 0 ≤ k ∧ k < 61 ∧ m = (k, 0, 61) := by
  have := pm.mem_iff.mp hm
  unfold wide9 at this
  obtain ⟨k, hk, rfl⟩ := List.mem_map.mp this
  have := List.mem_range.mp hk
  exact ⟨k, by omega, by omega, rfl⟩
theorem wide_ok {vs : List Mk} (pm : vs.Perm wide9) : ∀ m ∈ vs, okM m := fun m hm => by
  obtain ⟨k, h1, h2, rfl⟩ := wide_mem pm hm
  unfold okM
  dsimp only
  omega
theorem wide_no {vs : List Mk} (pm : vs.Perm wide9) : ∀ i j, i < j → noC vs i j := fun i j _ a b ha hb hx => by
  obtain ⟨k, _, _, rfl⟩ := wide_mem pm (List.mem_of_getElem? ha)
  obtain ⟨l, _, _, rfl⟩ := wide_mem pm (List.mem_of_getElem? hb)
  unfold acr at hx
  dsimp only at hx
  omega
theorem wide_nd {vs : List Mk} (pm : vs.Perm wide9) : vs.Nodup := (pm.nodup_iff).mpr (by
  unfold wide9
  refine List.pairwise_map.mpr (List.pairwise_lt_range.imp fun {a b} h e => ?_)
  have := congrArg Prod.fst e
  simp at this
  omega)
theorem wide_len {vs : List Mk} (pm : vs.Perm wide9) : vs.length < 64 := by
  have := pm.length_eq
  unfold wide9 at this
  simp at this
  omega
theorem wide_map : ((List.range 61).map fun k : Nat => mkD ((k : Int), 0, 61)) = wide9.map mkD := by
  unfold wide9
  rw [List.map_map]
  rfl
theorem ne_rows {M : Mp} {Q : DQ} {r : List Mk} (q : Q (.bl false) M) : rdNe (.lst [.lst (r.map mkD)]) (.lst [.lst (r.map mkD)]) M Q := by
  refine neSS (f := fun r : List Mk => D.lst (r.map mkD)) (as := [r]) (bs := [r]) (fun r => lay_mapL lay_mkD r) (fun a b => deq_lstM (fun _ _ => deq_mkD _ _) a b) rfl rfl (by decide) ?_
  rw [decide_eq_true rfl]
  exact q
theorem eqMrk2 {M : Mp} {Q : DQ} (q : Q (.bl true) M) : rdEq (.lst [.str "mark", .str "mark"]) (.lst [.str "mark", .str "mark"]) M Q := eqSq (b := true) (by show shD (.lst [.str "mark", .str "mark"]) = true; decide +kernel) (by show shD (.lst [.str "mark", .str "mark"]) = true; decide +kernel) (by show deq (.lst [.str "mark", .str "mark"]) (.lst [.str "mark", .str "mark"]) = true; decide +kernel) q
end LW
namespace LW
open PySem L2 DL
local macro_rules | `(tactic| sizeOf_list_dec) => `(tactic| simp only [dLenSetA, dJoin, dSplit, dJoined, dJs, dFmt, rdDictN, rdEqE, dIEn0, dFrzD, dFrzT, dWget, dDpop, dDdel, dDelSl, dSetSl, dFldAug, dFin, dMethK, dMakeK, dDnewT, dDinT, dDgetT, dDputT, dDinP, dDgetP, dDputP, dListRg1, dFrzI, gdStar, dMaxK, dDctGet, rdDictP, dSeq, dNext, dRet, dRetN, dIfS, dSet, dPar, dAsg, dDrop, dC, dOp, dTest, dChain, dChain3, dChain4, dAnd, dOr, dNot, dAndV, dOrV, dNotV, dCons, dNil, dTup, dLst, dLstO, dCB, dCall, dIf, dUn, dAppend, dPop, dPopI, dIndex, dLenSet, dInsert, dAug, dWhile, dDelL, dCont, dBreak, dFld, dPut, dMeth, dMake, dDnew, dDin, dDget, dDput, dLck, dLckS, dIKeys, dDc, insF, dcF1, dAct, dCallK, dCBK, dHof, spLm, startL, capD, dTryN, exN, offD, dXf, Option.join_some, List.map_nil, List.nil_append, List.cons_append, List.replicate, dVar, rdI_eq, rdIc_eq, rdIx, rdInt2_eq, lenL, isN_non, isN_tup, isN_int, dFrz, dAugS, dIsi, dIsi2, dListRg, dSetSp, dSetIn, dLc2O, dRev, lenT, dIZip, zpL, zpD_tup, zip_map, isaTL, isaTT, isaLL, isaLT, isaIB, isaII, isaIS, isaIL, isaIT, neSpU, eqSpU, neMkU, eqMkU, eqB, neB, isN_bl, isN_lst, isN_ref, isaBB, isaBL, isaBT, isaBI, isaBS, tyI, tyB, tyN, tyTu, tyLs, Cell.lst.injEq, implies_true, reduceCtorEq, true_implies, false_implies, if_true, if_false, Int.reduceToNat, Int.reducePow, Int.reduceNeg, exX, LB, dYes, dwipe, addL, sz0, sz1, sz2, sz3, Int.zero_add, Int.mul_one, dLcN_eq, dLcNO_eq, dIRng1, dIRng2, dIEn, dISeq, dFor_eq, List.map_cons, List.map_nil, mulI, rdAbs_eq, eqI, neI, xN4_0, xN4_1, xN4_2, xN4_3, List.length_map, ixS, mup_same, mup_mup, dRaise, gdName, gdTup, gdUnl, gdNil_eq, gdCons_eq, gdSub, dPart, dNoPart, dSl, tpD, fd0, List.getElem?_cons_zero, List.getElem?_cons_succ, List.set_cons_zero, List.set_cons_succ, Option.some.injEq, exists_eq_left', exists_eq_left, exists_eq_right, exists_eq_right', D.int.injEq, D.bl.injEq, D.tup.injEq, D.lst.injEq, D.ref.injEq, ixd_tup, ixd_lst, spD, mkD, decide_eq_true_eq, decide_eq_false_iff_not, Nat.reduceAdd, Int.reduceNeg, at0, at1, at2, at3, List.cons.injEq, and_true, true_and, List.append_nil, exists_and_left, exists_and_right, List.length_cons, List.length_nil, addI, res_int, deq_int, sh_int, iffB, parEq, Bool.not_eq_true', Bool.not_eq_false', Bool.not_eq_true ])
local macro_rules | `(tactic| nomatch $es,*) => `(tactic| simp only [dLenSetA, dJoin, dSplit, dJoined, dJs, dFmt, rdDictN, rdEqE, dIEn0, dFrzD, dFrzT, dWget, dDpop, dDdel, dDelSl, dSetSl, dFldAug, dFin, dMethK, dMakeK, dDnewT, dDinT, dDgetT, dDputT, dDinP, dDgetP, dDputP, dListRg1, dFrzI, gdStar, dMaxK, dDctGet, rdDictP, dSeq, dNext, dRet, dRetN, dIfS, dSet, dPar, dAsg, dDrop, dC, dOp, dTest, dChain, dChain3, dChain4, dAnd, dOr, dNot, dAndV, dOrV, dNotV, dCons, dNil, dTup, dLst, dLstO, dCB, dCall, dIf, dUn, dAppend, dPop, dPopI, dIndex, dLenSet, dInsert, dAug, dWhile, dDelL, dCont, dBreak, dFld, dPut, dMeth, dMake, dDnew, dDin, dDget, dDput, dLck, dLckS, dIKeys, dDc, insF, dcF1, dAct, dCallK, dCBK, dHof, spLm, startL, capD, dTryN, exN, offD, dXf, Option.join_some, List.map_nil, List.nil_append, List.cons_append, List.replicate, dVar, rdI_eq, rdIc_eq, rdIx, rdInt2_eq, lenL, isN_non, isN_tup, isN_int, dFrz, dAugS, dIsi, dIsi2, dListRg, dSetSp, dSetIn, dLc2O, dRev, lenT, dIZip, zpL, zpD_tup, zip_map, isaTL, isaTT, isaLL, isaLT, isaIB, isaII, isaIS, isaIL, isaIT, neSpU, eqSpU, neMkU, eqMkU, eqB, neB, isN_bl, isN_lst, isN_ref, isaBB, isaBL, isaBT, isaBI, isaBS, tyI, tyB, tyN, tyTu, tyLs, Cell.lst.injEq, implies_true, reduceCtorEq, true_implies, false_implies, if_true, if_false, Int.reduceToNat, Int.reducePow, Int.reduceNeg, exX, LB, dYes, dwipe, addL, sz0, sz1, sz2, sz3, Int.zero_add, Int.mul_one, dLcN_eq, dLcNO_eq, dIRng1, dIRng2, dIEn, dISeq, dFor_eq, List.map_cons, List.map_nil, mulI, rdAbs_eq, eqI, neI, xN4_0, xN4_1, xN4_2, xN4_3, List.length_map, ixS, mup_same, mup_mup, dRaise, gdName, gdTup, gdUnl, gdNil_eq, gdCons_eq, gdSub, dPart, dNoPart, dSl, tpD, fd0, List.getElem?_cons_zero, List.getElem?_cons_succ, List.set_cons_zero, List.set_cons_succ, Option.some.injEq, exists_eq_left', exists_eq_left, exists_eq_right, exists_eq_right', D.int.injEq, D.bl.injEq, D.tup.injEq, D.lst.injEq, D.ref.injEq, ixd_tup, ixd_lst, spD, mkD, decide_eq_true_eq, decide_eq_false_iff_not, Nat.reduceAdd, Int.reduceNeg, at0, at1, at2, at3, List.cons.injEq, and_true, true_and, List.append_nil, exists_and_left, exists_and_right, List.length_cons, List.length_nil, addI, res_int, deq_int, sh_int, iffB, parEq, Bool.not_eq_true', Bool.not_eq_false', Bool.not_eq_true , $[$es:term],*])
def topS (i : Nat) : Stmt := PySem.Challenge.pw_joinlarder_k09_chains_of_marks.main.body.getD i (.Pass ⟨0, 0, 0, 0⟩)
abbrev s_is_stretch : Stmt := topS 6
abbrev s_look_mark : Stmt := topS 8
abbrev s_are_bound : Stmt := topS 9
abbrev s_go_across : Stmt := topS 10
abbrev s_is_under : Stmt := topS 11
abbrev s_look_marks : Stmt := topS 13
abbrev s_Matching_init : Stmt := inClass (topS 14) 0
abbrev s_Matching_reached : Stmt := inClass (topS 14) 1
abbrev s_Matching_widen : Stmt := inClass (topS 14) 2
abbrev s_Matching_rows : Stmt := inClass (topS 14) 3
abbrev s_Matching_unlike : Stmt := inClass (topS 14) 4
abbrev s_chained : Stmt := topS 15
abbrev s_chains : Stmt := topS 16
abbrev s_law_bag : Stmt := topS 18
abbrev s_law_take : Stmt := topS 19
abbrev s_law_of : Stmt := topS 20
abbrev s_law_turned : Stmt := topS 21
abbrev s_law_same : Stmt := topS 22
abbrev s_law_asks : Stmt := topS 23
abbrev s_law_rising : Stmt := topS 24
abbrev s_law_marks : Stmt := topS 25
abbrev s_law_least_ask : Stmt := topS 26
abbrev s_law_essential : Stmt := topS 27
abbrev s_law_bound : Stmt := topS 28
abbrev s_law_left : Stmt := topS 29
abbrev s_law_cross : Stmt := topS 30
abbrev s_law_under : Stmt := topS 31
abbrev s_law_taken : Stmt := topS 32
abbrev s_law_pairs_of : Stmt := topS 33
abbrev s_law_others_right : Stmt := topS 34
abbrev s_law_refused : Stmt := topS 35
abbrev s_law_first_cross : Stmt := topS 36
abbrev s_law : Stmt := topS 37
abbrev c_LarderError : Stmt := inClass (topS 1) 0
abbrev c_BadMark : Stmt := inClass (topS 2) 0
abbrev c_Crossing : Stmt := inClass (topS 3) 0
structure Glb (P : Program) (w : World) (K : PySem.W.Frag) (mg : Str → Option Value) (base : Heap) (C_BadMark : Addr) (C_Crossing : Addr) (C_Matching : Addr) : Prop where
  m_CELLS : ∃ t, mg "CELLS" = some (.int 400 t)
  n_abs : mg "abs" = none
  n_all : mg "all" = none
  n_any : mg "any" = none
  n_bool : mg "bool" = none
  n_enumerate : mg "enumerate" = none
  n_int : mg "int" = none
  n_isinstance : mg "isinstance" = none
  n_len : mg "len" = none
  n_list : mg "list" = none
  n_max : mg "max" = none
  n_min : mg "min" = none
  n_range : mg "range" = none
  n_set : mg "set" = none
  n_sorted : mg "sorted" = none
  n_str : mg "str" = none
  n_tuple : mg "tuple" = none
  n_zip : mg "zip" = none
  x_BadMark : ExC P w K mg base "BadMark" C_BadMark 0 (fun _ => [("word", V.str "mark")])
  x_Crossing : ExC P w K mg base "Crossing" C_Crossing 1 (fun ws => [("pair", ws.headD .non), ("word", V.str "crossing")])
  y_BadMark : mg "BadMark" = some (.ref C_BadMark)
  o_BadMark : ExO K C_BadMark "word"
  y_Crossing : mg "Crossing" = some (.ref C_Crossing)
  o_Crossing : ExO K C_Crossing "pair"
  ow_BadMark_Crossing : PySem.W.exmOne K (.ref C_BadMark) (.ref C_Crossing) = some false
  ow_Crossing_BadMark : PySem.W.exmOne K (.ref C_Crossing) (.ref C_BadMark) = some false
  cl_Matching : Cls K C_Matching
  na_Matching_above : NoAttr K C_Matching "above"
  na_Matching_below : NoAttr K C_Matching "below"
  na_Matching_ups : NoAttr K C_Matching "ups"
  mk_Matching : MkF K mg "Matching" C_Matching
section
variable {P : Program} {w : World} {K : PySem.W.Frag} {T : List (Addr × Str)} {mg : Str → Option Value} {base : Heap} { C_BadMark C_Crossing C_Matching : Addr}
theorem sc_is_stretch : FnScope ["one", "start", "end"] ["one"] (defScope s_is_stretch) := ⟨rfl, rfl, rfl, by decide +kernel, rfl, by decide +kernel, by decide +kernel⟩
def sp_is_stretch : DSp := fun ds M Q _ => ∃ s : Sp2, ds = [spD s] ∧ Q (.bl (decide (okS s))) M
theorem st_is_stretch {a0 : D} : dstart ["one", "start", "end"] [a0] = [some a0, none, none] := rfl
theorem ok_is_stretch (G : Glb P w K mg base C_BadMark C_Crossing C_Matching) (Dd : DefAt K mg "is_stretch" s_is_stretch ["one"]) : Dfk P w K mg base T "is_stretch" 1 ["one"] sp_is_stretch := by
  refine DefAt.ok Dd sc_is_stretch (fun ds M Q E h => by
    obtain ⟨_, rfl, _⟩ := h
    rfl) fun f cdv A outer s H E hr => ?_
  have tk : Takes (cxOf (L2.CX P w) P w K mg base ["one", "start", "end"] "is_stretch" (defScope s_is_stretch) f cdv A outer s H E) (wOf T E).w := takes_of rfl rfl rfl rfl
  refine ⟨_, (dss_cons (ds_asg (dv 0) (dg_tup (n := 2) rfl (dgs_cons (dg_name (i := 1) sc_is_stretch.nd rfl (by first | exact Or.inl rfl | exact Or.inr rfl) (fun _ e => nomatch e)) (dgs_cons (dg_name (i := 2) sc_is_stretch.nd rfl (by first | exact Or.inl rfl | exact Or.inr rfl) (fun _ e => nomatch e)) dgs_nil))))
      (dss_one (ds_ret (de_chain3 op_le op_lt op_le real_le real_lt real_le de_int (dv 1) (dv 2) (de_globI G.m_CELLS))))), fun ds M Qd Ed h => ?_⟩
  obtain ⟨s, rfl, h⟩ := h
  (first | (simp only [st_is_stretch]; try sizeOf_list_dec) | sizeOf_list_dec)
  refine ⟨fun h1 => ⟨fun h2 => finB h ?_, fun h2 => finF h ?_⟩, fun h1 => finF h ?_⟩ <;> (unfold okS; omega)
theorem sc_look_mark : FnScope ["mark", "cell", "start", "end"] ["mark"] (defScope s_look_mark) := ⟨rfl, rfl, rfl, by decide +kernel, rfl, by decide +kernel, by decide +kernel⟩
def sp_look_mark (C : Addr) : DSp := fun ds M Q E => ∃ m : Mk, ds = [mkD m] ∧ if okM m then Q .non M else E C [("word", .str "mark")] M
theorem st_look_mark {a0 : D} : dstart ["mark", "cell", "start", "end"] [a0] = [some a0, none, none, none] := rfl
theorem ok_look_mark (G : Glb P w K mg base C_BadMark C_Crossing C_Matching) (h_is_stretch : Dfk P w K mg base T "is_stretch" 1 ["one"] sp_is_stretch) (Dd : DefAt K mg "look_mark" s_look_mark ["mark"]) : Dfk P w K mg base T "look_mark" 4 ["mark"] (sp_look_mark C_BadMark) := by
  refine DefAt.ok Dd sc_look_mark (fun ds M Q E h => by
    obtain ⟨_, rfl, _⟩ := h
    rfl) fun f cdv A outer s H E hr => ?_
  have tk : Takes (cxOf (L2.CX P w) P w K mg base ["mark", "cell", "start", "end"] "look_mark" (defScope s_look_mark) f cdv A outer s H E) (wOf T E).w := takes_of rfl rfl rfl rfl
  refine ⟨_, (dss_cons (ds_asg (dv 0) (dg_tup (n := 3) rfl (dgs_cons (dg_name (i := 1) sc_look_mark.nd rfl (by first | exact Or.inl rfl | exact Or.inr rfl) (fun _ e => nomatch e)) (dgs_cons (dg_name (i := 2) sc_look_mark.nd rfl (by first | exact Or.inl rfl | exact Or.inr rfl) (fun _ e => nomatch e)) (dgs_cons (dg_name (i := 3) sc_look_mark.nd rfl (by first | exact Or.inl rfl | exact Or.inr rfl) (fun _ e => nomatch e)) dgs_nil)))))
      (dss_one (ds_if (dw_pt (dw_or (dt_not (dt_val (de_callA h_is_stretch (hr.mono (by decide)) tk (da_cons (de_tup (da_cons (dv 2) (da_cons (dv 3) da_nil))) da_nil)))) (dw_or1 (dt_not (dt_chain op_le op_lt real_le real_lt (dv 2) (dv 1) (dv 3)))))) (dss_one (ds_raise0 G.x_BadMark rf0 (hr.mono (by decide)) rfl tk)) dss_nil))), fun ds M Qd Ed h => ?_⟩
  obtain ⟨m, rfl, h⟩ := h
  have ho : okM m ↔ (okS (m.2.1, m.2.2) ∧ m.2.1 ≤ m.1 ∧ m.1 < m.2.2) := by
    unfold okM okS
    simp only [and_assoc]
  (first | (simp only [st_look_mark]; try sizeOf_list_dec) | sizeOf_list_dec)
  refine ⟨(m.2.1, m.2.2), rfl, ?_⟩
  (first | (simp only [st_look_mark]; try sizeOf_list_dec) | sizeOf_list_dec)
  by_cases h1 : okS (m.2.1, m.2.2)
  · rw [if_neg (not_not_intro h1)]
    refine ⟨fun h2 => ?_, fun h2 => ?_⟩
    · by_cases h3 : m.1 < m.2.2
      · rw [if_neg (not_not_intro h3)]
        rw [if_pos (ho.mpr ⟨h1, h2, h3⟩)] at h
        exact Fin.same h
      · rw [if_pos h3]
        rw [if_neg fun z => h3 (ho.mp z).2.2] at h
        exact h
    · rw [if_neg fun z => h2 (ho.mp z).2.1] at h
      exact h
  · rw [if_pos h1]
    rw [if_neg fun z => h1 (ho.mp z).1] at h
    exact h
theorem sc_are_bound : FnScope ["one", "two", "low", "high"] ["one", "two"] (defScope s_are_bound) := ⟨rfl, rfl, rfl, by decide +kernel, rfl, by decide +kernel, by decide +kernel⟩
def sp_are_bound : DSp := fun ds M Q _ => ∃ a b : Mk, ds = [mkD a, mkD b] ∧ Q (.bl (decide (bnd a b))) M
theorem st_are_bound {a0 a1 : D} : dstart ["one", "two", "low", "high"] [a0, a1] = [some a0, some a1, none, none] := rfl
theorem ok_are_bound (G : Glb P w K mg base C_BadMark C_Crossing C_Matching) (Dd : DefAt K mg "are_bound" s_are_bound ["one", "two"]) : Dfk P w K mg base T "are_bound" 1 ["one", "two"] sp_are_bound := by
  refine DefAt.ok Dd sc_are_bound (fun ds M Q E h => by
    obtain ⟨_, _, rfl, _⟩ := h
    rfl) fun f cdv A outer s H E hr => ?_
  have tk : Takes (cxOf (L2.CX P w) P w K mg base ["one", "two", "low", "high"] "are_bound" (defScope s_are_bound) f cdv A outer s H E) (wOf T E).w := takes_of rfl rfl rfl rfl
  refine ⟨_, (dss_cons (ds_par (i := 2) (j := 3) rfl sc_are_bound.nd (by decide) (da_cons (de_callB (call_min2 rfl) real_int2 rfl G.n_min rfl (da_cons (de_ix (dv 0) de_int) (da_cons (de_ix (dv 1) de_int) da_nil))) (da_cons (de_callB (call_max2 rfl) real_int2 rfl G.n_max rfl (da_cons (de_ix (dv 0) de_int) (da_cons (de_ix (dv 1) de_int) da_nil))) da_nil)))
      (dss_one (ds_ret (de_and (de_cmp op_le real_le (de_callB (call_max2 rfl) real_int2 rfl G.n_max rfl (da_cons (de_ix (dv 0) de_int) (da_cons (de_ix (dv 1) de_int) da_nil))) (dv 2) (nomark _)) (de_one (de_cmp op_lt real_lt (dv 3) (de_callB (call_min2 rfl) real_int2 rfl G.n_min rfl (da_cons (de_ix (dv 0) de_int) (da_cons (de_ix (dv 1) de_int) da_nil))) (nomark _))))))), fun ds M Qd Ed h => ?_⟩
  obtain ⟨a, b, rfl, h⟩ := h
  (first | (simp only [st_are_bound]; try sizeOf_list_dec) | sizeOf_list_dec)
  refine ⟨fun h1 => finB h ?_, fun h1 => finF h ?_⟩
  all_goals
    unfold bnd
    repeat' split at h1
    all_goals (repeat' split)
    all_goals omega
theorem sc_go_across : FnScope ["one", "two"] ["one", "two"] (defScope s_go_across) := ⟨rfl, rfl, rfl, by decide +kernel, rfl, by decide +kernel, by decide +kernel⟩
def sp_go_across : DSp := fun ds M Q _ => ∃ a b : Mk, ds = [mkD a, mkD b] ∧ Q (.bl (decide (acr a b))) M
theorem st_go_across {a0 a1 : D} : dstart ["one", "two"] [a0, a1] = [some a0, some a1] := rfl
theorem ok_go_across (G : Glb P w K mg base C_BadMark C_Crossing C_Matching) (h_are_bound : Dfk P w K mg base T "are_bound" 1 ["one", "two"] sp_are_bound) (Dd : DefAt K mg "go_across" s_go_across ["one", "two"]) : Dfk P w K mg base T "go_across" 2 ["one", "two"] sp_go_across := by
  refine DefAt.ok Dd sc_go_across (fun ds M Q E h => by
    obtain ⟨_, _, rfl, _⟩ := h
    rfl) fun f cdv A outer s H E hr => ?_
  have tk : Takes (cxOf (L2.CX P w) P w K mg base ["one", "two"] "go_across" (defScope s_go_across) f cdv A outer s H E) (wOf T E).w := takes_of rfl rfl rfl rfl
  refine ⟨_, (dss_one (ds_ret (de_and (de_cmp op_lt real_lt (de_ix (dv 0) de_int) (de_ix (dv 1) de_int) (nomark _)) (de_and (de_cmp op_lt real_lt (de_ix (dv 0) de_int) (de_ix (dv 1) de_int) (nomark _)) (de_and (de_cmp op_lt real_lt (de_ix (dv 0) de_int) (de_ix (dv 1) de_int) (nomark _)) (de_one (de_callA h_are_bound (hr.mono (by decide)) tk (da_cons (dv 0) (da_cons (dv 1) da_nil))))))))), fun ds M Qd Ed h => ?_⟩
  obtain ⟨a, b, rfl, h⟩ := h
  (first | (simp only [st_go_across]; try sizeOf_list_dec) | sizeOf_list_dec)
  refine ⟨fun h1 => ⟨fun h2 => ⟨fun h3 => ⟨a, b, rfl, finB h ?_⟩, fun h3 => finF h ?_⟩, fun h2 => finF h ?_⟩, fun h1 => finF h ?_⟩
  · unfold acr
    exact ⟨fun z => z.2.2.2, fun z => ⟨h1, h2, h3, z⟩⟩
  all_goals (unfold acr; intro z; omega)
theorem sc_is_under : FnScope ["one", "two"] ["one", "two"] (defScope s_is_under) := ⟨rfl, rfl, rfl, by decide +kernel, rfl, by decide +kernel, by decide +kernel⟩
def sp_is_under : DSp := fun ds M Q _ => ∃ a b : Mk, ds = [mkD a, mkD b] ∧ Q (.bl (decide (und a b))) M
theorem st_is_under {a0 a1 : D} : dstart ["one", "two"] [a0, a1] = [some a0, some a1] := rfl
theorem ok_is_under (G : Glb P w K mg base C_BadMark C_Crossing C_Matching) (Dd : DefAt K mg "is_under" s_is_under ["one", "two"]) : Dfk P w K mg base T "is_under" 1 ["one", "two"] sp_is_under := by
  refine DefAt.ok Dd sc_is_under (fun ds M Q E h => by
    obtain ⟨_, _, rfl, _⟩ := h
    rfl) fun f cdv A outer s H E hr => ?_
  have tk : Takes (cxOf (L2.CX P w) P w K mg base ["one", "two"] "is_under" (defScope s_is_under) f cdv A outer s H E) (wOf T E).w := takes_of rfl rfl rfl rfl
  refine ⟨_, (dss_one (ds_ret (de_and (de_cmp op_le real_le (de_ix (dv 0) de_int) (de_ix (dv 1) de_int) (nomark _)) (de_and (de_cmp op_le real_le (de_ix (dv 1) de_int) (de_ix (dv 0) de_int) (nomark _)) (de_one (de_cmp op_le real_le (de_ix (dv 1) de_int) (de_ix (dv 0) de_int) (nomark _))))))), fun ds M Qd Ed h => ?_⟩
  obtain ⟨a, b, rfl, h⟩ := h
  (first | (simp only [st_is_under]; try sizeOf_list_dec) | sizeOf_list_dec)
  refine ⟨fun h1 => ⟨fun h2 => finB h ?_, fun h2 => finF h ?_⟩, fun h1 => finF h ?_⟩ <;> (unfold und; omega)
theorem sc_look_marks : FnScope ["marks", "mark", "at", "one", "behind"] ["marks"] (defScope s_look_marks) := ⟨rfl, rfl, rfl, by decide +kernel, rfl, by decide +kernel, by decide +kernel⟩
def sp_look_marks (C C2 : Addr) : DSp := fun ds M Q E => ∃ (d : D) (ms : List Mk), ds = [d] ∧ sqD M d = some (ms.map mkD) ∧ ms.length < 64 ∧ ((∃ m ∈ ms, ¬ okM m) → E C [("word", .str "mark")] M) ∧ ((∀ m ∈ ms, okM m) → ¬ ms.Nodup → E C [("word", .str "mark")] M) ∧ ((∀ m ∈ ms, okM m) → ms.Nodup → ∀ i j a b, FirstC ms i j a b → E C2 [("pair", pairC i j), ("word", .str "crossing")] M) ∧ ((∀ m ∈ ms, okM m) → ms.Nodup → (∀ i j, i < j → noC ms i j) → Q .non M)
theorem st_look_marks {a0 : D} : dstart ["marks", "mark", "at", "one", "behind"] [a0] = [some a0, none, none, none, none] := rfl
theorem ok_look_marks (G : Glb P w K mg base C_BadMark C_Crossing C_Matching) (h_go_across : Dfk P w K mg base T "go_across" 2 ["one", "two"] sp_go_across) (h_look_mark : Dfk P w K mg base T "look_mark" 4 ["mark"] (sp_look_mark C_BadMark)) (Dd : DefAt K mg "look_marks" s_look_marks ["marks"]) : Dfk P w K mg base T "look_marks" 5 ["marks"] (sp_look_marks C_BadMark C_Crossing) := by
  refine DefAt.ok Dd sc_look_marks (fun ds M Q E h => by
    obtain ⟨_, _, rfl, _⟩ := h
    rfl) fun f cdv A outer s H E hr => ?_
  have tk : Takes (cxOf (L2.CX P w) P w K mg base ["marks", "mark", "at", "one", "behind"] "look_marks" (defScope s_look_marks) f cdv A outer s H E) (wOf T E).w := takes_of rfl rfl rfl rfl
  refine ⟨_, (dss_cons (ds_for (passes_of rfl) rfl (di_seq (dv 0)) (dg_name (i := 1) sc_look_marks.nd rfl (by first | exact Or.inl rfl | exact Or.inr rfl) (fun _ e => nomatch e)) (dss_one (ds_expr (de_callA h_look_mark (hr.mono (by decide)) tk (da_cons (dv 1) da_nil)))))
      (dss_cons (ds_if (dt_cmp op_lt real_lt (de_lenSetA rfl hr.units rfl G.n_len rfl G.n_set (dv 0)) (de_callB call_len real_len rfl G.n_len rfl (da_cons (dv 0) da_nil)) (nomark _)) (dss_one (ds_raise0 G.x_BadMark rf0 (hr.mono (by decide)) rfl tk)) dss_nil)
      (dss_one (ds_for (passes_of rfl) rfl (di_enum rfl G.n_enumerate (da_cons (dv 0) da_nil)) (dg_tup (n := 2) rfl (dgs_cons (dg_name (i := 2) sc_look_marks.nd rfl (by first | exact Or.inl rfl | exact Or.inr rfl) (fun _ e => nomatch e)) (dgs_cons (dg_name (i := 3) sc_look_marks.nd rfl (by first | exact Or.inl rfl | exact Or.inr rfl) (fun _ e => nomatch e)) dgs_nil))) (dss_one (ds_for (passes_of rfl) rfl (di_rng2 rfl G.n_range (da_cons (de_op op_add3 real_add (dv 2) de_int) (da_cons (de_callB call_len real_len rfl G.n_len rfl (da_cons (dv 0) da_nil)) da_nil))) (dg_name (i := 4) sc_look_marks.nd rfl (by first | exact Or.inl rfl | exact Or.inr rfl) (fun _ e => nomatch e)) (dss_one (ds_if (dw_pt (dw_or (dt_val (de_callA h_go_across (hr.mono (by decide)) tk (da_cons (dv 3) (da_cons (de_ix (dv 0) (dv 4)) da_nil)))) (dw_or1 (dt_val (de_callA h_go_across (hr.mono (by decide)) tk (da_cons (de_ix (dv 0) (dv 4)) (da_cons (dv 3) da_nil))))))) (dss_one (ds_raise G.x_Crossing (by decide) rf1 (hr.mono (by decide)) rfl tk (da_cons (de_tup (da_cons (dv 2) (da_cons (dv 4) da_nil))) da_nil))) dss_nil)))))))), fun ds M Qd Ed h => ?_⟩
  obtain ⟨d, ms, rfl, hd, hl, hbad, hdup, hcr, h0⟩ := h
  (first | (simp only [st_look_marks]; try sizeOf_list_dec) | sizeOf_list_dec)
  let I : Nat → DG → Mp → Prop := fun i Γ2 M2 => ∃ c, Γ2 = [some d, c, none, none, none] ∧ M = M2 ∧ ∀ j m, j < i → ms[j]? = some m → okM m
  refine ⟨_, itSq hd, forBy I ⟨none, rfl, rfl, fun _ _ z => absurd z (Nat.not_lt_zero _)⟩ ?_ ?_ ?_⟩
  · rintro _ _ _ ⟨c, rfl, rfl, _⟩
    exact itSq hd
  · rintro i m _ _ hm ⟨c, rfl, rfl, ho⟩
    (first | (simp only [st_look_marks]; try sizeOf_list_dec) | sizeOf_list_dec)
    refine ⟨m, rfl, ?_⟩
    by_cases hm1 : okM m
    · rw [if_pos hm1]
      refine ⟨_, rfl, rfl, fun j x hj hx => ?_⟩
      by_cases e : j = i
      · rw [e, hm] at hx
        cases hx
        exact hm1
      · exact ho j x (by omega) hx
    · rw [if_neg hm1]
      exact hbad ⟨m, List.mem_of_getElem? hm, hm1⟩
  rintro _ _ ⟨c, rfl, rfl, ho⟩
  (first | (simp only [st_look_marks]; try sizeOf_list_dec) | sizeOf_list_dec)
  have hok : ∀ m ∈ ms, okM m := fun m hm => by
    obtain ⟨j, hj⟩ := List.mem_iff_getElem?.mp hm
    exact ho j m (List.getElem?_eq_some_iff.mp hj).1 hj
  refine ⟨ms, hd, by omega, fun n hn hi => ?_⟩
  rw [lenSq hd, List.length_map]
  sizeOf_list_dec
  refine ⟨fun z => hdup hok fun y => by have := hi.mp y; omega, fun z => ?_⟩
  have hnd : ms.Nodup := hi.mpr (by omega)
  have hf := hcr hok hnd
  have h := h0 hok hnd
  refine ⟨_, hd, szOf (by rw [List.length_map]; omega), ?_⟩
  rw [enD_eq]
  refine forBy (fun i Γ2 M2 => ∃ c1 c2 c3 c4, Γ2 = [some d, c1, c2, c3, c4] ∧ M = M2 ∧ ∀ i' j', i' < i → i' < j' → noC ms i' j') ⟨_, _, _, _, rfl, rfl, fun i' j' z => absurd z (Nat.not_lt_zero _)⟩ ?_ ?_ ?_
  · rintro _ _ _ ⟨c1, c2, c3, c4, rfl, rfl, _⟩
    exact hd
  · rintro i ⟨a, i0⟩ _ _ hx ⟨c1, c2, c3, c4, rfl, rfl, hb⟩
    obtain ⟨rfl, ha⟩ : i0 = i ∧ ms[i]? = some a := by
      rw [List.getElem?_zipIdx] at hx
      cases e : ms[i]? with
      | none => rw [e] at hx; cases hx
      | some z => rw [e] at hx; simp at hx; exact ⟨hx.2.symm, by rw [hx.1]⟩
    have hil : i0 < ms.length := (List.getElem?_eq_some_iff.mp ha).1
    sizeOf_list_dec
    rw [lenSq hd]
    sizeOf_list_dec
    refine ⟨⟨by omega, by omega⟩, ⟨by omega, by omega⟩, by omega, ?_⟩
    have e : ((ms.length : Int) - ((i0 : Int) + 1)).toNat = ms.length - (i0 + 1) := by omega
    rw [e]
    refine forRng (fun k Γ2 M2 => ∃ c4, Γ2 = [some d, c1, some (.int (i0 : Nat)), some (mkD a), c4] ∧ M = M2 ∧ ∀ j', i0 < j' → j' < i0 + 1 + k → noC ms i0 j') ⟨c4, rfl, rfl, fun j' h1 h2 => by omega⟩ (fun _ => trivial) ?_ ?_
    · rintro k _ _ hk ⟨c4, rfl, rfl, hb2⟩
      have hj : i0 + 1 + k < ms.length := by omega
      have eb : ms[i0 + 1 + k]? = some ms[i0 + 1 + k] := List.getElem?_eq_getElem hj
      generalize ms[i0 + 1 + k] = b at eb
      have fin : (acr a b ∨ acr b a) → Ed C_Crossing [("pair", .tup [.int (i0 : Nat), .int ((i0 : Int) + 1 + (k : Int))]), ("word", .str "crossing")] M := fun z => by
        have := hf i0 (i0 + 1 + k) a b ⟨by omega, ha, eb, z, fun i' j' h2 h3 => by
          rcases h3 with h3 | ⟨rfl, h3⟩
          · exact hb i' j' h3 h2
          · exact hb2 j' h2 h3⟩
        unfold pairC at this
        rwa [show ((i0 + 1 + k : Nat) : Int) = (i0 : Int) + 1 + (k : Int) by omega] at this
      have hi : ixD M d (.int ((i0 : Int) + 1 + (k : Int))) = some (mkD b) := by rw [ixSq hd, show ((i0 : Int) + 1 + (k : Int)) = ((i0 + 1 + k : Nat) : Int) by omega, atMn eb]
      sizeOf_list_dec
      refine ⟨_, hi, a, b, rfl, ?_⟩
      refine ⟨_, rfl, fun z => (fin (.inl (of_decide_eq_true z))), fun z1 => ?_⟩
      have z1 := of_decide_eq_false z1
      refine ⟨_, hi, b, a, rfl, ?_⟩
      refine ⟨_, rfl, fun z => (fin (.inr (of_decide_eq_true z))), fun z2 => ⟨rfl, fun j' h1 h2 => ?_⟩⟩
      have z2 := of_decide_eq_false z2
      by_cases h4 : j' = i0 + 1 + k
      · subst h4
        intro a' b' ea eb'
        rw [ha] at ea
        rw [eb] at eb'
        cases ea
        cases eb'
        exact fun w => w.elim z1 z2
      · exact hb2 j' h1 (by omega)
    · rintro _ _ ⟨c4, rfl, rfl, hb2⟩
      refine ⟨⟨_, _, _, _, rfl⟩, rfl, fun i' j' h1 h2 => ?_⟩
      by_cases h3 : i' = i0
      · subst h3
        by_cases h4 : j' < ms.length
        · exact hb2 j' h2 (by omega)
        · intro a' b' _ eb'
          rw [List.getElem?_eq_none (by omega)] at eb'
          cases eb'
      · exact hb i' j' (by omega) h2
  · rintro _ _ ⟨c1, c2, c3, c4, rfl, rfl, hb⟩
    sizeOf_list_dec
    refine Fin.same (h fun i j hij => ?_)
    by_cases hl2 : i < ms.length
    · exact hb i j (by simpa using hl2) hij
    · intro a' b' ea _
      rw [List.getElem?_eq_none (by omega)] at ea
      cases ea
theorem sc_Matching_reached : FnScope ["self", "begin", "lower", "came", "at", "to"] ["self", "begin"] (defScope s_Matching_reached) := ⟨rfl, rfl, rfl, by decide +kernel, rfl, by decide +kernel, by decide +kernel⟩
def sp_Matching_reached (C : Addr) : DSp := fun ds M Q _ => ∃ (p u a b : Addr) (d : D) (beg : List Nat) (ups : List (List Nat)) (m : MS), ds = [.ref p, d] ∧ MatM C M p u a b ups m ∧ sqD M d = some (beg.map natD) ∧ ups.length ≤ 10000 ∧ beg.length ≤ 10000 ∧ (∀ l, ∀ t ∈ ups.getD l [], t < ups.length) ∧ (∀ l ∈ beg, l < ups.length) ∧ Bnds ups.length m ∧
  ∀ l c, M l = none → M c = none → l ≠ c → Q (.tup [.ref l, .ref c]) (mup (mup M l (.lst ((reached ups m.2 beg).1.map natD))) c (.dic ((reached ups m.2 beg).2.map cameD)))
theorem st_Matching_reached {a0 a1 : D} : dstart ["self", "begin", "lower", "came", "at", "to"] [a0, a1] = [some a0, some a1, none, none, none, none] := rfl
theorem ok_Matching_reached (G : Glb P w K mg base C_BadMark C_Crossing C_Matching) (Dd : MethAt K C_Matching "reached" "Matching.reached" s_Matching_reached ["self", "begin"]) : Mfk P w K mg base T C_Matching "reached" 1 ["self", "begin"] (sp_Matching_reached C_Matching) := by
  refine MethAt.ok Dd sc_Matching_reached (fun ds M Q E h => by
    obtain ⟨_, _, _, _, _, _, _, _, rfl, _⟩ := h
    rfl) fun f cdv A outer s H E hr => ?_
  have tk : Takes (cxOf (L2.CX P w) P w K mg base ["self", "begin", "lower", "came", "at", "to"] "Matching.reached" (defScope s_Matching_reached) f cdv A outer s H E) (wOf T E).w := takes_of rfl rfl rfl rfl
  refine ⟨_, (dss_cons (ds_set 2 sc_Matching_reached.nd (de_callTy call_list_of real_list rfl G.n_list rfl (da_cons (dv 1) da_nil)))
      (dss_cons (ds_set 3 sc_Matching_reached.nd de_dnew)
      (dss_cons (ds_set 4 sc_Matching_reached.nd de_int)
      (dss_cons (ds_while (passes_of rfl) (dt_cmp op_lt real_lt (dv 4) (de_callB call_len real_len rfl G.n_len rfl (da_cons (dv 2) da_nil)) (nomark _)) (dss_cons (ds_for (passes_of rfl) rfl (di_seq (de_ix (de_fld G.cl_Matching G.na_Matching_ups (dv 0)) (de_ix (dv 2) (dv 4)))) (dg_name (i := 5) sc_Matching_reached.nd rfl (by first | exact Or.inl rfl | exact Or.inr rfl) (fun _ e => nomatch e)) (dss_one (ds_if (dt_dnotin (Room.u1 hr) (dv 5) (dv 3)) (dss_cons (ds_dput (Room.u1 hr) (dv 3) (dv 5) (de_ix (dv 2) (dv 4)))
      (dss_one (ds_if (dt_cmp op_ge real_ge (de_ix (de_fld G.cl_Matching G.na_Matching_below (dv 0)) (dv 5)) de_int (nomark _)) (dss_one (ds_expr (de_append (dv 2) (de_ix (de_fld G.cl_Matching G.na_Matching_below (dv 0)) (dv 5))))) dss_nil))) dss_nil)))
      (dss_one (ds_aug (i := 4) sc_Matching_reached.nd de_int ip_add real_ip))))
      (dss_one (ds_ret (de_tup (da_cons (dv 2) (da_cons (dv 3) da_nil))))))))), fun ds M Qd Ed h => ?_⟩
  obtain ⟨p, u, a, b, d, beg, ups, m, rfl, hm, hd, hn, hbl, hu, hbeg, hB, h⟩ := h
  have sz : sizeLine = 16777216 := szl
  (first | (simp only [st_Matching_reached]; try sizeOf_list_dec) | sizeOf_list_dec)
  refine ⟨d, beg.map natD, rfl, seqSq hd, fun l hl c hc => ?_⟩
  have hlc : l ≠ c := fun z => by rw [← z, mup_same] at hc; cases hc
  have hc : M c = none := by rw [mup_ne (Ne.symm hlc)] at hc; exact hc
  obtain ⟨hpa, hpb, hpu⟩ := hm.pa
  let MM : RS → Mp := fun s => mup (mup M l (.lst (s.1.map natD))) c (.dic (s.2.map cameD))
  have X : ∀ s, Ext M (MM s) := fun s => (((Ext.refl M).up hl).up hc)
  have mL : ∀ s, MM s l = some (.lst (s.1.map natD)) := fun s => by show mup _ _ _ l = _; rw [mup_ne hlc]; exact mup_same
  have mC : ∀ s, MM s c = some (.dic (s.2.map cameD)) := fun s => mup_same
  let Wv : Nat → DG → Mp → Prop := fun k Γ2 M2 => ∃ (at_ : Nat) (s : RS) (c5 : Option D), Γ2 = [some (.ref p), some d, some (.ref l), some (.ref c), some (.int (at_ : Nat)), c5] ∧ M2 = MM s ∧ RI ups m.2 beg s ∧ at_ ≤ s.1.length ∧ k + at_ = beg.length + ups.length + 1 ∧ reachF ups m.2 k at_ s = reached ups m.2 beg
  refine ⟨Wv, ⟨beg.length + ups.length + 1, 0, (beg, []), none, rfl, rfl, ri0 _ _ _, Nat.zero_le _, rfl, rfl⟩, ?_⟩
  rintro k _ _ ⟨at_, s, c5, rfl, rfl, hR, hat, hk, hF⟩
  have hm' := hm.ext (X s)
  have hcnt := hR.count
  have lowB : ∀ x ∈ s.1, x < ups.length := fun x hx => by
    rcases hR.low hx with h1 | ⟨j, q, _, _, h1⟩
    · exact hbeg x h1
    · exact hB.2.2 _ _ h1
  (first | (simp only [st_Matching_reached]; try sizeOf_list_dec) | sizeOf_list_dec)
  rw [lenR (mL s), List.length_map]
  (first | (simp only [st_Matching_reached]; try sizeOf_list_dec) | sizeOf_list_dec)
  refine ⟨fun hlt => ?_, fun hge => ?_⟩
  · have hlt : at_ < s.1.length := by omega
    match k, hk, hF with
    | 0, hk, hF => omega
    | k + 1, hk, hF =>
    unfold reachF at hF
    rw [if_pos hlt] at hF
    have hlow : s.1.getD at_ 0 ∈ s.1 := by
      rw [List.getD_eq_getElem?_getD, List.getElem?_eq_getElem hlt]
      exact List.getElem_mem hlt
    have hlb := lowB _ hlow
    refine ⟨_, insR hm'.ho, _, rfl, natD (s.1.getD at_ 0), ?_, upD (ups.getD (s.1.getD at_ 0) []), ?_, (ups.getD (s.1.getD at_ 0) []).map natD, rfl, ?_⟩
    · rw [ixd_ref (mL s)]
      exact atI_nat hlt
    · exact (ixd_ref hm'.hu).trans (atI_up hlb)
    have eT : rturn ups m.2 s at_ = (ups.getD (s.1.getD at_ 0) []).foldl (rstep m.2 (s.1.getD at_ 0)) s := rfl
    generalize hrow : ups.getD (s.1.getD at_ 0) [] = row at eT
    have hro : ∀ t ∈ row, t < ups.length ∧ t ∈ ups.getD (s.1.getD at_ 0) [] := fun t ht => by
      rw [← hrow] at ht
      exact ⟨hu _ t ht, ht⟩
    have st : ∀ j, RI ups m.2 beg ((row.take j).foldl (rstep m.2 (s.1.getD at_ 0)) s) ∧ grows s ((row.take j).foldl (rstep m.2 (s.1.getD at_ 0)) s) := fun j => by
      obtain ⟨h1, h2, _⟩ := fold_ri (row.take j) s hR hlow fun t ht => hro t (List.mem_of_mem_take ht)
      exact ⟨h1, h2⟩
    generalize hlw : s.1.getD at_ 0 = low at *
    let I : Nat → DG → Mp → Prop := fun j Γ2 M2 => ∃ c5, Γ2 = [some (.ref p), some d, some (.ref l), some (.ref c), some (.int (at_ : Nat)), c5] ∧ M2 = MM ((row.take j).foldl (rstep m.2 low) s)
    refine forBy I ⟨_, rfl, rfl⟩ (fun _ _ _ _ => rfl) ?_ ?_
    · rintro j t _ _ ht ⟨c5, rfl, rfl⟩
      obtain ⟨r1, g1⟩ := st j
      obtain ⟨r2, g2⟩ := st (j + 1)
      have e1 : row.take (j + 1) = row.take j ++ [t] := by rw [List.take_add_one, ht]; rfl
      have e2 : (row.take (j + 1)).foldl (rstep m.2 low) s = rstep m.2 low ((row.take j).foldl (rstep m.2 low) s) t := by rw [e1, List.foldl_append]; rfl
      have tb := (hro t (List.mem_of_getElem? ht)).1
      have gl := g1.get (i := at_) hlt
      have ll := g1.len
      rw [hlw] at gl
      show (gdName 5) (.int (t : Nat)) _ _ _
      generalize (row.take j).foldl (rstep m.2 low) s = s2 at *
      have hm2 := hm.ext (X s2)
      sizeOf_list_dec
      refine ⟨_, dcR (mC s2), Sum.inl (t : Int), rfl, ?_⟩
      rw [came_in]
      refine ⟨fun hin => ?_, fun hin => ⟨_, rfl, by rw [e2]; unfold rstep; rw [if_pos hin]⟩⟩
      have el : ixD (MM s2) (.ref l) (.int (at_ : Int)) = some (natD low) := by
        rw [ixd_ref (mL s2), atI_nat (by omega), gl]
      have cnt := r1.count
      have kcnt : s2.2.length ≤ ups.length := by
        have := nodup_sub r1.nd (b := List.range ups.length) fun x hx => by
          obtain ⟨q, hq, rfl⟩ := List.mem_map.mp hx
          exact List.mem_range.mpr (r1.kb q hq).1
        rwa [List.length_map, List.length_range] at this
      refine ⟨_, el, _, Sum.inl (t : Int), rfl, mC s2, by rw [List.length_map]; omega, ?_⟩
      rw [came_put hin]
      have eM : mup (MM s2) c (.dic ((s2.2 ++ [(t, low)]).map cameD)) = MM (s2.1, s2.2 ++ [(t, low)]) := by
        show mup (mup (mup M l _) c _) c _ = _
        rw [mup_mup]
      rw [eM]
      have hm3 := hm.ext (X (s2.1, s2.2 ++ [(t, low)]))
      have eb : ∀ M', M' b = some (.lst (m.2.map D.int)) → ixD M' (.ref b) (.int (t : Int)) = some (.int (m.2.getD t (-1))) := fun M' hM' => by
        rw [ixd_ref hM', atI_int (by rw [hB.2.1]; exact tb)]
      refine ⟨_, insR hm3.ho, _, rfl, _, eb _ hm3.hb, ?_⟩
      sizeOf_list_dec
      have er : rstep m.2 low s2 t = (if 0 ≤ m.2.getD t (-1) then s2.1 ++ [(m.2.getD t (-1)).toNat] else s2.1, s2.2 ++ [(t, low)]) := by
        unfold rstep
        rw [if_neg (by rw [hin]; decide)]
      refine ⟨fun h0 => ?_, fun h0 => ⟨_, rfl, by rw [e2, er, if_neg h0]⟩⟩
      refine ⟨⟨_, sqX_ref (mL _)⟩, _, insR hm3.ho, _, rfl, _, eb _ hm3.hb, _, mL _, by rw [List.length_map]; show s2.1.length < _; omega, _, rfl, ?_⟩
      rw [e2, er, if_pos h0]
      have en : D.int (m.2.getD t (-1)) = natD (m.2.getD t (-1)).toNat := by unfold natD; rw [Int.toNat_of_nonneg h0]
      rw [en]
      show mup (mup (mup M l _) c _) l _ = mup (mup M l _) c _
      rw [mup_comm (Ne.symm hlc), mup_mup]
      have e9 : List.map natD (s2.1 ++ [(m.2.getD t (-1)).toNat]) = List.map natD s2.1 ++ [natD (m.2.getD t (-1)).toNat] := by rw [List.map_append]; rfl
      rw [e9]
    · rintro _ _ ⟨c5, rfl, rfl⟩
      rw [List.take_length, ← eT]
      obtain ⟨r2, g2⟩ := st row.length
      rw [List.take_length, ← eT] at r2 g2
      have gl := g2.len
      sizeOf_list_dec
      refine ⟨k, by omega, at_ + 1, _, c5, by simp, rfl, r2, by omega, by omega, hF⟩
  · have hge : ¬ at_ < s.1.length := by omega
    have e : reached ups m.2 beg = s := by
      rw [← hF]
      match k with
      | 0 => rfl
      | k + 1 => unfold reachF; rw [if_neg hge]
    have h := h l c hl hc hlc
    rw [e] at h
    exact Fin.same h
theorem sc_Matching_widen : FnScope ["self", "begin", "lower", "came", "free", "to", "low", "behind"] ["self", "begin"] (defScope s_Matching_widen) := ⟨rfl, rfl, rfl, by decide +kernel, rfl, by decide +kernel, by decide +kernel⟩
def sp_Matching_widen (C : Addr) : DSp := fun ds M Q _ => ∃ (p u a b : Addr) (k : Nat) (ups : List (List Nat)) (m : MS), ds = [.ref p, .int (k : Nat)] ∧ MatM C M p u a b ups m ∧ ups.length ≤ 10000 ∧ (∀ l, ∀ t ∈ ups.getD l [], t < ups.length) ∧ (∀ l, ∀ t ∈ ups.getD l [], l < ups.length) ∧ Con ups m ∧ k < ups.length ∧ m.1.getD k (-1) < 0 ∧
  Q .non (mup (mup M a (.lst ((widenF ups m k).1.map D.int))) b (.lst ((widenF ups m k).2.map D.int)))
theorem st_Matching_widen {a0 a1 : D} : dstart ["self", "begin", "lower", "came", "free", "to", "low", "behind"] [a0, a1] = [some a0, some a1, none, none, none, none, none, none] := rfl
theorem ok_Matching_widen (G : Glb P w K mg base C_BadMark C_Crossing C_Matching) (h_Matching_reached : Mfk P w K mg base T C_Matching "reached" 1 ["self", "begin"] (sp_Matching_reached C_Matching)) (Dd : MethAt K C_Matching "widen" "Matching.widen" s_Matching_widen ["self", "begin"]) : Mfk P w K mg base T C_Matching "widen" 2 ["self", "begin"] (sp_Matching_widen C_Matching) := by
  refine MethAt.ok Dd sc_Matching_widen (fun ds M Q E h => by
    obtain ⟨_, _, _, _, _, _, _, rfl, _⟩ := h
    rfl) fun f cdv A outer s H E hr => ?_
  have tk : Takes (cxOf (L2.CX P w) P w K mg base ["self", "begin", "lower", "came", "free", "to", "low", "behind"] "Matching.widen" (defScope s_Matching_widen) f cdv A outer s H E) (wOf T E).w := takes_of rfl rfl rfl rfl
  refine ⟨_, (dss_cons (ds_asg (de_meth h_Matching_reached G.cl_Matching (hr.mono (by decide)) tk (dv 0) (da_cons (de_lst (da_cons (dv 1) da_nil)) da_nil)) (dg_tup (n := 2) rfl (dgs_cons (dg_name (i := 2) sc_Matching_widen.nd rfl (by first | exact Or.inl rfl | exact Or.inr rfl) (fun _ e => nomatch e)) (dgs_cons (dg_name (i := 3) sc_Matching_widen.nd rfl (by first | exact Or.inl rfl | exact Or.inr rfl) (fun _ e => nomatch e)) dgs_nil))))
      (dss_cons (ds_lock (ds_setLcN 4 (LcOk.mk (own := [("to", 5)]) rfl sc_Matching_widen.nd (di_keys (dv 3)) (blkOk_by (N := ["self", "begin", "lower", "came", "free", "to", "low", "behind"]) (sc := defScope s_Matching_widen) (by decide +kernel)) (fun _ _ _ _ _ => (dg_name (i := 5) sc_Matching_widen.nd rfl (by first | exact Or.inl rfl | exact Or.inr rfl) (fun _ e => by cases e; decide))) (fun _ _ _ _ _ => (dts_one (dt_cmp op_lt real_lt (de_ix (de_fld G.cl_Matching G.na_Matching_below (dv 0)) (dv 5)) de_int (nomark _)))) (fun _ _ _ _ _ => (dv 5))) (sw_true rfl rfl rfl rfl)))
      (dss_cons (ds_if (dt_cmp (op_eqD hr.units) real_eq (dv 4) (de_lst da_nil) (nomark _)) (dss_one ds_retN) dss_nil)
      (dss_cons (ds_set 5 sc_Matching_widen.nd (de_callB (cr_min rfl) real_min rfl G.n_min rfl (da_cons (dv 4) da_nil)))
      (dss_one (ds_while (passes_of rfl) (dt_val de_bl) (dss_cons (ds_set 6 sc_Matching_widen.nd (de_dget (Room.u1 hr) (dv 3) (dv 5)))
      (dss_cons (ds_set 7 sc_Matching_widen.nd (de_ix (de_fld G.cl_Matching G.na_Matching_above (dv 0)) (dv 6)))
      (dss_cons (ds_asg (dv 5) (dg_sub (de_fld G.cl_Matching G.na_Matching_above (dv 0)) (dv 6)))
      (dss_cons (ds_asg (dv 6) (dg_sub (de_fld G.cl_Matching G.na_Matching_below (dv 0)) (dv 5)))
      (dss_cons (ds_if (dt_cmp (op_eqD hr.units) real_eq (dv 6) (dv 1) (nomark _)) (dss_one ds_retN) dss_nil)
      (dss_one (ds_set 5 sc_Matching_widen.nd (dv 7)))))))))))))), fun ds M Qd Ed h => ?_⟩
  obtain ⟨p, u, a, b, k, ups, m, rfl, hm, hn, hu, hul, hC, hk, hk0, h⟩ := h
  have sz : sizeLine = 16777216 := szl
  (first | (simp only [st_Matching_widen]; try sizeOf_list_dec) | sizeOf_list_dec)
  refine ⟨⟨_, insR hm.ho, rfl⟩, ?_⟩
  refine ⟨p, u, a, b, _, [k], ups, m, rfl, hm, rfl, hn, by simp, hu, fun l hl => ?_, hC.bnds, fun l c hl hc hlc => ?_⟩
  · obtain rfl : l = k := by simpa using hl
    exact hk
  obtain ⟨R, R2, R3⟩ := reached_ri (ups := ups) (below := m.2) (begin_ := [k]) hu
  unfold widenF at h
  dsimp only at h
  generalize reached ups m.2 [k] = r at R R2 R3 h
  obtain ⟨hpa, hpb, hpu⟩ := hm.pa
  have X0 : Ext M (mup (mup M l (.lst (r.1.map natD))) c (.dic (r.2.map cameD))) := ((Ext.refl M).up hl).up hc
  have mC : mup (mup M l (.lst (r.1.map natD))) c (.dic (r.2.map cameD)) c = some (.dic (r.2.map cameD)) := mup_same
  generalize mup (mup M l (.lst (r.1.map natD))) c (.dic (r.2.map cameD)) = MM at X0 mC
  have cne : ∀ x y, M x = some y → x ≠ c := fun x y hx z => by rw [z, hc] at hx; cases hx
  have kcnt : r.2.length ≤ ups.length := by
    have := nodup_sub R.nd (b := List.range ups.length) fun x hx => by
      obtain ⟨q, hq, rfl⟩ := List.mem_map.mp hx
      exact List.mem_range.mpr (R.kb q hq).1
    rwa [List.length_map, List.length_range] at this
  (first | (simp only [st_Matching_widen]; try sizeOf_list_dec) | sizeOf_list_dec)
  refine ⟨c, _, mC, fun uo => ⟨_, _, mup_same, by rw [List.length_map]; omega, ?_⟩⟩
  have XL : Ext M (mup MM c (.lkd (r.2.map cameD) uo)) := X0.up hc
  rw [came_keys]
  refine LI_F (F := natD) (xs := r.2.map (·.1)) injNat (fun to => if decide (m.2.getD to (-1) < 0) = true then some (natD to) else none) (fun M' hM => hM _ _ mup_same) (fun to hto M' hM => ?_) ?_
  · obtain ⟨q, hq, rfl⟩ := List.mem_map.mp hto
    have tb := (R.kb q hq).1
    have hm2 := hm.ext (XL.trans hM)
    show LB (gdName 5) _ _ _ _ (.int (q.1 : Nat)) _
    (first | (simp only [st_Matching_widen]; try sizeOf_list_dec) | sizeOf_list_dec)
    refine ⟨_, insR hm2.ho, _, rfl, _, (ixd_ref hm2.hb).trans (atI_int (by rw [hC.l2]; exact tb)), ?_⟩
    sizeOf_list_dec
    by_cases z : m.2.getD q.1 (-1) < 0
    · exact ⟨fun _ => by rw [if_pos z]; rfl, fun y => absurd z y⟩
    · exact ⟨fun y => absurd y z, fun _ => by rw [if_neg z]⟩
  rw [fm_ite]
  refine ⟨mup_same, ?_⟩
  rw [mup_mup, mup_self mC]
  show rdEq (.lst ((freeOf m.2 r).map natD)) _ _ _
  rw [eqNilL (n := 0) (f := natD) (fun k => lay_int 0 _)]
  refine ⟨_, rfl, fun hf => ?_, fun hf => ?_⟩
  · have hf : freeOf m.2 r = [] := by simpa using hf
    rw [if_pos hf, mup_self hm.ha, mup_self hm.hb] at h
    exact Fin.lessE X0 h
  have hf : freeOf m.2 r ≠ [] := by simpa using hf
  rw [if_neg hf] at h
  obtain ⟨hm1, hmin⟩ := minN_mem hf
  refine ⟨_, (freeOf m.2 r).map (fun k : Nat => (k : Int)), rfl, by rw [← natL]; rfl, by rw [List.length_map]; exact List.length_pos_iff.mpr hf, fun x hx hxm => ?_⟩
  obtain rfl : x = ((minN (freeOf m.2 r) : Nat) : Int) := by
    obtain ⟨y, hy, rfl⟩ := List.mem_map.mp hx
    have h1 := hmin y hy
    have h2 := hxm _ (List.mem_map.mpr ⟨_, hm1, rfl⟩)
    omega
  generalize minN (freeOf m.2 r) = to0 at hm1 h
  unfold freeOf at hm1
  obtain ⟨hk1, hk2⟩ := List.mem_filter.mp hm1
  have hk2 : m.2.getD to0 (-1) < 0 := by simpa using hk2
  obtain ⟨⟨p1, low0⟩, hp, e⟩ := List.mem_map.mp hk1
  obtain ⟨i0, hi0⟩ := List.mem_iff_getElem?.mp hp
  have e : p1 = to0 := e
  subst e
  have hil := (List.getElem?_eq_some_iff.mp hi0).1
  have A0 : AI ups m r.2 k i0 p1 m := ⟨hC.l1, hC.l2, fun l t h => (by
      obtain ⟨a1, a2, a3⟩ := hC.a l t h
      refine ⟨a1, a2, fun z => ?_, a3⟩
      rw [z] at a2
      omega), fun t l _ h => hC.b t l h, hk0, fun l t h => .inl h, fun l h => h, fun l h => h, fun L' U' D' _ => ⟨fun z => (by
      obtain ⟨l, _, e⟩ := D'.2 _ z
      omega), fun _ _ => rfl⟩⟩
  generalize hfree : ((r.2.map (fun x => x.1)).filter fun to => decide (m.2.getD to (-1) < 0)).map natD = frl
  generalize hfin : augF r.2 k (r.2.length + 1) p1 m = fin at h
  let Wv : Nat → DG → Mp → Prop := fun f Γ2 M2 => ∃ (i to low : Nat) (m1 : MS) (c6 c7 : Option D), i < f ∧ r.2[i]? = some (to, low) ∧ AI ups m r.2 k i to m1 ∧ augF r.2 k f to m1 = fin ∧ Γ2 = [some (.ref p), some (.int (k : Nat)), some (.ref l), some (.ref c), some (.lst frl), some (.int (to : Nat)), c6, c7] ∧ M2 = mup (mup MM a (.lst (m1.1.map D.int))) b (.lst (m1.2.map D.int))
  have hmM := hm.ext X0
  refine ⟨Wv, ⟨r.2.length + 1, i0, p1, low0, m, _, _, by omega, hi0, A0, hfin, rfl, by rw [mup_self hmM.ha, mup_self hmM.hb]⟩, ?_⟩
  rintro f _ _ ⟨i, to, low, m1, c6, c7, hif, hi, A, hF, rfl, rfl⟩
  have hac : a ≠ c := cne _ _ hm.ha
  have hbc : b ≠ c := cne _ _ hm.hb
  have hmN : MatM C_Matching (mup (mup MM a (.lst (m1.1.map D.int))) b (.lst (m1.2.map D.int))) p u a b ups m1 := hmM.put
  have mC2 : mup (mup MM a (.lst (m1.1.map D.int))) b (.lst (m1.2.map D.int)) c = some (.dic (r.2.map cameD)) := by rw [mup_ne (Ne.symm hbc), mup_ne (Ne.symm hac)]; exact mC
  have hw : whence r.2 to = some low := whence_at R.nd (p := (to, low)) hi
  obtain ⟨tb, _, tu⟩ := R.kb _ (List.mem_of_getElem? hi)
  have tb : to < ups.length := tb
  have hlow : low < ups.length := hul low to tu
  sizeOf_list_dec
  refine ⟨_, dcR mC2, Sum.inl (to : Int), rfl, natD low, by rw [came_val, hw]; rfl, ?_⟩
  refine ⟨_, insR hmN.ho, _, rfl, _, (ixd_ref hmN.ha).trans (atI_int (i := low) (by rw [A.l1]; exact hlow)), ?_⟩
  refine ⟨_, insR hmN.ho, _, rfl, a, rfl, _, (low : Int), rfl, hmN.ha, low, ixN_nat (by rw [List.length_map, A.l1]; exact hlow), ?_⟩
  have s1 : (m1.1.map D.int).set low (.int (to : Int)) = (m1.1.set low (to : Int)).map D.int := by rw [List.map_set]
  rw [s1, mup_comm (M := mup MM a (.lst (m1.1.map D.int))) (Ne.symm hm.ab), mup_mup]
  have hm3 : MatM C_Matching (mup (mup MM a (.lst ((m1.1.set low (to : Int)).map D.int))) b (.lst (m1.2.map D.int))) p u a b ups (m1.1.set low (to : Int), m1.2) := hmM.put (m' := (m1.1.set low (to : Int), m1.2))
  refine ⟨_, insR hm3.ho, _, rfl, b, rfl, _, hm3.hb, to, ixN_nat (by rw [List.length_map]; show to < m1.2.length; rw [A.l2]; exact tb), ?_⟩
  have s2 : (m1.2.map D.int).set to (natD low) = (m1.2.set to (low : Int)).map D.int := by rw [List.map_set]; rfl
  have s3 : ((m1.1.set low (to : Int), m1.2) : MS).2 = m1.2 := rfl
  rw [s3, s2, mup_mup]
  have eq : rdEq (natD low) (.int (k : Int)) = rdEq (.int (low : Int)) (.int (k : Int)) := rfl
  rw [eq, eqI]
  have hfs : f = (f - 1) + 1 := by omega
  rw [hfs] at hF
  unfold augF at hF
  rw [hw] at hF
  dsimp only [Option.getD_some] at hF
  refine ⟨_, rfl, fun hq => ?_, fun hq => ?_⟩
  · have hq : low = k := by simp at hq; omega
    rw [if_pos hq] at hF
    rw [← hF] at h
    exact Fin.lessE (ext_put2 X0) h
  · have hq : low ≠ k := by simp at hq; omega
    rw [if_neg hq] at hF
    obtain ⟨j, q, hj, hqj, hab, A2⟩ := aug_next hC hul R hi A hq
    rw [hab] at hF
    rw [Int.toNat_natCast] at hF
    refine ⟨f - 1, by omega, j, q.1, q.2, (m1.1.set low (to : Int), m1.2.set to (low : Int)), some (natD low), some (.int (q.1 : Nat)), by omega, hqj, A2, hF, ?_, rfl⟩
    rw [hab]
theorem sc_Matching_init : FnScope ["self", "marks", "many", "at", "to"] ["self", "marks"] (defScope s_Matching_init) := ⟨rfl, rfl, rfl, by decide +kernel, rfl, by decide +kernel, by decide +kernel⟩
def sp_Matching_init (C : Addr) : DSp := fun ds M Q _ => ∃ (p : Addr) (d : D) (ms : List Mk), ds = [.ref p, d] ∧ M p = some (.ins C []) ∧ sqD M d = some (ms.map mkD) ∧ ms.length ≤ 8000 ∧
  ∀ u a b M', MatM C M' p u a b (upsOf ms) (matchOf ms) → (∀ x c, x ≠ p → M x = some c → M' x = some c) → Q .non M'
theorem st_Matching_init {a0 a1 : D} : dstart ["self", "marks", "many", "at", "to"] [a0, a1] = [some a0, some a1, none, none, none] := rfl
theorem ok_Matching_init (G : Glb P w K mg base C_BadMark C_Crossing C_Matching) (h_Matching_widen : Mfk P w K mg base T C_Matching "widen" 2 ["self", "begin"] (sp_Matching_widen C_Matching)) (h_is_under : Dfk P w K mg base T "is_under" 1 ["one", "two"] sp_is_under) (Dd : MethAt K C_Matching "__init__" "Matching.__init__" s_Matching_init ["self", "marks"]) : Mfk P w K mg base T C_Matching "__init__" 3 ["self", "marks"] (sp_Matching_init C_Matching) := by
  refine MethAt.ok Dd sc_Matching_init (fun ds M Q E h => by
    obtain ⟨_, _, _, rfl, _⟩ := h
    rfl) fun f cdv A outer s H E hr => ?_
  have tk : Takes (cxOf (L2.CX P w) P w K mg base ["self", "marks", "many", "at", "to"] "Matching.__init__" (defScope s_Matching_init) f cdv A outer s H E) (wOf T E).w := takes_of rfl rfl rfl rfl
  refine ⟨_, (dss_cons (ds_set 2 sc_Matching_init.nd (de_callB call_len real_len rfl G.n_len rfl (da_cons (dv 1) da_nil)))
      (dss_cons (ds_put G.cl_Matching G.na_Matching_ups (dv 0) (de_lstO da_nil))
      (dss_cons (ds_for (passes_of rfl) rfl (di_rng1 rfl G.n_range (da_cons (dv 2) da_nil)) (dg_name (i := 3) sc_Matching_init.nd rfl (by first | exact Or.inl rfl | exact Or.inr rfl) (fun _ e => nomatch e)) (dss_one (ds_expr (de_append (de_fld G.cl_Matching G.na_Matching_ups (dv 0)) (de_lcN (LcOk.mk (own := [("to", 4)]) rfl sc_Matching_init.nd (di_rng1 rfl G.n_range (da_cons (dv 2) da_nil)) (blkOk_by (N := ["self", "marks", "many", "at", "to"]) (sc := defScope s_Matching_init) (by decide +kernel)) (fun _ _ _ _ _ => (dg_name (i := 4) sc_Matching_init.nd rfl (by first | exact Or.inl rfl | exact Or.inr rfl) (fun _ e => by cases e; decide))) (fun _ _ _ _ _ => (dts_one (dw_pt (dw_and (dt_cmp (op_neD hr.units) real_ne (dv 4) (dv 3) (nomark _)) (dw_and1 (dt_val (de_callA h_is_under (hr.mono (by decide)) takes_none5 (da_cons (de_ix (dv 1) (dv 3)) (da_cons (de_ix (dv 1) (dv 4)) da_nil))))))))) (fun _ _ _ _ _ => (dv 4))))))))
      (dss_cons (ds_put G.cl_Matching G.na_Matching_above (dv 0) (de_op op_rep real_repO (de_lst (da_cons (de_neg de_int) da_nil)) (dv 2)))
      (dss_cons (ds_put G.cl_Matching G.na_Matching_below (dv 0) (de_op op_rep real_repO (de_lst (da_cons (de_neg de_int) da_nil)) (dv 2)))
      (dss_one (ds_for (passes_of rfl) rfl (di_rng1 rfl G.n_range (da_cons (dv 2) da_nil)) (dg_name (i := 3) sc_Matching_init.nd rfl (by first | exact Or.inl rfl | exact Or.inr rfl) (fun _ e => nomatch e)) (dss_one (ds_expr (de_meth h_Matching_widen G.cl_Matching (hr.mono (by decide)) tk (dv 0) (da_cons (dv 3) da_nil))))))))))), fun ds M Qd Ed h => ?_⟩
  obtain ⟨p, d, ms, rfl, hp, hd, hn, h⟩ := h
  have sz : sizeLine = 16777216 := szl
  (first | (simp only [st_Matching_init]; try sizeOf_list_dec) | sizeOf_list_dec)
  rw [lenSq hd, List.length_map]
  (first | (simp only [st_Matching_init]; try sizeOf_list_dec) | sizeOf_list_dec)
  refine fun u hu => ?_
  have hpu : p ≠ u := fun z => by rw [z, hu] at hp; cases hp
  refine ⟨[], by rw [mup_ne hpu]; exact hp, by decide, ⟨by omega, by omega⟩, ?_⟩
  let rowOf : Nat → List Nat := fun at_ => (List.range ms.length).filter fun t => !decide (t = at_) && decide (und (ms.getD at_ noMk) (ms.getD t noMk))
  let M1 : Nat → Mp := fun j => mup (mup M u (.lst (((List.range j).map rowOf).map upD))) p (.ins C_Matching [("ups", .ref u)])
  have B1 : ∀ j, But p M (M1 j) := fun j x c hx hc => by
    show mup (mup M u _) p _ x = _
    rw [mup_ne hx, mup_ne fun z => by rw [z, hu] at hc; cases hc]
    exact hc
  have o1 : ∀ j, M1 j p = some (.ins C_Matching [("ups", .ref u)]) := fun j => mup_same
  have u1 : ∀ j, M1 j u = some (.lst (((List.range j).map rowOf).map upD)) := fun j => by
    show mup (mup M u _) p _ u = _
    rw [mup_ne (Ne.symm hpu)]
    exact mup_same
  have e0 : (rngD 0 1 ((ms.length : Int)).toNat) = rngD 0 1 ms.length := by rw [Int.toNat_natCast]
  rw [e0]
  refine forRng (fun j Γ2 M2 => ∃ c3 c4, Γ2 = [some (.ref p), some d, some (.int (ms.length : Nat)), c3, c4] ∧ M2 = M1 j) ⟨_, _, rfl, rfl⟩ (fun _ => trivial) ?_ ?_
  · rintro j _ _ hj ⟨c3, c4, rfl, rfl⟩
    (first | (simp only [st_Matching_init]; try sizeOf_list_dec) | sizeOf_list_dec)
    refine ⟨_, insR (o1 j), .ref u, rfl, ⟨_, sqX_ref (u1 j)⟩, ⟨by omega, by omega⟩, ?_⟩
    rw [e0]
    refine LI_F (xs := List.range ms.length) (injRng (by decide)) (fun t => if (!decide (t = j) && decide (und (ms.getD j noMk) (ms.getD t noMk))) = true then some (natD t) else none) (fun _ _ => trivial) (fun t ht M' hM => ?_) ?_
    · have ht := List.mem_range.mp ht
      have hd2 := sq_ext hM (sq_but (B1 j) hp hd)
      have atm : ∀ k : Nat, k < ms.length → ixD M' d (.int (k : Int)) = some (mkD (ms.getD k noMk)) := fun k hk => by
        rw [ixSq hd2]
        refine atMn ?_
        rw [List.getD_eq_getElem?_getD, List.getElem?_eq_getElem hk]
        rfl
      sizeOf_list_dec
      refine ⟨fun h1 => ⟨_, atm j hj, _, atm t ht, ms.getD j noMk, ms.getD t noMk, rfl, _, rfl, fun h2 => ⟨rfl, ?_⟩, fun h2 => ⟨rfl, ?_⟩⟩, fun h1 => ?_⟩
      · have h1 : ¬ t = j := by omega
        rw [if_pos (by rw [decide_eq_false h1, h2]; rfl)]
        rfl
      · rw [if_neg (by rw [h2]; simp)]
      · have h1 : t = j := by omega
        rw [if_neg (by rw [decide_eq_true h1]; simp)]
    · rw [fm_ite]
      refine ⟨u, rfl, _, u1 j, by rw [List.length_map, List.length_map, List.length_range]; omega, ?_⟩
      show mup (mup (mup M u _) p _) u _ = mup (mup M u _) p _
      rw [mup_comm hpu, mup_mup]
      have e3 : ((List.range (j + 1)).map rowOf).map upD = ((List.range j).map rowOf).map upD ++ [upD (rowOf j)] := by
        rw [List.range_succ, List.map_append, List.map_append]
        rfl
      rw [e3]
      rfl
  · rintro _ _ ⟨c3, c4, rfl, rfl⟩
    sizeOf_list_dec
    have rep1 : (List.replicate ((ms.length : Int)).toNat [D.int (-1)]).flatten = (List.replicate ms.length (-1 : Int)).map D.int := by
      rw [Int.toNat_natCast]
      generalize ms.length = k
      induction k with
      | zero => rfl
      | succ k ih => rw [List.replicate_succ, List.flatten_cons, ih, List.replicate_succ]; rfl
    refine ⟨[.int (-1)], _, rfl, rfl, by omega, by omega, by rw [Int.toNat_natCast, sz]; simp; omega, fun a1 ha1 => ?_⟩
    rw [rep1]
    have h1p : a1 ≠ p := fun z => by rw [z, o1] at ha1; cases ha1
    have h1u : a1 ≠ u := fun z => by rw [z, u1] at ha1; cases ha1
    have h1M : M a1 = none := by
      cases e : M a1 with
      | none => rfl
      | some c =>
        have := B1 ms.length a1 c h1p e
        rw [ha1] at this
        cases this
    refine ⟨_, by rw [mup_ne (Ne.symm h1p)]; exact o1 _, by simp, ?_⟩
    generalize hL : (List.replicate ms.length (-1 : Int)) = L
    rw [putA]
    generalize hM2 : mup (mup (M1 ms.length) a1 (.lst (L.map D.int))) p (.ins C_Matching [("ups", .ref u), ("above", .ref a1)]) = M2
    have o2 : M2 p = some (.ins C_Matching [("ups", .ref u), ("above", .ref a1)]) := by rw [← hM2]; exact mup_same
    have u2 : M2 u = some (.lst ((upsOf ms).map upD)) := by
      rw [← hM2, mup_ne (Ne.symm hpu), mup_ne (Ne.symm h1u)]
      exact u1 _
    have a2 : M2 a1 = some (.lst (L.map D.int)) := by
      rw [← hM2, mup_ne h1p]
      exact mup_same
    have B2 : But p M M2 := fun x c hx hc => by
      rw [← hM2, mup_ne hx, mup_ne fun z => by rw [z, h1M] at hc; cases hc]
      exact B1 _ x c hx hc
    refine ⟨[.int (-1)], _, rfl, rfl, by omega, by omega, by rw [Int.toNat_natCast, sz]; simp; omega, fun b1 hb1 => ?_⟩
    rw [rep1, hL]
    have h2p : b1 ≠ p := fun z => by rw [z, o2] at hb1; cases hb1
    have h2u : b1 ≠ u := fun z => by rw [z, u2] at hb1; cases hb1
    have h2a : b1 ≠ a1 := fun z => by rw [z, a2] at hb1; cases hb1
    have h2M : M b1 = none := by
      cases e : M b1 with
      | none => rfl
      | some c =>
        have := B2 b1 c h2p e
        rw [hb1] at this
        cases this
    refine ⟨_, by rw [mup_ne (Ne.symm h2p)]; exact o2, by simp, ⟨by omega, by omega⟩, ?_⟩
    rw [putB, e0]
    have hlen := upsOf_len ms
    have mi : ∀ j, j ≤ ms.length → MI (upsOf ms) j (matchF (upsOf ms) j) := fun j hj => match_mi (upsOf_hu ms) (upsOf_hul ms) j (by omega)
    refine forRng (fun j Γ2 M3 => ∃ c3 c4, Γ2 = [some (.ref p), some d, some (.int (ms.length : Nat)), c3, c4] ∧ MatM C_Matching M3 p u a1 b1 (upsOf ms) (matchF (upsOf ms) j) ∧ But p M M3) ⟨_, _, rfl, ⟨mup_same, by rw [mup_ne (Ne.symm hpu), mup_ne (Ne.symm h2u)]; exact u2, ?_, ?_, Ne.symm h1u, Ne.symm h2u, Ne.symm h2a⟩, fun x c hx hc => ?_⟩ (fun _ => trivial) ?_ ?_
    · rw [mup_ne h1p, mup_ne (Ne.symm h2a), a2, ← hL]
      show _ = some (Cell.lst ((List.replicate (upsOf ms).length (-1 : Int)).map D.int))
      rw [hlen]
    · rw [mup_ne h2p, mup_same, ← hL]
      show _ = some (Cell.lst ((List.replicate (upsOf ms).length (-1 : Int)).map D.int))
      rw [hlen]
    · rw [mup_ne hx, mup_ne fun z => by rw [z, h2M] at hc; cases hc]
      exact B2 x c hx hc
    · rintro j _ M3 hj ⟨c3, c4, rfl, hm, B3⟩
      sizeOf_list_dec
      have mj := mi j (by omega)
      refine ⟨⟨_, insR hm.ho, rfl⟩, p, u, a1, b1, j, upsOf ms, _, rfl, hm, by omega, upsOf_hu ms, upsOf_hul ms, mj.con, by omega, mj.un j (Nat.le_refl _), ?_⟩
      have e : matchF (upsOf ms) (j + 1) = widenF (upsOf ms) (matchF (upsOf ms) j) j := by
        unfold matchF
        rw [List.range_succ, List.foldl_append]
        rfl
      refine ⟨by rw [e]; exact hm.put, fun x c hx hc => ?_⟩
      have n1 : x ≠ a1 := fun z => by rw [z, h1M] at hc; cases hc
      have n2 : x ≠ b1 := fun z => by rw [z, h2M] at hc; cases hc
      rw [mup_ne n2, mup_ne n1]
      exact B3 x c hx hc
    · rintro _ M3 ⟨c3, c4, rfl, hm, B3⟩
      exact Fin.same (h u a1 b1 M3 hm B3)
theorem sc_Matching_rows : FnScope ["self", "found", "at", "low", "row"] ["self"] (defScope s_Matching_rows) := ⟨rfl, rfl, rfl, by decide +kernel, rfl, by decide +kernel, by decide +kernel⟩
def sp_Matching_rows (C : Addr) : DSp := fun ds M Q _ => ∃ (p u a b : Addr) (ups : List (List Nat)) (m : MS), ds = [.ref p] ∧ MatM C M p u a b ups m ∧ ups.length ≤ 8000 ∧ Con ups m ∧ (∃ rk, Rank ups rk) ∧ Q (.lst ((rowsF m).map upD)) M
theorem st_Matching_rows {a0 : D} : dstart ["self", "found", "at", "low", "row"] [a0] = [some a0, none, none, none, none] := rfl
theorem ok_Matching_rows (G : Glb P w K mg base C_BadMark C_Crossing C_Matching) (Dd : MethAt K C_Matching "rows" "Matching.rows" s_Matching_rows ["self"]) : Mfk P w K mg base T C_Matching "rows" 1 ["self"] (sp_Matching_rows C_Matching) := by
  refine MethAt.ok Dd sc_Matching_rows (fun ds M Q E h => by
    obtain ⟨_, _, _, _, _, _, rfl, _⟩ := h
    rfl) fun f cdv A outer s H E hr => ?_
  have tk : Takes (cxOf (L2.CX P w) P w K mg base ["self", "found", "at", "low", "row"] "Matching.rows" (defScope s_Matching_rows) f cdv A outer s H E) (wOf T E).w := takes_of rfl rfl rfl rfl
  refine ⟨_, (dss_cons (ds_set 1 sc_Matching_rows.nd (de_lstO da_nil))
      (dss_cons (ds_for (passes_of rfl) rfl (di_enum rfl G.n_enumerate (da_cons (de_fld G.cl_Matching G.na_Matching_below (dv 0)) da_nil)) (dg_tup (n := 2) rfl (dgs_cons (dg_name (i := 2) sc_Matching_rows.nd rfl (by first | exact Or.inl rfl | exact Or.inr rfl) (fun _ e => nomatch e)) (dgs_cons (dg_name (i := 3) sc_Matching_rows.nd rfl (by first | exact Or.inl rfl | exact Or.inr rfl) (fun _ e => nomatch e)) dgs_nil))) (dss_one (ds_if (dt_cmp op_lt real_lt (dv 3) de_int (nomark _)) (dss_cons (ds_set 4 sc_Matching_rows.nd (de_lstO (da_cons (dv 2) da_nil)))
      (dss_cons (ds_while (passes_of rfl) (dt_cmp op_ge real_ge (de_ix (de_fld G.cl_Matching G.na_Matching_above (dv 0)) (de_ix (dv 4) (de_neg de_int))) de_int (nomark _)) (dss_one (ds_expr (de_append (dv 4) (de_ix (de_fld G.cl_Matching G.na_Matching_above (dv 0)) (de_ix (dv 4) (de_neg de_int)))))))
      (dss_gh (dss_one (ds_expr (de_append (dv 1) (dv 4))))))) dss_nil)))
      (dss_one (ds_ret (dv 1))))), fun ds M Qd Ed h => ?_⟩
  obtain ⟨p, u, a, b, ups, m, rfl, hm, hn, hC, ⟨rk, hR⟩, h⟩ := h
  have sz : sizeLine = 16777216 := szl
  (first | (simp only [st_Matching_rows]; try sizeOf_list_dec) | sizeOf_list_dec)
  refine fun q hq => ?_
  let MQ : List (List Nat) → Mp := fun fs => mup M q (.lst (fs.map upD))
  have XQ : ∀ fs, Ext M (MQ fs) := fun fs => (Ext.refl M).up hq
  have mQ : ∀ fs, MQ fs q = some (.lst (fs.map upD)) := fun fs => mup_same
  have n1 := hC.l1
  have n2 := hC.l2
  refine ⟨_, insR (hm.ext (XQ [])).ho, .ref b, rfl, m.2.map D.int, sqD_ref (hm.ext (XQ [])).hb, by rw [List.length_map, sz]; omega, ?_⟩
  rw [enD_eq]
  let lowB : Nat → Bool := fun a => decide (m.2.getD a (-1) < 0)
  let I : Nat → DG → Mp → Prop := fun j Γ2 M2 => ∃ c2 c3 c4, Γ2 = [some (.ref p), some (.ref q), c2, c3, c4] ∧ M2 = MQ (((List.range j).filter lowB).map (rowF m.1 m.1.length))
  refine forBy I ⟨_, _, _, rfl, rfl⟩ (fun j Γ2 M2 hI => by obtain ⟨_, _, _, _, rfl⟩ := hI; exact sqD_ref (hm.ext (XQ _)).hb) ?_ ?_
  · rintro j pr _ _ hpr ⟨c2, c3, c4, rfl, rfl⟩
    rw [List.getElem?_zipIdx, Option.map_eq_some_iff] at hpr
    obtain ⟨v, hv, rfl⟩ := hpr
    have hj : j < ups.length := by rw [← n2]; exact (List.getElem?_eq_some_iff.mp hv).1
    have ev : m.2.getD j (-1) = v := by rw [List.getD_eq_getElem?_getD, hv]; rfl
    have e0 : (0 + j : Nat) = j := by omega
    simp only [e0, st_Matching_rows, dLenSetA, dJoin, dSplit, dJoined, dJs, dFmt, rdDictN, rdEqE, dIEn0, dFrzD, dFrzT, dWget, dDpop, dDdel, dDelSl, dSetSl, dFldAug, dFin, dMethK, dMakeK, dDnewT, dDinT, dDgetT, dDputT, dDinP, dDgetP, dDputP, dListRg1, dFrzI, gdStar, dMaxK, dDctGet, rdDictP, dSeq, dNext, dRet, dRetN, dIfS, dSet, dPar, dAsg, dDrop, dC, dOp, dTest, dChain, dChain3, dChain4, dAnd, dOr, dNot, dAndV, dOrV, dNotV, dCons, dNil, dTup, dLst, dLstO, dCB, dCall, dIf, dUn, dAppend, dPop, dPopI, dIndex, dLenSet, dInsert, dAug, dWhile, dDelL, dCont, dBreak, dFld, dPut, dMeth, dMake, dDnew, dDin, dDget, dDput, dLck, dLckS, dIKeys, dDc, insF, dcF1, dAct, dCallK, dCBK, dHof, spLm, startL, capD, dTryN, exN, offD, dXf, Option.join_some, List.map_nil, List.nil_append, List.cons_append, List.replicate, dVar, rdI_eq, rdIc_eq, rdIx, rdInt2_eq, lenL, isN_non, isN_tup, isN_int, dFrz, dAugS, dIsi, dIsi2, dListRg, dSetSp, dSetIn, dLc2O, dRev, lenT, dIZip, zpL, zpD_tup, zip_map, isaTL, isaTT, isaLL, isaLT, isaIB, isaII, isaIS, isaIL, isaIT, neSpU, eqSpU, neMkU, eqMkU, eqB, neB, isN_bl, isN_lst, isN_ref, isaBB, isaBL, isaBT, isaBI, isaBS, tyI, tyB, tyN, tyTu, tyLs, Cell.lst.injEq, implies_true, reduceCtorEq, true_implies, false_implies, if_true, if_false, Int.reduceToNat, Int.reducePow, Int.reduceNeg, exX, LB, dYes, dwipe, addL, sz0, sz1, sz2, sz3, Int.zero_add, Int.mul_one, dLcN_eq, dLcNO_eq, dIRng1, dIRng2, dIEn, dISeq, dFor_eq, List.map_cons, List.map_nil, mulI, rdAbs_eq, eqI, neI, xN4_0, xN4_1, xN4_2, xN4_3, List.length_map, ixS, mup_same, mup_mup, dRaise, gdName, gdTup, gdUnl, gdNil_eq, gdCons_eq, gdSub, dPart, dNoPart, dSl, tpD, fd0, List.getElem?_cons_zero, List.getElem?_cons_succ, List.set_cons_zero, List.set_cons_succ, Option.some.injEq, exists_eq_left', exists_eq_left, exists_eq_right, exists_eq_right', D.int.injEq, D.bl.injEq, D.tup.injEq, D.lst.injEq, D.ref.injEq, ixd_tup, ixd_lst, spD, mkD, decide_eq_true_eq, decide_eq_false_iff_not, Nat.reduceAdd, Int.reduceNeg, at0, at1, at2, at3, List.cons.injEq, and_true, true_and, List.append_nil, exists_and_left, exists_and_right, List.length_cons, List.length_nil, addI, res_int, deq_int, sh_int, iffB, parEq, Bool.not_eq_true', Bool.not_eq_false', Bool.not_eq_true ]
    have fr : (List.range (j + 1)).filter lowB = (List.range j).filter lowB ++ (if lowB j = true then [j] else []) := by
      rw [List.range_succ, List.filter_append]
      cases h : lowB j <;> simp [h]
    refine ⟨fun hv0 => ?_, fun hv0 => ⟨_, _, _, rfl, ?_⟩⟩
    · have hl : lowB j = true := decide_eq_true (by rw [ev]; exact hv0)
      rw [if_pos hl] at fr
      refine fun w hw => ?_
      generalize hfs : ((List.range j).filter lowB).map (rowF m.1 m.1.length) = fs at hw ⊢
      have hwq : w ≠ q := fun z => by rw [z, mQ] at hw; cases hw
      have Xw : ∀ c, Ext M (mup (MQ fs) w c) := fun c => (XQ fs).up (by
        cases e : M w with
        | none => rfl
        | some y => have := XQ fs w y e; rw [hw] at this; cases this)
      let Wv : Nat → DG → Mp → Prop := fun f Γ2 M2 => ∃ (pre : List Nat) (x : Nat), Γ2 = [some (.ref p), some (.ref q), some (.int (j : Nat)), some (.int v), some (.ref w)] ∧ M2 = mup (MQ fs) w (.lst ((pre ++ [x]).map natD)) ∧ pre ++ rowF m.1 f x = rowF m.1 m.1.length j ∧ ups.length ≤ f + rk x ∧ x < ups.length
      refine ⟨Wv, ⟨m.1.length, [], j, rfl, rfl, rfl, by omega, hj⟩, ?_⟩
      rintro f _ _ ⟨pre, x, rfl, rfl, hF, hf, hx⟩
      have hm2 := hm.ext (Xw (.lst ((pre ++ [x]).map natD)))
      have eL : atI ((pre ++ [x]).map natD) (-1) = some (natD x) := by
        rw [atLast (f := natD) (xs := pre ++ [x]) (by simp)]
        simp
      have hlen := rowF_len m.1 m.1.length j
      rw [← hF, List.length_append] at hlen
      have eA : ixD (mup (MQ fs) w (.lst ((pre ++ [x]).map natD))) (.ref a) (natD x) = some (.int (m.1.getD x (-1))) := (ixd_ref hm2.ha).trans (atI_int (by omega))
      have hrk := hR.lt x hx
      have hfs1 : f = (f - 1) + 1 := by omega
      rw [hfs1] at hF
      rw [rowF_succ] at hF
      (first | (simp only [st_Matching_rows]; try sizeOf_list_dec) | sizeOf_list_dec)
      refine ⟨_, insR hm2.ho, _, rfl, _, eL, _, eA, ?_⟩
      (first | (simp only [st_Matching_rows]; try sizeOf_list_dec) | sizeOf_list_dec)
      refine ⟨fun h0 => ?_, fun h0 => ?_⟩
      · rw [if_pos h0] at hF
        obtain ⟨t, et, ht, _, hu⟩ := hC.edge h0
        have hrt := hR.up x t hu
        rw [et, Int.toNat_natCast] at hF
        refine ⟨_, insR hm2.ho, _, rfl, _, eL, _, eA, by rw [sz]; simp; omega, f - 1, by omega, pre ++ [x], t, rfl, ?_, by rw [List.append_assoc]; exact hF, by omega, ht⟩
        rw [et, List.map_append (l₁ := pre ++ [x])]
        rfl
      · rw [if_neg (by omega)] at hF
        refine GhS.frz (i := 4) rfl mup_same ?_
        rw [mdel_mup hw]
        sizeOf_list_dec
        have fl : fs.length ≤ j := by
          rw [← hfs, List.length_map]
          have := List.length_filter_le lowB (List.range j)
          rwa [List.length_range] at this
        have e1 : (((List.range j).filter lowB ++ [j]).map (rowF m.1 m.1.length)).map upD = fs.map upD ++ [upD (pre ++ [x])] := by
          rw [List.map_append, hfs, List.map_append, hF]
          rfl
        refine ⟨⟨_, sqX_ref (mQ fs)⟩, _, mQ fs, by rw [sz, List.length_map]; omega, _, _, _, rfl, ?_⟩
        rw [fr]
        show mup (mup M q _) q _ = mup M q _
        rw [mup_mup, e1]
        rfl
    · have hl : lowB j = false := decide_eq_false (by rw [ev]; exact hv0)
      rw [fr, if_neg (by rw [hl]; decide), List.append_nil]
  · rintro _ _ ⟨c2, c3, c4, rfl, rfl⟩
    sizeOf_list_dec
    refine Fin.frzN hq ?_
    have e : ((List.range (m.2.zipIdx).length).filter lowB).map (rowF m.1 m.1.length) = rowsF m := by
      rw [List.length_zipIdx]
      rfl
    rw [e]
    exact h
theorem sc_Matching_unlike : FnScope ["self", "many", "lower", "came", "known", "at"] ["self"] (defScope s_Matching_unlike) := ⟨rfl, rfl, rfl, by decide +kernel, rfl, by decide +kernel, by decide +kernel⟩
def sp_Matching_unlike (C : Addr) : DSp := fun ds M Q _ => ∃ (p u a b : Addr) (ups : List (List Nat)) (m : MS), ds = [.ref p] ∧ MatM C M p u a b ups m ∧ ups.length ≤ 8000 ∧ Con ups m ∧ (∀ l, ∀ t ∈ ups.getD l [], t < ups.length) ∧ Q (.lst ((unlikeF ups m).map natD)) M
theorem st_Matching_unlike {a0 : D} : dstart ["self", "many", "lower", "came", "known", "at"] [a0] = [some a0, none, none, none, none, none] := rfl
theorem ok_Matching_unlike (G : Glb P w K mg base C_BadMark C_Crossing C_Matching) (h_Matching_reached : Mfk P w K mg base T C_Matching "reached" 1 ["self", "begin"] (sp_Matching_reached C_Matching)) (Dd : MethAt K C_Matching "unlike" "Matching.unlike" s_Matching_unlike ["self"]) : Mfk P w K mg base T C_Matching "unlike" 2 ["self"] (sp_Matching_unlike C_Matching) := by
  refine MethAt.ok Dd sc_Matching_unlike (fun ds M Q E h => by
    obtain ⟨_, _, _, _, _, _, rfl, _⟩ := h
    rfl) fun f cdv A outer s H E hr => ?_
  have tk : Takes (cxOf (L2.CX P w) P w K mg base ["self", "many", "lower", "came", "known", "at"] "Matching.unlike" (defScope s_Matching_unlike) f cdv A outer s H E) (wOf T E).w := takes_of rfl rfl rfl rfl
  refine ⟨_, (dss_cons (ds_set 1 sc_Matching_unlike.nd (de_callB call_len real_len rfl G.n_len rfl (da_cons (de_fld G.cl_Matching G.na_Matching_above (dv 0)) da_nil)))
      (dss_cons (ds_asg (de_meth h_Matching_reached G.cl_Matching (hr.mono (by decide)) tk (dv 0) (da_cons (de_lcN (LcOk.mk (own := [("at", 5)]) rfl sc_Matching_unlike.nd (di_rng1 rfl G.n_range (da_cons (dv 1) da_nil)) (blkOk_by (N := ["self", "many", "lower", "came", "known", "at"]) (sc := defScope s_Matching_unlike) (by decide +kernel)) (fun _ _ _ _ _ => (dg_name (i := 5) sc_Matching_unlike.nd rfl (by first | exact Or.inl rfl | exact Or.inr rfl) (fun _ e => by cases e; decide))) (fun _ _ _ _ _ => (dts_one (dt_cmp op_lt real_lt (de_ix (de_fld G.cl_Matching G.na_Matching_above (dv 0)) (dv 5)) de_int (nomark _)))) (fun _ _ _ _ _ => (dv 5)))) da_nil)) (dg_tup (n := 2) rfl (dgs_cons (dg_name (i := 2) sc_Matching_unlike.nd rfl (by first | exact Or.inl rfl | exact Or.inr rfl) (fun _ e => nomatch e)) (dgs_cons (dg_name (i := 3) sc_Matching_unlike.nd rfl (by first | exact Or.inl rfl | exact Or.inr rfl) (fun _ e => nomatch e)) dgs_nil))))
      (dss_cons (ds_set 4 sc_Matching_unlike.nd (de_dc (own := [("at", 5)]) rfl sc_Matching_unlike.nd (di_seq (dv 2)) (blkOk_by (N := ["self", "many", "lower", "came", "known", "at"]) (sc := defScope s_Matching_unlike) (by decide +kernel)) (fun _ _ _ _ _ => (dg_name (i := 5) sc_Matching_unlike.nd rfl (by first | exact Or.inl rfl | exact Or.inr rfl) (fun _ e => by cases e; decide))) (fun _ _ _ _ _ => dts_nil) (fun _ _ _ _ _ => (dv 5)) (fun _ _ _ _ _ => de_bl)))
      (dss_one (ds_ret (de_lcN (LcOk.mk (own := [("at", 5)]) rfl sc_Matching_unlike.nd (di_rng1 rfl G.n_range (da_cons (dv 1) da_nil)) (blkOk_by (N := ["self", "many", "lower", "came", "known", "at"]) (sc := defScope s_Matching_unlike) (by decide +kernel)) (fun _ _ _ _ _ => (dg_name (i := 5) sc_Matching_unlike.nd rfl (by first | exact Or.inl rfl | exact Or.inr rfl) (fun _ e => by cases e; decide))) (fun _ _ _ _ _ => (dts_one (dw_pt (dw_and (dt_din (Room.u1 hr) (dv 5) (dv 4)) (dw_and1 (dt_dnotin (Room.u1 hr) (dv 5) (dv 3))))))) (fun _ _ _ _ _ => (dv 5))))))))), fun ds M Qd Ed h => ?_⟩
  obtain ⟨p, u, a, b, ups, m, rfl, hm, hn, hC, hu, h⟩ := h
  have sz : sizeLine = 16777216 := szl
  (first | (simp only [st_Matching_unlike]; try sizeOf_list_dec) | sizeOf_list_dec)
  refine ⟨_, insR hm.ho, .ref a, rfl, ?_⟩
  rw [lenR hm.ha]
  simp only [List.length_map, st_Matching_unlike, dLenSetA, dJoin, dSplit, dJoined, dJs, dFmt, rdDictN, rdEqE, dIEn0, dFrzD, dFrzT, dWget, dDpop, dDdel, dDelSl, dSetSl, dFldAug, dFin, dMethK, dMakeK, dDnewT, dDinT, dDgetT, dDputT, dDinP, dDgetP, dDputP, dListRg1, dFrzI, gdStar, dMaxK, dDctGet, rdDictP, dSeq, dNext, dRet, dRetN, dIfS, dSet, dPar, dAsg, dDrop, dC, dOp, dTest, dChain, dChain3, dChain4, dAnd, dOr, dNot, dAndV, dOrV, dNotV, dCons, dNil, dTup, dLst, dLstO, dCB, dCall, dIf, dUn, dAppend, dPop, dPopI, dIndex, dLenSet, dInsert, dAug, dWhile, dDelL, dCont, dBreak, dFld, dPut, dMeth, dMake, dDnew, dDin, dDget, dDput, dLck, dLckS, dIKeys, dDc, insF, dcF1, dAct, dCallK, dCBK, dHof, spLm, startL, capD, dTryN, exN, offD, dXf, Option.join_some, List.map_nil, List.nil_append, List.cons_append, List.replicate, dVar, rdI_eq, rdIc_eq, rdIx, rdInt2_eq, lenL, isN_non, isN_tup, isN_int, dFrz, dAugS, dIsi, dIsi2, dListRg, dSetSp, dSetIn, dLc2O, dRev, lenT, dIZip, zpL, zpD_tup, zip_map, isaTL, isaTT, isaLL, isaLT, isaIB, isaII, isaIS, isaIL, isaIT, neSpU, eqSpU, neMkU, eqMkU, eqB, neB, isN_bl, isN_lst, isN_ref, isaBB, isaBL, isaBT, isaBI, isaBS, tyI, tyB, tyN, tyTu, tyLs, Cell.lst.injEq, implies_true, reduceCtorEq, true_implies, false_implies, if_true, if_false, Int.reduceToNat, Int.reducePow, Int.reduceNeg, exX, LB, dYes, dwipe, addL, sz0, sz1, sz2, sz3, Int.zero_add, Int.mul_one, dLcN_eq, dLcNO_eq, dIRng1, dIRng2, dIEn, dISeq, dFor_eq, List.map_cons, List.map_nil, mulI, rdAbs_eq, eqI, neI, xN4_0, xN4_1, xN4_2, xN4_3, List.length_map, ixS, mup_same, mup_mup, dRaise, gdName, gdTup, gdUnl, gdNil_eq, gdCons_eq, gdSub, dPart, dNoPart, dSl, tpD, fd0, List.getElem?_cons_zero, List.getElem?_cons_succ, List.set_cons_zero, List.set_cons_succ, Option.some.injEq, exists_eq_left', exists_eq_left, exists_eq_right, exists_eq_right', D.int.injEq, D.bl.injEq, D.tup.injEq, D.lst.injEq, D.ref.injEq, ixd_tup, ixd_lst, spD, mkD, decide_eq_true_eq, decide_eq_false_iff_not, Nat.reduceAdd, Int.reduceNeg, at0, at1, at2, at3, List.cons.injEq, and_true, true_and, List.append_nil, exists_and_left, exists_and_right, List.length_cons, List.length_nil, addI, res_int, deq_int, sh_int, iffB, parEq, Bool.not_eq_true', Bool.not_eq_false', Bool.not_eq_true ]
  have n1 := hC.l1
  have n2 := hC.l2
  have e0 : rngD 0 1 ((m.1.length : Int)).toNat = rngD 0 1 m.1.length := by rw [Int.toNat_natCast]
  refine ⟨⟨_, insR hm.ho, rfl⟩, ⟨by omega, by omega⟩, ?_⟩
  rw [e0]
  refine LI_F (xs := List.range m.1.length) (injRng (by decide)) (fun k => if decide (m.1.getD k (-1) < 0) = true then some (natD k) else none) (fun _ _ => trivial) (fun k hk M' hM => ?_) ?_
  · have hk := List.mem_range.mp hk
    have hm2 := hm.ext hM
    (first | (simp only [st_Matching_unlike]; try sizeOf_list_dec) | sizeOf_list_dec)
    refine ⟨_, insR hm2.ho, _, rfl, _, (ixd_ref hm2.ha).trans (atI_int hk), ?_⟩
    (first | (simp only [st_Matching_unlike]; try sizeOf_list_dec) | sizeOf_list_dec)
    by_cases z : m.1.getD k (-1) < 0
    · exact ⟨fun _ => by rw [if_pos z]; rfl, fun y => absurd z y⟩
    · exact ⟨fun y => absurd y z, fun _ => by rw [if_neg z]⟩
  rw [fm_ite]
  show sp_Matching_reached C_Matching [.ref p, .lst ((freeLow m).map natD)] _ _ _
  have hfl : ∀ l ∈ freeLow m, l < ups.length := fun l hl => by
    unfold freeLow at hl
    have := List.mem_range.mp (List.mem_filter.mp hl).1
    omega
  have hfn : (freeLow m).length ≤ 8000 := by
    unfold freeLow
    have := List.length_filter_le (fun a => decide (m.1.getD a (-1) < 0)) (List.range m.1.length)
    rw [List.length_range] at this
    omega
  refine ⟨p, u, a, b, _, freeLow m, ups, m, rfl, hm, rfl, by omega, by omega, hu, hfl, hC.bnds, fun l c hl hc hlc => ?_⟩
  obtain ⟨R, R2, R3⟩ := reached_ri (ups := ups) (below := m.2) (begin_ := freeLow m) hu
  unfold unlikeF at h
  dsimp only at h
  generalize reached ups m.2 (freeLow m) = r at R R2 R3 h
  have cnt := R.count
  have mL : mup (mup M l (.lst (r.1.map natD))) c (.dic (r.2.map cameD)) l = some (.lst (r.1.map natD)) := by rw [mup_ne hlc]; exact mup_same
  have mC : mup (mup M l (.lst (r.1.map natD))) c (.dic (r.2.map cameD)) c = some (.dic (r.2.map cameD)) := mup_same
  have X : Ext M (mup (mup M l (.lst (r.1.map natD))) c (.dic (r.2.map cameD))) := ((Ext.refl M).up hl).up hc
  generalize mup (mup M l (.lst (r.1.map natD))) c (.dic (r.2.map cameD)) = M2 at mL mC X
  sizeOf_list_dec
  refine ⟨_, itSq (sqD_ref mL), fun M' hM => itSq (sqD_ref (hM _ _ mL)), knownF, fun d hd M' hM => ?_, by rw [szl, List.length_map]; omega, fun w hw => ?_⟩
  · obtain ⟨k, hk, rfl⟩ := List.mem_map.mp hd
    exact ⟨_, rfl, rfl⟩
  have hwM : M w = none := by
    cases e : M w with
    | none => rfl
    | some y => have := X w y e; rw [hw] at this; cases this
  have X3 := X.up hwM (c := .dic (dcF knownF (r.1.map natD)))
  have wc : w ≠ c := fun z => by rw [z, mC] at hw; cases hw
  have mC3 : mup M2 w (.dic (dcF knownF (r.1.map natD))) c = some (.dic (r.2.map cameD)) := by rw [mup_ne (Ne.symm wc)]; exact mC
  have mW3 : mup M2 w (.dic (dcF knownF (r.1.map natD))) w = some (.dic (dcF knownF (r.1.map natD))) := mup_same
  generalize mup M2 w (.dic (dcF knownF (r.1.map natD))) = M3 at mC3 mW3 X3
  refine ⟨⟨by omega, by omega⟩, ?_⟩
  rw [e0]
  refine LI_F (xs := List.range m.1.length) (injRng (by decide)) (fun k => if (decide (k ∈ r.1) && !isIn r.2 k) = true then some (natD k) else none) (fun _ _ => trivial) (fun k hk M' hM => ?_) ?_
  · sizeOf_list_dec
    refine ⟨_, dcR (hM _ _ mW3), Sum.inl (k : Int), rfl, ?_⟩
    rw [known_in]
    refine ⟨fun z => ⟨_, dcR (hM _ _ mC3), Sum.inl (k : Int), rfl, ?_⟩, fun z => by rw [z]; rfl⟩
    rw [came_in, z]
    exact ⟨fun y => by rw [y]; rfl, fun y => by rw [y]; rfl⟩
  rw [fm_ite]
  exact Fin.lessE X3 h
theorem sc_chained : FnScope ["marks", "found", "rows", "row", "at"] ["marks"] (defScope s_chained) := ⟨rfl, rfl, rfl, by decide +kernel, rfl, by decide +kernel, by decide +kernel⟩
def sp_chained (C : Addr) : DSp := fun ds M Q _ => ∃ (d : D) (ms : List Mk), ds = [d] ∧ sqD M d = some (ms.map mkD) ∧ ms.length ≤ 8000 ∧ ms.Nodup ∧ Q (.tup [.lst ((rowsOf ms).map fun r => .lst (r.map mkD)), .lst ((unlikeOf ms).map mkD)]) M
theorem st_chained {a0 : D} : dstart ["marks", "found", "rows", "row", "at"] [a0] = [some a0, none, none, none, none] := rfl
theorem ok_chained (G : Glb P w K mg base C_BadMark C_Crossing C_Matching) (h_Matching_init : Mfk P w K mg base T C_Matching "__init__" 3 ["self", "marks"] (sp_Matching_init C_Matching)) (h_Matching_rows : Mfk P w K mg base T C_Matching "rows" 1 ["self"] (sp_Matching_rows C_Matching)) (h_Matching_unlike : Mfk P w K mg base T C_Matching "unlike" 2 ["self"] (sp_Matching_unlike C_Matching)) (Dd : DefAt K mg "chained" s_chained ["marks"]) : Dfk P w K mg base T "chained" 5 ["marks"] (sp_chained C_Matching) := by
  refine DefAt.ok Dd sc_chained (fun ds M Q E h => by
    obtain ⟨_, _, rfl, _⟩ := h
    rfl) fun f cdv A outer s H E hr => ?_
  have tk : Takes (cxOf (L2.CX P w) P w K mg base ["marks", "found", "rows", "row", "at"] "chained" (defScope s_chained) f cdv A outer s H E) (wOf T E).w := takes_of rfl rfl rfl rfl
  refine ⟨_, (dss_cons (ds_set 1 sc_chained.nd (de_make (mkk_of h_Matching_init G.mk_Matching) (hr.mono (by decide)) tk (da_cons (dv 0) da_nil)))
      (dss_cons (ds_setLcN 2 (LcOk.mk (own := [("row", 3)]) rfl sc_chained.nd (di_seq (de_meth0 h_Matching_rows G.cl_Matching (hr.mono (by decide)) tk (dv 1))) (blkOk_by (N := ["marks", "found", "rows", "row", "at"]) (sc := defScope s_chained) (by decide +kernel)) (fun _ _ _ _ _ => (dg_name (i := 3) sc_chained.nd rfl (by first | exact Or.inl rfl | exact Or.inr rfl) (fun _ e => by cases e; decide))) (fun _ _ _ _ _ => dts_nil) (fun _ _ _ _ _ => (de_lcN (LcOk.mk (own := [("at", 4)]) rfl sc_chained.nd (di_seq (dv 3)) (blkOk_rel (N := ["marks", "found", "rows", "row", "at"]) (by decide +kernel)) (fun _ _ _ _ _ => (dg_name (i := 4) sc_chained.nd rfl (by first | exact Or.inl rfl | exact Or.inr rfl) (fun _ e => by cases e; decide))) (fun _ _ _ _ _ => dts_nil) (fun _ _ _ _ _ => (de_ix (dv 0) (dv 4))))))) (sw_true rfl rfl rfl rfl))
      (dss_one (ds_ret (de_tup (da_cons (dv 2) (da_cons (de_lcN (LcOk.mk (own := [("at", 4)]) rfl sc_chained.nd (di_seq (de_meth0 h_Matching_unlike G.cl_Matching (hr.mono (by decide)) tk (dv 1))) (blkOk_by (N := ["marks", "found", "rows", "row", "at"]) (sc := defScope s_chained) (by decide +kernel)) (fun _ _ _ _ _ => (dg_name (i := 4) sc_chained.nd rfl (by first | exact Or.inl rfl | exact Or.inr rfl) (fun _ e => by cases e; decide))) (fun _ _ _ _ _ => dts_nil) (fun _ _ _ _ _ => (de_ix (dv 0) (dv 4))))) da_nil))))))), fun ds M Qd Ed h => ?_⟩
  obtain ⟨d, ms, rfl, hd, hn, nd, h⟩ := h
  have sz : sizeLine = 16777216 := szl
  (first | (simp only [st_chained]; try sizeOf_list_dec) | sizeOf_list_dec)
  refine fun p hp => ⟨p, d, ms, rfl, mup_same, sq_ext ((Ext.refl M).up hp) hd, hn, fun u a b M2 hm hB => ⟨rfl, ⟨_, insR hm.ho, rfl⟩, ?_⟩⟩
  have X2 : Ext M M2 := fun x c hc => by
    have hx : x ≠ p := fun z => by rw [z, hp] at hc; cases hc
    exact hB x c hx (by rw [mup_ne hx]; exact hc)
  have MI := matchOf_mi ms
  have hl := upsOf_len ms
  have hd2 := sq_ext X2 hd
  have atm : ∀ M', Ext M2 M' → ∀ k : Nat, k < ms.length → ixD M' d (natD k) = some (mkD (ms.getD k noMk)) := fun M' hM k hk => by
    show ixD M' d (.int (k : Int)) = _
    rw [ixSq (sq_ext hM hd2)]
    refine atMn ?_
    rw [List.getD_eq_getElem?_getD, List.getElem?_eq_getElem hk]
    rfl
  refine ⟨p, u, a, b, upsOf ms, matchOf ms, rfl, hm, by omega, MI.con, upsOf_rank nd, ?_⟩
  have rb : ∀ r ∈ rowsF (matchOf ms), ∀ x ∈ r, x < ms.length := fun r hr x hx => by
    obtain ⟨s, hs, rfl⟩ := List.mem_map.mp hr
    have hsl : s < (upsOf ms).length := by
      have := List.mem_range.mp (List.mem_filter.mp hs).1
      rw [MI.con.l2] at this
      exact this
    have := rowF_mem MI.con _ s hsl x hx
    omega
  have injUp : ∀ a b : List Nat, upD a = upD b → a = b := fun a b h => by
    have : a.map natD = b.map natD := by simpa [upD] using h
    exact List.map_inj_right (f := natD) injNat |>.mp this
  refine ⟨_, rfl, LI_F (F := upD) (xs := rowsF (matchOf ms)) injUp (fun r => some (.lst ((r.map fun a => ms.getD a noMk).map mkD))) (fun _ _ => rfl) (fun r hr M' hM => ?_) ?_⟩
  · (first | (simp only [st_chained]; try sizeOf_list_dec) | sizeOf_list_dec)
    refine ⟨_, rfl, LI_F (F := natD) (xs := r) injNat (fun k => some (mkD (ms.getD k noMk))) (fun _ _ => rfl) (fun k hk M3 hM3 => ?_) ?_⟩
    · (first | (simp only [st_chained]; try sizeOf_list_dec) | sizeOf_list_dec)
      exact atm M3 (Ext.trans hM hM3) k (rb r hr k hk)
    · rw [filterMap_some]
      refine ⟨rfl, ?_⟩
      rw [List.map_map]
      rfl
  rw [filterMap_some]
  have ub : ∀ x ∈ unlikeF (upsOf ms) (matchOf ms), x < ms.length := fun x hx => by
    have := (mem_unlike.mp hx).1
    rw [MI.con.l1, upsOf_len] at this
    exact this
  refine ⟨⟨_, insR hm.ho, rfl⟩, p, u, a, b, upsOf ms, matchOf ms, rfl, hm, by omega, MI.con, upsOf_hu ms, ?_⟩
  refine ⟨_, rfl, LI_F (F := natD) (xs := unlikeF (upsOf ms) (matchOf ms)) injNat (fun k => some (mkD (ms.getD k noMk))) (fun _ _ => rfl) (fun k hk M3 hM3 => ?_) ?_⟩
  · sizeOf_list_dec
    exact atm M3 hM3 k (ub k hk)
  rw [filterMap_some]
  have e1 : (rowsF (matchOf ms)).map (fun r => D.lst ((r.map fun a => ms.getD a noMk).map mkD)) = (rowsOf ms).map fun r => .lst (r.map mkD) := by
    unfold rowsOf
    rw [List.map_map]
    rfl
  have e2 : (unlikeF (upsOf ms) (matchOf ms)).map (fun k => mkD (ms.getD k noMk)) = (unlikeOf ms).map mkD := by
    unfold unlikeOf
    rw [List.map_map]
    rfl
  rw [e1, e2]
  exact Fin.lessE X2 h
theorem sc_chains : FnScope ["marks"] ["marks"] (defScope s_chains) := ⟨rfl, rfl, rfl, by decide +kernel, rfl, by decide +kernel, by decide +kernel⟩
def sp_chains (C C2 C3 : Addr) : DSp := fun ds M Q E => ∃ (d : D) (ms : List Mk), ds = [d] ∧ sqD M d = some (ms.map mkD) ∧ ms.length < 64 ∧ ((∃ m ∈ ms, ¬ okM m) → E C [("word", .str "mark")] M) ∧ ((∀ m ∈ ms, okM m) → ¬ ms.Nodup → E C [("word", .str "mark")] M) ∧ ((∀ m ∈ ms, okM m) → ms.Nodup → ∀ i j a b, FirstC ms i j a b → E C2 [("pair", pairC i j), ("word", .str "crossing")] M) ∧ ((∀ m ∈ ms, okM m) → ms.Nodup → (∀ i j, i < j → noC ms i j) → Q (.tup [.lst ((rowsOf ms).map fun r => .lst (r.map mkD)), .lst ((unlikeOf ms).map mkD)]) M)
theorem st_chains {a0 : D} : dstart ["marks"] [a0] = [some a0] := rfl
theorem ok_chains (G : Glb P w K mg base C_BadMark C_Crossing C_Matching) (h_chained : Dfk P w K mg base T "chained" 5 ["marks"] (sp_chained C_Matching)) (h_look_marks : Dfk P w K mg base T "look_marks" 5 ["marks"] (sp_look_marks C_BadMark C_Crossing)) (Dd : DefAt K mg "chains" s_chains ["marks"]) : Dfk P w K mg base T "chains" 6 ["marks"] (sp_chains C_BadMark C_Crossing C_Matching) := by
  refine DefAt.ok Dd sc_chains (fun ds M Q E h => by
    obtain ⟨_, _, rfl, _⟩ := h
    rfl) fun f cdv A outer s H E hr => ?_
  have tk : Takes (cxOf (L2.CX P w) P w K mg base ["marks"] "chains" (defScope s_chains) f cdv A outer s H E) (wOf T E).w := takes_of rfl rfl rfl rfl
  refine ⟨_, (dss_cons (ds_expr (de_callA h_look_marks (hr.mono (by decide)) tk (da_cons (dv 0) da_nil)))
      (dss_one (ds_ret (de_callA h_chained (hr.mono (by decide)) tk (da_cons (dv 0) da_nil))))), fun ds M Qd Ed h => ?_⟩
  obtain ⟨d, ms, rfl, hd, hl, h1, h2, h3, h⟩ := h
  (first | (simp only [st_chains]; try sizeOf_list_dec) | sizeOf_list_dec)
  exact ⟨d, ms, rfl, hd, hl, h1, h2, h3, fun a b c => ⟨d, ms, rfl, hd, by omega, b, Fin.same (h a b c)⟩⟩
theorem sc_law_bag : FnScope ["_law_script"] ["_law_script"] (defScope s_law_bag) := ⟨rfl, rfl, rfl, by decide +kernel, rfl, by decide +kernel, by decide +kernel⟩
def sp_law_bag : DSp := fun ds M Q _ => ∃ ns : List Int, ds = [.scr ns] ∧ ns.length ≤ 63 ∧ ∀ p, M p = none → Q (.ref p) (mup M p bagC)
theorem st_law_bag {a0 : D} : dstart ["_law_script"] [a0] = [some a0] := rfl
theorem ok_law_bag (G : Glb P w K mg base C_BadMark C_Crossing C_Matching) (Dd : DefAt K mg "_law_bag" s_law_bag ["_law_script"]) : Dfk P w K mg base T "_law_bag" 1 ["_law_script"] sp_law_bag := by
  refine DefAt.ok Dd sc_law_bag (fun ds M Q E h => by
    obtain ⟨_, rfl, _⟩ := h
    rfl) fun f cdv A outer s H E hr => ?_
  have tk : Takes (cxOf (L2.CX P w) P w K mg base ["_law_script"] "_law_bag" (defScope s_law_bag) f cdv A outer s H E) (wOf T E).w := takes_of rfl rfl rfl rfl
  refine ⟨_, (dss_one (ds_ret (de_lstO (da_cons (de_frz (de_callTy call_list_of real_list rfl G.n_list rfl (da_cons (de_sl (dv 0) do_none (do_some de_int)) da_nil))) (da_cons de_int (da_cons de_int (da_cons de_int da_nil))))))), fun ds M Qd Ed h => ?_⟩
  obtain ⟨ns, rfl, hl, h⟩ := h
  (first | (simp only [st_law_bag]; try sizeOf_list_dec) | sizeOf_list_dec)
  refine ⟨ns.map D.int, sqI, .lst _, _, rfl, rfl, fun p hp => ⟨p, rfl, _, mup_same, sz4, ?_⟩⟩
  rw [mdel_mup hp]
  intro q hq
  refine Fin.close mup_same (φ := BagOk) ⟨ns, 0, 0, 29, ?_, hl, by decide, by decide, by decide, by decide⟩ ?_
  · unfold cutD HT.sIx
    simp only [List.length_map]
    rw [List.take_of_length_le (by simp; omega)]
    simp
  · rw [mup_mup]
    exact h q hq
theorem sc_law_take : FnScope ["_law_bag_here", "_law_sides", "_law_cell", "_law_rest", "_law_twice"] ["_law_bag_here", "_law_sides"] (defScope s_law_take) := ⟨rfl, rfl, rfl, by decide +kernel, rfl, by decide +kernel, by decide +kernel⟩
def sp_law_take : DSp := fun ds M Q _ => ∃ (b : Addr) (n : Int), ds = [.ref b, .int n] ∧ M b = some bagC ∧ 0 < n ∧ n < 1073741824 ∧ ∀ r : Int, 0 ≤ r → r < n → Q (.int r) M
theorem st_law_take {a0 a1 : D} : dstart ["_law_bag_here", "_law_sides", "_law_cell", "_law_rest", "_law_twice"] [a0, a1] = [some a0, some a1, none, none, none] := rfl
theorem ok_law_take (G : Glb P w K mg base C_BadMark C_Crossing C_Matching) (Dd : DefAt K mg "_law_take" s_law_take ["_law_bag_here", "_law_sides"]) : Dfk P w K mg base T "_law_take" 1 ["_law_bag_here", "_law_sides"] sp_law_take := by
  refine DefAt.ok Dd sc_law_take (fun ds M Q E h => by
    obtain ⟨_, _, rfl, _⟩ := h
    rfl) fun f cdv A outer s H E hr => ?_
  have tk : Takes (cxOf (L2.CX P w) P w K mg base ["_law_bag_here", "_law_sides", "_law_cell", "_law_rest", "_law_twice"] "_law_take" (defScope s_law_take) f cdv A outer s H E) (wOf T E).w := takes_of rfl rfl rfl rfl
  refine ⟨_, (dss_gh (dss_cut (ds_if (dw_pt (dw_and (dt_cmp (op_eqD hr.units) real_eq (de_ix (dv 0) de_int) de_int (nomark _)) (dw_and1 (dt_cmp op_lt real_lt (de_ix (dv 0) de_int) (de_callB call_len real_len rfl G.n_len rfl (da_cons (de_ix (dv 0) de_int) da_nil)) (nomark _))))) (dss_cons (ds_set 2 sc_law_take.nd (de_ix (de_ix (dv 0) de_int) (de_ix (dv 0) de_int)))
      (dss_cons (ds_augS (dv 0) de_int de_int ip_add)
      (dss_one (ds_if (dw_pt (dw_or (dt_cmp op_ge real_ge (dv 2) (de_op op_pow real_pow de_int de_int) (nomark _)) (dw_or1 (dt_cmp op_le real_le (dv 2) (de_neg (de_op op_pow real_pow de_int de_int)) (nomark _))))) (dss_one (ds_asg (de_callB call_abs real_abs rfl G.n_abs rfl (da_cons (dv 2) da_nil)) (dg_sub (dv 0) de_int))) (dss_one (ds_asg (de_op op_mod real_mod (de_op op_add3 real_add (de_op op_add3 real_add (de_op op_mul2 real_mul (de_ix (dv 0) de_int) de_int) (de_op op_mul2 real_mul (de_op op_mod real_mod (dv 2) de_int) de_int)) de_int) de_int) (dg_sub (dv 0) de_int))))))) dss_nil)
      (dss_cut (ds_if (dt_cmp op_gt real_gt (de_ix (dv 0) de_int) de_int (nomark _)) (dss_cons (ds_set 3 sc_law_take.nd (de_ix (dv 0) de_int))
      (dss_cons (ds_asg (de_op op_fdiv real_fdiv (dv 3) (dv 1)) (dg_sub (dv 0) de_int))
      (dss_one (ds_ret (de_op op_mod real_mod (dv 3) (dv 1)))))) dss_nil)
      (dss_cons (ds_set 4 sc_law_take.nd (de_op op_mod real_mod (de_op op_mul2 real_mul (de_ix (dv 0) de_int) (de_ix (dv 0) de_int)) de_int))
      (dss_cons (ds_asg (de_op op_mod real_mod (de_op op_add3 real_add (de_op op_add3 real_add (de_op op_mul2 real_mul (dv 4) de_int) (de_op op_mul2 real_mul (de_ix (dv 0) de_int) de_int)) de_int) de_int) (dg_sub (dv 0) de_int))
      (dss_one (ds_ret (de_op op_mod real_mod (de_op op_fdiv real_fdiv (de_ix (dv 0) de_int) de_int) (dv 1))))))))), fun ds M Qd Ed h => ?_⟩
  obtain ⟨b, n, rfl, hb, h0, h1, h⟩ := h
  refine GhS.open hb fun ds hd => ?_
  obtain ⟨ns, i, r, s, rfl, hl, hi, hr0, hs0, hs1⟩ := hd
  have back : ∀ (i r s z : Int), 0 ≤ i → 0 ≤ r → 0 ≤ s → s < 2147483629 → 0 ≤ z → z < n → Fin ⟨K, T⟩ Qd (.int z) (mup M b (.lst [.lst (ns.map D.int), .int i, .int r, .int s])) := fun i r s z h2 h3 h4 h5 h6 h7 => by
    refine Fin.close mup_same (φ := BagOk) ⟨ns, i, r, s, rfl, hl, h2, h3, h4, h5⟩ ?_
    rw [mup_mup, mup_self hb]
    exact h z h6 h7
  refine ⟨fun Γ' M' => ∃ (c : Option D) (i r s : Int), Γ' = [some (.ref b), some (.int n), c, none, none] ∧ M' = mup M b (.lst [.lst (ns.map D.int), .int i, .int r, .int s]) ∧ 0 ≤ i ∧ 0 ≤ r ∧ 0 ≤ s ∧ s < 2147483629, ?_, ?_⟩
  · (first | (simp only [st_law_take]; try sizeOf_list_dec) | sizeOf_list_dec)
    refine ⟨fun hr => ⟨fun hi2 => ?_, fun _ => ⟨i, r, s, rfl, hi, hr0, hs0, hs1⟩⟩, fun _ => ⟨i, r, s, rfl, hi, hr0, hs0, hs1⟩⟩
    obtain ⟨z, _, _, ez⟩ := atJ (f := D.int) hi hi2
    refine ⟨_, ez, ?_⟩
    (first | (simp only [st_law_take]; try sizeOf_list_dec) | sizeOf_list_dec)
    have p1 : CPow 10 18 := ⟨by decide, by decide, by decide⟩
    have c1 : CMul s 31337 := .inr ⟨by decide, by decide⟩
    have c2 : CMul (z % 1000003) 977 := .inr ⟨by decide, by decide⟩
    have hz : 0 ≤ (if z < 0 then -z else z) := by split <;> omega
    refine ⟨p1, fun _ => ⟨_, _, _, rfl, by omega, hz, hs0, hs1⟩, fun _ => ⟨p1, fun _ => ⟨_, _, _, rfl, by omega, hz, hs0, hs1⟩, fun _ => ⟨c1, by decide, c2, by decide, _, _, _, rfl, by omega, hr0, Int.emod_nonneg _ (by decide), Int.emod_lt_of_pos _ (by decide)⟩⟩⟩
  · rintro _ _ ⟨c, i, r, s, rfl, rfl, hi, hr0, hs0, hs1⟩
    refine ⟨fun Γ' M' => Γ' = [some (.ref b), some (.int n), c, none, none] ∧ M' = mup M b (.lst [.lst (ns.map D.int), .int i, .int r, .int s]), ?_, ?_⟩
    · (first | (simp only [st_law_take]; try sizeOf_list_dec) | sizeOf_list_dec)
      refine fun hp => ⟨⟨h0, h1⟩, h0, ?_⟩
      exact back i (r / n) s (r % n) hi (Int.ediv_nonneg hr0 (by omega)) hs0 hs1 (Int.emod_nonneg _ (by omega)) (Int.emod_lt_of_pos _ h0)
    · rintro _ _ ⟨rfl, rfl⟩
      sizeOf_list_dec
      refine ⟨.inr ⟨by omega, by omega⟩, by decide, .inr ⟨by decide, by decide⟩, .inr ⟨by decide, by decide⟩, by decide, ⟨by decide, by decide⟩, h0, ?_⟩
      exact back _ _ _ _ hi hr0 (Int.emod_nonneg _ (by decide)) (Int.emod_lt_of_pos _ (by decide)) (Int.emod_nonneg _ (by omega)) (Int.emod_lt_of_pos _ h0)
theorem sc_law_of : FnScope ["_law_bag_here", "_law_some"] ["_law_bag_here", "_law_some"] (defScope s_law_of) := ⟨rfl, rfl, rfl, by decide +kernel, rfl, by decide +kernel, by decide +kernel⟩
def sp_law_of : DSp := fun ds M Q _ => ∃ (b : Addr) (d : D) (xs : List D), ds = [.ref b, d] ∧ M b = some bagC ∧ sqD M d = some xs ∧ 0 < xs.length ∧ xs.length < 1073741824 ∧ ∀ x, x ∈ xs → Q x M
theorem st_law_of {a0 a1 : D} : dstart ["_law_bag_here", "_law_some"] [a0, a1] = [some a0, some a1] := rfl
theorem ok_law_of (G : Glb P w K mg base C_BadMark C_Crossing C_Matching) (h_law_take : Dfk P w K mg base T "_law_take" 1 ["_law_bag_here", "_law_sides"] sp_law_take) (Dd : DefAt K mg "_law_of" s_law_of ["_law_bag_here", "_law_some"]) : Dfk P w K mg base T "_law_of" 2 ["_law_bag_here", "_law_some"] sp_law_of := by
  refine DefAt.ok Dd sc_law_of (fun ds M Q E h => by
    obtain ⟨_, _, _, rfl, _⟩ := h
    rfl) fun f cdv A outer s H E hr => ?_
  have tk : Takes (cxOf (L2.CX P w) P w K mg base ["_law_bag_here", "_law_some"] "_law_of" (defScope s_law_of) f cdv A outer s H E) (wOf T E).w := takes_of rfl rfl rfl rfl
  refine ⟨_, (dss_one (ds_ret (de_ix (dv 1) (de_callA h_law_take (hr.mono (by decide)) tk (da_cons (dv 0) (da_cons (de_callB call_len real_len rfl G.n_len rfl (da_cons (dv 1) da_nil)) da_nil)))))), fun ds M Qd Ed h => ?_⟩
  obtain ⟨b, d, xs, rfl, hb, hd, h0, h1, h⟩ := h
  (first | (simp only [st_law_of]; try sizeOf_list_dec) | sizeOf_list_dec)
  rw [lenSq hd]
  refine ⟨b, _, rfl, hb, by omega, by omega, fun r hr0 hr1 => ?_⟩
  obtain ⟨x, hx, _, e⟩ := atL hr0 hr1
  rw [ixSq hd]
  exact ⟨x, e, Fin.same (h x hx)⟩
theorem sc_law_turned : FnScope ["_law_bag_here", "_law_some", "_law_found", "_law_one"] ["_law_bag_here", "_law_some"] (defScope s_law_turned) := ⟨rfl, rfl, rfl, by decide +kernel, rfl, by decide +kernel, by decide +kernel⟩
def sp_law_turned : DSp := fun ds M Q _ => ∃ (b : Addr) (d : D) (α : Type) (f : α → D) (as : List α), ds = [.ref b, d] ∧ M b = some bagC ∧ sqD M d = some (as.map f) ∧ as.length ≤ 1000 ∧ ∀ bs : List α, bs.Perm as → Q (.lst (bs.map f)) M
theorem st_law_turned {a0 a1 : D} : dstart ["_law_bag_here", "_law_some", "_law_found", "_law_one"] [a0, a1] = [some a0, some a1, none, none] := rfl
theorem ok_law_turned (G : Glb P w K mg base C_BadMark C_Crossing C_Matching) (h_law_take : Dfk P w K mg base T "_law_take" 1 ["_law_bag_here", "_law_sides"] sp_law_take) (Dd : DefAt K mg "_law_turned" s_law_turned ["_law_bag_here", "_law_some"]) : Dfk P w K mg base T "_law_turned" 2 ["_law_bag_here", "_law_some"] sp_law_turned := by
  refine DefAt.ok Dd sc_law_turned (fun ds M Q E h => by
    obtain ⟨_, _, _, _, _, rfl, _⟩ := h
    rfl) fun f cdv A outer s H E hr => ?_
  have tk : Takes (cxOf (L2.CX P w) P w K mg base ["_law_bag_here", "_law_some", "_law_found", "_law_one"] "_law_turned" (defScope s_law_turned) f cdv A outer s H E) (wOf T E).w := takes_of rfl rfl rfl rfl
  refine ⟨_, (dss_cons (ds_set 2 sc_law_turned.nd (de_lstO da_nil))
      (dss_cons (ds_for (passes_of rfl) rfl (di_seq (dv 1)) (dg_name (i := 3) sc_law_turned.nd rfl (by first | exact Or.inl rfl | exact Or.inr rfl) (fun _ e => nomatch e)) (dss_one (ds_expr (de_insert (dv 2) (de_callA h_law_take (hr.mono (by decide)) tk (da_cons (dv 0) (da_cons (de_op op_add3 real_add (de_callB call_len real_len rfl G.n_len rfl (da_cons (dv 2) da_nil)) de_int) da_nil))) (dv 3)))))
      (dss_one (ds_ret (dv 2))))), fun ds M Qd Ed h => ?_⟩
  obtain ⟨b, d, α, f, as, rfl, hb, hd, hl, h⟩ := h
  have sz : sizeLine = 16777216 := szl
  (first | (simp only [st_law_turned]; try sizeOf_list_dec) | sizeOf_list_dec)
  refine fun p hp => ?_
  have hpb : b ≠ p := fun z => by rw [z, hp] at hb; cases hb
  refine ⟨_, itSq (sq_ext ((Ext.refl M).up hp) hd), forBy (fun i Γ2 M2 => ∃ (bs : List α) (c : Option D), Γ2 = [some (.ref b), some d, some (.ref p), c] ∧ M2 = mup M p (.lst (bs.map f)) ∧ bs.Perm (as.take i)) ⟨[], none, rfl, rfl, .refl _⟩ ?_ ?_ ?_⟩
  · rintro i _ _ ⟨bs, c, rfl, rfl, _⟩
    exact itSq (sq_ext ((Ext.refl M).up hp) hd)
  · rintro i x _ _ hx ⟨bs, c, rfl, rfl, hm⟩
    have hi : i < as.length := (List.getElem?_eq_some_iff.mp hx).1
    have ht : as.take (i + 1) = as.take i ++ [x] := by rw [List.take_add_one, hx]; rfl
    have hlen : bs.length = i := by rw [hm.length_eq, List.length_take]; omega
    (first | (simp only [st_law_turned]; try sizeOf_list_dec) | sizeOf_list_dec)
    rw [lenR mup_same]
    (first | (simp only [st_law_turned]; try sizeOf_list_dec) | sizeOf_list_dec)
    refine ⟨b, _, rfl, by rw [mup_ne hpb]; exact hb, by omega, by omega, fun r h0 h1 => ?_⟩
    sizeOf_list_dec
    refine ⟨by omega, h0, by omega, bs.take r.toNat ++ [x] ++ bs.drop r.toNat, by simp [List.map_take, List.map_drop], ?_⟩
    rw [ht]
    refine List.Perm.trans ?_ (hm.append_right [x])
    rw [List.append_assoc]
    refine (List.perm_append_comm_assoc _ _ _).trans ?_
    rw [List.take_append_drop]
    exact List.perm_append_comm
  · rintro _ _ ⟨bs, c, rfl, rfl, hm⟩
    sizeOf_list_dec
    rw [List.take_length] at hm
    exact Fin.frzE mup_same hp ((Ext.refl M).up hp) (h bs hm)
theorem sc_law_same : FnScope ["_law_found", "_law_due", "_law_x", "_law_y"] ["_law_found", "_law_due"] (defScope s_law_same) := ⟨rfl, rfl, rfl, by decide +kernel, rfl, by decide +kernel, by decide +kernel⟩
def sp_law_sameN (n : Nat) : DSp := fun ds M Q _ => ∃ d e : D, ds = [d, e] ∧ dep n (res M d) ∧ dep n (res M e) ∧ Q (.bl (sameD (res M d) (res M e))) M
def sp_law_same0 : DSp := sp_law_sameN 0
theorem st_law_same {a0 a1 : D} : dstart ["_law_found", "_law_due", "_law_x", "_law_y"] [a0, a1] = [some a0, some a1, none, none] := rfl
theorem ok_law_same0 (G : Glb P w K mg base C_BadMark C_Crossing C_Matching) (Dd : DefAt K mg "_law_same" s_law_same ["_law_found", "_law_due"]) : Dfk P w K mg base T "_law_same" 1 ["_law_found", "_law_due"] sp_law_same0 := by
  refine DefAt.ok Dd sc_law_same (fun ds M Q E h => by
    obtain ⟨_, _, rfl, _⟩ := h
    rfl) fun f cdv A outer s H E hr => ?_
  have tk : Takes (cxOf (L2.CX P w) P w K mg base ["_law_found", "_law_due", "_law_x", "_law_y"] "_law_same" (defScope s_law_same) f cdv A outer s H E) (wOf T E).w := takes_of rfl rfl rfl rfl
  refine ⟨_, (dss_cons (ds_if (dt_val (de_isi2 (c := "list") (c' := "tuple") (dv 1) G.n_isinstance rfl G.n_list rfl G.n_tuple rfl)) dss_never dss_nil)
      (dss_cons (ds_if (dw_pt (dw_or (dt_cmp (op_neD hr.units) real_ne (de_cmp op_isN real_isN (dv 0) de_non (nomark _)) (de_cmp op_isN real_isN (dv 1) de_non (nomark _)) (nomark _)) (dw_or1 (dt_cmp (op_neD hr.units) real_ne (de_isi (c := "bool") (dv 0) G.n_isinstance rfl G.n_bool rfl) (de_isi (c := "bool") (dv 1) G.n_isinstance rfl G.n_bool rfl) (nomark _))))) (dss_one (ds_ret de_bl)) dss_nil)
      (dss_cons (ds_if (dt_cmp (op_neD hr.units) real_ne (de_isi (c := "int") (dv 0) G.n_isinstance rfl G.n_int rfl) (de_isi (c := "int") (dv 1) G.n_isinstance rfl G.n_int rfl) (nomark _)) (dss_one (ds_ret de_bl)) dss_nil)
      (dss_one (ds_ret (de_and (de_cmp (op_eqD hr.units) real_eq (de_isi (c := "str") (dv 0) G.n_isinstance rfl G.n_str rfl) (de_isi (c := "str") (dv 1) G.n_isinstance rfl G.n_str rfl) (nomark _)) (de_one (de_cmp (op_eqD hr.units) real_eq (dv 0) (dv 1) (nomark _))))))))), fun ds M Qd Ed h => ?_⟩
  obtain ⟨d, e, rfl, hx, hy, h⟩ := h
  have ex : res M d = d := nsq_res fun xs z => by rw [z] at hx; exact hx
  have ey : res M e = e := nsq_res fun xs z => by rw [z] at hy; exact hy
  rw [ex] at hx h
  rw [ey] at hy h
  have fin : deq d e = sameD d e → Fin ⟨K, T⟩ Qd (D.bl (deq d e)) M := fun z => by rw [z]; exact Fin.same h
  have no : sameD d e = false → Fin ⟨K, T⟩ Qd (D.bl false) M := fun z => by rw [z] at h; exact Fin.same h
  have s1 := sh_flat hx
  have s2 := sh_flat hy
  cases d with
  | non =>
    cases e with
    | non =>
      nomatch st_law_same, isa_No_bo, isa_No_in, isa_No_st, isa_No_tu, isa_No_li, isa_bo_bo, isa_bo_in, isa_bo_st, isa_bo_tu, isa_bo_li, isa_in_bo, isa_in_in, isa_in_st, isa_in_tu, isa_in_li, isa_st_bo, isa_st_in, isa_st_st, isa_st_tu, isa_st_li, isa_tu_bo, isa_tu_in, isa_tu_st, isa_tu_tu, isa_tu_li, isa_li_bo, isa_li_in, isa_li_st, isa_li_tu, isa_li_li, tyStr, isN_str, Bool.or_false, Bool.false_or, Bool.or_true, Bool.true_or, Bool.or_self, not_true_eq_false, not_false_eq_true, Bool.true_eq_false, Bool.false_eq_true, forall_const, Bool.not_false, Bool.not_true, and_self, imp_self
      exact ⟨s1, s2, fin (by simp [deq, D.py, PyData.eqv, sameD])⟩
    | bl j =>
      nomatch st_law_same, isa_No_bo, isa_No_in, isa_No_st, isa_No_tu, isa_No_li, isa_bo_bo, isa_bo_in, isa_bo_st, isa_bo_tu, isa_bo_li, isa_in_bo, isa_in_in, isa_in_st, isa_in_tu, isa_in_li, isa_st_bo, isa_st_in, isa_st_st, isa_st_tu, isa_st_li, isa_tu_bo, isa_tu_in, isa_tu_st, isa_tu_tu, isa_tu_li, isa_li_bo, isa_li_in, isa_li_st, isa_li_tu, isa_li_li, tyStr, isN_str, Bool.or_false, Bool.false_or, Bool.or_true, Bool.true_or, Bool.or_self, not_true_eq_false, not_false_eq_true, Bool.true_eq_false, Bool.false_eq_true, forall_const, Bool.not_false, Bool.not_true, and_self, imp_self
      exact no (by simp [sameD])
    | int j =>
      nomatch st_law_same, isa_No_bo, isa_No_in, isa_No_st, isa_No_tu, isa_No_li, isa_bo_bo, isa_bo_in, isa_bo_st, isa_bo_tu, isa_bo_li, isa_in_bo, isa_in_in, isa_in_st, isa_in_tu, isa_in_li, isa_st_bo, isa_st_in, isa_st_st, isa_st_tu, isa_st_li, isa_tu_bo, isa_tu_in, isa_tu_st, isa_tu_tu, isa_tu_li, isa_li_bo, isa_li_in, isa_li_st, isa_li_tu, isa_li_li, tyStr, isN_str, Bool.or_false, Bool.false_or, Bool.or_true, Bool.true_or, Bool.or_self, not_true_eq_false, not_false_eq_true, Bool.true_eq_false, Bool.false_eq_true, forall_const, Bool.not_false, Bool.not_true, and_self, imp_self
      exact no (by simp [sameD])
    | str j =>
      nomatch st_law_same, isa_No_bo, isa_No_in, isa_No_st, isa_No_tu, isa_No_li, isa_bo_bo, isa_bo_in, isa_bo_st, isa_bo_tu, isa_bo_li, isa_in_bo, isa_in_in, isa_in_st, isa_in_tu, isa_in_li, isa_st_bo, isa_st_in, isa_st_st, isa_st_tu, isa_st_li, isa_tu_bo, isa_tu_in, isa_tu_st, isa_tu_tu, isa_tu_li, isa_li_bo, isa_li_in, isa_li_st, isa_li_tu, isa_li_li, tyStr, isN_str, Bool.or_false, Bool.false_or, Bool.or_true, Bool.true_or, Bool.or_self, not_true_eq_false, not_false_eq_true, Bool.true_eq_false, Bool.false_eq_true, forall_const, Bool.not_false, Bool.not_true, and_self, imp_self
      exact no (by simp [sameD])
    | _ => exact hy.elim
  | bl i =>
    cases e with
    | non =>
      nomatch st_law_same, isa_No_bo, isa_No_in, isa_No_st, isa_No_tu, isa_No_li, isa_bo_bo, isa_bo_in, isa_bo_st, isa_bo_tu, isa_bo_li, isa_in_bo, isa_in_in, isa_in_st, isa_in_tu, isa_in_li, isa_st_bo, isa_st_in, isa_st_st, isa_st_tu, isa_st_li, isa_tu_bo, isa_tu_in, isa_tu_st, isa_tu_tu, isa_tu_li, isa_li_bo, isa_li_in, isa_li_st, isa_li_tu, isa_li_li, tyStr, isN_str, Bool.or_false, Bool.false_or, Bool.or_true, Bool.true_or, Bool.or_self, not_true_eq_false, not_false_eq_true, Bool.true_eq_false, Bool.false_eq_true, forall_const, Bool.not_false, Bool.not_true, and_self, imp_self
      exact no (by simp [sameD])
    | bl j =>
      nomatch st_law_same, isa_No_bo, isa_No_in, isa_No_st, isa_No_tu, isa_No_li, isa_bo_bo, isa_bo_in, isa_bo_st, isa_bo_tu, isa_bo_li, isa_in_bo, isa_in_in, isa_in_st, isa_in_tu, isa_in_li, isa_st_bo, isa_st_in, isa_st_st, isa_st_tu, isa_st_li, isa_tu_bo, isa_tu_in, isa_tu_st, isa_tu_tu, isa_tu_li, isa_li_bo, isa_li_in, isa_li_st, isa_li_tu, isa_li_li, tyStr, isN_str, Bool.or_false, Bool.false_or, Bool.or_true, Bool.true_or, Bool.or_self, not_true_eq_false, not_false_eq_true, Bool.true_eq_false, Bool.false_eq_true, forall_const, Bool.not_false, Bool.not_true, and_self, imp_self
      exact Fin.same (by simpa [sameD] using h)
    | int j =>
      nomatch st_law_same, isa_No_bo, isa_No_in, isa_No_st, isa_No_tu, isa_No_li, isa_bo_bo, isa_bo_in, isa_bo_st, isa_bo_tu, isa_bo_li, isa_in_bo, isa_in_in, isa_in_st, isa_in_tu, isa_in_li, isa_st_bo, isa_st_in, isa_st_st, isa_st_tu, isa_st_li, isa_tu_bo, isa_tu_in, isa_tu_st, isa_tu_tu, isa_tu_li, isa_li_bo, isa_li_in, isa_li_st, isa_li_tu, isa_li_li, tyStr, isN_str, Bool.or_false, Bool.false_or, Bool.or_true, Bool.true_or, Bool.or_self, not_true_eq_false, not_false_eq_true, Bool.true_eq_false, Bool.false_eq_true, forall_const, Bool.not_false, Bool.not_true, and_self, imp_self
      exact no (by simp [sameD])
    | str j =>
      nomatch st_law_same, isa_No_bo, isa_No_in, isa_No_st, isa_No_tu, isa_No_li, isa_bo_bo, isa_bo_in, isa_bo_st, isa_bo_tu, isa_bo_li, isa_in_bo, isa_in_in, isa_in_st, isa_in_tu, isa_in_li, isa_st_bo, isa_st_in, isa_st_st, isa_st_tu, isa_st_li, isa_tu_bo, isa_tu_in, isa_tu_st, isa_tu_tu, isa_tu_li, isa_li_bo, isa_li_in, isa_li_st, isa_li_tu, isa_li_li, tyStr, isN_str, Bool.or_false, Bool.false_or, Bool.or_true, Bool.true_or, Bool.or_self, not_true_eq_false, not_false_eq_true, Bool.true_eq_false, Bool.false_eq_true, forall_const, Bool.not_false, Bool.not_true, and_self, imp_self
      exact no (by simp [sameD])
    | _ => exact hy.elim
  | int i =>
    cases e with
    | non =>
      nomatch st_law_same, isa_No_bo, isa_No_in, isa_No_st, isa_No_tu, isa_No_li, isa_bo_bo, isa_bo_in, isa_bo_st, isa_bo_tu, isa_bo_li, isa_in_bo, isa_in_in, isa_in_st, isa_in_tu, isa_in_li, isa_st_bo, isa_st_in, isa_st_st, isa_st_tu, isa_st_li, isa_tu_bo, isa_tu_in, isa_tu_st, isa_tu_tu, isa_tu_li, isa_li_bo, isa_li_in, isa_li_st, isa_li_tu, isa_li_li, tyStr, isN_str, Bool.or_false, Bool.false_or, Bool.or_true, Bool.true_or, Bool.or_self, not_true_eq_false, not_false_eq_true, Bool.true_eq_false, Bool.false_eq_true, forall_const, Bool.not_false, Bool.not_true, and_self, imp_self
      exact no (by simp [sameD])
    | bl j =>
      nomatch st_law_same, isa_No_bo, isa_No_in, isa_No_st, isa_No_tu, isa_No_li, isa_bo_bo, isa_bo_in, isa_bo_st, isa_bo_tu, isa_bo_li, isa_in_bo, isa_in_in, isa_in_st, isa_in_tu, isa_in_li, isa_st_bo, isa_st_in, isa_st_st, isa_st_tu, isa_st_li, isa_tu_bo, isa_tu_in, isa_tu_st, isa_tu_tu, isa_tu_li, isa_li_bo, isa_li_in, isa_li_st, isa_li_tu, isa_li_li, tyStr, isN_str, Bool.or_false, Bool.false_or, Bool.or_true, Bool.true_or, Bool.or_self, not_true_eq_false, not_false_eq_true, Bool.true_eq_false, Bool.false_eq_true, forall_const, Bool.not_false, Bool.not_true, and_self, imp_self
      exact no (by simp [sameD])
    | int j =>
      nomatch st_law_same, isa_No_bo, isa_No_in, isa_No_st, isa_No_tu, isa_No_li, isa_bo_bo, isa_bo_in, isa_bo_st, isa_bo_tu, isa_bo_li, isa_in_bo, isa_in_in, isa_in_st, isa_in_tu, isa_in_li, isa_st_bo, isa_st_in, isa_st_st, isa_st_tu, isa_st_li, isa_tu_bo, isa_tu_in, isa_tu_st, isa_tu_tu, isa_tu_li, isa_li_bo, isa_li_in, isa_li_st, isa_li_tu, isa_li_li, tyStr, isN_str, Bool.or_false, Bool.false_or, Bool.or_true, Bool.true_or, Bool.or_self, not_true_eq_false, not_false_eq_true, Bool.true_eq_false, Bool.false_eq_true, forall_const, Bool.not_false, Bool.not_true, and_self, imp_self
      exact Fin.same (by simpa [sameD] using h)
    | str j =>
      nomatch st_law_same, isa_No_bo, isa_No_in, isa_No_st, isa_No_tu, isa_No_li, isa_bo_bo, isa_bo_in, isa_bo_st, isa_bo_tu, isa_bo_li, isa_in_bo, isa_in_in, isa_in_st, isa_in_tu, isa_in_li, isa_st_bo, isa_st_in, isa_st_st, isa_st_tu, isa_st_li, isa_tu_bo, isa_tu_in, isa_tu_st, isa_tu_tu, isa_tu_li, isa_li_bo, isa_li_in, isa_li_st, isa_li_tu, isa_li_li, tyStr, isN_str, Bool.or_false, Bool.false_or, Bool.or_true, Bool.true_or, Bool.or_self, not_true_eq_false, not_false_eq_true, Bool.true_eq_false, Bool.false_eq_true, forall_const, Bool.not_false, Bool.not_true, and_self, imp_self
      exact no (by simp [sameD])
    | _ => exact hy.elim
  | str i =>
    cases e with
    | non =>
      nomatch st_law_same, isa_No_bo, isa_No_in, isa_No_st, isa_No_tu, isa_No_li, isa_bo_bo, isa_bo_in, isa_bo_st, isa_bo_tu, isa_bo_li, isa_in_bo, isa_in_in, isa_in_st, isa_in_tu, isa_in_li, isa_st_bo, isa_st_in, isa_st_st, isa_st_tu, isa_st_li, isa_tu_bo, isa_tu_in, isa_tu_st, isa_tu_tu, isa_tu_li, isa_li_bo, isa_li_in, isa_li_st, isa_li_tu, isa_li_li, tyStr, isN_str, Bool.or_false, Bool.false_or, Bool.or_true, Bool.true_or, Bool.or_self, not_true_eq_false, not_false_eq_true, Bool.true_eq_false, Bool.false_eq_true, forall_const, Bool.not_false, Bool.not_true, and_self, imp_self
      exact no (by simp [sameD])
    | bl j =>
      nomatch st_law_same, isa_No_bo, isa_No_in, isa_No_st, isa_No_tu, isa_No_li, isa_bo_bo, isa_bo_in, isa_bo_st, isa_bo_tu, isa_bo_li, isa_in_bo, isa_in_in, isa_in_st, isa_in_tu, isa_in_li, isa_st_bo, isa_st_in, isa_st_st, isa_st_tu, isa_st_li, isa_tu_bo, isa_tu_in, isa_tu_st, isa_tu_tu, isa_tu_li, isa_li_bo, isa_li_in, isa_li_st, isa_li_tu, isa_li_li, tyStr, isN_str, Bool.or_false, Bool.false_or, Bool.or_true, Bool.true_or, Bool.or_self, not_true_eq_false, not_false_eq_true, Bool.true_eq_false, Bool.false_eq_true, forall_const, Bool.not_false, Bool.not_true, and_self, imp_self
      exact no (by simp [sameD])
    | int j =>
      nomatch st_law_same, isa_No_bo, isa_No_in, isa_No_st, isa_No_tu, isa_No_li, isa_bo_bo, isa_bo_in, isa_bo_st, isa_bo_tu, isa_bo_li, isa_in_bo, isa_in_in, isa_in_st, isa_in_tu, isa_in_li, isa_st_bo, isa_st_in, isa_st_st, isa_st_tu, isa_st_li, isa_tu_bo, isa_tu_in, isa_tu_st, isa_tu_tu, isa_tu_li, isa_li_bo, isa_li_in, isa_li_st, isa_li_tu, isa_li_li, tyStr, isN_str, Bool.or_false, Bool.false_or, Bool.or_true, Bool.true_or, Bool.or_self, not_true_eq_false, not_false_eq_true, Bool.true_eq_false, Bool.false_eq_true, forall_const, Bool.not_false, Bool.not_true, and_self, imp_self
      exact no (by simp [sameD])
    | str j =>
      nomatch st_law_same, isa_No_bo, isa_No_in, isa_No_st, isa_No_tu, isa_No_li, isa_bo_bo, isa_bo_in, isa_bo_st, isa_bo_tu, isa_bo_li, isa_in_bo, isa_in_in, isa_in_st, isa_in_tu, isa_in_li, isa_st_bo, isa_st_in, isa_st_st, isa_st_tu, isa_st_li, isa_tu_bo, isa_tu_in, isa_tu_st, isa_tu_tu, isa_tu_li, isa_li_bo, isa_li_in, isa_li_st, isa_li_tu, isa_li_li, tyStr, isN_str, Bool.or_false, Bool.false_or, Bool.or_true, Bool.true_or, Bool.or_self, not_true_eq_false, not_false_eq_true, Bool.true_eq_false, Bool.false_eq_true, forall_const, Bool.not_false, Bool.not_true, and_self, imp_self
      exact ⟨s1, s2, fin (by rw [deq_str]; simp [sameD])⟩
    | _ => exact hy.elim
  | _ => exact hx.elim
def sp_law_same1 : DSp := sp_law_sameN 1
theorem ok_law_sameN {n k : Nat} (G : Glb P w K mg base C_BadMark C_Crossing C_Matching) (h_law_same0 : Dfk P w K mg base T "_law_same" k ["_law_found", "_law_due"] (sp_law_sameN n)) (Dd : DefAt K mg "_law_same" s_law_same ["_law_found", "_law_due"]) : Dfk P w K mg base T "_law_same" (k + 1) ["_law_found", "_law_due"] (sp_law_sameN (n + 1)) := by
  refine DefAt.ok Dd sc_law_same (fun ds M Q E h => by
    obtain ⟨_, _, rfl, _⟩ := h
    rfl) fun f cdv A outer s H E hr => ?_
  have tk : Takes (cxOf (L2.CX P w) P w K mg base ["_law_found", "_law_due", "_law_x", "_law_y"] "_law_same" (defScope s_law_same) f cdv A outer s H E) (wOf T E).w := takes_of rfl rfl rfl rfl
  refine ⟨_, (dss_cons (ds_if (dt_val (de_isi2 (c := "list") (c' := "tuple") (dv 1) G.n_isinstance rfl G.n_list rfl G.n_tuple rfl)) (dss_cons (ds_if (dw_pt (dw_or (dt_cmp (op_neD hr.units) real_ne (de_isi (c := "list") (dv 0) G.n_isinstance rfl G.n_list rfl) (de_isi (c := "list") (dv 1) G.n_isinstance rfl G.n_list rfl) (nomark _)) (dw_or1 (dt_cmp (op_neD hr.units) real_ne (de_isi (c := "tuple") (dv 0) G.n_isinstance rfl G.n_tuple rfl) (de_isi (c := "tuple") (dv 1) G.n_isinstance rfl G.n_tuple rfl) (nomark _))))) (dss_one (ds_ret de_bl)) dss_nil)
      (dss_one (ds_ret (de_and (de_cmp (op_eqD hr.units) real_eq (de_callB call_len real_len rfl G.n_len rfl (da_cons (dv 0) da_nil)) (de_callB call_len real_len rfl G.n_len rfl (da_cons (dv 1) da_nil)) (nomark _)) (de_one (de_callB (cr_all rfl) real_all rfl G.n_all rfl (da_cons (de_lcN (LcOk.mk (own := [("_law_x", 2), ("_law_y", 3)]) rfl sc_law_same.nd (di_zip rfl G.n_zip (da_cons (dv 0) (da_cons (dv 1) da_nil))) (blkOk_by (N := ["_law_found", "_law_due", "_law_x", "_law_y"]) (sc := defScope s_law_same) (by decide +kernel)) (fun _ _ _ _ _ => (dg_tup (n := 2) rfl (dgs_cons (dg_name (i := 2) sc_law_same.nd rfl (by first | exact Or.inl rfl | exact Or.inr rfl) (fun _ e => by cases e; decide)) (dgs_cons (dg_name (i := 3) sc_law_same.nd rfl (by first | exact Or.inl rfl | exact Or.inr rfl) (fun _ e => by cases e; decide)) dgs_nil)))) (fun _ _ _ _ _ => dts_nil) (fun _ _ _ _ _ => (de_callA h_law_same0 (hr.mono (Nat.le_refl _)) takes_none5 (da_cons (dv 2) (da_cons (dv 3) da_nil)))))) da_nil))))))) dss_nil)
      (dss_cons (ds_if (dw_pt (dw_or (dt_cmp (op_neD hr.units) real_ne (de_cmp op_isN real_isN (dv 0) de_non (nomark _)) (de_cmp op_isN real_isN (dv 1) de_non (nomark _)) (nomark _)) (dw_or1 (dt_cmp (op_neD hr.units) real_ne (de_isi (c := "bool") (dv 0) G.n_isinstance rfl G.n_bool rfl) (de_isi (c := "bool") (dv 1) G.n_isinstance rfl G.n_bool rfl) (nomark _))))) (dss_one (ds_ret de_bl)) dss_nil)
      (dss_cons (ds_if (dt_cmp (op_neD hr.units) real_ne (de_isi (c := "int") (dv 0) G.n_isinstance rfl G.n_int rfl) (de_isi (c := "int") (dv 1) G.n_isinstance rfl G.n_int rfl) (nomark _)) (dss_one (ds_ret de_bl)) dss_nil)
      (dss_one (ds_ret (de_and (de_cmp (op_eqD hr.units) real_eq (de_isi (c := "str") (dv 0) G.n_isinstance rfl G.n_str rfl) (de_isi (c := "str") (dv 1) G.n_isinstance rfl G.n_str rfl) (nomark _)) (de_one (de_cmp (op_eqD hr.units) real_eq (dv 0) (dv 1) (nomark _))))))))), fun ds M Qd Ed h => ?_⟩
  obtain ⟨d, e, rfl, hx, hy, h⟩ := h
  have tx := tyRes hx
  have ty := tyRes hy
  have no : sameD (res M d) (res M e) = false → Fin ⟨K, T⟩ Qd (D.bl false) M := fun z => by rw [z] at h; exact Fin.same h
  have pairs : ∀ xs ys : List D, xs.length ≤ 16000000 → (∀ x ∈ xs, dep n x) → (∀ y ∈ ys, dep n y) → xs.length = ys.length → (Fin ⟨K, T⟩ Qd (D.bl (samesD xs ys)) M) → ∀ ok : Mp → Prop, (∀ M', Ext M M' → ok M') → xs.length ≤ sizeLine ∧ LI ⟨zipD xs ys, ok⟩ (gdTup 2 (gdCons (gdName 2) (gdCons (gdName 3) gdNil))) dYes (dCall (sp_law_sameN n) [] (dCons (dVar 2) (dCons (dVar 3) dNil))) [2, 3] [some d, some e, none, none] M (fun x M1 => rdAll [x] M1 (Fin ⟨K, T⟩ Qd)) := fun xs ys hl h1 h2 hlen q ok hok => by
    refine ⟨szOf (by omega), ?_⟩
    rw [zipPr]
    refine LI_F (F := fun p : D × D => D.tup [p.1, p.2]) (xs := xs.zip ys) injPair (fun p => some (.bl (sameD p.1 p.2))) hok (fun p hp M' _ => ?_) ?_
    · have p1 := h1 _ (List.of_mem_zip hp).1
      have p2 := h2 _ (List.of_mem_zip hp).2
      (first | (simp only [st_law_same]; try sizeOf_list_dec) | sizeOf_list_dec)
      exact ⟨_, _, rfl, by rw [res_dep p1]; exact p1, by rw [res_dep p2]; exact p2, by rw [res_dep p1, res_dep p2]; exact ⟨rfl, rfl⟩⟩
    · refine allT ((xs.zip ys).map fun p => sameD p.1 p.2) (by rw [filterMap_some, List.map_map]; rfl) ?_
      rw [samesD_zip hlen]
      exact q
  rcases dep_kinds hy with fy | ⟨ys, ey⟩ | ⟨ys, ey⟩
  · have ee : res M e = e := nsq_res fun xs z => by rw [z] at fy; exact fy
    rcases dep_kinds hx with fx | ⟨xs, ex⟩ | ⟨xs, ex⟩
    · have ed : res M d = d := nsq_res fun xs z => by rw [z] at fx; exact fx
      rw [ed] at fx h
      rw [ee] at fy h
      have fin : deq d e = sameD d e → Fin ⟨K, T⟩ Qd (D.bl (deq d e)) M := fun z => by rw [z]; exact Fin.same h
      have no : sameD d e = false → Fin ⟨K, T⟩ Qd (D.bl false) M := fun z => by rw [z] at h; exact Fin.same h
      have s1 := sh_flat fx
      have s2 := sh_flat fy
      cases d with
      | non =>
        cases e with
        | non =>
          nomatch st_law_same, isa_No_bo, isa_No_in, isa_No_st, isa_No_tu, isa_No_li, isa_bo_bo, isa_bo_in, isa_bo_st, isa_bo_tu, isa_bo_li, isa_in_bo, isa_in_in, isa_in_st, isa_in_tu, isa_in_li, isa_st_bo, isa_st_in, isa_st_st, isa_st_tu, isa_st_li, isa_tu_bo, isa_tu_in, isa_tu_st, isa_tu_tu, isa_tu_li, isa_li_bo, isa_li_in, isa_li_st, isa_li_tu, isa_li_li, tyStr, isN_str, Bool.or_false, Bool.false_or, Bool.or_true, Bool.true_or, Bool.or_self, not_true_eq_false, not_false_eq_true, Bool.true_eq_false, Bool.false_eq_true, forall_const, Bool.not_false, Bool.not_true, and_self, imp_self
          exact ⟨s1, s2, fin (by simp [deq, D.py, PyData.eqv, sameD])⟩
        | bl j =>
          nomatch st_law_same, isa_No_bo, isa_No_in, isa_No_st, isa_No_tu, isa_No_li, isa_bo_bo, isa_bo_in, isa_bo_st, isa_bo_tu, isa_bo_li, isa_in_bo, isa_in_in, isa_in_st, isa_in_tu, isa_in_li, isa_st_bo, isa_st_in, isa_st_st, isa_st_tu, isa_st_li, isa_tu_bo, isa_tu_in, isa_tu_st, isa_tu_tu, isa_tu_li, isa_li_bo, isa_li_in, isa_li_st, isa_li_tu, isa_li_li, tyStr, isN_str, Bool.or_false, Bool.false_or, Bool.or_true, Bool.true_or, Bool.or_self, not_true_eq_false, not_false_eq_true, Bool.true_eq_false, Bool.false_eq_true, forall_const, Bool.not_false, Bool.not_true, and_self, imp_self
          exact no (by simp [sameD])
        | int j =>
          nomatch st_law_same, isa_No_bo, isa_No_in, isa_No_st, isa_No_tu, isa_No_li, isa_bo_bo, isa_bo_in, isa_bo_st, isa_bo_tu, isa_bo_li, isa_in_bo, isa_in_in, isa_in_st, isa_in_tu, isa_in_li, isa_st_bo, isa_st_in, isa_st_st, isa_st_tu, isa_st_li, isa_tu_bo, isa_tu_in, isa_tu_st, isa_tu_tu, isa_tu_li, isa_li_bo, isa_li_in, isa_li_st, isa_li_tu, isa_li_li, tyStr, isN_str, Bool.or_false, Bool.false_or, Bool.or_true, Bool.true_or, Bool.or_self, not_true_eq_false, not_false_eq_true, Bool.true_eq_false, Bool.false_eq_true, forall_const, Bool.not_false, Bool.not_true, and_self, imp_self
          exact no (by simp [sameD])
        | str j =>
          nomatch st_law_same, isa_No_bo, isa_No_in, isa_No_st, isa_No_tu, isa_No_li, isa_bo_bo, isa_bo_in, isa_bo_st, isa_bo_tu, isa_bo_li, isa_in_bo, isa_in_in, isa_in_st, isa_in_tu, isa_in_li, isa_st_bo, isa_st_in, isa_st_st, isa_st_tu, isa_st_li, isa_tu_bo, isa_tu_in, isa_tu_st, isa_tu_tu, isa_tu_li, isa_li_bo, isa_li_in, isa_li_st, isa_li_tu, isa_li_li, tyStr, isN_str, Bool.or_false, Bool.false_or, Bool.or_true, Bool.true_or, Bool.or_self, not_true_eq_false, not_false_eq_true, Bool.true_eq_false, Bool.false_eq_true, forall_const, Bool.not_false, Bool.not_true, and_self, imp_self
          exact no (by simp [sameD])
        | _ => exact fy.elim
      | bl i =>
        cases e with
        | non =>
          nomatch st_law_same, isa_No_bo, isa_No_in, isa_No_st, isa_No_tu, isa_No_li, isa_bo_bo, isa_bo_in, isa_bo_st, isa_bo_tu, isa_bo_li, isa_in_bo, isa_in_in, isa_in_st, isa_in_tu, isa_in_li, isa_st_bo, isa_st_in, isa_st_st, isa_st_tu, isa_st_li, isa_tu_bo, isa_tu_in, isa_tu_st, isa_tu_tu, isa_tu_li, isa_li_bo, isa_li_in, isa_li_st, isa_li_tu, isa_li_li, tyStr, isN_str, Bool.or_false, Bool.false_or, Bool.or_true, Bool.true_or, Bool.or_self, not_true_eq_false, not_false_eq_true, Bool.true_eq_false, Bool.false_eq_true, forall_const, Bool.not_false, Bool.not_true, and_self, imp_self
          exact no (by simp [sameD])
        | bl j =>
          nomatch st_law_same, isa_No_bo, isa_No_in, isa_No_st, isa_No_tu, isa_No_li, isa_bo_bo, isa_bo_in, isa_bo_st, isa_bo_tu, isa_bo_li, isa_in_bo, isa_in_in, isa_in_st, isa_in_tu, isa_in_li, isa_st_bo, isa_st_in, isa_st_st, isa_st_tu, isa_st_li, isa_tu_bo, isa_tu_in, isa_tu_st, isa_tu_tu, isa_tu_li, isa_li_bo, isa_li_in, isa_li_st, isa_li_tu, isa_li_li, tyStr, isN_str, Bool.or_false, Bool.false_or, Bool.or_true, Bool.true_or, Bool.or_self, not_true_eq_false, not_false_eq_true, Bool.true_eq_false, Bool.false_eq_true, forall_const, Bool.not_false, Bool.not_true, and_self, imp_self
          exact Fin.same (by simpa [sameD] using h)
        | int j =>
          nomatch st_law_same, isa_No_bo, isa_No_in, isa_No_st, isa_No_tu, isa_No_li, isa_bo_bo, isa_bo_in, isa_bo_st, isa_bo_tu, isa_bo_li, isa_in_bo, isa_in_in, isa_in_st, isa_in_tu, isa_in_li, isa_st_bo, isa_st_in, isa_st_st, isa_st_tu, isa_st_li, isa_tu_bo, isa_tu_in, isa_tu_st, isa_tu_tu, isa_tu_li, isa_li_bo, isa_li_in, isa_li_st, isa_li_tu, isa_li_li, tyStr, isN_str, Bool.or_false, Bool.false_or, Bool.or_true, Bool.true_or, Bool.or_self, not_true_eq_false, not_false_eq_true, Bool.true_eq_false, Bool.false_eq_true, forall_const, Bool.not_false, Bool.not_true, and_self, imp_self
          exact no (by simp [sameD])
        | str j =>
          nomatch st_law_same, isa_No_bo, isa_No_in, isa_No_st, isa_No_tu, isa_No_li, isa_bo_bo, isa_bo_in, isa_bo_st, isa_bo_tu, isa_bo_li, isa_in_bo, isa_in_in, isa_in_st, isa_in_tu, isa_in_li, isa_st_bo, isa_st_in, isa_st_st, isa_st_tu, isa_st_li, isa_tu_bo, isa_tu_in, isa_tu_st, isa_tu_tu, isa_tu_li, isa_li_bo, isa_li_in, isa_li_st, isa_li_tu, isa_li_li, tyStr, isN_str, Bool.or_false, Bool.false_or, Bool.or_true, Bool.true_or, Bool.or_self, not_true_eq_false, not_false_eq_true, Bool.true_eq_false, Bool.false_eq_true, forall_const, Bool.not_false, Bool.not_true, and_self, imp_self
          exact no (by simp [sameD])
        | _ => exact fy.elim
      | int i =>
        cases e with
        | non =>
          nomatch st_law_same, isa_No_bo, isa_No_in, isa_No_st, isa_No_tu, isa_No_li, isa_bo_bo, isa_bo_in, isa_bo_st, isa_bo_tu, isa_bo_li, isa_in_bo, isa_in_in, isa_in_st, isa_in_tu, isa_in_li, isa_st_bo, isa_st_in, isa_st_st, isa_st_tu, isa_st_li, isa_tu_bo, isa_tu_in, isa_tu_st, isa_tu_tu, isa_tu_li, isa_li_bo, isa_li_in, isa_li_st, isa_li_tu, isa_li_li, tyStr, isN_str, Bool.or_false, Bool.false_or, Bool.or_true, Bool.true_or, Bool.or_self, not_true_eq_false, not_false_eq_true, Bool.true_eq_false, Bool.false_eq_true, forall_const, Bool.not_false, Bool.not_true, and_self, imp_self
          exact no (by simp [sameD])
        | bl j =>
          nomatch st_law_same, isa_No_bo, isa_No_in, isa_No_st, isa_No_tu, isa_No_li, isa_bo_bo, isa_bo_in, isa_bo_st, isa_bo_tu, isa_bo_li, isa_in_bo, isa_in_in, isa_in_st, isa_in_tu, isa_in_li, isa_st_bo, isa_st_in, isa_st_st, isa_st_tu, isa_st_li, isa_tu_bo, isa_tu_in, isa_tu_st, isa_tu_tu, isa_tu_li, isa_li_bo, isa_li_in, isa_li_st, isa_li_tu, isa_li_li, tyStr, isN_str, Bool.or_false, Bool.false_or, Bool.or_true, Bool.true_or, Bool.or_self, not_true_eq_false, not_false_eq_true, Bool.true_eq_false, Bool.false_eq_true, forall_const, Bool.not_false, Bool.not_true, and_self, imp_self
          exact no (by simp [sameD])
        | int j =>
          nomatch st_law_same, isa_No_bo, isa_No_in, isa_No_st, isa_No_tu, isa_No_li, isa_bo_bo, isa_bo_in, isa_bo_st, isa_bo_tu, isa_bo_li, isa_in_bo, isa_in_in, isa_in_st, isa_in_tu, isa_in_li, isa_st_bo, isa_st_in, isa_st_st, isa_st_tu, isa_st_li, isa_tu_bo, isa_tu_in, isa_tu_st, isa_tu_tu, isa_tu_li, isa_li_bo, isa_li_in, isa_li_st, isa_li_tu, isa_li_li, tyStr, isN_str, Bool.or_false, Bool.false_or, Bool.or_true, Bool.true_or, Bool.or_self, not_true_eq_false, not_false_eq_true, Bool.true_eq_false, Bool.false_eq_true, forall_const, Bool.not_false, Bool.not_true, and_self, imp_self
          exact Fin.same (by simpa [sameD] using h)
        | str j =>
          nomatch st_law_same, isa_No_bo, isa_No_in, isa_No_st, isa_No_tu, isa_No_li, isa_bo_bo, isa_bo_in, isa_bo_st, isa_bo_tu, isa_bo_li, isa_in_bo, isa_in_in, isa_in_st, isa_in_tu, isa_in_li, isa_st_bo, isa_st_in, isa_st_st, isa_st_tu, isa_st_li, isa_tu_bo, isa_tu_in, isa_tu_st, isa_tu_tu, isa_tu_li, isa_li_bo, isa_li_in, isa_li_st, isa_li_tu, isa_li_li, tyStr, isN_str, Bool.or_false, Bool.false_or, Bool.or_true, Bool.true_or, Bool.or_self, not_true_eq_false, not_false_eq_true, Bool.true_eq_false, Bool.false_eq_true, forall_const, Bool.not_false, Bool.not_true, and_self, imp_self
          exact no (by simp [sameD])
        | _ => exact fy.elim
      | str i =>
        cases e with
        | non =>
          nomatch st_law_same, isa_No_bo, isa_No_in, isa_No_st, isa_No_tu, isa_No_li, isa_bo_bo, isa_bo_in, isa_bo_st, isa_bo_tu, isa_bo_li, isa_in_bo, isa_in_in, isa_in_st, isa_in_tu, isa_in_li, isa_st_bo, isa_st_in, isa_st_st, isa_st_tu, isa_st_li, isa_tu_bo, isa_tu_in, isa_tu_st, isa_tu_tu, isa_tu_li, isa_li_bo, isa_li_in, isa_li_st, isa_li_tu, isa_li_li, tyStr, isN_str, Bool.or_false, Bool.false_or, Bool.or_true, Bool.true_or, Bool.or_self, not_true_eq_false, not_false_eq_true, Bool.true_eq_false, Bool.false_eq_true, forall_const, Bool.not_false, Bool.not_true, and_self, imp_self
          exact no (by simp [sameD])
        | bl j =>
          nomatch st_law_same, isa_No_bo, isa_No_in, isa_No_st, isa_No_tu, isa_No_li, isa_bo_bo, isa_bo_in, isa_bo_st, isa_bo_tu, isa_bo_li, isa_in_bo, isa_in_in, isa_in_st, isa_in_tu, isa_in_li, isa_st_bo, isa_st_in, isa_st_st, isa_st_tu, isa_st_li, isa_tu_bo, isa_tu_in, isa_tu_st, isa_tu_tu, isa_tu_li, isa_li_bo, isa_li_in, isa_li_st, isa_li_tu, isa_li_li, tyStr, isN_str, Bool.or_false, Bool.false_or, Bool.or_true, Bool.true_or, Bool.or_self, not_true_eq_false, not_false_eq_true, Bool.true_eq_false, Bool.false_eq_true, forall_const, Bool.not_false, Bool.not_true, and_self, imp_self
          exact no (by simp [sameD])
        | int j =>
          nomatch st_law_same, isa_No_bo, isa_No_in, isa_No_st, isa_No_tu, isa_No_li, isa_bo_bo, isa_bo_in, isa_bo_st, isa_bo_tu, isa_bo_li, isa_in_bo, isa_in_in, isa_in_st, isa_in_tu, isa_in_li, isa_st_bo, isa_st_in, isa_st_st, isa_st_tu, isa_st_li, isa_tu_bo, isa_tu_in, isa_tu_st, isa_tu_tu, isa_tu_li, isa_li_bo, isa_li_in, isa_li_st, isa_li_tu, isa_li_li, tyStr, isN_str, Bool.or_false, Bool.false_or, Bool.or_true, Bool.true_or, Bool.or_self, not_true_eq_false, not_false_eq_true, Bool.true_eq_false, Bool.false_eq_true, forall_const, Bool.not_false, Bool.not_true, and_self, imp_self
          exact no (by simp [sameD])
        | str j =>
          nomatch st_law_same, isa_No_bo, isa_No_in, isa_No_st, isa_No_tu, isa_No_li, isa_bo_bo, isa_bo_in, isa_bo_st, isa_bo_tu, isa_bo_li, isa_in_bo, isa_in_in, isa_in_st, isa_in_tu, isa_in_li, isa_st_bo, isa_st_in, isa_st_st, isa_st_tu, isa_st_li, isa_tu_bo, isa_tu_in, isa_tu_st, isa_tu_tu, isa_tu_li, isa_li_bo, isa_li_in, isa_li_st, isa_li_tu, isa_li_li, tyStr, isN_str, Bool.or_false, Bool.false_or, Bool.or_true, Bool.true_or, Bool.or_self, not_true_eq_false, not_false_eq_true, Bool.true_eq_false, Bool.false_eq_true, forall_const, Bool.not_false, Bool.not_true, and_self, imp_self
          exact ⟨s1, s2, fin (by rw [deq_str]; simp [sameD])⟩
        | _ => exact fy.elim
      | _ => exact fx.elim
  
    · have ed : d = .tup xs := by rw [← ex]; exact (nsq_res fun zs z => by rw [ex] at z; cases z).symm
      subst ed
      rw [ee] at fy ty no
      cases e with
      | non => nomatch st_law_same, isa_No_bo, isa_No_in, isa_No_st, isa_No_tu, isa_No_li, isa_bo_bo, isa_bo_in, isa_bo_st, isa_bo_tu, isa_bo_li, isa_in_bo, isa_in_in, isa_in_st, isa_in_tu, isa_in_li, isa_st_bo, isa_st_in, isa_st_st, isa_st_tu, isa_st_li, isa_tu_bo, isa_tu_in, isa_tu_st, isa_tu_tu, isa_tu_li, isa_li_bo, isa_li_in, isa_li_st, isa_li_tu, isa_li_li, tyStr, isN_str, Bool.or_false, Bool.false_or, Bool.or_true, Bool.true_or, Bool.or_self, not_true_eq_false, not_false_eq_true, Bool.true_eq_false, Bool.false_eq_true, forall_const, Bool.not_false, Bool.not_true, and_self, imp_self; exact no (by simp [sameD, res_tup])
      | bl j => nomatch st_law_same, isa_No_bo, isa_No_in, isa_No_st, isa_No_tu, isa_No_li, isa_bo_bo, isa_bo_in, isa_bo_st, isa_bo_tu, isa_bo_li, isa_in_bo, isa_in_in, isa_in_st, isa_in_tu, isa_in_li, isa_st_bo, isa_st_in, isa_st_st, isa_st_tu, isa_st_li, isa_tu_bo, isa_tu_in, isa_tu_st, isa_tu_tu, isa_tu_li, isa_li_bo, isa_li_in, isa_li_st, isa_li_tu, isa_li_li, tyStr, isN_str, Bool.or_false, Bool.false_or, Bool.or_true, Bool.true_or, Bool.or_self, not_true_eq_false, not_false_eq_true, Bool.true_eq_false, Bool.false_eq_true, forall_const, Bool.not_false, Bool.not_true, and_self, imp_self; exact no (by simp [sameD, res_tup])
      | int j => nomatch st_law_same, isa_No_bo, isa_No_in, isa_No_st, isa_No_tu, isa_No_li, isa_bo_bo, isa_bo_in, isa_bo_st, isa_bo_tu, isa_bo_li, isa_in_bo, isa_in_in, isa_in_st, isa_in_tu, isa_in_li, isa_st_bo, isa_st_in, isa_st_st, isa_st_tu, isa_st_li, isa_tu_bo, isa_tu_in, isa_tu_st, isa_tu_tu, isa_tu_li, isa_li_bo, isa_li_in, isa_li_st, isa_li_tu, isa_li_li, tyStr, isN_str, Bool.or_false, Bool.false_or, Bool.or_true, Bool.true_or, Bool.or_self, not_true_eq_false, not_false_eq_true, Bool.true_eq_false, Bool.false_eq_true, forall_const, Bool.not_false, Bool.not_true, and_self, imp_self; exact no (by simp [sameD, res_tup])
      | str j => nomatch st_law_same, isa_No_bo, isa_No_in, isa_No_st, isa_No_tu, isa_No_li, isa_bo_bo, isa_bo_in, isa_bo_st, isa_bo_tu, isa_bo_li, isa_in_bo, isa_in_in, isa_in_st, isa_in_tu, isa_in_li, isa_st_bo, isa_st_in, isa_st_st, isa_st_tu, isa_st_li, isa_tu_bo, isa_tu_in, isa_tu_st, isa_tu_tu, isa_tu_li, isa_li_bo, isa_li_in, isa_li_st, isa_li_tu, isa_li_li, tyStr, isN_str, Bool.or_false, Bool.false_or, Bool.or_true, Bool.true_or, Bool.or_self, not_true_eq_false, not_false_eq_true, Bool.true_eq_false, Bool.false_eq_true, forall_const, Bool.not_false, Bool.not_true, and_self, imp_self; exact no (by simp [sameD, res_tup])
      | _ => exact fy.elim
    · have tx : tyD M d = some "list" := by rw [tx, ex]; rfl
      have ns : ∀ (b : Bool) (Q : DQ), rdIsN b d .non M Q = Q (.bl b) M := fun b Q => isN_sq ex
      rw [ee, ex] at no
      rw [ee] at fy ty
      cases e with
      | non => nomatch st_law_same, tx, ns, isa_No_bo, isa_No_in, isa_No_st, isa_No_tu, isa_No_li, isa_bo_bo, isa_bo_in, isa_bo_st, isa_bo_tu, isa_bo_li, isa_in_bo, isa_in_in, isa_in_st, isa_in_tu, isa_in_li, isa_st_bo, isa_st_in, isa_st_st, isa_st_tu, isa_st_li, isa_tu_bo, isa_tu_in, isa_tu_st, isa_tu_tu, isa_tu_li, isa_li_bo, isa_li_in, isa_li_st, isa_li_tu, isa_li_li, tyStr, isN_str, Bool.or_false, Bool.false_or, Bool.or_true, Bool.true_or, Bool.or_self, not_true_eq_false, not_false_eq_true, Bool.true_eq_false, Bool.false_eq_true, forall_const, Bool.not_false, Bool.not_true, and_self, imp_self; exact no (by simp [sameD])
      | bl j => nomatch st_law_same, tx, ns, isa_No_bo, isa_No_in, isa_No_st, isa_No_tu, isa_No_li, isa_bo_bo, isa_bo_in, isa_bo_st, isa_bo_tu, isa_bo_li, isa_in_bo, isa_in_in, isa_in_st, isa_in_tu, isa_in_li, isa_st_bo, isa_st_in, isa_st_st, isa_st_tu, isa_st_li, isa_tu_bo, isa_tu_in, isa_tu_st, isa_tu_tu, isa_tu_li, isa_li_bo, isa_li_in, isa_li_st, isa_li_tu, isa_li_li, tyStr, isN_str, Bool.or_false, Bool.false_or, Bool.or_true, Bool.true_or, Bool.or_self, not_true_eq_false, not_false_eq_true, Bool.true_eq_false, Bool.false_eq_true, forall_const, Bool.not_false, Bool.not_true, and_self, imp_self; exact no (by simp [sameD])
      | int j => nomatch st_law_same, tx, ns, isa_No_bo, isa_No_in, isa_No_st, isa_No_tu, isa_No_li, isa_bo_bo, isa_bo_in, isa_bo_st, isa_bo_tu, isa_bo_li, isa_in_bo, isa_in_in, isa_in_st, isa_in_tu, isa_in_li, isa_st_bo, isa_st_in, isa_st_st, isa_st_tu, isa_st_li, isa_tu_bo, isa_tu_in, isa_tu_st, isa_tu_tu, isa_tu_li, isa_li_bo, isa_li_in, isa_li_st, isa_li_tu, isa_li_li, tyStr, isN_str, Bool.or_false, Bool.false_or, Bool.or_true, Bool.true_or, Bool.or_self, not_true_eq_false, not_false_eq_true, Bool.true_eq_false, Bool.false_eq_true, forall_const, Bool.not_false, Bool.not_true, and_self, imp_self; exact no (by simp [sameD])
      | str j => nomatch st_law_same, tx, ns, isa_No_bo, isa_No_in, isa_No_st, isa_No_tu, isa_No_li, isa_bo_bo, isa_bo_in, isa_bo_st, isa_bo_tu, isa_bo_li, isa_in_bo, isa_in_in, isa_in_st, isa_in_tu, isa_in_li, isa_st_bo, isa_st_in, isa_st_st, isa_st_tu, isa_st_li, isa_tu_bo, isa_tu_in, isa_tu_st, isa_tu_tu, isa_tu_li, isa_li_bo, isa_li_in, isa_li_st, isa_li_tu, isa_li_li, tyStr, isN_str, Bool.or_false, Bool.false_or, Bool.or_true, Bool.true_or, Bool.or_self, not_true_eq_false, not_false_eq_true, Bool.true_eq_false, Bool.false_eq_true, forall_const, Bool.not_false, Bool.not_true, and_self, imp_self; exact no (by simp [sameD])
      | _ => exact fy.elim
  · have ee : e = .tup ys := by rw [← ey]; exact (nsq_res fun zs z => by rw [ey] at z; cases z).symm
    subst ee
    rcases dep_kinds hx with fx | ⟨xs, ex⟩ | ⟨xs, ex⟩
    · have ed : res M d = d := nsq_res fun xs z => by rw [z] at fx; exact fx
      rw [ed] at fx no
      cases d with
      | non => nomatch st_law_same, isa_No_bo, isa_No_in, isa_No_st, isa_No_tu, isa_No_li, isa_bo_bo, isa_bo_in, isa_bo_st, isa_bo_tu, isa_bo_li, isa_in_bo, isa_in_in, isa_in_st, isa_in_tu, isa_in_li, isa_st_bo, isa_st_in, isa_st_st, isa_st_tu, isa_st_li, isa_tu_bo, isa_tu_in, isa_tu_st, isa_tu_tu, isa_tu_li, isa_li_bo, isa_li_in, isa_li_st, isa_li_tu, isa_li_li, tyStr, isN_str, Bool.or_false, Bool.false_or, Bool.or_true, Bool.true_or, Bool.or_self, not_true_eq_false, not_false_eq_true, Bool.true_eq_false, Bool.false_eq_true, forall_const, Bool.not_false, Bool.not_true, and_self, imp_self; exact no (by simp [sameD, res_tup])
      | bl j => nomatch st_law_same, isa_No_bo, isa_No_in, isa_No_st, isa_No_tu, isa_No_li, isa_bo_bo, isa_bo_in, isa_bo_st, isa_bo_tu, isa_bo_li, isa_in_bo, isa_in_in, isa_in_st, isa_in_tu, isa_in_li, isa_st_bo, isa_st_in, isa_st_st, isa_st_tu, isa_st_li, isa_tu_bo, isa_tu_in, isa_tu_st, isa_tu_tu, isa_tu_li, isa_li_bo, isa_li_in, isa_li_st, isa_li_tu, isa_li_li, tyStr, isN_str, Bool.or_false, Bool.false_or, Bool.or_true, Bool.true_or, Bool.or_self, not_true_eq_false, not_false_eq_true, Bool.true_eq_false, Bool.false_eq_true, forall_const, Bool.not_false, Bool.not_true, and_self, imp_self; exact no (by simp [sameD, res_tup])
      | int j => nomatch st_law_same, isa_No_bo, isa_No_in, isa_No_st, isa_No_tu, isa_No_li, isa_bo_bo, isa_bo_in, isa_bo_st, isa_bo_tu, isa_bo_li, isa_in_bo, isa_in_in, isa_in_st, isa_in_tu, isa_in_li, isa_st_bo, isa_st_in, isa_st_st, isa_st_tu, isa_st_li, isa_tu_bo, isa_tu_in, isa_tu_st, isa_tu_tu, isa_tu_li, isa_li_bo, isa_li_in, isa_li_st, isa_li_tu, isa_li_li, tyStr, isN_str, Bool.or_false, Bool.false_or, Bool.or_true, Bool.true_or, Bool.or_self, not_true_eq_false, not_false_eq_true, Bool.true_eq_false, Bool.false_eq_true, forall_const, Bool.not_false, Bool.not_true, and_self, imp_self; exact no (by simp [sameD, res_tup])
      | str j => nomatch st_law_same, isa_No_bo, isa_No_in, isa_No_st, isa_No_tu, isa_No_li, isa_bo_bo, isa_bo_in, isa_bo_st, isa_bo_tu, isa_bo_li, isa_in_bo, isa_in_in, isa_in_st, isa_in_tu, isa_in_li, isa_st_bo, isa_st_in, isa_st_st, isa_st_tu, isa_st_li, isa_tu_bo, isa_tu_in, isa_tu_st, isa_tu_tu, isa_tu_li, isa_li_bo, isa_li_in, isa_li_st, isa_li_tu, isa_li_li, tyStr, isN_str, Bool.or_false, Bool.false_or, Bool.or_true, Bool.true_or, Bool.or_self, not_true_eq_false, not_false_eq_true, Bool.true_eq_false, Bool.false_eq_true, forall_const, Bool.not_false, Bool.not_true, and_self, imp_self; exact no (by simp [sameD, res_tup])
      | _ => exact fx.elim
    · have ed : d = .tup xs := by rw [← ex]; exact (nsq_res fun zs z => by rw [ex] at z; cases z).symm
      subst ed
      obtain ⟨l1, d1⟩ := dep_mem (.inr hx)
      obtain ⟨l2, d2⟩ := dep_mem (.inr hy)
      rw [res_tup, res_tup, show sameD (.tup xs) (.tup ys) = samesD xs ys by simp only [sameD]] at h
      nomatch st_law_same, lenT, zpD_tup, isa_No_bo, isa_No_in, isa_No_st, isa_No_tu, isa_No_li, isa_bo_bo, isa_bo_in, isa_bo_st, isa_bo_tu, isa_bo_li, isa_in_bo, isa_in_in, isa_in_st, isa_in_tu, isa_in_li, isa_st_bo, isa_st_in, isa_st_st, isa_st_tu, isa_st_li, isa_tu_bo, isa_tu_in, isa_tu_st, isa_tu_tu, isa_tu_li, isa_li_bo, isa_li_in, isa_li_st, isa_li_tu, isa_li_li, tyStr, isN_str, Bool.or_false, Bool.false_or, Bool.or_true, Bool.true_or, Bool.or_self, not_true_eq_false, not_false_eq_true, Bool.true_eq_false, Bool.false_eq_true, forall_const, Bool.not_false, Bool.not_true, and_self, imp_self
      refine ⟨fun hlen => ?_, fun hne => no ?_⟩
      · obtain ⟨z1, z2⟩ := pairs xs ys l1 d1 d2 (by omega) (Fin.same h) (fun _ => (xs, ys) = (xs, ys)) (fun _ _ => rfl)
        exact ⟨xs, ys, rfl, z1, z2⟩
      · rw [res_tup, res_tup]
        simp only [sameD]
        exact Bool.eq_false_iff.mpr fun z => hne (by rw [samesD_len z])
    · have tx : tyD M d = some "list" := by rw [tx, ex]; rfl
      rw [ex] at no
      nomatch st_law_same, tx, isa_No_bo, isa_No_in, isa_No_st, isa_No_tu, isa_No_li, isa_bo_bo, isa_bo_in, isa_bo_st, isa_bo_tu, isa_bo_li, isa_in_bo, isa_in_in, isa_in_st, isa_in_tu, isa_in_li, isa_st_bo, isa_st_in, isa_st_st, isa_st_tu, isa_st_li, isa_tu_bo, isa_tu_in, isa_tu_st, isa_tu_tu, isa_tu_li, isa_li_bo, isa_li_in, isa_li_st, isa_li_tu, isa_li_li, tyStr, isN_str, Bool.or_false, Bool.false_or, Bool.or_true, Bool.true_or, Bool.or_self, not_true_eq_false, not_false_eq_true, Bool.true_eq_false, Bool.false_eq_true, forall_const, Bool.not_false, Bool.not_true, and_self, imp_self
      exact no (by simp [sameD, res_tup])
  · have ty : tyD M e = some "list" := by rw [ty, ey]; rfl
    rw [ey] at no hy h
    rcases dep_kinds hx with fx | ⟨xs, ex⟩ | ⟨xs, ex⟩
    · have ed : res M d = d := nsq_res fun xs z => by rw [z] at fx; exact fx
      rw [ed] at fx no
      cases d with
      | non => nomatch st_law_same, ty, isa_No_bo, isa_No_in, isa_No_st, isa_No_tu, isa_No_li, isa_bo_bo, isa_bo_in, isa_bo_st, isa_bo_tu, isa_bo_li, isa_in_bo, isa_in_in, isa_in_st, isa_in_tu, isa_in_li, isa_st_bo, isa_st_in, isa_st_st, isa_st_tu, isa_st_li, isa_tu_bo, isa_tu_in, isa_tu_st, isa_tu_tu, isa_tu_li, isa_li_bo, isa_li_in, isa_li_st, isa_li_tu, isa_li_li, tyStr, isN_str, Bool.or_false, Bool.false_or, Bool.or_true, Bool.true_or, Bool.or_self, not_true_eq_false, not_false_eq_true, Bool.true_eq_false, Bool.false_eq_true, forall_const, Bool.not_false, Bool.not_true, and_self, imp_self; exact no (by simp [sameD])
      | bl j => nomatch st_law_same, ty, isa_No_bo, isa_No_in, isa_No_st, isa_No_tu, isa_No_li, isa_bo_bo, isa_bo_in, isa_bo_st, isa_bo_tu, isa_bo_li, isa_in_bo, isa_in_in, isa_in_st, isa_in_tu, isa_in_li, isa_st_bo, isa_st_in, isa_st_st, isa_st_tu, isa_st_li, isa_tu_bo, isa_tu_in, isa_tu_st, isa_tu_tu, isa_tu_li, isa_li_bo, isa_li_in, isa_li_st, isa_li_tu, isa_li_li, tyStr, isN_str, Bool.or_false, Bool.false_or, Bool.or_true, Bool.true_or, Bool.or_self, not_true_eq_false, not_false_eq_true, Bool.true_eq_false, Bool.false_eq_true, forall_const, Bool.not_false, Bool.not_true, and_self, imp_self; exact no (by simp [sameD])
      | int j => nomatch st_law_same, ty, isa_No_bo, isa_No_in, isa_No_st, isa_No_tu, isa_No_li, isa_bo_bo, isa_bo_in, isa_bo_st, isa_bo_tu, isa_bo_li, isa_in_bo, isa_in_in, isa_in_st, isa_in_tu, isa_in_li, isa_st_bo, isa_st_in, isa_st_st, isa_st_tu, isa_st_li, isa_tu_bo, isa_tu_in, isa_tu_st, isa_tu_tu, isa_tu_li, isa_li_bo, isa_li_in, isa_li_st, isa_li_tu, isa_li_li, tyStr, isN_str, Bool.or_false, Bool.false_or, Bool.or_true, Bool.true_or, Bool.or_self, not_true_eq_false, not_false_eq_true, Bool.true_eq_false, Bool.false_eq_true, forall_const, Bool.not_false, Bool.not_true, and_self, imp_self; exact no (by simp [sameD])
      | str j => nomatch st_law_same, ty, isa_No_bo, isa_No_in, isa_No_st, isa_No_tu, isa_No_li, isa_bo_bo, isa_bo_in, isa_bo_st, isa_bo_tu, isa_bo_li, isa_in_bo, isa_in_in, isa_in_st, isa_in_tu, isa_in_li, isa_st_bo, isa_st_in, isa_st_st, isa_st_tu, isa_st_li, isa_tu_bo, isa_tu_in, isa_tu_st, isa_tu_tu, isa_tu_li, isa_li_bo, isa_li_in, isa_li_st, isa_li_tu, isa_li_li, tyStr, isN_str, Bool.or_false, Bool.false_or, Bool.or_true, Bool.true_or, Bool.or_self, not_true_eq_false, not_false_eq_true, Bool.true_eq_false, Bool.false_eq_true, forall_const, Bool.not_false, Bool.not_true, and_self, imp_self; exact no (by simp [sameD])
      | _ => exact fx.elim
    · have ed : d = .tup xs := by rw [← ex]; exact (nsq_res fun zs z => by rw [ex] at z; cases z).symm
      subst ed
      nomatch st_law_same, ty, isa_No_bo, isa_No_in, isa_No_st, isa_No_tu, isa_No_li, isa_bo_bo, isa_bo_in, isa_bo_st, isa_bo_tu, isa_bo_li, isa_in_bo, isa_in_in, isa_in_st, isa_in_tu, isa_in_li, isa_st_bo, isa_st_in, isa_st_st, isa_st_tu, isa_st_li, isa_tu_bo, isa_tu_in, isa_tu_st, isa_tu_tu, isa_tu_li, isa_li_bo, isa_li_in, isa_li_st, isa_li_tu, isa_li_li, tyStr, isN_str, Bool.or_false, Bool.false_or, Bool.or_true, Bool.true_or, Bool.or_self, not_true_eq_false, not_false_eq_true, Bool.true_eq_false, Bool.false_eq_true, forall_const, Bool.not_false, Bool.not_true, and_self, imp_self
      exact no (by simp [sameD, res_tup])
    · have tx : tyD M d = some "list" := by rw [tx, ex]; rfl
      rw [ex] at no hx h
      obtain ⟨l1, d1⟩ := dep_mem (.inl hx)
      obtain ⟨l2, d2⟩ := dep_mem (.inl hy)
      rw [show sameD (.lst xs) (.lst ys) = samesD xs ys by simp only [sameD]] at h no
      have lD : ∀ Q : DQ, rdLen [d] M Q = Q (.int (xs.length : Nat)) M := fun Q => lenDr (.inl ex)
      have lE : ∀ Q : DQ, rdLen [e] M Q = Q (.int (ys.length : Nat)) M := fun Q => lenDr (.inl ey)
      have zp := zpRes ex ey
      nomatch st_law_same, tx, ty, lD, lE, isa_No_bo, isa_No_in, isa_No_st, isa_No_tu, isa_No_li, isa_bo_bo, isa_bo_in, isa_bo_st, isa_bo_tu, isa_bo_li, isa_in_bo, isa_in_in, isa_in_st, isa_in_tu, isa_in_li, isa_st_bo, isa_st_in, isa_st_st, isa_st_tu, isa_st_li, isa_tu_bo, isa_tu_in, isa_tu_st, isa_tu_tu, isa_tu_li, isa_li_bo, isa_li_in, isa_li_st, isa_li_tu, isa_li_li, tyStr, isN_str, Bool.or_false, Bool.false_or, Bool.or_true, Bool.true_or, Bool.or_self, not_true_eq_false, not_false_eq_true, Bool.true_eq_false, Bool.false_eq_true, forall_const, Bool.not_false, Bool.not_true, and_self, imp_self
      refine ⟨fun hlen => ?_, fun hne => no (Bool.eq_false_iff.mpr fun z => hne (by rw [samesD_len z]))⟩
      obtain ⟨z1, z2⟩ := pairs xs ys l1 d1 d2 (by omega) (Fin.same h) (fun M2 => zpD M2 d e = some (xs, ys)) (fun M2 x => by
        have e1 := sq_ext x (sq_res ex)
        have e2 := sq_ext x (sq_res ey)
        exact zpRes (resSq e1) (resSq e2))
      exact ⟨xs, ys, zp, z1, z2⟩
theorem ok_law_same1 (G : Glb P w K mg base C_BadMark C_Crossing C_Matching) (h_law_same0 : Dfk P w K mg base T "_law_same" 1 ["_law_found", "_law_due"] sp_law_same0) (Dd : DefAt K mg "_law_same" s_law_same ["_law_found", "_law_due"]) : Dfk P w K mg base T "_law_same" 2 ["_law_found", "_law_due"] sp_law_same1 := ok_law_sameN G h_law_same0 Dd
def sp_law_same2 : DSp := sp_law_sameN 2
theorem ok_law_same2 (G : Glb P w K mg base C_BadMark C_Crossing C_Matching) (h_law_same1 : Dfk P w K mg base T "_law_same" 2 ["_law_found", "_law_due"] sp_law_same1) (Dd : DefAt K mg "_law_same" s_law_same ["_law_found", "_law_due"]) : Dfk P w K mg base T "_law_same" 3 ["_law_found", "_law_due"] sp_law_same2 := ok_law_sameN G h_law_same1 Dd
theorem sc_law_asks : FnScope ["_law_bag_here", "_law_size", "_law_most", "_law_many", "_law_way", "_law_lines", "_law_found", "_law_k", "_law_start", "_law_end", "_law_width", "_law_low", "_law_high"] ["_law_bag_here", "_law_size", "_law_most"] (defScope s_law_asks) := ⟨rfl, rfl, rfl, by decide +kernel, rfl, by decide +kernel, by decide +kernel⟩
def sp_law_asks : DSp := fun ds M Q _ => ∃ (b : Addr) (n k : Int), ds = [.ref b, .int n, .int k] ∧ M b = some bagC ∧ 1 ≤ n ∧ n ≤ 1000 ∧ 0 ≤ k ∧ k ≤ 1000 ∧ ∀ as : List Sp2, (as.length : Int) ≤ k → (∀ s ∈ as, 0 ≤ s.1 ∧ s.1 < s.2 ∧ s.2 ≤ n) → Q (.lst (as.map spD)) M
theorem st_law_asks {a0 a1 a2 : D} : dstart ["_law_bag_here", "_law_size", "_law_most", "_law_many", "_law_way", "_law_lines", "_law_found", "_law_k", "_law_start", "_law_end", "_law_width", "_law_low", "_law_high"] [a0, a1, a2] = [some a0, some a1, some a2, none, none, none, none, none, none, none, none, none, none] := rfl
theorem ok_law_asks (G : Glb P w K mg base C_BadMark C_Crossing C_Matching) (h_law_of : Dfk P w K mg base T "_law_of" 2 ["_law_bag_here", "_law_some"] sp_law_of) (h_law_take : Dfk P w K mg base T "_law_take" 1 ["_law_bag_here", "_law_sides"] sp_law_take) (Dd : DefAt K mg "_law_asks" s_law_asks ["_law_bag_here", "_law_size", "_law_most"]) : Dfk P w K mg base T "_law_asks" 3 ["_law_bag_here", "_law_size", "_law_most"] sp_law_asks := by
  refine DefAt.ok Dd sc_law_asks (fun ds M Q E h => by
    obtain ⟨_, _, _, rfl, _⟩ := h
    rfl) fun f cdv A outer s H E hr => ?_
  have tk : Takes (cxOf (L2.CX P w) P w K mg base ["_law_bag_here", "_law_size", "_law_most", "_law_many", "_law_way", "_law_lines", "_law_found", "_law_k", "_law_start", "_law_end", "_law_width", "_law_low", "_law_high"] "_law_asks" (defScope s_law_asks) f cdv A outer s H E) (wOf T E).w := takes_of rfl rfl rfl rfl
  refine ⟨_, (dss_cons (ds_set 3 sc_law_asks.nd (de_callA h_law_take (hr.mono (by decide)) tk (da_cons (dv 0) (da_cons (de_op op_add3 real_add (dv 2) de_int) da_nil))))
      (dss_cons (ds_set 4 sc_law_asks.nd (de_callA h_law_take (hr.mono (by decide)) tk (da_cons (dv 0) (da_cons de_int da_nil))))
      (dss_cons (ds_set 5 sc_law_asks.nd (de_op op_add3 real_add (de_lst (da_cons de_int (da_cons (dv 1) da_nil))) (de_lcN (LcOk.mk (own := [("_law_k", 7)]) rfl sc_law_asks.nd (di_rng1 rfl G.n_range (da_cons de_int da_nil)) (blkOk_by (N := ["_law_bag_here", "_law_size", "_law_most", "_law_many", "_law_way", "_law_lines", "_law_found", "_law_k", "_law_start", "_law_end", "_law_width", "_law_low", "_law_high"]) (sc := defScope s_law_asks) (by decide +kernel)) (fun _ _ _ _ _ => (dg_name (i := 7) sc_law_asks.nd rfl (by first | exact Or.inl rfl | exact Or.inr rfl) (fun _ e => by cases e; decide))) (fun _ _ _ _ _ => dts_nil) (fun _ _ _ _ _ => (de_callA h_law_take (hr.mono (by decide)) takes_none5 (da_cons (dv 0) (da_cons (de_op op_add3 real_add (dv 1) de_int) da_nil))))))))
      (dss_cons (ds_set 6 sc_law_asks.nd (de_lstO da_nil))
      (dss_cons (ds_for (passes_of rfl) rfl (di_rng1 rfl G.n_range (da_cons (dv 3) da_nil)) (dg_name (i := 7) sc_law_asks.nd rfl (by first | exact Or.inl rfl | exact Or.inr rfl) (fun _ e => nomatch e)) (dss_cons (ds_set 8 sc_law_asks.nd (de_callA h_law_take (hr.mono (by decide)) tk (da_cons (dv 0) (da_cons (dv 1) da_nil))))
      (dss_cons (ds_set 9 sc_law_asks.nd (de_op op_add3 real_add (de_op op_add3 real_add (dv 8) de_int) (de_callA h_law_take (hr.mono (by decide)) tk (da_cons (dv 0) (da_cons (de_op op_sub real_sub (dv 1) (dv 8)) da_nil)))))
      (dss_cut (ds_if (dt_cmp (op_eqD hr.units) real_eq (dv 4) de_int (nomark _)) (dss_cons (ds_set 10 sc_law_asks.nd (de_op op_add3 real_add de_int (de_op op_fdiv real_fdiv (dv 1) de_int)))
      (dss_cons (ds_set 8 sc_law_asks.nd (de_callA h_law_take (hr.mono (by decide)) tk (da_cons (dv 0) (da_cons (de_op op_add3 real_add (de_op op_sub real_sub (dv 1) (dv 10)) de_int) da_nil))))
      (dss_one (ds_set 9 sc_law_asks.nd (de_op op_add3 real_add (dv 8) (dv 10)))))) dss_nil)
      (dss_cut (ds_if (dt_cmp op_gt real_gt (dv 4) de_int (nomark _)) (dss_cons (ds_asg (de_frz (de_sorted G.n_sorted rfl (da_cons (de_lst (da_cons (de_callA h_law_of (hr.mono (by decide)) tk (da_cons (dv 0) (da_cons (dv 5) da_nil))) (da_cons (de_callA h_law_of (hr.mono (by decide)) tk (da_cons (dv 0) (da_cons (dv 5) da_nil))) da_nil))) da_nil))) (dg_unl (n := 2) rfl (dgs_cons (dg_name (i := 11) sc_law_asks.nd rfl (by first | exact Or.inl rfl | exact Or.inr rfl) (fun _ e => nomatch e)) (dgs_cons (dg_name (i := 12) sc_law_asks.nd rfl (by first | exact Or.inl rfl | exact Or.inr rfl) (fun _ e => nomatch e)) dgs_nil))))
      (dss_cons (ds_set 8 sc_law_asks.nd (de_if (dt_cmp op_lt real_lt (dv 11) (dv 12) (nomark _)) (dv 11) (dv 8)))
      (dss_one (ds_set 9 sc_law_asks.nd (de_if (dt_cmp op_lt real_lt (dv 11) (dv 12) (nomark _)) (dv 12) (dv 9)))))) dss_nil)
      (dss_cut (ds_if (dw_pt (dw_and (dt_cmp (op_eqD hr.units) real_eq (dv 4) de_int (nomark _)) (dw_and1 (dt_cmp op_gt real_gt (dv 7) de_int (nomark _))))) (dss_cons (ds_set 8 sc_law_asks.nd (de_callB (call_min2 rfl) real_int2 rfl G.n_min rfl (da_cons (de_op op_add3 real_add (de_ix (de_ix (dv 6) (de_neg de_int)) de_int) (de_callA h_law_take (hr.mono (by decide)) tk (da_cons (dv 0) (da_cons de_int da_nil)))) (da_cons (de_op op_sub real_sub (dv 1) de_int) da_nil))))
      (dss_one (ds_set 9 sc_law_asks.nd (de_callB (call_max2 rfl) real_int2 rfl G.n_max rfl (da_cons (de_op op_add3 real_add (dv 8) de_int) (da_cons (de_callB (call_min2 rfl) real_int2 rfl G.n_min rfl (da_cons (dv 1) (da_cons (de_op op_add3 real_add (de_ix (de_ix (dv 6) (de_neg de_int)) de_int) (de_callA h_law_take (hr.mono (by decide)) tk (da_cons (dv 0) (da_cons de_int da_nil)))) da_nil))) da_nil)))))) dss_nil)
      (dss_cut (ds_if (dw_pt (dw_and (dt_cmp (op_eqD hr.units) real_eq (dv 4) de_int (nomark _)) (dw_and1 (dt_cmp op_gt real_gt (dv 7) de_int (nomark _))))) (dss_cons (ds_set 8 sc_law_asks.nd (de_ix (de_callA h_law_of (hr.mono (by decide)) tk (da_cons (dv 0) (da_cons (dv 6) da_nil))) (de_callA h_law_take (hr.mono (by decide)) tk (da_cons (dv 0) (da_cons de_int da_nil)))))
      (dss_cons (ds_set 8 sc_law_asks.nd (de_callB (call_min2 rfl) real_int2 rfl G.n_min rfl (da_cons (dv 8) (da_cons (de_op op_sub real_sub (dv 1) de_int) da_nil))))
      (dss_one (ds_set 9 sc_law_asks.nd (de_op op_add3 real_add (de_op op_add3 real_add (dv 8) de_int) (de_callA h_law_take (hr.mono (by decide)) tk (da_cons (dv 0) (da_cons (de_op op_sub real_sub (dv 1) (dv 8)) da_nil)))))))) dss_nil)
      (dss_one (ds_expr (de_append (dv 6) (de_tup (da_cons (dv 8) (da_cons (dv 9) da_nil)))))))))))))
      (dss_one (ds_ret (dv 6)))))))), fun ds M Qd Ed h => ?_⟩
  obtain ⟨b, n, k, rfl, hb, hn1, hn2, hk1, hk2, h⟩ := h
  have sz : sizeLine = 16777216 := szl
  (first | (simp only [st_law_asks]; try sizeOf_list_dec) | sizeOf_list_dec)
  refine ⟨b, _, rfl, hb, by omega, by omega, fun many hm1 hm2 => ⟨b, _, rfl, hb, by omega, by omega, fun way hw1 hw2 => ?_⟩⟩
  refine ⟨⟨by decide, by decide⟩, LI_R (xs := List.range 3) (injRng (by decide)) (fun _ o => ∃ z, o = some (D.int z) ∧ (0 ≤ z ∧ z ≤ n)) (fun _ _ => trivial) (fun x hx M' hM => ?_) fun os hos => ?_⟩
  · (first | (simp only [st_law_asks]; try sizeOf_list_dec) | sizeOf_list_dec)
    exact ⟨b, _, rfl, hM _ _ hb, by omega, by omega, fun r h0 h1 => ⟨rfl, r, rfl, h0, by omega⟩⟩
  obtain ⟨zs, ez, hz, hzl⟩ := all2_vals hos
  rw [ez]
  have hzl : zs.length = 3 := by rw [hzl, List.length_range]
  (first | (simp only [st_law_asks]; try sizeOf_list_dec) | sizeOf_list_dec)
  refine ⟨by omega, fun p hp => ⟨⟨by omega, by omega⟩, ?_⟩⟩
  have hpb : b ≠ p := fun z => by rw [z, hp] at hb; cases hb
  have elines : D.int 0 :: D.int n :: zs.map D.int = (0 :: n :: zs).map D.int := rfl
  rw [elines]
  generalize hls : 0 :: n :: zs = ls
  have hlines : ∀ z ∈ ls, 0 ≤ z ∧ z ≤ n := fun z h => by
    subst hls
    rcases List.mem_cons.mp h with rfl | h
    · omega
    rcases List.mem_cons.mp h with rfl | h
    · omega
    exact hz z h
  have hlen : ls.length = 5 := by subst hls; simp [hzl]
  have hbm : ∀ c, mup M p c b = some bagC := fun c => by rw [mup_ne hpb]; exact hb
  refine forRng (fun i Γ2 M2 => ∃ (as : List Sp2) (c7 c8 c9 c10 c11 c12 : Option D), Γ2 = [some (.ref b), some (.int n), some (.int k), some (.int many), some (.int way), some (.lst (ls.map D.int)), some (.ref p), c7, c8, c9, c10, c11, c12] ∧ M2 = mup M p (.lst (as.map spD)) ∧ as.length = i ∧ ∀ s ∈ as, 0 ≤ s.1 ∧ s.1 < s.2 ∧ s.2 ≤ n) ⟨[], _, _, _, _, _, _, rfl, rfl, rfl, fun s h => by cases h⟩ (fun _ => trivial) ?_ ?_
  · rintro i _ _ hi ⟨as, c7, c8, c9, c10, c11, c12, rfl, rfl, hal, has⟩
    sizeOf_list_dec
    refine ⟨b, _, rfl, hbm _, by omega, by omega, fun st hst1 hst2 => ?_⟩
    sizeOf_list_dec
    refine ⟨b, _, rfl, hbm _, by omega, by omega, fun ln hln1 hln2 => ?_⟩
    sizeOf_list_dec
    let J : DG → Mp → Prop := fun Γ2 M2 => ∃ (s e : Int) (c10 c11 c12 : Option D), Γ2 = [some (.ref b), some (.int n), some (.int k), some (.int many), some (.int way), some (.lst (ls.map D.int)), some (.ref p), some (.int (i : Nat)), some (.int s), some (.int e), c10, c11, c12] ∧ M2 = mup M p (.lst (as.map spD)) ∧ 0 ≤ s ∧ s < e ∧ e ≤ n
    have hCD : CDiv n 2 := ⟨by decide, by decide⟩
    -- one width
    refine ⟨J, ?_, ?_⟩
    · sizeOf_list_dec
      refine ⟨fun h1 => ⟨hCD, b, _, rfl, hbm _, by omega, by omega, fun r h0 h1 => ?_⟩, fun h1 => ⟨_, _, _, _, _, rfl, rfl, by omega, by omega, by omega⟩⟩
      sizeOf_list_dec
      exact ⟨_, _, _, _, _, rfl, rfl, by omega, by omega, by omega⟩
    rintro _ _ ⟨s, e, c10, c11, c12, rfl, rfl, hs0, hse, hen⟩
    -- between two lines
    refine ⟨J, ?_, ?_⟩
    · sizeOf_list_dec
      refine ⟨fun h1 => ?_, fun h1 => ⟨_, _, _, _, _, rfl, rfl, by omega, by omega, by omega⟩⟩
      refine ⟨b, _, ls.map D.int, rfl, hbm _, rfl, by rw [List.length_map]; omega, by rw [List.length_map]; omega, fun x hx => ?_⟩
      obtain ⟨z1, hz1, rfl⟩ := List.mem_map.mp hx
      refine ⟨b, _, ls.map D.int, rfl, hbm _, rfl, by rw [List.length_map]; omega, by rw [List.length_map]; omega, fun x hx => ?_⟩
      obtain ⟨z2, hz2, rfl⟩ := List.mem_map.mp hx
      have hh1 := hlines z1 hz1
      have hh2 := hlines z2 hz2
      refine rdSortedIn (ns := [z1, z2]) rfl fun L q pm pw hq => ?_
      obtain ⟨lo, hi, rfl, hlh, hlo, hhi⟩ := sorted2 pm pw
      have hpq : p ≠ q := fun z => by subst z; rw [mup_same] at hq; cases hq
      nomatch st_law_asks, mdel_mup hq, sqD
      have hJ : ∀ s e c11 c12, 0 ≤ s → s < e → e ≤ n → J [some (.ref b), some (.int n), some (.int k), some (.int many), some (.int way), some (.lst (ls.map D.int)), some (.ref p), some (.int (i : Nat)), some (.int s), some (.int e), c10, c11, c12] (mup M p (.lst (as.map spD))) := fun s e c11 c12 h1 h2 h3 => ⟨s, e, _, _, _, rfl, rfl, h1, h2, h3⟩
      have h1 : 0 ≤ lo := by rcases hlo with rfl | rfl <;> omega
      have h2 : hi ≤ n := by rcases hhi with rfl | rfl <;> omega
      exact ⟨fun hlt => ⟨fun _ => hJ _ _ _ _ h1 hlt h2, fun h => absurd hlt h⟩, fun hlt => ⟨fun h => absurd h hlt, fun _ => hJ _ _ _ _ hs0 hse hen⟩⟩
    rintro _ _ ⟨s, e, c10, c11, c12, rfl, rfl, hs0, hse, hen⟩
    -- going on
    refine ⟨J, ?_, ?_⟩
    · sizeOf_list_dec
      refine ⟨fun h1 => ⟨fun h2 => ?_, fun h2 => ⟨_, _, _, _, _, rfl, rfl, hs0, hse, hen⟩⟩, fun h1 => ⟨_, _, _, _, _, rfl, rfl, hs0, hse, hen⟩⟩
      have hne : as ≠ [] := by intro z; subst z; simp at hal; omega
      have hlm := has _ (List.getLast_mem hne)
      rw [atLast hne]
      refine ⟨_, rfl, ?_⟩
      sizeOf_list_dec
      refine ⟨b, _, rfl, hbm _, by omega, by omega, fun r hr0 hr1 => ?_⟩
      sizeOf_list_dec
      rw [atLast hne]
      refine ⟨_, rfl, ?_⟩
      sizeOf_list_dec
      refine ⟨b, _, rfl, hbm _, by omega, by omega, fun r2 hr20 hr21 => ?_⟩
      sizeOf_list_dec
      refine ⟨_, _, _, _, _, rfl, rfl, ?_, ?_, ?_⟩
      all_goals
        repeat' split
        all_goals omega
    rintro _ _ ⟨s, e, c10, c11, c12, rfl, rfl, hs0, hse, hen⟩
    -- a shared border
    refine ⟨J, ?_, ?_⟩
    · sizeOf_list_dec
      refine ⟨fun h1 => ⟨fun h2 => ?_, fun h2 => ⟨_, _, _, _, _, rfl, rfl, hs0, hse, hen⟩⟩, fun h1 => ⟨_, _, _, _, _, rfl, rfl, hs0, hse, hen⟩⟩
      have hne : as.length ≠ 0 := by omega
      refine ⟨b, _, as.map spD, rfl, hbm _, sqD_ref mup_same, by rw [List.length_map]; omega, by rw [List.length_map]; omega, fun x hx => ?_⟩
      obtain ⟨a, ha, rfl⟩ := List.mem_map.mp hx
      have hha := has a ha
      refine ⟨b, _, rfl, hbm _, by omega, by omega, fun r hr0 hr1 => ?_⟩
      have hr : r = 0 ∨ r = 1 := by omega
      have he : ∃ v, ixD (mup M p (.lst (as.map spD))) (spD a) (.int r) = some (.int v) ∧ 0 ≤ v := by
        rcases hr with rfl | rfl
        · exact ⟨a.1, by sizeOf_list_dec, by omega⟩
        · exact ⟨a.2, by sizeOf_list_dec, by omega⟩
      obtain ⟨v, hv, hv0⟩ := he
      refine ⟨_, hv, ?_⟩
      sizeOf_list_dec
      refine ⟨b, _, rfl, hbm _, ?_, ?_, fun r2 hr20 hr21 => ?_⟩
      · split <;> omega
      · split <;> omega
      sizeOf_list_dec
      refine ⟨_, _, _, _, _, rfl, rfl, ?_, ?_, ?_⟩
      all_goals
        repeat' split at hr21
        all_goals (repeat' split)
        all_goals omega
    rintro _ _ ⟨s, e, c10, c11, c12, rfl, rfl, hs0, hse, hen⟩
    sizeOf_list_dec
    refine ⟨by omega, ⟨_, rfl⟩, as ++ [(s, e)], by simp [spD], by simp [hal], fun y hy => ?_⟩
    rcases List.mem_append.mp hy with hy | hy
    · exact has y hy
    · obtain rfl : y = (s, e) := by simpa using hy
      exact ⟨hs0, hse, hen⟩
  · rintro _ _ ⟨as, c7, c8, c9, c10, c11, c12, rfl, rfl, hal, has⟩
    sizeOf_list_dec
    exact Fin.frzE mup_same hp ((Ext.refl M).up hp) (h as (by omega) has)
theorem sc_law_rising : FnScope ["_law_some", "_law_found", "_law_one"] ["_law_some"] (defScope s_law_rising) := ⟨rfl, rfl, rfl, by decide +kernel, rfl, by decide +kernel, by decide +kernel⟩
def sp_law_rising : DSp := fun ds M Q _ => ∃ (d : D) (as : List Sp2), ds = [d] ∧ sqD M d = some (as.map spD) ∧ as.length ≤ 10000 ∧ ∀ bs : List Sp2, (∀ x, x ∈ bs ↔ x ∈ as) → bs.length ≤ as.length → bs.Pairwise spLt → Q (.lst (bs.map spD)) M
theorem st_law_rising {a0 : D} : dstart ["_law_some", "_law_found", "_law_one"] [a0] = [some a0, none, none] := rfl
theorem ok_law_rising (G : Glb P w K mg base C_BadMark C_Crossing C_Matching) (Dd : DefAt K mg "_law_rising" s_law_rising ["_law_some"]) : Dfk P w K mg base T "_law_rising" 1 ["_law_some"] sp_law_rising := by
  refine DefAt.ok Dd sc_law_rising (fun ds M Q E h => by
    obtain ⟨_, _, rfl, _⟩ := h
    rfl) fun f cdv A outer s H E hr => ?_
  have tk : Takes (cxOf (L2.CX P w) P w K mg base ["_law_some", "_law_found", "_law_one"] "_law_rising" (defScope s_law_rising) f cdv A outer s H E) (wOf T E).w := takes_of rfl rfl rfl rfl
  refine ⟨_, (dss_cons (ds_set 1 sc_law_rising.nd (de_lstO da_nil))
      (dss_cons (ds_for (passes_of rfl) rfl (di_seq (de_sorted G.n_sorted rfl (da_cons (dv 0) da_nil))) (dg_name (i := 2) sc_law_rising.nd rfl (by first | exact Or.inl rfl | exact Or.inr rfl) (fun _ e => nomatch e)) (dss_one (ds_if (dw_pt (dw_or (dt_cmp (op_eqD hr.units) real_eq (dv 1) (de_lst da_nil) (nomark _)) (dw_or1 (dt_cmp (op_neD hr.units) real_ne (de_ix (dv 1) (de_neg de_int)) (dv 2) (nomark _))))) (dss_one (ds_expr (de_append (dv 1) (dv 2)))) dss_nil)))
      (dss_one (ds_ret (dv 1))))), fun ds M Qd Ed h => ?_⟩
  obtain ⟨d, as, rfl, hd, hl, h⟩ := h
  simp only [dFor_eq, dISeq, st_law_rising, dLenSetA, dJoin, dSplit, dJoined, dJs, dFmt, rdDictN, rdEqE, dIEn0, dFrzD, dFrzT, dWget, dDpop, dDdel, dDelSl, dSetSl, dFldAug, dFin, dMethK, dMakeK, dDnewT, dDinT, dDgetT, dDputT, dDinP, dDgetP, dDputP, dListRg1, dFrzI, gdStar, dMaxK, dDctGet, rdDictP, dSeq, dNext, dRet, dRetN, dIfS, dSet, dPar, dAsg, dDrop, dC, dOp, dTest, dChain, dChain3, dChain4, dAnd, dOr, dNot, dAndV, dOrV, dNotV, dCons, dNil, dTup, dLst, dLstO, dCB, dCall, dIf, dUn, dAppend, dPop, dPopI, dIndex, dLenSet, dInsert, dAug, dWhile, dDelL, dCont, dBreak, dFld, dPut, dMeth, dMake, dDnew, dDin, dDget, dDput, dLck, dLckS, dIKeys, dDc, insF, dcF1, dAct, dCallK, dCBK, dHof, spLm, startL, capD, dTryN, exN, offD, dXf, Option.join_some, List.map_nil, List.nil_append, List.cons_append, List.replicate, dVar, rdI_eq, rdIc_eq, rdIx, rdInt2_eq, lenL, isN_non, isN_tup, isN_int, dFrz, dAugS, dIsi, dIsi2, dListRg, dSetSp, dSetIn, dLc2O, dRev, lenT, dIZip, zpL, zpD_tup, zip_map, isaTL, isaTT, isaLL, isaLT, isaIB, isaII, isaIS, isaIL, isaIT, neSpU, eqSpU, neMkU, eqMkU, eqB, neB, isN_bl, isN_lst, isN_ref, isaBB, isaBL, isaBT, isaBI, isaBS, tyI, tyB, tyN, tyTu, tyLs, Cell.lst.injEq, implies_true, reduceCtorEq, true_implies, false_implies, if_true, if_false, Int.reduceToNat, Int.reducePow, Int.reduceNeg, exX, LB, dYes, dwipe, addL, sz0, sz1, sz2, sz3, Int.zero_add, Int.mul_one, dLcN_eq, dLcNO_eq, dIRng1, dIRng2, dIEn, dISeq, dFor_eq, List.map_cons, List.map_nil, mulI, rdAbs_eq, eqI, neI, xN4_0, xN4_1, xN4_2, xN4_3, List.length_map, ixS, mup_same, mup_mup, dRaise, gdName, gdTup, gdUnl, gdNil_eq, gdCons_eq, gdSub, dPart, dNoPart, dSl, tpD, fd0, List.getElem?_cons_zero, List.getElem?_cons_succ, List.set_cons_zero, List.set_cons_succ, Option.some.injEq, exists_eq_left', exists_eq_left, exists_eq_right, exists_eq_right', D.int.injEq, D.bl.injEq, D.tup.injEq, D.lst.injEq, D.ref.injEq, ixd_tup, ixd_lst, spD, mkD, decide_eq_true_eq, decide_eq_false_iff_not, Nat.reduceAdd, Int.reduceNeg, at0, at1, at2, at3, List.cons.injEq, and_true, true_and, List.append_nil, exists_and_left, exists_and_right, List.length_cons, List.length_nil, addI, res_int, deq_int, sh_int, iffB, parEq, Bool.not_eq_true', Bool.not_eq_false', Bool.not_eq_true ]
  refine fun p hp => ?_
  refine rdSortedSp (as := as) (sq_ext ((Ext.refl M).up hp) hd) fun L q pm pw hq => ?_
  have hpq : p ≠ q := fun z => by subst z; rw [mup_same] at hq; cases hq
  have hq0 : M q = none := by rw [← hq, mup_ne hpq.symm]
  have hL : L.length = as.length := pm.length_eq
  refine ⟨_, itSq (sqD_ref mup_same), forBy (fun i Γ2 M2 => ∃ bs c, Γ2 = [some d, some (.ref p), c] ∧ M2 = mup (mup M q (.lst (L.map spD))) p (.lst (bs.map spD)) ∧ (∀ x, x ∈ bs ↔ x ∈ L.take i) ∧ bs.Pairwise spLt ∧ bs.length ≤ i ∧ bs.getLast? = (L.take i).getLast?) ⟨[], none, rfl, ?_, by simp, List.Pairwise.nil, Nat.le_refl _, by simp⟩ ?_ ?_ ?_⟩
  · rw [mup_comm hpq]
    rfl
  · rintro i _ _ ⟨bs, c, rfl, rfl, _⟩
    exact itSq (sqD_ref (by rw [mup_ne hpq.symm, mup_same]))
  · rintro i x _ _ hx ⟨bs, c, rfl, rfl, hm, hp2, hlen, hlast⟩
    have hi : i < L.length := (List.getElem?_eq_some_iff.mp hx).1
    have ht : L.take (i + 1) = L.take i ++ [x] := by rw [List.take_add_one, hx]; rfl
    have sz : sizeLine = 16777216 := szl
    (first | (simp only [st_law_rising]; try sizeOf_list_dec) | sizeOf_list_dec)
    rw [eqNilR lay_spD]
    (first | (simp only [st_law_rising]; try sizeOf_list_dec) | sizeOf_list_dec)
    have add : bs.getLast? ≠ some x → ∃ bs' : List Sp2, mup (mup (mup M q (.lst (L.map spD))) p (.lst (bs.map spD))) p (.lst (bs.map spD ++ [D.tup [.int x.1, .int x.2]])) = mup (mup M q (.lst (L.map spD))) p (.lst (bs'.map spD)) ∧ (∀ x, x ∈ bs' ↔ x ∈ L.take (i + 1)) ∧ bs'.Pairwise spLt ∧ bs'.length ≤ i + 1 ∧ bs'.getLast? = (L.take (i + 1)).getLast? := fun hn => by
      refine ⟨bs ++ [x], ?_, fun y => ?_, rise hx pw hm hp2 hn hlast, by rw [List.length_append]; simp; omega, by rw [ht]; simp⟩
      · rw [mup_mup, List.map_append]
        rfl
      · rw [ht, List.mem_append, List.mem_append, hm]
    rw [mup_mup] at add
    refine ⟨fun h1 => ?_, fun h1 => ?_⟩
    · have : bs = [] := by simpa using h1
      subst this
      exact ⟨by rw [sz]; decide, add (by simp)⟩
    · have hne : bs ≠ [] := by intro z; subst z; cases h1
      rw [atLast hne]
      refine ⟨_, rfl, ?_⟩
      have e : ∀ Q : DQ, ∀ M : Mp, rdNe (spD (bs.getLast hne)) (D.tup [.int x.1, .int x.2]) M Q = Q (.bl (!decide (bs.getLast hne = x))) M := fun Q M => neSp (s := bs.getLast hne) (t := x)
      rw [e]
      (first | (simp only [st_law_rising]; try sizeOf_list_dec) | sizeOf_list_dec)
      refine ⟨fun h2 => ⟨by omega, add fun z => ?_⟩, fun h2 => ⟨bs, rfl, fun y => ?_, hp2, by omega, ?_⟩⟩
      · rw [List.getLast?_eq_some_getLast hne] at z
        exact h2 (Option.some.inj z)
      · rw [ht, List.mem_append, hm, List.mem_singleton]
        refine ⟨.inl, fun z => z.elim id fun z => ?_⟩
        subst z
        rw [← h2]
        exact (hm _).mp (List.getLast_mem hne)
      · rw [ht, List.getLast?_concat, List.getLast?_eq_some_getLast hne, h2]
  · rintro _ _ ⟨bs, c, rfl, rfl, hm, hp2, hlen, hlast⟩
    sizeOf_list_dec
    refine Fin.frzE mup_same hp (((Ext.refl M).up hq0).up hp) (h bs (fun x => ?_) (by omega) hp2)
    rw [hm, List.take_length]
    exact pm.mem_iff
theorem sc_law_marks : FnScope ["_law_asks_here", "_law_found", "_law_start", "_law_end", "_law_cell"] ["_law_asks_here"] (defScope s_law_marks) := ⟨rfl, rfl, rfl, by decide +kernel, rfl, by decide +kernel, by decide +kernel⟩
def sp_law_marks : DSp := fun ds M Q _ => ∃ (d : D) (as : List Sp2), ds = [d] ∧ sqD M d = some (as.map spD) ∧ as.length ≤ 1000 ∧ (∀ s ∈ as, 0 ≤ s.1 ∧ s.1 ≤ s.2 ∧ s.2 ≤ 1000) ∧ ∀ bs : List Sp2, (∀ x, x ∈ bs ↔ x ∈ as) → bs.length ≤ as.length → bs.Pairwise spLt → Q (.lst ((marksOf bs).map mkD)) M
theorem st_law_marks {a0 : D} : dstart ["_law_asks_here", "_law_found", "_law_start", "_law_end", "_law_cell"] [a0] = [some a0, none, none, none, none] := rfl
theorem ok_law_marks (G : Glb P w K mg base C_BadMark C_Crossing C_Matching) (h_law_rising : Dfk P w K mg base T "_law_rising" 1 ["_law_some"] sp_law_rising) (Dd : DefAt K mg "_law_marks" s_law_marks ["_law_asks_here"]) : Dfk P w K mg base T "_law_marks" 2 ["_law_asks_here"] sp_law_marks := by
  refine DefAt.ok Dd sc_law_marks (fun ds M Q E h => by
    obtain ⟨_, _, rfl, _⟩ := h
    rfl) fun f cdv A outer s H E hr => ?_
  have tk : Takes (cxOf (L2.CX P w) P w K mg base ["_law_asks_here", "_law_found", "_law_start", "_law_end", "_law_cell"] "_law_marks" (defScope s_law_marks) f cdv A outer s H E) (wOf T E).w := takes_of rfl rfl rfl rfl
  refine ⟨_, (dss_cons (ds_set 1 sc_law_marks.nd (de_lst da_nil))
      (dss_cons (ds_for (passes_of rfl) rfl (di_seq (de_callA h_law_rising (hr.mono (by decide)) tk (da_cons (dv 0) da_nil))) (dg_tup (n := 2) rfl (dgs_cons (dg_name (i := 2) sc_law_marks.nd rfl (by first | exact Or.inl rfl | exact Or.inr rfl) (fun _ e => nomatch e)) (dgs_cons (dg_name (i := 3) sc_law_marks.nd rfl (by first | exact Or.inl rfl | exact Or.inr rfl) (fun _ e => nomatch e)) dgs_nil))) (dss_one (ds_set 1 sc_law_marks.nd (de_op op_add3 real_add (dv 1) (de_lcN (LcOk.mk (own := [("_law_cell", 4)]) rfl sc_law_marks.nd (di_rng2 rfl G.n_range (da_cons (dv 2) (da_cons (dv 3) da_nil))) (blkOk_by (N := ["_law_asks_here", "_law_found", "_law_start", "_law_end", "_law_cell"]) (sc := defScope s_law_marks) (by decide +kernel)) (fun _ _ _ _ _ => (dg_name (i := 4) sc_law_marks.nd rfl (by first | exact Or.inl rfl | exact Or.inr rfl) (fun _ e => by cases e; decide))) (fun _ _ _ _ _ => dts_nil) (fun _ _ _ _ _ => (de_tup (da_cons (dv 4) (da_cons (dv 2) (da_cons (dv 3) da_nil)))))))))))
      (dss_one (ds_ret (dv 1))))), fun ds M Qd Ed h => ?_⟩
  obtain ⟨d, as, rfl, hd, hl, hs, h⟩ := h
  simp only [dFor_eq, dISeq, st_law_marks, dLenSetA, dJoin, dSplit, dJoined, dJs, dFmt, rdDictN, rdEqE, dIEn0, dFrzD, dFrzT, dWget, dDpop, dDdel, dDelSl, dSetSl, dFldAug, dFin, dMethK, dMakeK, dDnewT, dDinT, dDgetT, dDputT, dDinP, dDgetP, dDputP, dListRg1, dFrzI, gdStar, dMaxK, dDctGet, rdDictP, dSeq, dNext, dRet, dRetN, dIfS, dSet, dPar, dAsg, dDrop, dC, dOp, dTest, dChain, dChain3, dChain4, dAnd, dOr, dNot, dAndV, dOrV, dNotV, dCons, dNil, dTup, dLst, dLstO, dCB, dCall, dIf, dUn, dAppend, dPop, dPopI, dIndex, dLenSet, dInsert, dAug, dWhile, dDelL, dCont, dBreak, dFld, dPut, dMeth, dMake, dDnew, dDin, dDget, dDput, dLck, dLckS, dIKeys, dDc, insF, dcF1, dAct, dCallK, dCBK, dHof, spLm, startL, capD, dTryN, exN, offD, dXf, Option.join_some, List.map_nil, List.nil_append, List.cons_append, List.replicate, dVar, rdI_eq, rdIc_eq, rdIx, rdInt2_eq, lenL, isN_non, isN_tup, isN_int, dFrz, dAugS, dIsi, dIsi2, dListRg, dSetSp, dSetIn, dLc2O, dRev, lenT, dIZip, zpL, zpD_tup, zip_map, isaTL, isaTT, isaLL, isaLT, isaIB, isaII, isaIS, isaIL, isaIT, neSpU, eqSpU, neMkU, eqMkU, eqB, neB, isN_bl, isN_lst, isN_ref, isaBB, isaBL, isaBT, isaBI, isaBS, tyI, tyB, tyN, tyTu, tyLs, Cell.lst.injEq, implies_true, reduceCtorEq, true_implies, false_implies, if_true, if_false, Int.reduceToNat, Int.reducePow, Int.reduceNeg, exX, LB, dYes, dwipe, addL, sz0, sz1, sz2, sz3, Int.zero_add, Int.mul_one, dLcN_eq, dLcNO_eq, dIRng1, dIRng2, dIEn, dISeq, dFor_eq, List.map_cons, List.map_nil, mulI, rdAbs_eq, eqI, neI, xN4_0, xN4_1, xN4_2, xN4_3, List.length_map, ixS, mup_same, mup_mup, dRaise, gdName, gdTup, gdUnl, gdNil_eq, gdCons_eq, gdSub, dPart, dNoPart, dSl, tpD, fd0, List.getElem?_cons_zero, List.getElem?_cons_succ, List.set_cons_zero, List.set_cons_succ, Option.some.injEq, exists_eq_left', exists_eq_left, exists_eq_right, exists_eq_right', D.int.injEq, D.bl.injEq, D.tup.injEq, D.lst.injEq, D.ref.injEq, ixd_tup, ixd_lst, spD, mkD, decide_eq_true_eq, decide_eq_false_iff_not, Nat.reduceAdd, Int.reduceNeg, at0, at1, at2, at3, List.cons.injEq, and_true, true_and, List.append_nil, exists_and_left, exists_and_right, List.length_cons, List.length_nil, addI, res_int, deq_int, sh_int, iffB, parEq, Bool.not_eq_true', Bool.not_eq_false', Bool.not_eq_true ]
  refine ⟨d, as, rfl, hd, by omega, fun bs hb1 hb2 hb3 => ?_⟩
  have hsb : ∀ s ∈ bs, s.2 - s.1 ≤ (1000 : Nat) := fun s hs2 => by have := hs s ((hb1 s).mp hs2); omega
  refine ⟨_, rfl, forBy (fun i Γ2 M2 => ∃ c e, Γ2 = [some d, some (.lst ((marksOf (bs.take i)).map mkD)), c, e, none] ∧ M = M2) ⟨none, none, rfl, rfl⟩ ?_ ?_ ?_⟩
  · intro _ _ _ _
    rfl
  · rintro i s _ _ hx ⟨c, e, rfl, rfl⟩
    have hi : i < bs.length := (List.getElem?_eq_some_iff.mp hx).1
    have hs2 : s ∈ bs := List.mem_of_getElem? hx
    obtain ⟨h1, h2, h3⟩ := hs s ((hb1 s).mp hs2)
    have ht : bs.take (i + 1) = bs.take i ++ [s] := by rw [List.take_add_one, hx]; rfl
    have hs3 : s.2 - s.1 ≤ 1000 := by omega
    (first | (simp only [st_law_marks]; try sizeOf_list_dec) | sizeOf_list_dec)
    refine ⟨⟨by omega, by omega⟩, ⟨by omega, by omega⟩, by omega, ?_⟩
    refine LI_F (xs := List.range (s.2 - s.1).toNat) (injRng (by decide)) (fun k => some (mkD (s.1 + (k : Nat), s.1, s.2))) (fun _ _ => trivial) (fun k hk M' _ => ?_) ?_
    · (first | (simp only [st_law_marks]; try sizeOf_list_dec) | sizeOf_list_dec)
    · (first | (simp only [st_law_marks]; try sizeOf_list_dec) | sizeOf_list_dec)
      refine ⟨?_, ?_⟩
      · have e1 := len_marksOf (n := 1000) (bs := bs.take i) fun t ht => hsb t (List.mem_of_mem_take ht)
        have e2 : (bs.take i).length ≤ i := List.length_take_le _ _
        rw [filterMap_some, List.length_map, List.length_range, szl]
        have := Nat.mul_le_mul_right 1000 e2
        omega
      · rw [ht, filterMap_some]
        simp [marksOf, marksOf1, mkD]
  · rintro _ _ ⟨c, e, rfl, rfl⟩
    sizeOf_list_dec
    rw [List.take_length]
    exact Fin.same (h bs hb1 hb2 hb3)
theorem sc_law_least_ask : FnScope ["_law_mark", "_law_asks_here", "_law_low", "_law_high"] ["_law_mark", "_law_asks_here"] (defScope s_law_least_ask) := ⟨rfl, rfl, rfl, by decide +kernel, rfl, by decide +kernel, by decide +kernel⟩
def sp_law_least_ask : DSp := fun ds M Q _ => ∃ (m : Mk) (d : D) (as : List Sp2), ds = [mkD m, d] ∧ sqD M d = some (as.map spD) ∧ (m.2.1, m.2.2) ∈ as ∧ okM m ∧ Q (.bl (decide (isEss as m))) M
theorem st_law_least_ask {a0 a1 : D} : dstart ["_law_mark", "_law_asks_here", "_law_low", "_law_high"] [a0, a1] = [some a0, some a1, none, none] := rfl
theorem ok_law_least_ask (G : Glb P w K mg base C_BadMark C_Crossing C_Matching) (Dd : DefAt K mg "_law_least_ask" s_law_least_ask ["_law_mark", "_law_asks_here"]) : Dfk P w K mg base T "_law_least_ask" 1 ["_law_mark", "_law_asks_here"] sp_law_least_ask := by
  refine DefAt.ok Dd sc_law_least_ask (fun ds M Q E h => by
    obtain ⟨_, _, _, rfl, _⟩ := h
    rfl) fun f cdv A outer s H E hr => ?_
  have tk : Takes (cxOf (L2.CX P w) P w K mg base ["_law_mark", "_law_asks_here", "_law_low", "_law_high"] "_law_least_ask" (defScope s_law_least_ask) f cdv A outer s H E) (wOf T E).w := takes_of rfl rfl rfl rfl
  refine ⟨_, (dss_cons (ds_for (passes_of rfl) rfl (di_seq (dv 1)) (dg_tup (n := 2) rfl (dgs_cons (dg_name (i := 2) sc_law_least_ask.nd rfl (by first | exact Or.inl rfl | exact Or.inr rfl) (fun _ e => nomatch e)) (dgs_cons (dg_name (i := 3) sc_law_least_ask.nd rfl (by first | exact Or.inl rfl | exact Or.inr rfl) (fun _ e => nomatch e)) dgs_nil))) (dss_one (ds_if (dw_pt (dw_and (dt_cmp (op_neD hr.units) real_ne (de_tup (da_cons (dv 2) (da_cons (dv 3) da_nil))) (de_sl (dv 0) (do_some de_int) do_none) (nomark _)) (dw_and (dt_cmp op_le real_le (de_ix (dv 0) de_int) (dv 2) (nomark _)) (dw_and (dt_cmp op_le real_le (dv 2) (de_ix (dv 0) de_int) (nomark _)) (dw_and (dt_cmp op_lt real_lt (de_ix (dv 0) de_int) (dv 3) (nomark _)) (dw_and1 (dt_cmp op_le real_le (dv 3) (de_ix (dv 0) de_int) (nomark _)))))))) (dss_one (ds_ret de_bl)) dss_nil)))
      (dss_one (ds_ret de_bl))), fun ds M Qd Ed h => ?_⟩
  obtain ⟨m, d, as, rfl, hd, hm, om, h⟩ := h
  (first | (simp only [st_law_least_ask]; try sizeOf_list_dec) | sizeOf_list_dec)
  let bad : Sp2 → Prop := fun o => ¬ o = (m.2.1, m.2.2) ∧ o.1 ≤ m.1 ∧ m.1 < o.2 ∧ within o (m.2.1, m.2.2)
  refine ⟨_, itSq hd, forBy (fun i Γ2 M2 => ∃ c2 c3, Γ2 = [some (mkD m), some d, c2, c3] ∧ M = M2 ∧ ∀ o ∈ as.take i, ¬ bad o) ⟨none, none, rfl, rfl, fun o ho => by simp at ho⟩ ?_ ?_ ?_⟩
  · rintro i _ _ ⟨c2, c3, rfl, rfl, _⟩
    exact itSq hd
  · rintro i o _ _ ho ⟨c2, c3, rfl, rfl, hb⟩
    have ht : as.take (i + 1) = as.take i ++ [o] := by rw [List.take_add_one, ho]; rfl
    have nxt : ¬ bad o → ∀ o' ∈ as.take (i + 1), ¬ bad o' := fun hn o' ho' => by
      rw [ht] at ho'
      rcases List.mem_append.mp ho' with ho' | ho'
      · exact hb o' ho'
      · obtain rfl : o' = o := by simpa using ho'
        exact hn
    have cut : cutD [D.int m.1, D.int m.2.1, D.int m.2.2] (some 1) none = [D.int m.2.1, D.int m.2.2] := rfl
    nomatch st_law_least_ask, rdSl, cut
    refine ⟨by decide, fun h0 => ⟨fun h1 => ⟨fun h2 => ⟨fun h3 => ⟨fun h4 => ?_, fun h4 => ⟨⟨_, rfl⟩, nxt ?_⟩⟩, fun h3 => ⟨⟨_, rfl⟩, nxt ?_⟩⟩, fun h2 => ⟨⟨_, rfl⟩, nxt ?_⟩⟩, fun h1 => ⟨⟨_, rfl⟩, nxt ?_⟩⟩, fun h0 => ⟨⟨_, rfl⟩, nxt ?_⟩⟩
    · refine finF h fun z => ?_
      obtain ⟨_, _, _, z4⟩ := mem_leastAt.mp z
      exact z4 o (List.mem_of_getElem? ho) h2 h3 h0 ⟨h1, h4⟩
    · exact fun q => h4 q.2.2.2.2
    · exact fun q => h3 q.2.2.1
    · exact fun q => h2 q.2.1
    · exact fun q => h1 q.2.2.2.1
    · exact fun q => q.1 h0
  · rintro _ _ ⟨c2, c3, rfl, rfl, hb⟩
    (first | (simp only [st_law_least_ask]; try sizeOf_list_dec) | sizeOf_list_dec)
    rw [List.take_length] at hb
    refine finT h (mem_leastAt.mpr ⟨hm, om.2.2.2.1, om.2.2.2.2, fun o ho h1 h2 h3 h4 => hb o ho ⟨h3, h1, h2, h4⟩⟩)
theorem sc_law_essential : FnScope ["_law_asks_here", "_law_mark"] ["_law_asks_here"] (defScope s_law_essential) := ⟨rfl, rfl, rfl, by decide +kernel, rfl, by decide +kernel, by decide +kernel⟩
def sp_law_essential : DSp := fun ds M Q _ => ∃ (d : D) (as : List Sp2), ds = [d] ∧ sqD M d = some (as.map spD) ∧ as.length ≤ 31 ∧ (∀ s ∈ as, okS s) ∧ ∀ ms : List Mk, EssP as ms → ms.length ≤ 31000 → Q (.lst (ms.map mkD)) M
theorem st_law_essential {a0 : D} : dstart ["_law_asks_here", "_law_mark"] [a0] = [some a0, none] := rfl
theorem ok_law_essential (G : Glb P w K mg base C_BadMark C_Crossing C_Matching) (h_law_least_ask : Dfk P w K mg base T "_law_least_ask" 1 ["_law_mark", "_law_asks_here"] sp_law_least_ask) (h_law_marks : Dfk P w K mg base T "_law_marks" 2 ["_law_asks_here"] sp_law_marks) (Dd : DefAt K mg "_law_essential" s_law_essential ["_law_asks_here"]) : Dfk P w K mg base T "_law_essential" 3 ["_law_asks_here"] sp_law_essential := by
  refine DefAt.ok Dd sc_law_essential (fun ds M Q E h => by
    obtain ⟨_, _, rfl, _⟩ := h
    rfl) fun f cdv A outer s H E hr => ?_
  have tk : Takes (cxOf (L2.CX P w) P w K mg base ["_law_asks_here", "_law_mark"] "_law_essential" (defScope s_law_essential) f cdv A outer s H E) (wOf T E).w := takes_of rfl rfl rfl rfl
  refine ⟨_, (dss_one (ds_ret (de_frz (de_sorted G.n_sorted rfl (da_cons (de_lcN (LcOk.mk (own := [("_law_mark", 1)]) rfl sc_law_essential.nd (di_seq (de_callA h_law_marks (hr.mono (by decide)) tk (da_cons (dv 0) da_nil))) (blkOk_by (N := ["_law_asks_here", "_law_mark"]) (sc := defScope s_law_essential) (by decide +kernel)) (fun _ _ _ _ _ => (dg_name (i := 1) sc_law_essential.nd rfl (by first | exact Or.inl rfl | exact Or.inr rfl) (fun _ e => by cases e; decide))) (fun _ _ _ _ _ => (dts_one (dt_val (de_callA h_law_least_ask (hr.mono (by decide)) takes_none5 (da_cons (dv 1) (da_cons (dv 0) da_nil)))))) (fun _ _ _ _ _ => (dv 1)))) da_nil))))), fun ds M Qd Ed h => ?_⟩
  obtain ⟨d, as, rfl, hd, hl, hok, h⟩ := h
  (first | (simp only [st_law_essential]; try sizeOf_list_dec) | sizeOf_list_dec)
  refine ⟨d, as, rfl, hd, by omega, fun s hs => by have := hok s hs; unfold okS at this; omega, fun bs hb1 hb2 hb3 => ?_⟩
  refine ⟨_, rfl, LI_F (F := mkD) (xs := marksOf bs) injMk (fun m => if decide (isEss as m) = true then some (mkD m) else none) (fun _ _ => rfl) (fun m hm M' hM => ?_) ?_⟩
  · obtain ⟨h1, h2, h3⟩ := mem_marksOf.mp hm
    have h4 := hok _ ((hb1 _).mp h1)
    (first | (simp only [st_law_essential]; try sizeOf_list_dec) | sizeOf_list_dec)
    refine ⟨m, d, as, rfl, sq_ext hM hd, (hb1 _).mp h1, ⟨h4.1, h4.2.1, h4.2.2, h2, h3⟩, ?_⟩
    (first | (simp only [st_law_essential]; try sizeOf_list_dec) | sizeOf_list_dec)
    exact ⟨fun z => by rw [if_pos z], fun z => by rw [if_neg z]⟩
  · rw [fm_ite]
    refine rdSortedMk (as := (marksOf bs).filter fun m => decide (isEss as m)) rfl fun L p pm pw hp => ?_
    have hlen : L.length ≤ 31000 := by
      have h1 : L.length ≤ (marksOf bs).length := by rw [pm.length_eq]; exact List.length_filter_le _ _
      have h2 := len_marksOf (n := 1000) (bs := bs) fun s hs => by have := hok s ((hb1 s).mp hs); unfold okS at this; omega
      omega
    nomatch st_law_essential, mdel_mup hp
    exact Fin.same (h L (essP_sorted hb1 hb3 pm pw) hlen)
theorem sc_law_bound : FnScope ["_law_one", "_law_two"] ["_law_one", "_law_two"] (defScope s_law_bound) := ⟨rfl, rfl, rfl, by decide +kernel, rfl, by decide +kernel, by decide +kernel⟩
def sp_law_bound : DSp := fun ds M Q _ => ∃ a b : Mk, ds = [mkD a, mkD b] ∧ Q (.bl (decide (a.2.1 ≤ b.1 ∧ b.1 < a.2.2 ∧ b.2.1 ≤ a.1 ∧ a.1 < b.2.2))) M
theorem st_law_bound {a0 a1 : D} : dstart ["_law_one", "_law_two"] [a0, a1] = [some a0, some a1] := rfl
theorem ok_law_bound (G : Glb P w K mg base C_BadMark C_Crossing C_Matching) (Dd : DefAt K mg "_law_bound" s_law_bound ["_law_one", "_law_two"]) : Dfk P w K mg base T "_law_bound" 1 ["_law_one", "_law_two"] sp_law_bound := by
  refine DefAt.ok Dd sc_law_bound (fun ds M Q E h => by
    obtain ⟨_, _, rfl, _⟩ := h
    rfl) fun f cdv A outer s H E hr => ?_
  have tk : Takes (cxOf (L2.CX P w) P w K mg base ["_law_one", "_law_two"] "_law_bound" (defScope s_law_bound) f cdv A outer s H E) (wOf T E).w := takes_of rfl rfl rfl rfl
  refine ⟨_, (dss_one (ds_ret (de_and (de_cmp op_le real_le (de_ix (dv 0) de_int) (de_ix (dv 1) de_int) (nomark _)) (de_and (de_cmp op_lt real_lt (de_ix (dv 1) de_int) (de_ix (dv 0) de_int) (nomark _)) (de_and (de_cmp op_le real_le (de_ix (dv 1) de_int) (de_ix (dv 0) de_int) (nomark _)) (de_one (de_cmp op_lt real_lt (de_ix (dv 0) de_int) (de_ix (dv 1) de_int) (nomark _)))))))), fun ds M Qd Ed h => ?_⟩
  obtain ⟨a, b, rfl, h⟩ := h
  (first | (simp only [st_law_bound]; try sizeOf_list_dec) | sizeOf_list_dec)
  refine ⟨fun h1 => ⟨fun h2 => ⟨fun h3 => finB h ?_, fun h3 => finF h ?_⟩, fun h2 => finF h ?_⟩, fun h1 => finF h ?_⟩ <;> omega
theorem sc_law_left : FnScope ["_law_one", "_law_two"] ["_law_one", "_law_two"] (defScope s_law_left) := ⟨rfl, rfl, rfl, by decide +kernel, rfl, by decide +kernel, by decide +kernel⟩
def sp_law_left : DSp := fun ds M Q _ => ∃ a b : Mk, ds = [mkD a, mkD b] ∧ Q (.bl (decide (a.1 < b.1 ∧ a.2.1 < b.2.1 ∧ a.2.2 < b.2.2))) M
theorem st_law_left {a0 a1 : D} : dstart ["_law_one", "_law_two"] [a0, a1] = [some a0, some a1] := rfl
theorem ok_law_left (G : Glb P w K mg base C_BadMark C_Crossing C_Matching) (Dd : DefAt K mg "_law_left" s_law_left ["_law_one", "_law_two"]) : Dfk P w K mg base T "_law_left" 1 ["_law_one", "_law_two"] sp_law_left := by
  refine DefAt.ok Dd sc_law_left (fun ds M Q E h => by
    obtain ⟨_, _, rfl, _⟩ := h
    rfl) fun f cdv A outer s H E hr => ?_
  have tk : Takes (cxOf (L2.CX P w) P w K mg base ["_law_one", "_law_two"] "_law_left" (defScope s_law_left) f cdv A outer s H E) (wOf T E).w := takes_of rfl rfl rfl rfl
  refine ⟨_, (dss_one (ds_ret (de_and (de_cmp op_lt real_lt (de_ix (dv 0) de_int) (de_ix (dv 1) de_int) (nomark _)) (de_and (de_cmp op_lt real_lt (de_ix (dv 0) de_int) (de_ix (dv 1) de_int) (nomark _)) (de_one (de_cmp op_lt real_lt (de_ix (dv 0) de_int) (de_ix (dv 1) de_int) (nomark _))))))), fun ds M Qd Ed h => ?_⟩
  obtain ⟨a, b, rfl, h⟩ := h
  (first | (simp only [st_law_left]; try sizeOf_list_dec) | sizeOf_list_dec)
  refine ⟨fun h1 => ⟨fun h2 => finB h ?_, fun h2 => finF h ?_⟩, fun h1 => finF h ?_⟩ <;> omega
theorem sc_law_cross : FnScope ["_law_one", "_law_two"] ["_law_one", "_law_two"] (defScope s_law_cross) := ⟨rfl, rfl, rfl, by decide +kernel, rfl, by decide +kernel, by decide +kernel⟩
def sp_law_cross : DSp := fun ds M Q _ => ∃ a b : Mk, ds = [mkD a, mkD b] ∧ okM a ∧ okM b ∧ Q (.bl (decide (acr a b ∨ acr b a))) M
theorem st_law_cross {a0 a1 : D} : dstart ["_law_one", "_law_two"] [a0, a1] = [some a0, some a1] := rfl
theorem ok_law_cross (G : Glb P w K mg base C_BadMark C_Crossing C_Matching) (h_law_bound : Dfk P w K mg base T "_law_bound" 1 ["_law_one", "_law_two"] sp_law_bound) (h_law_left : Dfk P w K mg base T "_law_left" 1 ["_law_one", "_law_two"] sp_law_left) (Dd : DefAt K mg "_law_cross" s_law_cross ["_law_one", "_law_two"]) : Dfk P w K mg base T "_law_cross" 2 ["_law_one", "_law_two"] sp_law_cross := by
  refine DefAt.ok Dd sc_law_cross (fun ds M Q E h => by
    obtain ⟨_, _, rfl, _⟩ := h
    rfl) fun f cdv A outer s H E hr => ?_
  have tk : Takes (cxOf (L2.CX P w) P w K mg base ["_law_one", "_law_two"] "_law_cross" (defScope s_law_cross) f cdv A outer s H E) (wOf T E).w := takes_of rfl rfl rfl rfl
  refine ⟨_, (dss_one (ds_ret (de_and (de_callA h_law_bound (hr.mono (by decide)) tk (da_cons (dv 0) (da_cons (dv 1) da_nil))) (de_one (de_or (de_callA h_law_left (hr.mono (by decide)) tk (da_cons (dv 0) (da_cons (dv 1) da_nil))) (de_one (de_callA h_law_left (hr.mono (by decide)) tk (da_cons (dv 1) (da_cons (dv 0) da_nil))))))))), fun ds M Qd Ed h => ?_⟩
  obtain ⟨a, b, rfl, oa, ob, h⟩ := h
  (first | (simp only [st_law_cross]; try sizeOf_list_dec) | sizeOf_list_dec)
  refine ⟨a, b, rfl, ?_⟩
  (first | (simp only [st_law_cross]; try sizeOf_list_dec) | sizeOf_list_dec)
  refine ⟨fun h1 => ⟨a, b, rfl, ?_⟩, fun h1 => finF h ?_⟩
  · (first | (simp only [st_law_cross]; try sizeOf_list_dec) | sizeOf_list_dec)
    refine ⟨fun h2 => finT h ?_, fun h2 => ⟨b, a, rfl, finB h ?_⟩⟩ <;> (unfold acr bnd; unfold okM at oa ob; omega)
  · unfold acr bnd
    unfold okM at oa ob
    omega
theorem sc_law_under : FnScope ["_law_one", "_law_two"] ["_law_one", "_law_two"] (defScope s_law_under) := ⟨rfl, rfl, rfl, by decide +kernel, rfl, by decide +kernel, by decide +kernel⟩
def sp_law_under : DSp := fun ds M Q _ => ∃ a b : Mk, ds = [mkD a, mkD b] ∧ Q (.bl (decide (und a b))) M
theorem st_law_under {a0 a1 : D} : dstart ["_law_one", "_law_two"] [a0, a1] = [some a0, some a1] := rfl
theorem ok_law_under (G : Glb P w K mg base C_BadMark C_Crossing C_Matching) (Dd : DefAt K mg "_law_under" s_law_under ["_law_one", "_law_two"]) : Dfk P w K mg base T "_law_under" 1 ["_law_one", "_law_two"] sp_law_under := by
  refine DefAt.ok Dd sc_law_under (fun ds M Q E h => by
    obtain ⟨_, _, rfl, _⟩ := h
    rfl) fun f cdv A outer s H E hr => ?_
  have tk : Takes (cxOf (L2.CX P w) P w K mg base ["_law_one", "_law_two"] "_law_under" (defScope s_law_under) f cdv A outer s H E) (wOf T E).w := takes_of rfl rfl rfl rfl
  refine ⟨_, (dss_one (ds_ret (de_and (de_cmp op_le real_le (de_ix (dv 0) de_int) (de_ix (dv 1) de_int) (nomark _)) (de_and (de_cmp op_le real_le (de_ix (dv 1) de_int) (de_ix (dv 0) de_int) (nomark _)) (de_one (de_cmp op_le real_le (de_ix (dv 1) de_int) (de_ix (dv 0) de_int) (nomark _))))))), fun ds M Qd Ed h => ?_⟩
  obtain ⟨a, b, rfl, h⟩ := h
  (first | (simp only [st_law_under]; try sizeOf_list_dec) | sizeOf_list_dec)
  refine ⟨fun h1 => ⟨fun h2 => finB h ?_, fun h2 => finF h ?_⟩, fun h1 => finF h ?_⟩ <;> (unfold und; omega)
theorem sc_law_taken : FnScope ["_law_asks_here", "_law_found", "_law_mark", "_law_one"] ["_law_asks_here"] (defScope s_law_taken) := ⟨rfl, rfl, rfl, by decide +kernel, rfl, by decide +kernel, by decide +kernel⟩
def sp_law_taken : DSp := fun ds M Q _ => ∃ (d : D) (as : List Sp2), ds = [d] ∧ sqD M d = some (as.map spD) ∧ as.length ≤ 31 ∧ (∀ s ∈ as, okS s) ∧ ∀ ms : List Mk, EssP as ms → ms.length ≤ 31000 → Q (.lst ((takenOf ms).map mkD)) M
theorem st_law_taken {a0 : D} : dstart ["_law_asks_here", "_law_found", "_law_mark", "_law_one"] [a0] = [some a0, none, none, none] := rfl
theorem ok_law_taken (G : Glb P w K mg base C_BadMark C_Crossing C_Matching) (h_law_cross : Dfk P w K mg base T "_law_cross" 2 ["_law_one", "_law_two"] sp_law_cross) (h_law_essential : Dfk P w K mg base T "_law_essential" 3 ["_law_asks_here"] sp_law_essential) (Dd : DefAt K mg "_law_taken" s_law_taken ["_law_asks_here"]) : Dfk P w K mg base T "_law_taken" 4 ["_law_asks_here"] sp_law_taken := by
  refine DefAt.ok Dd sc_law_taken (fun ds M Q E h => by
    obtain ⟨_, _, rfl, _⟩ := h
    rfl) fun f cdv A outer s H E hr => ?_
  have tk : Takes (cxOf (L2.CX P w) P w K mg base ["_law_asks_here", "_law_found", "_law_mark", "_law_one"] "_law_taken" (defScope s_law_taken) f cdv A outer s H E) (wOf T E).w := takes_of rfl rfl rfl rfl
  refine ⟨_, (dss_cons (ds_set 1 sc_law_taken.nd (de_lstO da_nil))
      (dss_cons (ds_for (passes_of rfl) rfl (di_seq (de_callA h_law_essential (hr.mono (by decide)) tk (da_cons (dv 0) da_nil))) (dg_name (i := 2) sc_law_taken.nd rfl (by first | exact Or.inl rfl | exact Or.inr rfl) (fun _ e => nomatch e)) (dss_one (ds_if (dt_not (dt_val (de_callB (cr_any rfl) real_any rfl G.n_any rfl (da_cons (de_lcN (LcOk.mk (own := [("_law_one", 3)]) rfl sc_law_taken.nd (di_seq (dv 1)) (blkOk_by (N := ["_law_asks_here", "_law_found", "_law_mark", "_law_one"]) (sc := defScope s_law_taken) (by decide +kernel)) (fun _ _ _ _ _ => (dg_name (i := 3) sc_law_taken.nd rfl (by first | exact Or.inl rfl | exact Or.inr rfl) (fun _ e => by cases e; decide))) (fun _ _ _ _ _ => dts_nil) (fun _ _ _ _ _ => (de_callA h_law_cross (hr.mono (by decide)) takes_none5 (da_cons (dv 3) (da_cons (dv 2) da_nil)))))) da_nil)))) (dss_one (ds_expr (de_append (dv 1) (dv 2)))) dss_nil)))
      (dss_one (ds_ret (dv 1))))), fun ds M Qd Ed h => ?_⟩
  obtain ⟨d, as, rfl, hd, hl, hok, h⟩ := h
  (first | (simp only [st_law_taken]; try sizeOf_list_dec) | sizeOf_list_dec)
  refine fun p hp => ?_
  have sz : sizeLine = 16777216 := szl
  refine ⟨d, as, rfl, sq_ext ((Ext.refl M).up hp) hd, hl, hok, fun ms hms hln => ?_⟩
  have om : ∀ m ∈ ms, okM m := fun m hm => ess_ok hok ((hms.2 m).mp hm)
  refine ⟨_, rfl, forBy (fun i Γ2 M2 => ∃ c1 c2, Γ2 = [some d, some (.ref p), c1, c2] ∧ M2 = mup M p (.lst ((takenOf (ms.take i)).map mkD))) ⟨none, none, rfl, rfl⟩ ?_ ?_ ?_⟩
  · rintro i _ _ ⟨c1, c2, rfl, rfl⟩
    rfl
  · rintro i m _ _ hm ⟨c1, c2, rfl, rfl⟩
    have hi : i < ms.length := (List.getElem?_eq_some_iff.mp hm).1
    have ht : ms.take (i + 1) = ms.take i ++ [m] := by rw [List.take_add_one, hm]; rfl
    have hlen : (takenOf (ms.take i)).length ≤ i := Nat.le_trans (takenOf_len _) (List.length_take_le _ _)
    (first | (simp only [st_law_taken]; try sizeOf_list_dec) | sizeOf_list_dec)
    refine ⟨_, itSq (sqD_ref mup_same), LI_F (F := mkD) (xs := takenOf (ms.take i)) injMk (fun o => some (.bl (decide (acr o m ∨ acr m o)))) (fun M' hM => itSq (sq_ext hM (sqD_ref mup_same))) (fun o ho M' hM => ?_) ?_⟩
    · have oo := om o (List.mem_of_mem_take ((takenOf_sub _).subset ho))
      have omm := om m (List.mem_of_getElem? hm)
      (first | (simp only [st_law_taken]; try sizeOf_list_dec) | sizeOf_list_dec)
      exact ⟨o, m, rfl, oo, omm, rfl, rfl⟩
    · refine anyT ((takenOf (ms.take i)).map fun o => decide (acr o m ∨ acr m o)) (by rw [filterMap_some, List.map_map]; rfl) ?_
      refine ⟨_, rfl, ?_⟩
      rw [List.any_map, ht, takenOf_snoc]
      show if crossAny (takenOf (ms.take i)) m = false then _ else _
      by_cases h1 : crossAny (takenOf (ms.take i)) m = false
      · rw [if_pos h1, h1, if_neg Bool.false_ne_true]
        sizeOf_list_dec
        exact ⟨by omega, by rw [List.map_append]; rfl⟩
      · rw [if_neg h1, if_pos (by simpa using h1)]
  · rintro _ _ ⟨c1, c2, rfl, rfl⟩
    sizeOf_list_dec
    rw [List.take_length]
    exact Fin.frzE mup_same hp ((Ext.refl M).up hp) (h ms hms hln)
theorem sc_law_pairs_of : FnScope ["_law_some", "_law_found", "_law_at", "_law_behind"] ["_law_some"] (defScope s_law_pairs_of) := ⟨rfl, rfl, rfl, by decide +kernel, rfl, by decide +kernel, by decide +kernel⟩
def sp_law_pairs_of : DSp := fun ds M Q _ => ∃ (d : D) (xs : List D), ds = [d] ∧ sqD M d = some xs ∧ xs.length ≤ 1000 ∧ Q (.lst ((pairsTo xs.length xs.length).map spD)) M
theorem st_law_pairs_of {a0 : D} : dstart ["_law_some", "_law_found", "_law_at", "_law_behind"] [a0] = [some a0, none, none, none] := rfl
theorem ok_law_pairs_of (G : Glb P w K mg base C_BadMark C_Crossing C_Matching) (Dd : DefAt K mg "_law_pairs_of" s_law_pairs_of ["_law_some"]) : Dfk P w K mg base T "_law_pairs_of" 1 ["_law_some"] sp_law_pairs_of := by
  refine DefAt.ok Dd sc_law_pairs_of (fun ds M Q E h => by
    obtain ⟨_, _, rfl, _⟩ := h
    rfl) fun f cdv A outer s H E hr => ?_
  have tk : Takes (cxOf (L2.CX P w) P w K mg base ["_law_some", "_law_found", "_law_at", "_law_behind"] "_law_pairs_of" (defScope s_law_pairs_of) f cdv A outer s H E) (wOf T E).w := takes_of rfl rfl rfl rfl
  refine ⟨_, (dss_cons (ds_set 1 sc_law_pairs_of.nd (de_lst da_nil))
      (dss_cons (ds_for (passes_of rfl) rfl (di_rng1 rfl G.n_range (da_cons (de_callB call_len real_len rfl G.n_len rfl (da_cons (dv 0) da_nil)) da_nil)) (dg_name (i := 2) sc_law_pairs_of.nd rfl (by first | exact Or.inl rfl | exact Or.inr rfl) (fun _ e => nomatch e)) (dss_one (ds_set 1 sc_law_pairs_of.nd (de_op op_add3 real_add (dv 1) (de_lcN (LcOk.mk (own := [("_law_behind", 3)]) rfl sc_law_pairs_of.nd (di_rng2 rfl G.n_range (da_cons (de_op op_add3 real_add (dv 2) de_int) (da_cons (de_callB call_len real_len rfl G.n_len rfl (da_cons (dv 0) da_nil)) da_nil))) (blkOk_by (N := ["_law_some", "_law_found", "_law_at", "_law_behind"]) (sc := defScope s_law_pairs_of) (by decide +kernel)) (fun _ _ _ _ _ => (dg_name (i := 3) sc_law_pairs_of.nd rfl (by first | exact Or.inl rfl | exact Or.inr rfl) (fun _ e => by cases e; decide))) (fun _ _ _ _ _ => dts_nil) (fun _ _ _ _ _ => (de_tup (da_cons (dv 2) (da_cons (dv 3) da_nil))))))))))
      (dss_one (ds_ret (dv 1))))), fun ds M Qd Ed h => ?_⟩
  obtain ⟨d, xs, rfl, hd, hl, h⟩ := h
  (first | (simp only [st_law_pairs_of]; try sizeOf_list_dec) | sizeOf_list_dec)
  rw [lenSq hd]
  (first | (simp only [st_law_pairs_of]; try sizeOf_list_dec) | sizeOf_list_dec)
  refine ⟨⟨by omega, by omega⟩, forRng (fun i Γ2 M2 => ∃ c, Γ2 = [some d, some (.lst ((pairsTo xs.length i).map spD)), c, none] ∧ M = M2 ∧ i ≤ xs.length) ⟨none, rfl, rfl, Nat.zero_le _⟩ (fun _ => trivial) ?_ ?_⟩
  · rintro i _ _ hi ⟨c, rfl, rfl, _⟩
    (first | (simp only [st_law_pairs_of]; try sizeOf_list_dec) | sizeOf_list_dec)
    rw [lenSq hd]
    sizeOf_list_dec
    refine ⟨⟨by omega, by omega⟩, ⟨by omega, by omega⟩, by omega, ?_⟩
    have e : ((xs.length : Int) - ((i : Int) + 1)).toNat = xs.length - (i + 1) := by omega
    rw [e]
    refine LI_F (xs := List.range (xs.length - (i + 1))) (injRng (by decide)) (fun k => some (spD ((i : Nat), (i : Int) + 1 + (k : Nat)))) (fun _ _ => trivial) (fun k hk M' _ => ?_) ?_
    · sizeOf_list_dec
    · sizeOf_list_dec
      refine ⟨?_, ?_, by omega⟩
      · have e1 := len_pairsTo xs.length i
        rw [filterMap_some, List.length_map, List.length_range, szl]
        have := Nat.mul_le_mul hl (show i ≤ 1000 by omega)
        omega
      · rw [filterMap_some, pairsTo_succ]
        simp [pairs1, spD]
  · rintro _ _ ⟨c, rfl, rfl, _⟩
    sizeOf_list_dec
    exact Fin.same h
theorem sc_law_others_right : FnScope ["_law_bag_here", "_law_asks_here", "_law_marks_here", "_law_mark", "_law_rows", "_law_unlike", "_law_every", "_law_row", "_law_at", "_law_to", "_law_one"] ["_law_bag_here", "_law_asks_here"] (defScope s_law_others_right) := ⟨rfl, rfl, rfl, by decide +kernel, rfl, by decide +kernel, by decide +kernel⟩
def sp_law_others_right : DSp := fun ds M Q _ => ∃ (b : Addr) (d : D) (as : List Sp2), ds = [.ref b, d] ∧ M b = some bagC ∧ sqD M d = some (as.map spD) ∧ as.length ≤ 31 ∧ (∀ s ∈ as, 0 ≤ s.1 ∧ s.1 < s.2 ∧ s.2 ≤ 8) ∧ Q (.bl true) M
theorem st_law_others_right {a0 a1 : D} : dstart ["_law_bag_here", "_law_asks_here", "_law_marks_here", "_law_mark", "_law_rows", "_law_unlike", "_law_every", "_law_row", "_law_at", "_law_to", "_law_one"] [a0, a1] = [some a0, some a1, none, none, none, none, none, none, none, none, none] := rfl
theorem ok_law_others_right (G : Glb P w K mg base C_BadMark C_Crossing C_Matching) (h_law_cross : Dfk P w K mg base T "_law_cross" 2 ["_law_one", "_law_two"] sp_law_cross) (h_law_marks : Dfk P w K mg base T "_law_marks" 2 ["_law_asks_here"] sp_law_marks) (h_law_pairs_of : Dfk P w K mg base T "_law_pairs_of" 1 ["_law_some"] sp_law_pairs_of) (h_law_turned : Dfk P w K mg base T "_law_turned" 2 ["_law_bag_here", "_law_some"] sp_law_turned) (h_law_under : Dfk P w K mg base T "_law_under" 1 ["_law_one", "_law_two"] sp_law_under) (h_chains : Dfk P w K mg base T "chains" 6 ["marks"] (sp_chains C_BadMark C_Crossing C_Matching)) (Dd : DefAt K mg "_law_others_right" s_law_others_right ["_law_bag_here", "_law_asks_here"]) : Dfk P w K mg base T "_law_others_right" 7 ["_law_bag_here", "_law_asks_here"] sp_law_others_right := by
  refine DefAt.ok Dd sc_law_others_right (fun ds M Q E h => by
    obtain ⟨_, _, _, rfl, _⟩ := h
    rfl) fun f cdv A outer s H E hr => ?_
  have tk : Takes (cxOf (L2.CX P w) P w K mg base ["_law_bag_here", "_law_asks_here", "_law_marks_here", "_law_mark", "_law_rows", "_law_unlike", "_law_every", "_law_row", "_law_at", "_law_to", "_law_one"] "_law_others_right" (defScope s_law_others_right) f cdv A outer s H E) (wOf T E).w := takes_of rfl rfl rfl rfl
  refine ⟨_, (dss_cons (ds_set 2 sc_law_others_right.nd (de_lstO da_nil))
      (dss_cons (ds_for (passes_of rfl) rfl (di_seq (de_sl (de_callA h_law_turned (hr.mono (by decide)) tk (da_cons (dv 0) (da_cons (de_callA h_law_marks (hr.mono (by decide)) tk (da_cons (dv 1) da_nil)) da_nil))) do_none (do_some de_int))) (dg_name (i := 3) sc_law_others_right.nd rfl (by first | exact Or.inl rfl | exact Or.inr rfl) (fun _ e => nomatch e)) (dss_one (ds_if (dt_not (dt_val (de_callB (cr_any rfl) real_any rfl G.n_any rfl (da_cons (de_lcN (LcOk.mk (own := [("_law_one", 10)]) rfl sc_law_others_right.nd (di_seq (dv 2)) (blkOk_by (N := ["_law_bag_here", "_law_asks_here", "_law_marks_here", "_law_mark", "_law_rows", "_law_unlike", "_law_every", "_law_row", "_law_at", "_law_to", "_law_one"]) (sc := defScope s_law_others_right) (by decide +kernel)) (fun _ _ _ _ _ => (dg_name (i := 10) sc_law_others_right.nd rfl (by first | exact Or.inl rfl | exact Or.inr rfl) (fun _ e => by cases e; decide))) (fun _ _ _ _ _ => dts_nil) (fun _ _ _ _ _ => (de_callA h_law_cross (hr.mono (by decide)) takes_none5 (da_cons (dv 10) (da_cons (dv 3) da_nil)))))) da_nil)))) (dss_one (ds_expr (de_append (dv 2) (dv 3)))) dss_nil)))
      (dss_cons (ds_asg (de_callA h_chains (hr.mono (by decide)) tk (da_cons (dv 2) da_nil)) (dg_tup (n := 2) rfl (dgs_cons (dg_name (i := 4) sc_law_others_right.nd rfl (by first | exact Or.inl rfl | exact Or.inr rfl) (fun _ e => nomatch e)) (dgs_cons (dg_name (i := 5) sc_law_others_right.nd rfl (by first | exact Or.inl rfl | exact Or.inr rfl) (fun _ e => nomatch e)) dgs_nil))))
      (dss_cons (ds_set 6 sc_law_others_right.nd (de_lst da_nil))
      (dss_cons (ds_for (passes_of rfl) rfl (di_seq (dv 4)) (dg_name (i := 7) sc_law_others_right.nd rfl (by first | exact Or.inl rfl | exact Or.inr rfl) (fun _ e => nomatch e)) (dss_cons (ds_if (dt_not (dt_val (de_callB (cr_all rfl) real_all rfl G.n_all rfl (da_cons (de_lcN (LcOk.mk (own := [("_law_at", 8)]) rfl sc_law_others_right.nd (di_rng1 rfl G.n_range (da_cons (de_op op_sub real_sub (de_callB call_len real_len rfl G.n_len rfl (da_cons (dv 7) da_nil)) de_int) da_nil)) (blkOk_by (N := ["_law_bag_here", "_law_asks_here", "_law_marks_here", "_law_mark", "_law_rows", "_law_unlike", "_law_every", "_law_row", "_law_at", "_law_to", "_law_one"]) (sc := defScope s_law_others_right) (by decide +kernel)) (fun _ _ _ _ _ => (dg_name (i := 8) sc_law_others_right.nd rfl (by first | exact Or.inl rfl | exact Or.inr rfl) (fun _ e => by cases e; decide))) (fun _ _ _ _ _ => dts_nil) (fun _ _ _ _ _ => (de_callA h_law_under (hr.mono (by decide)) takes_none5 (da_cons (de_ix (dv 7) (dv 8)) (da_cons (de_ix (dv 7) (de_op op_add3 real_add (dv 8) de_int)) da_nil)))))) da_nil)))) (dss_one (ds_ret de_bl)) dss_nil)
      (dss_one (ds_set 6 sc_law_others_right.nd (de_op op_add3 real_add (dv 6) (dv 7))))))
      (dss_cons (ds_if (dw_pt (dw_or (dt_cmp (op_neD hr.units) real_ne (de_frz (de_sorted G.n_sorted rfl (da_cons (dv 6) da_nil))) (de_frz (de_sorted G.n_sorted rfl (da_cons (dv 2) da_nil))) (nomark _)) (dw_or1 (dt_cmp (op_neD hr.units) real_ne (de_callB call_len real_len rfl G.n_len rfl (da_cons (dv 4) da_nil)) (de_callB call_len real_len rfl G.n_len rfl (da_cons (dv 5) da_nil)) (nomark _))))) (dss_one (ds_ret de_bl)) dss_nil)
      (dss_cons (ds_for (passes_of rfl) rfl (di_seq (de_callA h_law_pairs_of (hr.mono (by decide)) tk (da_cons (dv 5) da_nil))) (dg_tup (n := 2) rfl (dgs_cons (dg_name (i := 8) sc_law_others_right.nd rfl (by first | exact Or.inl rfl | exact Or.inr rfl) (fun _ e => nomatch e)) (dgs_cons (dg_name (i := 9) sc_law_others_right.nd rfl (by first | exact Or.inl rfl | exact Or.inr rfl) (fun _ e => nomatch e)) dgs_nil))) (dss_one (ds_if (dw_pt (dw_or (dt_val (de_callA h_law_under (hr.mono (by decide)) tk (da_cons (de_ix (dv 5) (dv 8)) (da_cons (de_ix (dv 5) (dv 9)) da_nil)))) (dw_or1 (dt_val (de_callA h_law_under (hr.mono (by decide)) tk (da_cons (de_ix (dv 5) (dv 9)) (da_cons (de_ix (dv 5) (dv 8)) da_nil))))))) (dss_one (ds_ret de_bl)) dss_nil)))
      (dss_one (ds_ret (de_callB (cr_all rfl) real_all rfl G.n_all rfl (da_cons (de_lcN (LcOk.mk (own := [("_law_mark", 3)]) rfl sc_law_others_right.nd (di_seq (dv 5)) (blkOk_by (N := ["_law_bag_here", "_law_asks_here", "_law_marks_here", "_law_mark", "_law_rows", "_law_unlike", "_law_every", "_law_row", "_law_at", "_law_to", "_law_one"]) (sc := defScope s_law_others_right) (by decide +kernel)) (fun _ _ _ _ _ => (dg_name (i := 3) sc_law_others_right.nd rfl (by first | exact Or.inl rfl | exact Or.inr rfl) (fun _ e => by cases e; decide))) (fun _ _ _ _ _ => dts_nil) (fun _ _ _ _ _ => (de_cmp (op_inD (Room.un65 hr)) real_in (dv 3) (dv 2) (by with_unfolding_all rfl))))) da_nil))))))))))), fun ds M Qd Ed h => ?_⟩
  obtain ⟨b, d, as, rfl, hb, hd, hl, ho, h⟩ := h
  (first | (simp only [st_law_others_right]; try sizeOf_list_dec) | sizeOf_list_dec)
  intro p hp
  have nbp : b ≠ p := fun z => by rw [z, hp] at hb; cases hb
  have X : ∀ c, DL.Ext M (mup M p c) := fun c => (Ext.refl M).up hp
  refine ⟨d, as, rfl, sq_ext (X _) hd, by omega, fun s hs => by have := ho s hs; omega, fun bs hm hbl hpw => ?_⟩
  have lm := len_marksOf (n := 8) (bs := bs) fun s hs => by have := ho s ((hm s).mp hs); omega
  refine ⟨b, _, Mk, mkD, marksOf bs, rfl, X _ _ _ hb, rfl, by omega, fun ts pm => ?_⟩
  refine rdSl_to (f := mkD) (xs := ts) (n := 14) rfl ?_
  have ndt : (ts.take 14).Nodup := ((pm.nodup_iff).mpr (marksOf_nodup hpw)).sublist (List.take_sublist _ _)
  have okt : ∀ m ∈ ts.take 14, LW.okM m := fun m hm2 => by
    obtain ⟨h1, h2, h3⟩ := mem_marksOf.mp (pm.mem_iff.mp (List.mem_of_mem_take hm2))
    have := ho _ ((hm _).mp h1)
    unfold LW.okM
    dsimp only at this
    omega
  have lt : (ts.take 14).length ≤ 14 := by rw [List.length_take]; omega
  generalize ts.take 14 = T at ndt okt lt ⊢
  let J : Nat → DG → Mp → Prop := fun i Γ2 M2 => ∃ (c3 : Option D) (fs : List Mk), Γ2 = [some (.ref b), some d, some (.ref p), c3, none, none, none, none, none, none, none] ∧ M2 = mup M p (.lst (fs.map mkD)) ∧ (∀ m ∈ fs, m ∈ T.take i) ∧ fs.Nodup ∧ (fs.Pairwise fun a c => ¬ (acr a c ∨ acr c a)) ∧ fs.length ≤ i
  refine ⟨_, rfl, forBy (f := mkD) (xs := T) J ⟨_, [], rfl, rfl, (fun m hm => by cases hm), List.Pairwise.nil, List.Pairwise.nil, Nat.le_refl _⟩ (fun _ _ _ _ => rfl) ?_ ?_⟩
  · rintro i x _ _ hx ⟨c3, fs, rfl, rfl, hin, hnd, hpc, hfl⟩
    have il := (List.getElem?_eq_some_iff.mp hx).1
    have ox := okt x (List.mem_of_getElem? hx)
    have of : ∀ m ∈ fs, LW.okM m := fun m hm => okt m (List.mem_of_mem_take (hin m hm))
    have hq : mup M p (.lst (fs.map mkD)) p = some (.lst (fs.map mkD)) := mup_same
    (first | (simp only [st_law_others_right]; try sizeOf_list_dec) | sizeOf_list_dec)
    refine ⟨_, itSq (sqD_ref hq), LI_F (F := mkD) (xs := fs) injMk (fun y => some (.bl (decide (acr y x ∨ acr x y)))) (fun M' hM => itSq (sq_ext hM (sqD_ref hq))) (fun y hy M' hM => ?_) ?_⟩
    · (first | (simp only [st_law_others_right]; try sizeOf_list_dec) | sizeOf_list_dec)
      exact ⟨y, x, rfl, of y hy, ox, rfl, rfl⟩
    rw [filterMap_some]
    refine ⟨_, fs.map fun y => decide (acr y x ∨ acr x y), rfl, by rw [List.map_map]; rfl, _, rfl, ?_⟩
    by_cases z : (fs.map fun y => decide (acr y x ∨ acr x y)).any id = false
    · rw [if_pos z]
      have z : ∀ y ∈ fs, ¬ (acr y x ∨ acr x y) := fun y hy w => by
        have := (List.any_eq_false.mp z) _ (List.mem_map.mpr ⟨y, hy, rfl⟩)
        simp [w] at this
      refine ⟨⟨_, sqX_ref hq⟩, _, hq, by rw [List.length_map, szl]; omega, ?_⟩
      rw [mup_mup]
      refine ⟨_, fs ++ [x], rfl, by rw [List.map_append]; rfl, fun m hm => ?_, ?_, ?_, by rw [List.length_append]; show fs.length + 1 ≤ i + 1; omega⟩
      · rw [List.take_add_one, hx]
        rcases List.mem_append.mp hm with hm | hm
        · exact List.mem_append_left _ (hin m hm)
        · exact List.mem_append_right _ hm
      · refine List.nodup_append.mpr ⟨hnd, by simp, fun a ha c hc e => ?_⟩
        have hc := List.mem_singleton.mp hc
        have := hin a ha
        rw [e, hc] at this
        have nx : x ∉ T.take i := fun y => by
          obtain ⟨j, hj⟩ := List.mem_iff_getElem?.mp y
          have jl := (List.getElem?_eq_some_iff.mp hj).1
          rw [List.length_take] at jl
          rw [List.getElem?_take_of_lt (by omega)] at hj
          have e1 := (List.getElem?_eq_some_iff.mp hj).2
          have e2 := (List.getElem?_eq_some_iff.mp hx).2
          have := (List.getElem_inj ndt).mp (e1.trans e2.symm)
          omega
        exact nx this
      · refine List.pairwise_append.mpr ⟨hpc, by simp, fun a ha c hc => ?_⟩
        rw [List.mem_singleton.mp hc]
        exact z a ha
    · rw [if_neg z]
      exact ⟨_, fs, rfl, rfl, fun m hm => by rw [List.take_add_one]; exact List.mem_append_left _ (hin m hm), hnd, hpc, by omega⟩
  rintro _ _ ⟨c3, fs, rfl, rfl, hin, hnd, hpc, hfl⟩
  sizeOf_list_dec
  have of : ∀ m ∈ fs, LW.okM m := fun m hm => okt m (List.mem_of_mem_take (hin m hm))
  have hq : mup M p (.lst (fs.map mkD)) p = some (.lst (fs.map mkD)) := mup_same
  refine ⟨_, fs, rfl, sqD_ref hq, by omega, (fun z => by obtain ⟨m, hm, z⟩ := z; exact absurd (of m hm) z), (fun _ z => absurd hnd z), (fun _ _ i j a c F => absurd F (noC_no hpc)), fun _ _ _ => ⟨_, rfl, rfl, ?_⟩⟩
  sizeOf_list_dec
  obtain ⟨Rs, hRs⟩ : ∃ Rs, rowsOf fs = Rs := ⟨_, rfl⟩
  obtain ⟨U, hU⟩ : ∃ U, unlikeOf fs = U := ⟨_, rfl⟩
  have rp := rowsOf_perm hnd
  have rw1 := rowsOf_pw fs
  have ul := unlike_rows hnd
  have up := unlikeOf_pw hnd
  have um : ∀ x ∈ unlikeOf fs, x ∈ fs := fun x hx => unlikeOf_mem hx
  rw [hRs] at rp rw1 ul
  rw [hU] at ul up um
  rw [hRs, hU]
  have frl : Rs.flatten.length = fs.length := rp.length_eq
  have Xp := X (.lst (fs.map mkD))
  have hb5 := Xp _ _ hb
  generalize mup M p (.lst (fs.map mkD)) = M5 at hq Xp hb5 ⊢
  let J2 : Nat → DG → Mp → Prop := fun j Γ2 M3 => (∃ c7 c8, Γ2 = [some (.ref b), some d, some (.ref p), c3, some (.lst (Rs.map fun r => .lst (r.map mkD))), some (.lst (U.map mkD)), some (.lst ((Rs.take j).flatten.map mkD)), c7, c8, none, none]) ∧ M5 = M3
  refine ⟨_, rfl, forBy (f := fun r : List Mk => D.lst (r.map mkD)) (xs := Rs) J2 ⟨⟨_, _, rfl⟩, rfl⟩ (fun _ _ _ _ => rfl) ?_ ?_⟩
  · rintro j r _ _ hr ⟨⟨c7, c8, rfl⟩, rfl⟩
    obtain ⟨rne, rpw⟩ := rw1 r (List.mem_of_getElem? hr)
    have rl : r.length ≤ fs.length := by
      rw [← frl]
      have : r.Sublist Rs.flatten := List.sublist_flatten_of_mem (List.mem_of_getElem? hr)
      exact this.length_le
    have r0 : 0 < r.length := List.length_pos_iff.mpr rne
    have tl : (Rs.take j).flatten.length ≤ fs.length := by
      rw [← frl]
      have := congrArg List.length (congrArg List.flatten (List.take_append_drop j Rs))
      rw [List.flatten_append, List.length_append] at this
      omega
    sizeOf_list_dec
    have e : ((r.length : Int) - 1).toNat = r.length - 1 := by omega
    rw [e]
    refine ⟨by unfold small; omega, LI_F (xs := List.range (r.length - 1)) (injRng (by omega)) (fun _ : Nat => some (.bl true)) (fun _ _ => trivial) (fun k hk M' hM => ?_) ?_⟩
    · have hk := List.mem_range.mp hk
      have ex : r[k]? = some r[k] := List.getElem?_eq_getElem (by omega)
      have ey : r[k + 1]? = some r[k + 1] := List.getElem?_eq_getElem (by omega)
      have uu := pw_next rpw ex ey
      generalize r[k] = x at ex uu
      generalize r[k + 1] = y at ey uu
      sizeOf_list_dec
      exact ⟨_, atMn ex, _, by rw [show ((k : Int) + 1) = ((k + 1 : Nat) : Int) by omega]; exact atMn ey, x, y, rfl, rfl, by rw [decide_eq_true uu]⟩
    rw [filterMap_some]
    refine ⟨_, (List.range (r.length - 1)).map fun _ => true, rfl, by rw [List.map_map]; rfl, _, rfl, ?_⟩
    rw [show ((List.range (r.length - 1)).map fun _ => true).all id = true from by rw [List.all_eq_true]; intro x hx; obtain ⟨_, _, rfl⟩ := List.mem_map.mp hx; rfl, if_neg (by decide)]
    rw [← List.map_append, ← take_flat hr]
    exact ⟨by rw [szl]; omega, ⟨_, _, rfl⟩, rfl⟩
  rintro _ _ ⟨⟨c7, c8, rfl⟩, rfl⟩
  rw [List.take_length]
  sizeOf_list_dec
  have sb := frl
  refine rdSortedMk (as := Rs.flatten) rfl fun L1 p1 pm1 pw1 hp1 => ⟨p1, rfl, _, mup_same, ?_⟩
  rw [mdel_mup hp1]
  refine rdSortedMk (as := fs) (sqD_ref hq) fun L2 p2 pm2 pw2 hp2 => ⟨p2, rfl, _, mup_same, ?_⟩
  rw [mdel_mup hp2]
  have eL : L1 = L2 := sorted_uniq mkLt_an (pm1.trans (rp.trans pm2.symm)) pw1 pw2
  refine neSS (f := mkD) lay_mkD (fun _ _ => deq_mkD _ _) rfl rfl (by decide) ⟨_, rfl, (fun z => by rw [decide_eq_true eL] at z; cases z), fun _ => ⟨fun z => absurd (by omega) z, fun _ => ?_⟩⟩
  have ull : U.length ≤ fs.length := by
    rw [ul, ← frl]
    have : ∀ Q : List (List Mk), (∀ r ∈ Q, r ≠ []) → Q.length ≤ Q.flatten.length := by
      intro Q
      induction Q with
      | nil => intro _; exact Nat.le_refl _
      | cons r Q ih =>
        intro hq
        have h1 := ih fun q hq2 => hq q (List.mem_cons_of_mem _ hq2)
        have h2 := List.length_pos_iff.mpr (hq r List.mem_cons_self)
        rw [List.flatten_cons, List.length_append, List.length_cons]
        omega
    exact this Rs fun r hr => (rw1 r hr).1
  refine ⟨_, _, rfl, rfl, by rw [List.length_map]; omega, ?_⟩
  rw [List.length_map]
  let J3 : DG → Mp → Prop := fun Γ2 M3 => (∃ c8 c9, Γ2 = [some (.ref b), some d, some (.ref p), c3, some (.lst (Rs.map fun r => .lst (r.map mkD))), some (.lst (U.map mkD)), some (.lst (Rs.flatten.map mkD)), c7, c8, c9, none]) ∧ M5 = M3
  refine ⟨_, rfl, forInv (f := spD) (xs := pairsTo U.length U.length) J3 ⟨⟨_, _, rfl⟩, rfl⟩ (fun _ _ _ => rfl) ?_ ?_⟩
  · rintro q _ _ hq2 ⟨⟨c8, c9, rfl⟩, rfl⟩
    obtain ⟨q1, q2, q3⟩ := mem_pairsTo hq2
    obtain ⟨a, ha, ga, ea⟩ := atJ (f := mkD) (xs := U) (i := q.1) q1 (by omega)
    obtain ⟨c, hc, gc, ec⟩ := atJ (f := mkD) (xs := U) (i := q.2) (by omega) q3
    have nu : ¬ und a c ∧ ¬ und c a := by
      obtain ⟨hi, e1⟩ := List.getElem?_eq_some_iff.mp ga
      obtain ⟨hj, e2⟩ := List.getElem?_eq_some_iff.mp gc
      have := List.pairwise_iff_getElem.mp up q.1.toNat q.2.toNat hi hj (by omega)
      rw [e1, e2] at this
      exact this
    sizeOf_list_dec
    refine ⟨_, ea, _, ec, a, c, rfl, _, rfl, (fun z => absurd (of_decide_eq_true z) nu.1), fun _ => ?_⟩
    refine ⟨_, ec, _, ea, c, a, rfl, _, rfl, (fun z => absurd (of_decide_eq_true z) nu.2), fun _ => ?_⟩
    exact ⟨⟨_, _, rfl⟩, rfl⟩
  rintro _ _ ⟨⟨c8, c9, rfl⟩, rfl⟩
  sizeOf_list_dec
  refine ⟨_, rfl, LI_F (F := mkD) (xs := U) injMk (fun _ => some (.bl true)) (fun _ _ => rfl) (fun x hx M' hM => ?_) ?_⟩
  · sizeOf_list_dec
    refine inDB (f := mkD) (x := x) (ys := fs) lay_mkD (fun _ _ => deq_mkD _ _) rfl (sq_ext hM (sqD_ref hq)) (by decide) fun b0 hb0 => ?_
    rw [hb0.mpr (um x hx)]
    exact ⟨rfl, rfl⟩
  rw [filterMap_some]
  refine ⟨_, U.map fun _ => true, rfl, by rw [List.map_map]; rfl, ?_⟩
  rw [show (U.map fun _ => true).all id = true from by rw [List.all_eq_true]; intro x hx; obtain ⟨_, _, rfl⟩ := List.mem_map.mp hx; rfl]
  exact Fin.lessE Xp h
theorem sc_law_refused : FnScope ["_law_marks_here", "_law_pair", "e"] ["_law_marks_here"] (defScope s_law_refused) := ⟨rfl, rfl, rfl, by decide +kernel, rfl, by decide +kernel, by decide +kernel⟩
def sp_law_refused : DSp := fun ds M Q _ => ∃ (d : D) (ms : List Mk), ds = [d] ∧ sqD M d = some (ms.map mkD) ∧ ms.length < 64 ∧ ((∃ m ∈ ms, ¬ okM m) → Q (.str "mark") M) ∧ ((∀ m ∈ ms, okM m) → ¬ ms.Nodup → Q (.str "mark") M) ∧ ((∀ m ∈ ms, okM m) → ms.Nodup → ∀ i j a b, FirstC ms i j a b → Q (pairC i j) M) ∧ ((∀ m ∈ ms, okM m) → ms.Nodup → (∀ i j, i < j → noC ms i j) → Q .non M)
theorem st_law_refused {a0 : D} : dstart ["_law_marks_here", "_law_pair", "e"] [a0] = [some a0, none, none] := rfl
theorem ok_law_refused (G : Glb P w K mg base C_BadMark C_Crossing C_Matching) (h_chains : Dfk P w K mg base T "chains" 6 ["marks"] (sp_chains C_BadMark C_Crossing C_Matching)) (Dd : DefAt K mg "_law_refused" s_law_refused ["_law_marks_here"]) : Dfk P w K mg base T "_law_refused" 7 ["_law_marks_here"] sp_law_refused := by
  refine DefAt.ok Dd sc_law_refused (fun ds M Q E h => by
    obtain ⟨_, _, rfl, _⟩ := h
    rfl) fun f cdv A outer s H E hr => ?_
  have tk : Takes (cxOf (L2.CX P w) P w K mg base ["_law_marks_here", "_law_pair", "e"] "_law_refused" (defScope s_law_refused) f cdv A outer s H E) (wOf T E).w := takes_of rfl rfl rfl rfl
  refine ⟨_, (dss_cons (ds_set 1 sc_law_refused.nd de_non)
      (dss_cons (ds_tryN rfl rfl sc_law_refused.nd tk (fun W1 pn xe tk1 => (dss_one (ds_expr (de_callA h_chains (hr.mono (by decide)) tk1 (da_cons (dv 0) da_nil))))) (HdsN.cons (i := 2) ⟨rfl, by decide, .inl G.y_Crossing⟩ rfl rfl (fun p oe cls d pn hz hf => (dss_one (ds_set 1 sc_law_refused.nd (de_xf (K := ⟨K, T⟩) rfl hz hf (dv 2))))) (HdsN.cons (i := 2) ⟨rfl, by decide, .inl G.y_BadMark⟩ rfl rfl (fun p oe cls d pn hz hf => (dss_one (ds_set 1 sc_law_refused.nd (de_xf (K := ⟨K, T⟩) rfl hz hf (dv 2))))) HdsN.nil)))
      (dss_one (ds_ret (dv 1))))), fun ds M Qd Ed h => ?_⟩
  obtain ⟨d, ms, rfl, hd, hl, h1, h2, h3, h⟩ := h
  (first | (simp only [st_law_refused]; try sizeOf_list_dec) | sizeOf_list_dec)
  refine ⟨d, ms, rfl, hd, hl, fun z => ?_, fun a b => ?_, fun a b i j x y z => ?_, fun a b c => Fin.same (h a b c)⟩
  · exact ⟨false, G.ow_BadMark_Crossing, (fun z => by cases z), fun _ => ⟨true, G.o_BadMark.one, fun _ p dd => ⟨_, rfl, G.o_BadMark.fld, G.o_BadMark.nof, _, rfl, _, rfl, Fin.same (h1 z)⟩, fun z => by cases z⟩⟩
  · exact ⟨false, G.ow_BadMark_Crossing, (fun z => by cases z), fun _ => ⟨true, G.o_BadMark.one, fun _ p dd => ⟨_, rfl, G.o_BadMark.fld, G.o_BadMark.nof, _, rfl, _, rfl, Fin.same (h2 a b)⟩, fun z => by cases z⟩⟩
  · exact ⟨true, G.o_Crossing.one, fun _ p dd => ⟨_, rfl, G.o_Crossing.fld, G.o_Crossing.nof, _, rfl, _, rfl, Fin.same (h3 a b i j x y z)⟩, fun z => by cases z⟩
theorem sc_law_first_cross : FnScope ["_law_marks_here", "_law_at", "_law_to"] ["_law_marks_here"] (defScope s_law_first_cross) := ⟨rfl, rfl, rfl, by decide +kernel, rfl, by decide +kernel, by decide +kernel⟩
def sp_law_first_cross : DSp := fun ds M Q _ => ∃ (d : D) (ms : List Mk), ds = [d] ∧ sqD M d = some (ms.map mkD) ∧ ms.length ≤ 1000 ∧ (∀ m ∈ ms, okM m) ∧ ((∀ i j, i < j → noC ms i j) → Q .non M) ∧ ∀ i j a b, FirstC ms i j a b → Q (pairC i j) M
theorem st_law_first_cross {a0 : D} : dstart ["_law_marks_here", "_law_at", "_law_to"] [a0] = [some a0, none, none] := rfl
theorem ok_law_first_cross (G : Glb P w K mg base C_BadMark C_Crossing C_Matching) (h_law_cross : Dfk P w K mg base T "_law_cross" 2 ["_law_one", "_law_two"] sp_law_cross) (h_law_pairs_of : Dfk P w K mg base T "_law_pairs_of" 1 ["_law_some"] sp_law_pairs_of) (Dd : DefAt K mg "_law_first_cross" s_law_first_cross ["_law_marks_here"]) : Dfk P w K mg base T "_law_first_cross" 3 ["_law_marks_here"] sp_law_first_cross := by
  refine DefAt.ok Dd sc_law_first_cross (fun ds M Q E h => by
    obtain ⟨_, _, rfl, _⟩ := h
    rfl) fun f cdv A outer s H E hr => ?_
  have tk : Takes (cxOf (L2.CX P w) P w K mg base ["_law_marks_here", "_law_at", "_law_to"] "_law_first_cross" (defScope s_law_first_cross) f cdv A outer s H E) (wOf T E).w := takes_of rfl rfl rfl rfl
  refine ⟨_, (dss_cons (ds_for (passes_of rfl) rfl (di_seq (de_callA h_law_pairs_of (hr.mono (by decide)) tk (da_cons (dv 0) da_nil))) (dg_tup (n := 2) rfl (dgs_cons (dg_name (i := 1) sc_law_first_cross.nd rfl (by first | exact Or.inl rfl | exact Or.inr rfl) (fun _ e => nomatch e)) (dgs_cons (dg_name (i := 2) sc_law_first_cross.nd rfl (by first | exact Or.inl rfl | exact Or.inr rfl) (fun _ e => nomatch e)) dgs_nil))) (dss_one (ds_if (dt_val (de_callA h_law_cross (hr.mono (by decide)) tk (da_cons (de_ix (dv 0) (dv 1)) (da_cons (de_ix (dv 0) (dv 2)) da_nil)))) (dss_one (ds_ret (de_tup (da_cons (dv 1) (da_cons (dv 2) da_nil))))) dss_nil)))
      (dss_one (ds_ret de_non))), fun ds M Qd Ed h => ?_⟩
  obtain ⟨d, ms, rfl, hd, hl, hok, hn, hf⟩ := h
  (first | (simp only [st_law_first_cross]; try sizeOf_list_dec) | sizeOf_list_dec)
  refine ⟨_, _, rfl, hd, by rw [List.length_map]; omega, ?_⟩
  rw [List.length_map]
  let I : Nat → DG → Mp → Prop := fun k Γ2 M2 => ∃ c1 c2, Γ2 = [some d, c1, c2] ∧ M = M2 ∧ ∀ p ∈ (pairsTo ms.length ms.length).take k, noC ms p.1.toNat p.2.toNat
  refine ⟨_, rfl, forBy I ⟨_, _, rfl, rfl, fun p hp => by simp at hp⟩ (fun _ _ _ _ => rfl) ?_ ?_⟩
  · rintro k p _ _ hk ⟨c1, c2, rfl, rfl, hal⟩
    have hp := List.mem_of_getElem? hk
    obtain ⟨hp1, hp2, hp3⟩ := mem_pairsTo hp
    obtain ⟨a, ha, ga, ea⟩ := atJ (f := mkD) (xs := ms) (i := p.1) hp1 (by omega)
    obtain ⟨c, hc, gc, ec⟩ := atJ (f := mkD) (xs := ms) (i := p.2) (by omega) hp3
    have oa := hok a ha
    have oc := hok c hc
    (first | (simp only [st_law_first_cross]; try sizeOf_list_dec) | sizeOf_list_dec)
    rw [ixSq hd, ixSq hd]
    refine ⟨_, ea, _, ec, ?_⟩
    (first | (simp only [st_law_first_cross]; try sizeOf_list_dec) | sizeOf_list_dec)
    refine ⟨a, c, rfl, oa, oc, ?_⟩
    refine ⟨_, rfl, fun h1 => ?_, fun h1 => ⟨_, _, rfl, rfl, fun q hq => ?_⟩⟩
    · have h1 := of_decide_eq_true h1
      refine Fin.same ?_
      have hf2 := hf p.1.toNat p.2.toNat a c ⟨by omega, ga, gc, h1, fun i' j' h2 h3 => ?_⟩
      · unfold pairC at hf2
        rw [Int.toNat_of_nonneg hp1, Int.toNat_of_nonneg (by omega : 0 ≤ p.2)] at hf2
        exact hf2
      · by_cases hj : j' < ms.length
        · have := hal _ (ahead (pairsTo_pw _ _) hk (pairsTo_mem h2 hj) (by unfold spLt; show (i' : Int) < p.1 ∨ ((i' : Int) = p.1 ∧ (j' : Int) < p.2); omega))
          simpa using this
        · intro a' b' _ eb
          rw [List.getElem?_eq_none (by omega)] at eb
          cases eb
    · have h1 := of_decide_eq_false h1
      rw [List.take_add_one, hk] at hq
      rcases List.mem_append.mp hq with hq | hq
      · exact hal q hq
      · obtain rfl : q = p := by simpa using hq
        intro a' b' ea' eb'
        rw [ga] at ea'
        rw [gc] at eb'
        cases ea'
        cases eb'
        exact h1
  · rintro _ _ ⟨c1, c2, rfl, rfl, hal⟩
    sizeOf_list_dec
    rw [List.take_length] at hal
    refine Fin.same (hn fun i j hij => ?_)
    by_cases hj : j < ms.length
    · have := hal _ (pairsTo_mem hij hj)
      simpa using this
    · intro a' b' _ eb
      rw [List.getElem?_eq_none (by omega)] at eb
      cases eb
theorem sc_law : FnScope ["_law_script", "_law_bag_here", "_law_asks_here", "_law_marks_here", "_law_kept", "_law_told_z", "_law_rows", "_law_unlike", "_law_every", "_law_row", "_law_more_marks", "_law_wide", "_law_words", "_law_mark", "_law_at", "_law_to", "_law_cell"] ["_law_script"] (defScope s_law) := ⟨rfl, rfl, rfl, by decide +kernel, rfl, by decide +kernel, by decide +kernel⟩
def sp_law : DSp := fun ds M Q _ => ∃ ns : List Int, ds = [.scr ns] ∧ ns.length ≤ 63 ∧ ∀ M2, Q (.bl true) M2
theorem st_law {a0 : D} : dstart ["_law_script", "_law_bag_here", "_law_asks_here", "_law_marks_here", "_law_kept", "_law_told_z", "_law_rows", "_law_unlike", "_law_every", "_law_row", "_law_more_marks", "_law_wide", "_law_words", "_law_mark", "_law_at", "_law_to", "_law_cell"] [a0] = [some a0, none, none, none, none, none, none, none, none, none, none, none, none, none, none, none, none] := rfl
theorem ok_law (G : Glb P w K mg base C_BadMark C_Crossing C_Matching) (h_law_asks : Dfk P w K mg base T "_law_asks" 3 ["_law_bag_here", "_law_size", "_law_most"] sp_law_asks) (h_law_bag : Dfk P w K mg base T "_law_bag" 1 ["_law_script"] sp_law_bag) (h_law_bound : Dfk P w K mg base T "_law_bound" 1 ["_law_one", "_law_two"] sp_law_bound) (h_law_essential : Dfk P w K mg base T "_law_essential" 3 ["_law_asks_here"] sp_law_essential) (h_law_first_cross : Dfk P w K mg base T "_law_first_cross" 3 ["_law_marks_here"] sp_law_first_cross) (h_law_others_right : Dfk P w K mg base T "_law_others_right" 7 ["_law_bag_here", "_law_asks_here"] sp_law_others_right) (h_law_pairs_of : Dfk P w K mg base T "_law_pairs_of" 1 ["_law_some"] sp_law_pairs_of) (h_law_refused : Dfk P w K mg base T "_law_refused" 7 ["_law_marks_here"] sp_law_refused) (h_law_same2 : Dfk P w K mg base T "_law_same" 3 ["_law_found", "_law_due"] sp_law_same2) (h_law_take : Dfk P w K mg base T "_law_take" 1 ["_law_bag_here", "_law_sides"] sp_law_take) (h_law_taken : Dfk P w K mg base T "_law_taken" 4 ["_law_asks_here"] sp_law_taken) (h_law_turned : Dfk P w K mg base T "_law_turned" 2 ["_law_bag_here", "_law_some"] sp_law_turned) (h_law_under : Dfk P w K mg base T "_law_under" 1 ["_law_one", "_law_two"] sp_law_under) (h_chains : Dfk P w K mg base T "chains" 6 ["marks"] (sp_chains C_BadMark C_Crossing C_Matching)) {f : Addr} {fd : FuncData} (Dd : FunK K "law" "law" s_law f fd) : FnOk P w K mg base (L2.CX P w) 8 f fd ["_law_script"] (spUp ⟨K, T⟩ sp_law) := by
  refine FunK.okS Dd sc_law (fun ds M Q E h => by
    obtain ⟨_, rfl, _⟩ := h
    rfl) fun cdv A outer s H E hr => ?_
  have tk : Takes (cxOf (L2.CX P w) P w K mg base ["_law_script", "_law_bag_here", "_law_asks_here", "_law_marks_here", "_law_kept", "_law_told_z", "_law_rows", "_law_unlike", "_law_every", "_law_row", "_law_more_marks", "_law_wide", "_law_words", "_law_mark", "_law_at", "_law_to", "_law_cell"] "law" (defScope s_law) f cdv A outer s H E) (wOf T E).w := takes_of rfl rfl rfl rfl
  refine ⟨_, (dss_cons (ds_set 1 sc_law.nd (de_callA h_law_bag (hr.mono (by decide)) tk (da_cons (dv 0) da_nil)))
      (dss_cons (ds_set 2 sc_law.nd (de_callA h_law_asks (hr.mono (by decide)) tk (da_cons (dv 1) (da_cons (de_op op_add3 real_add de_int (de_callA h_law_take (hr.mono (by decide)) tk (da_cons (dv 1) (da_cons de_int da_nil)))) (da_cons de_int da_nil)))))
      (dss_cons (ds_set 3 sc_law.nd (de_lcN (LcOk.mk (own := [("_law_mark", 13)]) rfl sc_law.nd (di_seq (de_callA h_law_turned (hr.mono (by decide)) tk (da_cons (dv 1) (da_cons (de_callA h_law_taken (hr.mono (by decide)) tk (da_cons (dv 2) da_nil)) da_nil)))) (blkOk_by (N := ["_law_script", "_law_bag_here", "_law_asks_here", "_law_marks_here", "_law_kept", "_law_told_z", "_law_rows", "_law_unlike", "_law_every", "_law_row", "_law_more_marks", "_law_wide", "_law_words", "_law_mark", "_law_at", "_law_to", "_law_cell"]) (sc := defScope s_law) (by decide +kernel)) (fun _ _ _ _ _ => (dg_name (i := 13) sc_law.nd rfl (by first | exact Or.inl rfl | exact Or.inr rfl) (fun _ e => by cases e; decide))) (fun _ _ _ _ _ => (dts_one (dt_cmp op_gt real_gt (de_callA h_law_take (hr.mono (by decide)) takes_none5 (da_cons (dv 1) (da_cons de_int da_nil))) de_int (nomark _)))) (fun _ _ _ _ _ => (dv 13)))))
      (dss_cons (ds_set 4 sc_law.nd (de_frz (de_callTy call_list_of real_list rfl G.n_list rfl (da_cons (dv 3) da_nil))))
      (dss_cons (ds_set 5 sc_law.nd (de_callA h_chains (hr.mono (by decide)) tk (da_cons (dv 3) da_nil)))
      (dss_cons (ds_if (dw_pt (dw_or (dt_not (dt_val (de_isi (c := "tuple") (dv 5) G.n_isinstance rfl G.n_tuple rfl))) (dw_or (dt_cmp (op_neD hr.units) real_ne (de_callB call_len real_len rfl G.n_len rfl (da_cons (dv 5) da_nil)) de_int (nomark _)) (dw_or1 (dt_cmp (op_neD hr.units) real_ne (dv 3) (dv 4) (nomark _)))))) (dss_one (ds_ret de_bl)) dss_nil)
      (dss_cons (ds_asg (dv 5) (dg_tup (n := 2) rfl (dgs_cons (dg_name (i := 6) sc_law.nd rfl (by first | exact Or.inl rfl | exact Or.inr rfl) (fun _ e => nomatch e)) (dgs_cons (dg_name (i := 7) sc_law.nd rfl (by first | exact Or.inl rfl | exact Or.inr rfl) (fun _ e => nomatch e)) dgs_nil))))
      (dss_cons (ds_if (dw_pt (dw_or (dt_not (dt_val (de_isi (c := "list") (dv 6) G.n_isinstance rfl G.n_list rfl))) (dw_or (dt_not (dt_val (de_isi (c := "list") (dv 7) G.n_isinstance rfl G.n_list rfl))) (dw_or1 (dt_cmp (op_neD hr.units) real_ne (de_callB call_len real_len rfl G.n_len rfl (da_cons (dv 6) da_nil)) (de_callB call_len real_len rfl G.n_len rfl (da_cons (dv 7) da_nil)) (nomark _)))))) (dss_one (ds_ret de_bl)) dss_nil)
      (dss_cons (ds_set 8 sc_law.nd (de_lst da_nil))
      (dss_cons (ds_for (passes_of rfl) rfl (di_seq (dv 6)) (dg_name (i := 9) sc_law.nd rfl (by first | exact Or.inl rfl | exact Or.inr rfl) (fun _ e => nomatch e)) (dss_cons (ds_if (dw_pt (dw_or (dt_not (dt_val (de_isi (c := "list") (dv 9) G.n_isinstance rfl G.n_list rfl))) (dw_or1 (dt_cmp (op_eqD hr.units) real_eq (de_callB call_len real_len rfl G.n_len rfl (da_cons (dv 9) da_nil)) de_int (nomark _))))) (dss_one (ds_ret de_bl)) dss_nil)
      (dss_cons (ds_if (dt_not (dt_val (de_callB (cr_all rfl) real_all rfl G.n_all rfl (da_cons (de_lcN (LcOk.mk (own := [("_law_at", 14)]) rfl sc_law.nd (di_rng1 rfl G.n_range (da_cons (de_op op_sub real_sub (de_callB call_len real_len rfl G.n_len rfl (da_cons (dv 9) da_nil)) de_int) da_nil)) (blkOk_by (N := ["_law_script", "_law_bag_here", "_law_asks_here", "_law_marks_here", "_law_kept", "_law_told_z", "_law_rows", "_law_unlike", "_law_every", "_law_row", "_law_more_marks", "_law_wide", "_law_words", "_law_mark", "_law_at", "_law_to", "_law_cell"]) (sc := defScope s_law) (by decide +kernel)) (fun _ _ _ _ _ => (dg_name (i := 14) sc_law.nd rfl (by first | exact Or.inl rfl | exact Or.inr rfl) (fun _ e => by cases e; decide))) (fun _ _ _ _ _ => dts_nil) (fun _ _ _ _ _ => (de_callA h_law_under (hr.mono (by decide)) takes_none5 (da_cons (de_ix (dv 9) (dv 14)) (da_cons (de_ix (dv 9) (de_op op_add3 real_add (dv 14) de_int)) da_nil)))))) da_nil)))) (dss_one (ds_ret de_bl)) dss_nil)
      (dss_one (ds_set 8 sc_law.nd (de_op op_add3 real_add (dv 8) (dv 9)))))))
      (dss_cons (ds_if (dw_pt (dw_or (dt_not (dt_val (de_callA h_law_same2 (hr.mono (by decide)) tk (da_cons (de_frz (de_sorted G.n_sorted rfl (da_cons (dv 8) da_nil))) (da_cons (de_frz (de_sorted G.n_sorted rfl (da_cons (dv 3) da_nil))) da_nil))))) (dw_or1 (dt_not (dt_val (de_callB (cr_all rfl) real_all rfl G.n_all rfl (da_cons (de_lcN (LcOk.mk (own := [("_law_mark", 13)]) rfl sc_law.nd (di_seq (dv 7)) (blkOk_by (N := ["_law_script", "_law_bag_here", "_law_asks_here", "_law_marks_here", "_law_kept", "_law_told_z", "_law_rows", "_law_unlike", "_law_every", "_law_row", "_law_more_marks", "_law_wide", "_law_words", "_law_mark", "_law_at", "_law_to", "_law_cell"]) (sc := defScope s_law) (by decide +kernel)) (fun _ _ _ _ _ => (dg_name (i := 13) sc_law.nd rfl (by first | exact Or.inl rfl | exact Or.inr rfl) (fun _ e => by cases e; decide))) (fun _ _ _ _ _ => dts_nil) (fun _ _ _ _ _ => (de_cmp (op_inD (Room.un65 hr)) real_in (dv 13) (dv 3) (by with_unfolding_all rfl))))) da_nil))))))) (dss_one (ds_ret de_bl)) dss_nil)
      (dss_cons (ds_if (dt_val (de_callB (cr_any rfl) real_any rfl G.n_any rfl (da_cons (de_lcN (LcOk.mk (own := [("_law_at", 14), ("_law_to", 15)]) rfl sc_law.nd (di_seq (de_callA h_law_pairs_of (hr.mono (by decide)) tk (da_cons (dv 7) da_nil))) (blkOk_by (N := ["_law_script", "_law_bag_here", "_law_asks_here", "_law_marks_here", "_law_kept", "_law_told_z", "_law_rows", "_law_unlike", "_law_every", "_law_row", "_law_more_marks", "_law_wide", "_law_words", "_law_mark", "_law_at", "_law_to", "_law_cell"]) (sc := defScope s_law) (by decide +kernel)) (fun _ _ _ _ _ => (dg_tup (n := 2) rfl (dgs_cons (dg_name (i := 14) sc_law.nd rfl (by first | exact Or.inl rfl | exact Or.inr rfl) (fun _ e => by cases e; decide)) (dgs_cons (dg_name (i := 15) sc_law.nd rfl (by first | exact Or.inl rfl | exact Or.inr rfl) (fun _ e => by cases e; decide)) dgs_nil)))) (fun _ _ _ _ _ => dts_nil) (fun _ _ _ _ _ => (de_callA h_law_bound (hr.mono (by decide)) takes_none5 (da_cons (de_ix (dv 7) (dv 14)) (da_cons (de_ix (dv 7) (dv 15)) da_nil)))))) da_nil))) (dss_one (ds_ret de_bl)) dss_nil)
      (dss_cons (ds_set 10 sc_law.nd (de_callA h_law_turned (hr.mono (by decide)) tk (da_cons (dv 1) (da_cons (de_callA h_law_essential (hr.mono (by decide)) tk (da_cons (dv 2) da_nil)) da_nil))))
      (dss_cons (ds_if (dt_cmp (op_neD hr.units) real_ne (de_callA h_law_refused (hr.mono (by decide)) tk (da_cons (dv 10) da_nil)) (de_callA h_law_first_cross (hr.mono (by decide)) tk (da_cons (dv 10) da_nil)) (nomark _)) (dss_one (ds_ret de_bl)) dss_nil)
      (dss_cons (ds_if (dw_pt (dw_and (dt_cmp (op_neD hr.units) real_ne (dv 10) (de_lst da_nil) (nomark _)) (dw_and1 (dt_cmp (op_neD hr.units) real_ne (de_callA h_law_refused (hr.mono (by decide)) tk (da_cons (de_op op_add3 real_add (dv 10) (de_sl (dv 10) do_none (do_some de_int))) da_nil)) de_str (nomark _))))) (dss_one (ds_ret de_bl)) dss_nil)
      (dss_cons (ds_if (dw_pt (dw_or (dt_not (dt_val (de_callA h_law_others_right (hr.mono (by decide)) tk (da_cons (dv 1) (da_cons (dv 2) da_nil))))) (dw_or1 (dt_cmp (op_neD hr.units) real_ne (de_callA h_law_refused (hr.mono (by decide)) tk (da_cons (de_op op_add3 real_add (dv 10) (de_lst (da_cons (de_tup (da_cons de_int (da_cons de_int (da_cons de_int da_nil)))) da_nil))) da_nil)) de_str (nomark _))))) (dss_one (ds_ret de_bl)) dss_nil)
      (dss_cons (ds_setLcN 11 (LcOk.mk (own := [("_law_cell", 16)]) rfl sc_law.nd (di_rng1 rfl G.n_range (da_cons de_int da_nil)) (blkOk_by (N := ["_law_script", "_law_bag_here", "_law_asks_here", "_law_marks_here", "_law_kept", "_law_told_z", "_law_rows", "_law_unlike", "_law_every", "_law_row", "_law_more_marks", "_law_wide", "_law_words", "_law_mark", "_law_at", "_law_to", "_law_cell"]) (sc := defScope s_law) (by decide +kernel)) (fun _ _ _ _ _ => (dg_name (i := 16) sc_law.nd rfl (by first | exact Or.inl rfl | exact Or.inr rfl) (fun _ e => by cases e; decide))) (fun _ _ _ _ _ => dts_nil) (fun _ _ _ _ _ => (de_tup (da_cons (dv 16) (da_cons de_int (da_cons de_int da_nil)))))) (sw_true rfl rfl rfl rfl))
      (dss_cons (ds_if (dt_cmp (op_neD hr.units) real_ne (de_ix (de_callA h_chains (hr.mono (by decide)) tk (da_cons (de_callA h_law_turned (hr.mono (by decide)) tk (da_cons (dv 1) (da_cons (dv 11) da_nil))) da_nil)) de_int) (de_lst (da_cons (dv 11) da_nil)) (nomark _)) (dss_one (ds_ret de_bl)) dss_nil)
      (dss_cons (ds_if (dt_cmp (op_eqD hr.units) real_eq (dv 3) (de_lst da_nil) (nomark _)) (dss_one (ds_ret (de_cmp (op_eqD hr.units) real_eq (dv 6) (de_lst da_nil) (nomark _)))) dss_nil)
      (dss_cons (ds_set 12 sc_law.nd (de_lst (da_cons (de_callA h_law_refused (hr.mono (by decide)) tk (da_cons (de_op op_add3 real_add (dv 3) (de_sl (dv 3) do_none (do_some de_int))) da_nil)) (da_cons (de_callA h_law_refused (hr.mono (by decide)) tk (da_cons (de_op op_add3 real_add (de_lst (da_cons (de_tup (da_cons de_int (da_cons de_int (da_cons de_int da_nil)))) da_nil)) (dv 3)) da_nil)) da_nil))))
      (dss_one (ds_ret (de_cmp (op_eqD hr.units) real_eq (dv 12) (de_lst (da_cons de_str (da_cons de_str da_nil))) (nomark _)))))))))))))))))))))))), fun ds M Qd Ed h => ?_⟩
  obtain ⟨ns, rfl, hl, h⟩ := h
  (first | (simp only [st_law]; try sizeOf_list_dec) | sizeOf_list_dec)
  refine ⟨ns, rfl, hl, fun b hb => ?_⟩
  (first | (simp only [st_law]; try sizeOf_list_dec) | sizeOf_list_dec)
  have hb2 : mup M b bagC b = some bagC := mup_same
  generalize mup M b bagC = M1 at hb2 ⊢
  refine ⟨b, _, rfl, hb2, by decide, by decide, fun r r0 r1 => ?_⟩
  (first | (simp only [st_law]; try sizeOf_list_dec) | sizeOf_list_dec)
  refine ⟨b, _, _, rfl, hb2, by omega, by omega, by decide, by decide, fun as al ao => ?_⟩
  have ao8 : ∀ s ∈ as, 0 ≤ s.1 ∧ s.1 < s.2 ∧ s.2 ≤ 8 := fun s hs => by have := ao s hs; omega
  have ok : ∀ s ∈ as, LW.okS s := fun s hs => by have := ao s hs; unfold LW.okS; omega
  refine ⟨_, as, rfl, rfl, by omega, ok, fun es he hel => ?_⟩
  have eel := ess_few he ao8
  have tel := takenOf_len es
  refine ⟨b, _, Mk, mkD, takenOf es, rfl, hb2, rfl, by omega, fun ts pm => ?_⟩
  refine ⟨_, rfl, LI_R (F := mkD) (xs := ts) injMk (fun x o => o = some (mkD x) ∨ o = none) (fun _ _ => rfl) (fun x hx M' hM => ?_) (fun os hos => ?_)⟩
  · sizeOf_list_dec
    refine ⟨b, 5, rfl, hM _ _ hb2, by decide, by decide, fun r r0 r1 => ?_⟩
    sizeOf_list_dec
    by_cases z : 0 < r
    · simp [z]
    · simp [z]
  obtain ⟨ms, hsub, ems⟩ := all2_sub hos
  rw [ems]
  have tml : ts.length ≤ 36 := by have := pm.length_eq; omega
  have mml : ms.length ≤ 36 := by have := hsub.length_le; omega
  refine ⟨_, _, rfl, rfl, fun p hp => ⟨p, rfl, _, mup_same, ?_⟩⟩
  rw [mdel_mup hp]
  have nd : ms.Nodup := (((pm.nodup_iff).mpr ((he.1.sublist (takenOf_sub es)).imp fun {a b} h e => by rw [e] at h; exact mkLt_irr h))).sublist hsub
  have mes : ∀ m ∈ ms, m ∈ es := fun m hm => (takenOf_sub es).subset (pm.mem_iff.mp (hsub.subset hm))
  have mok : ∀ m ∈ ms, LW.okM m := fun m hm => isEss_ok ((he.2 m).mp (mes m hm)) ok
  have mpc := taken_pw pm hsub
  refine ⟨_, ms, rfl, rfl, by omega, (fun z => by obtain ⟨m, hm, z⟩ := z; exact absurd (mok m hm) z), (fun _ z => absurd nd z), (fun _ _ i j a c F => absurd F (noC_no mpc)), fun _ _ _ => ?_⟩
  sizeOf_list_dec
  refine ⟨fun z => absurd rfl z, fun _ => ?_⟩
  refine neSS (f := mkD) lay_mkD (fun _ _ => deq_mkD _ _) rfl rfl (by decide) ⟨_, rfl, (fun z => by simp at z), fun _ => ⟨fun z => absurd (by rw [unlike_rows nd]) z, fun _ => ?_⟩⟩
  obtain ⟨Rs, hRs⟩ : ∃ Rs, rowsOf ms = Rs := ⟨_, rfl⟩
  obtain ⟨U, hU⟩ : ∃ U, unlikeOf ms = U := ⟨_, rfl⟩
  have rp := rowsOf_perm nd
  have rw1 := rowsOf_pw ms
  have ul := unlike_rows nd
  have up := unlikeOf_pw nd
  have um : ∀ x ∈ unlikeOf ms, x ∈ ms := fun x hx => unlikeOf_mem hx
  rw [hRs] at rp rw1 ul
  rw [hU] at ul up um
  rw [hRs, hU]
  have frl : Rs.flatten.length = ms.length := rp.length_eq
  let J2 : Nat → DG → Mp → Prop := fun j Γ2 M3 => (∃ c9, Γ2 = [some (.scr ns), some (.ref b), some (.lst (as.map spD)), some (.lst (ms.map mkD)), some (.lst (ms.map mkD)), some (.tup [.lst (Rs.map fun r => .lst (r.map mkD)), .lst (U.map mkD)]), some (.lst (Rs.map fun r => .lst (r.map mkD))), some (.lst (U.map mkD)), some (.lst ((Rs.take j).flatten.map mkD)), c9, none, none, none, none, none, none, none]) ∧ M1 = M3
  refine ⟨_, rfl, forBy (f := fun r : List Mk => D.lst (r.map mkD)) (xs := Rs) J2 ⟨⟨_, rfl⟩, rfl⟩ (fun _ _ _ _ => rfl) ?_ ?_⟩
  · rintro j r _ _ hr ⟨⟨c9, rfl⟩, rfl⟩
    obtain ⟨rne, rpw⟩ := rw1 r (List.mem_of_getElem? hr)
    have rl : r.length ≤ ms.length := by
      rw [← frl]
      have : r.Sublist Rs.flatten := List.sublist_flatten_of_mem (List.mem_of_getElem? hr)
      exact this.length_le
    have r0 : 0 < r.length := List.length_pos_iff.mpr rne
    have tl : (Rs.take j).flatten.length ≤ ms.length := by
      rw [← frl]
      have := congrArg List.length (congrArg List.flatten (List.take_append_drop j Rs))
      rw [List.flatten_append, List.length_append] at this
      omega
    sizeOf_list_dec
    refine ⟨fun z => absurd z (by omega), fun _ => ?_⟩
    have e : ((r.length : Int) - 1).toNat = r.length - 1 := by omega
    rw [e]
    refine ⟨by unfold small; omega, LI_F (xs := List.range (r.length - 1)) (injRng (by omega)) (fun _ : Nat => some (.bl true)) (fun _ _ => trivial) (fun k hk M' hM => ?_) ?_⟩
    · have hk := List.mem_range.mp hk
      have ex : r[k]? = some r[k] := List.getElem?_eq_getElem (by omega)
      have ey : r[k + 1]? = some r[k + 1] := List.getElem?_eq_getElem (by omega)
      have uu := pw_next rpw ex ey
      generalize r[k] = x at ex uu
      generalize r[k + 1] = y at ey uu
      sizeOf_list_dec
      exact ⟨_, atMn ex, _, by rw [show ((k : Int) + 1) = ((k + 1 : Nat) : Int) by omega]; exact atMn ey, x, y, rfl, rfl, by rw [decide_eq_true uu]⟩
    rw [filterMap_some]
    refine ⟨_, (List.range (r.length - 1)).map fun _ => true, rfl, by rw [List.map_map]; rfl, _, rfl, ?_⟩
    rw [show ((List.range (r.length - 1)).map fun _ => true).all id = true from by rw [List.all_eq_true]; intro x hx; obtain ⟨_, _, rfl⟩ := List.mem_map.mp hx; rfl, if_neg (by decide)]
    rw [← List.map_append, ← take_flat hr]
    exact ⟨by rw [szl]; omega, ⟨_, rfl⟩, rfl⟩
  rintro _ _ ⟨⟨c9, rfl⟩, rfl⟩
  rw [List.take_length]
  sizeOf_list_dec
  refine rdSortedMk (as := Rs.flatten) rfl fun L1 p1 pm1 pw1 hp1 => ⟨p1, rfl, _, mup_same, ?_⟩
  rw [mdel_mup hp1]
  refine rdSortedMk (as := ms) rfl fun L2 p2 pm2 pw2 hp2 => ⟨p2, rfl, _, mup_same, ?_⟩
  rw [mdel_mup hp2]
  have eL : L1 = L2 := sorted_uniq mkLt_an (pm1.trans (rp.trans pm2.symm)) pw1 pw2
  have l2l : L2.length ≤ 36 := by have := pm2.length_eq; omega
  have dL : dep 2 (.lst (L2.map mkD)) := dep_lst (fun a _ => dep_mkD) (by omega)
  refine ⟨_, _, rfl, by rw [eL]; exact dL, dL, sameT9 dL (by rw [eL]) ?_⟩
  rw [if_neg (by decide)]
  refine ⟨_, rfl, LI_F (F := mkD) (xs := U) injMk (fun _ => some (.bl true)) (fun _ _ => rfl) (fun x hx M' hM => ?_) ?_⟩
  · sizeOf_list_dec
    refine inDB (f := mkD) (x := x) (ys := ms) lay_mkD (fun _ _ => deq_mkD _ _) rfl rfl (by decide) fun b0 hb0 => ?_
    rw [hb0.mpr (um x hx)]
    exact ⟨rfl, rfl⟩
  rw [filterMap_some]
  refine ⟨_, U.map fun _ => true, rfl, by rw [List.map_map]; rfl, _, rfl, ?_⟩
  rw [show (U.map fun _ => true).all id = true from by rw [List.all_eq_true]; intro x hx; obtain ⟨_, _, rfl⟩ := List.mem_map.mp hx; rfl, if_neg (by decide)]
  have ull : U.length ≤ ms.length := by
    rw [ul, ← frl]
    have : ∀ Q : List (List Mk), (∀ r ∈ Q, r ≠ []) → Q.length ≤ Q.flatten.length := by
      intro Q
      induction Q with
      | nil => intro _; exact Nat.le_refl _
      | cons r Q ih =>
        intro hq
        have h1 := ih fun q hq2 => hq q (List.mem_cons_of_mem _ hq2)
        have h2 := List.length_pos_iff.mpr (hq r List.mem_cons_self)
        rw [List.flatten_cons, List.length_append, List.length_cons]
        omega
    exact this Rs fun r hr => (rw1 r hr).1
  refine ⟨_, _, rfl, rfl, by rw [List.length_map]; omega, ?_⟩
  rw [List.length_map]
  refine ⟨_, rfl, LI_F (F := spD) (xs := pairsTo U.length U.length) injSp (fun _ => some (.bl false)) (fun _ _ => rfl) (fun q hq2 M' hM => ?_) ?_⟩
  · obtain ⟨q1, q2, q3⟩ := mem_pairsTo hq2
    obtain ⟨a, ha, ga, ea⟩ := atJ (f := mkD) (xs := U) (i := q.1) q1 (by omega)
    obtain ⟨c, hc, gc, ec⟩ := atJ (f := mkD) (xs := U) (i := q.2) (by omega) q3
    have nu : ¬ und a c ∧ ¬ und c a := by
      obtain ⟨hi, e1⟩ := List.getElem?_eq_some_iff.mp ga
      obtain ⟨hj, e2⟩ := List.getElem?_eq_some_iff.mp gc
      have := List.pairwise_iff_getElem.mp up q.1.toNat q.2.toNat hi hj (by omega)
      rw [e1, e2] at this
      exact this
    have nx : ¬ acr a c ∧ ¬ acr c a := by
      have ha2 := um a ha
      have hc2 := um c hc
      have nac : a ≠ c := fun z => nu.1 (by rw [z]; exact und_refl _)
      obtain ⟨i1, g1⟩ := List.mem_iff_getElem?.mp ha2
      obtain ⟨i2, g2⟩ := List.mem_iff_getElem?.mp hc2
      rcases Nat.lt_trichotomy i1 i2 with z | z | z
      · have := noC_pw mpc i1 i2 z a c g1 g2
        exact ⟨fun w => this (.inl w), fun w => this (.inr w)⟩
      · rw [z, g2] at g1
        cases g1
        exact absurd rfl nac
      · have := noC_pw mpc i2 i1 z c a g2 g1
        exact ⟨fun w => this (.inr w), fun w => this (.inl w)⟩
    have nb : ¬ bnd a c := fun z => by
      rcases bound_under ((he.2 a).mp (mes a (um a ha))) ((he.2 c).mp (mes c (um c hc))) nx.1 nx.2 z with w | w
      · exact nu.1 w
      · exact nu.2 w
    have nb2 : ¬ (a.2.1 ≤ c.1 ∧ c.1 < a.2.2 ∧ c.2.1 ≤ a.1 ∧ a.1 < c.2.2) := fun z => nb (by
      have oa := mok a (um a ha)
      have oc := mok c (um c hc)
      unfold LW.okM at oa oc
      unfold bnd
      omega)
    sizeOf_list_dec
    exact ⟨_, ea, _, ec, a, c, rfl, rfl, congrArg D.bl (decide_eq_false nb2)⟩
  rw [filterMap_some]
  refine ⟨_, (pairsTo U.length U.length).map fun _ => false, rfl, by rw [List.map_map]; rfl, _, rfl, ?_⟩
  rw [show ((pairsTo U.length U.length).map fun _ => false).any id = false from by rw [List.any_eq_false]; intro x hx; obtain ⟨_, _, rfl⟩ := List.mem_map.mp hx; decide]
  refine ⟨(fun z => by cases z), fun _ => ?_⟩
  refine ⟨_, as, rfl, rfl, by omega, ok, fun e2 he2 hel2 => ?_⟩
  have eel2 := ess_few he2 ao8
  refine ⟨b, _, Mk, mkD, e2, rfl, hb2, rfl, by omega, fun us pu => ?_⟩
  sizeOf_list_dec
  have unl : us.length ≤ 36 := by have := pu.length_eq; omega
  have und1 : us.Nodup := (pu.nodup_iff).mpr (he2.1.imp fun {a b} h e => by rw [e] at h; exact mkLt_irr h)
  have uok : ∀ m ∈ us, LW.okM m := fun m hm => isEss_ok ((he2.2 m).mp (pu.mem_iff.mp hm)) ok
  have us64 : us.length < 64 := by omega
  have us1000 : us.length ≤ 1000 := by omega
  have nb9 : ¬ ∃ m ∈ us, ¬ LW.okM m := fun z => by obtain ⟨m, hm, z⟩ := z; exact z (uok m hm)
  have ul2 : (us ++ us.take 1).length < 64 := by rw [List.length_append, List.length_take]; omega
  have nb10 : ¬ ∃ m ∈ us ++ us.take 1, ¬ LW.okM m := fun z => by obtain ⟨m, hm, z⟩ := z; exact z (ok9 uok m hm)
  have xa2 : us.length + (us.take 1).length ≤ sizeLine := by rw [List.length_take, szl]; omega
  apply share9
  rotate_left
  · intro hY
    refine ⟨_, us, rfl, rfl, us64, (fun z => absurd z nb9), (fun _ z => absurd und1 z), (fun _ _ i j a c F => ?_), fun _ _ hn => ?_⟩
    · refine ⟨_, us, rfl, rfl, us1000, uok, (fun hn => absurd F.2.2.2.1 (hn i j F.1 a c F.2.1 F.2.2.1)), fun i2 j2 a2 c2 F2 => ?_⟩
      have eu := F.uniq F2
      exact nePC (.inr ⟨i, j, rfl⟩) (by rw [eu.1, eu.2]) ⟨_, rfl, (fun z => by cases z), fun _ => hY⟩
    · exact ⟨_, us, rfl, rfl, us1000, uok, (fun _ => nePC (.inl rfl) rfl ⟨_, rfl, (fun z => by cases z), fun _ => hY⟩), fun i j a c F => absurd F.2.2.2.1 (hn i j F.1 a c F.2.1 F.2.2.1)⟩
  apply share9
  rotate_left
  · intro hY
    refine neSS (f := mkD) (as := us) (bs := []) lay_mkD (fun _ _ => deq_mkD _ _) rfl rfl (by decide) ⟨_, rfl, fun zn => ?_, fun _ => hY⟩
    have une : us ≠ [] := fun z => by rw [z] at zn; cases zn
    refine rdSl_to (f := mkD) (xs := us) (n := 1) rfl ?_
    sizeOf_list_dec
    rw [← List.map_append]
    refine ⟨by simpa using xa2, ?_⟩
    exact ⟨_, us ++ us.take 1, rfl, rfl, ul2, (fun z => absurd z nb10), (fun _ _ => neMrk ⟨_, rfl, (fun z => by cases z), fun _ => hY⟩), (fun _ z => absurd z (dup9 une)), (fun _ z => absurd z (dup9 une))⟩
  refine ⟨b, _, as, rfl, hb2, rfl, by omega, ao8, _, rfl, ?_⟩
  rw [if_neg (by decide)]
  refine ⟨by rw [szl]; omega, ?_⟩
  have m9 : ((0, 1, 2) : Mk) ∈ us ++ [(0, 1, 2)] := by simp
  refine ⟨_, us ++ [(0, 1, 2)], rfl, by rw [List.map_append]; rfl, by rw [List.length_append]; show us.length + 1 < 64; omega, (fun _ => ?_), (fun z => bad9 m9 z), (fun z => bad9 m9 z), (fun z => bad9 m9 z)⟩
  refine neMrk ⟨_, rfl, (fun z => by cases z), fun _ => ?_⟩
  refine ⟨by unfold small; omega, LI_F (xs := List.range 61) (injRng (by omega)) (fun k : Nat => some (mkD ((k : Int), 0, 61))) (fun _ _ => trivial) (fun k hk M' hM => ?_) ?_⟩
  · sizeOf_list_dec
  rw [filterMap_some, wide_map]
  refine ⟨b, _, Mk, mkD, wide9, rfl, hb2, rfl, by decide, fun vs pv => ?_⟩
  sizeOf_list_dec
  refine ⟨_, vs, rfl, rfl, wide_len pv, (fun z => by obtain ⟨m, hm, z⟩ := z; exact absurd (wide_ok pv m hm) z), (fun _ z => absurd (wide_nd pv) z), (fun _ _ i j a c F => absurd F.2.2.2.1 (wide_no pv i j F.1 a c F.2.1 F.2.2.1)), fun _ _ _ => ?_⟩
  rw [wide_row pv]
  refine ⟨_, rfl, ?_⟩
  refine ne_rows ⟨_, rfl, (fun z => by cases z), fun _ => ?_⟩
  refine eqSS (f := mkD) (as := ms) (bs := []) lay_mkD (fun _ _ => deq_mkD _ _) rfl rfl (by decide) ⟨_, rfl, fun z => ?_, fun z => ?_⟩
  · have z := of_decide_eq_true z
    have rz : Rs = [] := by
      have m0 : ms.length = 0 := by rw [z]; rfl
      exact List.length_eq_zero_iff.mp (by omega)
    rw [rz]
    refine eqSS (f := fun r : List Mk => D.lst (r.map mkD)) (as := []) (bs := []) (fun r => lay_mapL lay_mkD r) (fun a b => deq_lstM (fun _ _ => deq_mkD _ _) a b) rfl rfl (by decide) ?_
    exact Fin.same (h _)
  have mne : ms ≠ [] := of_decide_eq_false z
  refine rdSl_to (f := mkD) (xs := ms) (n := 1) rfl ?_
  sizeOf_list_dec
  rw [← List.map_append]
  have ml2 : (ms ++ ms.take 1).length < 64 := by rw [List.length_append, List.length_take]; omega
  have nb11 : ¬ ∃ m ∈ ms ++ ms.take 1, ¬ LW.okM m := fun z => by obtain ⟨m, hm, z⟩ := z; exact z (ok9 mok m hm)
  refine ⟨by rw [szl, List.length_take]; omega, ?_⟩
  refine ⟨_, ms ++ ms.take 1, rfl, rfl, ml2, (fun z => absurd z nb11), (fun _ _ => ?_), (fun _ z => absurd z (dup9 mne)), (fun _ z => absurd z (dup9 mne))⟩
  refine ⟨by rw [szl]; omega, ?_⟩
  have m10 : ((0, 1, 2) : Mk) ∈ (0, 1, 2) :: ms := List.mem_cons_self
  refine ⟨_, (0, 1, 2) :: ms, rfl, rfl, by show ms.length + 1 < 64; omega, (fun _ => ?_), (fun z => bad9 m10 z), (fun z => bad9 m10 z), (fun z => bad9 m10 z)⟩
  exact eqMrk2 (Fin.same (h _))
end
theorem scc_LarderError : FnScope ["self", "word"] ["self", "word"] (defScope c_LarderError) := ⟨rfl, rfl, rfl, by decide +kernel, rfl, by decide +kernel, by decide +kernel⟩
theorem scc_BadMark : FnScope ["self"] ["self"] (defScope c_BadMark) := ⟨rfl, rfl, rfl, by decide +kernel, rfl, by decide +kernel, by decide +kernel⟩
theorem scc_Crossing : FnScope ["self", "pair"] ["self", "pair"] (defScope c_Crossing) := ⟨rfl, rfl, rfl, by decide +kernel, rfl, by decide +kernel, by decide +kernel⟩
theorem all_mk {l : PySem.W.OpenLaw} {w : World} {K : PySem.W.Frag} {h : Heap} {mg : Str → Option Value} {fa : Addr} (X : K.In h) (Gn : h.Ns mainGlobals mg) (hfa : mg "law" = some (.ref fa))
    {CBLarderError CPMatching CXBadMark CXCrossing DTXCrossing NXBadMark NXCrossing deXCrossing f0 f1 f10 f11 f12 f13 f14 f15 f16 f17 f18 f19 f2 f20 f21 f22 f23 f24 f25 f26 f27 f28 f29 f3 f30 f31 f32 f4 f5 f6 f7 f8 f9 fBLarderError fXBadMark fXCrossing : Addr} {abXBadMark abXCrossing : Bool} {an0 an1 an10 an11 an12 an13 an14 an15 an16 an17 an18 an19 an2 an20 an21 an22 an23 an24 an25 an26 an27 an28 an29 an3 an30 an31 an32 an4 an5 an6 an7 an8 an9 anBLarderError anXBadMark anXCrossing ddXBadMark ddXCrossing dpXCrossing od0 od1 od10 od11 od12 od13 od14 od15 od16 od17 od18 od19 od2 od20 od21 od22 od23 od24 od25 od26 od27 od28 od29 od3 od30 od31 od32 od4 od5 od6 od7 od8 od9 odBLarderError odXBadMark odXCrossing : Option Addr} {bmXBadMark bmXCrossing bsXBadMark bsXCrossing subXBadMark subXCrossing : List Value} {cd0 cd1 cd10 cd11 cd12 cd13 cd14 cd15 cd16 cd17 cd18 cd19 cd2 cd20 cd21 cd22 cd23 cd24 cd25 cd26 cd27 cd28 cd29 cd3 cd30 cd31 cd32 cd4 cd5 cd6 cd7 cd8 cd9 cdBLarderError cdXBadMark cdXCrossing ct0 ct1 ct10 ct11 ct12 ct13 ct14 ct15 ct16 ct17 ct18 ct19 ct2 ct20 ct21 ct22 ct23 ct24 ct25 ct26 ct27 ct28 ct29 ct3 ct30 ct31 ct32 ct4 ct5 ct6 ct7 ct8 ct9 ctBLarderError ctXBadMark ctXCrossing dc0 dc1 dc10 dc11 dc12 dc13 dc14 dc15 dc16 dc17 dc18 dc19 dc2 dc20 dc21 dc22 dc23 dc24 dc25 dc26 dc27 dc28 dc29 dc3 dc30 dc31 dc32 dc4 dc5 dc6 dc7 dc8 dc9 dcBLarderError dcXBadMark dcXCrossing doXCrossing kV0 kV1 kV10 kV11 kV12 kV13 kV14 kV15 kV16 kV17 kV18 kV19 kV2 kV20 kV21 kV22 kV23 kV24 kV25 kV26 kV27 kV28 kV29 kV3 kV30 kV31 kV32 kV4 kV5 kV6 kV7 kV8 kV9 kVBLarderError kVXBadMark kVXCrossing oc0 oc1 oc10 oc11 oc12 oc13 oc14 oc15 oc16 oc17 oc18 oc19 oc2 oc20 oc21 oc22 oc23 oc24 oc25 oc26 oc27 oc28 oc29 oc3 oc30 oc31 oc32 oc4 oc5 oc6 oc7 oc8 oc9 ocBLarderError ocXBadMark ocXCrossing pm0 pm1 pm10 pm11 pm12 pm13 pm14 pm15 pm16 pm17 pm18 pm19 pm2 pm20 pm21 pm22 pm23 pm24 pm25 pm26 pm27 pm28 pm29 pm3 pm30 pm31 pm32 pm4 pm5 pm6 pm7 pm8 pm9 pmBLarderError pmXBadMark pmXCrossing : Value} {colXBadMark colXCrossing : Option Bool} {dnXCrossing : Nat} {dqXCrossing sl0 sl1 sl10 sl11 sl12 sl13 sl14 sl15 sl16 sl17 sl18 sl19 sl2 sl20 sl21 sl22 sl23 sl24 sl25 sl26 sl27 sl28 sl29 sl3 sl30 sl31 sl32 sl4 sl5 sl6 sl7 sl8 sl9 slBLarderError slXBadMark slXCrossing : Array (Option Value)} {m0XBadMark m0XCrossing m1XBadMark m1XCrossing m2XBadMark m2XCrossing m3XBadMark m3XCrossing m5XBadMark m5XCrossing : Option Value} {nmXBadMark nmXCrossing qXBadMark qXCrossing : Str} {snXBadMark snXCrossing : List Str} {tCELLS : Tok}
    (aaPMatching : PySem.W.nsIn K mainGlobals "Matching" = some (some (.ref CPMatching)))
    (a0 : PySem.W.nsIn K mainGlobals "is_stretch" = some (some (.ref f0)))
    (l0 : K.lookup f0 = some ⟨oc0, od0, .func (PySem.W.fnOf "is_stretch" "is_stretch" (defArgs s_is_stretch) (defBody s_is_stretch) (defScope s_is_stretch) .none kV0 dc0 pm0 an0 cd0 ct0), sl0⟩)
    (c0 : PySem.W.codeIn K cd0 "is_stretch" = true)
    (k0 : PySem.W.keepIn K (.ref f0) = true)
    (a1 : PySem.W.nsIn K mainGlobals "look_mark" = some (some (.ref f1)))
    (l1 : K.lookup f1 = some ⟨oc1, od1, .func (PySem.W.fnOf "look_mark" "look_mark" (defArgs s_look_mark) (defBody s_look_mark) (defScope s_look_mark) .none kV1 dc1 pm1 an1 cd1 ct1), sl1⟩)
    (c1 : PySem.W.codeIn K cd1 "look_mark" = true)
    (k1 : PySem.W.keepIn K (.ref f1) = true)
    (a2 : PySem.W.nsIn K mainGlobals "are_bound" = some (some (.ref f2)))
    (l2 : K.lookup f2 = some ⟨oc2, od2, .func (PySem.W.fnOf "are_bound" "are_bound" (defArgs s_are_bound) (defBody s_are_bound) (defScope s_are_bound) .none kV2 dc2 pm2 an2 cd2 ct2), sl2⟩)
    (c2 : PySem.W.codeIn K cd2 "are_bound" = true)
    (k2 : PySem.W.keepIn K (.ref f2) = true)
    (a3 : PySem.W.nsIn K mainGlobals "go_across" = some (some (.ref f3)))
    (l3 : K.lookup f3 = some ⟨oc3, od3, .func (PySem.W.fnOf "go_across" "go_across" (defArgs s_go_across) (defBody s_go_across) (defScope s_go_across) .none kV3 dc3 pm3 an3 cd3 ct3), sl3⟩)
    (c3 : PySem.W.codeIn K cd3 "go_across" = true)
    (k3 : PySem.W.keepIn K (.ref f3) = true)
    (a4 : PySem.W.nsIn K mainGlobals "is_under" = some (some (.ref f4)))
    (l4 : K.lookup f4 = some ⟨oc4, od4, .func (PySem.W.fnOf "is_under" "is_under" (defArgs s_is_under) (defBody s_is_under) (defScope s_is_under) .none kV4 dc4 pm4 an4 cd4 ct4), sl4⟩)
    (c4 : PySem.W.codeIn K cd4 "is_under" = true)
    (k4 : PySem.W.keepIn K (.ref f4) = true)
    (a5 : PySem.W.nsIn K mainGlobals "look_marks" = some (some (.ref f5)))
    (l5 : K.lookup f5 = some ⟨oc5, od5, .func (PySem.W.fnOf "look_marks" "look_marks" (defArgs s_look_marks) (defBody s_look_marks) (defScope s_look_marks) .none kV5 dc5 pm5 an5 cd5 ct5), sl5⟩)
    (c5 : PySem.W.codeIn K cd5 "look_marks" = true)
    (k5 : PySem.W.keepIn K (.ref f5) = true)
    (mt6 : PySem.W.findIn K (.ref CPMatching) "reached" = some (some (.ref f6)))
    (l6 : K.lookup f6 = some ⟨oc6, od6, .func (PySem.W.fnOf "reached" "Matching.reached" (defArgs s_Matching_reached) (defBody s_Matching_reached) (defScope s_Matching_reached) .none kV6 dc6 pm6 an6 cd6 ct6), sl6⟩)
    (c6 : PySem.W.codeIn K cd6 "Matching.reached" = true)
    (k6 : PySem.W.keepIn K (.ref f6) = true)
    (mf6 : PySem.W.isFn K (.ref f6) = true)
    (mt7 : PySem.W.findIn K (.ref CPMatching) "widen" = some (some (.ref f7)))
    (l7 : K.lookup f7 = some ⟨oc7, od7, .func (PySem.W.fnOf "widen" "Matching.widen" (defArgs s_Matching_widen) (defBody s_Matching_widen) (defScope s_Matching_widen) .none kV7 dc7 pm7 an7 cd7 ct7), sl7⟩)
    (c7 : PySem.W.codeIn K cd7 "Matching.widen" = true)
    (k7 : PySem.W.keepIn K (.ref f7) = true)
    (mf7 : PySem.W.isFn K (.ref f7) = true)
    (mt8 : PySem.W.findIn K (.ref CPMatching) "__init__" = some (some (.ref f8)))
    (l8 : K.lookup f8 = some ⟨oc8, od8, .func (PySem.W.fnOf "__init__" "Matching.__init__" (defArgs s_Matching_init) (defBody s_Matching_init) (defScope s_Matching_init) .none kV8 dc8 pm8 an8 cd8 ct8), sl8⟩)
    (c8 : PySem.W.codeIn K cd8 "Matching.__init__" = true)
    (k8 : PySem.W.keepIn K (.ref f8) = true)
    (mf8 : PySem.W.isFn K (.ref f8) = true)
    (mt9 : PySem.W.findIn K (.ref CPMatching) "rows" = some (some (.ref f9)))
    (l9 : K.lookup f9 = some ⟨oc9, od9, .func (PySem.W.fnOf "rows" "Matching.rows" (defArgs s_Matching_rows) (defBody s_Matching_rows) (defScope s_Matching_rows) .none kV9 dc9 pm9 an9 cd9 ct9), sl9⟩)
    (c9 : PySem.W.codeIn K cd9 "Matching.rows" = true)
    (k9 : PySem.W.keepIn K (.ref f9) = true)
    (mf9 : PySem.W.isFn K (.ref f9) = true)
    (mt10 : PySem.W.findIn K (.ref CPMatching) "unlike" = some (some (.ref f10)))
    (l10 : K.lookup f10 = some ⟨oc10, od10, .func (PySem.W.fnOf "unlike" "Matching.unlike" (defArgs s_Matching_unlike) (defBody s_Matching_unlike) (defScope s_Matching_unlike) .none kV10 dc10 pm10 an10 cd10 ct10), sl10⟩)
    (c10 : PySem.W.codeIn K cd10 "Matching.unlike" = true)
    (k10 : PySem.W.keepIn K (.ref f10) = true)
    (mf10 : PySem.W.isFn K (.ref f10) = true)
    (a11 : PySem.W.nsIn K mainGlobals "chained" = some (some (.ref f11)))
    (l11 : K.lookup f11 = some ⟨oc11, od11, .func (PySem.W.fnOf "chained" "chained" (defArgs s_chained) (defBody s_chained) (defScope s_chained) .none kV11 dc11 pm11 an11 cd11 ct11), sl11⟩)
    (c11 : PySem.W.codeIn K cd11 "chained" = true)
    (k11 : PySem.W.keepIn K (.ref f11) = true)
    (a12 : PySem.W.nsIn K mainGlobals "chains" = some (some (.ref f12)))
    (l12 : K.lookup f12 = some ⟨oc12, od12, .func (PySem.W.fnOf "chains" "chains" (defArgs s_chains) (defBody s_chains) (defScope s_chains) .none kV12 dc12 pm12 an12 cd12 ct12), sl12⟩)
    (c12 : PySem.W.codeIn K cd12 "chains" = true)
    (k12 : PySem.W.keepIn K (.ref f12) = true)
    (a13 : PySem.W.nsIn K mainGlobals "_law_bag" = some (some (.ref f13)))
    (l13 : K.lookup f13 = some ⟨oc13, od13, .func (PySem.W.fnOf "_law_bag" "_law_bag" (defArgs s_law_bag) (defBody s_law_bag) (defScope s_law_bag) .none kV13 dc13 pm13 an13 cd13 ct13), sl13⟩)
    (c13 : PySem.W.codeIn K cd13 "_law_bag" = true)
    (k13 : PySem.W.keepIn K (.ref f13) = true)
    (a14 : PySem.W.nsIn K mainGlobals "_law_take" = some (some (.ref f14)))
    (l14 : K.lookup f14 = some ⟨oc14, od14, .func (PySem.W.fnOf "_law_take" "_law_take" (defArgs s_law_take) (defBody s_law_take) (defScope s_law_take) .none kV14 dc14 pm14 an14 cd14 ct14), sl14⟩)
    (c14 : PySem.W.codeIn K cd14 "_law_take" = true)
    (k14 : PySem.W.keepIn K (.ref f14) = true)
    (a15 : PySem.W.nsIn K mainGlobals "_law_of" = some (some (.ref f15)))
    (l15 : K.lookup f15 = some ⟨oc15, od15, .func (PySem.W.fnOf "_law_of" "_law_of" (defArgs s_law_of) (defBody s_law_of) (defScope s_law_of) .none kV15 dc15 pm15 an15 cd15 ct15), sl15⟩)
    (c15 : PySem.W.codeIn K cd15 "_law_of" = true)
    (k15 : PySem.W.keepIn K (.ref f15) = true)
    (a16 : PySem.W.nsIn K mainGlobals "_law_turned" = some (some (.ref f16)))
    (l16 : K.lookup f16 = some ⟨oc16, od16, .func (PySem.W.fnOf "_law_turned" "_law_turned" (defArgs s_law_turned) (defBody s_law_turned) (defScope s_law_turned) .none kV16 dc16 pm16 an16 cd16 ct16), sl16⟩)
    (c16 : PySem.W.codeIn K cd16 "_law_turned" = true)
    (k16 : PySem.W.keepIn K (.ref f16) = true)
    (a17 : PySem.W.nsIn K mainGlobals "_law_same" = some (some (.ref f17)))
    (l17 : K.lookup f17 = some ⟨oc17, od17, .func (PySem.W.fnOf "_law_same" "_law_same" (defArgs s_law_same) (defBody s_law_same) (defScope s_law_same) .none kV17 dc17 pm17 an17 cd17 ct17), sl17⟩)
    (c17 : PySem.W.codeIn K cd17 "_law_same" = true)
    (k17 : PySem.W.keepIn K (.ref f17) = true)
    (a18 : PySem.W.nsIn K mainGlobals "_law_asks" = some (some (.ref f18)))
    (l18 : K.lookup f18 = some ⟨oc18, od18, .func (PySem.W.fnOf "_law_asks" "_law_asks" (defArgs s_law_asks) (defBody s_law_asks) (defScope s_law_asks) .none kV18 dc18 pm18 an18 cd18 ct18), sl18⟩)
    (c18 : PySem.W.codeIn K cd18 "_law_asks" = true)
    (k18 : PySem.W.keepIn K (.ref f18) = true)
    (a19 : PySem.W.nsIn K mainGlobals "_law_rising" = some (some (.ref f19)))
    (l19 : K.lookup f19 = some ⟨oc19, od19, .func (PySem.W.fnOf "_law_rising" "_law_rising" (defArgs s_law_rising) (defBody s_law_rising) (defScope s_law_rising) .none kV19 dc19 pm19 an19 cd19 ct19), sl19⟩)
    (c19 : PySem.W.codeIn K cd19 "_law_rising" = true)
    (k19 : PySem.W.keepIn K (.ref f19) = true)
    (a20 : PySem.W.nsIn K mainGlobals "_law_marks" = some (some (.ref f20)))
    (l20 : K.lookup f20 = some ⟨oc20, od20, .func (PySem.W.fnOf "_law_marks" "_law_marks" (defArgs s_law_marks) (defBody s_law_marks) (defScope s_law_marks) .none kV20 dc20 pm20 an20 cd20 ct20), sl20⟩)
    (c20 : PySem.W.codeIn K cd20 "_law_marks" = true)
    (k20 : PySem.W.keepIn K (.ref f20) = true)
    (a21 : PySem.W.nsIn K mainGlobals "_law_least_ask" = some (some (.ref f21)))
    (l21 : K.lookup f21 = some ⟨oc21, od21, .func (PySem.W.fnOf "_law_least_ask" "_law_least_ask" (defArgs s_law_least_ask) (defBody s_law_least_ask) (defScope s_law_least_ask) .none kV21 dc21 pm21 an21 cd21 ct21), sl21⟩)
    (c21 : PySem.W.codeIn K cd21 "_law_least_ask" = true)
    (k21 : PySem.W.keepIn K (.ref f21) = true)
    (a22 : PySem.W.nsIn K mainGlobals "_law_essential" = some (some (.ref f22)))
    (l22 : K.lookup f22 = some ⟨oc22, od22, .func (PySem.W.fnOf "_law_essential" "_law_essential" (defArgs s_law_essential) (defBody s_law_essential) (defScope s_law_essential) .none kV22 dc22 pm22 an22 cd22 ct22), sl22⟩)
    (c22 : PySem.W.codeIn K cd22 "_law_essential" = true)
    (k22 : PySem.W.keepIn K (.ref f22) = true)
    (a23 : PySem.W.nsIn K mainGlobals "_law_bound" = some (some (.ref f23)))
    (l23 : K.lookup f23 = some ⟨oc23, od23, .func (PySem.W.fnOf "_law_bound" "_law_bound" (defArgs s_law_bound) (defBody s_law_bound) (defScope s_law_bound) .none kV23 dc23 pm23 an23 cd23 ct23), sl23⟩)
    (c23 : PySem.W.codeIn K cd23 "_law_bound" = true)
    (k23 : PySem.W.keepIn K (.ref f23) = true)
    (a24 : PySem.W.nsIn K mainGlobals "_law_left" = some (some (.ref f24)))
    (l24 : K.lookup f24 = some ⟨oc24, od24, .func (PySem.W.fnOf "_law_left" "_law_left" (defArgs s_law_left) (defBody s_law_left) (defScope s_law_left) .none kV24 dc24 pm24 an24 cd24 ct24), sl24⟩)
    (c24 : PySem.W.codeIn K cd24 "_law_left" = true)
    (k24 : PySem.W.keepIn K (.ref f24) = true)
    (a25 : PySem.W.nsIn K mainGlobals "_law_cross" = some (some (.ref f25)))
    (l25 : K.lookup f25 = some ⟨oc25, od25, .func (PySem.W.fnOf "_law_cross" "_law_cross" (defArgs s_law_cross) (defBody s_law_cross) (defScope s_law_cross) .none kV25 dc25 pm25 an25 cd25 ct25), sl25⟩)
    (c25 : PySem.W.codeIn K cd25 "_law_cross" = true)
    (k25 : PySem.W.keepIn K (.ref f25) = true)
    (a26 : PySem.W.nsIn K mainGlobals "_law_under" = some (some (.ref f26)))
    (l26 : K.lookup f26 = some ⟨oc26, od26, .func (PySem.W.fnOf "_law_under" "_law_under" (defArgs s_law_under) (defBody s_law_under) (defScope s_law_under) .none kV26 dc26 pm26 an26 cd26 ct26), sl26⟩)
    (c26 : PySem.W.codeIn K cd26 "_law_under" = true)
    (k26 : PySem.W.keepIn K (.ref f26) = true)
    (a27 : PySem.W.nsIn K mainGlobals "_law_taken" = some (some (.ref f27)))
    (l27 : K.lookup f27 = some ⟨oc27, od27, .func (PySem.W.fnOf "_law_taken" "_law_taken" (defArgs s_law_taken) (defBody s_law_taken) (defScope s_law_taken) .none kV27 dc27 pm27 an27 cd27 ct27), sl27⟩)
    (c27 : PySem.W.codeIn K cd27 "_law_taken" = true)
    (k27 : PySem.W.keepIn K (.ref f27) = true)
    (a28 : PySem.W.nsIn K mainGlobals "_law_pairs_of" = some (some (.ref f28)))
    (l28 : K.lookup f28 = some ⟨oc28, od28, .func (PySem.W.fnOf "_law_pairs_of" "_law_pairs_of" (defArgs s_law_pairs_of) (defBody s_law_pairs_of) (defScope s_law_pairs_of) .none kV28 dc28 pm28 an28 cd28 ct28), sl28⟩)
    (c28 : PySem.W.codeIn K cd28 "_law_pairs_of" = true)
    (k28 : PySem.W.keepIn K (.ref f28) = true)
    (a29 : PySem.W.nsIn K mainGlobals "_law_others_right" = some (some (.ref f29)))
    (l29 : K.lookup f29 = some ⟨oc29, od29, .func (PySem.W.fnOf "_law_others_right" "_law_others_right" (defArgs s_law_others_right) (defBody s_law_others_right) (defScope s_law_others_right) .none kV29 dc29 pm29 an29 cd29 ct29), sl29⟩)
    (c29 : PySem.W.codeIn K cd29 "_law_others_right" = true)
    (k29 : PySem.W.keepIn K (.ref f29) = true)
    (a30 : PySem.W.nsIn K mainGlobals "_law_refused" = some (some (.ref f30)))
    (l30 : K.lookup f30 = some ⟨oc30, od30, .func (PySem.W.fnOf "_law_refused" "_law_refused" (defArgs s_law_refused) (defBody s_law_refused) (defScope s_law_refused) .none kV30 dc30 pm30 an30 cd30 ct30), sl30⟩)
    (c30 : PySem.W.codeIn K cd30 "_law_refused" = true)
    (k30 : PySem.W.keepIn K (.ref f30) = true)
    (a31 : PySem.W.nsIn K mainGlobals "_law_first_cross" = some (some (.ref f31)))
    (l31 : K.lookup f31 = some ⟨oc31, od31, .func (PySem.W.fnOf "_law_first_cross" "_law_first_cross" (defArgs s_law_first_cross) (defBody s_law_first_cross) (defScope s_law_first_cross) .none kV31 dc31 pm31 an31 cd31 ct31), sl31⟩)
    (c31 : PySem.W.codeIn K cd31 "_law_first_cross" = true)
    (k31 : PySem.W.keepIn K (.ref f31) = true)
    (a32 : PySem.W.nsIn K mainGlobals "law" = some (some (.ref f32)))
    (l32 : K.lookup f32 = some ⟨oc32, od32, .func (PySem.W.fnOf "law" "law" (defArgs s_law) (defBody s_law) (defScope s_law) .none kV32 dc32 pm32 an32 cd32 ct32), sl32⟩)
    (c32 : PySem.W.codeIn K cd32 "law" = true)
    (k32 : PySem.W.keepIn K (.ref f32) = true)
    (aBLarderError : PySem.W.nsIn K mainGlobals "LarderError" = some (some (.ref CBLarderError)))
    (rdBLarderError : PySem.W.readsIn K CBLarderError (.type "type") = true)
    (gaBLarderError : PySem.W.specialIn K (.ref CBLarderError) "__getattribute__" = some (some (.builtin "type.__getattribute__")))
    (kkBLarderError : PySem.W.findCls K (.ref CBLarderError) (.type "type") "__init__" = some (.val (.ref fBLarderError)))
    (lBLarderError : K.lookup fBLarderError = some ⟨ocBLarderError, odBLarderError, .func (PySem.W.fnOf "__init__" "LarderError.__init__" (defArgs c_LarderError) (defBody c_LarderError) (defScope c_LarderError) .none kVBLarderError dcBLarderError pmBLarderError anBLarderError cdBLarderError ctBLarderError), slBLarderError⟩)
    (cBLarderError : PySem.W.codeIn K cdBLarderError "LarderError.__init__" = true)
    (kBLarderError : PySem.W.keepIn K (.ref fBLarderError) = true)
    (aXBadMark : PySem.W.nsIn K mainGlobals "BadMark" = some (some (.ref CXBadMark)))
    (xlXBadMark : K.lookup CXBadMark = some (excClassObj nmXBadMark qXBadMark CXBadMark NXBadMark bsXBadMark bmXBadMark true snXBadMark subXBadMark abXBadMark colXBadMark ddXBadMark m0XBadMark m1XBadMark m2XBadMark m3XBadMark m5XBadMark "ValueError.__new__"))
    (xrXBadMark : PySem.HandSPX.refsVE bmXBadMark = true)
    (saXBadMark : PySem.W.findIn K (.ref CXBadMark) "__setattr__" = some (some (.builtin "object.__setattr__")))
    (ecXBadMark : PySem.W.subIn K (.ref CXBadMark) (.type "BaseException") = some true)
    (tyXBadMark : PySem.W.typeIn K (.ref CXBadMark) = some (.type "type"))
    (kcXBadMark : PySem.W.keepIn K (.ref CXBadMark) = true)
    (niXBadMark : PySem.W.findIn K (.ref CXBadMark) "__init__" = some (some (.ref fXBadMark)))
    (tiXBadMark : PySem.W.typeIn K (.ref fXBadMark) = some (.type "function"))
    (nwXBadMark : PySem.W.findIn K (.ref CXBadMark) "word" = some none)
    (oeXBadMark : PySem.W.subIn K (.ref CXBadMark) (.ref CXBadMark) = some true)
    (fgXBadMark : PySem.W.findIn K (.ref CXBadMark) "__getattribute__" = some (some (.builtin "BaseException.__getattribute__")))
    (fhXBadMark : PySem.W.findIn K (.ref CXBadMark) "__getattr__" = some none)
    (hdXBadMark : PySem.W.hasDictIn K CXBadMark = true)
    (lXBadMark : K.lookup fXBadMark = some ⟨ocXBadMark, odXBadMark, .func (PySem.W.fnOf "__init__" "BadMark.__init__" (defArgs c_BadMark) (defBody c_BadMark) (defScope c_BadMark) .none kVXBadMark dcXBadMark pmXBadMark anXBadMark cdXBadMark ctXBadMark), slXBadMark⟩)
    (cXBadMark : PySem.W.codeIn K cdXBadMark "BadMark.__init__" = true)
    (kXBadMark : PySem.W.keepIn K (.ref fXBadMark) = true)
    (aXCrossing : PySem.W.nsIn K mainGlobals "Crossing" = some (some (.ref CXCrossing)))
    (xlXCrossing : K.lookup CXCrossing = some (excClassObj nmXCrossing qXCrossing CXCrossing NXCrossing bsXCrossing bmXCrossing true snXCrossing subXCrossing abXCrossing colXCrossing ddXCrossing m0XCrossing m1XCrossing m2XCrossing m3XCrossing m5XCrossing "ValueError.__new__"))
    (xrXCrossing : PySem.HandSPX.refsVE bmXCrossing = true)
    (saXCrossing : PySem.W.findIn K (.ref CXCrossing) "__setattr__" = some (some (.builtin "object.__setattr__")))
    (ecXCrossing : PySem.W.subIn K (.ref CXCrossing) (.type "BaseException") = some true)
    (tyXCrossing : PySem.W.typeIn K (.ref CXCrossing) = some (.type "type"))
    (kcXCrossing : PySem.W.keepIn K (.ref CXCrossing) = true)
    (niXCrossing : PySem.W.findIn K (.ref CXCrossing) "__init__" = some (some (.ref fXCrossing)))
    (tiXCrossing : PySem.W.typeIn K (.ref fXCrossing) = some (.type "function"))
    (nwXCrossing : PySem.W.findIn K (.ref CXCrossing) "word" = some none)
    (oeXCrossing : PySem.W.subIn K (.ref CXCrossing) (.ref CXCrossing) = some true)
    (fgXCrossing : PySem.W.findIn K (.ref CXCrossing) "__getattribute__" = some (some (.builtin "BaseException.__getattribute__")))
    (fhXCrossing : PySem.W.findIn K (.ref CXCrossing) "__getattr__" = some none)
    (hdXCrossing : PySem.W.hasDictIn K CXCrossing = true)
    (lXCrossing : K.lookup fXCrossing = some ⟨ocXCrossing, odXCrossing, .func (PySem.W.fnOf "__init__" "Crossing.__init__" (defArgs c_Crossing) (defBody c_Crossing) (defScope c_Crossing) (.ref DTXCrossing) kVXCrossing dcXCrossing pmXCrossing anXCrossing cdXCrossing ctXCrossing), slXCrossing⟩)
    (cXCrossing : PySem.W.codeIn K cdXCrossing "Crossing.__init__" = true)
    (kXCrossing : PySem.W.keepIn K (.ref fXCrossing) = true)
    (dlXCrossing : K.lookup DTXCrossing = some ⟨doXCrossing, dpXCrossing, .seq #[.ref deXCrossing] dnXCrossing, dqXCrossing⟩)
    (nyXCrossing : PySem.W.findIn K (.ref CXCrossing) "pair" = some none)
    (gCELLS : PySem.W.nsIn K mainGlobals "CELLS" = some (some (.int 400 tCELLS)))
    (gabs : PySem.W.nsIn K mainGlobals "abs" = some none)
    (gall : PySem.W.nsIn K mainGlobals "all" = some none)
    (gany : PySem.W.nsIn K mainGlobals "any" = some none)
    (gbool : PySem.W.nsIn K mainGlobals "bool" = some none)
    (genumerate : PySem.W.nsIn K mainGlobals "enumerate" = some none)
    (gint : PySem.W.nsIn K mainGlobals "int" = some none)
    (gisinstance : PySem.W.nsIn K mainGlobals "isinstance" = some none)
    (glen : PySem.W.nsIn K mainGlobals "len" = some none)
    (glist : PySem.W.nsIn K mainGlobals "list" = some none)
    (gmax : PySem.W.nsIn K mainGlobals "max" = some none)
    (gmin : PySem.W.nsIn K mainGlobals "min" = some none)
    (grange : PySem.W.nsIn K mainGlobals "range" = some none)
    (gset : PySem.W.nsIn K mainGlobals "set" = some none)
    (gsorted : PySem.W.nsIn K mainGlobals "sorted" = some none)
    (gstr : PySem.W.nsIn K mainGlobals "str" = some none)
    (gtuple : PySem.W.nsIn K mainGlobals "tuple" = some none)
    (gzip : PySem.W.nsIn K mainGlobals "zip" = some none)
    (onXBadMarkXCrossing : PySem.W.subIn K (.ref CXBadMark) (.ref CXCrossing) = some false)
    (onXCrossingXBadMark : PySem.W.subIn K (.ref CXCrossing) (.ref CXBadMark) = some false)
    (pgPMatching : PySem.W.plainGet K CPMatching Str.empty = true)
    (hdPMatching : PySem.W.hasDictIn K CPMatching = true)
    (poPMatching : PySem.W.plainOver K CPMatching = true)
    (saPMatching : PySem.W.findIn K (.ref CPMatching) "__setattr__" = some (some (.builtin "object.__setattr__")))
    (naMatchingabove : PySem.W.findIn K (.ref CPMatching) "above" = some none)
    (naMatchingbelow : PySem.W.findIn K (.ref CPMatching) "below" = some none)
    (naMatchingups : PySem.W.findIn K (.ref CPMatching) "ups" = some none)
    (miPMatching : PySem.W.makesIn K CPMatching = true)
    (kcPMatching : PySem.W.keepIn K (.ref CPMatching) = true)
    : ∃ fd : FuncData, (∀ (s : Shared) (v : Value), BindsTo s fd ⟨[v], []⟩ [("_law_script", v)]) ∧ ∀ base : Heap, K.In base → base.Ns mainGlobals mg → FnOk l.prog w K mg base (L2.CX l.prog w) 8 fa fd ["_law_script"] (spUp ⟨K, []⟩ (sp_law)) := by
  have e := hfa.symm.trans (PySem.W.mg_of X Gn a32)
  cases e
  have F0 := fun_mk (st := s_is_stretch) l0 c0 k0
  have b0 := F0.binds (ps := ["one"]) fun _ _ _ _ _ _ us hl => match us, hl with | [_], _ => rfl
  have D0 : DefAt K mg "is_stretch" s_is_stretch ["one"] := ⟨⟨_, _, PySem.W.mg_of X Gn a0, FunK.of F0, b0⟩⟩
  have F1 := fun_mk (st := s_look_mark) l1 c1 k1
  have b1 := F1.binds (ps := ["mark"]) fun _ _ _ _ _ _ us hl => match us, hl with | [_], _ => rfl
  have D1 : DefAt K mg "look_mark" s_look_mark ["mark"] := ⟨⟨_, _, PySem.W.mg_of X Gn a1, FunK.of F1, b1⟩⟩
  have F2 := fun_mk (st := s_are_bound) l2 c2 k2
  have b2 := F2.binds (ps := ["one", "two"]) fun _ _ _ _ _ _ us hl => match us, hl with | [_, _], _ => rfl
  have D2 : DefAt K mg "are_bound" s_are_bound ["one", "two"] := ⟨⟨_, _, PySem.W.mg_of X Gn a2, FunK.of F2, b2⟩⟩
  have F3 := fun_mk (st := s_go_across) l3 c3 k3
  have b3 := F3.binds (ps := ["one", "two"]) fun _ _ _ _ _ _ us hl => match us, hl with | [_, _], _ => rfl
  have D3 : DefAt K mg "go_across" s_go_across ["one", "two"] := ⟨⟨_, _, PySem.W.mg_of X Gn a3, FunK.of F3, b3⟩⟩
  have F4 := fun_mk (st := s_is_under) l4 c4 k4
  have b4 := F4.binds (ps := ["one", "two"]) fun _ _ _ _ _ _ us hl => match us, hl with | [_, _], _ => rfl
  have D4 : DefAt K mg "is_under" s_is_under ["one", "two"] := ⟨⟨_, _, PySem.W.mg_of X Gn a4, FunK.of F4, b4⟩⟩
  have F5 := fun_mk (st := s_look_marks) l5 c5 k5
  have b5 := F5.binds (ps := ["marks"]) fun _ _ _ _ _ _ us hl => match us, hl with | [_], _ => rfl
  have D5 : DefAt K mg "look_marks" s_look_marks ["marks"] := ⟨⟨_, _, PySem.W.mg_of X Gn a5, FunK.of F5, b5⟩⟩
  have F6 := fun_mk (st := s_Matching_reached) l6 c6 k6
  have b6 := F6.binds (ps := ["self", "begin"]) fun _ _ _ _ _ _ us hl => match us, hl with | [_, _], _ => rfl
  have D6 : MethAt K CPMatching "reached" "Matching.reached" s_Matching_reached ["self", "begin"] := ⟨⟨_, _, ⟨mt6, mf6, k6⟩, FunK.of F6, b6⟩⟩
  have F7 := fun_mk (st := s_Matching_widen) l7 c7 k7
  have b7 := F7.binds (ps := ["self", "begin"]) fun _ _ _ _ _ _ us hl => match us, hl with | [_, _], _ => rfl
  have D7 : MethAt K CPMatching "widen" "Matching.widen" s_Matching_widen ["self", "begin"] := ⟨⟨_, _, ⟨mt7, mf7, k7⟩, FunK.of F7, b7⟩⟩
  have F8 := fun_mk (st := s_Matching_init) l8 c8 k8
  have b8 := F8.binds (ps := ["self", "marks"]) fun _ _ _ _ _ _ us hl => match us, hl with | [_, _], _ => rfl
  have D8 : MethAt K CPMatching "__init__" "Matching.__init__" s_Matching_init ["self", "marks"] := ⟨⟨_, _, ⟨mt8, mf8, k8⟩, FunK.of F8, b8⟩⟩
  have F9 := fun_mk (st := s_Matching_rows) l9 c9 k9
  have b9 := F9.binds (ps := ["self"]) fun _ _ _ _ _ _ us hl => match us, hl with | [_], _ => rfl
  have D9 : MethAt K CPMatching "rows" "Matching.rows" s_Matching_rows ["self"] := ⟨⟨_, _, ⟨mt9, mf9, k9⟩, FunK.of F9, b9⟩⟩
  have F10 := fun_mk (st := s_Matching_unlike) l10 c10 k10
  have b10 := F10.binds (ps := ["self"]) fun _ _ _ _ _ _ us hl => match us, hl with | [_], _ => rfl
  have D10 : MethAt K CPMatching "unlike" "Matching.unlike" s_Matching_unlike ["self"] := ⟨⟨_, _, ⟨mt10, mf10, k10⟩, FunK.of F10, b10⟩⟩
  have F11 := fun_mk (st := s_chained) l11 c11 k11
  have b11 := F11.binds (ps := ["marks"]) fun _ _ _ _ _ _ us hl => match us, hl with | [_], _ => rfl
  have D11 : DefAt K mg "chained" s_chained ["marks"] := ⟨⟨_, _, PySem.W.mg_of X Gn a11, FunK.of F11, b11⟩⟩
  have F12 := fun_mk (st := s_chains) l12 c12 k12
  have b12 := F12.binds (ps := ["marks"]) fun _ _ _ _ _ _ us hl => match us, hl with | [_], _ => rfl
  have D12 : DefAt K mg "chains" s_chains ["marks"] := ⟨⟨_, _, PySem.W.mg_of X Gn a12, FunK.of F12, b12⟩⟩
  have F13 := fun_mk (st := s_law_bag) l13 c13 k13
  have b13 := F13.binds (ps := ["_law_script"]) fun _ _ _ _ _ _ us hl => match us, hl with | [_], _ => rfl
  have D13 : DefAt K mg "_law_bag" s_law_bag ["_law_script"] := ⟨⟨_, _, PySem.W.mg_of X Gn a13, FunK.of F13, b13⟩⟩
  have F14 := fun_mk (st := s_law_take) l14 c14 k14
  have b14 := F14.binds (ps := ["_law_bag_here", "_law_sides"]) fun _ _ _ _ _ _ us hl => match us, hl with | [_, _], _ => rfl
  have D14 : DefAt K mg "_law_take" s_law_take ["_law_bag_here", "_law_sides"] := ⟨⟨_, _, PySem.W.mg_of X Gn a14, FunK.of F14, b14⟩⟩
  have F15 := fun_mk (st := s_law_of) l15 c15 k15
  have b15 := F15.binds (ps := ["_law_bag_here", "_law_some"]) fun _ _ _ _ _ _ us hl => match us, hl with | [_, _], _ => rfl
  have D15 : DefAt K mg "_law_of" s_law_of ["_law_bag_here", "_law_some"] := ⟨⟨_, _, PySem.W.mg_of X Gn a15, FunK.of F15, b15⟩⟩
  have F16 := fun_mk (st := s_law_turned) l16 c16 k16
  have b16 := F16.binds (ps := ["_law_bag_here", "_law_some"]) fun _ _ _ _ _ _ us hl => match us, hl with | [_, _], _ => rfl
  have D16 : DefAt K mg "_law_turned" s_law_turned ["_law_bag_here", "_law_some"] := ⟨⟨_, _, PySem.W.mg_of X Gn a16, FunK.of F16, b16⟩⟩
  have F17 := fun_mk (st := s_law_same) l17 c17 k17
  have b17 := F17.binds (ps := ["_law_found", "_law_due"]) fun _ _ _ _ _ _ us hl => match us, hl with | [_, _], _ => rfl
  have D17 : DefAt K mg "_law_same" s_law_same ["_law_found", "_law_due"] := ⟨⟨_, _, PySem.W.mg_of X Gn a17, FunK.of F17, b17⟩⟩
  have F18 := fun_mk (st := s_law_asks) l18 c18 k18
  have b18 := F18.binds (ps := ["_law_bag_here", "_law_size", "_law_most"]) fun _ _ _ _ _ _ us hl => match us, hl with | [_, _, _], _ => rfl
  have D18 : DefAt K mg "_law_asks" s_law_asks ["_law_bag_here", "_law_size", "_law_most"] := ⟨⟨_, _, PySem.W.mg_of X Gn a18, FunK.of F18, b18⟩⟩
  have F19 := fun_mk (st := s_law_rising) l19 c19 k19
  have b19 := F19.binds (ps := ["_law_some"]) fun _ _ _ _ _ _ us hl => match us, hl with | [_], _ => rfl
  have D19 : DefAt K mg "_law_rising" s_law_rising ["_law_some"] := ⟨⟨_, _, PySem.W.mg_of X Gn a19, FunK.of F19, b19⟩⟩
  have F20 := fun_mk (st := s_law_marks) l20 c20 k20
  have b20 := F20.binds (ps := ["_law_asks_here"]) fun _ _ _ _ _ _ us hl => match us, hl with | [_], _ => rfl
  have D20 : DefAt K mg "_law_marks" s_law_marks ["_law_asks_here"] := ⟨⟨_, _, PySem.W.mg_of X Gn a20, FunK.of F20, b20⟩⟩
  have F21 := fun_mk (st := s_law_least_ask) l21 c21 k21
  have b21 := F21.binds (ps := ["_law_mark", "_law_asks_here"]) fun _ _ _ _ _ _ us hl => match us, hl with | [_, _], _ => rfl
  have D21 : DefAt K mg "_law_least_ask" s_law_least_ask ["_law_mark", "_law_asks_here"] := ⟨⟨_, _, PySem.W.mg_of X Gn a21, FunK.of F21, b21⟩⟩
  have F22 := fun_mk (st := s_law_essential) l22 c22 k22
  have b22 := F22.binds (ps := ["_law_asks_here"]) fun _ _ _ _ _ _ us hl => match us, hl with | [_], _ => rfl
  have D22 : DefAt K mg "_law_essential" s_law_essential ["_law_asks_here"] := ⟨⟨_, _, PySem.W.mg_of X Gn a22, FunK.of F22, b22⟩⟩
  have F23 := fun_mk (st := s_law_bound) l23 c23 k23
  have b23 := F23.binds (ps := ["_law_one", "_law_two"]) fun _ _ _ _ _ _ us hl => match us, hl with | [_, _], _ => rfl
  have D23 : DefAt K mg "_law_bound" s_law_bound ["_law_one", "_law_two"] := ⟨⟨_, _, PySem.W.mg_of X Gn a23, FunK.of F23, b23⟩⟩
  have F24 := fun_mk (st := s_law_left) l24 c24 k24
  have b24 := F24.binds (ps := ["_law_one", "_law_two"]) fun _ _ _ _ _ _ us hl => match us, hl with | [_, _], _ => rfl
  have D24 : DefAt K mg "_law_left" s_law_left ["_law_one", "_law_two"] := ⟨⟨_, _, PySem.W.mg_of X Gn a24, FunK.of F24, b24⟩⟩
  have F25 := fun_mk (st := s_law_cross) l25 c25 k25
  have b25 := F25.binds (ps := ["_law_one", "_law_two"]) fun _ _ _ _ _ _ us hl => match us, hl with | [_, _], _ => rfl
  have D25 : DefAt K mg "_law_cross" s_law_cross ["_law_one", "_law_two"] := ⟨⟨_, _, PySem.W.mg_of X Gn a25, FunK.of F25, b25⟩⟩
  have F26 := fun_mk (st := s_law_under) l26 c26 k26
  have b26 := F26.binds (ps := ["_law_one", "_law_two"]) fun _ _ _ _ _ _ us hl => match us, hl with | [_, _], _ => rfl
  have D26 : DefAt K mg "_law_under" s_law_under ["_law_one", "_law_two"] := ⟨⟨_, _, PySem.W.mg_of X Gn a26, FunK.of F26, b26⟩⟩
  have F27 := fun_mk (st := s_law_taken) l27 c27 k27
  have b27 := F27.binds (ps := ["_law_asks_here"]) fun _ _ _ _ _ _ us hl => match us, hl with | [_], _ => rfl
  have D27 : DefAt K mg "_law_taken" s_law_taken ["_law_asks_here"] := ⟨⟨_, _, PySem.W.mg_of X Gn a27, FunK.of F27, b27⟩⟩
  have F28 := fun_mk (st := s_law_pairs_of) l28 c28 k28
  have b28 := F28.binds (ps := ["_law_some"]) fun _ _ _ _ _ _ us hl => match us, hl with | [_], _ => rfl
  have D28 : DefAt K mg "_law_pairs_of" s_law_pairs_of ["_law_some"] := ⟨⟨_, _, PySem.W.mg_of X Gn a28, FunK.of F28, b28⟩⟩
  have F29 := fun_mk (st := s_law_others_right) l29 c29 k29
  have b29 := F29.binds (ps := ["_law_bag_here", "_law_asks_here"]) fun _ _ _ _ _ _ us hl => match us, hl with | [_, _], _ => rfl
  have D29 : DefAt K mg "_law_others_right" s_law_others_right ["_law_bag_here", "_law_asks_here"] := ⟨⟨_, _, PySem.W.mg_of X Gn a29, FunK.of F29, b29⟩⟩
  have F30 := fun_mk (st := s_law_refused) l30 c30 k30
  have b30 := F30.binds (ps := ["_law_marks_here"]) fun _ _ _ _ _ _ us hl => match us, hl with | [_], _ => rfl
  have D30 : DefAt K mg "_law_refused" s_law_refused ["_law_marks_here"] := ⟨⟨_, _, PySem.W.mg_of X Gn a30, FunK.of F30, b30⟩⟩
  have F31 := fun_mk (st := s_law_first_cross) l31 c31 k31
  have b31 := F31.binds (ps := ["_law_marks_here"]) fun _ _ _ _ _ _ us hl => match us, hl with | [_], _ => rfl
  have D31 : DefAt K mg "_law_first_cross" s_law_first_cross ["_law_marks_here"] := ⟨⟨_, _, PySem.W.mg_of X Gn a31, FunK.of F31, b31⟩⟩
  have F32 := fun_mk (st := s_law) l32 c32 k32
  have b32 := F32.binds (ps := ["_law_script"]) fun _ _ _ _ _ _ us hl => match us, hl with | [_], _ => rfl
  have D32 : DefAt K mg "law" s_law ["_law_script"] := ⟨⟨_, _, PySem.W.mg_of X Gn a32, FunK.of F32, b32⟩⟩
  have FBLarderError := fun_mk (st := c_LarderError) lBLarderError cBLarderError kBLarderError
  have bBLarderError := FBLarderError.binds (ps := ["self", "word"]) fun _ _ _ _ _ _ us hl => match us, hl with | [_, _], _ => rfl
  have EBLarderError : ∀ base : Heap, ExB l.prog w K mg base "LarderError" "word" := fun base => exB_of (PySem.W.mg_of X Gn aBLarderError) rdBLarderError gaBLarderError kkBLarderError FBLarderError scc_LarderError bBLarderError fun cdv A outer s H E => pss_one (ps_ost (pv 0) (pv 1))
  have FXBadMark := fun_mk (st := c_BadMark) lXBadMark cXBadMark kXBadMark
  have bXBadMark := FXBadMark.binds (ps := ["self"]) fun _ _ _ _ _ _ us hl => match us, hl with | [_], _ => rfl
  have TXBadMark : OexC K CXBadMark := ⟨⟨_, _, _, _, _, _, _, _, _, _, _, _, _, _, _, xlXBadMark, xrXBadMark⟩, saXBadMark, ecXBadMark, tyXBadMark, kcXBadMark⟩
  have EXBadMark : ∀ base : Heap, ExC l.prog w K mg base "BadMark" CXBadMark 0 (fun _ => [("word", V.str "mark")]) := fun base => ⟨TXBadMark, PySem.W.mg_of X Gn aXBadMark, ⟨_, _, _, niXBadMark, tiXBadMark, okIni0 (wd := "mark") (EBLarderError base) TXBadMark nwXBadMark (FunK.of FXBadMark) scc_BadMark fun CL f fdb mc m1 r kk Fb kp bb cdv A outer s H E hr => pss_one (ps_expr (pe_clscall (E := fun _ _ _ => False) m1 r kk Fb hr kp bb passL0 (pa_cons (pv 0) (pa_cons pe_str pa_nil)))), bXBadMark⟩⟩
  have FXCrossing := ini1_mk (st := c_Crossing) (ps := ["self", "pair"]) rfl lXCrossing cXCrossing kXCrossing dlXCrossing fun _ _ _ _ _ _ _ us its h1 h2 => match us, h1, its, h2 with | [_, _], _, [_], _ => ⟨_, rfl, rfl⟩
  have bXCrossing := FXCrossing.2
  have TXCrossing : OexC K CXCrossing := ⟨⟨_, _, _, _, _, _, _, _, _, _, _, _, _, _, _, xlXCrossing, xrXCrossing⟩, saXCrossing, ecXCrossing, tyXCrossing, kcXCrossing⟩
  have EXCrossing : ∀ base : Heap, ExC l.prog w K mg base "Crossing" CXCrossing 1 (fun ws => [("pair", ws.headD .non), ("word", V.str "crossing")]) := fun base => ⟨TXCrossing, PySem.W.mg_of X Gn aXCrossing, ⟨_, _, _, niXCrossing, tiXCrossing, okIni1 (wd := "crossing") (y := "pair") (EBLarderError base) TXCrossing nwXCrossing nyXCrossing FXCrossing.1 scc_Crossing fun CL f fdb mc m1 r kk Fb kp bb cdv A outer s H E hr => pss_cons (ps_expr (pe_clscall (E := fun _ _ _ => False) m1 r kk Fb hr kp bb passL0 (pa_cons (pv 0) (pa_cons pe_str pa_nil)))) (pss_one (ps_ost (pv 0) (pv 1))), bXCrossing⟩⟩
  refine ⟨PySem.W.fnOf "law" "law" (defArgs s_law) (defBody s_law) (defScope s_law) .none kV32 dc32 pm32 an32 cd32 ct32, fun s v => .of_eq rfl, fun base _ _ => ?_⟩
  have G : Glb l.prog w K mg base CXBadMark CXCrossing CPMatching := ⟨⟨_, PySem.W.mg_of X Gn gCELLS⟩, PySem.W.mg_none_of X Gn gabs, PySem.W.mg_none_of X Gn gall, PySem.W.mg_none_of X Gn gany, PySem.W.mg_none_of X Gn gbool, PySem.W.mg_none_of X Gn genumerate, PySem.W.mg_none_of X Gn gint, PySem.W.mg_none_of X Gn gisinstance, PySem.W.mg_none_of X Gn glen, PySem.W.mg_none_of X Gn glist, PySem.W.mg_none_of X Gn gmax, PySem.W.mg_none_of X Gn gmin, PySem.W.mg_none_of X Gn grange, PySem.W.mg_none_of X Gn gset, PySem.W.mg_none_of X Gn gsorted, PySem.W.mg_none_of X Gn gstr, PySem.W.mg_none_of X Gn gtuple, PySem.W.mg_none_of X Gn gzip, EXBadMark base, EXCrossing base, PySem.W.mg_of X Gn aXBadMark, ⟨PySem.W.exm_ref ecXBadMark hdXBadMark tyXBadMark oeXBadMark, ⟨fgXBadMark, fhXBadMark, ecXBadMark, hdXBadMark⟩, nwXBadMark⟩, PySem.W.mg_of X Gn aXCrossing, ⟨PySem.W.exm_ref ecXCrossing hdXCrossing tyXCrossing oeXCrossing, ⟨fgXCrossing, fhXCrossing, ecXCrossing, hdXCrossing⟩, nyXCrossing⟩, PySem.W.exm_ref ecXCrossing hdXCrossing tyXCrossing onXBadMarkXCrossing, PySem.W.exm_ref ecXBadMark hdXBadMark tyXBadMark onXCrossingXBadMark, ⟨pgPMatching, hdPMatching, poPMatching, saPMatching⟩, naMatchingabove, naMatchingbelow, naMatchingups, ⟨miPMatching, kcPMatching, PySem.W.mg_of X Gn aaPMatching⟩⟩
  have h_is_stretch := ok_is_stretch (T := []) G D0
  have h_look_mark := ok_look_mark (T := []) G h_is_stretch D1
  have h_are_bound := ok_are_bound (T := []) G D2
  have h_go_across := ok_go_across (T := []) G h_are_bound D3
  have h_is_under := ok_is_under (T := []) G D4
  have h_look_marks := ok_look_marks (T := []) G h_go_across h_look_mark D5
  have h_Matching_reached := ok_Matching_reached (T := []) G D6
  have h_Matching_widen := ok_Matching_widen (T := []) G h_Matching_reached D7
  have h_Matching_init := ok_Matching_init (T := []) G h_Matching_widen h_is_under D8
  have h_Matching_rows := ok_Matching_rows (T := []) G D9
  have h_Matching_unlike := ok_Matching_unlike (T := []) G h_Matching_reached D10
  have h_chained := ok_chained (T := []) G h_Matching_init h_Matching_rows h_Matching_unlike D11
  have h_chains := ok_chains (T := []) G h_chained h_look_marks D12
  have h_law_bag := ok_law_bag (T := []) G D13
  have h_law_take := ok_law_take (T := []) G D14
  have h_law_of := ok_law_of (T := []) G h_law_take D15
  have h_law_turned := ok_law_turned (T := []) G h_law_take D16
  have h_law_same0 := ok_law_same0 (T := []) G D17
  have h_law_same1 := ok_law_same1 (T := []) G h_law_same0 D17
  have h_law_same2 := ok_law_same2 (T := []) G h_law_same1 D17
  have h_law_asks := ok_law_asks (T := []) G h_law_of h_law_take D18
  have h_law_rising := ok_law_rising (T := []) G D19
  have h_law_marks := ok_law_marks (T := []) G h_law_rising D20
  have h_law_least_ask := ok_law_least_ask (T := []) G D21
  have h_law_essential := ok_law_essential (T := []) G h_law_least_ask h_law_marks D22
  have h_law_bound := ok_law_bound (T := []) G D23
  have h_law_left := ok_law_left (T := []) G D24
  have h_law_cross := ok_law_cross (T := []) G h_law_bound h_law_left D25
  have h_law_under := ok_law_under (T := []) G D26
  have h_law_taken := ok_law_taken (T := []) G h_law_cross h_law_essential D27
  have h_law_pairs_of := ok_law_pairs_of (T := []) G D28
  have h_law_others_right := ok_law_others_right (T := []) G h_law_cross h_law_marks h_law_pairs_of h_law_turned h_law_under h_chains D29
  have h_law_refused := ok_law_refused (T := []) G h_chains D30
  have h_law_first_cross := ok_law_first_cross (T := []) G h_law_cross h_law_pairs_of D31
  exact ok_law (T := []) G h_law_asks h_law_bag h_law_bound h_law_essential h_law_first_cross h_law_others_right h_law_pairs_of h_law_refused h_law_same2 h_law_take h_law_taken h_law_turned h_law_under h_chains (FunK.of F32)
end LW
open PySem PySem.W PyProof.Rows
set_option hygiene false in
local macro_rules | `(tactic| o_head $H) => `(tactic| (exact h; first | exact DL.HP.ofK $H rfl | exact DL.HP.ofM $H rfl))
set_option maxRecDepth 100000 in
set_option maxHeartbeats 0 in
theorem PySem.Challenge.cw_joinlarder_k09_chains_of_marks_holds : PySem.Challenge.rw_joinlarder_k09_chains_of_marks.Holds := by
  w_on; o_law
  refine DL.head_at (P := LW.HD.1) (q := LW.view) (loose := LW.loose) (M := 40000) "special-get-raises" LW.hf LW.ht (by kernel_rfl) (fun s => by kernel_rfl) (by rfl) (by rfl) (by rfl) (by rfl) (by first | assumption | decide +kernel) (by decide +kernel) ⟨rfl, rfl, rfl, rfl, rfl, by decide +kernel⟩ ?hw ?hc
  (case hw => w_witness2)
  refine L2.walk_of (l := PySem.Challenge.rw_joinlarder_k09_chains_of_marks) (n := 63) (k := 8) (x := "_law_script") (CX := fun w => L2.CX PySem.Challenge.rw_joinlarder_k09_chains_of_marks.prog w) (sp := fun w => DL.spUp ⟨_, []⟩ LW.sp_law) rfl (by decide) rfl ⟨rfl, by decide, by decide⟩ (fun w h Y => PySem.W.kIn_of Y) ?F (fun w H a ns hl hO hS => DL.lawIn (fun ns M Q h1 h2 => ⟨ns, rfl, h1, h2⟩) hl hO hS) (fun w H s e s' h => by obtain ⟨_, _, _, _, _, _, _, _, _, _, _, _, z⟩ := h; exact z)
  case F =>
    intro w mg fa h KX Gn hmg
    dsimp only [LW.HD, DL.HP.ofK, DL.HP.ofM] at KX ⊢
    refine' LW.all_mk KX Gn hmg ?aaPMatching ?a0 ?l0 ?c0 ?k0 ?a1 ?l1 ?c1 ?k1 ?a2 ?l2 ?c2 ?k2 ?a3 ?l3 ?c3 ?k3 ?a4 ?l4 ?c4 ?k4 ?a5 ?l5 ?c5 ?k5 ?mt6 ?l6 ?c6 ?k6 ?mf6 ?mt7 ?l7 ?c7 ?k7 ?mf7 ?mt8 ?l8 ?c8 ?k8 ?mf8 ?mt9 ?l9 ?c9 ?k9 ?mf9 ?mt10 ?l10 ?c10 ?k10 ?mf10 ?a11 ?l11 ?c11 ?k11 ?a12 ?l12 ?c12 ?k12 ?a13 ?l13 ?c13 ?k13 ?a14 ?l14 ?c14 ?k14 ?a15 ?l15 ?c15 ?k15 ?a16 ?l16 ?c16 ?k16 ?a17 ?l17 ?c17 ?k17 ?a18 ?l18 ?c18 ?k18 ?a19 ?l19 ?c19 ?k19 ?a20 ?l20 ?c20 ?k20 ?a21 ?l21 ?c21 ?k21 ?a22 ?l22 ?c22 ?k22 ?a23 ?l23 ?c23 ?k23 ?a24 ?l24 ?c24 ?k24 ?a25 ?l25 ?c25 ?k25 ?a26 ?l26 ?c26 ?k26 ?a27 ?l27 ?c27 ?k27 ?a28 ?l28 ?c28 ?k28 ?a29 ?l29 ?c29 ?k29 ?a30 ?l30 ?c30 ?k30 ?a31 ?l31 ?c31 ?k31 ?a32 ?l32 ?c32 ?k32 ?aBLarderError ?rdBLarderError ?gaBLarderError ?kkBLarderError ?lBLarderError ?cBLarderError ?kBLarderError ?aXBadMark ?xlXBadMark ?xrXBadMark ?saXBadMark ?ecXBadMark ?tyXBadMark ?kcXBadMark ?niXBadMark ?tiXBadMark ?nwXBadMark ?oeXBadMark ?fgXBadMark ?fhXBadMark ?hdXBadMark ?lXBadMark ?cXBadMark ?kXBadMark ?aXCrossing ?xlXCrossing ?xrXCrossing ?saXCrossing ?ecXCrossing ?tyXCrossing ?kcXCrossing ?niXCrossing ?tiXCrossing ?nwXCrossing ?oeXCrossing ?fgXCrossing ?fhXCrossing ?hdXCrossing ?lXCrossing ?cXCrossing ?kXCrossing ?dlXCrossing ?nyXCrossing ?gCELLS ?gabs ?gall ?gany ?gbool ?genumerate ?gint ?gisinstance ?glen ?glist ?gmax ?gmin ?grange ?gset ?gsorted ?gstr ?gtuple ?gzip ?onXBadMarkXCrossing ?onXCrossingXBadMark ?pgPMatching ?hdPMatching ?poPMatching ?saPMatching ?naMatchingabove ?naMatchingbelow ?naMatchingups ?miPMatching ?kcPMatching
    (case aaPMatching => k_is)
    (case a0 => k_is)
    (case l0 => k_is)
    (case c0 => k_is)
    (case k0 => k_is)
    (case a1 => k_is)
    (case l1 => k_is)
    (case c1 => k_is)
    (case k1 => k_is)
    (case a2 => k_is)
    (case l2 => k_is)
    (case c2 => k_is)
    (case k2 => k_is)
    (case a3 => k_is)
    (case l3 => k_is)
    (case c3 => k_is)
    (case k3 => k_is)
    (case a4 => k_is)
    (case l4 => k_is)
    (case c4 => k_is)
    (case k4 => k_is)
    (case a5 => k_is)
    (case l5 => k_is)
    (case c5 => k_is)
    (case k5 => k_is)
    (case mt6 => k_is)
    (case l6 => k_is)
    (case c6 => k_is)
    (case k6 => k_is)
    (case mf6 => k_is)
    (case mt7 => k_is)
    (case l7 => k_is)
    (case c7 => k_is)
    (case k7 => k_is)
    (case mf7 => k_is)
    (case mt8 => k_is)
    (case l8 => k_is)
    (case c8 => k_is)
    (case k8 => k_is)
    (case mf8 => k_is)
    (case mt9 => k_is)
    (case l9 => k_is)
    (case c9 => k_is)
    (case k9 => k_is)
    (case mf9 => k_is)
    (case mt10 => k_is)
    (case l10 => k_is)
    (case c10 => k_is)
    (case k10 => k_is)
    (case mf10 => k_is)
    (case a11 => k_is)
    (case l11 => k_is)
    (case c11 => k_is)
    (case k11 => k_is)
    (case a12 => k_is)
    (case l12 => k_is)
    (case c12 => k_is)
    (case k12 => k_is)
    (case a13 => k_is)
    (case l13 => k_is)
    (case c13 => k_is)
    (case k13 => k_is)
    (case a14 => k_is)
    (case l14 => k_is)
    (case c14 => k_is)
    (case k14 => k_is)
    (case a15 => k_is)
    (case l15 => k_is)
    (case c15 => k_is)
    (case k15 => k_is)
    (case a16 => k_is)
    (case l16 => k_is)
    (case c16 => k_is)
    (case k16 => k_is)
    (case a17 => k_is)
    (case l17 => k_is)
    (case c17 => k_is)
    (case k17 => k_is)
    (case a18 => k_is)
    (case l18 => k_is)
    (case c18 => k_is)
    (case k18 => k_is)
    (case a19 => k_is)
    (case l19 => k_is)
    (case c19 => k_is)
    (case k19 => k_is)
    (case a20 => k_is)
    (case l20 => k_is)
    (case c20 => k_is)
    (case k20 => k_is)
    (case a21 => k_is)
    (case l21 => k_is)
    (case c21 => k_is)
    (case k21 => k_is)
    (case a22 => k_is)
    (case l22 => k_is)
    (case c22 => k_is)
    (case k22 => k_is)
    (case a23 => k_is)
    (case l23 => k_is)
    (case c23 => k_is)
    (case k23 => k_is)
    (case a24 => k_is)
    (case l24 => k_is)
    (case c24 => k_is)
    (case k24 => k_is)
    (case a25 => k_is)
    (case l25 => k_is)
    (case c25 => k_is)
    (case k25 => k_is)
    (case a26 => k_is)
    (case l26 => k_is)
    (case c26 => k_is)
    (case k26 => k_is)
    (case a27 => k_is)
    (case l27 => k_is)
    (case c27 => k_is)
    (case k27 => k_is)
    (case a28 => k_is)
    (case l28 => k_is)
    (case c28 => k_is)
    (case k28 => k_is)
    (case a29 => k_is)
    (case l29 => k_is)
    (case c29 => k_is)
    (case k29 => k_is)
    (case a30 => k_is)
    (case l30 => k_is)
    (case c30 => k_is)
    (case k30 => k_is)
    (case a31 => k_is)
    (case l31 => k_is)
    (case c31 => k_is)
    (case k31 => k_is)
    (case a32 => k_is)
    (case l32 => k_is)
    (case c32 => k_is)
    (case k32 => k_is)
    (case aBLarderError => k_is)
    (case rdBLarderError => k_is)
    (case gaBLarderError => k_is)
    (case kkBLarderError => k_is)
    (case lBLarderError => k_is)
    (case cBLarderError => k_is)
    (case kBLarderError => k_is)
    (case aXBadMark => k_is)
    (case xlXBadMark => k_is)
    (case xrXBadMark => first | rfl | decide +kernel)
    (case saXBadMark => k_is)
    (case ecXBadMark => k_is)
    (case tyXBadMark => k_is)
    (case kcXBadMark => k_is)
    (case niXBadMark => k_is)
    (case tiXBadMark => k_is)
    (case nwXBadMark => k_is)
    (case oeXBadMark => k_is)
    (case fgXBadMark => k_is)
    (case fhXBadMark => k_is)
    (case hdXBadMark => k_is)
    (case lXBadMark => k_is)
    (case cXBadMark => k_is)
    (case kXBadMark => k_is)
    (case aXCrossing => k_is)
    (case xlXCrossing => k_is)
    (case xrXCrossing => first | rfl | decide +kernel)
    (case saXCrossing => k_is)
    (case ecXCrossing => k_is)
    (case tyXCrossing => k_is)
    (case kcXCrossing => k_is)
    (case niXCrossing => k_is)
    (case tiXCrossing => k_is)
    (case nwXCrossing => k_is)
    (case oeXCrossing => k_is)
    (case fgXCrossing => k_is)
    (case fhXCrossing => k_is)
    (case hdXCrossing => k_is)
    (case lXCrossing => k_is)
    (case cXCrossing => k_is)
    (case kXCrossing => k_is)
    (case dlXCrossing => k_is)
    (case nyXCrossing => k_is)
    (case gCELLS => k_is)
    (case gabs => k_is)
    (case gall => k_is)
    (case gany => k_is)
    (case gbool => k_is)
    (case genumerate => k_is)
    (case gint => k_is)
    (case gisinstance => k_is)
    (case glen => k_is)
    (case glist => k_is)
    (case gmax => k_is)
    (case gmin => k_is)
    (case grange => k_is)
    (case gset => k_is)
    (case gsorted => k_is)
    (case gstr => k_is)
    (case gtuple => k_is)
    (case gzip => k_is)
    (case onXBadMarkXCrossing => k_is)
    (case onXCrossingXBadMark => k_is)
    (case pgPMatching => k_is)
    (case hdPMatching => k_is)
    (case poPMatching => k_is)
    (case saPMatching => k_is)
    (case naMatchingabove => k_is)
    (case naMatchingbelow => k_is)
    (case naMatchingups => k_is)
    (case miPMatching => k_is)
    (case kcPMatching => k_is)
