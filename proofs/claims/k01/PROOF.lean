import PyProof.Rows.All
import KE.HD2
import KE.KNestM
import Wide.All
import OpenK.AllK
import Wide.FinOn
import HandS.ForMost
import HandS.ForExc
import HandS.Lambda
import HandS.Deep
import HandS.Zip
import HandS.CallSlots
import HandS.ExcInit
import HandS.ExcField
import HandS.TryMany
import HandS.ClsMeth
import HandS.Defaults
import HandS.SortInts
import HandS.TupSets
import HandS.IsInst
import KE.DatumOrd
import KE.SortData
import HandS.More
import HandS.NoneIn
import HandS.SetBool
import HandS.Strs
import PyProof.Rows.SortShellAny
import HandS.Conv
import HandS.Style
import HandS.Nested
import HandS.EndOwn
import HandS.ExcIs
import HandS.MakeKwOnly
import KE.KMinKey
import HandS.SortKw
import HandS.DictComp
import HandS.Flow
import KE.DataMinKey
import KE.KDictPairs
import KE.KUnpackStar
import HandS.Finally
import HandS.Zip0
import HandS.OwnEq
import HandS.FStr
import OpenK.KOps
import KE.KExcInit
import KE.KEqDict
import KE.KEqNest
import HandS.Text
import HandS.Wide
import KE.GoesEnum
import KE.GoesRaise
import PyProof.StrLaws
import PyProof.InstNe
import HandS.Codes
import KE.RegKIsAll
import PySem.Challenge.RW_joinlarder_k01_tables_looked_through
set_option Elab.async false
set_option linter.all false
set_option maxRecDepth 100000
set_option maxHeartbeats 4000000
set_option autoImplicit false
namespace DL
open PySem PySem.W PySem.Calls PyProof.Rows HeadRun
theorem obK {K : Params → Frag} {as : List Addr} {ek : ∀ P, as = (K P).map (·.1)} : ∀ s : SharedT, as.map (getT s) = (kHook K as ek).obs s.abs := fun s => List.map_congr_left fun a _ => getT_eq s a
/-- the written part and its addresses -/
structure HP where
  K : Params → Frag
  as : List Addr
  e : ∀ P, as = (K P).map (·.1)
def HP.ofK {K : Params → Frag} {as : List Addr} {e : ∀ P, as = (K P).map (·.1)} (H : Hook) (_ : H = kHook K as e) : HP := ⟨K, as, e⟩
def HP.ofM {K : Params → Frag} {as ts : List Addr} {e : ∀ P, as = (K P).map (·.1)} (H : Hook) (_ : H = kmHook K as e ts) : HP := ⟨K, as, e⟩
def RunAt (r : OpenRow) (q : Program) (P : HP) (M : Nat) (loose : List PySem.Str) (w : World) : Prop :=
  ∀ os : OsState, (endF (stepQ (denQ tabQ) r.prog w) M r.prog w os).map (fun s => (looksF r.prog (boot_heap w.params) s.abs, seenQ q loose (importedModules r.prog.main.body) (fun s => xlAt q [] s && recOk r.toRowW.records s) s.abs, P.as.map (getT s))) = some (true, openGood q loose, (P.K w.params).map fun x => some x.2)
theorem run_split {r : OpenRow} {q : Program} {P : HP} {M : Nat} {loose : List PySem.Str} (row : String) (hf : ∀ w : World, RunAt r q P M loose (w.withFollow row false)) (ht : ∀ w : World, RunAt r q P M loose (w.withFollow row true)) : ∀ w, RunEq r q (kHook P.K P.as P.e) (fun s => P.as.map (getT s)) M loose w := fun w => by
  have e := World.withFollow_self w row
  have h1 := hf w
  have h2 := ht w
  cases hb : w.params.followText row <;> rw [hb] at e
  · rw [e] at h1
    exact h1
  · rw [e] at h2
    exact h2
theorem head_at {r : OpenRow} {q : Program} {P : HP} {M : Nat} {loose : List PySem.Str} {d : DefRec} {kwd : List (PySem.Str × PySem.Expr)} (row : String) (hf : ∀ w : World, RunAt r q P M loose (w.withFollow row false)) (ht : ∀ w : World, RunAt r q P M loose (w.withFollow row true))
    (e : opening r.prog = plainProg r.prog.main.scope.names) (f : ∀ s, fenceModules? r.prog s = some s)
    (hdef : defOf q r.name = some (d, kwd)) (hp : r.prog.theDef r.name = some (d.params, d.body, d.scope)) (hk : kwWritten? d.params.kwonlyargs d.params.kw_defaults = some kwd)
    (hwr : (!r.writes || r.records.isEmpty) = true) (k1 : r.wellSaid = true) (ok : (chainsOk q && opensWell r.prog && (frees r.toRowW && r.within.isEmpty)) = true) (hb : r.prog.bare) (hw : r.toRowW.promised)
    (call : WalkO q loose (XL q []) (kHook P.K P.as P.e).says r.toRowW d kwd fun f vs => PySem.call f vs) : r.Holds :=
  head_any (H := kHook P.K P.as P.e) (ob := fun s => P.as.map (getT s)) obK e f (run_split row hf ht) hdef hp hk hwr k1 ok hb hw call
def viewP (p : Program) (l : List Nat) : Program := { p with main := { p.main with body := l.map fun i => p.main.body.getD i (.Pass ⟨0, 0, 0, 0⟩) } }
def strL (l : List String) : List PySem.Str := l.map PySem.Str.ofString
end DL
section
open PySem PySem.W PyProof.Rows
def LW.view : Program := DL.viewP PySem.Challenge.pw_joinlarder_k01_tables_looked_through [20]
def LW.loose : List PySem.Str := DL.strL ["LarderError", "BadTable", "BadWorth", "MOST_WORTHS", "is_table", "broken", "Join", "_law_bag", "_law_take", "_law_of", "_law_turned", "_law_same", "_law_rising", "_law_closed", "_law_table", "_law_break", "_law_bent"]
set_option hygiene false in
local macro_rules | `(tactic| o_head $H) => `(tactic| (exact h; first | exact DL.HP.ofK $H rfl | exact DL.HP.ofM $H rfl))
set_option maxRecDepth 100000 in
set_option maxHeartbeats 0 in
noncomputable def LW.HD : PProd DL.HP (PySem.Challenge.rw_joinlarder_k01_tables_looked_through.row.Holds → PySem.Challenge.rw_joinlarder_k01_tables_looked_through.row.Holds) := by
  refine ⟨?HH, fun h => ?PP⟩
  rotate_left
  w_on; k_head
set_option maxRecDepth 100000 in
set_option maxHeartbeats 0 in
theorem LW.hf : ∀ w : World, DL.RunAt PySem.Challenge.rw_joinlarder_k01_tables_looked_through.row LW.view LW.HD.1 40000 LW.loose (w.withFollow "special-get-raises" false) := by
  intro w os
  kernel_rfl
set_option maxRecDepth 100000 in
set_option maxHeartbeats 0 in
theorem LW.ht : ∀ w : World, DL.RunAt PySem.Challenge.rw_joinlarder_k01_tables_looked_through.row LW.view LW.HD.1 40000 LW.loose (w.withFollow "special-get-raises" true) := by
  intro w os
  kernel_rfl
set_option maxRecDepth 100000 in
set_option maxHeartbeats 0 in
theorem LW.opened (h : PySem.Challenge.rw_joinlarder_k01_tables_looked_through.row.wellSaid = true → PySem.Challenge.rw_joinlarder_k01_tables_looked_through.row.Holds) : PySem.Challenge.rw_joinlarder_k01_tables_looked_through.Holds := by
  w_on; o_law
  exact h (by assumption)
end
namespace DL
open PySem L2
/-- the written part, and the tables of code objects -/
structure KTb where
  K : PySem.W.Frag
  T : List (Addr × Str)
/-- a value by its content: lists, tuples and dicts that are never changed any more stand as data, others by their address -/
inductive D where
  | non | bl (b : Bool) | int (i : Int) | str (x : Str) | ref (a : Addr)
  | tup (xs : List D) | lst (xs : List D) | dic (kvs : List (Key × D)) | scr (ns : List Int)
  | obj (C : Addr) (fs : List (Str × D)) | dit (kvs : List (List Key × D))
  | any (v : V) (P : Hp → Prop)
/-- a cell that may still be changed -/
inductive Cell where
  | lst (xs : List D) | dic (kvs : List (Key × D)) | dit (kvs : List (List Key × D)) | lkd (kvs : List (Key × D)) (u : HO) | ins (C : Addr) (fs : List (Str × D)) | opq (φ : List D → Prop)
abbrev Mp := Addr → Option Cell
def mup (M : Mp) (a : Addr) (c : Cell) : Mp := fun b => if b = a then some c else M b
def mdel (M : Mp) (a : Addr) : Mp := fun b => if b = a then none else M b
theorem mup_same {M : Mp} {a : Addr} {c : Cell} : mup M a c a = some c := if_pos rfl
theorem mup_ne {M : Mp} {a b : Addr} {c : Cell} (h : b ≠ a) : mup M a c b = M b := if_neg h
theorem mdel_same {M : Mp} {a : Addr} : mdel M a a = none := if_pos rfl
theorem mdel_ne {M : Mp} {a b : Addr} (h : b ≠ a) : mdel M a b = M b := if_neg h
theorem mdel_mup {M : Mp} {a : Addr} {c : Cell} (h : M a = none) : mdel (mup M a c) a = M := by
  funext b
  unfold mdel mup
  by_cases e : b = a
  · rw [if_pos e, e, h]
  · rw [if_neg e, if_neg e]
theorem mup_mup {M : Mp} {a : Addr} {c d : Cell} : mup (mup M a c) a d = mup M a d := by
  funext b
  unfold mup
  split <;> rfl
theorem mup_comm {M : Mp} {a b : Addr} {c d : Cell} (h : a ≠ b) : mup (mup M a c) b d = mup (mup M b d) a c := by
  funext x
  unfold mup
  by_cases e : x = b
  · rw [if_pos e, if_neg (fun z => h (z.symm.trans e)), if_pos e]
  · rw [if_neg e, if_neg e]
theorem mup_self {M : Mp} {a : Addr} {c : Cell} (h : M a = some c) : mup M a c = M := by
  funext x
  unfold mup
  by_cases e : x = a
  · rw [if_pos e, e, h]
  · rw [if_neg e]
/-- a list, a tuple of the written part -/
def WrL (K : PySem.W.Frag) (a : Addr) (xs : List V) : Prop := ∃ (o : Obj) (its : Array Value) (n : Nat), K.lookup a = some o ∧ o.cls = .type "list" ∧ o.dict = none ∧ o.data = .seq its n ∧ its.size ≤ sizeLine ∧ Vals xs its.toList
def WrT (K : PySem.W.Frag) (a : Addr) (xs : List V) : Prop := (∀ i, V.int i ∉ xs) ∧ ∃ (o : Obj) (its : Array Value) (n : Nat), K.lookup a = some o ∧ o.cls = .type "tuple" ∧ o.data = .seq its n ∧ its.size ≤ sizeLine ∧ Vals xs its.toList
section
variable (K : KTb) (F : Hp)
mutual
inductive Rp : V → D → Prop
  | non : Rp .non .non
  | bl (b : Bool) : Rp (.bl b) (.bl b)
  | int (i : Int) : Rp (.int i) (.int i)
  | str (x : Str) : Rp (.str x) (.str x)
  | ref (a : Addr) : Rp (.ref a) (.ref a)
  | tup {a : Addr} {vs : List V} {ds : List D} : (F a = some (.tup vs) ∨ WrT K.K a vs) → Rps vs ds → Rp (.ref a) (.tup ds)
  | lst {a : Addr} {vs : List V} {ds : List D} : F a = some (.lst vs) → Rps vs ds → Rp (.ref a) (.lst ds)
  | dic {a : Addr} {kvs : List (Key × V)} {kds : List (Key × D)} : F a = some (.dK kvs) → RpK kvs kds → Rp (.ref a) (.dic kds)
  | scr {a : Addr} {ns : List Int} : (F a = some (.lst (ns.map V.int)) ∨ (∃ ob, F a = some (.frz ob (.lst (ns.map V.int)))) ∨ WrL K.K a (ns.map V.int)) → Rp (.ref a) (.scr ns)
  | obj {a C dx : Addr} {vs : List (Str × V)} {fs : List (Str × D)} : F a = some (.ins C dx vs) → RpS vs fs → Rp (.ref a) (.obj C fs)
  | dit {a : Addr} {kvs : List (List Key × V)} {kds : List (List Key × D)} : F a = some (.dT kvs) → RpT kvs kds → Rp (.ref a) (.dit kds)
  | any {v : V} {P : Hp → Prop} : v ≠ .non → (∀ F', Same F F' → P F') → Rp v (.any v P)
inductive Rps : List V → List D → Prop
  | nil : Rps [] []
  | cons {v : V} {vs : List V} {d : D} {ds : List D} : Rp v d → Rps vs ds → Rps (v :: vs) (d :: ds)
inductive RpK : List (Key × V) → List (Key × D) → Prop
  | nil : RpK [] []
  | cons {k : Key} {v : V} {vs : List (Key × V)} {d : D} {ds : List (Key × D)} : Rp v d → RpK vs ds → RpK ((k, v) :: vs) ((k, d) :: ds)
inductive RpT : List (List Key × V) → List (List Key × D) → Prop
  | nil : RpT [] []
  | cons {k : List Key} {v : V} {vs : List (List Key × V)} {d : D} {ds : List (List Key × D)} : Rp v d → RpT vs ds → RpT ((k, v) :: vs) ((k, d) :: ds)
inductive RpS : List (Str × V) → List (Str × D) → Prop
  | nil : RpS [] []
  | cons {k : Str} {v : V} {vs : List (Str × V)} {d : D} {ds : List (Str × D)} : Rp v d → RpS vs ds → RpS ((k, v) :: vs) ((k, d) :: ds)
end
end
section
variable {K : KTb} {F F' : Hp}
mutual
theorem Rp.mono (s : Same F F') : ∀ (d : D) (v : V), Rp K F v d → Rp K F' v d
  | .non, _, h => by cases h; exact .non
  | .bl b, _, h => by cases h; exact .bl b
  | .int i, _, h => by cases h; exact .int i
  | .str x, _, h => by cases h; exact .str x
  | .ref a, _, h => by cases h; exact .ref a
  | .tup ds, _, h => by
    cases h with
    | tup h1 h2 => exact .tup (h1.imp_left (s _ _)) (Rps.mono s ds _ h2)
  | .lst ds, _, h => by
    cases h with
    | lst h1 h2 => exact .lst (s _ _ h1) (Rps.mono s ds _ h2)
  | .dic ds, _, h => by
    cases h with
    | dic h1 h2 => exact .dic (s _ _ h1) (RpK.mono s ds _ h2)
  | .scr ns, _, h => by
    cases h with
    | scr h1 => exact .scr (h1.imp (s _ _) fun h1 => h1.imp_left fun ⟨ob, z⟩ => ⟨ob, s _ _ z⟩)
  | .obj C fs, _, h => by
    cases h with
    | obj h1 h2 => exact .obj (s _ _ h1) (RpS.mono s fs _ h2)
  | .dit ds, _, h => by
    cases h with
    | dit h1 h2 => exact .dit (s _ _ h1) (RpT.mono s ds _ h2)
  | .any v P, _, h => by
    cases h with
    | any n q => exact .any n fun F2 s2 => q F2 (s.trans s2)
theorem Rps.mono (s : Same F F') : ∀ (ds : List D) (vs : List V), Rps K F vs ds → Rps K F' vs ds
  | [], _, h => by cases h; exact .nil
  | d :: ds, _, h => by
    cases h with
    | cons h1 h2 => exact .cons (Rp.mono s d _ h1) (Rps.mono s ds _ h2)
theorem RpK.mono (s : Same F F') : ∀ (ds : List (Key × D)) (vs : List (Key × V)), RpK K F vs ds → RpK K F' vs ds
  | [], _, h => by cases h; exact .nil
  | (k, d) :: ds, _, h => by
    cases h with
    | cons h1 h2 => exact .cons (Rp.mono s d _ h1) (RpK.mono s ds _ h2)
theorem RpT.mono (s : Same F F') : ∀ (ds : List (List Key × D)) (vs : List (List Key × V)), RpT K F vs ds → RpT K F' vs ds
  | [], _, h => by cases h; exact .nil
  | (k, d) :: ds, _, h => by
    cases h with
    | cons h1 h2 => exact .cons (Rp.mono s d _ h1) (RpT.mono s ds _ h2)
theorem RpS.mono (s : Same F F') : ∀ (ds : List (Str × D)) (vs : List (Str × V)), RpS K F vs ds → RpS K F' vs ds
  | [], _, h => by cases h; exact .nil
  | (k, d) :: ds, _, h => by
    cases h with
    | cons h1 h2 => exact .cons (Rp.mono s d _ h1) (RpS.mono s ds _ h2)
end
theorem Rps.length : ∀ {vs : List V} {ds : List D}, Rps K F vs ds → vs.length = ds.length
  | _, _, .nil => rfl
  | _, _, .cons _ t => congrArg (· + 1) (Rps.length t)
theorem Rps.get : ∀ {vs : List V} {ds : List D} {i : Nat} {d : D}, Rps K F vs ds → ds[i]? = some d → ∃ v, vs[i]? = some v ∧ Rp K F v d
  | _, _, _, _, .nil, e => by simp at e
  | _, _, 0, _, .cons r _, e => by simp at e; subst e; exact ⟨_, rfl, r⟩
  | _, _, i + 1, x, .cons _ t, e => by
    obtain ⟨u, h1, h2⟩ := Rps.get (i := i) (d := x) t (by simpa using e)
    exact ⟨u, by simpa using h1, h2⟩
theorem Rps.append : ∀ {xs ys : List V} {us ws : List D}, Rps K F xs us → Rps K F ys ws → Rps K F (xs ++ ys) (us ++ ws)
  | _, _, _, _, .nil, s => s
  | _, _, _, _, .cons r t, s => .cons r (Rps.append t s)
theorem Rps.set {x : V} {u : D} (r : Rp K F x u) : ∀ {xs : List V} {us : List D} (i : Nat), Rps K F xs us → Rps K F (xs.set i x) (us.set i u)
  | _, _, _, .nil => .nil
  | _, _, 0, .cons _ t => .cons r t
  | _, _, i + 1, .cons q t => .cons q (Rps.set r i t)
theorem Rps.take : ∀ {xs : List V} {us : List D} (n : Nat), Rps K F xs us → Rps K F (xs.take n) (us.take n)
  | _, _, 0, _ => .nil
  | _, _, _ + 1, .nil => .nil
  | _, _, n + 1, .cons r t => .cons r (Rps.take n t)
theorem Rps.drop : ∀ {xs : List V} {us : List D} (n : Nat), Rps K F xs us → Rps K F (xs.drop n) (us.drop n)
  | _, _, 0, r => r
  | _, _, _ + 1, .nil => .nil
  | _, _, n + 1, .cons _ t => Rps.drop n t
theorem Rps.ints : ∀ {vs : List V} {ns : List Int}, Rps K F vs (ns.map D.int) → vs = ns.map V.int
  | [], [], _ => rfl
  | [], _ :: _, h => by cases h
  | _ :: _, [], h => by cases h
  | v :: vs, n :: ns, h => by
    cases h with
    | cons h1 h2 =>
      cases h1
      rw [Rps.ints h2]
      rfl
theorem Rps.bls : ∀ {vs : List V} {ns : List Bool}, Rps K F vs (ns.map D.bl) → vs = ns.map V.bl
  | [], [], _ => rfl
  | [], _ :: _, h => by cases h
  | _ :: _, [], h => by cases h
  | v :: vs, n :: ns, h => by
    cases h with
    | cons h1 h2 =>
      cases h1
      rw [Rps.bls h2]
      rfl
theorem Rps.ofInts : ∀ (ns : List Int), Rps K F (ns.map V.int) (ns.map D.int)
  | [] => .nil
  | n :: ns => .cons (.int n) (Rps.ofInts ns)
end
/-- fields: by name -/
def RpF (K : KTb) (F : Hp) : List (Str × V) → List (Str × D) → Prop := Paired fun (p : Str × V) (q : Str × D) => p.1 = q.1 ∧ Rp K F p.2 q.2
theorem Paired.mapP2 {α β : Type} {F G : α → β → Prop} : ∀ {l₁ : List α} {l₂ : List β}, Paired F l₁ l₂ → (∀ a b, F a b → G a b) → Paired G l₁ l₂
  | _, _, .nil, _ => .nil
  | _, _, .cons r t, f => .cons (f _ _ r) (Paired.mapP2 t f)
theorem RpF.mono {K : KTb} {F F' : Hp} {vs : List (Str × V)} {ds : List (Str × D)} (s : Same F F') (h : RpF K F vs ds) : RpF K F' vs ds := Paired.mapP2 h fun _ _ z => ⟨z.1, z.2.mono s⟩
theorem RpF.look {K : KTb} {F : Hp} {f : Str} {d : D} : ∀ {vs : List (Str × V)} {ds : List (Str × D)}, RpF K F vs ds → ds.lookup f = some d → ∃ v, vs.lookup f = some v ∧ Rp K F v d
  | _, _, .nil, e => by cases e
  | (g, v) :: vs, (g', d') :: ds, .cons r t, e => by
    obtain ⟨e1, r⟩ := r
    have e1 : g = g' := e1
    subst e1
    rw [List.lookup_cons] at e ⊢
    cases hb : f == g with
    | true =>
      rw [hb] at e
      have e : some d' = some d := e
      cases e
      exact ⟨v, rfl, r⟩
    | false =>
      rw [hb] at e
      exact RpF.look t e
theorem RpF.lookN {K : KTb} {F : Hp} {f : Str} : ∀ {vs : List (Str × V)} {ds : List (Str × D)}, RpF K F vs ds → ds.lookup f = none → vs.lookup f = none
  | _, _, .nil, _ => rfl
  | (g, v) :: vs, (g', d') :: ds, .cons r t, e => by
    obtain ⟨e1, r⟩ := r
    have e1 : g = g' := e1
    subst e1
    rw [List.lookup_cons] at e ⊢
    cases hb : f == g with
    | true =>
      rw [hb] at e
      cases e
    | false =>
      rw [hb] at e
      exact RpF.lookN t e
def RpC (K : KTb) (F : Hp) : Cell → HO → Prop
  | .lst ds, o => ∃ vs, o = .lst vs ∧ Rps K F vs ds
  | .dic ds, o => ∃ vs, o = .dK vs ∧ RpK K F vs ds
  | .dit ds, o => ∃ vs, o = .dT vs ∧ RpT K F vs ds
  | .lkd ds u, o => o = u ∧ ∃ od vs, u = .frz od (.dK vs) ∧ RpK K F vs ds
  | .ins C fs, o => ∃ dx vs, o = .ins C dx vs ∧ RpF K F vs fs
  | .opq φ, o => ∃ vs ds, φ ds ∧ o = .lst vs ∧ Rps K F vs ds
theorem RpC.mono {K : KTb} {F F' : Hp} (s : Same F F') : ∀ {c : Cell} {o : HO}, RpC K F c o → RpC K F' c o
  | .lst _, _, ⟨vs, e, h⟩ => ⟨vs, e, h.mono s⟩
  | .dic _, _, ⟨vs, e, h⟩ => ⟨vs, e, h.mono s⟩
  | .dit _, _, ⟨vs, e, h⟩ => ⟨vs, e, h.mono s⟩
  | .lkd _ _, _, ⟨e0, od, vs, e, h⟩ => ⟨e0, od, vs, e, h.mono s⟩
  | .ins _ _, _, ⟨dx, vs, e, h⟩ => ⟨dx, vs, e, h.mono s⟩
  | .opq _, _, ⟨vs, ds, e1, e2, h⟩ => ⟨vs, ds, e1, e2, h.mono s⟩
/-- it stands there, a dict perhaps locked -/
def Sd (H : Hp) (a : Addr) (o : HO) : Prop := H a = some o ∨ ((∃ kvs, o = .dK kvs) ∧ ∃ ob, H a = some (.frz ob o))
def Fk : HO → Prop
  | .lst _ => True
  | .tup _ => True
  | .dK _ => True
  | .dT _ => True
  | .ins _ _ _ => True
  | .frz _ (.lst _) => True
  | .ext _ => True
  | .xd _ => True
  | _ => False
/-- the frozen part F and the cells M stand in the heap H -/
structure Cc (K : KTb) (M : Mp) (F H : Hp) : Prop where
  tb : LamX.Tabs K.T H
  fk : ∀ a o, F a = some o → Fk o
  fr : ∀ a o, F a = some o → Sd H a o
  ow : ∀ a c, M a = some c → F a = none ∧ ∃ o, H a = some o ∧ RpC K F c o
section
variable {K : KTb} {M : Mp} {F F' H : Hp} {p : Addr}
theorem Sd.ne_none {a : Addr} {o : HO} (r : Sd H a o) (h : H a = none) : False := by
  rcases r with r | ⟨_, _, r⟩ <;> rw [h] at r <;> cases r
theorem Sd.rd {a : Addr} {o : HO} (r : Sd H a o) : Rd H a o := by
  rcases r with r | ⟨_, ob, r⟩
  · exact .inl r
  · exact .inr ⟨ob, r⟩
theorem Sd.lst {a : Addr} {xs : List V} (r : Sd H a (.lst xs)) : H a = some (.lst xs) := by
  rcases r with r | ⟨⟨_, e⟩, _⟩
  · exact r
  · cases e
theorem Sd.tup {a : Addr} {xs : List V} (r : Sd H a (.tup xs)) : H a = some (.tup xs) := by
  rcases r with r | ⟨⟨_, e⟩, _⟩
  · exact r
  · cases e
theorem Cc.Fnone (c : Cc K M F H) (h : H p = none) : F p = none := by
  cases e : F p with
  | none => rfl
  | some o => exact (Sd.ne_none (c.fr _ _ e) h).elim
theorem Cc.Mnone (c : Cc K M F H) (h : H p = none) : M p = none := by
  cases e : M p with
  | none => rfl
  | some o =>
    obtain ⟨_, o, e', _⟩ := c.ow _ _ e
    rw [h] at e'
    cases e'
theorem Sd.upd {a : Addr} {o u : HO} (r : Sd H a o) (h : a ≠ p) : Sd (upd H p u) a o := by
  rcases r with r | ⟨e, ob, r⟩
  · exact .inl (by rw [upd_ne h]; exact r)
  · exact .inr ⟨e, ob, by rw [upd_ne h]; exact r⟩
theorem Same.upd {o : HO} (h : F p = none) : Same F (upd F p o) := fun b u e => by
  rw [upd_ne (ne_of_none e h)]
  exact e
/-- the tables stay where p is none of their objects -/
theorem tabs_upd {T : List (Addr × Str)} {o : HO} (t : LamX.Tabs T H) (h : H p = none ∨ ∃ u, H p = some u ∧ (∀ ps, u ≠ .tbl ps) ∧ ∀ φ, u ≠ .ext φ) : LamX.Tabs T (upd H p o) := fun q hq => by
  obtain ⟨ps, e1, e2, e3⟩ := t q hq
  have ne : ∀ b u, H b = some u → ((∃ ps, u = .tbl ps) ∨ ∃ φ, u = .ext φ) → b ≠ p := fun b u e k z => by
    rw [z] at e
    rcases h with h | ⟨u', h, n1, n2⟩
    · rw [h] at e; cases e
    · rw [h] at e
      cases e
      rcases k with ⟨ps, k⟩ | ⟨φ, k⟩
      · exact n1 ps k
      · exact n2 φ k
  refine ⟨ps, by rw [upd_ne (ne _ _ e1 (.inl ⟨_, rfl⟩))]; exact e1, e2, fun pos cv hc => ?_⟩
  obtain ⟨c, e4, e5⟩ := e3 pos cv hc
  exact ⟨c, e4, by rw [upd_ne (ne _ _ e5 (.inr ⟨_, rfl⟩))]; exact e5⟩
theorem rpc_kind {F : Hp} {c : Cell} {o : HO} (r : RpC K F c o) : (∀ ps, o ≠ .tbl ps) ∧ ∀ φ, o ≠ .ext φ := by
  cases c with
  | lst ds => obtain ⟨vs, e, _⟩ := r; subst e; exact ⟨fun _ z => (by cases z), fun _ z => (by cases z)⟩
  | dic ds => obtain ⟨vs, e, _⟩ := r; subst e; exact ⟨fun _ z => (by cases z), fun _ z => (by cases z)⟩
  | dit ds => obtain ⟨vs, e, _⟩ := r; subst e; exact ⟨fun _ z => (by cases z), fun _ z => (by cases z)⟩
  | lkd ds u => obtain ⟨e0, od, vs, e, _⟩ := r; subst e0; subst e; exact ⟨fun _ z => (by cases z), fun _ z => (by cases z)⟩
  | ins C fs => obtain ⟨dx, vs, e, _⟩ := r; subst e; exact ⟨fun _ z => (by cases z), fun _ z => (by cases z)⟩
  | opq φ => obtain ⟨vs, ds, _, e, _⟩ := r; subst e; exact ⟨fun _ z => (by cases z), fun _ z => (by cases z)⟩
/-- a new thing that is frozen at once -/
theorem Cc.newF {o : HO} (c : Cc K M F H) (h : H p = none) (hk : Fk o := by exact True.intro) : Cc K M (upd F p o) (upd H p o) where
  tb := tabs_upd c.tb (.inl h)
  fk := fun a u e => by
    by_cases ha : a = p
    · subst ha
      rw [upd_same] at e
      cases e
      exact hk
    · rw [upd_ne ha] at e
      exact c.fk _ _ e
  fr := fun a u e => by
    by_cases ha : a = p
    · subst ha
      rw [upd_same] at e
      cases e
      exact .inl upd_same
    · rw [upd_ne ha] at e
      exact Sd.upd (c.fr _ _ e) ha
  ow := fun a u e => by
    obtain ⟨h1, o', h2, h3⟩ := c.ow _ _ e
    have ha : a ≠ p := fun z => by rw [z, h] at h2; cases h2
    exact ⟨by rw [upd_ne ha]; exact h1, o', by rw [upd_ne ha]; exact h2, h3.mono (Same.upd (c.Fnone h))⟩
/-- a new cell -/
theorem Cc.newM {o : HO} {x : Cell} (c : Cc K M F H) (h : H p = none) (r : RpC K F x o) : Cc K (mup M p x) F (upd H p o) where
  tb := tabs_upd c.tb (.inl h)
  fk := c.fk
  fr := fun a u e => by
    have ha : a ≠ p := fun z => by rw [z, c.Fnone h] at e; cases e
    exact Sd.upd (c.fr _ _ e) ha
  ow := fun a u e => by
    by_cases ha : a = p
    · subst ha
      rw [mup_same] at e
      cases e
      exact ⟨c.Fnone h, o, upd_same, r⟩
    · rw [mup_ne ha] at e
      obtain ⟨h1, o', h2, h3⟩ := c.ow _ _ e
      exact ⟨h1, o', by rw [upd_ne ha]; exact h2, h3⟩
/-- a cell is written -/
theorem Cc.write {o : HO} {x y : Cell} (c : Cc K M F H) (h : M p = some y) (r : RpC K F x o) : Cc K (mup M p x) F (upd H p o) where
  tb := by
    obtain ⟨_, o', h2, h3⟩ := c.ow _ _ h
    exact tabs_upd c.tb (.inr ⟨o', h2, rpc_kind h3⟩)
  fk := c.fk
  fr := fun a u e => by
    have ha : a ≠ p := fun z => by rw [z, (c.ow _ _ h).1] at e; cases e
    exact Sd.upd (c.fr _ _ e) ha
  ow := fun a u e => by
    by_cases ha : a = p
    · subst ha
      rw [mup_same] at e
      cases e
      exact ⟨(c.ow _ _ h).1, o, upd_same, r⟩
    · rw [mup_ne ha] at e
      obtain ⟨h1, o', h2, h3⟩ := c.ow _ _ e
      exact ⟨h1, o', by rw [upd_ne ha]; exact h2, h3⟩
/-- new things that nobody asks about, the tables grown -/
theorem Cc.ext {H' : Hp} (c : Cc K M F H) (s : LamX.ExtN H H') (t : LamX.Tabs K.T H') : Cc K M F H' where
  tb := t
  fk := c.fk
  fr := fun a u e => by
    have k := c.fk _ _ e
    refine (c.fr a u e).imp (fun q => s _ _ q fun ps z => by subst z; exact k) fun ⟨q, o, z⟩ => ⟨q, o, s _ _ z fun ps z => by cases z⟩
  ow := fun a u e => by
    obtain ⟨h1, o', h2, h3⟩ := c.ow _ _ e
    exact ⟨h1, o', s _ _ h2 (rpc_kind h3).1, h3⟩
theorem Cc.same {H' : Hp} (c : Cc K M F H) (s : Same H H') : Cc K M F H' := c.ext (LamX.ExtN.of s) (c.tb.ext s)
theorem Cc.less {M' : Mp} (c : Cc K M F H) (h : ∀ a u, M' a = some u → M a = some u) : Cc K M' F H := ⟨c.tb, c.fk, c.fr, fun a u e => c.ow a u (h a u e)⟩
/-- a cell is frozen -/
theorem Cc.freezeO {x : Cell} {o : HO} (c : Cc K M F H) (h : M p = some x) (ho : H p = some o) (hk : Fk o) : Same F (upd F p o) ∧ Cc K (mdel M p) (upd F p o) H := by
  obtain ⟨h1, o', h2, h3⟩ := c.ow _ _ h
  have s : Same F (upd F p o) := Same.upd h1
  refine ⟨s, c.tb, fun a u e => ?_, fun a u e => ?_, fun a u e => ?_⟩
  · by_cases ha : a = p
    · subst ha
      rw [upd_same] at e
      cases e
      exact hk
    · rw [upd_ne ha] at e
      exact c.fk _ _ e
  · by_cases ha : a = p
    · subst ha
      rw [upd_same] at e
      cases e
      exact .inl ho
    · rw [upd_ne ha] at e
      exact c.fr _ _ e
  · by_cases ha : a = p
    · subst ha
      rw [mdel_same] at e
      cases e
    · rw [mdel_ne ha] at e
      obtain ⟨g1, o', g2, g3⟩ := c.ow _ _ e
      exact ⟨by rw [upd_ne ha]; exact g1, o', g2, g3.mono s⟩
theorem Cc.freeze {ds : List D} (c : Cc K M F H) (h : M p = some (.lst ds)) : ∃ F', Same F F' ∧ Cc K (mdel M p) F' H ∧ Rp K F' (.ref p) (.lst ds) := by
  obtain ⟨h1, o, h2, vs, e, h3⟩ := c.ow _ _ h
  subst e
  obtain ⟨s, c2⟩ := c.freezeO h h2 True.intro
  exact ⟨_, s, c2, .lst upd_same (h3.mono s)⟩
theorem rpS_of {K : KTb} {F : Hp} : ∀ {vs : List (Str × V)} {fs : List (Str × D)}, RpF K F vs fs → RpS K F vs fs
  | _, _, .nil => .nil
  | (g, v) :: vs, (g', d) :: fs, .cons r t => by
    obtain ⟨e1, r⟩ := r
    have e1 : g = g' := e1
    subst e1
    exact .cons r (rpS_of t)
theorem rpF_of {K : KTb} {F : Hp} : ∀ {vs : List (Str × V)} {fs : List (Str × D)}, RpS K F vs fs → RpF K F vs fs
  | _, _, .nil => .nil
  | _, _, .cons r t => .cons ⟨rfl, r⟩ (rpF_of t)
theorem Cc.freezeI {C : Addr} {fs : List (Str × D)} (c : Cc K M F H) (h : M p = some (.ins C fs)) : ∃ F', Same F F' ∧ Cc K (mdel M p) F' H ∧ Rp K F' (.ref p) (.obj C fs) := by
  obtain ⟨h1, o, h2, dx, vs, e, h3⟩ := c.ow _ _ h
  subst e
  obtain ⟨s, c2⟩ := c.freezeO h h2 True.intro
  exact ⟨_, s, c2, .obj upd_same (rpS_of (h3.mono s))⟩
theorem Cc.open {φ : List D → Prop} (c : Cc K M F H) (h : M p = some (.opq φ)) : ∃ ds, φ ds ∧ Cc K (mup M p (.lst ds)) F H := by
  obtain ⟨h1, o, h2, vs, ds, e1, e2, h3⟩ := c.ow _ _ h
  refine ⟨ds, e1, c.tb, c.fk, c.fr, fun a u e => ?_⟩
  by_cases ha : a = p
  · subst ha
    rw [mup_same] at e
    cases e
    exact ⟨h1, o, h2, vs, e2, h3⟩
  · rw [mup_ne ha] at e
    exact c.ow _ _ e
theorem Cc.close {φ : List D → Prop} {ds : List D} (c : Cc K M F H) (h : M p = some (.lst ds)) (hd : φ ds) : Cc K (mup M p (.opq φ)) F H := by
  obtain ⟨h1, o, h2, vs, e, h3⟩ := c.ow _ _ h
  refine ⟨c.tb, c.fk, c.fr, fun a u e => ?_⟩
  by_cases ha : a = p
  · subst ha
    rw [mup_same] at e
    cases e
    exact ⟨h1, o, h2, vs, ds, hd, by assumption, h3⟩
  · rw [mup_ne ha] at e
    exact c.ow _ _ e
end
end DL
namespace DL
open PySem L2
abbrev DG := List (Option D)
abbrev DQ := D → Mp → Prop
/-- an exception: the slots, the class's address, its fields, the cells -/
abbrev DXE := DG → Addr → List (Str × D) → Mp → Prop
abbrev DTE := DG → Mp → DQ → DXE → Prop
abbrev DTT := DG → Mp → (Bool → Mp → Prop) → DXE → Prop
abbrev DTA := DG → Mp → (List D → Mp → Prop) → DXE → Prop
structure DEnds where
  nx : DG → Mp → Prop
  rt : DQ
  bk : DG → Mp → Prop := fun _ _ => False
  ct : DG → Mp → Prop := fun _ _ => False
  ex : DXE := fun _ _ _ _ => False
abbrev DTS := DEnds → DG → Mp → Prop
structure RpG (K : KTb) (F : Hp) (σ : St) (Γ : DG) : Prop where
  len : σ.length = Γ.length
  at_ : ∀ (i : Nat) (d : D), Γ[i]? = some (some d) → ∃ v, σ[i]? = some (some v) ∧ Rp K F v d
theorem RpG.mono {K : KTb} {F F' : Hp} {σ : St} {Γ : DG} (g : RpG K F σ Γ) (s : Same F F') : RpG K F' σ Γ :=
  ⟨g.len, fun i d e => let ⟨v, e1, r⟩ := g.at_ i d e; ⟨v, e1, r.mono s⟩⟩
theorem RpG.set {K : KTb} {F : Hp} {σ : St} {Γ : DG} {v : V} {d : D} (g : RpG K F σ Γ) (r : Rp K F v d) (i : Nat) : RpG K F (σ.set i (some v)) (Γ.set i (some d)) := by
  refine ⟨by rw [List.length_set, List.length_set]; exact g.len, fun j e h => ?_⟩
  by_cases hj : i = j
  · subst hj
    by_cases hl : i < Γ.length
    · rw [List.getElem?_set_self hl] at h
      cases h
      exact ⟨v, by rw [List.getElem?_set_self (by rw [g.len]; exact hl)], r⟩
    · rw [List.getElem?_eq_none (by rw [List.length_set]; omega)] at h
      cases h
  · rw [List.getElem?_set_ne hj] at h ⊢
    exact g.at_ j e h
theorem RpG.unset {K : KTb} {F : Hp} {σ : St} {Γ : DG} (g : RpG K F σ Γ) (i : Nat) : RpG K F (σ.set i none) (Γ.set i none) := by
  refine ⟨by rw [List.length_set, List.length_set]; exact g.len, fun j e h => ?_⟩
  by_cases hj : i = j
  · subst hj
    by_cases hl : i < Γ.length
    · rw [List.getElem?_set_self hl] at h
      cases h
    · rw [List.getElem?_eq_none (by rw [List.length_set]; omega)] at h
      cases h
  · rw [List.getElem?_set_ne hj] at h ⊢
    exact g.at_ j e h
/-- what is wished of exceptions, the tables -/
structure WT where
  T : List (Addr × Str)
  w : WX
abbrev kt (X : Cx) (W : WT) : KTb := ⟨X.K, W.T⟩
/-- what is wished of an exception, from the frozen part F on -/
def Ew (K : KTb) (F : Hp) (E : DXE) (W : WX) : Prop := ∀ (F' H' : Hp) (σ : St) (Γ : DG) (C d : Addr) (vs : List (Str × V)) (fs : List (Str × D)) (M : Mp),
  Same F F' → Cc K M F' H' → RpG K F' σ Γ → H' d = some (.xd vs) → RpF K F' vs fs → E Γ C fs M → W (.ref C) (some d) σ H'
theorem Ew.mono {K : KTb} {F F1 : Hp} {E : DXE} {W : WX} (w : Ew K F E W) (s : Same F F1) : Ew K F1 E W := fun F' H' σ Γ C d vs fs M s1 => w F' H' σ Γ C d vs fs M (s.trans s1)
/-- where one stands -/
structure At (K : KTb) (W : WX) (σ : St) (H : Hp) (Γ : DG) (M : Mp) (F : Hp) (E : DXE) : Prop where
  c : Cc K M F H
  g : RpG K F σ Γ
  w : Ew K F E W
theorem At.next {K : KTb} {W : WX} {σ : St} {H H' F F' : Hp} {Γ : DG} {M M' : Mp} {E : DXE} (a : At K W σ H Γ M F E) (s : Same F F') (c : Cc K M' F' H') : At K W σ H' Γ M' F' E := ⟨c, a.g.mono s, a.w.mono s⟩
/-- what is to follow a value -/
def CoQ (K : KTb) (F : Hp) (Qd : DQ) (Q : VK) : Prop := ∀ (F' H' : Hp) (v : V) (d : D) (M' : Mp), Same F F' → Cc K M' F' H' → Rp K F' v d → Qd d M' → Q v H'
theorem CoQ.mono {K : KTb} {F F1 : Hp} {Qd : DQ} {Q : VK} (w : CoQ K F Qd Q) (s : Same F F1) : CoQ K F1 Qd Q := fun F' H' v d M s1 => w F' H' v d M (s.trans s1)
def upE (K : KTb) (W : WX) (t : DTE) : TE := fun σ H Q => ∃ (Γ : DG) (M : Mp) (F : Hp) (E : DXE) (Qd : DQ), At K W σ H Γ M F E ∧ t Γ M Qd E ∧ CoQ K F Qd Q
def upT (K : KTb) (W : WX) (t : DTT) : TT := fun σ H Q => ∃ (Γ : DG) (M : Mp) (F : Hp) (E : DXE) (Qd : Bool → Mp → Prop), At K W σ H Γ M F E ∧ t Γ M Qd E ∧
  ∀ (F' H' : Hp) (b : Bool) (M' : Mp), Same F F' → Cc K M' F' H' → Qd b M' → Q b H'
def upA (K : KTb) (W : WX) (t : DTA) : TA := fun σ H Q => ∃ (Γ : DG) (M : Mp) (F : Hp) (E : DXE) (Qd : List D → Mp → Prop), At K W σ H Γ M F E ∧ t Γ M Qd E ∧
  ∀ (F' H' : Hp) (vs : List V) (ds : List D) (M' : Mp), Same F F' → Cc K M' F' H' → Rps K F' vs ds → Qd ds M' → Q vs H'
def CoS (K : KTb) (F : Hp) (Qd : DG → Mp → Prop) (Q : St → Hp → Prop) : Prop := ∀ (F' H' : Hp) (σ' : St) (Γ' : DG) (M' : Mp), Same F F' → Cc K M' F' H' → RpG K F' σ' Γ' → Qd Γ' M' → Q σ' H'
theorem CoS.mono {K : KTb} {F F1 : Hp} {Qd : DG → Mp → Prop} {Q : St → Hp → Prop} (w : CoS K F Qd Q) (s : Same F F1) : CoS K F1 Qd Q := fun F' H' σ Γ M s1 => w F' H' σ Γ M (s.trans s1)
structure CoE (K : KTb) (F : Hp) (Dn : DEnds) (E : Ends) : Prop where
  nx : CoS K F Dn.nx E.nx
  rt : CoQ K F Dn.rt E.rt
  bk : CoS K F Dn.bk E.bk
  ct : CoS K F Dn.ct E.ct
theorem CoE.mono {K : KTb} {F F1 : Hp} {Dn : DEnds} {E : Ends} (w : CoE K F Dn E) (s : Same F F1) : CoE K F1 Dn E := ⟨w.nx.mono s, w.rt.mono s, w.bk.mono s, w.ct.mono s⟩
def upS (K : KTb) (W : WX) (t : DTS) : TS := fun E σ H => ∃ (Γ : DG) (M : Mp) (F : Hp) (Dn : DEnds), At K W σ H Γ M F Dn.ex ∧ t Dn Γ M ∧ CoE K F Dn E
structure DE (X : Cx) (W : WT) (e : Expr) (t : DTE) : Prop where
  pe : PE X e (upE (kt X W) W.w t)
structure DT (X : Cx) (W : WT) (e : Expr) (t : DTT) : Prop where
  pt : PT X e (upT (kt X W) W.w t)
structure DW (X : Cx) (W : WT) (e : Expr) (t : DTT) : Prop where
  pw : PW X e (upT (kt X W) W.w t)
structure DA (X : Cx) (W : WT) (es : List Expr) (t : DTA) : Prop where
  pa : PA X es (upA (kt X W) W.w t)
structure DS (X : Cx) (W : WT) (s : Stmt) (t : DTS) : Prop where
  ps : PS X s (upS (kt X W) W.w t)
structure DSs (X : Cx) (W : WT) (s : List Stmt) (t : DTS) : Prop where
  ps : PSs X s (upS (kt X W) W.w t)
section
variable {X : Cx} {W : WT} {e a b : Expr} {es : List Expr} {st : Stmt} {sts : List Stmt}
theorem peW {t t' : TE} (p : PE X e t) (h : ∀ σ H Q, t' σ H Q → t σ H Q) : PE X e t' := ⟨fun pins s σ H Q I q => p.run pins s σ H Q I (h σ H Q q)⟩
theorem ptW {t t' : TT} (p : PT X e t) (h : ∀ σ H Q, t' σ H Q → t σ H Q) : PT X e t' := ⟨fun pins s σ H Q I q => p.run pins s σ H Q I (h σ H Q q)⟩
theorem pwW {t t' : TT} (p : PW X e t) (h : ∀ σ H Q, t' σ H Q → t σ H Q) : PW X e t' := ⟨fun wh pins s σ H Q I q => p.run wh pins s σ H Q I (h σ H Q q)⟩
theorem paW {t t' : TA} (p : PA X es t) (h : ∀ σ H Q, t' σ H Q → t σ H Q) : PA X es t' := ⟨fun pos pins s σ H Q I q => p.run pos pins s σ H Q I (h σ H Q q)⟩
theorem psW {t t' : TS} (p : PS X st t) (h : ∀ D σ H, t' D σ H → t D σ H) : PS X st t' := ⟨fun pins s σ H D I q => p.run pins s σ H D I (h D σ H q)⟩
theorem pssW {t t' : TS} (p : PSs X sts t) (h : ∀ D σ H, t' D σ H → t D σ H) : PSs X sts t' := ⟨fun pins s σ H D I q => p.run pins s σ H D I (h D σ H q)⟩
def dVar (i : Nat) : DTE := fun Γ M Q _ => ∃ d, Γ[i]? = some (some d) ∧ Q d M
theorem dv (i : Nat) {x : Str} {pos : Pos} (hN : X.N[i]? = some x := by rfl) (hv : Vis X.env.scope x := by first | exact Or.inl rfl | exact Or.inr (Or.inl rfl) | exact Or.inr (Or.inr rfl)) (hd : (x == ("__debug__" : Str)) = false := by decide)
    (hcd : (x == ("__classdict__" : Str)) = false := by decide) : DE X W (.Name x pos) (dVar i) :=
  ⟨peW (pe_var (i := i) hN hv hd hcd) fun σ H Q ⟨Γ, M, F, E, Qd, a, ⟨d, e, q⟩, k⟩ => by
    obtain ⟨v, e1, r⟩ := a.g.at_ i d e
    exact ⟨v, e1, k F H v d M (Same.refl _) a.c r q⟩⟩
def dC (d : D) : DTE := fun _ M Q _ => Q d M
theorem deC {v : V} {d : D} (p : PE X e (tC v)) (r : ∀ F, Rp (kt X W) F v d) : DE X W e (dC d) :=
  ⟨peW p fun σ H Q ⟨Γ, M, F, E, Qd, a, q, k⟩ => k F H v d M (Same.refl _) a.c (r F) q⟩
theorem de_int {i j pos} : DE X W (.Constant (.int i) j pos) (dC (.int i)) := deC pe_int fun _ => .int i
theorem de_bl {b j pos} : DE X W (.Constant (.bool b) j pos) (dC (.bl b)) := deC pe_bl fun _ => .bl b
theorem de_non {j pos} : DE X W (.Constant .none j pos) (dC .non) := deC pe_non fun _ => .non
theorem de_str {x j pos} : DE X W (.Constant (.str x) j pos) (dC (.str x)) := deC pe_str fun _ => .str x
theorem de_glob {x : Str} {v : V} {d : D} {u : Value} {pos : Pos} (hg : Gl X x) (hm : X.mg x = some u) (r : RelV v u) (hr : ∀ F, Rp (kt X W) F v d) (hd : (x == ("__debug__" : Str)) = false := by decide) : DE X W (.Name x pos) (dC d) :=
  deC (pe_glob hg hm r hd) hr
def dNil : DTA := fun _ M Q _ => Q [] M
def dCons (ta : DTE) (tr : DTA) : DTA := fun Γ M Q E => ta Γ M (fun x M1 => tr Γ M1 (fun xs M2 => Q (x :: xs) M2) E) E
theorem da_nil : DA X W [] dNil := ⟨paW pa_nil fun σ H Q ⟨Γ, M, F, E, Qd, a, q, k⟩ => k F H [] [] M (Same.refl _) a.c .nil q⟩
theorem da_cons {te : DTE} {t : DTA} (ha : DE X W e te) (hr : DA X W es t) (hs : starEach (e :: es) X.env = (false, eval e X.env) :: starEach es X.env := by rfl) : DA X W (e :: es) (dCons te t) :=
  ⟨paW (pa_cons ha.pe hr.pa hs) fun σ H Q ⟨Γ, M, F, E, Qd, a, q, k⟩ => ⟨Γ, M, F, E, _, a, q, fun F1 H1 v d M1 s1 c1 r1 q1 =>
    ⟨Γ, M1, F1, E, _, a.next s1 c1, q1, fun F2 H2 vs ds M2 s2 c2 r2 q2 => k F2 H2 _ _ M2 (s1.trans s2) c2 (.cons (r1.mono s2) r2) q2⟩⟩⟩
def dTup (t : DTA) : DTE := fun Γ M Q E => t Γ M (fun xs M1 => xs.length ≤ sizeLine ∧ Q (.tup xs) M1) E
theorem de_tup {x1 pos} {t : DTA} (h : DA X W es t) : DE X W (.Tuple es x1 pos) (dTup t) :=
  ⟨peW (pe_tup h.pa) fun σ H Q ⟨Γ, M, F, E, Qd, a, q, k⟩ => ⟨Γ, M, F, E, _, a, q, fun F1 H1 vs ds M1 s1 c1 r1 ⟨z, q1⟩ => ⟨by rw [r1.length]; exact z, fun p hp =>
    k _ _ _ _ M1 (s1.trans (Same.upd (c1.Fnone hp))) (c1.newF hp) (.tup (.inl upd_same) (r1.mono (Same.upd (c1.Fnone hp)))) q1⟩⟩⟩
/-- a new list, frozen at once -/
def dLst (t : DTA) : DTE := fun Γ M Q E => t Γ M (fun xs M1 => xs.length ≤ sizeLine ∧ Q (.lst xs) M1) E
theorem de_lst {pos} {t : DTA} (h : DA X W es t) : DE X W (.List es pos) (dLst t) :=
  ⟨peW (pe_lst h.pa) fun σ H Q ⟨Γ, M, F, E, Qd, a, q, k⟩ => ⟨Γ, M, F, E, _, a, q, fun F1 H1 vs ds M1 s1 c1 r1 ⟨z, q1⟩ => ⟨by rw [r1.length]; exact z, fun p hp =>
    k _ _ _ _ M1 (s1.trans (Same.upd (c1.Fnone hp))) (c1.newF hp) (.lst upd_same (r1.mono (Same.upd (c1.Fnone hp)))) q1⟩⟩⟩
/-- a new list, a cell -/
def dLstO (t : DTA) : DTE := fun Γ M Q E => t Γ M (fun xs M1 => xs.length ≤ sizeLine ∧ ∀ p, M1 p = none → Q (.ref p) (mup M1 p (.lst xs))) E
theorem de_lstO {pos} {t : DTA} (h : DA X W es t) : DE X W (.List es pos) (dLstO t) :=
  ⟨peW (pe_lst h.pa) fun σ H Q ⟨Γ, M, F, E, Qd, a, q, k⟩ => ⟨Γ, M, F, E, _, a, q, fun F1 H1 vs ds M1 s1 c1 r1 ⟨z, q1⟩ => ⟨by rw [r1.length]; exact z, fun p hp =>
    k _ _ _ _ _ s1 (c1.newM (x := .lst ds) hp ⟨vs, rfl, r1⟩) (.ref p) (q1 p (c1.Mnone hp))⟩⟩⟩
abbrev D2 := D → D → Mp → DQ → Prop
def Real2 (K : KTb) (r : R2) (rd : D2) : Prop := ∀ (F H : Hp) (M : Mp) (x y : V) (d e : D) (Qd : DQ) (Q : VK), Cc K M F H → Rp K F x d → Rp K F y e → rd d e M Qd → CoQ K F Qd Q → r x y H Q
def dOp (rd : D2) (ta tb : DTE) : DTE := fun Γ M Q E => ta Γ M (fun x M1 => tb Γ M1 (fun y M2 => rd x y M2 Q) E) E
theorem upOp {r : R2} {rd : D2} {ta tb : DTE} {σ : St} {H : Hp} {Q : VK} (hr : Real2 (kt X W) r rd) (h : upE (kt X W) W.w (dOp rd ta tb) σ H Q) : tOp r (upE (kt X W) W.w ta) (upE (kt X W) W.w tb) σ H Q := by
  obtain ⟨Γ, M, F, E, Qd, a, q, k⟩ := h
  exact ⟨Γ, M, F, E, _, a, q, fun F1 H1 v d M1 s1 c1 r1 q1 => ⟨Γ, M1, F1, E, _, a.next s1 c1, q1, fun F2 H2 w e M2 s2 c2 r2 q2 => hr F2 H2 M2 v w d e Qd Q c2 (r1.mono s2) r2 q2 (k.mono (s1.trans s2))⟩⟩
theorem de_op {op : Operator} {r : R2} {rd : D2} {ta tb : DTE} {pos : Pos} (ho : OpR X (binaryOp op) r) (hr : Real2 (kt X W) r rd) (ha : DE X W a ta) (hb : DE X W b tb) : DE X W (.BinOp a op b pos) (dOp rd ta tb) :=
  ⟨peW (pe_op ho ha.pe hb.pe) fun _ _ _ h => upOp hr h⟩
theorem de_cmp {op : CmpOp} {r : R2} {rd : D2} {ta tb : DTE} {pos : Pos} (ho : OpR X (compareOp op) r) (hr : Real2 (kt X W) r rd) (ha : DE X W a ta) (hb : DE X W b tb) (hm : behindInMarks op b = false) : DE X W (.Compare a [op] [b] pos) (dOp rd ta tb) :=
  ⟨peW (pe_cmpR ho ha.pe hb.pe hm) fun _ _ _ h => upOp hr h⟩
/-- a value as a test -/
def dTest (t : DTE) : DTT := fun Γ M Q E => t Γ M (fun x M1 => ∃ k, x = .bl k ∧ Q k M1) E
theorem upTest {t : DTE} {σ : St} {H : Hp} {Q : Bool → Hp → Prop} (h : upT (kt X W) W.w (dTest t) σ H Q) : upE (kt X W) W.w t σ H (fun x H' => ∃ k, x = V.bl k ∧ Q k H') := by
  obtain ⟨Γ, M, F, E, Qd, a, q, k⟩ := h
  refine ⟨Γ, M, F, E, _, a, q, fun F1 H1 v d M1 s1 c1 r1 ⟨b, e, q1⟩ => ?_⟩
  subst e
  cases r1
  exact ⟨b, rfl, k F1 H1 b M1 s1 c1 q1⟩
theorem dt_val {t : DTE} (h : DE X W e t) (he : ∀ whole, isTrue e X.env whole = (do let v ← whole; standAt e.pos; holding [v] (truthy v)) := by intro _; rfl) : DT X W e (dTest t) := ⟨ptW (pt_val h.pe he) fun σ H Q q => upTest q⟩
theorem dt_cmp {op : CmpOp} {r : R2} {rd : D2} {ta tb : DTE} {pos : Pos} (ho : OpR X (compareOp op) r) (hr : Real2 (kt X W) r rd) (ha : DE X W a ta) (hb : DE X W b tb) (hm : behindInMarks op b = false) : DT X W (.Compare a [op] [b] pos) (dTest (dOp rd ta tb)) :=
  ⟨ptW (pt_cmpR ho ha.pe hb.pe hm) fun σ H Q q => upOp hr (upTest q)⟩
/-- a op b op c -/
def dChain (rd rd' : D2) (ta tb tc : DTE) : DTE := fun Γ M Q E => ta Γ M (fun x M1 => tb Γ M1 (fun y M2 => rd x y M2 (fun z M3 => ∃ k, z = .bl k ∧
  (if k = true then tc Γ M3 (fun w M4 => rd' y w M4 Q) E else Q (.bl false) M3))) E) E
theorem upChain {r r' : R2} {rd rd' : D2} {ta tb tc : DTE} {σ : St} {H : Hp} {Q : VK} (hr : Real2 (kt X W) r rd) (hr' : Real2 (kt X W) r' rd') (h : upE (kt X W) W.w (dChain rd rd' ta tb tc) σ H Q) : tChain r r' (upE (kt X W) W.w ta) (upE (kt X W) W.w tb) (upE (kt X W) W.w tc) σ H Q := by
  obtain ⟨Γ, M, F, E, Qd, a, q, k⟩ := h
  refine ⟨Γ, M, F, E, _, a, q, fun F1 H1 v d M1 s1 c1 r1 q1 => ⟨Γ, M1, F1, E, _, a.next s1 c1, q1, fun F2 H2 w e M2 s2 c2 r2 q2 => hr F2 H2 M2 v w d e _ _ c2 (r1.mono s2) r2 q2 fun F3 H3 z dz M3 s3 c3 r3 ⟨b, eb, q3⟩ => ?_⟩⟩
  subst eb
  cases r3
  refine ⟨b, rfl, ?_⟩
  cases b with
  | false =>
    rw [if_neg Bool.false_ne_true] at q3 ⊢
    exact k F3 H3 _ _ M3 ((s1.trans s2).trans s3) c3 (.bl false) q3
  | true =>
    rw [if_pos rfl] at q3 ⊢
    exact ⟨Γ, M3, F3, E, _, a.next ((s1.trans s2).trans s3) c3, q3, fun F4 H4 u f M4 s4 c4 r4 q4 => hr' F4 H4 M4 w u e f Qd Q c4 (r2.mono (s3.trans s4)) r4 q4 (k.mono (((s1.trans s2).trans s3).trans s4))⟩
theorem de_chain {c : Expr} {op op' : CmpOp} {r r' : R2} {rd rd' : D2} {ta tb tc : DTE} {pos : Pos} (ho : OpR X (compareOp op) r) (ho' : OpR X (compareOp op') r') (hr : Real2 (kt X W) r rd) (hr' : Real2 (kt X W) r' rd') (ha : DE X W a ta) (hb : DE X W b tb) (hc : DE X W c tc)
    (hm : lastMarks [op, op'] [b, c] = false := by with_unfolding_all rfl) : DE X W (.Compare a [op, op'] [b, c] pos) (dChain rd rd' ta tb tc) :=
  ⟨peW (pe_chain ho ho' ha.pe hb.pe hc.pe hm) fun _ _ _ h => upChain hr hr' h⟩
theorem dt_chain {c : Expr} {op op' : CmpOp} {r r' : R2} {rd rd' : D2} {ta tb tc : DTE} {pos : Pos} (ho : OpR X (compareOp op) r) (ho' : OpR X (compareOp op') r') (hr : Real2 (kt X W) r rd) (hr' : Real2 (kt X W) r' rd') (ha : DE X W a ta) (hb : DE X W b tb) (hc : DE X W c tc)
    (hm : lastMarks [op, op'] [b, c] = false := by with_unfolding_all rfl) : DT X W (.Compare a [op, op'] [b, c] pos) (dTest (dChain rd rd' ta tb tc)) :=
  ⟨ptW (pt_chain ho ho' ha.pe hb.pe hc.pe hm) fun σ H Q q => upChain hr hr' (upTest q)⟩
def dAnd (t u : DTT) : DTT := fun Γ M Q E => t Γ M (fun c M1 => if c = true then u Γ M1 Q E else Q false M1) E
def dOr (t u : DTT) : DTT := fun Γ M Q E => t Γ M (fun c M1 => if c = true then Q true M1 else u Γ M1 Q E) E
def dNot (t : DTT) : DTT := fun Γ M Q E => t Γ M (fun c M1 => Q (!c) M1) E
theorem upAnd {t u : DTT} {σ : St} {H : Hp} {Q : Bool → Hp → Prop} (h : upT (kt X W) W.w (dAnd t u) σ H Q) : tAnd (upT (kt X W) W.w t) (upT (kt X W) W.w u) σ H Q := by
  obtain ⟨Γ, M, F, E, Qd, a, q, k⟩ := h
  refine ⟨Γ, M, F, E, _, a, q, fun F1 H1 b M1 s1 c1 q1 => ?_⟩
  cases b with
  | false =>
    rw [if_neg Bool.false_ne_true] at q1 ⊢
    exact k F1 H1 _ M1 s1 c1 q1
  | true =>
    rw [if_pos rfl] at q1 ⊢
    exact ⟨Γ, M1, F1, E, _, a.next s1 c1, q1, fun F2 H2 b M2 s2 c2 q2 => k F2 H2 b M2 (s1.trans s2) c2 q2⟩
theorem upOr {t u : DTT} {σ : St} {H : Hp} {Q : Bool → Hp → Prop} (h : upT (kt X W) W.w (dOr t u) σ H Q) : tOr (upT (kt X W) W.w t) (upT (kt X W) W.w u) σ H Q := by
  obtain ⟨Γ, M, F, E, Qd, a, q, k⟩ := h
  refine ⟨Γ, M, F, E, _, a, q, fun F1 H1 b M1 s1 c1 q1 => ?_⟩
  cases b with
  | true =>
    rw [if_pos rfl] at q1 ⊢
    exact k F1 H1 _ M1 s1 c1 q1
  | false =>
    rw [if_neg Bool.false_ne_true] at q1 ⊢
    exact ⟨Γ, M1, F1, E, _, a.next s1 c1, q1, fun F2 H2 b M2 s2 c2 q2 => k F2 H2 b M2 (s1.trans s2) c2 q2⟩
theorem upNot {t : DTT} {σ : St} {H : Hp} {Q : Bool → Hp → Prop} (h : upT (kt X W) W.w (dNot t) σ H Q) : tNot (upT (kt X W) W.w t) σ H Q := by
  obtain ⟨Γ, M, F, E, Qd, a, q, k⟩ := h
  exact ⟨Γ, M, F, E, _, a, q, fun F1 H1 b M1 s1 c1 q1 => k F1 H1 _ M1 s1 c1 q1⟩
end
end DL
namespace DL
open PySem L2
/-- a list: frozen, a cell, the script -/
def sqD (M : Mp) : D → Option (List D)
  | .lst xs => some xs
  | .scr ns => some (ns.map D.int)
  | .ref p => match M p with
    | some (.lst xs) => some xs
    | _ => none
  | _ => none
/-- a list that is not the script -/
def sqX (M : Mp) : D → Option (List D)
  | .lst xs => some xs
  | .ref p => match M p with
    | some (.lst xs) => some xs
    | _ => none
  | _ => none
def tpD : D → Option (List D)
  | .tup xs => some xs
  | _ => none
/-- a list or a tuple -/
def seqD (M : Mp) (d : D) : Option (List D) := match tpD d with
  | some xs => some xs
  | none => sqD M d
/-- a cell's list read as data -/
def res (M : Mp) (d : D) : D := match sqD M d with
  | some xs => .lst xs
  | none => d
theorem sqD_lst {M : Mp} {xs : List D} : sqD M (.lst xs) = some xs := rfl
theorem sqD_ref {M : Mp} {p : Addr} {xs : List D} (h : M p = some (.lst xs)) : sqD M (.ref p) = some xs := by simp [sqD, h]
theorem sqX_ref {M : Mp} {p : Addr} {xs : List D} (h : M p = some (.lst xs)) : sqX M (.ref p) = some xs := by simp [sqX, h]
section
variable {K : KTb} {M : Mp} {F H : Hp} {v : V} {d : D} {xs : List D}
theorem sq_of (c : Cc K M F H) (r : Rp K F v d) (h : sqD M d = some xs) : ∃ a vs, v = .ref a ∧ SqL K.K H a vs ∧ Rps K F vs xs := by
  cases d with
  | lst ys =>
    cases h
    cases r with
    | lst h1 h2 => exact ⟨_, _, rfl, .inl (c.fr _ _ h1).rd, h2⟩
  | scr ns =>
    cases h
    cases r with
    | scr h1 =>
      rcases h1 with h1 | ⟨ob, h1⟩ | h1
      · exact ⟨_, _, rfl, .inl (c.fr _ _ h1).rd, .ofInts ns⟩
      · refine ⟨_, _, rfl, .inl (.inr ⟨ob, ?_⟩), .ofInts ns⟩
        rcases c.fr _ _ h1 with z | ⟨⟨_, z⟩, _⟩
        · exact z
        · cases z
      · exact ⟨_, _, rfl, .inr h1, .ofInts ns⟩
  | ref p =>
    cases r
    cases e : M p with
    | none => simp [sqD, e] at h
    | some x =>
      obtain ⟨_, o, h2, h3⟩ := c.ow _ _ e
      cases x with
      | lst ys =>
        simp [sqD, e] at h
        subst h
        obtain ⟨vs, e1, h4⟩ := h3
        exact ⟨p, vs, rfl, .inl (.inl (by rw [h2, e1])), h4⟩
      | dic ys => simp [sqD, e] at h
      | dit ys => simp [sqD, e] at h
      | lkd ys u => simp [sqD, e] at h
      | ins C fs => simp [sqD, e] at h
      | opq φ => simp [sqD, e] at h
  | _ => simp [sqD] at h
theorem sqx_of (c : Cc K M F H) (r : Rp K F v d) (h : sqX M d = some xs) : ∃ a vs, v = .ref a ∧ H a = some (.lst vs) ∧ Rps K F vs xs := by
  cases d with
  | lst ys =>
    cases h
    cases r with
    | lst h1 h2 => exact ⟨_, _, rfl, (c.fr _ _ h1).lst, h2⟩
  | ref p =>
    cases r
    cases e : M p with
    | none => simp [sqX, e] at h
    | some x =>
      obtain ⟨_, o, h2, h3⟩ := c.ow _ _ e
      cases x with
      | lst ys =>
        simp [sqX, e] at h
        subst h
        obtain ⟨vs, e1, h4⟩ := h3
        exact ⟨p, vs, rfl, by rw [h2, e1], h4⟩
      | dic ys => simp [sqX, e] at h
      | dit ys => simp [sqX, e] at h
      | lkd ys u => simp [sqX, e] at h
      | ins C fs => simp [sqX, e] at h
      | opq φ => simp [sqX, e] at h
  | _ => simp [sqX] at h
theorem tp_of (c : Cc K M F H) (r : Rp K F v (.tup xs)) : ∃ a vs, v = .ref a ∧ SqT K.K H a vs ∧ Rps K F vs xs := by
  cases r with
  | tup h1 h2 =>
    rcases h1 with h1 | h1
    · exact ⟨_, _, rfl, .inl (c.fr _ _ h1).rd, h2⟩
    · exact ⟨_, _, rfl, .inr h1.2, h2⟩
theorem tpD_eq (h : tpD d = some xs) : d = .tup xs := by
  cases d <;> simp [tpD] at h
  rw [h]
/-- a frozen or cell list told as data -/
theorem res_of (c : Cc K M F H) (r : Rp K F v d) : (∃ xs a vs, sqD M d = some xs ∧ res M d = .lst xs ∧ v = .ref a ∧ SqL K.K H a vs ∧ Rps K F vs xs) ∨ (sqD M d = none ∧ res M d = d) := by
  cases e : sqD M d with
  | none => exact .inr ⟨rfl, by simp [res, e]⟩
  | some xs =>
    obtain ⟨a, vs, h1, h2, h3⟩ := sq_of c r e
    exact .inl ⟨xs, a, vs, rfl, by simp [res, e], h1, h2, h3⟩
end
mutual
def D.py : D → PyData
  | .non => .none
  | .bl b => .bool b
  | .int i => .int i
  | .str x => .str x
  | .ref _ => .dict []
  | .tup xs => .tuple (pys xs)
  | .lst xs => .list (pys xs)
  | .dic _ => .dict []
  | .scr _ => .dict []
  | .obj _ _ => .dict []
  | .dit _ => .dict []
  | .any _ _ => .dict []
def pys : List D → List PyData
  | [] => []
  | d :: ds => d.py :: pys ds
end
theorem pys_map : ∀ ds : List D, pys ds = ds.map D.py
  | [] => by simp [pys]
  | d :: ds => by simp [pys, pys_map ds]
mutual
theorem dp_of {K : KTb} {M : Mp} {F H : Hp} (c : Cc K M F H) : ∀ (d : D) (v : V), Rp K F v d → d.py.canLay0 = true → Dp K.K H v d.py
  | .non, _, r, _ => by cases r; simp only [D.py]; exact .non
  | .bl b, _, r, _ => by cases r; simp only [D.py]; exact .bl b
  | .int b, _, r, _ => by cases r; simp only [D.py]; exact .int b
  | .str b, _, r, _ => by cases r; simp only [D.py]; exact .str b
  | .ref p, _, r, h => by simp [D.py, PyData.canLay0] at h
  | .dic p, _, r, h => by simp [D.py, PyData.canLay0] at h
  | .scr p, _, r, h => by simp [D.py, PyData.canLay0] at h
  | .obj _ _, _, r, h => by simp [D.py, PyData.canLay0] at h
  | .dit _, _, r, h => by simp [D.py, PyData.canLay0] at h
  | .any p _, _, r, h => by simp [D.py, PyData.canLay0] at h
  | .tup xs, _, r, h => by
    obtain ⟨a, vs, rfl, h1, h2⟩ := tp_of c r
    simp only [D.py, PyData.canLay0] at h ⊢
    exact .tup h1 (dps_of c xs vs h2 h)
  | .lst xs, _, r, h => by
    obtain ⟨a, vs, rfl, h1, h2⟩ := sq_of c r (sqD_lst (xs := xs))
    simp only [D.py, PyData.canLay0] at h ⊢
    exact .lst h1 (dps_of c xs vs h2 h)
theorem dps_of {K : KTb} {M : Mp} {F H : Hp} (c : Cc K M F H) : ∀ (ds : List D) (vs : List V), Rps K F vs ds → PyData.canLayAll0 (pys ds) = true → DpAll K.K H vs (pys ds)
  | [], _, r, _ => by cases r; simp only [pys]; exact .nil
  | d :: ds, _, r, h => by
    cases r with
    | cons r1 r2 =>
      simp only [pys, PyData.canLayAll0, Bool.and_eq_true] at h ⊢
      exact .cons (dp_of c d _ r1 h.1) (dps_of c ds _ r2 h.2)
end
def shD (d : D) : Bool := SeqAt.shaped d.py
def deq (d e : D) : Bool := PyData.eqv d.py e.py
theorem shD_lay {d : D} (h : shD d = true) : d.py.canLay0 = true := SeqAt.canLay_of_shaped h
theorem dp_res {K : KTb} {M : Mp} {F H : Hp} {v : V} {d : D} (c : Cc K M F H) (r : Rp K F v d) (h : shD (res M d) = true) : Dp K.K H v (res M d).py := by
  rcases res_of c r with ⟨xs, a, vs, _, e2, e3, h1, h2⟩ | ⟨_, e⟩
  · subst e3
    rw [e2] at h ⊢
    have h' := shD_lay h
    simp only [D.py, PyData.canLay0] at h' ⊢
    exact .lst h1 (dps_of c xs vs h2 h')
  · rw [e] at h ⊢
    exact dp_of c d v r (shD_lay h)
def rdEq : D2 := fun x y M Q => shD (res M x) = true ∧ shD (res M y) = true ∧ Q (.bl (deq (res M x) (res M y))) M
def rdNe : D2 := fun x y M Q => shD (res M x) = true ∧ shD (res M y) = true ∧ Q (.bl (!deq (res M x) (res M y))) M
theorem real_eq {K : KTb} : Real2 K (rEqD K.K) rdEq := fun F H M x y d e Qd Q c rx ry ⟨h1, h2, q⟩ k => ⟨_, _, dp_res c rx h1, dp_res c ry h2, h1, h2, k F H _ _ M (Same.refl _) c (.bl _) q⟩
theorem real_ne {K : KTb} : Real2 K (rNeD K.K) rdNe := fun F H M x y d e Qd Q c rx ry ⟨h1, h2, q⟩ k => ⟨_, _, dp_res c rx h1, dp_res c ry h2, h1, h2, k F H _ _ M (Same.refl _) c (.bl _) q⟩
/-- x in a list -/
def rdIn (neg : Bool) : D2 := fun x y M Q => ∃ ys, res M y = .lst ys ∧ shD (res M x) = true ∧ shD (.lst ys) = true ∧ Q (.bl (if neg then !(ys.any fun z => deq z (res M x)) else ys.any fun z => deq z (res M x))) M
def rdI (g : Int → Int → D) : D2 := fun x y M Q => ∃ i j, x = .int i ∧ y = .int j ∧ Q (g i j) M
def rdIc (C : Int → Int → Prop) (g : Int → Int → D) : D2 := fun x y M Q => ∃ i j, x = .int i ∧ y = .int j ∧ C i j ∧ Q (g i j) M
theorem real_I {K : KTb} {g : Int → Int → V} {g' : Int → Int → D} (h : ∀ F i j, Rp K F (g i j) (g' i j)) : Real2 K (rI0 g) (rdI g') := fun F H M x y d e Qd Q c rx ry ⟨i, j, e1, e2, q⟩ k => by
  subst e1
  subst e2
  cases rx
  cases ry
  exact ⟨i, j, rfl, rfl, k F H _ _ M (Same.refl _) c (h F i j) q⟩
theorem real_Ic {K : KTb} {C : Int → Int → Prop} {g : Int → Int → V} {g' : Int → Int → D} (h : ∀ F i j, Rp K F (g i j) (g' i j)) : Real2 K (rI C g) (rdIc C g') := fun F H M x y d e Qd Q c rx ry ⟨i, j, e1, e2, hc, q⟩ k => by
  subst e1
  subst e2
  cases rx
  cases ry
  exact ⟨i, j, rfl, rfl, hc, k F H _ _ M (Same.refl _) c (h F i j) q⟩
theorem real_lt {K : KTb} : Real2 K (rI0 fun i j => .bl (decide (i < j))) (rdI fun i j => .bl (decide (i < j))) := real_I fun _ _ _ => .bl _
theorem real_le {K : KTb} : Real2 K (rI0 fun i j => .bl (decide (i ≤ j))) (rdI fun i j => .bl (decide (i ≤ j))) := real_I fun _ _ _ => .bl _
theorem real_gt {K : KTb} : Real2 K (rI0 fun i j => .bl (decide (j < i))) (rdI fun i j => .bl (decide (j < i))) := real_I fun _ _ _ => .bl _
theorem real_ge {K : KTb} : Real2 K (rI0 fun i j => .bl (decide (j ≤ i))) (rdI fun i j => .bl (decide (j ≤ i))) := real_I fun _ _ _ => .bl _
theorem real_mod {K : KTb} : Real2 K (rI (fun _ j => 0 < j) fun i j => .int (i % j)) (rdIc (fun _ j => 0 < j) fun i j => .int (i % j)) := real_Ic fun _ _ _ => .int _
theorem real_fdiv {K : KTb} : Real2 K (rI CDiv fun i j => .int (i / j)) (rdIc CDiv fun i j => .int (i / j)) := real_Ic fun _ _ _ => .int _
theorem real_pow {K : KTb} : Real2 K (rI CPow fun i j => .int (i ^ j.toNat)) (rdIc CPow fun i j => .int (i ^ j.toNat)) := real_Ic fun _ _ _ => .int _
theorem real_shl {K : KTb} : Real2 K (rI CPow fun i j => .int (i * 2 ^ j.toNat)) (rdIc CPow fun i j => .int (i * 2 ^ j.toNat)) := real_Ic fun _ _ _ => .int _
theorem real_or {K : KTb} : Real2 K (rI0 fun i j => .int (Builtin.bitOr i j)) (rdI fun i j => .int (Builtin.bitOr i j)) := real_I fun _ _ _ => .int _
/-- a + b: ints, texts, lists (a new list, frozen) -/
def rdAdd : D2 := fun x y M Q => match x, y with
  | .int i, .int j => Q (.int (i + j)) M
  | .str i, .str j => i.length + j.length ≤ sizeLine ∧ Q (.str (i ++ j)) M
  | x, y => ∃ xs ys, sqX M x = some xs ∧ sqX M y = some ys ∧ xs.length + ys.length ≤ sizeLine ∧ Q (.lst (xs ++ ys)) M
def rAdd3 : R2 := fun x y H Q => rI0 (fun i j => .int (i + j)) x y H Q ∨ ((∃ i j, x = .str i ∧ y = .str j ∧ i.length + j.length ≤ sizeLine ∧ Q (.str (i ++ j)) H) ∨ rCat x y H Q)
theorem op_add3 {X : Cx} : OpR X (binaryOp .Add) rAdd3 := op_add.or (op_add_str.or op_cat)
theorem real_cat {K : KTb} : Real2 K rCat (fun x y M Q => ∃ xs ys, sqX M x = some xs ∧ sqX M y = some ys ∧ xs.length + ys.length ≤ sizeLine ∧ Q (.lst (xs ++ ys)) M) := fun F H M x y d e Qd Q c rx ry ⟨xs, ys, e1, e2, hz, q⟩ k => by
  obtain ⟨a, vs, rfl, h1, r1⟩ := sqx_of c rx e1
  obtain ⟨b, us, rfl, h2, r2⟩ := sqx_of c ry e2
  refine ⟨a, b, vs, us, rfl, rfl, h1, h2, by rw [r1.length, r2.length]; exact hz, fun p hp => ?_⟩
  have s := Same.upd (o := .lst (vs ++ us)) (c.Fnone hp)
  exact k _ _ _ _ M s (c.newF hp) (.lst upd_same ((r1.append r2).mono s)) q
theorem real_add {K : KTb} : Real2 K rAdd3 rdAdd := fun F H M x y d e Qd Q c rx ry q k => by
  unfold rdAdd at q
  split at q
  · exact .inl (real_I (g' := fun i j => .int (i + j)) (fun _ _ _ => .int _) F H M x y _ _ Qd Q c rx ry ⟨_, _, rfl, rfl, q⟩ k)
  · obtain ⟨h1, q⟩ := q
    cases rx
    cases ry
    exact .inr (.inl ⟨_, _, rfl, rfl, h1, k F H _ _ M (Same.refl _) c (.str _) q⟩)
  · exact .inr (.inr (real_cat F H M x y _ _ Qd Q c rx ry q k))
/-- a * b: ints, a list some times -/
def rdMul : D2 := fun x y M Q => match x, y with
  | .int i, .int j => CMul i j ∧ Q (.int (i * j)) M
  | x, y => ∃ xs k, sqX M x = some xs ∧ y = .int k ∧ -(2 ^ 63) ≤ k ∧ k < 2 ^ 63 ∧ xs.length * k.toNat ≤ sizeLine ∧ Q (.lst (List.replicate k.toNat xs).flatten) M
def rMul2 : R2 := fun x y H Q => rI CMul (fun i j => .int (i * j)) x y H Q ∨ rRep x y H Q
theorem op_mul2 {X : Cx} : OpR X (binaryOp .Mult) rMul2 := op_mul.or op_rep
theorem rps_rep {K : KTb} {F : Hp} {vs : List V} {ds : List D} (r : Rps K F vs ds) : ∀ n : Nat, Rps K F (List.replicate n vs).flatten (List.replicate n ds).flatten
  | 0 => .nil
  | n + 1 => by
    rw [List.replicate_succ, List.replicate_succ, List.flatten_cons, List.flatten_cons]
    exact r.append (rps_rep r n)
theorem real_mul {K : KTb} : Real2 K rMul2 rdMul := fun F H M x y d e Qd Q c rx ry q k => by
  unfold rdMul at q
  split at q
  · exact .inl (real_Ic (g' := fun i j => .int (i * j)) (fun _ _ _ => .int _) F H M x y _ _ Qd Q c rx ry ⟨_, _, rfl, rfl, q⟩ k)
  · obtain ⟨xs, n, e1, e2, h1, h2, h3, q⟩ := q
    subst e2
    cases ry
    obtain ⟨a, vs, rfl, h4, r1⟩ := sqx_of c rx e1
    refine .inr ⟨a, n, vs, rfl, rfl, h4, h1, h2, by rw [r1.length]; exact h3, fun p hp => ?_⟩
    have s := Same.upd (o := .lst (List.replicate n.toNat vs).flatten) (c.Fnone hp)
    exact k _ _ _ _ M s (c.newF hp) (.lst upd_same ((rps_rep r1 _).mono s)) q
/-- is None, is not None -/
def rdIsN (neg : Bool) : D2 := fun x y M Q => y = .non ∧ Q (.bl (if neg then (match x with | .non => false | _ => true) else (match x with | .non => true | _ => false))) M
theorem real_isN {K : KTb} : Real2 K (fun x y H Q => y = .non ∧ Q (.bl (decide (x = .non))) H) (rdIsN false) := fun F H M x y d e Qd Q c rx ry ⟨e1, q⟩ k => by
  subst e1
  cases ry
  refine ⟨rfl, k F H _ _ M (Same.refl _) c ?_ q⟩
  cases rx with
  | any n _ =>
    rw [decide_eq_false n]
    exact .bl _
  | _ => exact .bl _
def ixD (M : Mp) (x y : D) : Option D := match y with
  | .int i => match x with
    | .tup xs => atI xs i
    | .str z => if z.length ≤ sizeLine then (atI z.cps.toList i).map fun c => .str ⟨#[c]⟩ else none
    | x => (sqD M x).bind fun xs => atI xs i
  | _ => none
def rdIx : D2 := fun x y M Q => ∃ d, ixD M x y = some d ∧ Q d M
theorem atI_of {K : KTb} {F : Hp} {vs : List V} {ds : List D} {i : Int} {d : D} (r : Rps K F vs ds) (h : atI ds i = some d) : ∃ v, atI vs i = some v ∧ Rp K F v d := by
  unfold atI at h ⊢
  rw [r.length]
  cases e : ixN ds.length i with
  | none => rw [e] at h; cases h
  | some j =>
    rw [e] at h
    exact r.get h
theorem real_ix {K : KTb} : Real2 K (rIx K.K) rdIx := fun F H M x y d e Qd Q c rx ry ⟨z, h, q⟩ k => by
  cases e with
  | int i =>
    cases ry
    have lst : ∀ ys, sqD M d = some ys → atI ys i = some z → rIx K.K x (.int i) H Q := fun ys e1 e2 => by
      obtain ⟨a, vs, rfl, h1, r1⟩ := sq_of c rx e1
      obtain ⟨w, h2, r2⟩ := atI_of r1 e2
      exact .inl ⟨a, vs, _, w, rfl, rfl, h1, h2, k F H _ _ M (Same.refl _) c r2 q⟩
    cases d with
    | tup xs =>
      have h : atI xs i = some z := h
      obtain ⟨a, vs, rfl, h1, r1⟩ := tp_of c rx
      obtain ⟨w, h2, r2⟩ := atI_of r1 h
      exact .inr (.inl ⟨a, vs, i, w, rfl, rfl, h1, h2, k F H _ _ M (Same.refl _) c r2 q⟩)
    | str y =>
      have h : (if y.length ≤ sizeLine then (atI y.cps.toList i).map fun c => D.str ⟨#[c]⟩ else none) = some z := h
      split at h
      · rename_i hz
        cases e : atI y.cps.toList i with
        | none => rw [e] at h; cases h
        | some ch =>
          rw [e] at h
          cases h
          cases rx
          exact .inr (.inr ⟨y, i, ch, rfl, rfl, hz, e, k F H _ _ M (Same.refl _) c (.str _) q⟩)
      · cases h
    | lst ys =>
      have h : atI ys i = some z := h
      exact lst ys rfl h
    | ref p =>
      have h : ((sqD M (.ref p)).bind fun xs => atI xs i) = some z := h
      cases e : sqD M (.ref p) with
      | none => rw [e] at h; cases h
      | some ys => rw [e] at h; exact lst ys e h
    | scr ns =>
      have h : atI (ns.map D.int) i = some z := h
      exact lst _ rfl h
    | _ => cases h
  | _ => cases h
section
variable {X : Cx} {W : WT} {e a b : Expr} {es : List Expr}
theorem de_ix {ta tb : DTE} {pos : Pos} (ha : DE X W a ta) (hb : DE X W b tb) (hs : PlainIx b := by intro _ _; rfl) : DE X W (.Subscript a b pos) (dOp rdIx ta tb) :=
  ⟨peW (pe_ix ix_seq ha.pe hb.pe hs) fun _ _ _ h => upOp real_ix h⟩
abbrev DTO := DG → Mp → (Option Int → Mp → Prop) → DXE → Prop
def upO (K : KTb) (W : WX) (t : DTO) : TO := fun σ H Q => ∃ (Γ : DG) (M : Mp) (F : Hp) (E : DXE) (Qd : Option Int → Mp → Prop), At K W σ H Γ M F E ∧ t Γ M Qd E ∧
  ∀ (F' H' : Hp) (o : Option Int) (M' : Mp), Same F F' → Cc K M' F' H' → Qd o M' → Q o H'
structure DO (X : Cx) (W : WT) (e : Option Expr) (t : DTO) : Prop where
  po : PO X e (upO (kt X W) W.w t)
theorem poW {e : Option Expr} {t t' : TO} (p : PO X e t) (h : ∀ σ H Q, t' σ H Q → t σ H Q) : PO X e t' := ⟨fun pins s σ H Q I q => p.run pins s σ H Q I (h σ H Q q)⟩
def dNoPart : DTO := fun _ M Q _ => Q none M
def dPart (t : DTE) : DTO := fun Γ M Q E => t Γ M (fun x M1 => ∃ i, x = .int i ∧ Q (some i) M1) E
theorem do_none : DO X W none dNoPart := ⟨poW po_none fun σ H Q ⟨Γ, M, F, E, Qd, a, q, k⟩ => k F H _ M (Same.refl _) a.c q⟩
theorem do_some {t : DTE} (h : DE X W e t) : DO X W (some e) (dPart t) := ⟨poW (po_some h.pe) fun σ H Q ⟨Γ, M, F, E, Qd, a, q, k⟩ => ⟨Γ, M, F, E, _, a, q, fun F1 H1 v d M1 s1 c1 r1 ⟨i, e1, q1⟩ => by
  subst e1
  cases r1
  exact ⟨i, rfl, k F1 H1 _ M1 s1 c1 q1⟩⟩⟩
def cutD {α : Type} (xs : List α) (lo hi : Option Int) : List α := (xs.drop (HT.sIx xs.length 0 lo)).take (HT.sIx xs.length xs.length hi - HT.sIx xs.length 0 lo)
theorem rps_cut {K : KTb} {F : Hp} {vs : List V} {ds : List D} (r : Rps K F vs ds) (lo hi : Option Int) : Rps K F (cutV vs lo hi) (cutD ds lo hi) := by
  unfold cutV cutD
  rw [r.length]
  exact (r.drop _).take _
/-- a slice of a list (new, frozen), of a tuple (not the whole) -/
def rdSl : D → Option Int → Option Int → Mp → DQ → Prop := fun x lo hi M Q => match x with
  | .tup xs => ¬ (HT.sIx xs.length 0 lo = 0 ∧ HT.sIx xs.length xs.length hi = xs.length) ∧ Q (.tup (cutD xs lo hi)) M
  | x => ∃ xs, sqD M x = some xs ∧ Q (.lst (cutD xs lo hi)) M
def dSl (rd : D → Option Int → Option Int → Mp → DQ → Prop) (te : DTE) (tl th : DTO) : DTE := fun Γ M Q E => te Γ M (fun x M1 => tl Γ M1 (fun l M2 => th Γ M2 (fun u M3 => rd x l u M3 Q) E) E) E
def RealSl (K : KTb) (r : V → Option Int → Option Int → Hp → VK → Prop) (rd : D → Option Int → Option Int → Mp → DQ → Prop) : Prop := ∀ (F H : Hp) (M : Mp) (x : V) (d : D) (lo hi : Option Int) (Qd : DQ) (Q : VK), Cc K M F H → Rp K F x d → rd d lo hi M Qd → CoQ K F Qd Q → r x lo hi H Q
theorem upSl {r : V → Option Int → Option Int → Hp → VK → Prop} {rd : D → Option Int → Option Int → Mp → DQ → Prop} {te : DTE} {tl th : DTO} {σ : St} {H : Hp} {Q : VK} (hr : RealSl (kt X W) r rd) (h : upE (kt X W) W.w (dSl rd te tl th) σ H Q) : tSl r (upE (kt X W) W.w te) (upO (kt X W) W.w tl) (upO (kt X W) W.w th) σ H Q := by
  obtain ⟨Γ, M, F, E, Qd, a, q, k⟩ := h
  exact ⟨Γ, M, F, E, _, a, q, fun F1 H1 v d M1 s1 c1 r1 q1 => ⟨Γ, M1, F1, E, _, a.next s1 c1, q1, fun F2 H2 l M2 s2 c2 q2 => ⟨Γ, M2, F2, E, _, a.next (s1.trans s2) c2, q2, fun F3 H3 u M3 s3 c3 q3 =>
    hr F3 H3 M3 v d l u Qd Q c3 (r1.mono (s2.trans s3)) q3 (k.mono ((s1.trans s2).trans s3))⟩⟩⟩
def rSl2 (K : PySem.W.Frag) : V → Option Int → Option Int → Hp → VK → Prop := fun x lo hi H Q => rSlL K x lo hi H Q ∨ rSlT K x lo hi H Q
theorem sl_two : SlR X (rSl2 X.K) := SlR.or sl_list sl_tup
theorem real_sl {K : KTb} : RealSl K (rSl2 K.K) rdSl := fun F H M x d lo hi Qd Q c rx q k => by
  unfold rdSl at q
  split at q
  · obtain ⟨a, vs, rfl, h1, r1⟩ := tp_of c rx
    obtain ⟨h2, q⟩ := q
    refine .inr ⟨a, vs, rfl, h1, by rw [r1.length]; exact h2, fun p hp => ?_⟩
    have s := Same.upd (o := .tup (cutV vs lo hi)) (c.Fnone hp)
    exact k _ _ _ _ M s (c.newF hp) (.tup (.inl upd_same) ((rps_cut r1 lo hi).mono s)) q
  · obtain ⟨xs, e1, q⟩ := q
    obtain ⟨a, vs, rfl, h1, r1⟩ := sq_of c rx e1
    refine .inl ⟨a, vs, rfl, h1, fun p hp => ?_⟩
    have s := Same.upd (o := .lst (cutV vs lo hi)) (c.Fnone hp)
    exact k _ _ _ _ M s (c.newF hp) (.lst upd_same ((rps_cut r1 lo hi).mono s)) q
theorem de_sl {te : DTE} {tl th : DTO} {lo hi : Option Expr} {pos p2 : Pos} (he : DE X W e te) (hl : DO X W lo tl) (hu : DO X W hi th) : DE X W (.Subscript e (.Slice lo hi none p2) pos) (dSl rdSl te tl th) :=
  ⟨peW (pe_slice sl_two he.pe hl.po hu.po) fun _ _ _ h => upSl real_sl h⟩
abbrev D1s := List D → Mp → DQ → Prop
def Real1 (K : KTb) (r : List V → Hp → VK → Prop) (rd : D1s) : Prop := ∀ (F H : Hp) (M : Mp) (xs : List V) (ds : List D) (Qd : DQ) (Q : VK), Cc K M F H → Rps K F xs ds → rd ds M Qd → CoQ K F Qd Q → r xs H Q
def dCB (rd : D1s) (t : DTA) : DTE := fun Γ M Q E => t Γ M (fun ds M1 => rd ds M1 Q) E
theorem upCB {r : List V → Hp → VK → Prop} {rd : D1s} {t : DTA} {σ : St} {H : Hp} {Q : VK} (hr : Real1 (kt X W) r rd) (h : upE (kt X W) W.w (dCB rd t) σ H Q) : tCB r (upA (kt X W) W.w t) σ H Q := by
  obtain ⟨Γ, M, F, E, Qd, a, q, k⟩ := h
  exact ⟨Γ, M, F, E, _, a, q, fun F1 H1 vs ds M1 s1 c1 r1 q1 => hr F1 H1 M1 vs ds Qd Q c1 r1 q1 (k.mono s1)⟩
theorem de_callB {id : String} {x : Str} {p pos : Pos} {r : List V → Hp → VK → Prop} {rd : D1s} {t : DTA} (hc : CallR X (.builtin id) r) (hr : Real1 (kt X W) r rd) (hg : Gl X x) (hm : X.mg x = none) (hv : bootBuiltins x = some (.builtin id)) (ha : DA X W (e :: es) t) (hn : x ≠ "__name__" := by decide) (hdb : (x == ("__debug__" : Str)) = false := by decide)
    (he : starEach (e :: es) X.env = (false, eval e X.env) :: starEach es X.env := by rfl) (hpl : (backTo pos (starEach es X.env)).any (·.1) = false := by rfl) : DE X W (.Call (.Name x p) (e :: es) [] pos) (dCB rd t) :=
  ⟨peW (pe_callB hc hg hm hv ha.pa hn hdb he hpl) fun _ _ _ h => upCB hr h⟩
theorem de_callTy {T : String} {x : Str} {p pos : Pos} {r : List V → Hp → VK → Prop} {rd : D1s} {t : DTA} (hc : CallR X (.type T) r) (hr : Real1 (kt X W) r rd) (hg : Gl X x) (hm : X.mg x = none) (hv : bootBuiltins x = some (.type T)) (ha : DA X W (e :: es) t) (hn : x ≠ "__name__" := by decide) (hdb : (x == ("__debug__" : Str)) = false := by decide)
    (he : starEach (e :: es) X.env = (false, eval e X.env) :: starEach es X.env := by rfl) (hpl : (backTo pos (starEach es X.env)).any (·.1) = false := by rfl) : DE X W (.Call (.Name x p) (e :: es) [] pos) (dCB rd t) :=
  ⟨peW (pe_callTy hc hg hm hv ha.pa hn hdb he hpl) fun _ _ _ h => upCB hr h⟩
/-- len -/
def lenD (M : Mp) (d : D) : Option Nat := match d with
  | .tup xs => some xs.length
  | .str y => if y.length ≤ sizeLine then some y.length else none
  | d => (sqD M d).map List.length
def rdLen : D1s := fun ds M Q => ∃ d n, ds = [d] ∧ lenD M d = some n ∧ Q (.int (n : Nat)) M
theorem rps1 {K : KTb} {F : Hp} {vs : List V} {d : D} (r : Rps K F vs [d]) : ∃ v, vs = [v] ∧ Rp K F v d := by
  cases r with
  | cons r1 r2 =>
    cases r2
    exact ⟨_, rfl, r1⟩
theorem rps2 {K : KTb} {F : Hp} {vs : List V} {d e : D} (r : Rps K F vs [d, e]) : ∃ v w, vs = [v, w] ∧ Rp K F v d ∧ Rp K F w e := by
  cases r with
  | cons r1 r2 =>
    obtain ⟨w, rfl, r3⟩ := rps1 r2
    exact ⟨_, _, rfl, r1, r3⟩
theorem real_len {K : KTb} : Real1 K (fun xs H Q => ∃ x n, xs = [x] ∧ LenV K.K x H n ∧ Q (.int n) H) rdLen := fun F H M xs ds Qd Q c r ⟨d, n, e1, h, q⟩ k => by
  subst e1
  obtain ⟨v, rfl, rv⟩ := rps1 r
  refine ⟨v, n, rfl, ?_, k F H _ _ M (Same.refl _) c (.int _) q⟩
  have lst : (sqD M d).map List.length = some n → LenV K.K v H n := fun h => by
    cases e : sqD M d with
    | none => rw [e] at h; cases h
    | some ys =>
      rw [e] at h
      cases h
      obtain ⟨a, vs, rfl, h1, r1⟩ := sq_of c rv e
      exact .inl ⟨vs, h1, r1.length.symm⟩
  cases d with
  | tup xs =>
    obtain ⟨a, vs, rfl, h1, r1⟩ := tp_of c rv
    cases h
    exact .inr ⟨vs, h1, r1.length.symm⟩
  | str y =>
    have h : (if y.length ≤ sizeLine then some y.length else none) = some n := h
    cases rv
    split at h
    · rename_i hz
      cases h
      exact ⟨hz, rfl⟩
    · cases h
  | lst ys => exact lst h
  | ref p => exact lst h
  | _ => exact lst h
def rdInt2 (g : Int → Int → Int) : D1s := fun ds M Q => ∃ i j, ds = [.int i, .int j] ∧ Q (.int (g i j)) M
theorem real_int2 {K : KTb} {g : Int → Int → Int} : Real1 K (fun xs H Q => ∃ i j, xs = [.int i, .int j] ∧ Q (.int (g i j)) H) (rdInt2 g) := fun F H M xs ds Qd Q c r ⟨i, j, e1, q⟩ k => by
  subst e1
  obtain ⟨v, w, rfl, rv, rw⟩ := rps2 r
  cases rv
  cases rw
  exact ⟨i, j, rfl, k F H _ _ M (Same.refl _) c (.int _) q⟩
def rdAbs : D1s := fun ds M Q => ∃ i, ds = [.int i] ∧ Q (.int (if i < 0 then -i else i)) M
theorem real_abs {K : KTb} : Real1 K (fun xs H Q => ∃ i, xs = [.int i] ∧ Q (.int (if i < 0 then -i else i)) H) rdAbs := fun F H M xs ds Qd Q c r ⟨i, e1, q⟩ k => by
  subst e1
  obtain ⟨v, rfl, rv⟩ := rps1 r
  cases rv
  exact ⟨i, rfl, k F H _ _ M (Same.refl _) c (.int _) q⟩
def rdAll : D1s := fun ds M Q => ∃ (d : D) (bs : List Bool), ds = [d] ∧ sqD M d = some (bs.map D.bl) ∧ Q (.bl (bs.all id)) M
theorem real_all {K : KTb} : Real1 K (rAll K.K) rdAll := fun F H M xs ds Qd Q c r ⟨d, bs, e1, h, q⟩ k => by
  subst e1
  obtain ⟨v, rfl, rv⟩ := rps1 r
  obtain ⟨a, vs, rfl, h1, r1⟩ := sq_of c rv h
  rw [r1.bls] at h1
  exact ⟨a, bs, rfl, h1, k F H _ _ M (Same.refl _) c (.bl _) q⟩
end
end DL
namespace DL
open PySem L2 PyProof.Rows
structure DIt where
  seq : List D
  ok : Mp → Prop
def RealIt (K : KTb) (F0 : Hp) (J : It) (it : DIt) : Prop := it.seq.length ≤ sizeLine ∧ ∀ (F H : Hp) (M : Mp) (i : Nat), Same F0 F → Cc K M F H → it.ok M →
  (∀ d, it.seq[i]? = some d → J.go i H ∧ ∀ x H', J.yld i H x H' → ∃ F', Same F F' ∧ Cc K M F' H' ∧ Rp K F' x d) ∧ (it.seq.length ≤ i → J.stop i H)
abbrev DTI := DG → Mp → (DIt → Mp → Prop) → DXE → Prop
def upI (K : KTb) (W : WX) (t : DTI) : TI := fun σ H R => ∃ (Γ : DG) (M : Mp) (F : Hp) (E : DXE) (Rd : DIt → Mp → Prop), At K W σ H Γ M F E ∧ t Γ M Rd E ∧
  ∀ (F' H' : Hp) (J : It) (it : DIt) (M' : Mp), Same F F' → Cc K M' F' H' → RealIt K F' J it → Rd it M' → R J H'
structure DI (X : Cx) (W : WT) (tg e : Expr) (t : DTI) : Prop where
  pi : PI X tg e (upI (kt X W) W.w t)
theorem piW {X : Cx} {tg e : Expr} {t t' : TI} (p : PI X tg e t) (h : ∀ σ H R, t' σ H R → t σ H R) : PI X tg e t' := ⟨fun pins s σ H Q I q => p.run pins s σ H Q I (h σ H Q q)⟩
/-- a list, a tuple, a text -/
def iAll (K : PySem.W.Frag) (tl : TE) : TI := fun σ H R => tl σ H fun x H1 => (∃ a xs, x = .ref a ∧ SqL K H1 a xs ∧ (xs.length ≤ sizeLine → R (Itl K a) H1)) ∨ (∃ a xs, x = .ref a ∧ SqT K H1 a xs ∧ (xs.length ≤ sizeLine → R (Itt K a) H1)) ∨ (∃ x', x = .str x' ∧ R (Its x') H1)
theorem pi_all {X : Cx} {tg l : Expr} {tl : TE} (hl : PE X l tl) : PI X tg l (iAll X.K tl) := by
  refine ⟨fun pins s σ H R I h => ?_⟩
  refine thn (hl.run pins s σ H _ I h) fun v s1 ⟨x, H1, I1, r1, q1⟩ => ?_
  rcases q1 with ⟨a, xs, e, hq, q⟩ | ⟨a, xs, e, hq, q⟩ | ⟨x', ex, q⟩
  · subst e
    cases r1
    obtain ⟨its, rv, p, hz⟩ := I1.list hq
    refine wpAny_pyIter_list p.isList ?_
    refine ⟨s1.heap.objs.size, [s1.heap.objs.size], _, _, H1, rfl, I1.kept (t' := s1.toks) fun b o e => Heap.get?_push_of_some _ e, turn_list a _, ⟨_, Heap.get?_push_size _ rfl, rfl, rfl⟩, fun b hb => ?_, q hz⟩
    have e : b = s1.heap.objs.size := by simpa using hb
    subst e
    exact I1.fpOk (Nat.le_refl _) (I1.hok.fresh (Nat.le_refl _))
  · subst e
    cases r1
    obtain ⟨its, rv, p, hz⟩ := I1.tuple hq
    refine wpAny_pyIter_tuple (show s1.heap.IsTuple a its.toArray from p) ?_
    refine ⟨s1.heap.objs.size, [s1.heap.objs.size], _, _, H1, rfl, I1.kept (t' := s1.toks) fun b o e => Heap.get?_push_of_some _ e, turn_tuple a _, ⟨_, Heap.get?_push_size _ rfl, rfl, rfl⟩, fun b hb => ?_, q hz⟩
    have e : b = s1.heap.objs.size := by simpa using hb
    subst e
    exact I1.fpOk (Nat.le_refl _) (I1.hok.fresh (Nat.le_refl _))
  · subst ex
    obtain ⟨t, rfl⟩ := r1
    cases ha : x'.cps.all (· < 128)
    · exact wpAny_pyIter_wide ha (pi_one (tk := s1.toks) I1 _ (turn_str _ x' t "str_iterator" (.inr rfl)) ⟨_, Heap.get?_push_size _ rfl, rfl, rfl⟩ q)
    · exact wpAny_pyIter_ascii ha (pi_one (tk := s1.toks) I1 _ (turn_str _ x' t "str_ascii_iterator" (.inl rfl)) ⟨_, Heap.get?_push_size _ rfl, rfl, rfl⟩ q)
/-- what is walked, by its value -/
def itD (M : Mp) (d : D) : Option (List D) := match d with
  | .tup xs => some xs
  | .str z => if z.length ≤ sizeLine then some (z.cps.toList.map fun c => .str ⟨#[c]⟩) else none
  | d => sqD M d
def dISeq (t : DTE) : DTI := fun Γ M R E => t Γ M (fun d M1 => ∃ xs, itD M1 d = some xs ∧ R ⟨xs, fun M2 => itD M2 d = some xs⟩ M1) E
section
variable {X : Cx} {W : WT} {e a b tg : Expr} {es : List Expr}
theorem di_seq {t : DTE} (h : DE X W e t) : DI X W tg e (dISeq t) := ⟨piW (pi_all h.pe) fun σ H R ⟨Γ, M, F, E, Rd, a, q, k⟩ => ⟨Γ, M, F, E, _, a, q, fun F1 H1 v d M1 s1 c1 r1 ⟨xs, e1, q1⟩ => by
  have lst : sqD M1 d = some xs → (∀ M2, itD M2 d = sqD M2 d) → (∃ a xs, v = .ref a ∧ SqL X.K H1 a xs ∧ (xs.length ≤ sizeLine → R (Itl X.K a) H1)) := fun h0 hM => by
    obtain ⟨p, vs, rfl, h1, r2⟩ := sq_of c1 r1 h0
    refine ⟨p, vs, rfl, h1, fun hz => k F1 H1 _ _ M1 s1 c1 ⟨by rw [← r2.length]; exact hz, fun F2 H2 M2 i s2 c2 ok => ?_⟩ q1⟩
    have ok : itD M2 d = some xs := ok
    rw [hM] at ok
    obtain ⟨p2, vs2, e2, h2, r3⟩ := sq_of c2 (r1.mono s2) ok
    cases e2
    refine ⟨fun d' hd => ?_, fun hl => ⟨vs2, h2, by rw [r3.length]; exact hl⟩⟩
    obtain ⟨v', e3, r4⟩ := r3.get hd
    refine ⟨⟨vs2, v', h2, e3⟩, fun x H' y => ?_⟩
    obtain ⟨eH, y⟩ := y
    have e5 := y vs2 h2
    rw [e3] at e5
    cases e5
    exact ⟨F2, Same.refl _, by rw [eH]; exact c2, r4⟩
  cases d with
  | lst ys => exact .inl (lst e1 fun _ => rfl)
  | ref p => exact .inl (lst e1 fun _ => rfl)
  | scr p => exact .inl (lst e1 fun _ => rfl)
  | tup ys =>
    cases e1
    obtain ⟨p, vs, rfl, h1, r2⟩ := tp_of c1 r1
    refine .inr (.inl ⟨p, vs, rfl, h1, fun hz => k F1 H1 _ _ M1 s1 c1 ⟨by rw [← r2.length]; exact hz, fun F2 H2 M2 i s2 c2 ok => ?_⟩ q1⟩)
    obtain ⟨p2, vs2, e2, h2, r3⟩ := tp_of c2 (r1.mono s2)
    cases e2
    refine ⟨fun d' hd => ?_, fun hl => ⟨vs2, h2, by rw [r3.length]; exact hl⟩⟩
    obtain ⟨v', e3, r4⟩ := r3.get hd
    refine ⟨⟨vs2, v', h2, e3⟩, fun x H' y => ?_⟩
    obtain ⟨eH, y⟩ := y
    have e5 := y vs2 h2
    rw [e3] at e5
    cases e5
    exact ⟨F2, Same.refl _, by rw [eH]; exact c2, r4⟩
  | str z =>
    have e1' : (if z.length ≤ sizeLine then some (z.cps.toList.map fun c => D.str ⟨#[c]⟩) else none) = some xs := e1
    split at e1'
    · rename_i hz
      cases e1'
      cases r1
      refine .inr (.inr ⟨z, rfl, k F1 H1 _ _ M1 s1 c1 ⟨by simpa [Str.length] using hz, fun F2 H2 M2 i s2 c2 ok => ⟨fun d' hd => ?_, fun hl => ?_⟩⟩ q1⟩)
      · simp only [List.getElem?_map, Option.map_eq_some_iff] at hd
        obtain ⟨ch, h1, h2⟩ := hd
        subst h2
        have hi : z.cps[i]? = some ch := by rw [← Array.getElem?_toList]; exact h1
        refine ⟨?_, fun x H' y => ?_⟩
        · obtain ⟨hi2, _⟩ := Array.getElem?_eq_some_iff.mp hi
          exact hi2
        · obtain ⟨eH, c', h3, e4⟩ := y
          rw [hi] at h3
          cases h3
          subst e4
          exact ⟨F2, Same.refl _, by rw [eH]; exact c2, .str _⟩
      · show z.cps.size ≤ i
        simpa using hl
    · cases e1'
  | _ => cases e1⟩⟩
def rngD (lo c : Int) (n : Nat) : List D := (List.range n).map fun k => D.int (lo + (k : Nat) * c)
theorem real_rng {K : KTb} {F0 : Hp} {lo : Int} {n : Nat} (h : n ≤ sizeLine) : RealIt K F0 (Itr lo n) ⟨rngD lo 1 n, fun _ => True⟩ := by
  refine ⟨by simpa [rngD] using h, fun F H M i s c _ => ⟨fun d hd => ?_, fun hl => ?_⟩⟩
  · simp only [rngD, List.getElem?_map, Option.map_eq_some_iff] at hd
    obtain ⟨j, h1, rfl⟩ := hd
    obtain ⟨h2, h3⟩ := List.getElem?_eq_some_iff.mp h1
    simp at h2 h3
    subst h3
    refine ⟨h2, fun x H' y => ?_⟩
    obtain ⟨eH, ex⟩ := y
    subst ex
    rw [Int.mul_one]
    exact ⟨F, Same.refl _, by rw [eH]; exact c, .int _⟩
  · simp only [rngD, List.length_map, List.length_range] at hl
    exact hl
def small (i : Int) : Prop := -10000000 ≤ i ∧ i ≤ 10000000
def dIRng1 (t : DTA) : DTI := fun Γ M R E => t Γ M (fun ds M1 => ∃ j : Int, ds = [.int j] ∧ small j ∧ R ⟨rngD 0 1 j.toNat, fun _ => True⟩ M1) E
theorem rps1' {K : KTb} {F : Hp} {vs : List V} {i : Int} (r : Rps K F vs [.int i]) : vs = [.int i] := by
  obtain ⟨v, rfl, rv⟩ := rps1 r
  cases rv
  rfl
theorem rps2' {K : KTb} {F : Hp} {vs : List V} {i j : Int} (r : Rps K F vs [.int i, .int j]) : vs = [.int i, .int j] := by
  obtain ⟨v, w, rfl, ra, rb⟩ := rps2 r
  cases ra
  cases rb
  rfl
theorem szl : (sizeLine : Nat) = 16777216 := sizeLine_eq
theorem di_rng1 {t : DTA} {p pos : Pos} (hg : Gl X "range") (hm : X.mg "range" = none) (ha : DA X W [a] t) (hs : starEach [a] X.env = [(false, eval a X.env)] := by rfl) : DI X W tg (.Call (.Name "range" p) [a] [] pos) (dIRng1 t) :=
  ⟨piW (pi_range1 hg hm ha.pa hs) fun σ H R ⟨Γ, M, F, E, Rd, a, q, k⟩ => ⟨Γ, M, F, E, _, a, q, fun F1 H1 vs ds M1 s1 c1 r1 ⟨j, e1, h1, q1⟩ => by
    subst e1
    obtain ⟨h1, h2⟩ := h1
    exact ⟨j, rps1' r1, by omega, by omega, k F1 H1 _ _ M1 s1 c1 (real_rng (by rw [szl]; omega)) q1⟩⟩⟩
def dIRng2 (t : DTA) : DTI := fun Γ M R E => t Γ M (fun ds M1 => ∃ i j : Int, ds = [.int i, .int j] ∧ small i ∧ small j ∧ (j - i) ≤ 10000000 ∧ R ⟨rngD i 1 (j - i).toNat, fun _ => True⟩ M1) E
theorem di_rng2 {t : DTA} {p pos : Pos} (hg : Gl X "range") (hm : X.mg "range" = none) (ha : DA X W [a, b] t) (hs : starEach [a, b] X.env = [(false, eval a X.env), (false, eval b X.env)] := by rfl) (hs2 : starEach [b] X.env = [(false, eval b X.env)] := by rfl) : DI X W tg (.Call (.Name "range" p) [a, b] [] pos) (dIRng2 t) :=
  ⟨piW (pi_range2 hg hm ha.pa hs hs2) fun σ H R ⟨Γ, M, F, E, Rd, a, q, k⟩ => ⟨Γ, M, F, E, _, a, q, fun F1 H1 vs ds M1 s1 c1 r1 ⟨i, j, e1, h1, h2, h3, q1⟩ => by
    subst e1
    obtain ⟨h1, h1'⟩ := h1
    obtain ⟨h2, h2'⟩ := h2
    exact ⟨i, j, rps2' r1, by omega, k F1 H1 _ _ M1 s1 c1 (real_rng (by rw [szl]; omega)) q1⟩⟩⟩
def enD (xs : List D) : List D := xs.zipIdx.map fun p => .tup [.int (p.2 : Nat), p.1]
def dIEn (t : DTA) : DTI := fun Γ M R E => t Γ M (fun ds M1 => ∃ d xs, ds = [d] ∧ sqD M1 d = some xs ∧ xs.length ≤ sizeLine ∧ R ⟨enD xs, fun M2 => sqD M2 d = some xs⟩ M1) E
def zipD (xs ys : List D) : List D := List.zipWith (fun a b => .tup [a, b]) xs ys
/-- of two lists, of two tuples -/
def zpD (M : Mp) (d e : D) : Option (List D × List D) := match d, e with
  | .tup xs, .tup ys => some (xs, ys)
  | d, e => (sqD M d).bind fun xs => (sqD M e).map fun ys => (xs, ys)
def dIZip (t : DTA) : DTI := fun Γ M R E => t Γ M (fun ds M1 => ∃ d e xs ys, ds = [d, e] ∧ zpD M1 d e = some (xs, ys) ∧ xs.length ≤ sizeLine ∧ R ⟨zipD xs ys, fun M2 => zpD M2 d e = some (xs, ys)⟩ M1) E
theorem zpD_tup {M : Mp} {xs ys : List D} : zpD M (.tup xs) (.tup ys) = some (xs, ys) := rfl
theorem zpD_cases {M : Mp} {d e : D} {xs ys : List D} (h : zpD M d e = some (xs, ys)) : (d = .tup xs ∧ e = .tup ys) ∨ (sqD M d = some xs ∧ sqD M e = some ys) := by
  unfold zpD at h
  split at h
  · cases h
    exact .inl ⟨rfl, rfl⟩
  · cases h1 : sqD M d with
    | none => rw [h1] at h; cases h
    | some as =>
      cases h2 : sqD M e with
      | none => rw [h1, h2] at h; cases h
      | some bs =>
        rw [h1, h2] at h
        cases h
        exact .inr ⟨rfl, rfl⟩
theorem zip_turn {K : KTb} {F H H' : Hp} {M : Mp} {x y : V} {d e : D} {T : Addr} (c : Cc K M F H) (h : H T = none) (eH : H' = upd H T (.tup [x, y])) (r1 : Rp K F x d) (r2 : Rp K F y e) : ∃ F', Same F F' ∧ Cc K M F' H' ∧ Rp K F' (.ref T) (.tup [d, e]) := by
  have s := Same.upd (o := .tup [x, y]) (c.Fnone h)
  rw [eH]
  exact ⟨_, s, c.newF h, .tup (.inl upd_same) (.cons (r1.mono s) (.cons (r2.mono s) .nil))⟩
theorem di_zip {elts : List Expr} {kk : Nat} {tpos p pos : Pos} {t : DTA} (hg : Gl X "zip") (hm : X.mg "zip" = none) (ha : DA X W [a, b] t)
    (hs : starEach [a, b] X.env = (false, eval a X.env) :: starEach [b] X.env := by rfl) (hpl : (backTo pos (starEach [b] X.env)).any (·.1) = false := by rfl) : DI X W (.Tuple elts kk tpos) (.Call (.Name "zip" p) [a, b] [] pos) (dIZip t) :=
  ⟨piW (RZ.pi_zipA hg hm ha.pa hs hpl) fun σ H R ⟨Γ, M, F, E, Rd, a, q, k⟩ => ⟨Γ, M, F, E, _, a, q, fun F1 H1 vs ds M1 s1 c1 r1 ⟨d, e, xs, ys, e1, h1, hz, q1⟩ => by
    subst e1
    obtain ⟨v, w, rfl, rv, rw⟩ := rps2 r1
    have len : (zipD xs ys).length ≤ sizeLine := by
      simp only [zipD, List.length_zipWith]
      omega
    have item : ∀ {i : Nat} {d' : D}, (zipD xs ys)[i]? = some d' → ∃ x y, xs[i]? = some x ∧ ys[i]? = some y ∧ d' = .tup [x, y] := fun {i d'} h => by
      simp only [zipD, List.getElem?_zipWith] at h
      cases hx : xs[i]? with
      | none => rw [hx] at h; simp at h
      | some x =>
        cases hy : ys[i]? with
        | none => rw [hx, hy] at h; simp at h
        | some y =>
          rw [hx, hy] at h
          simp at h
          exact ⟨x, y, rfl, rfl, h.symm⟩
    rcases zpD_cases h1 with ⟨rfl, rfl⟩ | ⟨g1, g2⟩
    · obtain ⟨p, us, rfl, h2, r2⟩ := tp_of c1 rv
      obtain ⟨p', us', rfl, h2', r2'⟩ := tp_of c1 rw
      refine ⟨p, p', us, us', rfl, .inr ⟨h2, h2', k F1 H1 _ _ M1 s1 c1 ⟨len, fun F2 H2 M2 i s2 c2 ok => ?_⟩ q1⟩⟩
      obtain ⟨p2, vs2, e2, h3, r3⟩ := tp_of c2 (rv.mono s2)
      cases e2
      obtain ⟨p2', vs2', e2', h3', r3'⟩ := tp_of c2 (rw.mono s2)
      cases e2'
      refine ⟨fun d' hd => ?_, fun hl => ⟨vs2, vs2', h3, h3', ?_⟩⟩
      · obtain ⟨x, y, hx, hy, rfl⟩ := item hd
        obtain ⟨vx, ex, rx⟩ := r3.get hx
        obtain ⟨vy, ey, ry⟩ := r3'.get hy
        refine ⟨⟨vs2, vs2', vx, vy, h3, h3', ex, ey⟩, fun u H' y' => ?_⟩
        obtain ⟨T, a1, a2, e4, e5, e6, e7, e8⟩ := y'
        have e9 := e7 vs2 h3
        rw [ex] at e9
        cases e9
        have e10 := e8 vs2' h3'
        rw [ey] at e10
        cases e10
        subst e4
        exact zip_turn c2 e5 e6 rx ry
      · simp only [zipD, List.length_zipWith] at hl
        rw [r3.length, r3'.length]
        omega
    · obtain ⟨p, us, rfl, h2, r2⟩ := sq_of c1 rv g1
      obtain ⟨p', us', rfl, h2', r2'⟩ := sq_of c1 rw g2
      refine ⟨p, p', us, us', rfl, .inl ⟨h2, h2', k F1 H1 _ _ M1 s1 c1 ⟨len, fun F2 H2 M2 i s2 c2 ok => ?_⟩ q1⟩⟩
      have ok : zpD M2 d e = some (xs, ys) := ok
      have g : sqD M2 d = some xs ∧ sqD M2 e = some ys := by
        rcases zpD_cases ok with ⟨rfl, rfl⟩ | g
        · simp [sqD] at g1
        · exact g
      obtain ⟨p2, vs2, e2, h3, r3⟩ := sq_of c2 (rv.mono s2) g.1
      cases e2
      obtain ⟨p2', vs2', e2', h3', r3'⟩ := sq_of c2 (rw.mono s2) g.2
      cases e2'
      refine ⟨fun d' hd => ?_, fun hl => ⟨vs2, vs2', h3, h3', ?_⟩⟩
      · obtain ⟨x, y, hx, hy, rfl⟩ := item hd
        obtain ⟨vx, ex, rx⟩ := r3.get hx
        obtain ⟨vy, ey, ry⟩ := r3'.get hy
        refine ⟨⟨vs2, vs2', vx, vy, h3, h3', ex, ey⟩, fun u H' y' => ?_⟩
        obtain ⟨T, a1, a2, e4, e5, e6, e7, e8⟩ := y'
        have e9 := e7 vs2 h3
        rw [ex] at e9
        cases e9
        have e10 := e8 vs2' h3'
        rw [ey] at e10
        cases e10
        subst e4
        exact zip_turn c2 e5 e6 rx ry
      · simp only [zipD, List.length_zipWith] at hl
        rw [r3.length, r3'.length]
        omega⟩⟩
end
end DL
namespace DL
open PySem L2
def dNext : DTS := fun Dn Γ M => Dn.nx Γ M
def dSeq (t u : DTS) : DTS := fun Dn Γ M => t { Dn with nx := u Dn } Γ M
section
variable {X : Cx} {W : WT} {e a b tg : Expr} {es : List Expr} {st : Stmt} {sts rest : List Stmt} {pos : Pos}
theorem dss_nil : DSs X W [] dNext := ⟨pssW pss_nil fun E σ H ⟨Γ, M, F, Dn, a, h, k⟩ => k.nx F H σ Γ M (Same.refl _) a.c a.g h⟩
theorem upSeq {t u : DTS} {E : Ends} {σ : St} {H : Hp} (h : upS (kt X W) W.w (dSeq t u) E σ H) : tSeq (upS (kt X W) W.w t) (upS (kt X W) W.w u) E σ H := by
  obtain ⟨Γ, M, F, Dn, a, h, k⟩ := h
  exact ⟨Γ, M, F, { Dn with nx := u Dn }, a, h, ⟨fun F1 H1 σ1 Γ1 M1 s1 c1 g1 q1 => ⟨Γ1, M1, F1, Dn, ⟨c1, g1, a.w.mono s1⟩, q1, k.mono s1⟩, k.rt, k.bk, k.ct⟩⟩
theorem dss_cons {t u : DTS} (h1 : DS X W st t) (h2 : DSs X W rest u) : DSs X W (st :: rest) (dSeq t u) := ⟨pssW (pss_cons h1.ps h2.ps) fun _ _ _ h => upSeq h⟩
theorem dss_one {t : DTS} (h1 : DS X W st t) : DSs X W [st] t := ⟨pss_one h1.ps⟩
def dBreak : DTS := fun Dn Γ M => Dn.bk Γ M
def dCont : DTS := fun Dn Γ M => Dn.ct Γ M
def dDrop (te : DTE) : DTS := fun Dn Γ M => te Γ M (fun _ M1 => Dn.nx Γ M1) Dn.ex
theorem ds_expr {te : DTE} (he : DE X W e te) (hs : swapsWith e none pos.line X.env = pure false := by rfl) : DS X W (.Expr e pos) (dDrop te) :=
  ⟨psW (ps_expr he.pe hs) fun E σ H ⟨Γ, M, F, Dn, a, h, k⟩ => ⟨Γ, M, F, _, _, a, h, fun F1 H1 v d M1 s1 c1 r1 q1 => k.nx F1 H1 σ Γ M1 s1 c1 (a.g.mono s1) q1⟩⟩
def dRet (te : DTE) : DTS := fun Dn Γ M => te Γ M Dn.rt Dn.ex
theorem ds_ret {te : DTE} (he : DE X W e te) : DS X W (.Return (some e) pos) (dRet te) :=
  ⟨psW (ps_ret he.pe) fun E σ H ⟨Γ, M, F, Dn, a, h, k⟩ => ⟨Γ, M, F, _, _, a, h, k.rt⟩⟩
def dRetN : DTS := fun Dn _ M => Dn.rt .non M
def dIfS (c : DTT) (t u : DTS) : DTS := fun Dn Γ M => c Γ M (fun b M1 => if b = true then t Dn Γ M1 else u Dn Γ M1) Dn.ex
theorem ds_if {c : Expr} {p q : List Stmt} {tc : DTT} {t u : DTS} (hc : DT X W c tc) (ha : DSs X W p t) (hb : DSs X W q u) : DS X W (.If c p q pos) (dIfS tc t u) :=
  ⟨psW (ps_if hc.pt ha.ps hb.ps) fun E σ H ⟨Γ, M, F, Dn, a, h, k⟩ => ⟨Γ, M, F, _, _, a, h, fun F1 H1 b M1 s1 c1 q1 => by
    cases b with
    | true =>
      rw [if_pos rfl] at q1 ⊢
      exact ⟨Γ, M1, F1, Dn, a.next s1 c1, q1, k.mono s1⟩
    | false =>
      rw [if_neg Bool.false_ne_true] at q1 ⊢
      exact ⟨Γ, M1, F1, Dn, a.next s1 c1, q1, k.mono s1⟩⟩⟩
theorem dss_never : DSs X W sts (fun _ _ _ => False) := ⟨pssW pss_never fun E σ H ⟨Γ, M, F, Dn, a, h, k⟩ => h⟩
theorem dw_and1 {tA : DTT} (ha : DT X W a tA) : DW X W (.BoolOp .And [a] pos) tA := ⟨pw_and1 ha.pt⟩
theorem dw_or1 {tA : DTT} (ha : DT X W a tA) : DW X W (.BoolOp .Or [a] pos) tA := ⟨pw_or1 ha.pt⟩
theorem dw_and {rest : List Expr} {tA tB : DTT} (ha : DT X W a tA) (hb : DW X W (.BoolOp .And (b :: rest) pos) tB) : DW X W (.BoolOp .And (a :: b :: rest) pos) (dAnd tA tB) := ⟨pwW (pw_and ha.pt hb.pw) fun _ _ _ h => upAnd h⟩
theorem dw_or {rest : List Expr} {tA tB : DTT} (ha : DT X W a tA) (hb : DW X W (.BoolOp .Or (b :: rest) pos) tB) : DW X W (.BoolOp .Or (a :: b :: rest) pos) (dOr tA tB) := ⟨pwW (pw_or ha.pt hb.pw) fun _ _ _ h => upOr h⟩
theorem dw_pt {tA : DTT} (ha : DW X W e tA) : DT X W e tA := ⟨ha.pw.pt⟩
theorem dt_not {tA : DTT} (ha : DT X W a tA) : DT X W (.UnaryOp .Not a pos) (dNot tA) := ⟨ptW (pt_not ha.pt) fun _ _ _ h => upNot h⟩
/-- as values -/
def dAndV (ta tb : DTE) : DTE := fun Γ M Q E => ta Γ M (fun x M1 => ∃ c, x = .bl c ∧ if c = true then tb Γ M1 Q E else Q (.bl false) M1) E
def dOrV (ta tb : DTE) : DTE := fun Γ M Q E => ta Γ M (fun x M1 => ∃ c, x = .bl c ∧ if c = true then Q (.bl true) M1 else tb Γ M1 Q E) E
def dNotV (ta : DTE) : DTE := fun Γ M Q E => ta Γ M (fun x M1 => ∃ c, x = .bl c ∧ Q (.bl (!c)) M1) E
theorem de_one {op} {t : DTE} (h : DE X W a t) : DE X W (.BoolOp op [a] pos) t := ⟨pe_one h.pe⟩
theorem de_and {rest : List Expr} {ta tb : DTE} (ha : DE X W a ta) (hb : DE X W (.BoolOp .And (b :: rest) pos) tb) : DE X W (.BoolOp .And (a :: b :: rest) pos) (dAndV ta tb) :=
  ⟨peW (pe_and ha.pe hb.pe) fun σ H Q ⟨Γ, M, F, E, Qd, a, q, k⟩ => ⟨Γ, M, F, E, _, a, q, fun F1 H1 v d M1 s1 c1 r1 ⟨c, e1, q1⟩ => by
    subst e1
    cases r1
    refine ⟨c, rfl, ?_⟩
    cases c with
    | true =>
      rw [if_pos rfl] at q1 ⊢
      exact ⟨Γ, M1, F1, E, Qd, a.next s1 c1, q1, k.mono s1⟩
    | false =>
      rw [if_neg Bool.false_ne_true] at q1 ⊢
      exact k F1 H1 _ _ M1 s1 c1 (.bl false) q1⟩⟩
def dIf (t : DTT) (ta tb : DTE) : DTE := fun Γ M Q E => t Γ M (fun c M1 => if c = true then ta Γ M1 Q E else tb Γ M1 Q E) E
/-- -a -/
def dUn (g : Int → Int) (ta : DTE) : DTE := fun Γ M Q E => ta Γ M (fun x M1 => ∃ i, x = .int i ∧ Q (.int (g i)) M1) E
theorem de_neg {ta : DTE} (ha : DE X W a ta) : DE X W (.UnaryOp .USub a pos) (dUn (fun i => -i) ta) :=
  ⟨peW (pe_un un_neg ha.pe) fun σ H Q ⟨Γ, M, F, E, Qd, a, q, k⟩ => ⟨Γ, M, F, E, _, a, q, fun F1 H1 v d M1 s1 c1 r1 ⟨i, e1, q1⟩ => by
    subst e1
    cases r1
    exact ⟨i, rfl, k F1 H1 _ _ M1 s1 c1 (.int _) q1⟩⟩⟩
abbrev DTG := D → DG → Mp → (DG → Mp → Prop) → Prop
abbrev DTGs := List D → DG → Mp → (DG → Mp → Prop) → Prop
/-- the slots beside vs stay (a comprehension's own names) -/
def upG (K : KTb) (vs : Option (List Nat)) (t : DTG) : TG := fun v σ H Q => ∃ (d : D) (Γ : DG) (M : Mp) (F : Hp) (Qd : DG → Mp → Prop), Cc K M F H ∧ RpG K F σ Γ ∧ Rp K F v d ∧ t d Γ M Qd ∧
  ∀ (F' H' : Hp) (σ' : St) (Γ' : DG) (M' : Mp), Same F F' → Cc K M' F' H' → RpG K F' σ' Γ' → (∀ l, vs = some l → wipe σ' l = wipe σ l) → Qd Γ' M' → Q σ' H'
def upGs (K : KTb) (vs : Option (List Nat)) (t : DTGs) : TGs := fun v σ H Q => ∃ (d : List D) (Γ : DG) (M : Mp) (F : Hp) (Qd : DG → Mp → Prop), Cc K M F H ∧ RpG K F σ Γ ∧ Rps K F v d ∧ t d Γ M Qd ∧
  ∀ (F' H' : Hp) (σ' : St) (Γ' : DG) (M' : Mp), Same F F' → Cc K M' F' H' → RpG K F' σ' Γ' → (∀ l, vs = some l → wipe σ' l = wipe σ l) → Qd Γ' M' → Q σ' H'
structure DGt (X : Cx) (T : List (Addr × Str)) (vs : Option (List Nat)) (tg : Expr) (t : DTG) : Prop where
  pg : PG X tg (upG ⟨X.K, T⟩ vs t)
structure DGts (X : Cx) (T : List (Addr × Str)) (vs : Option (List Nat)) (tg : List Expr) (t : DTGs) : Prop where
  pg : PGs X tg (upGs ⟨X.K, T⟩ vs t)
theorem pgW {t t' : TG} (p : PG X tg t) (h : ∀ v σ H Q, t' v σ H Q → t v σ H Q) : PG X tg t' := ⟨fun pins s σ H v u Q I r q => p.run pins s σ H v u Q I r (h v σ H Q q)⟩
theorem pgsW {t t' : TGs} (p : PGs X es t) (h : ∀ v σ H Q, t' v σ H Q → t v σ H Q) : PGs X es t' := ⟨fun pins s σ H v u Q I r q => p.run pins s σ H v u Q I r (h v σ H Q q)⟩
theorem wipe_set {i : Nat} {v : Option V} : ∀ {vs : List Nat} {σ : St}, i ∈ vs → wipe (σ.set i v) vs = wipe σ vs := by
  intro vs
  induction vs with
  | nil => intro σ h; cases h
  | cons j vs ih =>
    intro σ h
    show (wipe (σ.set i v) vs).set j none = (wipe σ vs).set j none
    by_cases hi : i ∈ vs
    · rw [ih hi]
    · have e : i = j := by
        rcases List.mem_cons.mp h with e | e
        · exact e
        · exact absurd e hi
      subst e
      have comm : ∀ (l : List Nat) (σ : St), i ∉ l → wipe (σ.set i v) l = (wipe σ l).set i v := by
        intro l
        induction l with
        | nil => intro σ _; rfl
        | cons k l ihl =>
          intro σ hk
          show (wipe (σ.set i v) l).set k none = ((wipe σ l).set k none).set i v
          rw [ihl σ fun z => hk (List.mem_cons_of_mem _ z)]
          exact List.set_comm _ _ fun z => hk (by rw [z]; exact List.mem_cons_self)
      rw [comm vs σ hi, List.set_set]
def gdName (i : Nat) : DTG := fun d Γ M Q => Q (Γ.set i (some d)) M
theorem dg_name {i : Nat} {x : Str} {T : List (Addr × Str)} {vs : Option (List Nat)} (hN : X.N.Nodup) (hi : X.N[i]? = some x) (hx : Loc X.env.scope x) (hv : ∀ l, vs = some l → i ∈ l) (hf : X.fn x = true ∨ X.env.scope.names.lookup x = some .local := by first | exact .inl rfl | exact .inr rfl | assumption) : DGt X T vs (.Name x pos) (gdName i) :=
  ⟨pgW (pg_name hN hi hx hf) fun v σ H Q ⟨d, Γ, M, F, Qd, c, g, r, q, k⟩ => k F H _ _ M (Same.refl _) c (g.set r i) (fun l e => wipe_set (hv l e)) q⟩
def gdNil : DTGs := fun ds Γ M Q => ds = [] ∧ Q Γ M
def gdCons (t : DTG) (u : DTGs) : DTGs := fun ds Γ M Q => ∃ d r, ds = d :: r ∧ t d Γ M (fun Γ1 M1 => u r Γ1 M1 Q)
theorem dgs_nil {T : List (Addr × Str)} {vs : Option (List Nat)} : DGts X T vs [] gdNil := ⟨pgsW pgs_nil fun v σ H Q ⟨d, Γ, M, F, Qd, c, g, r, ⟨e, q⟩, k⟩ => by
  subst e
  cases r
  exact ⟨rfl, k F H σ Γ M (Same.refl _) c g (fun _ _ => rfl) q⟩⟩
theorem dgs_cons {T : List (Addr × Str)} {vs : Option (List Nat)} {t : DTG} {u : DTGs} (h1 : DGt X T vs e t) (h2 : DGts X T vs es u) (hs : (assignEach (e :: es) X.env).map (·.2) = assign e X.env :: (assignEach es X.env).map (·.2) := by rfl) : DGts X T vs (e :: es) (gdCons t u) :=
  ⟨pgsW (pgs_cons h1.pg h2.pg hs) fun v σ H Q ⟨d, Γ, M, F, Qd, c, g, r, ⟨d0, dr, e1, q⟩, k⟩ => by
    subst e1
    cases r with
    | cons r1 r2 => exact ⟨_, _, rfl, d0, Γ, M, F, _, c, g, r1, q, fun F1 H1 σ1 Γ1 M1 s1 c1 g1 w1 q1 => ⟨dr, Γ1, M1, F1, Qd, c1, g1, r2.mono s1, q1, fun F2 H2 σ2 Γ2 M2 s2 c2 g2 w2 q2 =>
        k F2 H2 σ2 Γ2 M2 (s1.trans s2) c2 g2 (fun l e => (w2 l e).trans (w1 l e)) q2⟩⟩⟩
def gdTup (n : Nat) (t : DTGs) : DTG := fun d Γ M Q => ∃ ds, tpD d = some ds ∧ ds.length = n ∧ t ds Γ M Q
theorem dg_tup {k : Nat} {T : List (Addr × Str)} {vs : Option (List Nat)} {t : DTGs} {n : Nat} (hc : X.calm = true) (h : DGts X T vs es t) (hn : (assignEach es X.env).length = n := by rfl) (hst : (assignEach es X.env).findIdx? (·.1) = none := by rfl) : DGt X T vs (.Tuple es k pos) (gdTup n t) :=
  ⟨pgW (pg_tup hc h.pg hn hst) fun v σ H Q ⟨d, Γ, M, F, Qd, c, g, r, ⟨ds, e1, hl, q⟩, k⟩ => by
    rw [tpD_eq e1] at r
    obtain ⟨a, us, rfl, h1, r1⟩ := tp_of c r
    exact ⟨a, us, rfl, h1, by rw [r1.length]; exact hl, ds, Γ, M, F, Qd, c, g, r1, q, k⟩⟩
/-- target = value -/
def dAsg (te : DTE) (g : DTG) : DTS := fun Dn Γ M => te Γ M (fun d M1 => g d Γ M1 Dn.nx) Dn.ex
theorem upAsg {te : DTE} {g : DTG} {E : Ends} {σ : St} {H : Hp} (h : upS (kt X W) W.w (dAsg te g) E σ H) : tAsg (upE (kt X W) W.w te) (upG (kt X W) none g) E σ H := by
  obtain ⟨Γ, M, F, Dn, a, h, k⟩ := h
  exact ⟨Γ, M, F, _, _, a, h, fun F1 H1 v d M1 s1 c1 r1 q1 => ⟨d, Γ, M1, F1, Dn.nx, c1, a.g.mono s1, r1, q1, fun F2 H2 σ2 Γ2 M2 s2 c2 g2 _ q2 => k.nx F2 H2 σ2 Γ2 M2 (s1.trans s2) c2 g2 q2⟩⟩
theorem ds_asg {te : DTE} {g : DTG} (he : DE X W e te) (hg : DGt X W.T none tg g) (hs : swapsWithSole [tg] e pos.line X.env = pure false := by rfl) (hw : swappedStores [tg] e X.env = pure none := by rfl) (h1 : (assignEach [tg] X.env).map (·.2) = [assign tg X.env] := by rfl) : DS X W (.Assign [tg] e pos) (dAsg te g) :=
  ⟨psW (ps_asg he.pe hg.pg hs hw h1) fun _ _ _ h => upAsg h⟩
def dSet (te : DTE) (i : Nat) : DTS := fun Dn Γ M => te Γ M (fun d M1 => Dn.nx (Γ.set i (some d)) M1) Dn.ex
theorem ds_set (i : Nat) {x : Str} {te : DTE} {pos' : Pos} (hN : X.N.Nodup) (he : DE X W e te) (hi : X.N[i]? = some x := by rfl) (hx : Loc X.env.scope x := by first | exact Or.inl rfl | exact Or.inr rfl) (hs : swapsWith e (some (.Name x pos')) pos.line X.env = pure false := by rfl) (hf : X.fn x = true ∨ X.env.scope.names.lookup x = some .local := by first | exact .inl rfl | exact .inr rfl | assumption) :
    DS X W (.Assign [.Name x pos'] e pos) (dSet te i) :=
  ⟨psW (ps_set hN hi hx he.pe hs hf) fun E σ H ⟨Γ, M, F, Dn, a, h, k⟩ => ⟨Γ, M, F, _, _, a, h, fun F1 H1 v d M1 s1 c1 r1 q1 => k.nx F1 H1 _ _ M1 s1 c1 ((a.g.mono s1).set r1 i) q1⟩⟩
/-- a, b = x, y with two local names -/
def dPar (i j : Nat) (ta : DTA) : DTS := fun Dn Γ M => ta Γ M (fun ds M1 => ∃ d e, ds = [d, e] ∧ Dn.nx ((Γ.set i (some d)).set j (some e)) M1) Dn.ex
/-- name op= value -/
def dAug (i : Nat) (te : DTE) (rd : D2) : DTS := fun Dn Γ M => ∃ x, Γ[i]? = some (some x) ∧ te Γ M (fun y M1 => rd x y M1 (fun z M2 => Dn.nx (Γ.set i (some z)) M2)) Dn.ex
def dWhile (c : DTT) (tb : DTS) : DTS := fun Dn Γ M => ∃ Wv : Nat → DG → Mp → Prop, (∃ m, Wv m Γ M) ∧ ∀ m Γ2 M2, Wv m Γ2 M2 → c Γ2 M2 (fun b M3 => if b = true then
  tb { Dn with nx := fun Γ4 M4 => ∃ m', m' < m ∧ Wv m' Γ4 M4, ct := fun Γ4 M4 => ∃ m', m' < m ∧ Wv m' Γ4 M4, bk := Dn.nx } Γ2 M3 else Dn.nx Γ2 M3) Dn.ex
def dFor (ti : DTI) (g : DTG) (tb : DTS) : DTS := fun Dn Γ M => ti Γ M (fun it M1 => ∃ Wv : Nat → DG → Mp → Prop, Wv 0 Γ M1 ∧ ∀ i Γ2 M2, i ≤ it.seq.length → Wv i Γ2 M2 → it.ok M2 ∧
  (∀ d, it.seq[i]? = some d → g d Γ2 M2 (fun Γ3 M3 => tb { Dn with nx := Wv (i + 1), ct := Wv (i + 1), bk := Dn.nx } Γ3 M3)) ∧ (i = it.seq.length → Dn.nx Γ2 M2)) Dn.ex
theorem ds_for {iter : Expr} {body : List Stmt} {ti : DTI} {g : DTG} {tb : DTS} (hp : PassesOwn (model X.prog X.w) X.A X.env X.xe) (hc : X.calm = true) (hi : DI X W tg iter ti) (hg : DGt X W.T none tg g) (hb : DSs X W body tb) (hs : ∀ x, foldedSetIterable iter X.env x = pure x := by intro _; rfl) :
    DS X W (.For tg iter body [] pos) (dFor ti g tb) :=
  ⟨psW (ps_for hp hc hi.pi hg.pg hb.ps hs) fun E σ H ⟨Γ, M, F, Dn, a, h, k⟩ => ⟨Γ, M, F, Dn.ex, _, a, h, fun F1 H1 J it M1 s1 c1 ⟨hz, rj⟩ ⟨Wv, w0, turn⟩ => by
    refine ⟨fun i m σ2 H2 => m = it.seq.length - i ∧ i ≤ it.seq.length ∧ ∃ Γ2 M2 F2, Same F1 F2 ∧ At (kt X W) W.w σ2 H2 Γ2 M2 F2 Dn.ex ∧ Wv i Γ2 M2, ⟨_, rfl, Nat.zero_le _, Γ, M1, F1, Same.refl _, a.next s1 c1, w0⟩, ?_⟩
    rintro i m σ2 H2 ⟨rfl, hi, Γ2, M2, F2, s2, a2, w2⟩
    obtain ⟨ok, t1, t2⟩ := turn i Γ2 M2 hi w2
    obtain ⟨j1, j2⟩ := rj F2 H2 M2 i s2 a2.c ok
    by_cases hlt : i < it.seq.length
    · obtain ⟨go, yl⟩ := j1 _ (List.getElem?_eq_getElem hlt)
      refine .inr ⟨go, fun σ4 H4 => ∃ Γ4 M4 F4, Same F1 F4 ∧ At (kt X W) W.w σ4 H4 Γ4 M4 F4 Dn.ex ∧ Wv (i + 1) Γ4 M4, fun σ4 H4 q => ⟨_, by omega, rfl, hlt, q⟩, fun x H' y => ?_⟩
      obtain ⟨F3, s3, c3, r3⟩ := yl x H' y
      refine ⟨_, Γ2, M2, F3, _, c3, a2.g.mono s3, r3, t1 _ (List.getElem?_eq_getElem hlt), fun F4 H4 σ4 Γ4 M4 s4 c4 g4 _ q4 => ?_⟩
      have k4 := k.mono (((s1.trans s2).trans s3).trans s4)
      have nx : CoS (kt X W) F4 (Wv (i + 1)) (fun σ4 H4 => ∃ Γ4 M4 F4, Same F1 F4 ∧ At (kt X W) W.w σ4 H4 Γ4 M4 F4 Dn.ex ∧ Wv (i + 1) Γ4 M4) := fun F5 H5 σ5 Γ5 M5 s5 c5 g5 w5 =>
        ⟨Γ5, M5, F5, ((s2.trans s3).trans s4).trans s5, ⟨c5, g5, a2.w.mono ((s3.trans s4).trans s5)⟩, w5⟩
      exact ⟨Γ4, M4, F4, { Dn with nx := Wv (i + 1), ct := Wv (i + 1), bk := Dn.nx }, ⟨c4, g4, a2.w.mono (s3.trans s4)⟩, q4, ⟨nx, k4.rt, k4.nx, nx⟩⟩
    · have e : i = it.seq.length := by omega
      exact .inl ⟨j2 (by omega), k.nx F2 H2 _ _ M2 (s1.trans s2) a2.c a2.g (t2 e)⟩⟩⟩
def dwipe (Γ : DG) : List Nat → DG
  | [] => Γ
  | v :: vs => (dwipe Γ vs).set v none
theorem RpG.wipe {K : KTb} {F : Hp} {σ : St} {Γ : DG} (g : RpG K F σ Γ) : ∀ vs : List Nat, RpG K F (wipe σ vs) (dwipe Γ vs)
  | [] => g
  | v :: vs => (g.wipe vs).unset v
/-- M with more cells -/
def Ext (M M' : Mp) : Prop := ∀ a c, M a = some c → M' a = some c
theorem Ext.refl (M : Mp) : Ext M M := fun _ _ h => h
abbrev noW : WX := fun _ _ _ _ => False
abbrev noT (T : List (Addr × Str)) : WT := ⟨T, noW⟩
abbrev noE : DXE := fun _ _ _ _ => False
structure DTs (X : Cx) (W : WT) (ifs : List Expr) (t : DTT) : Prop where
  pt : PTs X ifs (upT (kt X W) W.w t)
theorem ptsW {ifs : List Expr} {t t' : TT} (p : PTs X ifs t) (h : ∀ σ H Q, t' σ H Q → t σ H Q) : PTs X ifs t' := ⟨fun pins s σ H Q I q => p.run pins s σ H Q I (h σ H Q q)⟩
def dYes : DTT := fun _ M Q _ => Q true M
theorem dts_nil : DTs X W [] dYes := ⟨ptsW pts_nil fun σ H Q ⟨Γ, M, F, E, Qd, a, q, k⟩ => k F H _ M (Same.refl _) a.c q⟩
/-- the block's reading: each item gives P d (some y) or P d none, no cell is changed -/
def dLcBody (g : DTG) (tt : DTT) (te : DTE) (vs : List Nat) (Γ : DG) (M1 : Mp) (it : DIt) (P : D → Option D → Prop) : Prop := (∀ M', Ext M1 M' → it.ok M') ∧
  ∀ d, d ∈ it.seq → ∀ M', Ext M1 M' → g d (dwipe Γ vs) M' (fun Γ2 M3 => tt Γ2 M3 (fun b M4 => if b = true then te Γ2 M4 (fun y M5 => M5 = M' ∧ P d (some y)) noE else M4 = M' ∧ P d none) noE)
/-- all ways: os the elements' results -/
inductive All2 {α β : Type} (P : α → β → Prop) : List α → List β → Prop
  | nil : All2 P [] []
  | cons {a : α} {b : β} {as : List α} {bs : List β} : P a b → All2 P as bs → All2 P (a :: as) (b :: bs)
theorem All2.snoc {α β : Type} {P : α → β → Prop} {as : List α} {bs : List β} {a : α} {b : β} (h : All2 P as bs) (p : P a b) : All2 P (as ++ [a]) (bs ++ [b]) := by
  induction h with
  | nil => exact .cons p .nil
  | cons q _ ih => exact .cons q ih
theorem All2.length {α β : Type} {P : α → β → Prop} {as : List α} {bs : List β} (h : All2 P as bs) : as.length = bs.length := by
  induction h with
  | nil => rfl
  | cons _ _ ih => exact congrArg (· + 1) ih
def dLcN (ti : DTI) (g : DTG) (tt : DTT) (te : DTE) (vs : List Nat) : DTE := fun Γ M Q E => ti Γ M (fun it M1 => ∃ P : D → Option D → Prop, dLcBody g tt te vs Γ M1 it P ∧ ∀ os, All2 P it.seq os → Q (.lst (os.filterMap id)) M1) E
def dLcNO (ti : DTI) (g : DTG) (tt : DTT) (te : DTE) (vs : List Nat) : DTE := fun Γ M Q E => ti Γ M (fun it M1 => ∃ P : D → Option D → Prop, dLcBody g tt te vs Γ M1 it P ∧ ∀ os, All2 P it.seq os → ∀ p, M1 p = none → Q (.ref p) (mup M1 p (.lst (os.filterMap id)))) E
theorem upLcX {ti : DTI} {g : DTG} {tt : DTT} {te : DTE} {vs : List Nat} {σ : St} {H : Hp} {Q : VK} {Γ : DG} {M F : _} {E : DXE} {Qf : List (Option D) → Mp → Addr → Prop} {Cn : DIt → Mp → Prop} (a : At (kt X W) W.w σ H Γ M F E)
    (h : ti Γ M Cn E) (hC : ∀ it M1, Cn it M1 → ∃ P : D → Option D → Prop, dLcBody g tt te vs Γ M1 it P ∧ ∀ os, All2 P it.seq os → ∀ p, M1 p = none → Qf os M1 p)
    (k : ∀ (F' H' : Hp) (os : List (Option D)) (M' : Mp) (p : Addr) (us : List V), Same F F' → Cc (kt X W) M' F' H' → F' p = none → M' p = none → H' p = some (.lst us) → Rps (kt X W) F' us (os.filterMap id) → Qf os M' p → Q (.ref p) H') :
    tLc (upI (kt X W) W.w ti) (upG (kt X W) (some vs) g) (upT (kt X W) noW tt) (upE (kt X W) noW te) vs σ H Q := by
  refine ⟨Γ, M, F, E, _, a, h, fun F1 H1 J it M1 s1 c1 ⟨hz, rj⟩ hc0 Dd hD => ?_⟩
  obtain ⟨P, ⟨okx, body⟩, q⟩ := hC it M1 hc0
  have m1 : M1 Dd = none := c1.Mnone hD
  -- the cells and the new list
  refine ⟨fun i m H2 => m = it.seq.length - i ∧ i ≤ it.seq.length ∧ ∃ F2 os us, Same F1 F2 ∧ All2 P (it.seq.take i) os ∧ Cc (kt X W) (mup M1 Dd (.lst (os.filterMap id))) F2 H2 ∧ H2 Dd = some (.lst us) ∧ us.length ≤ i ∧ Rps (kt X W) F2 us (os.filterMap id),
    ⟨_, rfl, Nat.zero_le _, F1, [], [], Same.refl _, .nil, c1.newM (x := .lst []) hD ⟨[], rfl, .nil⟩, upd_same, Nat.zero_le _, .nil⟩, ?_⟩
  rintro i m H2 ⟨rfl, hi, F2, os, us, s2, ho, c2, e2, hl, r2⟩
  have ext : Ext M1 (mup M1 Dd (.lst (os.filterMap id))) := fun b c hb => by
    rw [mup_ne fun z => by rw [z, m1] at hb; cases hb]
    exact hb
  obtain ⟨j1, j2⟩ := rj F2 H2 _ i s2 c2 (okx _ ext)
  by_cases hlt : i < it.seq.length
  · have hget : it.seq[i]? = some it.seq[i] := List.getElem?_eq_getElem hlt
    have ht : it.seq.take (i + 1) = it.seq.take i ++ [it.seq[i]] := by rw [List.take_add_one, hget]; rfl
    obtain ⟨go, yl⟩ := j1 _ hget
    refine .inr ⟨go, fun H4 => i + 1 ≤ it.seq.length ∧ ∃ F4 os us, Same F1 F4 ∧ All2 P (it.seq.take (i + 1)) os ∧ Cc (kt X W) (mup M1 Dd (.lst (os.filterMap id))) F4 H4 ∧ H4 Dd = some (.lst us) ∧ us.length ≤ i + 1 ∧ Rps (kt X W) F4 us (os.filterMap id),
      fun H4 qq => ⟨_, by omega, rfl, qq⟩, fun x H' y => ?_⟩
    obtain ⟨F3, s3, c3, r3⟩ := yl x H' y
    refine ⟨_, dwipe Γ vs, _, F3, _, c3, (a.g.mono ((s1.trans s2).trans s3)).wipe vs, r3, body _ (List.getElem_mem hlt) _ ext, fun F4 H4 σ4 Γ4 M4 s4 c4 g4 w4 q4 => ⟨?_, ?_⟩⟩
    · have z := w4 vs rfl
      rw [z]
      have wid : ∀ (l l2 : List Nat) (σ : St), (∀ j ∈ l, j ∈ l2) → wipe (wipe σ l2) l = wipe σ l2 := by
        intro l
        induction l with
        | nil => intro l2 σ _; rfl
        | cons j l ih =>
          intro l2 σ hj
          show (wipe (wipe σ l2) l).set j none = _
          rw [ih l2 σ fun j' hj' => hj j' (List.mem_cons_of_mem _ hj')]
          have hin : j ∈ l2 := hj j List.mem_cons_self
          have key : ∀ (l2 : List Nat) (σ : St), j ∈ l2 → (wipe σ l2).set j none = wipe σ l2 := by
            intro l2
            induction l2 with
            | nil => intro σ h; cases h
            | cons q l2 ih2 =>
              intro σ h
              show ((wipe σ l2).set q none).set j none = (wipe σ l2).set q none
              by_cases hq : q = j
              · subst hq
                rw [List.set_set]
              · have hm : j ∈ l2 := by
                  rcases List.mem_cons.mp h with e | e
                  · exact absurd e.symm hq
                  · exact e
                rw [List.set_comm _ _ hq, ih2 σ hm]
          exact key l2 σ hin
      exact wid vs vs σ fun _ hh => hh
    · refine ⟨Γ4, M4, F4, noE, _, ⟨c4, g4, fun _ _ _ _ _ _ _ _ _ _ _ _ _ _ z => z⟩, q4, fun F5 H5 b M5 s5 c5 q5 => ?_⟩
      have s15 := ((s2.trans s3).trans s4).trans s5
      cases b with
      | false =>
        rw [if_neg Bool.false_ne_true] at q5
        refine iteF ?_
        obtain ⟨e5, p5⟩ := q5
        subst e5
        obtain ⟨f5, o5, e6, us5, e7, r5⟩ := c5.ow Dd _ mup_same
        subst e7
        refine ⟨hlt, F5, os ++ [none], us5, s15, by rw [ht]; exact ho.snoc p5, ?_, e6, by rw [r5.length, ← r2.length]; omega, ?_⟩
        · rw [List.filterMap_append]
          simpa using c5
        · rw [List.filterMap_append]
          simpa using r5
      | true =>
        rw [if_pos rfl] at q5
        refine iteT ?_
        refine ⟨Γ4, M5, F5, noE, _, ⟨c5, g4.mono s5, fun _ _ _ _ _ _ _ _ _ _ _ _ _ _ z => z⟩, q5, fun F6 H6 v d M6 s6 c6 r6 ⟨e6, p6⟩ => ?_⟩
        subst e6
        obtain ⟨f7, o7, e7, us7, e8, r7⟩ := c6.ow Dd _ mup_same
        subst e8
        have hus : us7.length ≤ i := by rw [r7.length, ← r2.length]; exact hl
        refine ⟨us7, e7, by omega, hlt, F6, os ++ [some d], us7 ++ [v], s15.trans s6, by rw [ht]; exact ho.snoc p6, ?_, upd_same, by rw [List.length_append, List.length_singleton]; omega, ?_⟩
        · rw [List.filterMap_append]
          have c8 := c6.write (p := Dd) (x := .lst (os.filterMap id ++ [d])) (o := .lst (us7 ++ [v])) mup_same ⟨_, rfl, r7.append (.cons r6 .nil)⟩
          rw [mup_mup] at c8
          simpa using c8
        · rw [List.filterMap_append]
          simpa using r7.append (.cons r6 .nil)
  · have e : i = it.seq.length := by omega
    refine .inl ⟨j2 (by omega), ?_⟩
    rw [e, List.take_length] at ho
    have cl : Cc (kt X W) M1 F2 H2 := c2.less fun b u hb => by
      rw [mup_ne fun z => by rw [z, m1] at hb; cases hb]
      exact hb
    exact k F2 H2 os M1 Dd us (s1.trans s2) cl (c2.ow Dd _ mup_same).1 m1 e2 r2 (q os ho Dd m1)
theorem ownNew {K : KTb} {M : Mp} {F H : Hp} {p : Addr} {us : List V} {ds : List D} (c : Cc K M F H) (fp : F p = none) (mp : M p = none) (hp : H p = some (.lst us)) (r : Rps K F us ds) : Cc K (mup M p (.lst ds)) F H :=
  ⟨c.tb, c.fk, c.fr, fun b u e => by
    by_cases hb : b = p
    · subst hb
      rw [mup_same] at e
      cases e
      exact ⟨fp, _, hp, us, rfl, r⟩
    · rw [mup_ne hb] at e
      exact c.ow _ _ e⟩
theorem freezeNew {K : KTb} {M : Mp} {F H : Hp} {p : Addr} {us : List V} {ds : List D} (c : Cc K M F H) (fp : F p = none) (mp : M p = none) (hp : H p = some (.lst us)) (r : Rps K F us ds) : ∃ F', Same F F' ∧ Cc K M F' H ∧ Rp K F' (.ref p) (.lst ds) := by
  obtain ⟨F', s, c2, r2⟩ := (ownNew c fp mp hp r).freeze mup_same
  rw [mdel_mup mp] at c2
  exact ⟨F', s, c2, r2⟩
theorem upLcN {ti : DTI} {g : DTG} {tt : DTT} {te : DTE} {vs : List Nat} {σ : St} {H : Hp} {Q : VK} (h : upE (kt X W) W.w (dLcN ti g tt te vs) σ H Q) : tLc (upI (kt X W) W.w ti) (upG (kt X W) (some vs) g) (upT (kt X W) noW tt) (upE (kt X W) noW te) vs σ H Q := by
  obtain ⟨Γ, M, F, E, Qd, a, q, k⟩ := h
  refine upLcX (Qf := fun os M1 p => Qd (.lst (os.filterMap id)) M1) a q (fun it M1 ⟨P, b, hq⟩ => ⟨P, b, fun os ho _ _ => hq os ho⟩) fun F' H' os M' p us s c fp mp hp r qq => ?_
  obtain ⟨F2, s2, c2, r2⟩ := freezeNew c fp mp hp r
  exact k F2 H' _ _ M' (s.trans s2) c2 r2 qq
/-- the parts of a comprehension: its walk, target, tests, element, within the block -/
structure LcOk (X : Cx) (W : WT) (elt tg iter : Expr) (ifs : List Expr) (scope : Scope) (own : List (Str × Nat)) (ti : DTI) (g : DTG) (tt : DTT) (te : DTE) : Prop where
  hc : X.calm = true
  hN : X.N.Nodup
  hi : DI X W tg iter ti
  ok : BlkOk X.N X.env.scope scope own
  hg : ∀ (s : Shared) (H : Hp) (C : Addr) (cl : List (Str × Addr)) (fp : List Addr), DGt (X.blk s H scope (compEnvC scope cl C X.env) fp) W.T (some (own.map (·.2))) tg g
  ht : ∀ (s : Shared) (H : Hp) (C : Addr) (cl : List (Str × Addr)) (fp : List Addr), DTs (X.blk s H scope (compEnvC scope cl C X.env) fp) (noT W.T) ifs tt
  he : ∀ (s : Shared) (H : Hp) (C : Addr) (cl : List (Str × Addr)) (fp : List Addr), DE (X.blk s H scope (compEnvC scope cl C X.env) fp) (noT W.T) elt te
section
variable {elt iter : Expr} {ifs : List Expr} {scope : Scope} {own : List (Str × Nat)} {ti : DTI} {g : DTG} {tt : DTT} {te : DTE}
theorem de_lcG {t : DTE} (L : LcOk X W elt tg iter ifs scope own ti g tt te) (h : ∀ σ H Q, upE (kt X W) W.w t σ H Q → tLc (upI (kt X W) W.w ti) (upG (kt X W) (some (own.map (·.2))) g) (upT (kt X W) noW tt) (upE (kt X W) noW te) (own.map (·.2)) σ H Q) (hs : ∀ x, foldedSetIterable iter X.env x = pure x := by intro _; rfl) :
    DE X W (.ListComp elt [⟨tg, iter, ifs, 0⟩] scope pos) t :=
  ⟨peW (pe_lc L.hc L.hN L.hi.pi L.ok (fun s H C cl fp => (L.hg s H C cl fp).pg) (fun s H C cl fp => (L.ht s H C cl fp).pt) (fun s H C cl fp => (L.he s H C cl fp).pe) hs) h⟩
theorem de_lcN (L : LcOk X W elt tg iter ifs scope own ti g tt te) (hs : ∀ x, foldedSetIterable iter X.env x = pure x := by intro _; rfl) : DE X W (.ListComp elt [⟨tg, iter, ifs, 0⟩] scope pos) (dLcN ti g tt te (own.map (·.2))) := de_lcG L (fun _ _ _ h => upLcN h) hs
/-- name = [..], the name a local, on one line -/
theorem ds_setLcG {i : Nat} {y : Str} {py pos2 : Pos} {t : DTE} (L : LcOk X W elt tg iter ifs scope own ti g tt te) (h : ∀ σ H Q, upE (kt X W) W.w t σ H Q → tLc (upI (kt X W) W.w ti) (upG (kt X W) (some (own.map (·.2))) g) (upT (kt X W) noW tt) (upE (kt X W) noW te) (own.map (·.2)) σ H Q)
    (hy : X.N[i]? = some y) (hyl : X.env.scope.names.lookup y = some .local) (hsw : swapsWith (.ListComp elt [⟨tg, iter, ifs, 0⟩] scope pos) (some (.Name y py)) pos2.line X.env = pure true) (hs : ∀ x, foldedSetIterable iter X.env x = pure x := by intro _; rfl) :
    DS X W (.Assign [.Name y py] (.ListComp elt [⟨tg, iter, ifs, 0⟩] scope pos) pos2) (dSet t i) :=
  ⟨psW (ps_setLc L.hc L.hN hy hyl hsw L.hi.pi L.ok (fun s H C cl fp => (L.hg s H C cl fp).pg) (fun s H C cl fp => (L.ht s H C cl fp).pt) (fun s H C cl fp => (L.he s H C cl fp).pe) hs) fun E σ H ⟨Γ, M, F, Dn, a, q, k⟩ =>
    h σ H _ ⟨Γ, M, F, _, _, a, q, fun F1 H1 v d M1 s1 c1 r1 q1 => k.nx F1 H1 _ _ M1 s1 c1 ((a.g.mono s1).set r1 i) q1⟩⟩
theorem ds_setLcN (i : Nat) {y : Str} {py pos2 : Pos} (L : LcOk X W elt tg iter ifs scope own ti g tt te) (hsw : swapsWith (.ListComp elt [⟨tg, iter, ifs, 0⟩] scope pos) (some (.Name y py)) pos2.line X.env = pure true) (hy : X.N[i]? = some y := by rfl) (hyl : X.env.scope.names.lookup y = some .local := by rfl) (hs : ∀ x, foldedSetIterable iter X.env x = pure x := by intro _; rfl) : DS X W (.Assign [.Name y py] (.ListComp elt [⟨tg, iter, ifs, 0⟩] scope pos) pos2) (dSet (dLcN ti g tt te (own.map (·.2))) i) := ds_setLcG L (fun _ _ _ h => upLcN h) hy hyl hsw hs
end
end
end DL
namespace DL
open PySem L2
abbrev DXK := Addr → List (Str × D) → Mp → Prop
abbrev DSp := List D → Mp → DQ → DXK → Prop
def CoX (K : KTb) (F : Hp) (Ed : DXK) (E : XK) : Prop := ∀ (F' H' : Hp) (C d : Addr) (us : List (Str × V)) (fs : List (Str × D)) (M' : Mp), Same F F' → Cc K M' F' H' → H' d = some (.xd us) → RpF K F' us fs → Ed C fs M' → E (.ref C) (some d) H'
theorem CoX.mono {K : KTb} {F F1 : Hp} {Ed : DXK} {E : XK} (w : CoX K F Ed E) (s : Same F F1) : CoX K F1 Ed E := fun F' H' C d us fs M s1 => w F' H' C d us fs M (s.trans s1)
def spUp (K : KTb) (sp : DSp) : Sp := fun vs H Q E => ∃ (ds : List D) (M : Mp) (F : Hp) (Qd : DQ) (Ed : DXK), Cc K M F H ∧ Rps K F vs ds ∧ sp ds M Qd Ed ∧ CoQ K F Qd Q ∧ CoX K F Ed E
/-- a value handed back may be frozen, cells may be let go -/
def Fin (K : KTb) (Qd : DQ) : DQ := fun d M => ∀ (F H : Hp) (v : V), Cc K M F H → Rp K F v d → ∃ (F2 : Hp) (d2 : D) (M2 : Mp), Same F F2 ∧ Cc K M2 F2 H ∧ Rp K F2 v d2 ∧ Qd d2 M2
theorem Fin.same {K : KTb} {Qd : DQ} {d : D} {M : Mp} (h : Qd d M) : Fin K Qd d M := fun F H v c r => ⟨F, d, M, Same.refl _, c, r, h⟩
theorem Fin.less {K : KTb} {Qd : DQ} {d : D} {M M2 : Mp} (h : Qd d M2) (e : ∀ a u, M2 a = some u → M a = some u) : Fin K Qd d M := fun F H v c r => ⟨F, d, M2, Same.refl _, c.less e, r, h⟩
theorem Fin.frz {K : KTb} {Qd : DQ} {p : Addr} {xs : List D} {M : Mp} (e : M p = some (.lst xs)) (h : Qd (.lst xs) (mdel M p)) : Fin K Qd (.ref p) M := fun F H v c r => by
  cases r
  obtain ⟨F2, s, c2, r2⟩ := c.freeze e
  exact ⟨F2, _, _, s, c2, r2, h⟩
abbrev wOf (T : List (Addr × Str)) (E : XK) : WT := ⟨T, fun cls d _ H => E cls d H⟩
def dstart (N : List Str) (ds : List D) : DG := ds.map some ++ List.replicate (N.length - ds.length) none
theorem start_rp {K : KTb} {F : Hp} {N : List Str} {vs : List V} {ds : List D} (r : Rps K F vs ds) (hl : vs.length ≤ N.length) : RpG K F (start N vs) (dstart N ds) := by
  refine ⟨by simp [L2.start, dstart, r.length], fun i d h => ?_⟩
  unfold dstart at h
  unfold L2.start
  by_cases hi : i < ds.length
  · rw [List.getElem?_append_left (by simpa using hi), List.getElem?_map] at h
    rw [List.getElem?_append_left (by simpa [r.length] using hi), List.getElem?_map]
    cases e : ds[i]? with
    | none => rw [e] at h; cases h
    | some d' =>
      rw [e] at h
      cases h
      obtain ⟨v, h1, h2⟩ := r.get e
      exact ⟨v, by rw [h1] <;> rfl, h2⟩
  · rw [List.getElem?_append_right (by simpa using hi), List.getElem?_replicate] at h
    split at h <;> cases h
/-- a def as it stands behind the top, whatever its defaults are -/
structure FunK (K : PySem.W.Frag) (x qual : Str) (st : Stmt) (f : Addr) (fd : FuncData) : Prop where
  ex : ∃ (oc : Value) (od : Option Addr) (dV kV doc pm : Value) (an : Option Addr) (cdv ct : Value) (osl : Array (Option Value)),
    fd = PySem.W.fnOf x qual (defArgs st) (defBody st) (defScope st) dV kV doc pm an cdv ct ∧ K.lookup f = some ⟨oc, od, .func fd, osl⟩ ∧ PySem.W.codeIn K cdv qual = true
  kp : PySem.W.keepIn K (.ref f) = true
theorem FunK.of {K : PySem.W.Frag} {x qual : Str} {st : Stmt} {f : Addr} {fd : FuncData} (F : Fun K x qual st f fd) : FunK K x qual st f fd := by
  obtain ⟨oc, od, kV, doc, pm, an, cdv, ct, osl, h1, h2, h3⟩ := F.ex
  exact ⟨⟨oc, od, .none, kV, doc, pm, an, cdv, ct, osl, h1, h2, h3⟩, F.kp⟩
theorem FunK.ofD {K : PySem.W.Frag} {x qual : Str} {st : Stmt} {f : Addr} {fd : FuncData} {dvs : List V} {kws : List (Str × V)} (F : FunD K x qual (defArgs st) (defBody st) (defScope st) dvs kws f fd) : FunK K x qual st f fd := by
  obtain ⟨oc, od, dV, kV, doc, pm, an, cdv, ct, osl, h1, h2, h3, _⟩ := F.ex
  exact ⟨⟨oc, od, dV, kV, doc, pm, an, cdv, ct, osl, h1, h2, h3⟩, F.kp⟩
section
variable {P : Program} {w : World} {K : PySem.W.Frag} {T : List (Addr × Str)} {mg : Str → Option Value} {base : Heap}
/-- as Fun.okX -/
theorem FunK.okX {x qual : Str} {st : Stmt} {f : Addr} {fd : FuncData} {N ps : List Str} {k : Nat} {sp : Sp} (F : FunK K x qual st f fd) (S : FnScope N ps (defScope st)) (len : ∀ vs H Q E, sp vs H Q E → vs.length = ps.length)
    (hbody : ∀ (cdv : Value) (A : Around) (outer : List Env) (s : Shared) (H : Hp) (vs : List V) (Q : VK) (E : XK), Room k (A.deeper (PyProof.Rows.envOfC qual (defScope st) s.heap.objs.size f cdv)) → sp vs H Q E →
      ∃ t, PSs (cxOf (L2.CX P w) P w K mg base N qual (defScope st) f cdv A outer s H E) (defBody st) t ∧ t { nx := fun _ H' => Q .non H', rt := Q } (L2.start N vs) H) : FnOk P w K mg base (L2.CX P w) (k + 1) f fd ps sp := by
  obtain ⟨oc, od, dV, kV, doc, pm, an, cdv, ct, osl, rfl, lk, hcd⟩ := F.ex
  exact fn_of lk hcd S len fun A outer s H vs Q E hr hsp => hbody cdv A outer s H vs Q E hr hsp
/-- THE RULE for a def: its body's reading, over data -/
theorem dfn {x qual : Str} {st : Stmt} {f : Addr} {fd : FuncData} {N ps : List Str} {k : Nat} {sp : DSp} (Fn : FunK K x qual st f fd) (S : FnScope N ps (defScope st)) (len : ∀ ds M Q E, sp ds M Q E → ds.length = ps.length)
    (hbody : ∀ (cdv : Value) (A : Around) (outer : List Env) (s : Shared) (H : Hp) (E : XK), Room k (A.deeper (PyProof.Rows.envOfC qual (defScope st) s.heap.objs.size f cdv)) → ∃ t, DSs (cxOf (L2.CX P w) P w K mg base N qual (defScope st) f cdv A outer s H E) (wOf T E) (defBody st) t ∧
      ∀ (ds : List D) (M : Mp) (Qd : DQ) (Ed : DXK) (F : Hp) (H : Hp), sp ds M Qd Ed → Cc ⟨K, T⟩ M F H → ∃ (F2 : Hp) (M2 : Mp), Same F F2 ∧ Cc ⟨K, T⟩ M2 F2 H ∧ t { nx := fun _ M' => Fin ⟨K, T⟩ Qd .non M', rt := Fin ⟨K, T⟩ Qd, ex := fun _ C fs M' => Ed C fs M' } (dstart N ds) M2) : FnOk P w K mg base (L2.CX P w) (k + 1) f fd ps (spUp ⟨K, T⟩ sp) := by
  have hlen : ∀ vs H Q E, spUp ⟨K, T⟩ sp vs H Q E → vs.length = ps.length := fun vs H Q E ⟨ds, M, F, Qd, Ed, c, r, h, _, _⟩ => by rw [r.length]; exact len _ _ _ _ h
  refine Fn.okX S hlen fun cdv A outer s H vs Q E hr h => ?_
  have hl := hlen _ _ _ _ h
  obtain ⟨ds, M, F, Qd, Ed, c, r, h, kq, kx⟩ := h
  obtain ⟨t, ht, hb⟩ := hbody cdv A outer s H E hr
  refine ⟨_, ht.ps, ?_⟩
  obtain ⟨F2, M2, s2, c2, hb⟩ := hb ds M Qd Ed F H h c
  have hpl : ps.length ≤ N.length := by have := congrArg List.length S.pre; rw [List.length_take] at this; omega
  refine ⟨dstart N ds, M2, F2, _, ⟨c2, start_rp (r.mono s2) (by omega), fun F' H' σ Γ C d us fs M' s1 c1 _ hd rf q => kx F' H' C d us fs M' (s2.trans s1) c1 hd rf q⟩, hb, ?_, ?_, fun _ _ _ _ _ _ _ _ z => z.elim, fun _ _ _ _ _ _ _ _ z => z.elim⟩
  · intro F' H' σ' Γ' M' s1 c1 g1 q1
    obtain ⟨F3, d2, M3, s3, c3, r3, q3⟩ := q1 F' H' .non c1 .non
    exact kq F3 H' _ _ _ ((s2.trans s1).trans s3) c3 r3 q3
  · intro F' H' v d M' s1 c1 r1 q1
    obtain ⟨F3, d2, M3, s3, c3, r3, q3⟩ := q1 F' H' v c1 r1
    exact kq F3 H' _ _ _ ((s2.trans s1).trans s3) c3 r3 q3
/-- a def of the module, where its text stands; it binds its parameters ps, dds the defaults that fill up -/
structure DefAt (K : PySem.W.Frag) (mg : Str → Option Value) (x : Str) (st : Stmt) (ps : List Str) : Prop where
  ex : ∃ f fd, mg x = some (.ref f) ∧ FunK K x x st f fd ∧ Binds K fd ps []
/-- a def of the module keeps a promise over data -/
structure Dfk (P : Program) (w : World) (K : PySem.W.Frag) (mg : Str → Option Value) (base : Heap) (T : List (Addr × Str)) (x : Str) (k : Nat) (ps : List Str) (sp : DSp) : Prop where
  ex : ∃ f fd, FnOk P w K mg base (L2.CX P w) k f fd ps (spUp ⟨K, T⟩ sp) ∧ mg x = some (.ref f) ∧ PySem.W.keepIn K (.ref f) = true ∧ Binds K fd ps []
theorem Dfk.imp {x : Str} {k : Nat} {ps : List Str} {sp sp' : DSp} (h : Dfk P w K mg base T x k ps sp) (i : ∀ ds M Q E, sp' ds M Q E → sp ds M Q E) : Dfk P w K mg base T x k ps sp' := by
  obtain ⟨f, fd, h1, h2⟩ := h.ex
  exact ⟨f, fd, h1.imp fun vs H Q E ⟨ds, M, F, Qd, Ed, c, r, q, k⟩ => ⟨ds, M, F, Qd, Ed, c, r, i _ _ _ _ q, k⟩, h2⟩
theorem Dfk.mono {x : Str} {k k' : Nat} {ps : List Str} {sp : DSp} (h : Dfk P w K mg base T x k ps sp) (i : k ≤ k') : Dfk P w K mg base T x k' ps sp := by
  obtain ⟨f, fd, h1, h2⟩ := h.ex
  exact ⟨f, fd, h1.mono i, h2⟩
/-- THE RULE for a def of the module whose cells need no opening -/
theorem DefAt.ok {x : Str} {st : Stmt} {N ps : List Str} {k : Nat} {sp : DSp} (Fn : DefAt K mg x st ps) (S : FnScope N ps (defScope st)) (len : ∀ ds M Q E, sp ds M Q E → ds.length = ps.length)
    (hbody : ∀ (f : Addr) (cdv : Value) (A : Around) (outer : List Env) (s : Shared) (H : Hp) (E : XK), Room k (A.deeper (PyProof.Rows.envOfC x (defScope st) s.heap.objs.size f cdv)) → ∃ t, DSs (cxOf (L2.CX P w) P w K mg base N x (defScope st) f cdv A outer s H E) (wOf T E) (defBody st) t ∧
      ∀ (ds : List D) (M : Mp) (Qd : DQ) (Ed : DXK), sp ds M Qd Ed → t { nx := fun _ M' => Fin ⟨K, T⟩ Qd .non M', rt := Fin ⟨K, T⟩ Qd, ex := fun _ C fs M' => Ed C fs M' } (dstart N ds) M) : Dfk P w K mg base T x (k + 1) ps sp := by
  obtain ⟨f, fd, h1, h2, h3⟩ := Fn.ex
  refine ⟨f, fd, dfn h2 S len fun cdv A outer s H E hr => ?_, h1, h2.kp, h3⟩
  obtain ⟨t, ht, hq⟩ := hbody f cdv A outer s H E hr
  exact ⟨t, ht, fun ds M Qd Ed F H h c => ⟨F, M, Same.refl _, c, hq ds M Qd Ed h⟩⟩
end
section
variable {X : Cx} {W : WT} {e : Expr} {es : List Expr} {pos : Pos}
def dCall (sp : DSp) (dds : List D) (t : DTA) : DTE := fun Γ M Q E => t Γ M (fun ds M1 => sp (ds ++ dds) M1 Q (fun C fs M2 => E Γ C fs M2)) E
theorem up_sp {sp : DSp} {F H : Hp} {M : Mp} {vs dvs : List V} {ds dds : List D} {Qd : DQ} {Q : VK} {σ : St} {Γ : DG} {E : DXE} (c : Cc (kt X W) M F H) (r : Rps (kt X W) F vs ds) (hd : ∀ F, Rps (kt X W) F dvs dds) (g : RpG (kt X W) F σ Γ) (w : Ew (kt X W) F E W.w)
    (q : sp (ds ++ dds) M Qd (fun C fs M2 => E Γ C fs M2)) (k : CoQ (kt X W) F Qd Q) : spUp (kt X W) sp (vs ++ dvs) H Q (fun cls d H => W.w cls d σ H) :=
  ⟨ds ++ dds, M, F, Qd, _, c, r.append (hd F), q, k, fun F' H' C d us fs M' s c hd rf q => w F' H' σ Γ C d us fs M' s c (g.mono s) hd rf q⟩
theorem de_call {k : Nat} {f : Addr} {fd : FuncData} {ps : List Str} {sp : DSp} {dvs : List V} {dds : List D} {vds : List Value} {x : Str} {p : Pos} {t : DTA} (Fn : FnOk X.prog X.w X.K X.mg X.base (L2.CX X.prog X.w) k f fd ps (spUp (kt X W) sp)) (hr : Room k X.A) (hm : X.mg x = some (.ref f)) (hk : PySem.W.keepIn X.K (.ref f) = true) (hb : Binds X.K fd ps vds) (hd : Vals dvs vds) (hdd : ∀ F, Rps (kt X W) F dvs dds) (tk : Takes X W.w)
    (ha : DA X W (e :: es) t) (hg : Gl X x := by rfl) (hdb : (x == ("__debug__" : Str)) = false := by decide) (he : starEach (e :: es) X.env = (false, eval e X.env) :: starEach es X.env := by rfl) (hpl : (backTo pos (starEach es X.env)).any (·.1) = false := by rfl) :
    DE X W (.Call (.Name x p) (e :: es) [] pos) (dCall sp dds t) :=
  ⟨peW (pe_callSD (E := fun σ cls d H => W.w cls d σ H) Fn hr hg hm hk hb hd (fun σ => passAt tk σ) ha.pa hdb he hpl) fun σ H Q ⟨Γ, M, F, E, Qd, a, q, k⟩ => ⟨Γ, M, F, E, _, a, q, fun F1 H1 vs ds M1 s1 c1 r1 q1 =>
    up_sp c1 r1 hdd (a.g.mono s1) (a.w.mono s1) q1 (k.mono s1)⟩⟩
/-- all parameters given -/
theorem de_callA {k : Nat} {ps : List Str} {sp : DSp} {x : Str} {p : Pos} {t : DTA} (Fn : Dfk X.prog X.w X.K X.mg X.base W.T x k ps sp) (hr : Room k X.A) (tk : Takes X W.w)
    (ha : DA X W (e :: es) t) (hg : Gl X x := by rfl) (hdb : (x == ("__debug__" : Str)) = false := by decide) (he : starEach (e :: es) X.env = (false, eval e X.env) :: starEach es X.env := by rfl) (hpl : (backTo pos (starEach es X.env)).any (·.1) = false := by rfl) :
    DE X W (.Call (.Name x p) (e :: es) [] pos) (dCall sp [] t) := by
  obtain ⟨f, fd, h1, h2, h3, h4⟩ := Fn.ex
  exact de_call h1 hr h2 h3 h4 .nil (fun _ => .nil) tk ha hg hdb he hpl
def dAppend (tx te : DTE) : DTE := fun Γ M Q E => tx Γ M (fun d M1 => (∃ xs, sqX M1 d = some xs) ∧ te Γ M1 (fun y M2 => ∃ p xs, d = .ref p ∧ M2 p = some (.lst xs) ∧ xs.length < sizeLine ∧ Q .non (mup M2 p (.lst (xs ++ [y])))) E) E
theorem ty_list {K : KTb} {M : Mp} {F H : Hp} {v : V} {d : D} {xs : List D} (c : Cc K M F H) (r : Rp K F v d) (h : sqX M d = some xs) : tyV K.K "list" v H := by
  obtain ⟨a, vs, rfl, h1, _⟩ := sqx_of c r h
  exact .inl ⟨rfl, vs, .inl (.inl h1)⟩
theorem de_append {xs y : Expr} {apos cpos : Pos} {tx te : DTE} (hx : DE X W xs tx) (hy : DE X W y te)
    (hbase : attributeBase xs "append" X.env (eval xs X.env) = eval xs X.env := by rfl)
    (hfew : ((backTo cpos (starEach [y] X.env)).all (fun x => !x.1) && (backToKw cpos (keywordEach [] X.env)).all (fun x => x.1.isSome) && decide (([y] : List Expr).length + ([] : List Keyword).length + (if ([] : List Keyword).isEmpty then 0 else 1) < 30)) = true := by rfl)
    (hline : (apos.endLine == cpos.line) = true := by rfl) (hs : starEach [y] X.env = (false, eval y X.env) :: starEach [] X.env := by rfl) : DE X W (.Call (.Attribute xs "append" apos) [y] [] cpos) (dAppend tx te) :=
  ⟨peW (pe_bm PySem.F.plainAttrs_list PySem.F.slot_list_append PySem.F.type_list_append mt_append hx.pe (pa_cons hy.pe pa_nil hs) hbase hfew hline hs rfl) fun σ H Q ⟨Γ, M, F, E, Qd, a, q, k⟩ => ⟨Γ, M, F, E, _, a, q, fun F1 H1 v d M1 s1 c1 r1 ⟨⟨xs, e1⟩, q1⟩ => ⟨ty_list c1 r1 e1,
    Γ, M1, F1, E, _, a.next s1 c1, q1, fun F2 H2 w e M2 s2 c2 r2 ⟨p, ys, e2, e3, hz, q2⟩ => by
      subst e2
      cases r1
      obtain ⟨f, o, e4, us, e5, r5⟩ := c2.ow _ _ e3
      subst e5
      exact ⟨p, us, w, rfl, rfl, e4, by rw [r5.length]; exact hz, k _ _ _ _ _ (s1.trans s2) (c2.write (x := .lst _) e3 ⟨_, rfl, r5.append (.cons r2 .nil)⟩) .non q2⟩⟩⟩⟩
/-- o[i] = e, o a list -/
def gdSub (to ti : DTE) : DTG := fun d Γ M Q => to Γ M (fun o M1 => ti Γ M1 (fun i M2 => ∃ p xs k j, o = .ref p ∧ i = .int k ∧ M2 p = some (.lst xs) ∧ ixN xs.length k = some j ∧ Q Γ (mup M2 p (.lst (xs.set j d)))) noE) noE
theorem dg_sub {o i : Expr} {to ti : DTE} {T : List (Addr × Str)} (ho : DE X (noT T) o to) (hi : DE X (noT T) i ti)
    (ha : ∀ v, assign (.Subscript o i pos) X.env v = (do
      let ov ← holding [v] (eval o X.env)
      let iv ← holding [v, ov] (eval i X.env)
      standAt pos
      holding [v, ov, iv] (setItem ov iv v)
      release [v, ov, iv] []) := by intro _; rfl) : DGt X T none (.Subscript o i pos) (gdSub to ti) :=
  ⟨pgW (pg_sub ho.pe hi.pe set_list ha) fun v σ H Q ⟨d, Γ, M, F, Qd, c, g, r, q, k⟩ => ⟨Γ, M, F, noE, _, ⟨c, g, fun _ _ _ _ _ _ _ _ _ _ _ _ _ _ z => z⟩, q, fun F1 H1 x o M1 s1 c1 r1 q1 => ⟨Γ, M1, F1, noE, _, ⟨c1, g.mono s1, fun _ _ _ _ _ _ _ _ _ _ _ _ _ _ z => z⟩, q1, fun F2 H2 y i M2 s2 c2 r2 ⟨p, xs, kk, j, e1, e2, e3, hj, q2⟩ => by
    subst e1
    subst e2
    cases r1
    cases r2
    obtain ⟨f, o, e4, us, e5, r5⟩ := c2.ow _ _ e3
    subst e5
    exact ⟨p, us, kk, j, rfl, rfl, e4, by rw [r5.length]; exact hj, k _ _ _ _ _ (s1.trans s2) (c2.write (x := .lst _) e3 ⟨_, rfl, r5.set (r.mono (s1.trans s2)) j⟩) (g.mono (s1.trans s2)) (fun _ e => nomatch e) q2⟩⟩⟩⟩
/-- what is known may be told otherwise -/
def GhS (K : KTb) (P : DG → Mp → Prop) : DG → Mp → Prop := fun Γ M => ∀ (F H : Hp) (σ : St), Cc K M F H → RpG K F σ Γ → ∃ (F2 : Hp) (Γ2 : DG) (M2 : Mp), Same F F2 ∧ Cc K M2 F2 H ∧ RpG K F2 σ Γ2 ∧ P Γ2 M2
theorem dss_gh {sts : List Stmt} {t : DTS} (h : DSs X W sts t) : DSs X W sts (fun Dn Γ M => GhS (kt X W) (t Dn) Γ M) := ⟨pssW h.ps fun E σ H ⟨Γ, M, F, Dn, a, q, k⟩ => by
  obtain ⟨F2, Γ2, M2, s, c, g, q⟩ := q F H σ a.c a.g
  exact ⟨Γ2, M2, F2, Dn, ⟨c, g, a.w.mono s⟩, q, k.mono s⟩⟩
theorem GhS.same {K : KTb} {P : DG → Mp → Prop} {Γ : DG} {M : Mp} (h : P Γ M) : GhS K P Γ M := fun F H σ c g => ⟨F, Γ, M, Same.refl _, c, g, h⟩
/-- the cell at p in slot i is frozen -/
theorem GhS.frz {K : KTb} {P : DG → Mp → Prop} {Γ : DG} {M : Mp} {i : Nat} {p : Addr} {xs : List D} (h1 : Γ[i]? = some (some (.ref p))) (h2 : M p = some (.lst xs)) (h : P (Γ.set i (some (.lst xs))) (mdel M p)) : GhS K P Γ M := fun F H σ c g => by
  obtain ⟨F2, s, c2, r2⟩ := c.freeze h2
  obtain ⟨v, e, r⟩ := g.at_ i _ h1
  cases r
  have g2 := (g.mono s).set r2 i
  have es : σ.set i (some (.ref p)) = σ := by
    obtain ⟨hl, e'⟩ := List.getElem?_eq_some_iff.mp e
    rw [← e']
    exact List.set_getElem_self hl
  rw [es] at g2
  exact ⟨F2, _, _, s, c2, g2, h⟩
/-- slots forgotten, cells let go -/
theorem GhS.less {K : KTb} {P : DG → Mp → Prop} {Γ Γ2 : DG} {M M2 : Mp} (hl : Γ2.length = Γ.length) (h1 : ∀ (i : Nat) (d : D), Γ2[i]? = some (some d) → Γ[i]? = some (some d)) (h2 : ∀ a u, M2 a = some u → M a = some u) (h : P Γ2 M2) : GhS K P Γ M := fun F H σ c g =>
  ⟨F, Γ2, M2, Same.refl _, c.less h2, ⟨by rw [g.len, hl], fun i d e => g.at_ i d (h1 i d e)⟩, h⟩
end
end DL
namespace DL
open PySem L2
section
variable {X : Cx} {CX : CXT} {k : Nat} {f : Addr} {fd : FuncData} {ps : List Str} {sp : Sp} {E : XK} {x m : Str} {CL : Addr} {mc : Value} {p1 p2 pos : Pos} {e : Expr} {es : List Expr} {t : TA} {pl : Sem Bool}
/-- C.m(e, ..), C a class of the module, m a def of it: called as it is -/
theorem pe_clscall (hm : X.mg x = some (.ref CL)) (r : ClX.CRead X.K CL mc) (kk : PySem.W.findCls X.K (.ref CL) mc m = some (.val (.ref f))) (Fn : FnOk X.prog X.w X.K X.mg X.base CX k f fd ps sp) (hr : Room k X.A) (hk : PySem.W.keepIn X.K (.ref f) = true) (hb : Binds X.K fd ps []) (hx : Passes CX X E)
    (ha : PA X (e :: es) t) (hg : Gl X x := by rfl) (hdb : (x == ("__debug__" : Str)) = false := by decide)
    (hst : starEach (e :: es) X.env = (false, eval e X.env) :: starEach es X.env := by rfl) (hpl : (backTo pos (starEach es X.env)).any (·.1) = false := by rfl)
    (ht : eval (.Call (.Attribute (.Name x p1) m p2) (e :: es) [] pos) X.env = (do
      let ov ← eval (.Name x p1) X.env
      standAt p2.atName
      let (f, first) ← holding [ov] (getMethod ov m pl)
      callWith pos f first (backTo pos (starEach (e :: es) X.env)) (backToKw pos (keywordEach [] X.env))) := by rfl) :
    PE X (.Call (.Attribute (.Name x p1) m p2) (e :: es) [] pos) (tCall sp [] E t) := by
  refine ⟨fun pins s σ H Q I h => ?_⟩
  refine PySem.W.methodCall_KW (pl := pl) (ld_glob I hg hm ?_ hdb) ht
  refine PySem.W.method_cls I.kIn r.ga (ClX.getcval_ok I r (v := .ref f) ⟨kk, rfl⟩ fun s' I' => ?_)
  refine PySem.W.callWith_K (h₀ := X.base) I'.ok.mod.kin hk (thn (ha.run pos pins s' σ H _ I' h) fun us s1 ⟨vs, H1, I1, r, q⟩ => ⟨I1.kIn, ?_⟩) hst hpl
  exact run_fn Fn hr hb .nil hx I1 r q
end
/-- __init__ of an exception's class: what it leaves -/
def spIni (C : Addr) (n : Nat) (fs : List V → List (Str × V)) : Sp := fun vs H Q _ => ∃ (a : Addr) (ws : List V), vs = .ref a :: ws ∧ ws.length = n ∧ H a = some (exo a C none) ∧
  ∀ (d : Addr) (H' : Hp), H d = none → d ≠ a → H' a = some (exo a C (some d)) → H' d = some (exd d (fs ws)) → (∀ b, b ≠ a → b ≠ d → H' b = H b) → Q .non H'
/-- .. of the base, for any class above it that has no attribute of the name -/
def spBase (K : PySem.W.Frag) (f : Str) : Sp := fun vs H Q _ => ∃ (a C : Addr) (v : V), vs = [.ref a, v] ∧ OexC K C ∧ PySem.W.findIn K (.ref C) f = some none ∧ H a = some (exo a C none) ∧
  ∀ (d : Addr), H d = none → d ≠ a → Q .non (upd (upd H d (exd d [(f, v)])) a (exo a C (some d)))
/-- a base: its class, its __init__ -/
structure ExB (P : Program) (w : World) (K : PySem.W.Frag) (mg : Str → Option Value) (base : Heap) (x : Str) (fw : Str) : Prop where
  ex : ∃ (CL f : Addr) (fd : FuncData) (mc : Value), mg x = some (.ref CL) ∧ ClX.CRead K CL mc ∧ PySem.W.findCls K (.ref CL) mc "__init__" = some (.val (.ref f)) ∧ FnOk P w K mg base (L2.CX P w) 1 f fd ["self", "word"] (spBase K fw) ∧ PySem.W.keepIn K (.ref f) = true ∧ Binds K fd ["self", "word"] []
/-- a class that is raised: n arguments, its fields by them (the last one stored first) -/
structure ExC (P : Program) (w : World) (K : PySem.W.Frag) (mg : Str → Option Value) (base : Heap) (x : Str) (C : Addr) (n : Nat) (fs : List V → List (Str × V)) : Prop where
  T : OexC K C
  mgC : mg x = some (.ref C)
  ex : ∃ (f : Addr) (fd : FuncData) (ps : List Str), PySem.W.findIn K (.ref C) "__init__" = some (some (.ref f)) ∧ PySem.W.typeIn K (.ref f) = some (.type "function") ∧ FnOk P w K mg base (L2.CX P w) 2 f fd ps (spIni C n fs) ∧ Binds K fd ps []
theorem passL0 {X : Cx} : Passes (L2.CX X.prog X.w) X (fun _ _ _ => False) := fun _ _ _ _ _ _ _ h => by
  obtain ⟨_, _, _, _, _, _, _, _, _, _, _, _, z⟩ := h
  exact z.elim
section
variable {P : Program} {w : World} {K : PySem.W.Frag} {mg : Str → Option Value} {base : Heap}
/-- def __init__(self, word): self.word = word -/
theorem okBase {qual f : Str} {st : Stmt} {g : Addr} {fd : FuncData} (F : FunK K "__init__" qual st g fd) (S : FnScope ["self", "word"] ["self", "word"] (defScope st))
    (hps : ∀ (cdv : Value) (A : Around) (outer : List Env) (s : Shared) (H : Hp) (E : XK), PSs (cxOf (L2.CX P w) P w K mg base ["self", "word"] qual (defScope st) g cdv A outer s H E) (defBody st) (tOst K f (tVar 0) (tVar 1))) :
    FnOk P w K mg base (L2.CX P w) 1 g fd ["self", "word"] (spBase K f) := by
  refine F.okX S (fun vs H Q E ⟨a, C, v, e, _⟩ => by subst e; rfl) fun cdv A outer s H vs Q E hr h => ?_
  obtain ⟨a, C, v, rfl, T, hno, ha, k⟩ := h
  refine ⟨_, hps cdv A outer s H E, ?_⟩
  exact ⟨v, rfl, .ref a, rfl, a, C, rfl, T, hno, .inl ⟨ha, fun d hd hne => k d hd hne⟩⟩
/-- def __init__(self, y): B.__init__(self, 'word'); self.y = y -/
theorem okIni1 {qual bx wd y : Str} {st : Stmt} {C g : Addr} {fd : FuncData} (B : ExB P w K mg base bx "word") (T : OexC K C) (hno : PySem.W.findIn K (.ref C) "word" = some none) (hno2 : PySem.W.findIn K (.ref C) y = some none) (F : FunK K "__init__" qual st g fd) (S : FnScope ["self", y] ["self", y] (defScope st))
    (hps : ∀ (CL f : Addr) (fdb : FuncData) (mc : Value), mg bx = some (.ref CL) → ClX.CRead K CL mc → PySem.W.findCls K (.ref CL) mc "__init__" = some (.val (.ref f)) → FnOk P w K mg base (L2.CX P w) 1 f fdb ["self", "word"] (spBase K "word") → PySem.W.keepIn K (.ref f) = true → Binds K fdb ["self", "word"] [] →
      ∀ (cdv : Value) (A : Around) (outer : List Env) (s : Shared) (H : Hp) (E : XK), Room 1 (A.deeper (PyProof.Rows.envOfC qual (defScope st) s.heap.objs.size g cdv)) → PSs (cxOf (L2.CX P w) P w K mg base ["self", y] qual (defScope st) g cdv A outer s H E) (defBody st)
        (tSeq (tDrop (tCall (spBase K "word") [] (fun _ _ _ => False) (tCons (tVar 0) (tCons (tC (.str wd)) tNil)))) (tOst K y (tVar 0) (tVar 1)))) :
    FnOk P w K mg base (L2.CX P w) 2 g fd ["self", y] (spIni C 1 fun ws => [(y, ws.headD .non), ("word", .str wd)]) := by
  refine F.okX S (fun vs H Q E ⟨a, ws, e, hl, _⟩ => by
    subst e
    match ws, hl with
    | [v], _ => rfl) fun cdv A outer s H vs Q E hr h => ?_
  obtain ⟨a, ws, rfl, hl, ha, k⟩ := h
  match ws, hl with
  | [v], _ =>
  obtain ⟨CL, f, fdb, mc, m1, r, kk, Fb, kp, bb⟩ := B.ex
  refine ⟨_, hps CL f fdb mc m1 r kk Fb kp bb cdv A outer s H E hr, ?_⟩
  refine ⟨.ref a, rfl, a, C, .str wd, rfl, T, hno, ha, fun d hd hne => ?_⟩
  refine ⟨v, rfl, .ref a, rfl, a, C, rfl, T, hno2, .inr ⟨d, [("word", .str wd)], upd_same, by rw [upd_ne hne, upd_same], Nat.le_of_ble_eq_true rfl, ?_⟩⟩
  refine k d _ hd hne (by rw [upd_ne (Ne.symm hne), upd_same]) upd_same fun b h1 h2 => by rw [upd_ne h2, upd_ne h1, upd_ne h2]
end
section
variable {X : Cx} {W : WT} {e : Expr} {es : List Expr} {x : Str} {p pos pos2 : Pos} {C : Addr} {n : Nat} {fs : List V → List (Str × V)} {fd : List D → List (Str × D)} {t : DTA}
/-- raise C(..): fd the fields by the arguments -/
def dRaise (C : Addr) (n : Nat) (fd : List D → List (Str × D)) (t : DTA) : DTS := fun Dn Γ M => t Γ M (fun ds M1 => ds.length = n ∧ Dn.ex Γ C (fd ds) M1) Dn.ex
theorem upRaise {ta : TA} {E : Ends} {σ : St} {H : Hp} (hn : n ≤ 1000) (hfd : ∀ F ws ds, Rps (kt X W) F ws ds → RpF (kt X W) F (fs ws) (fd ds)) (hta : ∀ Q, upA (kt X W) W.w t σ H Q → ta σ H Q) (h : upS (kt X W) W.w (dRaise C n fd t) E σ H) :
    tMkO C (spIni C n fs) [] ta σ H (fun cls d H' => W.w cls d σ H') := by
  obtain ⟨Γ, M, F, Dn, a, q, k⟩ := h
  refine hta _ ⟨Γ, M, F, _, _, a, q, fun F1 H1 vs ds M1 s1 c1 r1 ⟨hl, q1⟩ => ⟨by rw [r1.length, hl]; exact hn, fun b hb => ?_⟩⟩
  refine ⟨b, vs, by simp, by rw [r1.length, hl], upd_same, fun d H' hd hne e1 e2 e3 => ⟨rfl, d, fs vs, e1, e2, ?_, ?_⟩⟩
  · rw [upd_ne hne] at hd
    exact hd
  · rw [upd_ne hne] at hd
    have sm : Same H1 (upd (del H' b) d (.xd (fs vs))) := fun y o ey => by
      have h1 : y ≠ b := ne_of_none ey hb
      have h2 : y ≠ d := ne_of_none ey hd
      rw [upd_ne h2, del_ne h1, e3 y h1 h2, upd_ne h1]
      exact ey
    exact a.w F1 _ σ Γ C d (fs vs) (fd ds) M1 s1 (c1.same sm) (a.g.mono s1) upd_same (hfd F1 vs ds r1) q1
theorem ds_raise (Ec : ExC X.prog X.w X.K X.mg X.base x C n fs) (hn : n ≤ 1000) (hfd : ∀ F ws ds, Rps (kt X W) F ws ds → RpF (kt X W) F (fs ws) (fd ds)) (hr : Room 3 X.A) (hc : X.calm = true) (tk : Takes X W.w) (ha : DA X W (e :: es) t) (hg : Gl X x := by rfl) (hdb : (x == ("__debug__" : Str)) = false := by decide)
    (he : starEach (e :: es) X.env = (false, eval e X.env) :: starEach es X.env := by rfl) (hpl : (backTo pos (starEach es X.env)).any (·.1) = false := by rfl) : DS X W (.Raise (some (.Call (.Name x p) (e :: es) [] pos)) none pos2) (dRaise C n fd t) := by
  obtain ⟨f, fdd, ps, h1, h2, h3, h4⟩ := Ec.ex
  exact ⟨psW (ps_raise hc tk (pmk_oex Ec.T h1 h2 h3 hr h4 .nil passL0 hg Ec.mgC ha.pa hdb he hpl)) fun E σ H h => upRaise hn hfd (fun Q q => q) h⟩
/-- BadX(): its word -/
def fd0 (wd : Str) : List D → List (Str × D) := fun _ => [("word", .str wd)]
def fd1 (y wd : Str) : List D → List (Str × D) := fun ds => [(y, ds.headD .non), ("word", .str wd)]
theorem rf1 {K : KTb} {y wd : Str} : ∀ F ws ds, Rps K F ws ds → RpF K F ((fun ws : List V => [(y, ws.headD .non), (("word" : Str), V.str wd)]) ws) (fd1 y wd ds) := fun F ws ds r => by
  refine .cons ⟨rfl, ?_⟩ (.cons ⟨rfl, .str _⟩ .nil)
  cases r with
  | nil => exact .non
  | cons h _ => exact h
end
end DL
namespace DLS
open PySem PyProof.Rows SrtO Srt
abbrev lexLt := HT.lexLt
/-- of one length: a strict weak (even total) order -/
theorem lex_asym : ∀ (l m : List Int), l.length = m.length → lexLt l m = true → lexLt m l = false
  | [], [], _, h => by cases h
  | [], _ :: _, h, _ => by cases h
  | _ :: _, [], h, _ => by cases h
  | x :: l, y :: m, hl, h => by
    have h : (if x = y then lexLt l m else decide (x < y)) = true := h
    show (if y = x then lexLt m l else decide (y < x)) = false
    by_cases e : x = y
    · subst e
      rw [if_pos rfl] at h ⊢
      exact lex_asym l m (by simpa using hl) h
    · rw [if_neg e] at h
      rw [if_neg (Ne.symm e)]
      have := of_decide_eq_true h
      exact decide_eq_false (by omega)
theorem lex_tot : ∀ (l m : List Int), l.length = m.length → lexLt l m = false → lexLt m l = false → l = m
  | [], [], _, _, _ => rfl
  | [], _ :: _, h, _, _ => by cases h
  | _ :: _, [], h, _, _ => by cases h
  | x :: l, y :: m, hl, h, h2 => by
    have h : (if x = y then lexLt l m else decide (x < y)) = false := h
    have h2 : (if y = x then lexLt m l else decide (y < x)) = false := h2
    by_cases e : x = y
    · subst e
      rw [if_pos rfl] at h h2
      rw [lex_tot l m (by simpa using hl) h h2]
    · rw [if_neg e] at h
      rw [if_neg (Ne.symm e)] at h2
      have := of_decide_eq_false h
      have := of_decide_eq_false h2
      omega
theorem lex_trans : ∀ (l m n : List Int), l.length = m.length → m.length = n.length → lexLt l m = true → lexLt m n = true → lexLt l n = true
  | [], [], _, _, _, h, _ => by cases h
  | [], _ :: _, _, h, _, _, _ => by cases h
  | _ :: _, [], _, h, _, _, _ => by cases h
  | _ :: _, _ :: _, [], _, h, _, _ => by cases h
  | x :: l, y :: m, z :: n, h1, h2, a, b => by
    have a : (if x = y then lexLt l m else decide (x < y)) = true := a
    have b : (if y = z then lexLt m n else decide (y < z)) = true := b
    show (if x = z then lexLt l n else decide (x < z)) = true
    by_cases e : x = y
    · subst e
      rw [if_pos rfl] at a
      by_cases f : x = z
      · subst f
        rw [if_pos rfl] at b ⊢
        exact lex_trans l m n (by simpa using h1) (by simpa using h2) a b
      · rw [if_neg f] at b ⊢
        exact b
    · rw [if_neg e] at a
      have a := of_decide_eq_true a
      by_cases f : y = z
      · subst f
        rw [if_neg e]
        exact decide_eq_true a
      · rw [if_neg f] at b
        have b := of_decide_eq_true b
        rw [if_neg (by omega)]
        exact decide_eq_true (by omega)
/-- the order on values by their ints; of other length: by the length -/
def lexK (d : Nat) (l m : List Int) : Bool := if l.length = d ∧ m.length = d then lexLt l m else decide (l.length = d ∧ m.length ≠ d)
theorem swo_lexK (d : Nat) (k : Value → List Int) : Swo fun v u => lexK d (k v) (k u) := by
  refine ⟨fun x y h => ?_, fun x y z h1 h2 => ?_⟩
  · unfold lexK at h ⊢
    by_cases a : (k x).length = d <;> by_cases b : (k y).length = d <;> simp [a, b] at h ⊢
    exact lex_asym _ _ (a.trans b.symm) h
  · unfold lexK at h1 h2 ⊢
    by_cases a : (k x).length = d <;> by_cases b : (k y).length = d <;> by_cases c : (k z).length = d <;> simp [a, b, c] at h1 h2 ⊢
    -- not less is passed on
    cases e : lexLt (k z) (k x) with
    | false => rfl
    | true =>
      exfalso
      cases e2 : lexLt (k x) (k y) with
      | true =>
        have := lex_trans _ _ _ (c.trans a.symm) (a.trans b.symm) e e2
        rw [h2] at this
        cases this
      | false =>
        have := lex_tot _ _ (a.trans b.symm) e2 h1
        rw [this, h2] at e
        cases e
section
variable {prog : Program} {w : World} {A : Around} {E : Value → Shared → Prop} {s : Shared}
theorem kat_ints {Q : Bool → Shared → Prop} : ∀ (us vs : List Value) (l m : List Int) (i : Nat), IntsAre us l → IntsAre vs m → l.length = m.length → Q (lexLt l m) s → PySem.W.KatLex prog w A true false Q (us.zip vs) i s
  | _, _, _, _, i, .nil, .nil, _, q => PySem.W.kat_nil q
  | _, _, _, _, i, .nil, .cons .., h, _ => by cases h
  | _, _, _, _, i, .cons .., .nil, h, _ => by cases h
  | _, _, _, _, i, .cons (vs := us) (ns := l) x t hu, .cons (vs := vs) (ns := m) y u hv, h, q => by
    refine PySem.W.kat_cons (SeqAt.EqAt.int_int x t y u prog w _ _ ?_)
    have q : Q (if x = y then lexLt l m else decide (x < y)) s := q
    refine PySem.W.kat_go (fun e1 => ?_) (fun e1 => ?_)
    · have ex : x = y := by simpa using e1
      rw [if_pos ex] at q
      exact PySem.W.kat_yes (kat_ints us vs l m (i + 1) hu hv (by simpa using h) q)
    · have ex : ¬ x = y := by simpa using e1
      rw [if_neg ex] at q
      by_cases hi : i = 0
      · subst hi
        exact PySem.W.kat_no (oneLt_int q)
      · have hb : (true && i == 0) = false := by simp [hi]
        refine PySem.W.kat_no ?_
        rw [hb]
        exact PySem.W.kat_one _ _ (PyProof.Rows.lt_int q)
theorem tups_cmp {vs : List Value} {d : Nat} {k : Value → List Int} (hp : ∀ v ∈ vs, TS.TupInts s.heap v (k v) ∧ (k v).length = d) : Cmp prog w A s (tuples' true) (fun p => p.1 ∈ vs) (lt2 fun v u => lexK d (k v) (k u)) := by
  intro p q hm hm'
  obtain ⟨h1, l1⟩ := hp _ hm
  obtain ⟨h2, l2⟩ := hp _ hm'
  show wpAny (model prog w) A (keyLt' (tuples' true) p.1 q.1) (fun r s' => s' = s ∧ r = lexK d (k p.1) (k q.1)) (fun _ _ => False) s
  have el : lexK d (k p.1) (k q.1) = lexLt (k p.1) (k q.1) := by
    unfold lexK
    rw [if_pos ⟨l1, l2⟩]
  rw [el]
  have ll := l1.trans l2.symm
  generalize k p.1 = l at h1 ll ⊢
  generalize k q.1 = m at h2 ll ⊢
  obtain ⟨a, xs, e, ⟨o, ho, hc, n, hd⟩, hi⟩ := h1
  obtain ⟨a', xs', e', ⟨o', ho', hc', n', hd'⟩, hi'⟩ := h2
  rw [e, e']
  refine PySem.W.kat_lt ho hd ho' hd' ?_
  have hs : (decide (xs.size < xs'.size)) = false := by
    have h1 := hi.length
    have h2 := hi'.length
    rw [Array.length_toList] at h1 h2
    exact decide_eq_false (by omega)
  rw [hs]
  exact kat_ints _ _ _ _ 0 hi hi' ll ⟨rfl, rfl⟩
theorem tupKeep {h h' : Heap} {v : Value} {ns : List Int} (x : TS.TupInts h v ns) (k : ∀ b o, h.get? b = some o → o.cls = .type "tuple" → h'.get? b = some o) : TS.TupInts h' v ns := by
  obtain ⟨a, xs, e, ⟨o, ho, hc, r⟩, hi⟩ := x
  exact ⟨a, xs, e, ⟨o, k _ _ ho hc, hc, r⟩, hi⟩
theorem firsts_tups {h : Heap} {d : Nat} (hd : 1 ≤ d) : ∀ {vs : List Value} {k : Value → List Int}, (∀ v ∈ vs, TS.TupInts h v (k v) ∧ (k v).length = d) → ∃ fs, PySem.W.KatTups h vs fs ∧ fs.length = vs.length ∧ ∀ f ∈ fs, ∃ x t, f = Value.int x t
  | [], _, _ => ⟨[], .nil, rfl, fun f hf => by cases hf⟩
  | v :: vs, k, hp => by
    obtain ⟨fs, h1, h2, h3⟩ := firsts_tups hd (vs := vs) (k := k) fun u hu => hp u (List.mem_cons_of_mem _ hu)
    obtain ⟨⟨a, xs, e, ⟨o, ho, hc, n, hdt⟩, hi⟩, l⟩ := hp v List.mem_cons_self
    have hlen : 0 < xs.toList.length := by rw [hi.length, l]; omega
    obtain ⟨f, hf⟩ : ∃ f, xs.toList[0]? = some f := ⟨xs.toList[0], List.getElem?_eq_getElem hlen⟩
    have hint : ∃ x t, f = Value.int x t := by
      clear l hlen
      generalize xs.toList = ys at hi hf
      generalize k v = kk at hi
      cases hi with
      | nil => cases hf
      | cons x t r =>
        cases hf
        exact ⟨x, t, rfl⟩
    refine ⟨f :: fs, ?_, congrArg (· + 1) h2, fun g hg => ?_⟩
    · rw [e]
      exact .cons ho hc hdt (by rw [← Array.getElem?_toList]; exact hf) h1
    · rcases List.mem_cons.mp hg with z | z
      · rw [z]; exact hint
      · exact h3 g z
theorem tups_sortableO {a : Addr} {vs : List Value} {d : Nat} {k : Value → List Int} (h0 : 0 < vs.length) (hd : 1 ≤ d) (hp : ∀ v ∈ vs, TS.TupInts s.heap v (k v) ∧ (k v).length = d) (ha : ∀ o, s.heap.get? a = some o → o.cls ≠ .type "tuple") : SortableO prog w A s a vs fun v u => lexK d (k v) (k u) := by
  intro h' keep
  have hp' : ∀ v ∈ vs, TS.TupInts h' v (k v) ∧ (k v).length = d := fun v hm => ⟨tupKeep (hp v hm).1 fun b o e c => keep b o (fun z => by subst z; exact ha o e c) e, (hp v hm).2⟩
  obtain ⟨fs, h1, h2, h3⟩ := firsts_tups hd hp'
  refine ⟨tuples' true, fun Q E hq => ?_, tups_cmp hp'⟩
  refine PySem.W.kat_kind (T := .type "int") h1 (by omega) (fun f hm => ?_) (by rfl) ?_
  · obtain ⟨x, t, rfl⟩ := h3 f hm
    exact PySem.W.Looks.now
  · have e : (Value.type "int" != Value.type "tuple") = true := by first | decide +kernel | rfl | decide
    rw [e]
    exact hq
/-- sorted(l) of tuples of d ints, any number of them -/
theorem sorted_tupsO {l : Addr} {vs : List Value} {d : Nat} {k : Value → List Int} {Q : Value → Shared → Prop} (hd : 1 ≤ d) (hl : s.heap.IsList l vs.toArray) (hz : vs.length ≤ sizeLine) (hp : ∀ v ∈ vs, TS.TupInts s.heap v (k v) ∧ (k v).length = d)
    (h : ∀ (h' : Heap) (dd : Addr) (out : List Value), Srtd (fun v u => lexK d (k v) (k u)) out → out.Perm vs → (∀ b o, s.heap.get? b = some o → h'.get? b = some o) → s.heap.objs.size ≤ dd → (∃ n, h'.get? dd = some (seqObj "list" out.toArray n)) → Q (.ref dd) { s with heap := h' }) :
    wpAny (model prog w) A (call (.builtin "sorted") [.ref l]) Q E s := by
  refine sorted_ord (swo_lexK d k) hl hz (fun h2 h₁ a ha kk => ?_) fun out hs hb => ?_
  · refine tups_sortableO (s := { s with heap := h₁ }) (by omega) hd (fun v hm => ⟨tupKeep (hp v hm).1 fun b o e _ => (kk b o e).2, (hp v hm).2⟩) fun o e => ?_
    have e' : some o = some (seqObj "list" vs.toArray 0) := e.symm.trans ha
    cases e'
    intro c
    exact absurd (Value.type.inj c) (by decide)
  · exact h _ _ out hs hb.perm (fun b o e => sortedAll_old e) (Nat.le_succ _) (sortedAll_at s.heap vs out.toArray)
end
end DLS
namespace DL
open PySem L2
abbrev tupI (ks : List Int) : D := .tup (ks.map D.int)
def rSortedTs (K : PySem.W.Frag) : List V → Hp → VK → Prop := fun vs H Q => ∃ (a : Addr) (L : List (Addr × List Int)) (d : Nat), vs = [V.ref a] ∧ SqL K H a (L.map fun p => V.ref p.1) ∧ 1 ≤ d ∧ (∀ p ∈ L, SqT K H p.1 (p.2.map V.int) ∧ p.2.length = d) ∧
  ∀ (L' : List (Addr × List Int)) (p : Addr), L'.Perm L → L'.Pairwise (fun x y => HT.lexLt y.2 x.2 = false) → H p = none → Q (.ref p) (upd H p (.lst (L'.map fun p => V.ref p.1)))
theorem vals_refs : ∀ {L : List (Addr × List Int)} {us : List Value}, Vals (L.map fun p => V.ref p.1) us → us = L.map fun p => Value.ref p.1
  | [], _, .nil => rfl
  | p :: L, _, .cons r t => by
    cases r
    rw [vals_refs t]
    rfl
theorem refs_vals : ∀ (L : List (Addr × List Int)), Vals (L.map fun p => V.ref p.1) (L.map fun p => Value.ref p.1)
  | [] => .nil
  | p :: L => .cons rfl (refs_vals L)
def adr : Value → Addr
  | .ref a => a
  | _ => 0
theorem cr_sortedTs {X : Cx} : CallR X (.builtin "sorted") (rSortedTs X.K) := by
  intro pins s σ H vs us Q I r h
  obtain ⟨a, L, d, rfl, hs, hd, hL, q⟩ := h
  obtain ⟨its, rv, hl, hz⟩ := I.list hs
  obtain ⟨u, rfl, ru⟩ := vals1 r
  obtain rfl : u = Value.ref a := ru
  have eits := vals_refs rv
  have tup : ∀ p ∈ L, TS.TupInts s.heap (.ref p.1) p.2 := fun p hp => tupI_raw I (hL p hp).1
  have hk : ∀ v ∈ its, TS.TupInts s.heap v (TS.intsOf s.heap v) ∧ (TS.intsOf s.heap v).length = d := fun v hv => by
    rw [eits] at hv
    obtain ⟨p, hp, rfl⟩ := List.mem_map.mp hv
    rw [(tup p hp).ints]
    exact ⟨tup p hp, (hL p hp).2⟩
  refine DLS.sorted_tupsO hd hl.isList (by rw [← rv.length]; exact hz) hk fun h' dd out h1 h2 kp hdd hn => ?_
  obtain ⟨n, hn⟩ := hn
  -- the pairs of the values that came
  have eL : L = its.map fun v => (adr v, TS.intsOf s.heap v) := by
    rw [eits, List.map_map]
    have : ∀ p ∈ L, p = ((fun v => (adr v, TS.intsOf s.heap v)) ∘ fun p => Value.ref p.1) p := fun p hp => by
      show p = (p.1, TS.intsOf s.heap (.ref p.1))
      rw [(tup p hp).ints]
    calc L = L.map id := by simp
      _ = _ := List.map_congr_left this
  have perm : (out.map fun v => (adr v, TS.intsOf s.heap v)).Perm L := by
    have z := h2.map fun v => (adr v, TS.intsOf s.heap v)
    rw [← eL] at z
    exact z
  have eo : out = (out.map fun v => (adr v, TS.intsOf s.heap v)).map fun p => Value.ref p.1 := by
    rw [List.map_map]
    have : ∀ v ∈ out, v = ((fun p : Addr × List Int => Value.ref p.1) ∘ fun v => (adr v, TS.intsOf s.heap v)) v := fun v hv => by
      have hv := h2.mem_iff.mp hv
      rw [eits] at hv
      obtain ⟨p, hp, rfl⟩ := List.mem_map.mp hv
      rfl
    calc out = out.map id := by simp
      _ = _ := List.map_congr_left this
  have pw : (out.map fun v => (adr v, TS.intsOf s.heap v)).Pairwise fun x y => HT.lexLt y.2 x.2 = false := by
    rw [List.pairwise_map]
    refine List.Pairwise.imp_of_mem (fun {x y} hx hy hxy => ?_) h1
    have l1 := (hk x (h2.mem_iff.mp hx)).2
    have l2 := (hk y (h2.mem_iff.mp hy)).2
    have hxy : DLS.lexK d (TS.intsOf s.heap y) (TS.intsOf s.heap x) = false := hxy
    unfold DLS.lexK at hxy
    rw [if_pos ⟨l2, l1⟩] at hxy
    exact hxy
  have hlen : ((out.map fun v => (adr v, TS.intsOf s.heap v)).map fun p => V.ref p.1).length ≤ sizeLine := by
    rw [List.length_map, List.length_map, h2.length_eq, ← rv.length]
    exact hz
  exact ⟨.ref dd, upd H dd (.lst ((out.map fun v => (adr v, TS.intsOf s.heap v)).map fun p => V.ref p.1)), I.laid (o := .lst ((out.map fun v => (adr v, TS.intsOf s.heap v)).map fun p => V.ref p.1)) (t' := s.toks) kp hdd ⟨hlen, out, n, (congrArg (Vals _) eo.symm).mp (refs_vals _), hn⟩, rfl, q _ dd perm pw (I.hok.fresh hdd)⟩
def rdSortedT : D1s := fun ds M Q => ∃ (d : D) (Ls : List (List Int)) (n : Nat), ds = [d] ∧ sqD M d = some (Ls.map tupI) ∧ 1 ≤ n ∧ (∀ k ∈ Ls, k.length = n) ∧
  ∀ (Ls' : List (List Int)) (p : Addr), Ls'.Perm Ls → Ls'.Pairwise (fun x y => HT.lexLt y x = false) → M p = none → Q (.ref p) (mup M p (.lst (Ls'.map tupI)))
theorem tups_of {K : KTb} {M : Mp} {F H : Hp} (c : Cc K M F H) : ∀ {vs : List V} {Ls : List (List Int)}, Rps K F vs (Ls.map tupI) → ∃ L : List (Addr × List Int), vs = L.map (fun p => V.ref p.1) ∧ Ls = L.map (·.2) ∧ ∀ p ∈ L, SqT K.K H p.1 (p.2.map V.int) ∧ Rp K F (.ref p.1) (tupI p.2)
  | [], [], _ => ⟨[], rfl, rfl, fun p hp => by cases hp⟩
  | [], _ :: _, r => by cases r
  | _ :: _, [], r => by cases r
  | v :: vs, k :: Ls, r => by
    cases r with
    | cons r1 r2 =>
      obtain ⟨L, h1, h2, h3⟩ := tups_of c r2
      obtain ⟨a, us, rfl, h4, h5⟩ := tp_of c r1
      rw [h5.ints] at h4
      refine ⟨(a, k) :: L, by rw [h1]; rfl, by rw [h2]; rfl, fun p hp => ?_⟩
      rcases List.mem_cons.mp hp with e | hp
      · subst e
        exact ⟨h4, r1⟩
      · exact h3 p hp
theorem real_sortedT {K : KTb} : Real1 K (rSortedTs K.K) rdSortedT := fun F H M xs ds Qd Q c r ⟨d, Ls, n, e1, h, hn, hl, q⟩ k => by
  subst e1
  obtain ⟨v, rfl, rv⟩ := rps1 r
  obtain ⟨a, vs, rfl, h1, r1⟩ := sq_of c rv h
  obtain ⟨L, rfl, rfl, h3⟩ := tups_of c r1
  refine ⟨a, L, n, rfl, h1, hn, fun p hp => ⟨(h3 p hp).1, hl _ (List.mem_map.mpr ⟨p, hp, rfl⟩)⟩, fun L' p pm pw hp => ?_⟩
  have rr : ∀ L'' : List (Addr × List Int), (∀ p ∈ L'', p ∈ L) → Rps K F (L''.map fun p => V.ref p.1) ((L''.map (·.2)).map tupI) := by
    intro L''
    induction L'' with
    | nil => intro _; exact .nil
    | cons p L'' ih => intro hh; exact .cons (h3 p (hh p List.mem_cons_self)).2 (ih fun q hq => hh q (List.mem_cons_of_mem _ hq))
  exact k _ _ _ _ _ (Same.refl _) (c.newM (x := .lst ((L'.map (·.2)).map tupI)) hp ⟨_, rfl, rr L' fun p hp => pm.mem_iff.mp hp⟩) (.ref p) (q (L'.map (·.2)) p (pm.map _) (by rw [List.pairwise_map]; exact pw) (c.Mnone hp))
def rdSortedI : D1s := fun ds M Q => ∃ (d : D) (ns : List Int), ds = [d] ∧ sqD M d = some (ns.map D.int) ∧ ∀ (ns' : List Int) (p : Addr), ns'.Perm ns → ns'.Pairwise (· ≤ ·) → M p = none → Q (.ref p) (mup M p (.lst (ns'.map D.int)))
theorem real_sortedI {K : KTb} : Real1 K (rSortedI K.K) rdSortedI := fun F H M xs ds Qd Q c r ⟨d, ns, e1, h, q⟩ k => by
  subst e1
  obtain ⟨v, rfl, rv⟩ := rps1 r
  obtain ⟨a, vs, rfl, h1, r1⟩ := sq_of c rv h
  rw [r1.ints] at h1
  exact ⟨a, ns, rfl, h1, fun ns' p pm pw hp => k _ _ _ _ _ (Same.refl _) (c.newM (x := .lst (ns'.map D.int)) hp ⟨_, rfl, Rps.ofInts ns'⟩) (.ref p) (q ns' p pm pw (c.Mnone hp))⟩
theorem CallR.orr {X : Cx} {f : Value} {r r' : List V → Hp → VK → Prop} (h : CallR X f r) (h' : CallR X f r') : CallR X f (fun x H Q => r x H Q ∨ r' x H Q) := by
  intro pins s σ H xs us Q I r1 q
  rcases q with q | q
  · exact h pins s σ H xs us Q I r1 q
  · exact h' pins s σ H xs us Q I r1 q
theorem Real1.orr {K : KTb} {r r' : List V → Hp → VK → Prop} {rd rd' : D1s} (h : Real1 K r rd) (h' : Real1 K r' rd') : Real1 K (fun x H Q => r x H Q ∨ r' x H Q) (fun ds M Q => rd ds M Q ∨ rd' ds M Q) := fun F H M xs ds Qd Q c rr q k =>
  q.imp (fun q => h F H M xs ds Qd Q c rr q k) fun q => h' F H M xs ds Qd Q c rr q k
/-- sorted of ints, of tuples of ints: a cell -/
def rdSorted : D1s := fun ds M Q => rdSortedI ds M Q ∨ rdSortedT ds M Q
section
variable {X : Cx} {W : WT} {e a b : Expr} {es : List Expr} {pos : Pos}
theorem de_sorted {x : Str} {p : Pos} {t : DTA} (hm : X.mg x = none) (hv : bootBuiltins x = some (.builtin "sorted")) (ha : DA X W (e :: es) t) (hg : Gl X x := by rfl) (hn : x ≠ "__name__" := by decide) (hdb : (x == ("__debug__" : Str)) = false := by decide)
    (he : starEach (e :: es) X.env = (false, eval e X.env) :: starEach es X.env := by rfl) (hpl : (backTo pos (starEach es X.env)).any (·.1) = false := by rfl) : DE X W (.Call (.Name x p) (e :: es) [] pos) (dCB rdSorted t) :=
  de_callB (CallR.orr cr_sortedI cr_sortedTs) (real_sortedI.orr real_sortedT) hg hm hv ha hn hdb he hpl
/-- a cell handed on is frozen -/
def dFrz (t : DTE) : DTE := fun Γ M Q E => t Γ M (fun d M1 => ∃ p xs, d = .ref p ∧ M1 p = some (.lst xs) ∧ Q (.lst xs) (mdel M1 p)) E
theorem de_frz {t : DTE} (h : DE X W e t) : DE X W e (dFrz t) := ⟨peW h.pe fun σ H Q ⟨Γ, M, F, E, Qd, a, q, k⟩ => ⟨Γ, M, F, E, _, a, q, fun F1 H1 v d M1 s1 c1 r1 ⟨p, xs, e1, e2, q1⟩ => by
  subst e1
  cases r1
  obtain ⟨F2, s2, c2, r2⟩ := c1.freeze e2
  exact k F2 H1 _ _ _ (s1.trans s2) c2 r2 q1⟩⟩
/-- list(xs), list(t): a cell -/
def rdList : D1s := fun ds M Q => ∃ d xs, ds = [d] ∧ seqD M d = some xs ∧ ∀ p, M p = none → Q (.ref p) (mup M p (.lst xs))
end
end DL
namespace DL
open PySem L2
end DL
namespace DL
open PySem L2
section
variable {X : Cx} {W : WT} {e : Expr} {pos : Pos}
open PyProof.Rows in
theorem pget_list : PGet X (rIxL X.K) := by
  intro pins s σ H x y v u Q I rx ry h
  obtain ⟨p, xs, i, z, rfl, rfl, hq, he, q⟩ := h
  cases rx
  obtain ⟨t, rfl⟩ := ry
  obtain ⟨its, r, pl, hz⟩ := I.list hq
  obtain ⟨j, h1, h2, h3, h4, h5⟩ := atI_get he
  obtain ⟨w, ew, rw'⟩ := r.get h2
  have hl := r.length
  have hn := line63
  have fin : EP X pins σ Q w s := ⟨z, H, I, rw', q⟩
  by_cases h0 : 0 ≤ i
  · have hj : i.toNat = j := by
      rw [seqIndex_of h0 h5] at h1
      exact Option.some.inj h1
    exact wpAny_getItem_list pl.isList h0 (by omega) (by rw [hj]; simpa using ew) fin
  · have hj : (i + (its.toArray.size : Int)).toNat = j := by
      rw [seqIndex_neg (by omega) h4] at h1
      rw [List.size_toArray, ← hl]
      exact Option.some.inj h1
    exact wpAny_getItem_list_neg pl.isList (by omega) (by rw [List.size_toArray] <;> omega) (by omega) (by rw [hj]; simpa using ew) fin
/-- o[i] op= e: a list's cell, ints -/
def dAugS (to ti te : DTE) (g : Int → Int → Int) : DTS := fun Dn Γ M => to Γ M (fun o M1 => ti Γ M1 (fun i M2 => ∃ p xs k j a, o = .ref p ∧ i = .int k ∧ M2 p = some (.lst xs) ∧ ixN xs.length k = some j ∧ atI xs k = some (.int a) ∧
  te Γ M2 (fun y M3 => ∃ b ys, y = .int b ∧ M3 p = some (.lst ys) ∧ ixN ys.length k = some j ∧ Dn.nx Γ (mup M3 p (.lst (ys.set j (.int (g a b)))))) Dn.ex) Dn.ex) Dn.ex
theorem ds_augS {o i e : Expr} {to ti te : DTE} {op : Operator} {tpos : Pos} {g : Int → Int → Int} (ho : DE X W o to) (hi : DE X W i ti) (he : DE X W e te) (hp : PIp X op (ipI g))
    (ha : ∀ ov iv new, augStore i ov iv new = (do holding [new, ov, iv] (setItem ov iv new); release [new, ov, iv] []; pure .next) := by intros; rfl) : DS X W (.AugAssign (.Subscript o i tpos) op e pos) (dAugS to ti te g) :=
  ⟨psW (ps_augS ho.pe hi.pe pget_list he.pe hp set_list ha) fun E σ H ⟨Γ, M, F, Dn, a, q, k⟩ => ⟨Γ, M, F, _, _, a, q, fun F1 H1 v d M1 s1 c1 r1 q1 => ⟨Γ, M1, F1, _, _, a.next s1 c1, q1, fun F2 H2 w e M2 s2 c2 r2 ⟨p, xs, kk, j, x, e1, e2, e3, hj, hx, q2⟩ => by
    subst e1
    subst e2
    cases r1
    cases r2
    obtain ⟨f, o, e4, us, e5, r5⟩ := c2.ow _ _ e3
    subst e5
    obtain ⟨z, h2, rz⟩ := atI_of r5 hx
    cases rz
    refine ⟨p, us, kk, _, rfl, rfl, .inl (.inl e4), h2, ?_⟩
    refine ⟨Γ, M2, F2, _, _, a.next (s1.trans s2) c2, q2, fun F3 H3 y d M3 s3 c3 r3 ⟨b, ys, e6, e7, hj2, q3⟩ => ?_⟩
    subst e6
    cases r3
    obtain ⟨f3, o3, e8, us3, e9, r9⟩ := c3.ow _ _ e7
    subst e9
    refine ⟨x, b, rfl, rfl, p, us3, kk, j, rfl, rfl, e8, by rw [r9.length]; exact hj2, ?_⟩
    exact k.nx _ _ _ _ _ ((s1.trans s2).trans s3) (c3.write (x := .lst _) e7 ⟨_, rfl, r9.set (.int _) j⟩) (a.g.mono ((s1.trans s2).trans s3)) q3⟩⟩⟩
end
theorem Room.un65 {k : Nat} {A : Around} (r : Room k A) : A.units + 65 < cLine := by have := r.un; omega
/-- list(xs), list(t): a cell; frozen -/
theorem real_list {K : KTb} : Real1 K (fun xs H Q => ∃ p ys, xs = [.ref p] ∧ (SqL K.K H p ys ∨ SqT K.K H p ys) ∧ ∀ l, H l = none → Q (.ref l) (upd H l (.lst ys))) rdList := fun F H M xs ds Qd Q c r ⟨d, ys, e1, h, q⟩ k => by
  subst e1
  obtain ⟨v, rfl, rv⟩ := rps1 r
  have go : ∃ p vs, v = .ref p ∧ (SqL K.K H p vs ∨ SqT K.K H p vs) ∧ Rps K F vs ys := by
    unfold seqD at h
    cases e : tpD d with
    | some zs =>
      rw [e] at h
      cases h
      obtain rfl := tpD_eq e
      obtain ⟨a, vs, rfl, h1, r1⟩ := tp_of c rv
      exact ⟨a, vs, rfl, .inr h1, r1⟩
    | none =>
      rw [e] at h
      obtain ⟨a, vs, rfl, h1, r1⟩ := sq_of c rv h
      exact ⟨a, vs, rfl, .inl h1, r1⟩
  obtain ⟨p, vs, rfl, h1, r1⟩ := go
  exact ⟨p, vs, rfl, h1, fun l hl => k _ _ _ _ _ (Same.refl _) (c.newM (x := .lst ys) hl ⟨_, rfl, r1⟩) (.ref l) (q l (c.Mnone hl))⟩
end DL
namespace DL
open PySem L2
section
variable {X : Cx} {W : WT} {pos : Pos}
theorem de_globI {x : Str} {i : Int} (hm : ∃ t, X.mg x = some (.int i t)) (hg : Gl X x := by rfl) (hd : (x == ("__debug__" : Str)) = false := by decide) : DE X W (.Name x pos) (dC (.int i)) := by
  obtain ⟨t, hm⟩ := hm
  exact de_glob hg hm (v := .int i) ⟨t, rfl⟩ (fun _ => .int i) hd
end
section
variable {X : Cx} {W : WT} {a b c d : Expr} {pos : Pos}
def dChain3 (rd rd' rd2 : D2) (ta tb tc td : DTE) : DTE := fun Γ M Q E => ta Γ M (fun x M1 => tb Γ M1 (fun y M2 => rd x y M2 (fun z M3 => ∃ k, z = .bl k ∧
  (if k = true then tc Γ M3 (fun w M4 => rd' y w M4 (fun z M5 => ∃ k, z = .bl k ∧ (if k = true then td Γ M5 (fun u M6 => rd2 w u M6 Q) E else Q (.bl false) M5))) E else Q (.bl false) M3))) E) E
end
theorem ixd_tup {M : Mp} {xs : List D} {i : Int} : ixD M (.tup xs) (.int i) = atI xs i := rfl
theorem ixd_lst {M : Mp} {xs : List D} {i : Int} : ixD M (.lst xs) (.int i) = atI xs i := rfl
theorem ixd_ref {M : Mp} {p : Addr} {xs : List D} {i : Int} (h : M p = some (.lst xs)) : ixD M (.ref p) (.int i) = atI xs i := by
  show (sqD M (.ref p)).bind _ = _
  rw [sqD_ref h]
  rfl
theorem at0 {α : Type} {x : α} {xs : List α} : atI (x :: xs) 0 = some x := by simp [atI, ixN]
theorem at1 {α : Type} {x y : α} {xs : List α} : atI (x :: y :: xs) 1 = some y := by
  unfold atI ixN
  rw [if_pos (by omega), if_pos (by simp only [List.length_cons]; omega)]
  rfl
theorem at2 {α : Type} {x y z : α} {xs : List α} : atI (x :: y :: z :: xs) 2 = some z := by
  unfold atI ixN
  rw [if_pos (by omega), if_pos (by simp only [List.length_cons]; omega)]
  rfl
theorem at3 {α : Type} {x y z u : α} {xs : List α} : atI (x :: y :: z :: u :: xs) 3 = some u := by
  unfold atI ixN
  rw [if_pos (by omega), if_pos (by simp only [List.length_cons]; omega)]
  rfl
theorem atN {α : Type} {xs : List α} {i : Nat} {x : α} (h : xs[i]? = some x) : atI xs (i : Int) = some x := by
  have hi : i < xs.length := (List.getElem?_eq_some_iff.mp h).1
  unfold atI ixN
  rw [if_pos (by omega), if_pos (by omega)]
  simpa using h
/-- ints and texts by == -/
theorem deq_int {i j : Int} : deq (.int i) (.int j) = decide (i = j) := by
  unfold deq D.py PyData.eqv
  rfl
/-- a datum of depth ≤ n without objects -/
def lay (n : Nat) (d : D) : Prop := d.py.canLay0 = true ∧ d.py.depth ≤ n
theorem lay_int (n : Nat) (i : Int) : lay n (.int i) := ⟨by simp [D.py, PyData.canLay0], by simp [D.py, PyData.depth]⟩
theorem lay_bl (n : Nat) (b : Bool) : lay n (.bl b) := ⟨by simp [D.py, PyData.canLay0], by simp [D.py, PyData.depth]⟩
theorem lay_non (n : Nat) : lay n .non := ⟨by simp [D.py, PyData.canLay0], by simp [D.py, PyData.depth]⟩
theorem lays {n : Nat} : ∀ {xs : List D}, (∀ x ∈ xs, lay n x) → PyData.canLayAll0 (pys xs) = true ∧ PyData.depthAll (pys xs) ≤ n
  | [], _ => ⟨by simp [pys, PyData.canLayAll0], by simp [pys, PyData.depthAll]⟩
  | x :: xs, h => by
    obtain ⟨h1, h2⟩ := h x List.mem_cons_self
    obtain ⟨h3, h4⟩ := lays (xs := xs) fun y hy => h y (List.mem_cons_of_mem _ hy)
    exact ⟨by simp [pys, PyData.canLayAll0, h1, h3], by simp only [pys, PyData.depthAll]; omega⟩
theorem lay_tup {n : Nat} {xs : List D} (h : ∀ x ∈ xs, lay n x) : lay (n + 1) (.tup xs) := by
  obtain ⟨h1, h2⟩ := lays h
  exact ⟨by simp [D.py, PyData.canLay0, h1], by simp only [D.py, PyData.depth]; omega⟩
theorem lay_lst {n : Nat} {xs : List D} (h : ∀ x ∈ xs, lay n x) : lay (n + 1) (.lst xs) := by
  obtain ⟨h1, h2⟩ := lays h
  exact ⟨by simp [D.py, PyData.canLay0, h1], by simp only [D.py, PyData.depth]; omega⟩
theorem sh_of {n : Nat} {d : D} (h : lay n d) (hn : n ≤ 64 := by decide) : shD d = true := by
  have h1 := h.1
  have h2 : d.py.depth ≤ 64 := Nat.le_trans h.2 hn
  unfold shD SeqAt.shaped
  simp [h1, h2]
theorem lay_tupI (ns : List Int) : lay 1 (tupI ns) := lay_tup fun x hx => by
  obtain ⟨i, _, rfl⟩ := List.mem_map.mp hx
  exact lay_int 0 i
theorem sh_int {i : Int} : shD (.int i) = true := sh_of (lay_int 0 i)
theorem deqs {α : Type} [DecidableEq α] {f : α → D} (h : ∀ a b, deq (f a) (f b) = decide (a = b)) : ∀ (as bs : List α), PyData.eqvAll (pys (as.map f)) (pys (bs.map f)) = decide (as = bs)
  | [], [] => by simp [pys, PyData.eqvAll]
  | [], b :: bs => by simp [pys, PyData.eqvAll]
  | a :: as, [] => by simp [pys, PyData.eqvAll]
  | a :: as, b :: bs => by
    have h1 := h a b
    unfold deq at h1
    simp [pys, PyData.eqvAll, h1, deqs h as bs]
theorem deq_tupM {α : Type} [DecidableEq α] {f : α → D} (h : ∀ a b, deq (f a) (f b) = decide (a = b)) (as bs : List α) : deq (.tup (as.map f)) (.tup (bs.map f)) = decide (as = bs) := by
  have := deqs h as bs
  simpa [deq, D.py, PyData.eqv] using this
theorem deq_tupI (ns ms : List Int) : deq (tupI ns) (tupI ms) = decide (ns = ms) := deq_tupM (fun _ _ => deq_int) ns ms
/-- spans, marks as data -/
def spD (s : Int × Int) : D := .tup [.int s.1, .int s.2]
def mkD (m : Int × Int × Int) : D := .tup [.int m.1, .int m.2.1, .int m.2.2]
theorem spD_eq (s : Int × Int) : spD s = tupI [s.1, s.2] := rfl
theorem mkD_eq (m : Int × Int × Int) : mkD m = tupI [m.1, m.2.1, m.2.2] := rfl
theorem deq_spD (s t : Int × Int) : deq (spD s) (spD t) = decide (s = t) := by
  rw [spD_eq, spD_eq, deq_tupI]
  obtain ⟨a, b⟩ := s
  obtain ⟨c, d⟩ := t
  simp
theorem deq_mkD (s t : Int × Int × Int) : deq (mkD s) (mkD t) = decide (s = t) := by
  rw [mkD_eq, mkD_eq, deq_tupI]
  obtain ⟨a, b, e⟩ := s
  obtain ⟨c, d, f⟩ := t
  simp
theorem lay_spD (s : Int × Int) : lay 1 (spD s) := lay_tupI [s.1, s.2]
theorem lay_mkD (s : Int × Int × Int) : lay 1 (mkD s) := lay_tupI [s.1, s.2.1, s.2.2]
theorem lay_mapL {α : Type} {f : α → D} {n : Nat} (h : ∀ a, lay n (f a)) (as : List α) : lay (n + 1) (.lst (as.map f)) := lay_lst fun x hx => by
  obtain ⟨a, _, rfl⟩ := List.mem_map.mp hx
  exact h a
theorem res_int {M : Mp} {i : Int} : res M (.int i) = .int i := rfl
theorem res_tup {M : Mp} {xs : List D} : res M (.tup xs) = .tup xs := rfl
theorem res_lst {M : Mp} {xs : List D} : res M (.lst xs) = .lst xs := rfl
theorem res_ref {M : Mp} {p : Addr} {xs : List D} (h : M p = some (.lst xs)) : res M (.ref p) = .lst xs := by unfold res; rw [sqD_ref h]
theorem addI {i j : Int} {M : Mp} {Q : DQ} : rdAdd (.int i) (.int j) M Q = Q (.int (i + j)) M := rfl
theorem iffB {b : Bool} {P Q : Prop} : (if b = true then P else Q) ↔ ((b = true → P) ∧ (b = false → Q)) := by cases b <;> simp
theorem gdCons_eq {t : DTG} {u : DTGs} {d : D} {r : List D} {Γ : DG} {M : Mp} {Q : DG → Mp → Prop} : gdCons t u (d :: r) Γ M Q = t d Γ M (fun Γ1 M1 => u r Γ1 M1 Q) := by
  unfold gdCons
  refine propext ⟨fun ⟨d', r', e, h⟩ => ?_, fun h => ⟨_, _, rfl, h⟩⟩
  cases e
  exact h
theorem gdNil_eq {Γ : DG} {M : Mp} {Q : DG → Mp → Prop} : gdNil [] Γ M Q = Q Γ M := by simp [gdNil]
theorem rdI_eq {g : Int → Int → D} {i j : Int} {M : Mp} {Q : DQ} : rdI g (.int i) (.int j) M Q = Q (g i j) M := by
  unfold rdI
  refine propext ⟨fun ⟨d', r', e, e2, h⟩ => ?_, fun h => ⟨_, _, rfl, rfl, h⟩⟩
  cases e
  cases e2
  exact h
theorem rdIc_eq {C : Int → Int → Prop} {g : Int → Int → D} {i j : Int} {M : Mp} {Q : DQ} : rdIc C g (.int i) (.int j) M Q = (C i j ∧ Q (g i j) M) := by
  unfold rdIc
  refine propext ⟨fun ⟨d', r', e, e2, h⟩ => ?_, fun h => ⟨_, _, rfl, rfl, h⟩⟩
  cases e
  cases e2
  exact h
theorem rdInt2_eq {g : Int → Int → Int} {i j : Int} {M : Mp} {Q : DQ} : rdInt2 g [.int i, .int j] M Q = Q (.int (g i j)) M := by
  unfold rdInt2
  refine propext ⟨fun ⟨d', r', e, h⟩ => ?_, fun h => ⟨_, _, rfl, h⟩⟩
  cases e
  exact h
theorem lenL {xs : List D} {M : Mp} {Q : DQ} : rdLen [.lst xs] M Q = Q (.int (xs.length : Nat)) M := by
  unfold rdLen
  refine propext ⟨fun ⟨d', r', e, e2, h⟩ => ?_, fun h => ⟨_, _, rfl, rfl, h⟩⟩
  cases e
  cases e2
  exact h
theorem lenR {p : Addr} {xs : List D} {M : Mp} {Q : DQ} (h : M p = some (.lst xs)) : rdLen [.ref p] M Q = Q (.int (xs.length : Nat)) M := by
  have e0 : lenD M (.ref p) = some xs.length := by
    show (sqD M (.ref p)).map List.length = _
    rw [sqD_ref h]
    rfl
  unfold rdLen
  refine propext ⟨fun ⟨d', r', e, e2, h⟩ => ?_, fun h => ⟨_, _, rfl, e0, h⟩⟩
  cases e
  rw [e0] at e2
  cases e2
  exact h
theorem isN_non {M : Mp} {Q : DQ} {b : Bool} : rdIsN b .non .non M Q = Q (.bl (!b)) M := by cases b <;> simp [rdIsN]
theorem isN_tup {M : Mp} {Q : DQ} {b : Bool} {xs : List D} : rdIsN b (.tup xs) .non M Q = Q (.bl b) M := by cases b <;> simp [rdIsN]
theorem isN_int {M : Mp} {Q : DQ} {b : Bool} {i : Int} : rdIsN b (.int i) .non M Q = Q (.bl b) M := by cases b <;> simp [rdIsN]
theorem parEq {α : Type} {x y : α} {P : α → α → Prop} : (∃ d e, (x = d ∧ y = e) ∧ P d e) = P x y := by
  refine propext ⟨fun ⟨d', r', ⟨e, e2⟩, h⟩ => ?_, fun h => ⟨_, _, ⟨rfl, rfl⟩, h⟩⟩
  subst e
  subst e2
  exact h
end DL
namespace DL
open PySem L2
theorem GhS.open {K : KTb} {P : DG → Mp → Prop} {Γ : DG} {M : Mp} {p : Addr} {φ : List D → Prop} (h : M p = some (.opq φ)) (k : ∀ ds, φ ds → P Γ (mup M p (.lst ds))) : GhS K P Γ M := fun F H σ c g => by
  obtain ⟨ds, h1, c2⟩ := c.open h
  exact ⟨F, Γ, _, Same.refl _, c2, g, k ds h1⟩
theorem Fin.close {K : KTb} {Qd : DQ} {d : D} {p : Addr} {φ : List D → Prop} {ds : List D} {M : Mp} (e : M p = some (.lst ds)) (hd : φ ds) (h : Qd d (mup M p (.opq φ))) : Fin K Qd d M := fun F H v c r => ⟨F, d, _, Same.refl _, c.close e hd, r, h⟩
section
variable {X : Cx} {W : WT} {st : Stmt} {rest : List Stmt}
/-- what holds between two statements is told -/
def dCut (t u : DTS) : DTS := fun Dn Γ M => ∃ I : DG → Mp → Prop, t { Dn with nx := I } Γ M ∧ ∀ Γ' M', I Γ' M' → u Dn Γ' M'
theorem dss_cut {t u : DTS} (h1 : DS X W st t) (h2 : DSs X W rest u) : DSs X W (st :: rest) (dCut t u) := ⟨pssW (pss_cons h1.ps h2.ps) fun E σ H ⟨Γ, M, F, Dn, a, ⟨I, h, n⟩, k⟩ =>
  ⟨Γ, M, F, { Dn with nx := I }, a, h, ⟨fun F1 H1 σ1 Γ1 M1 s1 c1 g1 q1 => ⟨Γ1, M1, F1, Dn, ⟨c1, g1, a.w.mono s1⟩, n _ _ q1, k.mono s1⟩, k.rt, k.bk, k.ct⟩⟩⟩
end
theorem ixS {M : Mp} {b : Addr} {xs : List D} {i : Int} : ixD (mup M b (.lst xs)) (.ref b) (.int i) = atI xs i := ixd_ref mup_same
theorem sqI {M : Mp} {ns : List Int} : sqD M (.scr ns) = some (ns.map D.int) := rfl
theorem mulI {i j : Int} {M : Mp} {Q : DQ} : rdMul (.int i) (.int j) M Q = (CMul i j ∧ Q (.int (i * j)) M) := rfl
theorem eqI {i j : Int} {M : Mp} {Q : DQ} : rdEq (.int i) (.int j) M Q = Q (.bl (decide (i = j))) M := by
  unfold rdEq
  rw [res_int, res_int, sh_int, sh_int, deq_int]
  simp
theorem neI {i j : Int} {M : Mp} {Q : DQ} : rdNe (.int i) (.int j) M Q = Q (.bl (!decide (i = j))) M := by
  unfold rdNe
  rw [res_int, res_int, sh_int, sh_int, deq_int]
  simp
theorem xN4_0 : ixN 4 0 = some 0 := by decide
theorem xN4_1 : ixN 4 1 = some 1 := by decide
theorem xN4_2 : ixN 4 2 = some 2 := by decide
theorem xN4_3 : ixN 4 3 = some 3 := by decide
theorem atJ {α : Type} {f : α → D} {xs : List α} {i : Int} (h0 : 0 ≤ i) (h1 : i < xs.length) : ∃ z, z ∈ xs ∧ xs[i.toNat]? = some z ∧ atI (xs.map f) i = some (f z) := by
  have hi : i.toNat < xs.length := by omega
  refine ⟨xs[i.toNat], List.getElem_mem hi, List.getElem?_eq_getElem hi, ?_⟩
  unfold atI ixN
  rw [List.length_map, if_pos h0, if_pos h1]
  simp [hi]
theorem sz4 : (4 : Nat) ≤ sizeLine := by rw [szl]; decide
theorem szOf {n : Nat} (h : n ≤ 16777216) : n ≤ sizeLine := by rw [szl]; exact h
theorem rdAbs_eq {i : Int} {M : Mp} {Q : DQ} : rdAbs [.int i] M Q = Q (.int (if i < 0 then -i else i)) M := by
  unfold rdAbs
  refine propext ⟨fun ⟨d', e, h⟩ => ?_, fun h => ⟨_, rfl, h⟩⟩
  cases e
  exact h
end DL
namespace DL
open PySem L2
def FI (it : DIt) (g : DTG) (tb : DTS) (Dn : DEnds) (Γ : DG) (M : Mp) : Prop := ∃ Wv : Nat → DG → Mp → Prop, Wv 0 Γ M ∧ ∀ i Γ2 M2, i ≤ it.seq.length → Wv i Γ2 M2 → it.ok M2 ∧
  (∀ d, it.seq[i]? = some d → g d Γ2 M2 (fun Γ3 M3 => tb { Dn with nx := Wv (i + 1), ct := Wv (i + 1), bk := Dn.nx } Γ3 M3)) ∧ (i = it.seq.length → Dn.nx Γ2 M2)
theorem dFor_eq {ti : DTI} {g : DTG} {tb : DTS} {Dn : DEnds} {Γ : DG} {M : Mp} : dFor ti g tb Dn Γ M = ti Γ M (fun it M1 => FI it g tb Dn Γ M1) Dn.ex := rfl
theorem forBy {α : Type} {f : α → D} {xs : List α} {ok : Mp → Prop} {g : DTG} {tb : DTS} {Dn : DEnds} {Γ : DG} {M : Mp} (I : Nat → DG → Mp → Prop) (h0 : I 0 Γ M) (hok : ∀ i Γ2 M2, I i Γ2 M2 → ok M2)
    (step : ∀ i x Γ2 M2, xs[i]? = some x → I i Γ2 M2 → g (f x) Γ2 M2 (fun Γ3 M3 => tb { Dn with nx := I (i + 1), ct := I (i + 1), bk := Dn.nx } Γ3 M3)) (fin : ∀ Γ2 M2, I xs.length Γ2 M2 → Dn.nx Γ2 M2) :
    FI ⟨xs.map f, ok⟩ g tb Dn Γ M := by
  refine ⟨I, h0, fun i Γ2 M2 hi h => ⟨hok i Γ2 M2 h, fun d hd => ?_, fun e => ?_⟩⟩
  · have hd : (xs.map f)[i]? = some d := hd
    rw [List.getElem?_map, Option.map_eq_some_iff] at hd
    obtain ⟨x, hx, rfl⟩ := hd
    exact step i x Γ2 M2 hx h
  · have e : i = (xs.map f).length := e
    rw [List.length_map] at e
    subst e
    exact fin Γ2 M2 h
/-- over range -/
theorem forRng {lo : Int} {n : Nat} {ok : Mp → Prop} {g : DTG} {tb : DTS} {Dn : DEnds} {Γ : DG} {M : Mp} (I : Nat → DG → Mp → Prop) (h0 : I 0 Γ M) (hok : ∀ M2, ok M2)
    (step : ∀ i Γ2 M2, i < n → I i Γ2 M2 → g (.int (lo + (i : Nat))) Γ2 M2 (fun Γ3 M3 => tb { Dn with nx := I (i + 1), ct := I (i + 1), bk := Dn.nx } Γ3 M3)) (fin : ∀ Γ2 M2, I n Γ2 M2 → Dn.nx Γ2 M2) :
    FI ⟨rngD lo 1 n, ok⟩ g tb Dn Γ M :=
  forBy (xs := List.range n) (f := fun k => D.int (lo + (k : Nat) * 1)) I h0 (fun _ _ _ _ => hok _) (fun i x Γ2 M2 hx h => by
    have hi := (List.getElem?_eq_some_iff.mp hx).1
    rw [List.length_range] at hi
    rw [List.getElem?_range hi] at hx
    cases hx
    rw [Int.mul_one]
    exact step i Γ2 M2 hi h) (fun Γ2 M2 h => fin Γ2 M2 (by rwa [List.length_range] at h))
theorem rngD_eq {lo c : Int} {n : Nat} : rngD lo c n = (List.range n).map fun k => D.int (lo + (k : Nat) * c) := rfl
theorem sq_cases {M : Mp} {d : D} {xs : List D} (h : sqD M d = some xs) : (d = .lst xs) ∨ (∃ p, d = .ref p ∧ M p = some (.lst xs)) ∨ ∃ ns, d = .scr ns ∧ xs = ns.map D.int := by
  cases d with
  | lst ys => cases h; exact .inl rfl
  | ref p =>
    have h : (match M p with | some (.lst xs) => some xs | _ => none) = some xs := h
    split at h
    · rename_i e
      cases h
      exact .inr (.inl ⟨p, rfl, e⟩)
    · cases h
  | scr ns => cases h; exact .inr (.inr ⟨ns, rfl, rfl⟩)
  | _ => cases h
theorem itSq {M : Mp} {d : D} {xs : List D} (h : sqD M d = some xs) : itD M d = some xs := by
  rcases sq_cases h with rfl | ⟨p, rfl, e⟩ | ⟨ns, rfl, rfl⟩
  · rfl
  · exact h
  · rfl
theorem ixSq {M : Mp} {d : D} {xs : List D} {i : Int} (h : sqD M d = some xs) : ixD M d (.int i) = atI xs i := by
  rcases sq_cases h with rfl | ⟨p, rfl, e⟩ | ⟨ns, rfl, rfl⟩
  · rfl
  · exact ixd_ref e
  · rfl
theorem lenSq {M : Mp} {d : D} {xs : List D} {Q : DQ} (h : sqD M d = some xs) : rdLen [d] M Q = Q (.int (xs.length : Nat)) M := by
  have e0 : lenD M d = some xs.length := by
    rcases sq_cases h with rfl | ⟨p, rfl, e⟩ | ⟨ns, rfl, rfl⟩
    · rfl
    · show (sqD M (.ref p)).map List.length = _
      rw [h]
      rfl
    · show (sqD M (.scr ns)).map List.length = _
      rw [h]
      rfl
  unfold rdLen
  refine propext ⟨fun ⟨d', r', e, e2, h⟩ => ?_, fun h => ⟨_, _, rfl, e0, h⟩⟩
  cases e
  rw [e0] at e2
  cases e2
  exact h
theorem resSq {M : Mp} {d : D} {xs : List D} (h : sqD M d = some xs) : res M d = .lst xs := by unfold res; rw [h]
/-- xs[i], i in range -/
theorem atL {xs : List D} {i : Int} (h0 : 0 ≤ i) (h1 : i < xs.length) : ∃ x, x ∈ xs ∧ xs[i.toNat]? = some x ∧ atI xs i = some x := by
  have := atJ (f := id) h0 h1
  simpa using this
theorem atMn {α : Type} {f : α → D} {xs : List α} {i : Nat} {x : α} (h : xs[i]? = some x) : atI (xs.map f) (i : Int) = some (f x) := atN (by rw [List.getElem?_map, h]; rfl)
theorem atLast {α : Type} {f : α → D} {xs : List α} (h : xs ≠ []) : atI (xs.map f) (-1) = some (f (xs.getLast h)) := by
  have hl : 0 < xs.length := List.length_pos_iff.mpr h
  unfold atI ixN
  rw [if_neg (by decide), if_pos (by rw [List.length_map]; omega)]
  simp only [Option.bind_some, List.length_map]
  have e : (-1 + (xs.length : Int)).toNat = xs.length - 1 := by omega
  rw [e, List.getElem?_map, List.getLast_eq_getElem, List.getElem?_eq_getElem (by omega)]
  rfl
/-- the order of spans, of marks -/
def spLt (a b : Int × Int) : Prop := a.1 < b.1 ∨ (a.1 = b.1 ∧ a.2 < b.2)
def mkLt (a b : Int × Int × Int) : Prop := a.1 < b.1 ∨ (a.1 = b.1 ∧ (a.2.1 < b.2.1 ∨ (a.2.1 = b.2.1 ∧ a.2.2 < b.2.2)))
theorem eqNilR {α : Type} {f : α → D} {bs : List α} {p : Addr} {M : Mp} {Q : DQ} {n : Nat} (hf : ∀ a, lay n (f a)) (hn : n ≤ 63 := by decide) : rdEq (.ref p) (.lst []) (mup M p (.lst (bs.map f))) Q = Q (.bl bs.isEmpty) (mup M p (.lst (bs.map f))) := by
  have h1 : shD (.lst (bs.map f)) = true := sh_of (lay_mapL hf bs) (by omega)
  have h2 : shD (.lst []) = true := sh_of (lay_mapL (f := D.int) (lay_int 0) []) (by decide)
  have h3 : deq (.lst (bs.map f)) (.lst []) = bs.isEmpty := by
    cases bs <;> simp [deq, D.py, pys, PyData.eqv, PyData.eqvAll]
  unfold rdEq
  rw [res_ref mup_same, res_lst, h1, h2, h3]
  simp
theorem neSp {s t : Int × Int} {M : Mp} {Q : DQ} : rdNe (spD s) (spD t) M Q = Q (.bl (!decide (s = t))) M := by
  unfold rdNe
  show (shD (spD s) = true ∧ shD (spD t) = true ∧ Q (.bl (!deq (spD s) (spD t))) M) = _
  rw [sh_of (lay_spD s), sh_of (lay_spD t), deq_spD]
  simp
theorem eqSp {s t : Int × Int} {M : Mp} {Q : DQ} : rdEq (spD s) (spD t) M Q = Q (.bl (decide (s = t))) M := by
  unfold rdEq
  show (shD (spD s) = true ∧ shD (spD t) = true ∧ Q (.bl (deq (spD s) (spD t))) M) = _
  rw [sh_of (lay_spD s), sh_of (lay_spD t), deq_spD]
  simp
theorem eqMk {s t : Int × Int × Int} {M : Mp} {Q : DQ} : rdEq (mkD s) (mkD t) M Q = Q (.bl (decide (s = t))) M := by
  unfold rdEq
  show (shD (mkD s) = true ∧ shD (mkD t) = true ∧ Q (.bl (deq (mkD s) (mkD t))) M) = _
  rw [sh_of (lay_mkD s), sh_of (lay_mkD t), deq_mkD]
  simp
theorem neMk {s t : Int × Int × Int} {M : Mp} {Q : DQ} : rdNe (mkD s) (mkD t) M Q = Q (.bl (!decide (s = t))) M := by
  unfold rdNe
  show (shD (mkD s) = true ∧ shD (mkD t) = true ∧ Q (.bl (!deq (mkD s) (mkD t))) M) = _
  rw [sh_of (lay_mkD s), sh_of (lay_mkD t), deq_mkD]
  simp
theorem inD {α : Type} [DecidableEq α] {f : α → D} {n : Nat} {x : α} {ys : List α} {d : D} {M : Mp} {Q : DQ} (hf : ∀ a, lay n (f a)) (he : ∀ a b, deq (f a) (f b) = decide (a = b)) (hr : res M (f x) = f x) (hd : sqD M d = some (ys.map f)) (hn : n ≤ 63) :
    rdIn false (f x) d M Q ↔ Q (.bl (decide (x ∈ ys))) M := by
  have e : ((ys.map f).any fun z => deq z (f x)) = decide (x ∈ ys) := by
    induction ys with
    | nil => simp
    | cons y ys ih =>
      simp only [List.map_cons, List.any_cons, he]
      have : ((ys.map f).any fun z => deq z (f x)) = decide (x ∈ ys) := by
        clear ih hd
        induction ys with
        | nil => simp
        | cons y ys ih => simp only [List.map_cons, List.any_cons, he, ih]; simp [eq_comm]
      rw [this]
      simp [eq_comm]
  unfold rdIn
  constructor
  · rintro ⟨zs, h1, _, _, q⟩
    rw [resSq hd] at h1
    cases h1
    rw [hr, if_neg Bool.false_ne_true, e] at q
    exact q
  · intro q
    refine ⟨_, resSq hd, by rw [hr]; exact sh_of (hf x) (by omega), sh_of (lay_mapL hf ys) (by omega), ?_⟩
    rw [hr, if_neg Bool.false_ne_true, e]
    exact q
theorem exX {M : Mp} {p : Addr} {ys : List D} : (∃ xs, sqX (mup M p (.lst ys)) (.ref p) = some xs) = True := by
  rw [sqX_ref mup_same]
  simp
theorem Ext.up {M M' : Mp} {p : Addr} {c : Cell} (h : Ext M M') (hp : M p = none) : Ext M (mup M' p c) := fun a u e => by
  rw [mup_ne fun z => by rw [z, hp] at e; cases e]
  exact h a u e
theorem Ext.trans {M M' M2 : Mp} (h : Ext M M') (h2 : Ext M' M2) : Ext M M2 := fun a u e => h2 a u (h a u e)
theorem sq_ext {M M' : Mp} {d : D} {xs : List D} (x : Ext M M') (h : sqD M d = some xs) : sqD M' d = some xs := by
  rcases sq_cases h with rfl | ⟨p, rfl, e⟩ | ⟨ns, rfl, rfl⟩
  · rfl
  · exact sqD_ref (x _ _ e)
  · rfl
theorem Fin.frzE {K : KTb} {Qd : DQ} {p : Addr} {xs : List D} {M M3 : Mp} (e : M p = some (.lst xs)) (hp : M3 p = none) (x : Ext M3 M) (h : Qd (.lst xs) M3) : Fin K Qd (.ref p) M := fun F H v c r => by
  cases r
  obtain ⟨F2, s, c2, r2⟩ := c.freeze e
  refine ⟨F2, _, M3, s, c2.less fun a u q => ?_, r2, h⟩
  have ha : a ≠ p := fun z => by rw [z, hp] at q; cases q
  unfold mdel
  rw [if_neg ha]
  exact x a u q
end DL
namespace DL
open PySem L2
def LI (it : DIt) (g : DTG) (tt : DTT) (te : DTE) (vs : List Nat) (Γ : DG) (M : Mp) (Q : DQ) : Prop := ∃ P : D → Option D → Prop, dLcBody g tt te vs Γ M it P ∧ ∀ os, All2 P it.seq os → Q (.lst (os.filterMap id)) M
def LIO (it : DIt) (g : DTG) (tt : DTT) (te : DTE) (vs : List Nat) (Γ : DG) (M : Mp) (Q : DQ) : Prop := ∃ P : D → Option D → Prop, dLcBody g tt te vs Γ M it P ∧ ∀ os, All2 P it.seq os → ∀ p, M p = none → Q (.ref p) (mup M p (.lst (os.filterMap id)))
theorem dLcN_eq {ti : DTI} {g : DTG} {tt : DTT} {te : DTE} {vs : List Nat} {Γ : DG} {M : Mp} {Q : DQ} {E : DXE} : dLcN ti g tt te vs Γ M Q E = ti Γ M (fun it M1 => LI it g tt te vs Γ M1 Q) E := rfl
theorem dLcNO_eq {ti : DTI} {g : DTG} {tt : DTT} {te : DTE} {vs : List Nat} {Γ : DG} {M : Mp} {Q : DQ} {E : DXE} : dLcNO ti g tt te vs Γ M Q E = ti Γ M (fun it M1 => LIO it g tt te vs Γ M1 Q) E := rfl
/-- one item's part -/
def LB (g : DTG) (tt : DTT) (te : DTE) (Γ : DG) (M : Mp) (d : D) (R : Option D → Prop) : Prop := g d Γ M (fun Γ2 M3 => tt Γ2 M3 (fun b M4 => if b = true then te Γ2 M4 (fun y M5 => M5 = M ∧ R (some y)) noE else M4 = M ∧ R none) noE)
section
variable {α : Type} {F : α → D} {xs : List α} {ok : Mp → Prop} {g : DTG} {tt : DTT} {te : DTE} {vs : List Nat} {Γ : DG} {M : Mp} {Q : DQ}
theorem all2_fn {H : α → Option D} : ∀ {xs : List α} {os : List (Option D)}, All2 (fun x o => o = H x) xs os → os.filterMap id = xs.filterMap H
  | [], [], _ => rfl
  | [], _ :: _, h => by cases h
  | x :: xs, [], h => by cases h
  | x :: xs, o :: os, h => by
    cases h with
    | cons h1 h2 =>
      subst h1
      have ih := all2_fn h2
      cases e : H x <;> simp [e, ih]
theorem bodyR (inj : ∀ a b, F a = F b → a = b) {R : α → Option D → Prop} (hok : ∀ M', Ext M M' → ok M') (body : ∀ x, x ∈ xs → ∀ M', Ext M M' → LB g tt te (dwipe Γ vs) M' (F x) (R x)) : ∃ P, dLcBody g tt te vs Γ M ⟨xs.map F, ok⟩ P ∧ ∀ os, All2 P (xs.map F) os → All2 R xs os := by
  cases xs with
  | nil => exact ⟨fun _ _ => True, ⟨hok, fun d hd => by cases hd⟩, fun os h => by cases h; exact .nil⟩
  | cons x0 t =>
    classical
    let inv : D → α := fun d => if h : ∃ x, F x = d then h.choose else x0
    have hinv : ∀ x, inv (F x) = x := fun x => by
      have h : ∃ y, F y = F x := ⟨x, rfl⟩
      show (if h : ∃ y, F y = F x then h.choose else x0) = x
      rw [dif_pos h]
      exact inj _ _ h.choose_spec
    refine ⟨fun d o => R (inv d) o, ⟨hok, fun d hd M' x' => ?_⟩, fun os => ?_⟩
    · obtain ⟨x, hx, rfl⟩ := List.mem_map.mp hd
      have b := body x hx M' x'
      simp only [hinv]
      exact b
    · have : ∀ (l : List α) (os : List (Option D)), All2 (fun d o => R (inv d) o) (l.map F) os → All2 R l os := by
        intro l
        induction l with
        | nil => intro os h; cases h; exact .nil
        | cons y l ih =>
          intro os h
          cases h with
          | cons h1 h2 =>
            rw [hinv] at h1
            exact .cons h1 (ih _ h2)
      exact this _ os
theorem LI_R (inj : ∀ a b, F a = F b → a = b) (R : α → Option D → Prop) (hok : ∀ M', Ext M M' → ok M') (body : ∀ x, x ∈ xs → ∀ M', Ext M M' → LB g tt te (dwipe Γ vs) M' (F x) (R x)) (q : ∀ os, All2 R xs os → Q (.lst (os.filterMap id)) M) : LI ⟨xs.map F, ok⟩ g tt te vs Γ M Q := by
  obtain ⟨P, h1, h2⟩ := bodyR inj hok body
  exact ⟨P, h1, fun os h => q os (h2 os h)⟩
theorem LI_F (inj : ∀ a b, F a = F b → a = b) (H : α → Option D) (hok : ∀ M', Ext M M' → ok M') (body : ∀ x, x ∈ xs → ∀ M', Ext M M' → LB g tt te (dwipe Γ vs) M' (F x) (fun o => o = H x)) (q : Q (.lst (xs.filterMap H)) M) : LI ⟨xs.map F, ok⟩ g tt te vs Γ M Q :=
  LI_R inj (fun x o => o = H x) hok body fun os h => by rw [all2_fn h]; exact q
end
section
variable {X : Cx} {es : List Expr} {pos : Pos}
def gdUnl (n : Nat) (t : DTGs) : DTG := fun d Γ M Q => ∃ ds, sqD M d = some ds ∧ ds.length = n ∧ t ds Γ M Q
end
theorem all2_vals {α β : Type} {f : β → D} {P : β → Prop} : ∀ {xs : List α} {os : List (Option D)}, All2 (fun _ o => ∃ z, o = some (f z) ∧ P z) xs os → ∃ zs : List β, os.filterMap id = zs.map f ∧ (∀ z ∈ zs, P z) ∧ zs.length = xs.length
  | _, _, .nil => ⟨[], rfl, (fun _ h => by cases h), rfl⟩
  | _, _, .cons h1 h2 => by
    obtain ⟨z, rfl, hz⟩ := h1
    obtain ⟨zs, e, h3, hl⟩ := all2_vals h2
    refine ⟨z :: zs, by simp [e], fun y hy => ?_, by simp [hl]⟩
    rcases List.mem_cons.mp hy with rfl | hy
    · exact hz
    · exact h3 y hy
theorem inF {α : Type} [DecidableEq α] {f : α → D} {n : Nat} {x : α} {ys : List α} {d : D} {M : Mp} {Q : DQ} (hf : ∀ a, lay n (f a)) (he : ∀ a b, deq (f a) (f b) = decide (a = b)) (hr : res M (f x) = f x) (hd : sqD M d = some (ys.map f)) (hn : n ≤ 63) (hx : x ∉ ys) (h : Q (.bl false) M) : rdIn false (f x) d M Q :=
  (inD hf he hr hd hn).mpr (by rw [decide_eq_false hx]; exact h)
instance (a b : Int × Int × Int) : Decidable (mkLt a b) := by unfold mkLt; infer_instance
instance (a b : Int × Int) : Decidable (spLt a b) := by unfold spLt; infer_instance
theorem allT {ds : List D} {M : Mp} {Q : DQ} (bs : List Bool) (e : ds = bs.map D.bl) (h : Q (.bl (bs.all id)) M) : rdAll [.lst ds] M Q := ⟨.lst ds, bs, rfl, by rw [e]; rfl, h⟩
theorem addL {xs ys : List D} {M : Mp} {Q : DQ} : rdAdd (.lst xs) (.lst ys) M Q = (xs.length + ys.length ≤ sizeLine ∧ Q (.lst (xs ++ ys)) M) := by
  refine propext ⟨fun h => ?_, fun h => ⟨xs, ys, rfl, rfl, h⟩⟩
  obtain ⟨a, b, e1, e2, h⟩ := (show ∃ a b, sqX M (.lst xs) = some a ∧ sqX M (.lst ys) = some b ∧ a.length + b.length ≤ sizeLine ∧ Q (.lst (a ++ b)) M from h)
  cases e1
  cases e2
  exact h
theorem sz0 : (0 ≤ sizeLine) = True := by simp
theorem sz1 : (1 ≤ sizeLine) = True := by rw [szl]; decide
theorem sz2 : (2 ≤ sizeLine) = True := by rw [szl]; decide
theorem sz3 : (3 ≤ sizeLine) = True := by rw [szl]; decide
theorem injRng {lo c : Int} (hc : c ≠ 0) : ∀ a b : Nat, D.int (lo + (a : Nat) * c) = D.int (lo + (b : Nat) * c) → a = b := fun a b h => by
  rw [D.int.injEq] at h
  have : (a : Int) * c = b * c := by omega
  have := Int.eq_of_mul_eq_mul_right hc this
  omega
theorem filterMap_some {α β : Type} {f : α → β} (xs : List α) : xs.filterMap (fun x => some (f x)) = xs.map f := by simp
end DL
namespace DL
open PySem L2
theorem lawIn {K : PySem.W.Frag} {H : Hp} {a : Addr} {ns : List Int} {sp : DSp} (hsp : ∀ (ns : List Int) (M : Mp) (Q : DQ), ns.length ≤ 63 → (∀ M2, Q (.bl true) M2) → sp [.scr ns] M Q (fun _ _ _ => False)) (hl : ns.length ≤ 63) (hO : Only H) (hS : SqL K H a (ns.map V.int)) :
    spUp ⟨K, []⟩ sp [.ref a] H (fun v _ => v = .bl true) (fun _ _ _ => False) := by
  refine ⟨[.scr ns], fun _ => none, H, fun d _ => d = .bl true, fun _ _ _ => False, ⟨(fun p hp => nomatch hp), (fun b o e => ?_), (fun b o e => .inl e), (fun b c e => nomatch e)⟩, .cons (.scr ?_) .nil, hsp ns _ _ hl (fun _ => rfl), fun F' H' v d M' _ _ r e => ?_, fun _ _ _ _ _ _ _ _ _ _ _ z => z.elim⟩
  · rcases hO b with h | ⟨ob, xs, h⟩
    · rw [h] at e
      cases e
    · rw [h] at e
      cases e
      trivial
  · rcases hS with h | h
    · rcases h with h | h
      · exact .inl h
      · exact .inr (.inl h)
    · exact .inr (.inr h)
  · subst e
    cases r
    rfl
section
variable {P : Program} {w : World} {K : PySem.W.Frag} {mg : Str → Option Value} {base : Heap}
theorem FunK.okS {T : List (Addr × Str)} {x : Str} {st : Stmt} {f : Addr} {fd : FuncData} {N ps : List Str} {k : Nat} {sp : DSp} (Fn : FunK K x x st f fd) (S : FnScope N ps (defScope st)) (len : ∀ ds M Q E, sp ds M Q E → ds.length = ps.length)
    (hbody : ∀ (cdv : Value) (A : Around) (outer : List Env) (s : Shared) (H : Hp) (E : XK), Room k (A.deeper (PyProof.Rows.envOfC x (defScope st) s.heap.objs.size f cdv)) → ∃ t, DSs (cxOf (L2.CX P w) P w K mg base N x (defScope st) f cdv A outer s H E) (wOf T E) (defBody st) t ∧
      ∀ (ds : List D) (M : Mp) (Qd : DQ) (Ed : DXK), sp ds M Qd Ed → t { nx := fun _ M' => Fin ⟨K, T⟩ Qd .non M', rt := Fin ⟨K, T⟩ Qd, ex := fun _ C fs M' => Ed C fs M' } (dstart N ds) M) : FnOk P w K mg base (L2.CX P w) (k + 1) f fd ps (spUp ⟨K, T⟩ sp) :=
  dfn Fn S len fun cdv A outer s H E hr => by
    obtain ⟨t, ht, hq⟩ := hbody cdv A outer s H E hr
    exact ⟨t, ht, fun ds M Qd Ed F H h c => ⟨F, M, Same.refl _, c, hq ds M Qd Ed h⟩⟩
theorem exB_of {x qual : Str} {st : Stmt} {CL f : Addr} {mc : Value} {fd : FuncData} (m : mg x = some (.ref CL)) (rd : PySem.W.readsIn K CL mc = true) (ga : PySem.W.specialIn K (.ref CL) "__getattribute__" = some (some (.builtin "type.__getattribute__")))
    (kk : PySem.W.findCls K (.ref CL) mc "__init__" = some (.val (.ref f))) (F : Fun K "__init__" qual st f fd) (S : FnScope ["self", "word"] ["self", "word"] (defScope st)) (b : Binds K fd ["self", "word"] [])
    (hps : ∀ (cdv : Value) (A : Around) (outer : List Env) (s : Shared) (H : Hp) (E : XK), PSs (cxOf (L2.CX P w) P w K mg base ["self", "word"] qual (defScope st) f cdv A outer s H E) (defBody st) (tOst K "word" (tVar 0) (tVar 1))) : ExB P w K mg base x "word" :=
  ⟨⟨CL, f, fd, mc, m, ⟨rd, ga⟩, kk, okBase (FunK.of F) S hps, F.kp, b⟩⟩
end
end DL
namespace DLC
open PySem PySem.Spec PyProof.Rows L2 PpSet
section
variable {prog : Program} {w : World} {A : Around} {R : Result → Shared → Prop} {s : Shared} {env : Env} {elt tg iter : Expr} {ifs : List Expr} {rest : List Comprehension} {scope : Scope} {pos : Pos} {it acc : Value} {tl : (Unit → Sem PySem.Fin) → Sem PySem.Fin} {gens : List Comprehension}
abbrev Sure {α : Type} (prog : Program) (w : World) (A : Around) (t : Sem α) (Q : α → Shared → Prop) (s : Shared) : Prop := wpAny (model prog w) A t Q (fun _ _ => False) s
theorem Sure.to {α : Type} {t : Sem α} {Q Q' : α → Shared → Prop} {E : Value → Shared → Prop} (h : Sure prog w A t Q s) (k : ∀ a s', Q a s' → Q' a s') : wpAny (model prog w) A t Q' E s := wpAny_mono h k fun _ _ z => z.elim
end
end DLC
namespace DL
open PySem L2
section
variable {X : Cx} {W : WT} {e : Expr} {x : Str}
/-- sorted({x for x in xs}), xs a list of spans -/
def dSetSp (i : Nat) (t : DTE) : DTE := fun Γ M Q E => i < Γ.length ∧ t Γ M (fun d M1 => ∃ (as : List (Int × Int)) (B : Int), sqD M1 d = some (as.map spD) ∧ as.length < 64 ∧ (∀ s ∈ as, 0 ≤ s.1 ∧ s.1 < B ∧ 0 ≤ s.2 ∧ s.2 < B) ∧
  ∀ (L : List (Int × Int)) (p : Addr), (∀ s, s ∈ L ↔ s ∈ as) → L.length ≤ as.length → L.Pairwise spLt → M1 p = none → Q (.ref p) (mup M1 p (.lst (L.map spD)))) E
end
end DL
namespace DL
open PySem L2
section
variable {X : Cx} {W : WT} {e : Expr} {x y : Str}
/-- the ends of the spans are few -/
def FewP (as : List (Int × Int)) : Prop := as.length ≤ 1000
/-- sorted({p for x in xs for p in x}), xs a list of spans -/
def dSetIn (i j : Nat) (t : DTE) : DTE := fun Γ M Q E => i < Γ.length ∧ j < Γ.length ∧ i ≠ j ∧ t Γ M (fun d M1 => ∃ (as : List (Int × Int)), sqD M1 d = some (as.map spD) ∧ FewP as ∧
  ∀ (L : List Int) (p : Addr), (∀ z, z ∈ L ↔ ∃ s ∈ as, z = s.1 ∨ z = s.2) → L.length ≤ 2 * as.length → L.Pairwise (· < ·) → M1 p = none → Q (.ref p) (mup M1 p (.lst (L.map D.int)))) E
end
end DL
namespace DL
open PySem L2
theorem wipe_mem {j : Nat} : ∀ (l2 : List Nat) (σ : St), j ∈ l2 → (wipe σ l2).set j none = wipe σ l2 := by
  intro l2
  induction l2 with
  | nil => intro σ h; cases h
  | cons q l2 ih2 =>
    intro σ h
    show ((wipe σ l2).set q none).set j none = (wipe σ l2).set q none
    by_cases hq : q = j
    · subst hq
      rw [List.set_set]
    · have hm : j ∈ l2 := by
        rcases List.mem_cons.mp h with e | e
        · exact absurd e.symm hq
        · exact e
      rw [List.set_comm _ _ hq, ih2 σ hm]
theorem wipe_idem (σ : St) (vs : List Nat) : wipe (wipe σ vs) vs = wipe σ vs := by
  have : ∀ (l l2 : List Nat) (σ : St), (∀ j ∈ l, j ∈ l2) → wipe (wipe σ l2) l = wipe σ l2 := by
    intro l
    induction l with
    | nil => intro l2 σ _; rfl
    | cons j l ih =>
      intro l2 σ hj
      show (wipe (wipe σ l2) l).set j none = _
      rw [ih l2 σ fun j' hj' => hj j' (List.mem_cons_of_mem _ hj'), wipe_mem l2 σ (hj j List.mem_cons_self)]
  exact this vs vs σ fun _ h => h
/-- the inner clause's items -/
def L2in (g : DTG) (tt : DTT) (te : DTE) (vs : List Nat) (Γ : DG) (M1 : Mp) (it : DIt) (R : List D → Prop) : Prop := (∀ M', Ext M1 M' → it.ok M') ∧ ∃ P : D → Option D → Prop,
  (∀ d, d ∈ it.seq → ∀ M', Ext M1 M' → g d (dwipe Γ vs) M' (fun Γ2 M3 => tt Γ2 M3 (fun b M4 => if b = true then te Γ2 M4 (fun y M5 => M5 = M' ∧ P d (some y)) noE else M4 = M' ∧ P d none) noE)) ∧ ∀ os, All2 P it.seq os → R (os.filterMap id)
/-- [elt for tg in it if .. for tg1 in it1 if ..]: a cell. B bounds the inner ones -/
def dLc2O (ti : DTI) (g : DTG) (tt : DTT) (ti1 : DTI) (g1 : DTG) (tt1 : DTT) (te : DTE) (vs vs1 : List Nat) : DTE := fun Γ M Q E => ti Γ M (fun it M1 => ∃ (P : D → List D → Prop) (B : Nat), it.seq.length * B ≤ sizeLine ∧ (∀ M', Ext M1 M' → it.ok M') ∧
  (∀ d, d ∈ it.seq → ∀ M', Ext M1 M' → g d (dwipe Γ vs) M' (fun Γ2 M3 => tt Γ2 M3 (fun b M4 => if b = true then ti1 Γ2 M4 (fun it1 M5 => M5 = M' ∧ it1.seq.length ≤ B ∧ L2in g1 tt1 te vs1 Γ2 M1 it1 (P d)) noE else M4 = M' ∧ P d []) noE)) ∧
  ∀ rs : List (List D), All2 P it.seq rs → ∀ p, M1 p = none → Q (.ref p) (mup M1 p (.lst rs.flatten))) E
section
variable {X : Cx} {W : WT}
theorem upLc2O {ti ti1 : DTI} {g g1 : DTG} {tt tt1 : DTT} {te : DTE} {vs vs1 : List Nat} {σ : St} {H : Hp} {Q : VK} (h : upE (kt X W) W.w (dLc2O ti g tt ti1 g1 tt1 te vs vs1) σ H Q) :
    tLc2 (upI (kt X W) W.w ti) (upG (kt X W) (some vs) g) (upT (kt X W) noW tt) (upI (kt X W) noW ti1) (upG (kt X W) (some vs1) g1) (upT (kt X W) noW tt1) (upE (kt X W) noW te) vs vs1 σ H Q := by
  obtain ⟨Γ, M, F, E, Qd, a, q, k⟩ := h
  refine ⟨Γ, M, F, E, _, a, q, fun F1 H1 J it M1 s1 c1 ⟨hz, rj⟩ ⟨P, B, hB, okx, body, q0⟩ Dd hD => ?_⟩
  have m1 : M1 Dd = none := c1.Mnone hD
  have ext : ∀ x, Ext M1 (mup M1 Dd x) := fun x b c hb => by
    rw [mup_ne fun z => by rw [z, m1] at hb; cases hb]
    exact hb
  have nE : ∀ {F : Hp}, Ew (kt X W) F noE noW := fun _ _ _ _ _ _ _ _ _ _ _ _ _ _ z => z
  let St1 : Nat → Hp → Prop := fun i H2 => i ≤ it.seq.length ∧ ∃ (F2 : Hp) (rs : List (List D)) (us : List V), Same F1 F2 ∧ All2 P (it.seq.take i) rs ∧ Cc (kt X W) (mup M1 Dd (.lst rs.flatten)) F2 H2 ∧ H2 Dd = some (.lst us) ∧ us.length ≤ i * B ∧ Rps (kt X W) F2 us rs.flatten
  refine ⟨fun i m H2 => m = it.seq.length - i ∧ St1 i H2, ⟨_, rfl, Nat.zero_le _, F1, [], [], Same.refl _, .nil, c1.newM (x := .lst []) hD ⟨[], rfl, .nil⟩, upd_same, Nat.zero_le _, .nil⟩, ?_⟩
  rintro i m H2 ⟨rfl, hi, F2, rs, us, s2, hr, c2, e2, hl, r2⟩
  obtain ⟨j1, j2⟩ := rj F2 H2 _ i s2 c2 (okx _ (ext _))
  by_cases hlt : i < it.seq.length
  · have hget : it.seq[i]? = some it.seq[i] := List.getElem?_eq_getElem hlt
    have ht : it.seq.take (i + 1) = it.seq.take i ++ [it.seq[i]] := by rw [List.take_add_one, hget]; rfl
    obtain ⟨go, yl⟩ := j1 _ hget
    have hBi : i * B + B ≤ sizeLine := by
      have : (i + 1) * B ≤ it.seq.length * B := Nat.mul_le_mul_right B hlt
      rw [Nat.succ_mul] at this
      omega
    refine .inr ⟨go, St1 (i + 1), fun H4 qq => ⟨_, by omega, rfl, qq⟩, fun x H' y => ?_⟩
    obtain ⟨F3, s3, c3, r3⟩ := yl x H' y
    refine ⟨_, dwipe Γ vs, _, F3, _, c3, (a.g.mono ((s1.trans s2).trans s3)).wipe vs, r3, body _ (List.getElem_mem hlt) _ (ext _), fun F4 H4 σ4 Γ4 M4 s4 c4 g4 w4 q4 => ⟨?_, ?_⟩⟩
    · rw [w4 vs rfl, wipe_idem]
    refine ⟨Γ4, M4, F4, noE, _, ⟨c4, g4, nE⟩, q4, fun F5 H5 b M5 s5 c5 q5 => ?_⟩
    have s15 := ((s2.trans s3).trans s4).trans s5
    cases b with
    | false =>
      rw [if_neg Bool.false_ne_true] at q5
      refine iteF ?_
      obtain ⟨e5, p5⟩ := q5
      subst e5
      obtain ⟨f5, o5, e6, us5, e7, r5⟩ := c5.ow Dd _ mup_same
      subst e7
      have hfl : (rs ++ [[]]).flatten = rs.flatten := by simp
      refine ⟨hlt, F5, rs ++ [[]], us5, s15, by rw [ht]; exact hr.snoc p5, by rw [hfl]; exact c5, e6, ?_, by rw [hfl]; exact r5⟩
      rw [r5.length, ← r2.length, Nat.succ_mul]
      omega
    | true =>
      rw [if_pos rfl] at q5
      refine iteT ?_
      refine ⟨Γ4, M5, F5, noE, _, ⟨c5, g4.mono s5, nE⟩, q5, fun F6 H6 J1 it1 M6 s6 c6 ⟨hz1, rj1⟩ ⟨e6, hB1, ok1, P1, body1, fin1⟩ => ?_⟩
      subst e6
      obtain ⟨f7, o7, e7, us7, e8, r7⟩ := c6.ow Dd _ mup_same
      subst e8
      have hus : us7.length ≤ i * B := by rw [r7.length, ← r2.length]; exact hl
      let St2 : Nat → Hp → Prop := fun j H2 => j ≤ it1.seq.length ∧ ∃ (F2 : Hp) (os : List (Option D)) (us : List V), Same F6 F2 ∧ All2 P1 (it1.seq.take j) os ∧ Cc (kt X W) (mup M1 Dd (.lst (rs.flatten ++ os.filterMap id))) F2 H2 ∧ H2 Dd = some (.lst us) ∧ us.length ≤ i * B + j ∧ Rps (kt X W) F2 us (rs.flatten ++ os.filterMap id)
      refine ⟨fun j m H2 => m = it1.seq.length - j ∧ St2 j H2, ⟨_, rfl, Nat.zero_le _, F6, [], us7, Same.refl _, .nil, by simpa using c6, e7, hus, by simpa using r7⟩, ?_⟩
      rintro j m H8 ⟨rfl, hj, F8, os, us8, s8, ho, c8, e8, hl8, r8⟩
      obtain ⟨k1, k2⟩ := rj1 F8 H8 _ j s8 c8 (ok1 _ (ext _))
      by_cases hlt1 : j < it1.seq.length
      · have hget1 : it1.seq[j]? = some it1.seq[j] := List.getElem?_eq_getElem hlt1
        have ht1 : it1.seq.take (j + 1) = it1.seq.take j ++ [it1.seq[j]] := by rw [List.take_add_one, hget1]; rfl
        obtain ⟨go1, yl1⟩ := k1 _ hget1
        refine .inr ⟨go1, St2 (j + 1), fun H4 qq => ⟨_, by omega, rfl, qq⟩, fun x1 H1' y1 => ?_⟩
        obtain ⟨F9, s9, c9, r9⟩ := yl1 x1 H1' y1
        have s49 := ((s5.trans s6).trans s8).trans s9
        refine ⟨_, dwipe Γ4 vs1, _, F9, _, c9, (g4.mono s49).wipe vs1, r9, body1 _ (List.getElem_mem hlt1) _ (ext _), fun Fa Ha σa Γa Ma sa ca ga wa qa => ⟨?_, ?_⟩⟩
        · rw [wa vs1 rfl, wipe_idem]
        refine ⟨Γa, Ma, Fa, noE, _, ⟨ca, ga, nE⟩, qa, fun Fb Hb b Mb sb cb qb => ?_⟩
        have s6b := ((s8.trans s9).trans sa).trans sb
        cases b with
        | false =>
          rw [if_neg Bool.false_ne_true] at qb
          refine iteF ?_
          obtain ⟨eb, pb⟩ := qb
          subst eb
          obtain ⟨fb, ob, ec, usb, ed, rb⟩ := cb.ow Dd _ mup_same
          subst ed
          refine ⟨hlt1, Fb, os ++ [none], usb, s6b, by rw [ht1]; exact ho.snoc pb, ?_, ec, by rw [rb.length, ← r8.length]; omega, ?_⟩
          · rw [List.filterMap_append]
            simpa using cb
          · rw [List.filterMap_append]
            simpa using rb
        | true =>
          rw [if_pos rfl] at qb
          refine iteT ?_
          refine ⟨Γa, Mb, Fb, noE, _, ⟨cb, ga.mono sb, nE⟩, qb, fun Fc Hc v d Mc sc cc rc ⟨ec, pc⟩ => ?_⟩
          subst ec
          obtain ⟨fd, od, ed, usd, ee, rd⟩ := cc.ow Dd _ mup_same
          subst ee
          have husd : usd.length ≤ i * B + j := by rw [rd.length, ← r8.length]; exact hl8
          refine ⟨usd, ed, by omega, hlt1, Fc, os ++ [some d], usd ++ [v], s6b.trans sc, by rw [ht1]; exact ho.snoc pc, ?_, upd_same, by rw [List.length_append, List.length_singleton]; omega, ?_⟩
          · have c10 := cc.write (p := Dd) (x := .lst (rs.flatten ++ os.filterMap id ++ [d])) (o := .lst (usd ++ [v])) mup_same ⟨_, rfl, rd.append (.cons rc .nil)⟩
            rw [mup_mup] at c10
            rw [List.filterMap_append]
            simpa [List.append_assoc] using c10
          · rw [List.filterMap_append]
            simpa [List.append_assoc] using rd.append (.cons rc .nil)
      · have ej : j = it1.seq.length := by omega
        refine .inl ⟨k2 (by omega), ?_⟩
        rw [ej, List.take_length] at ho
        have hfl : (rs ++ [os.filterMap id]).flatten = rs.flatten ++ os.filterMap id := by simp
        refine ⟨hlt, F8, rs ++ [os.filterMap id], us8, (s15.trans s6).trans s8, by rw [ht]; exact hr.snoc (fin1 os ho), by rw [hfl]; exact c8, e8, ?_, by rw [hfl]; exact r8⟩
        rw [Nat.succ_mul]
        omega
  · have e : i = it.seq.length := by omega
    refine .inl ⟨j2 (by omega), ?_⟩
    rw [e, List.take_length] at hr
    exact k F2 H2 _ _ _ (s1.trans s2) c2 (.ref Dd) (q0 rs hr Dd m1)
/-- the rule -/
theorem de_lc2O {elt tg iter tg1 iter1 : Expr} {ifs ifs1 : List Expr} {scope : Scope} {own : List (Str × Nat)} (vs1 : List Nat) {pos : Pos} {ti ti1 : DTI} {g g1 : DTG} {tt tt1 : DTT} {te : DTE} (hc : X.calm = true) (hN : X.N.Nodup) (hi : DI X W tg iter ti) (ok : BlkOk X.N X.env.scope scope own)
    (hg : ∀ (s : Shared) (H : Hp) (C : Addr) (cl : List (Str × Addr)) (fp : List Addr), DGt (X.blk s H scope (compEnvC scope cl C X.env) fp) W.T (some (own.map (·.2))) tg g)
    (ht : ∀ (s : Shared) (H : Hp) (C : Addr) (cl : List (Str × Addr)) (fp : List Addr), DTs (X.blk s H scope (compEnvC scope cl C X.env) fp) (noT W.T) ifs tt)
    (hi1 : ∀ (s : Shared) (H : Hp) (C : Addr) (cl : List (Str × Addr)) (fp : List Addr), DI (X.blk s H scope (compEnvC scope cl C X.env) fp) (noT W.T) tg1 iter1 ti1)
    (hg1 : ∀ (s : Shared) (H : Hp) (C : Addr) (cl : List (Str × Addr)) (fp : List Addr), DGt (X.blk s H scope (compEnvC scope cl C X.env) fp) W.T (some vs1) tg1 g1)
    (ht1 : ∀ (s : Shared) (H : Hp) (C : Addr) (cl : List (Str × Addr)) (fp : List Addr), DTs (X.blk s H scope (compEnvC scope cl C X.env) fp) (noT W.T) ifs1 tt1)
    (he : ∀ (s : Shared) (H : Hp) (C : Addr) (cl : List (Str × Addr)) (fp : List Addr), DE (X.blk s H scope (compEnvC scope cl C X.env) fp) (noT W.T) elt te)
    (hv : ∀ i ∈ vs1, i ∈ own.map (·.2) := by decide) (hs : ∀ x, foldedSetIterable iter X.env x = pure x := by intro _; rfl) (hs1 : ∀ env x, foldedSetIterable iter1 env x = pure x := by intro _ _; rfl) :
    DE X W (.ListComp elt [⟨tg, iter, ifs, 0⟩, ⟨tg1, iter1, ifs1, 0⟩] scope pos) (dLc2O ti g tt ti1 g1 tt1 te (own.map (·.2)) vs1) :=
  ⟨peW (pe_lc2 hc hN hi.pi ok hv (fun s H C cl fp => (hg s H C cl fp).pg) (fun s H C cl fp => (ht s H C cl fp).pt) (fun s H C cl fp => (hi1 s H C cl fp).pi) (fun s H C cl fp => (hg1 s H C cl fp).pg) (fun s H C cl fp => (ht1 s H C cl fp).pt) (fun s H C cl fp => (he s H C cl fp).pe) hs hs1) fun _ _ _ h => upLc2O h⟩
end
end DL
namespace DL
open PySem L2
/-- the name of a datum's type -/
def tyD (M : Mp) : D → Option String
  | .non => some "NoneType"
  | .bl _ => some "bool"
  | .int _ => some "int"
  | .str _ => some "str"
  | .tup _ => some "tuple"
  | .lst _ => some "list"
  | .scr _ => some "list"
  | .ref p => match M p with
    | some (.lst _) => some "list"
    | _ => none
  | _ => none
theorem tyL {K : PySem.W.Frag} {H : Hp} {a : Addr} {xs : List V} (h : SqL K H a xs) : TyX K H (.ref a) (.type "list") := by
  rcases h with (h | ⟨ob, h⟩) | ⟨o, its, n, h1, h2, _⟩
  · exact .base (.lst h)
  · exact .base (.frz h)
  · exact .kList h1 h2
theorem tyT {K : PySem.W.Frag} {H : Hp} {a : Addr} {xs : List V} (h : SqT K H a xs) : TyX K H (.ref a) (.type "tuple") := by
  rcases h with (h | ⟨ob, h⟩) | ⟨o, its, n, h1, h2, _⟩
  · exact .base (.tup h)
  · exact .fTuple h
  · exact .kTuple h1 h2
theorem ty_of {K : KTb} {M : Mp} {F H : Hp} {v : V} {d : D} {n : String} (c : Cc K M F H) (r : Rp K F v d) (h : tyD M d = some n) : TyX K.K H v (.type n) := by
  have lst : ∀ xs, sqD M d = some xs → n = "list" → TyX K.K H v (.type n) := fun xs e en => by
    obtain ⟨a, vs, rfl, h1, _⟩ := sq_of c r e
    rw [en]
    exact tyL h1
  cases d with
  | non => cases h; cases r; exact .base .non
  | bl b => cases h; cases r; exact .base (.bl b)
  | int i => cases h; cases r; exact .base (.int i)
  | str x => cases h; cases r; exact .base (.str x)
  | tup xs =>
    cases h
    obtain ⟨a, vs, rfl, h1, _⟩ := tp_of c r
    exact tyT h1
  | lst xs => cases h; exact lst xs rfl rfl
  | scr ns => cases h; exact lst _ rfl rfl
  | ref p =>
    have h : (match M p with | some (.lst _) => some "list" | _ => none) = some n := h
    split at h
    · rename_i xs e
      cases h
      exact lst xs (sqD_ref e) rfl
    · cases h
  | dic _ => cases h
  | dit _ => cases h
  | obj _ _ => cases h
  | any _ _ => cases h
def isa (a b : String) : Bool := a == b || (a == "bool" && b == "int")
def tys : List String := ["NoneType", "bool", "int", "str", "tuple", "list"]
def tcs : List String := ["bool", "int", "str", "tuple", "list"]
theorem ty_in {M : Mp} {d : D} {n : String} (h : tyD M d = some n) : n ∈ tys := by
  unfold tyD at h
  repeat' split at h
  all_goals first
    | (cases h; done)
    | (cases h; decide)
theorem isa_ok : ∀ a ∈ tys, ∀ b ∈ tcs, kitB a b = some (isa a b) := by decide +kernel
section
variable {X : Cx} {W : WT} {e : Expr}
theorem pe_ty {n : String} {x : Str} {pos : Pos} (hm : X.mg x = none) (hv : bootBuiltins x = some (.type n)) (hg : Gl X x := by rfl) (hn : x ≠ "__name__" := by decide) (hdb : (x == ("__debug__" : Str)) = false := by decide) : PE X (.Name x pos) (tC (.ty n)) :=
  ⟨fun pins s σ H Q I h => ld_blt I hg hm hv ⟨.ty n, H, I, rfl, h⟩ hn hdb⟩
def dIsi (te : DTE) (c : String) : DTE := fun Γ M Q E => te Γ M (fun d M1 => ∃ n, tyD M1 d = some n ∧ Q (.bl (isa n c)) M1) E
theorem de_isi {te : DTE} {c : String} {x y : Str} {p p2 pos : Pos} (he : DE X W e te) (hm : X.mg x = none) (hx : bootBuiltins x = some (.builtin "isinstance")) (hmy : X.mg y = none) (hy : bootBuiltins y = some (.type c)) (hc : c ∈ tcs := by decide) (hg : Gl X x := by rfl) (hgy : Gl X y := by rfl) (hn : x ≠ "__name__" := by decide) (hdb : (x == ("__debug__" : Str)) = false := by decide)
    (hny : y ≠ "__name__" := by decide) (hdby : (y == ("__debug__" : Str)) = false := by decide) (hs : starEach [e, .Name y p2] X.env = (false, eval e X.env) :: starEach [.Name y p2] X.env := by rfl) (hs2 : starEach [.Name y p2] X.env = (false, eval (.Name y p2) X.env) :: starEach [] X.env := by rfl) (hpl : (backTo pos (starEach [.Name y p2] X.env)).any (·.1) = false := by rfl) :
    DE X W (.Call (.Name x p) [e, .Name y p2] [] pos) (dIsi te c) :=
  ⟨peW (pe_callB call_isi hg hm hx (pa_cons he.pe (pa_cons (pe_ty hmy hy hgy hny hdby) pa_nil hs2) hs) hn hdb hs hpl) fun σ H Q ⟨Γ, M, F, E, Qd, a, q, k⟩ => ⟨Γ, M, F, E, _, a, q, fun F1 H1 v d M1 s1 c1 r1 ⟨n, e1, q1⟩ =>
    ⟨v, .ty c, .type n, .type c, isa n c, rfl, .ty c, ty_of c1 r1 e1, kit_ty (isa_ok n (ty_in e1) c hc), k F1 H1 _ _ M1 s1 c1 (.bl _) q1⟩⟩⟩
def dIsi2 (te : DTE) (c c' : String) : DTE := fun Γ M Q E => te Γ M (fun d M1 => ∃ n, tyD M1 d = some n ∧ Q (.bl (isa n c || isa n c')) M1) E
theorem de_isi2 {te : DTE} {c c' : String} {x y z : Str} {k1 : Nat} {p p2 p3 pt pos : Pos} (he : DE X W e te) (hm : X.mg x = none) (hx : bootBuiltins x = some (.builtin "isinstance")) (hmy : X.mg y = none) (hy : bootBuiltins y = some (.type c)) (hmz : X.mg z = none) (hz : bootBuiltins z = some (.type c')) (hc : c ∈ tcs := by decide) (hc' : c' ∈ tcs := by decide) (hg : Gl X x := by rfl) (hgy : Gl X y := by rfl) (hgz : Gl X z := by rfl) (hn : x ≠ "__name__" := by decide) (hdb : (x == ("__debug__" : Str)) = false := by decide)
    (hny : y ≠ "__name__" := by decide) (hdby : (y == ("__debug__" : Str)) = false := by decide) (hnz : z ≠ "__name__" := by decide) (hdbz : (z == ("__debug__" : Str)) = false := by decide)
    (hs : starEach [e, .Tuple [.Name y p2, .Name z p3] k1 pt] X.env = (false, eval e X.env) :: starEach [.Tuple [.Name y p2, .Name z p3] k1 pt] X.env := by rfl) (hs2 : starEach [.Tuple [.Name y p2, .Name z p3] k1 pt] X.env = (false, eval (.Tuple [.Name y p2, .Name z p3] k1 pt) X.env) :: starEach [] X.env := by rfl) (hpl : (backTo pos (starEach [.Tuple [.Name y p2, .Name z p3] k1 pt] X.env)).any (·.1) = false := by rfl)
    (hs3 : starEach [.Name y p2, .Name z p3] X.env = (false, eval (.Name y p2) X.env) :: starEach [.Name z p3] X.env := by rfl) (hs4 : starEach [.Name z p3] X.env = (false, eval (.Name z p3) X.env) :: starEach [] X.env := by rfl) :
    DE X W (.Call (.Name x p) [e, .Tuple [.Name y p2, .Name z p3] k1 pt] [] pos) (dIsi2 te c c') :=
  ⟨peW (pe_callB call_isiT hg hm hx (pa_cons he.pe (pa_cons (pe_tup (pa_cons (pe_ty hmy hy hgy hny hdby) (pa_cons (pe_ty hmz hz hgz hnz hdbz) pa_nil hs4) hs3)) pa_nil hs2) hs) hn hdb hs hpl) fun σ H Q ⟨Γ, M, F, E, Qd, a, q, k⟩ => ⟨Γ, M, F, E, _, a, q, fun F1 H1 v d M1 s1 c1 r1 ⟨n, e1, q1⟩ =>
    ⟨show 2 ≤ sizeLine from szOf (by decide), fun tp hp => ⟨v, tp, [.ty c, .ty c'], .type n, [.type c, .type c'], isa n c || isa n c', rfl, upd_same, .cons (.ty c) (.cons (.ty c') .nil), ty_of (c1.same (Same.upd hp)) r1 e1, by
      have h1 := isa_ok n (ty_in e1) c hc
      have h2 := isa_ok n (ty_in e1) c' hc'
      refine kitAny_cons (kit_ty h1) (fun hb => ?_) fun hb => by rw [hb]; rfl
      rw [hb, Bool.false_or]
      exact kitAny_cons (kit_ty h2) (fun hb => by rw [hb]; exact kitAny_nil) fun hb => hb, k F1 _ _ _ M1 s1 (c1.same (Same.upd hp)) (.bl _) q1⟩⟩⟩⟩
end
theorem tyI {M : Mp} {i : Int} : tyD M (.int i) = some "int" := rfl
theorem tyB {M : Mp} {b : Bool} : tyD M (.bl b) = some "bool" := rfl
theorem tyN {M : Mp} : tyD M .non = some "NoneType" := rfl
theorem tyTu {M : Mp} {xs : List D} : tyD M (.tup xs) = some "tuple" := rfl
theorem tyLs {M : Mp} {xs : List D} : tyD M (.lst xs) = some "list" := rfl
end DL
namespace DL
open PySem L2
theorem lookup_rel {env : Env} : ∀ {names : List (Str × NameKind)} {x : Str}, (names.lookup x = some .cell ∨ names.lookup x = some .free) →
    ((names.map fun (n, k) => if (k == NameKind.free && env.scope.kind == .function && env.kindOf n == some .cell) then (n, NameKind.cell) else (n, k)).lookup x = some .cell ∨
    (names.map fun (n, k) => if (k == NameKind.free && env.scope.kind == .function && env.kindOf n == some .cell) then (n, NameKind.cell) else (n, k)).lookup x = some .free)
  | [], x, h => by rcases h with h | h <;> cases h
  | (n, k) :: r, x, h => by
    have ih := @lookup_rel env r x
    simp only [List.map_cons]
    by_cases hx : x == n
    · simp only [List.lookup, hx] at h
      by_cases c : (k == NameKind.free && env.scope.kind == .function && env.kindOf n == some .cell) = true
      · simp only [c, if_true, List.lookup, hx]
        exact .inl trivial
      · simp only [c, if_false, List.lookup, hx, Bool.false_eq_true]
        exact h
    · have hx' : (x == n) = false := by simpa using hx
      simp only [List.lookup, hx'] at h
      by_cases c : (k == NameKind.free && env.scope.kind == .function && env.kindOf n == some .cell) = true
      · simp only [c, if_true, List.lookup, hx']
        exact ih h
      · simp only [c, if_false, List.lookup, hx', Bool.false_eq_true]
        exact ih h
theorem blkOk_rel {N : List Str} {sc scope : Scope} {own : List (Str × Nat)} {env : Env} (h : blkC N sc scope own = true) : BlkOk N (relabel sc env) scope own := by
  have b := blkOk_by h
  exact ⟨b.kind, b.uniq, b.ix, fun y hy e => lookup_rel (b.free y hy e), b.own⟩
theorem rgV_eq (a b : Int) : ∀ F (K : KTb), Rps K F (rgV a b) (rngD a 1 (b - a).toNat) := fun F K => by
  have : ∀ l : List Nat, Rps K F (l.map fun i => V.int (a + (i : Nat))) (l.map fun k => D.int (a + (k : Nat) * 1)) := by
    intro l
    induction l with
    | nil => exact .nil
    | cons x l ih =>
      refine .cons ?_ ih
      show Rp K F (V.int (a + (x : Nat))) (D.int (a + (x : Nat) * 1))
      rw [Int.mul_one]
      exact .int _
  exact this _
section
variable {X : Cx} {W : WT} {a b : Expr}
def dListRg (ta tb : DTE) : DTE := fun Γ M Q E => ta Γ M (fun x M1 => ∃ i : Int, x = .int i ∧ tb Γ M1 (fun y M2 => ∃ j : Int, y = .int j ∧ RgOk i j ∧ ∀ p, M2 p = none → Q (.ref p) (mup M2 p (.lst (rngD i 1 (j - i).toNat)))) E) E
end
end DL
namespace DL
open PySem L2
theorem neSpU {a b c d : Int} {M : Mp} {Q : DQ} : rdNe (.tup [.int a, .int b]) (.tup [.int c, .int d]) M Q = Q (.bl (!decide ((a, b) = (c, d)))) M := neSp (s := (a, b)) (t := (c, d))
theorem eqSpU {a b c d : Int} {M : Mp} {Q : DQ} : rdEq (.tup [.int a, .int b]) (.tup [.int c, .int d]) M Q = Q (.bl (decide ((a, b) = (c, d)))) M := eqSp (s := (a, b)) (t := (c, d))
theorem neMkU {a b e c d f : Int} {M : Mp} {Q : DQ} : rdNe (.tup [.int a, .int b, .int e]) (.tup [.int c, .int d, .int f]) M Q = Q (.bl (!decide ((a, b, e) = (c, d, f)))) M := neMk (s := (a, b, e)) (t := (c, d, f))
theorem eqMkU {a b e c d f : Int} {M : Mp} {Q : DQ} : rdEq (.tup [.int a, .int b, .int e]) (.tup [.int c, .int d, .int f]) M Q = Q (.bl (decide ((a, b, e) = (c, d, f)))) M := eqMk (s := (a, b, e)) (t := (c, d, f))
theorem deq_bl {a b : Bool} : deq (.bl a) (.bl b) = decide (a = b) := by cases a <;> cases b <;> rfl
theorem eqB {a b : Bool} {M : Mp} {Q : DQ} : rdEq (.bl a) (.bl b) M Q = Q (.bl (decide (a = b))) M := by
  unfold rdEq
  show (shD (.bl a) = true ∧ shD (.bl b) = true ∧ Q (.bl (deq (.bl a) (.bl b))) M) = _
  rw [sh_of (lay_bl 0 a), sh_of (lay_bl 0 b), deq_bl]
  simp
theorem neB {a b : Bool} {M : Mp} {Q : DQ} : rdNe (.bl a) (.bl b) M Q = Q (.bl (!decide (a = b))) M := by
  unfold rdNe
  show (shD (.bl a) = true ∧ shD (.bl b) = true ∧ Q (.bl (!deq (.bl a) (.bl b))) M) = _
  rw [sh_of (lay_bl 0 a), sh_of (lay_bl 0 b), deq_bl]
  simp
theorem isN_bl {M : Mp} {Q : DQ} {b c : Bool} : rdIsN b (.bl c) .non M Q = Q (.bl b) M := by cases b <;> simp [rdIsN]
theorem isN_lst {M : Mp} {Q : DQ} {b : Bool} {xs : List D} : rdIsN b (.lst xs) .non M Q = Q (.bl b) M := by cases b <;> simp [rdIsN]
theorem isN_ref {M : Mp} {Q : DQ} {b : Bool} {p : Addr} : rdIsN b (.ref p) .non M Q = Q (.bl b) M := by cases b <;> simp [rdIsN]
theorem isaBB : isa "bool" "bool" = true := by decide
theorem isaBL : isa "bool" "list" = false := by decide
theorem isaBT : isa "bool" "tuple" = false := by decide
theorem isaBI : isa "bool" "int" = true := by decide
theorem isaBS : isa "bool" "str" = false := by decide
theorem L2in_F {α : Type} {F : α → D} {xs : List α} {ok : Mp → Prop} {g : DTG} {tt : DTT} {te : DTE} {vs : List Nat} {Γ : DG} {M : Mp} {R : List D → Prop} (inj : ∀ a b, F a = F b → a = b) (H : α → Option D) (hok : ∀ M', Ext M M' → ok M')
    (body : ∀ x, x ∈ xs → ∀ M', Ext M M' → LB g tt te (dwipe Γ vs) M' (F x) (fun o => o = H x)) (q : R (xs.filterMap H)) : L2in g tt te vs Γ M ⟨xs.map F, ok⟩ R := by
  obtain ⟨P, ⟨h1, h2⟩, h3⟩ := bodyR inj hok body
  exact ⟨h1, P, h2, fun os h => by rw [all2_fn (h3 os h)]; exact q⟩
theorem injI : ∀ a b : Int, D.int a = D.int b → a = b := fun a b h => by cases h; rfl
end DL
namespace DL
open PySem L2
theorem zip_map {α β : Type} {f : α → D} {g : β → D} (as : List α) (bs : List β) : zipD (as.map f) (bs.map g) = (as.zip bs).map fun p => D.tup [f p.1, g p.2] := by
  induction as generalizing bs with
  | nil => rfl
  | cons a as ih =>
    cases bs with
    | nil => rfl
    | cons b bs =>
      show D.tup [f a, g b] :: zipD (as.map f) (bs.map g) = _
      rw [ih]
      rfl
theorem zpL {M : Mp} {xs ys : List D} : zpD M (.lst xs) (.lst ys) = some (xs, ys) := rfl
theorem lenT {xs : List D} {M : Mp} {Q : DQ} : rdLen [.tup xs] M Q = Q (.int (xs.length : Nat)) M := by
  unfold rdLen
  refine propext ⟨fun ⟨d', r', e, e2, h⟩ => ?_, fun h => ⟨_, _, rfl, rfl, h⟩⟩
  cases e
  cases e2
  exact h
theorem isaTL : isa "tuple" "list" = false := by decide
theorem isaTT : isa "tuple" "tuple" = true := by decide
theorem isaLL : isa "list" "list" = true := by decide
theorem isaLT : isa "list" "tuple" = false := by decide
theorem isaIB : isa "int" "bool" = false := by decide
theorem isaII : isa "int" "int" = true := by decide
theorem isaIS : isa "int" "str" = false := by decide
theorem isaIL : isa "int" "list" = false := by decide
theorem isaIT : isa "int" "tuple" = false := by decide
end DL
namespace DL
open PySem L2
section
variable {X : Cx} {W : WT} {e : Expr}
/-- xs[::-1], a list: frozen -/
def dRev (te : DTE) : DTE := fun Γ M Q E => te Γ M (fun d M1 => ∃ xs, sqD M1 d = some xs ∧ Q (.lst xs.reverse) M1) E
end
end DL
namespace DL
open PySem PySem.Spec PyProof.Rows L2 LamX NdefX
/-- the object at f is the lambda of the words G and the body be -/
def LmO (f : Addr) (G : NF) (be : Expr) : HO := .ext fun h => ∃ pm ctv, h.get? f = some (PySem.W.kla_obj G.name G.qual G.params be G.scope G.cl pm G.c ctv)
/-- what captured cells held at the frame's begin they hold still -/
theorem cells_later {X : Cx} {pins : List (Addr × Obj)} {σ : L2.St} {H : Hp} {s : Shared} {cl : List (Str × Addr)} {fr : List Str} {ws : List (Option V)} (C : CellsAt cl fr ws X.s_0.heap X.H_0) (hx : X.ex = []) (J : Inv X pins σ H s) : CellsAt cl fr ws s.heap H := by
  have nx : ∀ b : Addr, b ∉ X.ex := fun b z => by rw [hx] at z; cases z
  have still : ∀ (c : Addr) (v : Option Value), X.H_0 c = none → X.s_0.heap.IsCell c v → s.heap.IsCell c v := fun c v n ⟨o, ho, hd⟩ => by
    obtain ⟨sl, q⟩ := J.base.any ho n (nx c)
    exact ⟨_, q, hd⟩
  refine ⟨C.len, fun y c e => ?_, C.inj, fun i y e => ?_⟩
  · obtain ⟨n, v, z⟩ := C.all y c e
    refine ⟨?_, v, still c v n z⟩
    obtain ⟨o, ho, _⟩ := z
    exact J.base.free c o ho n (nx c)
  · obtain ⟨c, hc, hv⟩ := C.has i y e
    refine ⟨c, hc, fun v ev => ?_⟩
    obtain ⟨u, r, z⟩ := hv v ev
    exact ⟨u, r, still c _ (C.all y c hc).1 z⟩
section
variable {P : Program} {w : World} {K : PySem.W.Frag} {mg : Str → Option Value} {base : Heap}
/-- the promise of a lambda, by data: wd what is known of the captured names -/
structure LmK (P : Program) (w : World) (K : PySem.W.Frag) (mg : Str → Option Value) (base : Heap) (T : List (Addr × Str)) (k : Nat) (G : NF) (be : Expr) (fr : List Str) (wd : DG) (sp : DSp) : Prop where
  run : ∀ (f : Addr) (A : Around) (outer : List Env) (s : Shared) (H : Hp) (us : List Value) (vs : List V) (ws : List (Option V)) (Q : VK) (E : XK) (ds : List D) (M : Mp) (F : Hp) (Qd : DQ) (Ed : DXK), Room k A → Env0 P w K mg base A outer s H → H f = some (LmO f G be) → H G.c = some (CodeO G.c G.qual) → CellsAt G.cl fr ws s.heap H → Vals vs us →
    Cc ⟨K, T⟩ M F H → Rps ⟨K, T⟩ F vs ds → RpG ⟨K, T⟩ F ws wd → sp ds M Qd Ed → CoQ ⟨K, T⟩ F Qd Q → CoX ⟨K, T⟩ F Ed E → codeAny (model P w) A (.call (.ref f) ⟨us, []⟩) (CR (L2.CX P w) outer P w H s Q E) s
/-- the slots at a lambda's begin -/
def startL (N : List Str) (ds : List D) (wd : DG) : DG := ds.map some ++ (wd ++ List.replicate (N.length - ds.length - wd.length) none)
/-- a lambda's promise is its body's reading -/
def spLm (N : List Str) (n : Nat) (wd : DG) (t : DTE) : DSp := fun ds M Q E => ds.length = n ∧ t (startL N ds wd) M Q (fun _ C fs M2 => E C fs M2)
end
end DL
namespace DL
open PySem L2
mutual
def sameD : D → D → Bool
  | .non, .non => true
  | .bl a, .bl b => decide (a = b)
  | .int a, .int b => decide (a = b)
  | .str a, .str b => decide (a = b)
  | .tup xs, .tup ys => samesD xs ys
  | .lst xs, .lst ys => samesD xs ys
  | _, _ => false
def samesD : List D → List D → Bool
  | [], [] => true
  | x :: xs, y :: ys => sameD x y && samesD xs ys
  | _, _ => false
end
def flatD : D → Prop
  | .non => True
  | .bl _ => True
  | .int _ => True
  | .str x => PyData.strOk x = true
  | _ => False
/-- data of depth n -/
def dep : Nat → D → Prop
  | 0, d => flatD d
  | n + 1, d => flatD d ∨ ∃ xs, (d = .tup xs ∨ d = .lst xs) ∧ xs.length ≤ 16000000 ∧ ∀ x ∈ xs, dep n x
theorem dep_flat {n : Nat} {d : D} (h : flatD d) : dep n d := by
  cases n with
  | zero => exact h
  | succ n => exact .inl h
theorem dep_lst {n : Nat} {α : Type} {f : α → D} {as : List α} (h : ∀ a ∈ as, dep n (f a)) (hl : as.length ≤ 16000000) : dep (n + 1) (.lst (as.map f)) := .inr ⟨_, .inr rfl, by rw [List.length_map]; exact hl, fun x hx => by
  obtain ⟨a, ha, rfl⟩ := List.mem_map.mp hx
  exact h a ha⟩
theorem dep_tup {n : Nat} {xs : List D} (h : ∀ a ∈ xs, dep n a) (hl : xs.length ≤ 16000000) : dep (n + 1) (.tup xs) := .inr ⟨_, .inl rfl, hl, h⟩
theorem dep_int {n : Nat} {i : Int} : dep n (.int i) := dep_flat trivial
theorem dep_str {n : Nat} {i : Str} (h : PyData.strOk i = true) : dep n (.str i) := dep_flat h
/-- the type's name of a resolved datum -/
def tyR : D → String
  | .non => "NoneType"
  | .bl _ => "bool"
  | .int _ => "int"
  | .str _ => "str"
  | .tup _ => "tuple"
  | _ => "list"
theorem sq_res {M : Mp} {d : D} {xs : List D} (h : res M d = .lst xs) : sqD M d = some xs := by
  cases e : sqD M d with
  | some ys =>
    rw [resSq e] at h
    cases h
    rfl
  | none =>
    have e2 : res M d = d := by unfold res; rw [e]
    rw [e2] at h
    subst h
    cases e
theorem nsq_res {M : Mp} {d : D} (h : ∀ xs, res M d ≠ .lst xs) : res M d = d := by
  cases e : sqD M d with
  | some ys => exact absurd (resSq e) (h ys)
  | none => unfold res; rw [e]
theorem tyRes {M : Mp} {d : D} {n : Nat} (h : dep n (res M d)) : tyD M d = some (tyR (res M d)) := by
  have go : (∃ xs, res M d = .lst xs) → tyD M d = some (tyR (res M d)) := fun ⟨xs, e⟩ => by
    rw [e]
    rcases sq_cases (sq_res e) with rfl | ⟨p, rfl, e2⟩ | ⟨ns, rfl, _⟩
    · rfl
    · simp [tyD, e2, tyR]
    · rfl
  by_cases hx : ∃ xs, res M d = .lst xs
  · exact go hx
  · have e := nsq_res fun xs z => hx ⟨xs, z⟩
    rw [e] at h ⊢
    have fl : flatD d → tyD M d = some (tyR d) := fun z => by cases d <;> first | rfl | exact z.elim
    cases n with
    | zero => exact fl h
    | succ n =>
      rcases h with h | ⟨xs, rfl | rfl, _⟩
      · exact fl h
      · rfl
      · rfl
theorem samesD_zip : ∀ {xs ys : List D}, xs.length = ys.length → ((xs.zip ys).map fun p => sameD p.1 p.2).all id = samesD xs ys
  | [], [], _ => by simp [samesD]
  | x :: xs, y :: ys, h => by
    have ih := samesD_zip (xs := xs) (ys := ys) (by simpa using h)
    simp only [List.zip_cons_cons, List.map_cons, List.all_cons, id, ih, samesD]
theorem samesD_len : ∀ {xs ys : List D}, samesD xs ys = true → xs.length = ys.length
  | [], [], _ => rfl
  | x :: xs, y :: ys, h => by
    simp only [samesD, Bool.and_eq_true] at h
    simp [samesD_len h.2]
  | [], y :: ys, h => by simp [samesD] at h
  | x :: xs, [], h => by simp [samesD] at h
mutual
theorem sameD_refl : ∀ (n : Nat) (d : D), dep n d → sameD d d = true
  | _, .non, _ => by simp [sameD]
  | _, .bl b, _ => by simp [sameD]
  | _, .int b, _ => by simp [sameD]
  | _, .str b, _ => by simp [sameD]
  | 0, .tup xs, h => h.elim
  | 0, .lst xs, h => h.elim
  | n + 1, .tup xs, h => by
    rcases h with h | ⟨ys, e, _, h⟩
    · exact h.elim
    · simp only [D.tup.injEq, reduceCtorEq, or_false] at e
      subst e
      simp only [sameD]
      exact samesD_refl n xs h
  | n + 1, .lst xs, h => by
    rcases h with h | ⟨ys, e, _, h⟩
    · exact h.elim
    · simp only [D.lst.injEq, reduceCtorEq, false_or] at e
      subst e
      simp only [sameD]
      exact samesD_refl n xs h
  | n, .ref _, h => by cases n with | zero => exact h.elim | succ n => rcases h with h | ⟨_, e | e, _⟩ <;> first | exact h.elim | cases e
  | n, .dic _, h => by cases n with | zero => exact h.elim | succ n => rcases h with h | ⟨_, e | e, _⟩ <;> first | exact h.elim | cases e
  | n, .scr _, h => by cases n with | zero => exact h.elim | succ n => rcases h with h | ⟨_, e | e, _⟩ <;> first | exact h.elim | cases e
  | n, .obj _ _, h => by cases n with | zero => exact h.elim | succ n => rcases h with h | ⟨_, e | e, _⟩ <;> first | exact h.elim | cases e
  | n, .dit _, h => by cases n with | zero => exact h.elim | succ n => rcases h with h | ⟨_, e | e, _⟩ <;> first | exact h.elim | cases e
  | n, .any _ _, h => by cases n with | zero => exact h.elim | succ n => rcases h with h | ⟨_, e | e, _⟩ <;> first | exact h.elim | cases e
theorem samesD_refl : ∀ (n : Nat) (xs : List D), (∀ x ∈ xs, dep n x) → samesD xs xs = true
  | _, [], _ => by simp [samesD]
  | n, x :: xs, h => by
    simp only [samesD, Bool.and_eq_true]
    exact ⟨sameD_refl n x (h x List.mem_cons_self), samesD_refl n xs fun y hy => h y (List.mem_cons_of_mem _ hy)⟩
end
theorem lenDr {M : Mp} {d : D} {xs : List D} (h : res M d = .lst xs ∨ (d = .tup xs)) {Q : DQ} : rdLen [d] M Q = Q (.int (xs.length : Nat)) M := by
  rcases h with h | rfl
  · exact lenSq (sq_res h)
  · exact lenT
theorem zipPr (xs ys : List D) : zipD xs ys = (xs.zip ys).map fun p => D.tup [p.1, p.2] := by
  have := zip_map (f := id) (g := id) xs ys
  simpa using this
theorem injPair : ∀ p q : D × D, D.tup [p.1, p.2] = D.tup [q.1, q.2] → p = q := fun p q h => by
  simp only [D.tup.injEq, List.cons.injEq, and_true] at h
  exact Prod.ext h.1 h.2
theorem lay_str {n : Nat} {x : Str} (h : PyData.strOk x = true) : lay n (.str x) := ⟨by simp only [D.py, PyData.canLay0]; exact h, by simp [D.py, PyData.depth]⟩
theorem sh_flat {x : D} (h : flatD x) : shD x = true := by
  cases x with
  | non => exact sh_of (lay_non 0)
  | bl b => exact sh_of (lay_bl 0 b)
  | int i => exact sh_of (lay_int 0 i)
  | str s => exact sh_of (lay_str (n := 0) h)
  | _ => exact h.elim
end DL
namespace DL
open PySem L2
theorem isa_No_bo : isa "NoneType" "bool" = false := by decide
theorem isa_No_in : isa "NoneType" "int" = false := by decide
theorem isa_No_st : isa "NoneType" "str" = false := by decide
theorem isa_No_tu : isa "NoneType" "tuple" = false := by decide
theorem isa_No_li : isa "NoneType" "list" = false := by decide
theorem isa_bo_bo : isa "bool" "bool" = true := by decide
theorem isa_bo_in : isa "bool" "int" = true := by decide
theorem isa_bo_st : isa "bool" "str" = false := by decide
theorem isa_bo_tu : isa "bool" "tuple" = false := by decide
theorem isa_bo_li : isa "bool" "list" = false := by decide
theorem isa_in_bo : isa "int" "bool" = false := by decide
theorem isa_in_in : isa "int" "int" = true := by decide
theorem isa_in_st : isa "int" "str" = false := by decide
theorem isa_in_tu : isa "int" "tuple" = false := by decide
theorem isa_in_li : isa "int" "list" = false := by decide
theorem isa_st_bo : isa "str" "bool" = false := by decide
theorem isa_st_in : isa "str" "int" = false := by decide
theorem isa_st_st : isa "str" "str" = true := by decide
theorem isa_st_tu : isa "str" "tuple" = false := by decide
theorem isa_st_li : isa "str" "list" = false := by decide
theorem isa_tu_bo : isa "tuple" "bool" = false := by decide
theorem isa_tu_in : isa "tuple" "int" = false := by decide
theorem isa_tu_st : isa "tuple" "str" = false := by decide
theorem isa_tu_tu : isa "tuple" "tuple" = true := by decide
theorem isa_tu_li : isa "tuple" "list" = false := by decide
theorem isa_li_bo : isa "list" "bool" = false := by decide
theorem isa_li_in : isa "list" "int" = false := by decide
theorem isa_li_st : isa "list" "str" = false := by decide
theorem isa_li_tu : isa "list" "tuple" = false := by decide
theorem isa_li_li : isa "list" "list" = true := by decide
theorem tyStr {M : Mp} {x : Str} : tyD M (.str x) = some "str" := rfl
theorem isN_str {M : Mp} {Q : DQ} {b : Bool} {i : Str} : rdIsN b (.str i) .non M Q = Q (.bl b) M := by cases b <;> simp [rdIsN]
theorem eqSq {x y : D} {M : Mp} {Q : DQ} {b : Bool} (h1 : shD (res M x) = true) (h2 : shD (res M y) = true) (e : deq (res M x) (res M y) = b) (q : Q (.bl b) M) : rdEq x y M Q := ⟨h1, h2, by rw [e]; exact q⟩
theorem neSq {x y : D} {M : Mp} {Q : DQ} {b : Bool} (h1 : shD (res M x) = true) (h2 : shD (res M y) = true) (e : deq (res M x) (res M y) = !b) (q : Q (.bl b) M) : rdNe x y M Q := ⟨h1, h2, by rw [e, Bool.not_not]; exact q⟩
theorem nSq_flat {x : D} (h : flatD x) : ∀ M, res M x = x := fun M => nsq_res fun xs z => by
  have e : sqD M x = none := by cases x <;> first | exact h.elim | rfl
  have : res M x = x := by unfold res; rw [e]
  rw [this] at z
  subst z
  exact h
theorem zpRes {M : Mp} {d e : D} {xs ys : List D} (h1 : res M d = .lst xs) (h2 : res M e = .lst ys) : zpD M d e = some (xs, ys) := by
  have e1 := sq_res h1
  have e2 := sq_res h2
  unfold zpD
  split
  · cases e1
  · rw [e1, e2]
    rfl
/-- the loop of all(..) over the pairs -/
theorem dep_mem {n : Nat} {xs : List D} (h : dep (n + 1) (.lst xs) ∨ dep (n + 1) (.tup xs)) : xs.length ≤ 16000000 ∧ ∀ x ∈ xs, dep n x := by
  rcases h with (h | ⟨ys, e, hl, h⟩) | (h | ⟨ys, e, hl, h⟩)
  · exact h.elim
  · rcases e with e | e
    · cases e
    · cases e; exact ⟨hl, h⟩
  · exact h.elim
  · rcases e with e | e
    · cases e; exact ⟨hl, h⟩
    · cases e
theorem res_dep {n : Nat} {x : D} (h : dep n x) : ∀ M, res M x = x := fun M => by
  cases n with
  | zero => exact nSq_flat h M
  | succ n =>
    rcases h with h | ⟨xs, rfl | rfl, _⟩
    · exact nSq_flat h M
    · rfl
    · rfl
theorem dep_kinds {n : Nat} {x : D} (h : dep n x) : flatD x ∨ (∃ xs, x = .tup xs) ∨ ∃ xs, x = .lst xs := by
  cases n with
  | zero => exact .inl h
  | succ n =>
    rcases h with h | ⟨xs, rfl | rfl, _⟩
    · exact .inl h
    · exact .inr (.inl ⟨xs, rfl⟩)
    · exact .inr (.inr ⟨xs, rfl⟩)
theorem deq_str {i j : Str} : deq (.str i) (.str j) = decide (i = j) := by
  simp only [deq, D.py, PyData.eqv]
  by_cases h : i = j
  · subst h; simp
  · rw [decide_eq_false h]
    simpa using h
theorem isN_sq {d : D} {xs : List D} {b : Bool} {M : Mp} {Q : DQ} (h : res M d = .lst xs) : rdIsN b d .non M Q = Q (.bl b) M := by
  rcases sq_cases (sq_res h) with rfl | ⟨p, rfl, _⟩ | ⟨ns, rfl, _⟩
  · exact isN_lst
  · exact isN_ref
  · cases b <;> simp [rdIsN]
end DL
namespace DL
open PySem L2
section
variable {X : Cx} {W : WT}
/-- xs.insert(i, y) -/
def dInsert (tx ti te : DTE) : DTE := fun Γ M Q E => tx Γ M (fun d M1 => (∃ xs, sqX M1 d = some xs) ∧ ti Γ M1 (fun i M2 => te Γ M2 (fun y M3 => ∃ p xs k, d = .ref p ∧ i = .int k ∧ M3 p = some (.lst xs) ∧ xs.length < sizeLine ∧ 0 ≤ k ∧ k < 2 ^ 63 ∧ Q .non (mup M3 p (.lst (xs.take k.toNat ++ [y] ++ xs.drop k.toNat)))) E) E) E
theorem de_insert {xs i y : Expr} {apos cpos : Pos} {tx ti te : DTE} (hx : DE X W xs tx) (hi : DE X W i ti) (hy : DE X W y te)
    (hb : attributeBase xs "insert" X.env (eval xs X.env) = eval xs X.env := by rfl)
    (hf : ((backTo cpos (starEach [i, y] X.env)).all (fun z => !z.1) && (backToKw cpos (keywordEach [] X.env)).all (fun z => z.1.isSome) && decide (([i, y] : List Expr).length + ([] : List Keyword).length + (if ([] : List Keyword).isEmpty then 0 else 1) < 30)) = true := by rfl)
    (hl : (apos.endLine == cpos.line) = true := by rfl) (hs : starEach [i, y] X.env = (false, eval i X.env) :: starEach [y] X.env := by rfl) (hs2 : starEach [y] X.env = (false, eval y X.env) :: starEach [] X.env := by rfl) (hp : (backTo cpos (starEach [y] X.env)).any (·.1) = false := by rfl) :
    DE X W (.Call (.Attribute xs "insert" apos) [i, y] [] cpos) (dInsert tx ti te) :=
  ⟨peW (pe_bm PySem.F.plainAttrs_list PySem.F.slot_list_insert PySem.F.type_list_insert mt_insert hx.pe (pa_cons hi.pe (pa_cons hy.pe pa_nil hs2) hs) hb hf hl hs hp) fun σ H Q ⟨Γ, M, F, E, Qd, a, q, k⟩ => ⟨Γ, M, F, E, _, a, q, fun F1 H1 v d M1 s1 c1 r1 ⟨⟨xs, e1⟩, q1⟩ => ⟨ty_list c1 r1 e1,
    Γ, M1, F1, E, _, a.next s1 c1, q1, fun F2 H2 w e M2 s2 c2 r2 q2 => ⟨Γ, M2, F2, E, _, a.next (s1.trans s2) c2, q2, fun F3 H3 u f M3 s3 c3 r3 ⟨p, ys, j, e2, e3, e4, hz, h0, h63, q3⟩ => by
      subst e2
      subst e3
      cases r1
      cases r2
      obtain ⟨fz, o, e5, us, e6, r5⟩ := c3.ow _ _ e4
      subst e6
      refine ⟨p, us, j, u, rfl, rfl, e5, by rw [r5.length]; exact hz, h0, h63, k _ _ _ _ _ ((s1.trans s2).trans s3) (c3.write (x := .lst _) e4 ⟨_, rfl, ?_⟩) .non q3⟩
      exact ((r5.take _).append (.cons r3 .nil)).append (r5.drop _)⟩⟩⟩⟩
end
end DL
namespace DL
open PySem PySem.Spec PyProof.Rows L2
abbrev HdT := Value × Nat × (Addr → Value → Option Addr → TS)
/-- what stands behind a clause: the name's slot is empty -/
def offS (i : Nat) (D : Ends) : Ends := { nx := fun τ G => D.nx (τ.set i none) G, rt := D.rt, bk := fun τ G => D.bk (τ.set i none) G, ct := fun τ G => D.ct (τ.set i none) G }
def wNm (K : PySem.W.Frag) (Wout : WX) (D : Ends) : List HdT → WX
  | [] => Wout
  | (c, i, ts) :: r => fun cls d τ G => ∃ b, PySem.W.exmOne K cls c = some b ∧ (b = true → ∀ p, G p = none → ts p cls d (offS i D) (τ.set i (some (.ref p))) G) ∧ (b = false → wNm K Wout D r cls d τ G)
inductive HdN (X : Cx) : List ExceptHandler → List HdT → Prop
  | nil : HdN X [] []
  | cons {x n : Str} {c : Value} {i : Nat} {ts : Addr → Value → Option Addr → TS} {b0 : Stmt} {su : List Stmt} {np ps : Pos} {hds : List ExceptHandler} {l : List HdT} (hc : Names X x c) (hi : X.N[i]? = some n) (hn : X.env.kindOf n = some .local)
      (hsu : ∀ (p : Addr) (oe : Obj) (cls : Value) (d : Option Addr) (pn : List (Addr × Obj)), Zc cls d oe → (∃ vs, oe.data = .fields vs) → PSs (X.suite p ((p, oe) :: pn)) (b0 :: su) (ts p cls d)) (r : HdN X hds l) :
      HdN X (.ExceptHandler (some (.Name x np)) (some n) (b0 :: su) ps :: hds) ((c, i, ts) :: l)
section
variable {X : Cx} {body : List Stmt} {h0 : ExceptHandler} {hds : List ExceptHandler} {l : List HdT} {pos : Pos} {tb : WX → TS} {Wout : WX}
theorem ps_tryN (hst : X.stack = X.env :: X.outer) (hfr : X.env.frame = some X.env.locals) (hN : X.N.Nodup) (tk : Takes X Wout)
    (hb : ∀ (W : WX) (pn : List (Addr × Obj)) (xe : Value → Shared → Prop), Takes (X.tr pn xe) W → PSs (X.tr pn xe) body (tb W)) (hh : HdN X (h0 :: hds) l) :
    PS X (.Try body (h0 :: hds) [] [] pos) (fun D σ H => tb (wNm X.K Wout D l) D σ H) := by
  refine ⟨fun pins s σ H D J q0 => ?_⟩
  have okX := J.ok
  have frA : X.A.frames = some (X.env :: X.outer) := by rw [okX.frames, hst]
  let catch_ : Value → Shared → Prop := fun u z1 => wpAny (model X.prog X.w) X.A (noteFrame u X.env) (fun _ z2 => wpAny (model X.prog X.w) X.A (setFlight u none) (fun _ z3 => wpAny (model X.prog X.w) X.A (handleBy u X.env (h0 :: hds)) (SP X pins D) X.xe z3) X.xe z2) X.xe z1
  have tkB : Takes (X.tr (X.pn ++ pins) catch_) (wNm X.K Wout D l) := fun u s2 big => by
    obtain ⟨p, B, sI, pinsB, τ, G, cls, d, rfl, JB, nb, up, sky, np, os, ag, w⟩ := big
    have J1 : Inv X pins τ G sI := JB.ofTry okX
    have sky1 : Sky B (X.env :: X.outer) p (Zc cls d) X.env.locals s2.heap := hst ▸ sky
    show wpAny (model X.prog X.w) X.A (noteFrame (.ref p) X.env) _ _ _
    refine Sky.land Zc.steady frA hfr sky1 fun g fl upg => ?_
    have J2 : Inv X pins τ G { s2 with heap := g } := J1.landed nb fl.1 (up.trans upg) os ag
    obtain ⟨oe, vs, ge, ze, de⟩ := fl.there
    have pfr : p ∉ frs (X.env :: X.outer) := fun hm => by
      obtain ⟨_, o1, e1, nf⟩ := fl.2.2.1.mem hm
      rw [ge] at e1
      cases e1
      exact nf _ de
    have pL : p ≠ X.env.locals := fun z => pfr (List.mem_filterMap.mpr ⟨X.env, List.mem_cons_self, by rw [hfr, z]⟩)
    have pF : p ∉ X.fs := fun hm => by
      obtain ⟨ev, h1, h2⟩ := List.mem_filterMap.mp hm
      exact pfr (List.mem_filterMap.mpr ⟨ev, List.mem_cons_of_mem _ h1, h2⟩)
    have JS := J2.suite ge de np pL pF
    have walk : ∀ {hds' : List ExceptHandler} {l' : List HdT}, HdN X hds' l' → wNm X.K Wout D l' cls d τ G → wpAny (model X.prog X.w) X.A (handleBy (.ref p) X.env hds') (SP X pins D) X.xe { s2 with heap := g } := by
      intro hds' l' hk
      induction hk with
      | nil =>
        intro w
        refine wpAny_handleBy_nil ?_
        obtain ⟨k1, k2, k3, o3, vs3, T3, oT, ts3, q1, q2, q3, q4, q5⟩ := id fl
        unfold PySem.passOn
        refine wpAny_bind (wpAny_field q1 q3 q4 ?_)
        rw [if_neg (show ¬ ((Value.ref T3 == Value.none) = true) by simp)]
        have out : wpAny (model X.prog X.w) X.A (setFlight (.ref p) X.env.frame) (fun _ z4 => wpAny (model X.prog X.w) X.A (throw (.ref p) : Sem Flow) (SP X pins D) X.xe z4) X.xe { s2 with heap := g } := by
          rw [hfr]
          refine HandSPX.setFlight_upZ fl fun g4 hg4 up4 => wpAny_throw (tk _ _ ?_)
          exact ⟨p, B, sI, pins, τ, G, cls, d, rfl, J1, nb, (up.trans upg).trans up4, .inr (.inr (hst ▸ hg4)), np, os, ag, w⟩
        first | exact wpAny_bind (wpAny_pure (wpAny_bind out)) | exact wpAny_bind out
      | @cons x n c i ts b0 su npos pss hds2 l2 hc hi hn hsu r ih =>
        intro w
        obtain ⟨b, eb, yes, no⟩ := w
        refine wpAny_handleBy_cons (codeAny_handlers_test ?_) (by intro z; cases z)
        have lt1 : PySem.W.Looks (model X.prog X.w) g (typeOf (.ref p)) cls := fun A Q E z k q => wpAny_typeOf_ref (k _ _ ge) (by rw [ze.1]; exact q)
        have lm1 := PySem.W.exm_one (M := model X.prog X.w) J2.kIn lt1 eb
        have nameOf : ∀ {Q : Value → Shared → Prop} {E : Value → Shared → Prop}, Q c { s2 with heap := g } → wpAny (model X.prog X.w) (X.A.mark (some (.ref p))) (eval (.Name x npos) X.env) Q E { s2 with heap := g } := fun {Q E} q => by
          obtain ⟨g1, g2, g3 | ⟨g3, g4, g5⟩⟩ := hc
          · exact ld_glob (X := X.suite p ((p, oe) :: (X.pn ++ pins))) JS g1 g3 q g2
          · exact ld_blt (X := X.suite p ((p, oe) :: (X.pn ++ pins))) JS g1 g3 g4 q g5 g2
        refine nameOf (lm1.here ?_)
        cases b with
        | false =>
          show wpAny _ X.A (handleBy (.ref p) X.env hds2) _ _ _
          exact ih (no rfl)
        | true =>
          refine codeAny_handlers_suite_as ?_
          refine HandSPX.lands_againZ fl fun g4 fl4 up4 => ?_
          have J4 : Inv X pins τ G { s2 with heap := g4 } := J1.landed nb fl4.1 ((up.trans upg).trans up4) os ag
          obtain ⟨oe4, vs4, ge4, ze4, de4⟩ := fl4.there
          have JS4 := J4.suite ge4 de4 np pL pF
          refine store_ok (X := X.suite p ((p, oe4) :: (X.pn ++ pins))) (v := .ref p) JS4 hN hi (.inl hn) rfl (fun z5 J5 => ?_) (.inr hn)
          refine wpAny_mono ((hsu p oe4 cls d (X.pn ++ pins) ze4 ⟨_, de4⟩).run [] z5 _ G _ J5 (yes rfl p np)) (fun fl6 z6 hs6 => ?_) (fun _ _ z => z.elim)
          have close : ∀ {τ6 : L2.St} {G6 : Hp} {R : Shared → Prop}, Inv (X.suite p ((p, oe4) :: (X.pn ++ pins))) [] τ6 G6 z6 → (∀ z7, Inv X pins (τ6.set i none) G6 z7 → R z7) →
              wpAny (model X.prog X.w) X.A (do bindName X.env n .none; unbindBehindTheSuite X.env n pss) (fun _ z7 => R z7) X.xe z6 := fun {τ6 G6 R} J6 hq => gone_ok (J6.unsuite okX) hN hi hn hq
          cases fl6 with
          | ret u =>
            obtain ⟨v6, τ6, G6, J6, r6, q6⟩ := hs6
            exact close J6 fun z7 J7 => ⟨v6, _, _, J7, r6, q6⟩
          | next =>
            obtain ⟨τ6, G6, J6, q6⟩ := hs6
            exact close J6 fun z7 J7 => ⟨_, G6, J7, q6⟩
          | brk =>
            obtain ⟨τ6, G6, J6, q6⟩ := hs6
            exact close J6 fun z7 J7 => ⟨_, G6, J7, q6⟩
          | cont =>
            obtain ⟨τ6, G6, J6, q6⟩ := hs6
            exact close J6 fun z7 J7 => ⟨_, G6, J7, q6⟩
    exact walk hh w
  refine wpAny_Try_except ?_
  refine wpAny_mono ((hb (wNm X.K Wout D l) (X.pn ++ pins) catch_ tkB).run [] s σ H D (J.toTry _) q0) (fun fl s1 hs => ?_) (fun e s1 he => he)
  cases fl with
  | ret u =>
    obtain ⟨v, τ, G, J1, r, q⟩ := hs
    exact ⟨v, τ, G, J1.ofTry okX, r, q⟩
  | next =>
    obtain ⟨τ, G, J1, q⟩ := hs
    exact wpAny_execs_nil ⟨τ, G, J1.ofTry okX, q⟩
  | brk =>
    obtain ⟨τ, G, J1, q⟩ := hs
    exact ⟨τ, G, J1.ofTry okX, q⟩
  | cont =>
    obtain ⟨τ, G, J1, q⟩ := hs
    exact ⟨τ, G, J1.ofTry okX, q⟩
end
end DL
namespace DL
open PySem PySem.Spec PyProof.Rows L2 LamX NdefX
section
variable {K : KTb} {M : Mp} {F H : Hp}
/-- a thing that stands in H is known from now on -/
theorem Cc.known {a : Addr} {o : HO} (c : Cc K M F H) (e : H a = some o) (hk : Fk o) (h1 : ∀ x F', ¬ RpC K F' x o) (h2 : ∀ kvs, o ≠ .dK kvs) (h3 : ∀ ob u, o ≠ .frz ob u) : ∃ F1, Same F F1 ∧ Cc K M F1 H ∧ F1 a = some o := by
  cases e1 : F a with
  | some u =>
    have : H a = some u ∨ _ := c.fr a u e1
    rcases this with z | ⟨_, ob, z⟩
    · rw [e] at z
      cases z
      exact ⟨F, Same.refl _, c, e1⟩
    · rw [e] at z
      cases z
      exact absurd rfl (h3 ob u)
  | none =>
    have mN : M a = none := by
      cases em : M a with
      | none => rfl
      | some x =>
        obtain ⟨_, o1, z1, z2⟩ := c.ow a x em
        rw [e] at z1
        cases z1
        exact absurd z2 (h1 x F)
    have sm : Same F (upd F a o) := Same.upd e1
    refine ⟨upd F a o, sm, ⟨c.tb, fun b u eb => ?_, fun b u eb => ?_, fun b x eb => ?_⟩, upd_same⟩
    · by_cases hb : b = a
      · subst hb
        rw [upd_same] at eb
        cases eb
        exact hk
      · rw [upd_ne hb] at eb
        exact c.fk b u eb
    · by_cases hb : b = a
      · subst hb
        rw [upd_same] at eb
        cases eb
        exact .inl e
      · rw [upd_ne hb] at eb
        exact c.fr b u eb
    · obtain ⟨f1, o1, z1, z2⟩ := c.ow b x eb
      have hb : b ≠ a := fun z => by rw [z, mN] at eb; cases eb
      exact ⟨by rw [upd_ne hb]; exact f1, o1, z1, z2.mono sm⟩
theorem Cc.at_xd {a : Addr} {vs : List (Str × V)} (c : Cc K M F H) (e : F a = some (.xd vs)) : H a = some (.xd vs) := by
  rcases c.fr a _ e with z | ⟨⟨_, z⟩, _⟩
  · exact z
  · cases z
theorem rpc_xd {K : KTb} {x : Cell} {F : Hp} {vs : List (Str × V)} : ¬ RpC K F x (.xd vs) := fun r => by
  cases x with
  | lst ds => obtain ⟨_, z, _⟩ := r; cases z
  | dic ds => obtain ⟨_, z, _⟩ := r; cases z
  | dit ds => obtain ⟨_, z, _⟩ := r; cases z
  | lkd ds u => obtain ⟨e, _, _, z, _⟩ := r; subst e; cases z
  | ins C fs => obtain ⟨_, _, z, _⟩ := r; cases z
  | opq φ => obtain ⟨_, _, _, z, _⟩ := r; cases z
end
/-- a caught exception at a, its fields -/
def excD (K : KTb) (a d : Addr) (fs : List (Str × D)) : D := .any (.ref a) fun F => ∃ vs, F d = some (.xd vs) ∧ RpF K F vs fs
/-- a lambda's value; wd: what is known of the names that it captured -/
def lamD (K : KTb) (f : Addr) (G : NF) (be : Expr) (ws : List (Option V)) (wd : DG) : D := .any (.ref f) fun F => F f = some (LmO f G be) ∧ F G.c = some (CodeO G.c G.qual) ∧ RpG K F ws wd
section
variable {X : Cx} {W : WT}
def dXf (K : KTb) (a : Addr) (cls : Value) (d : Option Addr) (n : Str) (te : DTE) : DTE := fun Γ M Q E => te Γ M (fun x M1 => ∃ (C dd : Addr) (fs : List (Str × D)) (v : D), cls = .ref C ∧ XfC K.K C ∧ PySem.W.findIn K.K (.ref C) n = some none ∧ d = some dd ∧ x = excD K a dd fs ∧ fs.lookup n = some v ∧ Q v M1) E
theorem de_xfX {a : Addr} {oe : Obj} {cls : Value} {d : Option Addr} {pn : List (Addr × Obj)} {e : Expr} {te : DTE} {pos : Pos} {n : Str} (hz : Zc cls d oe) (hf : ∃ vs, oe.data = .fields vs) (he : DE (X.suite a ((a, oe) :: pn)) W e te) (hb : attributeBase e n X.env (eval e X.env) = eval e X.env := by rfl) :
    DE (X.suite a ((a, oe) :: pn)) W (.Attribute e n pos) (dXf (kt X W) a cls d n te) := by
  refine ⟨⟨fun pins s σ H Q J ⟨Γ, M, F, E, Qd, at1, q, k⟩ => ?_⟩⟩
  by_cases hC : ∃ C, cls = .ref C ∧ XfC X.K C ∧ PySem.W.findIn X.K (.ref C) n = some none
  · obtain ⟨C, ec, T, no⟩ := hC
    refine (pe_xf T no hz hf he.pe hb).run pins s σ H Q J ?_
    refine ⟨Γ, M, F, E, _, at1, q, fun F1 H1 v dv M1 s1 c1 r1 ⟨C2, dd, fs, w, _, _, _, e4, e5, e6, q1⟩ => ?_⟩
    subst e5
    cases r1 with
    | any _ r1 =>
      obtain ⟨vs, z1, z2⟩ := r1 F1 (Same.refl _)
      obtain ⟨u, l1, l2⟩ := z2.look e6
      exact ⟨rfl, ec, dd, vs, u, e4, c1.at_xd z1, l1, k F1 H1 u w M1 s1 c1 l2 q1⟩
  · have he2 : DE (X.suite a ((a, oe) :: pn)) W e te := he
    refine attr_of hb (thn (he2.pe.run pins s σ H (fun _ _ => False) J ⟨Γ, M, F, E, _, at1, q, fun F1 H1 v dv M1 s1 c1 r1 ⟨C2, dd, fs, w, e1, e2, e3, _⟩ => absurd ⟨C2, e1, e2, e3⟩ hC⟩) fun u s1 hh => ?_)
    obtain ⟨_, _, _, _, z⟩ := hh
    exact z.elim
theorem de_xf {K : KTb} {a : Addr} {oe : Obj} {cls : Value} {d : Option Addr} {pn : List (Addr × Obj)} {e : Expr} {te : DTE} {pos : Pos} {n : Str} (hK : kt X W = K) (hz : Zc cls d oe) (hf : ∃ vs, oe.data = .fields vs) (he : DE (X.suite a ((a, oe) :: pn)) W e te) (hb : attributeBase e n X.env (eval e X.env) = eval e X.env := by rfl) :
    DE (X.suite a ((a, oe) :: pn)) W (.Attribute e n pos) (dXf K a cls d n te) := hK ▸ de_xfX hz hf he hb
abbrev HdD := Addr × Nat × (Addr → Value → Option Addr → DTS)
def offD (i : Nat) (Dn : DEnds) : DEnds := { nx := fun Γ M => Dn.nx (Γ.set i none) M, rt := Dn.rt, bk := fun Γ M => Dn.bk (Γ.set i none) M, ct := fun Γ M => Dn.ct (Γ.set i none) M }
def exN (K : KTb) (Dn : DEnds) : List HdD → DXE
  | [] => Dn.ex
  | (B, i, td) :: r => fun Γ C fs M => ∃ b, PySem.W.exmOne K.K (.ref C) (.ref B) = some b ∧ (b = true → ∀ p dd, td p (.ref C) (some dd) (offD i Dn) (Γ.set i (some (excD K p dd fs))) M) ∧ (b = false → exN K Dn r Γ C fs M)
inductive HdsN (X : Cx) (T : List (Addr × Str)) : List ExceptHandler → List HdD → Prop
  | nil : HdsN X T [] []
  | cons {x n : Str} {B : Addr} {i : Nat} {td : Addr → Value → Option Addr → DTS} {b0 : Stmt} {su : List Stmt} {np ps : Pos} {hds : List ExceptHandler} {l : List HdD} (hc : Names X x (.ref B)) (hi : X.N[i]? = some n) (hn : X.env.kindOf n = some .local)
      (hsu : ∀ (p : Addr) (oe : Obj) (cls : Value) (d : Option Addr) (pn : List (Addr × Obj)), Zc cls d oe → (∃ vs, oe.data = .fields vs) → DSs (X.suite p ((p, oe) :: pn)) (noT T) (b0 :: su) (td p cls d)) (r : HdsN X T hds l) :
      HdsN X T (.ExceptHandler (some (.Name x np)) (some n) (b0 :: su) ps :: hds) ((B, i, td) :: l)
def hdU (K : KTb) : List HdD → List HdT
  | [] => []
  | (B, i, td) :: r => (.ref B, i, fun p cls d => upS K noW (td p cls d)) :: hdU K r
theorem hdU_ok {hds : List ExceptHandler} {l : List HdD} (h : HdsN X W.T hds l) : HdN X hds (hdU (kt X W) l) := by
  induction h with
  | nil => exact .nil
  | cons hc hi hn hsu _ ih => exact .cons hc hi hn (fun p oe cls d pn hz hf => (hsu p oe cls d pn hz hf).ps) ih
theorem CoS.off {K : KTb} {F : Hp} {Qd : DG → Mp → Prop} {Q : L2.St → Hp → Prop} (i : Nat) (k : CoS K F Qd Q) : CoS K F (fun Γ M => Qd (Γ.set i none) M) (fun τ G => Q (τ.set i none) G) := fun F1 H1 τ Γ M s c g q => k F1 H1 _ _ M s c (g.unset i) q
theorem ew_N {K : KTb} {W0 : WX} {D : Ends} : ∀ {l : List HdD} {F : Hp} {Dn : DEnds}, CoE K F Dn D → Ew K F Dn.ex W0 → Ew K F (exN K Dn l) (wNm K.K W0 D (hdU K l))
  | [], F, Dn, k, w => w
  | (B, i, td) :: r, F, Dn, k, w => fun F1 H1 σ Γ C d vs fs M s1 c1 g1 hd rf ⟨b, eb, yes, no⟩ => by
    refine ⟨b, eb, fun hb p np => ?_, fun hb => ew_N k w F1 H1 σ Γ C d vs fs M s1 c1 g1 hd rf (no hb)⟩
    obtain ⟨F2, s2, c2, e2⟩ := c1.known (a := d) hd trivial (fun x F' => rpc_xd) (fun kvs z => by cases z) (fun ob u z => by cases z)
    have rx : Rp K F2 (.ref p) (excD K p d fs) := .any (fun z => by cases z) fun F3 s3 => ⟨vs, s3 _ _ e2, (rf.mono s2).mono s3⟩
    have k2 := k.mono (s1.trans s2)
    exact ⟨Γ.set i (some (excD K p d fs)), M, F2, offD i Dn, ⟨c2, (g1.mono s2).set rx i, fun _ _ _ _ _ _ _ _ _ _ _ _ _ _ z => z⟩, yes hb p d, ⟨k2.nx.off i, k2.rt, k2.bk.off i, k2.ct.off i⟩⟩
def dTryN (K : KTb) (tb : DTS) (l : List HdD) : DTS := fun Dn Γ M => tb { Dn with ex := exN K Dn l } Γ M
theorem ds_tryN {body : List Stmt} {h0 : ExceptHandler} {hds : List ExceptHandler} {l : List HdD} {pos : Pos} {tb : DTS} (hst : X.stack = X.env :: X.outer) (hfr : X.env.frame = some X.env.locals) (hN : X.N.Nodup) (tk : Takes X W.w)
    (hb : ∀ (W1 : WX) (pn : List (Addr × Obj)) (xe : Value → Shared → Prop), Takes (X.tr pn xe) (WT.w ⟨W.T, W1⟩) → DSs (X.tr pn xe) ⟨W.T, W1⟩ body tb) (hh : HdsN X W.T (h0 :: hds) l) :
    DS X W (.Try body (h0 :: hds) [] [] pos) (dTryN (kt X W) tb l) :=
  ⟨psW (ps_tryN (tb := fun W1 => upS (kt X W) W1 tb) hst hfr hN tk (fun W1 pn xe t => (hb W1 pn xe t).ps) (hdU_ok hh)) fun D σ H ⟨Γ, M, F, Dn, a, q, k⟩ => ⟨Γ, M, F, { Dn with ex := exN (kt X W) Dn l }, ⟨a.c, a.g, ew_N k a.w⟩, q, ⟨k.nx, k.rt, k.bk, k.ct⟩⟩⟩
end
end DL
namespace DL
open PySem PySem.Spec PyProof.Rows L2 LamX NdefX
/-- the cells of a lambda hold what they held, wherever the frame X stands -/
def Holds (X : Cx) (G : NF) (fr : List Str) (ws : List (Option V)) : Prop := ∀ (pins : List (Addr × Obj)) (σ : L2.St) (H : Hp) (s : Shared), Inv X pins σ H s → CellsAt G.cl fr ws s.heap H
theorem Holds.start {X : Cx} {G : NF} {fr : List Str} {ws : List (Option V)} (C : CellsAt G.cl fr ws X.s_0.heap X.H_0) (hx : X.ex = []) : Holds X G fr ws := fun _ _ _ _ J => cells_later C hx J
/-- x(..), x a parameter that holds the lambda -/
def dAct (K : KTb) (j : Nat) (G : NF) (be : Expr) (ws : List (Option V)) (wd : DG) (sp : DSp) (t : DTA) : DTE := fun Γ M Q E => ∃ f, Γ[j]? = some (some (lamD K f G be ws wd)) ∧ t Γ M (fun ds M1 => sp ds M1 Q (fun C fs M2 => E Γ C fs M2)) E
section
variable {P : Program} {w : World} {K : PySem.W.Frag} {mg : Str → Option Value} {base : Heap} {T : List (Addr × Str)}
/-- the def x keeps the promise sp, told by the lambda's value and promise -/
structure Hof (P : Program) (w : World) (K : PySem.W.Frag) (mg : Str → Option Value) (base : Heap) (T : List (Addr × Str)) (x : Str) (k kl : Nat) (ps : List Str) (sp : D → DSp → DSp) : Prop where
  ex : ∃ g, mg x = some (.ref g) ∧ PySem.W.keepIn K (.ref g) = true ∧ ∀ (G : NF) (be : Expr) (fr : List Str) (wd : DG) (spL : DSp), LmK P w K mg base T kl G be fr wd spL →
    ∀ (f : Addr) (ws : List (Option V)) (A : Around) (outer : List Env) (s : Shared) (H : Hp) (us : List Value) (vs : List V) (Q : VK) (E : XK) (ds : List D) (M : Mp) (F : Hp) (Qd : DQ) (Ed : DXK), Room k A → Env0 P w K mg base A outer s H → CellsAt G.cl fr ws s.heap H → Vals vs us →
      Cc ⟨K, T⟩ M F H → Rps ⟨K, T⟩ F vs ds → sp (lamD ⟨K, T⟩ f G be ws wd) spL ds M Qd Ed → CoQ ⟨K, T⟩ F Qd Q → CoX ⟨K, T⟩ F Ed E → codeAny (model P w) A (.call (.ref g) ⟨us, []⟩) (CR (L2.CX P w) outer P w H s Q E) s
theorem Hof.mono {x : Str} {k k2 kl : Nat} {ps : List Str} {sp : D → DSp → DSp} (h : Hof P w K mg base T x k kl ps sp) (i : k ≤ k2) : Hof P w K mg base T x k2 kl ps sp := by
  obtain ⟨g, h1, h2, h3⟩ := h.ex
  exact ⟨g, h1, h2, fun G be fr wd spL LK f ws A outer s H us vs Q E ds M F Qd Ed hr => h3 G be fr wd spL LK f ws A outer s H us vs Q E ds M F Qd Ed (hr.mono i)⟩
end
/-- what the frame's slots js tell -/
def capD (Γ : DG) (js : List Nat) : DG := js.map fun j => (Γ[j]?).join
/-- where lambdas of the def's text are made: its code object's table -/
structure LamAt (X : Cx) (T : List (Addr × Str)) : Prop where
  ex : ∃ c Pt, TabB X.base X.mg c Pt ∧ X.env.code = .ref c ∧ (Pt, X.env.qual ++ "<lambda>") ∈ T ∧ ∀ p ∈ T, p.1 = Pt → p.2 = X.env.qual ++ "<lambda>"
/-- the reading: sp the def's promise, spL the lambda's -/
def dHof (K : KTb) (sp : D → DSp → DSp) (mk : Addr → NF) (be : Expr) (js : List Nat) (spL : DG → DSp) (t : DTA) : DTE := fun Γ M Q E => t Γ M (fun ds M1 => ∀ f c ws, sp (lamD K f (mk c) be ws (capD Γ js)) (spL (capD Γ js)) (ds ++ [lamD K f (mk c) be ws (capD Γ js)]) M1 Q (fun C fs M2 => E Γ C fs M2)) E
end DL
namespace DL
open PySem PySem.Spec PyProof.Rows L2 LamX NdefX
section
variable {P : Program} {w : World} {K : PySem.W.Frag} {mg : Str → Option Value} {base : Heap} {T : List (Addr × Str)}
theorem LmK.mono {k k2 : Nat} {G : NF} {be : Expr} {fr : List Str} {wd : DG} {sp : DSp} (h : LmK P w K mg base T k G be fr wd sp) (i : k ≤ k2) : LmK P w K mg base T k2 G be fr wd sp :=
  ⟨fun f A outer s H us vs ws Q E ds M F Qd Ed hr => h.run f A outer s H us vs ws Q E ds M F Qd Ed (hr.mono i)⟩
/-- the name of a lambda's code object -/
def lq (x : Str) (st : Stmt) : Str := (PyProof.Rows.envOfC x (defScope st) 0 0 .none).qual ++ "<lambda>"
/-- as FunK, the code object told -/
structure FunC (K : PySem.W.Frag) (x : Str) (st : Stmt) (f : Addr) (fd : FuncData) (cdv : Value) : Prop where
  ex : ∃ (oc : Value) (od : Option Addr) (dV kV doc pm : Value) (an : Option Addr) (ct : Value) (osl : Array (Option Value)),
    fd = PySem.W.fnOf x x (defArgs st) (defBody st) (defScope st) dV kV doc pm an cdv ct ∧ K.lookup f = some ⟨oc, od, .func fd, osl⟩ ∧ PySem.W.codeIn K cdv x = true
  kp : PySem.W.keepIn K (.ref f) = true
/-- the table of the def's lambdas -/
structure TabC (mg : Str → Option Value) (base : Heap) (T : List (Addr × Str)) (x : Str) (st : Stmt) (cdv : Value) : Prop where
  ex : ∃ c Pt, TabB base mg c Pt ∧ cdv = .ref c ∧ (Pt, lq x st) ∈ T ∧ ∀ p ∈ T, p.1 = Pt → p.2 = lq x st
theorem TabC.at_ {x : Str} {st : Stmt} {cdv : Value} (h : TabC mg base T x st cdv) {N : List Str} {f : Addr} {A : Around} {outer : List Env} {s : Shared} {H : Hp} {E : XK} : LamAt (cxOf (L2.CX P w) P w K mg base N x (defScope st) f cdv A outer s H E) T := by
  obtain ⟨c, Pt, h1, h2, h3, h4⟩ := h.ex
  exact ⟨⟨c, Pt, h1, h2, h3, h4⟩⟩
structure DefT (K : PySem.W.Frag) (mg : Str → Option Value) (base : Heap) (T : List (Addr × Str)) (x : Str) (st : Stmt) (ps : List Str) : Prop where
  ex : ∃ f fd cdv, mg x = some (.ref f) ∧ FunC K x st f fd cdv ∧ Binds K fd ps [] ∧ TabC mg base T x st cdv
/-- a def's promise from its body, the code object told -/
theorem FunC.ok {x : Str} {st : Stmt} {f : Addr} {fd : FuncData} {cdv : Value} {N ps : List Str} {k : Nat} {sp : DSp} (Fn : FunC K x st f fd cdv) (S : FnScope N ps (defScope st)) (len : ∀ ds M Q E, sp ds M Q E → ds.length = ps.length)
    (hbody : ∀ (A : Around) (outer : List Env) (s : Shared) (H : Hp) (E : XK), Room k (A.deeper (PyProof.Rows.envOfC x (defScope st) s.heap.objs.size f cdv)) → ∃ t, DSs (cxOf (L2.CX P w) P w K mg base N x (defScope st) f cdv A outer s H E) (wOf T E) (defBody st) t ∧
      ∀ (ds : List D) (M : Mp) (Qd : DQ) (Ed : DXK), sp ds M Qd Ed → t { nx := fun _ M' => Fin ⟨K, T⟩ Qd .non M', rt := Fin ⟨K, T⟩ Qd, ex := fun _ C fs M' => Ed C fs M' } (dstart N ds) M) : FnOk P w K mg base (L2.CX P w) (k + 1) f fd ps (spUp ⟨K, T⟩ sp) := by
  have hlen : ∀ vs H Q E, spUp ⟨K, T⟩ sp vs H Q E → vs.length = ps.length := fun vs H Q E ⟨ds, M, F, Qd, Ed, c, r, h, _, _⟩ => r.length.trans (len _ _ _ _ h)
  obtain ⟨oc, od, dV, kV, doc, pm, an, ct, osl, rfl, lk, hcd⟩ := Fn.ex
  refine fn_of lk hcd S hlen fun A outer s H vs Q E hr h => ?_
  have hl := hlen _ _ _ _ h
  obtain ⟨ds, M, F, Qd, Ed, c, r, h, kq, kx⟩ := h
  obtain ⟨t, ht, hb⟩ := hbody A outer s H E hr
  refine ⟨_, ht.ps, ?_⟩
  have hpl : ps.length ≤ N.length := by have := congrArg List.length S.pre; rw [List.length_take] at this; omega
  refine ⟨dstart N ds, M, F, _, ⟨c, start_rp r (by omega), fun F1 H1 σ Γ C d us fs M1 s1 c1 _ hd rf q => kx F1 H1 C d us fs M1 s1 c1 hd rf q⟩, hb ds M Qd Ed h, ?_, ?_, fun _ _ _ _ _ _ _ _ z => z.elim, fun _ _ _ _ _ _ _ _ z => z.elim⟩
  · intro F1 H1 σ1 Γ1 M1 s1 c1 g1 q1
    obtain ⟨F3, d2, M3, s3, c3, r3, q3⟩ := q1 F1 H1 .non c1 .non
    exact kq F3 H1 _ _ _ (s1.trans s3) c3 r3 q3
  · intro F1 H1 v d M1 s1 c1 r1 q1
    obtain ⟨F3, d2, M3, s3, c3, r3, q3⟩ := q1 F1 H1 v c1 r1
    exact kq F3 H1 _ _ _ (s1.trans s3) c3 r3 q3
theorem DefT.ok {x : Str} {st : Stmt} {N ps : List Str} {k : Nat} {sp : DSp} (Fn : DefT K mg base T x st ps) (S : FnScope N ps (defScope st)) (len : ∀ ds M Q E, sp ds M Q E → ds.length = ps.length)
    (hbody : ∀ (f : Addr) (cdv : Value) (A : Around) (outer : List Env) (s : Shared) (H : Hp) (E : XK), LamAt (cxOf (L2.CX P w) P w K mg base N x (defScope st) f cdv A outer s H E) T → Room k (A.deeper (PyProof.Rows.envOfC x (defScope st) s.heap.objs.size f cdv)) → ∃ t, DSs (cxOf (L2.CX P w) P w K mg base N x (defScope st) f cdv A outer s H E) (wOf T E) (defBody st) t ∧
      ∀ (ds : List D) (M : Mp) (Qd : DQ) (Ed : DXK), sp ds M Qd Ed → t { nx := fun _ M' => Fin ⟨K, T⟩ Qd .non M', rt := Fin ⟨K, T⟩ Qd, ex := fun _ C fs M' => Ed C fs M' } (dstart N ds) M) : Dfk P w K mg base T x (k + 1) ps sp := by
  obtain ⟨f, fd, cdv, h1, h2, h3, h4⟩ := Fn.ex
  exact ⟨f, fd, h2.ok S len fun A outer s H E hr => hbody f cdv A outer s H E h4.at_ hr, h1, h2.kp, h3⟩
/-- the law itself -/
structure FunT (K : PySem.W.Frag) (mg : Str → Option Value) (base : Heap) (T : List (Addr × Str)) (x : Str) (st : Stmt) (f : Addr) (fd : FuncData) : Prop where
  ex : ∃ cdv, FunC K x st f fd cdv ∧ TabC mg base T x st cdv
theorem FunT.okS {x : Str} {st : Stmt} {f : Addr} {fd : FuncData} {N ps : List Str} {k : Nat} {sp : DSp} (Fn : FunT K mg base T x st f fd) (S : FnScope N ps (defScope st)) (len : ∀ ds M Q E, sp ds M Q E → ds.length = ps.length)
    (hbody : ∀ (cdv : Value) (A : Around) (outer : List Env) (s : Shared) (H : Hp) (E : XK), LamAt (cxOf (L2.CX P w) P w K mg base N x (defScope st) f cdv A outer s H E) T → Room k (A.deeper (PyProof.Rows.envOfC x (defScope st) s.heap.objs.size f cdv)) → ∃ t, DSs (cxOf (L2.CX P w) P w K mg base N x (defScope st) f cdv A outer s H E) (wOf T E) (defBody st) t ∧
      ∀ (ds : List D) (M : Mp) (Qd : DQ) (Ed : DXK), sp ds M Qd Ed → t { nx := fun _ M' => Fin ⟨K, T⟩ Qd .non M', rt := Fin ⟨K, T⟩ Qd, ex := fun _ C fs M' => Ed C fs M' } (dstart N ds) M) : FnOk P w K mg base (L2.CX P w) (k + 1) f fd ps (spUp ⟨K, T⟩ sp) := by
  obtain ⟨cdv, h1, h2⟩ := Fn.ex
  exact h1.ok S len fun A outer s H E hr => hbody cdv A outer s H E h2.at_ hr
end
/-- the def x stands with an empty table -/
def TabOf (mg : Str → Option Value) (h : Heap) (x : Str) : Prop := ∃ (a : Addr) (o : Obj) (fd : FuncData) (c Pt : Addr), mg x = some (.ref a) ∧ h.get? a = some o ∧ o.data = .func fd ∧ fd.code = .ref c ∧ PySem.W.CodeHd h c Pt ∧ h.get? Pt = some { cls := .none, data := .fields #[] }
/-- .. K tells where the table lies -/
theorem TabOf.at_ {K : PySem.W.Frag} {mg : Str → Option Value} {h : Heap} {y : Str} {f c Pt : Addr} {oc ec : Value} {od dc : Option Addr} {fd : FuncData} {osl slc : Array (Option Value)} {vs : Array Value} (t : TabOf mg h y) (kin : K.In h) (m : mg y = some (.ref f)) (l : K.lookup f = some ⟨oc, od, .func fd, osl⟩) (ec' : fd.code = .ref c)
    (lc : K.lookup c = some ⟨ec, dc, .fields vs, slc⟩) (lp : vs[11]? = some (.ref Pt)) : PySem.W.CodeHd h c Pt ∧ h.get? Pt = some { cls := .none, data := .fields #[] } := by
  obtain ⟨a, o, fd1, c1, P1, h1, h2, h3, h4, h5, h6⟩ := t
  rw [m] at h1
  cases h1
  have g1 := kin _ _ l
  rw [h2] at g1
  cases g1
  cases h3
  rw [ec'] at h4
  cases h4
  have g2 := kin _ _ lc
  have h5' := h5
  obtain ⟨o5, us, file, tf, flags, tg, inF, text, tt, q1, q2, q3, q4, _⟩ := h5'
  rw [g2] at q1
  cases q1
  cases q3
  rw [lp] at q4
  cases q4
  exact ⟨h5, h6⟩
end DL
namespace DL
open PySem L2
section
variable {X : Cx} {W : WT} {a b c d f : Expr} {pos : Pos}
def dChain4 (rd rd' rd2 rd3 : D2) (ta tb tc td tf : DTE) : DTE := fun Γ M Q E => ta Γ M (fun x M1 => tb Γ M1 (fun y M2 => rd x y M2 (fun z M3 => ∃ k, z = .bl k ∧
  (if k = true then tc Γ M3 (fun w M4 => rd' y w M4 (fun z M5 => ∃ k, z = .bl k ∧ (if k = true then td Γ M5 (fun u M6 => rd2 w u M6 (fun z M7 => ∃ k, z = .bl k ∧ (if k = true then tf Γ M7 (fun t M8 => rd3 u t M8 Q) E else Q (.bl false) M7))) E else Q (.bl false) M5))) E else Q (.bl false) M3))) E) E
end
end DL
namespace DL
open PySem L2
/-- tuple(xs), a list; tuple(t) -/
def rdTuple : D1s := fun ds M Q => ∃ d, ds = [d] ∧ ((∃ xs, sqD M d = some xs ∧ Q (.tup xs) M) ∨ ∃ xs, d = .tup xs ∧ Q (.tup xs) M)
theorem real_tuple {K : KTb} : Real1 K (fun xs H Q => ∃ p ys, xs = [.ref p] ∧ ((SqL K.K H p ys ∧ ∀ l, H l = none → Q (.ref l) (upd H l (.tup ys))) ∨ (SqT K.K H p ys ∧ Q (.ref p) H))) rdTuple := fun F H M xs ds Qd Q c r ⟨d, e1, q⟩ k => by
  subst e1
  obtain ⟨v, rfl, rv⟩ := rps1 r
  rcases q with ⟨ys, h, q⟩ | ⟨ys, rfl, q⟩
  · obtain ⟨a, vs, rfl, h1, r1⟩ := sq_of c rv h
    refine ⟨a, vs, rfl, .inl ⟨h1, fun l hl => ?_⟩⟩
    have s := Same.upd (o := .tup vs) (c.Fnone hl)
    exact k _ _ _ _ M s (c.newF hl) (.tup (.inl upd_same) (r1.mono s)) q
  · obtain ⟨a, vs, rfl, h1, r1⟩ := tp_of c rv
    exact ⟨a, vs, rfl, .inr ⟨h1, k _ _ _ _ M (Same.refl _) c rv q⟩⟩
theorem rdTuple_sq {d : D} {xs : List D} {M : Mp} {Q : DQ} (h : sqD M d = some xs) (q : Q (.tup xs) M) : rdTuple [d] M Q := ⟨d, rfl, .inl ⟨xs, h, q⟩⟩
end DL
namespace DL
open PySem L2
theorem dps_res {K : KTb} {M : Mp} {F H : Hp} (c : Cc K M F H) : ∀ (ds : List D) (vs : List V), Rps K F vs ds → (∀ d ∈ ds, shD (res M d) = true) → DpAll K.K H vs (pys (ds.map (res M)))
  | [], _, r, _ => by cases r; simp only [List.map_nil, pys]; exact .nil
  | d :: ds, _, r, h => by
    cases r with
    | cons r1 r2 =>
      simp only [List.map_cons, pys]
      exact .cons (dp_res c r1 (h d List.mem_cons_self)) (dps_res c ds _ r2 fun e he => h e (List.mem_cons_of_mem _ he))
end DL
namespace DL
open PySem L2
/-- a def of the module with keyword-only parameters (names ks, their defaults kd) behind n others -/
structure DefAtK (K : PySem.W.Frag) (mg : Str → Option Value) (x : Str) (st : Stmt) (ps : List Str) (n : Nat) (ks : List Str) (dvs : List V) : Prop where
  ex : ∃ f fd, mg x = some (.ref f) ∧ FunK K x x st f fd ∧ KBn K fd ps n ks (fun us ws => us ++ ws) (fun vs zs => vs ++ zs) ∧ ∃ vds, Vals dvs vds ∧ Binds K fd ps vds
structure DfkK (P : Program) (w : World) (K : PySem.W.Frag) (mg : Str → Option Value) (base : Heap) (T : List (Addr × Str)) (x : Str) (k : Nat) (ps : List Str) (n : Nat) (ks : List Str) (dvs : List V) (sp : DSp) : Prop where
  ex : ∃ f fd, FnOk P w K mg base (L2.CX P w) k f fd ps (spUp ⟨K, T⟩ sp) ∧ mg x = some (.ref f) ∧ PySem.W.keepIn K (.ref f) = true ∧ KBn K fd ps n ks (fun us ws => us ++ ws) (fun vs zs => vs ++ zs) ∧ ∃ vds, Vals dvs vds ∧ Binds K fd ps vds
section
variable {P : Program} {w : World} {K : PySem.W.Frag} {T : List (Addr × Str)} {mg : Str → Option Value} {base : Heap}
theorem DefAtK.ok {x : Str} {st : Stmt} {N ps ks : List Str} {n : Nat} {dvs : List V} {k : Nat} {sp : DSp} (Fn : DefAtK K mg x st ps n ks dvs) (S : FnScope N ps (defScope st)) (len : ∀ ds M Q E, sp ds M Q E → ds.length = ps.length)
    (hbody : ∀ (f : Addr) (cdv : Value) (A : Around) (outer : List Env) (s : Shared) (H : Hp) (E : XK), Room k (A.deeper (PyProof.Rows.envOfC x (defScope st) s.heap.objs.size f cdv)) → ∃ t, DSs (cxOf (L2.CX P w) P w K mg base N x (defScope st) f cdv A outer s H E) (wOf T E) (defBody st) t ∧
      ∀ (ds : List D) (M : Mp) (Qd : DQ) (Ed : DXK), sp ds M Qd Ed → t { nx := fun _ M' => Fin ⟨K, T⟩ Qd .non M', rt := Fin ⟨K, T⟩ Qd, ex := fun _ C fs M' => Ed C fs M' } (dstart N ds) M) : DfkK P w K mg base T x (k + 1) ps n ks dvs sp := by
  obtain ⟨f, fd, h1, h2, h3⟩ := Fn.ex
  refine ⟨f, fd, dfn h2 S len fun cdv A outer s H E hr => ?_, h1, h2.kp, h3⟩
  obtain ⟨t, ht, hq⟩ := hbody f cdv A outer s H E hr
  exact ⟨t, ht, fun ds M Qd Ed F H h c => ⟨F, M, Same.refl _, c, hq ds M Qd Ed h⟩⟩
end
section
variable {X : Cx} {W : WT} {e : Expr} {es : List Expr} {pos : Pos}
def dCallK (n m : Nat) (sp : DSp) (t tk : DTA) : DTE := fun Γ M Q E => t Γ M (fun ds M1 => tk Γ M1 (fun zs M2 => ds.length = n ∧ zs.length = m ∧ sp (ds ++ zs) M2 Q (fun C fs M3 => E Γ C fs M3)) E) E
end
end DL
namespace DL
open PySem PySem.Spec PyProof.Rows L2 LamX NdefX
end DL
namespace DL
open PySem PySem.Spec PyProof.Rows L2 LamX NdefX
end DL
namespace DL
open PySem L2
def lotD (cs : List Int) : D := .lst (cs.map D.int)
end DL
namespace DL
open PySem PySem.Spec PyProof.Rows L2
def dCBK (rd : List D → List D → Mp → DQ → Prop) (t tk : DTA) : DTE := fun Γ M Q E => t Γ M (fun ds M1 => tk Γ M1 (fun es M2 => rd ds es M2 Q) E) E
end DL
namespace DL
open PySem L2
end DL
namespace DL
open PySem L2
theorem GhS.two {K : KTb} {P : DG → Mp → Prop} {Γ : DG} {M : Mp} (h : GhS K (GhS K P) Γ M) : GhS K P Γ M := fun F H σ c g => by
  obtain ⟨F2, Γ2, M2, s2, c2, g2, h2⟩ := h F H σ c g
  obtain ⟨F3, Γ3, M3, s3, c3, g3, h3⟩ := h2 F2 H σ c2 g2
  exact ⟨F3, Γ3, M3, s2.trans s3, c3, g3, h3⟩
section
variable {X : Cx} {W : WT}
/-- xs.pop() -/
def dPop (tx : DTE) : DTE := fun Γ M Q E => tx Γ M (fun d M1 => ∃ p xs y, d = .ref p ∧ M1 p = some (.lst xs) ∧ xs.getLast? = some y ∧ Q y (mup M1 p (.lst xs.dropLast))) E
end
structure RepOk (n w : Nat) (d : D) : Prop where
  l : lay n d
  s : d.py.showable = true
  h : d.py.hasDict = false
  b : d.py.leavesShort 8 = true
  k : d.py.bulk ≤ w
theorem RepOk.mono {n w n' w' : Nat} {d : D} (r : RepOk n w d) (h1 : n ≤ n') (h2 : w ≤ w') : RepOk n' w' d := ⟨⟨r.l.1, Nat.le_trans r.l.2 h1⟩, r.s, r.h, r.b, Nat.le_trans r.k h2⟩
end DL
namespace DL
open PySem PySem.Spec PyProof.Rows L2
section
variable {X : Cx} {CX : CXT} {k : Nat} {f C : Addr} {fd : FuncData} {ps : List Str} {sp : Sp} {E : L2.St → XK} {x m : Str} {p pos apos : Pos} {e o : Expr} {es : List Expr} {ta : TE} {t : TA}
def tMethQ (C : Addr) (m : Str) (sp : Sp) (E : L2.St → XK) (ta : TE) (t : TA) : TE := fun σ H Q => ta σ H fun x H1 => ∃ a dx fs, x = .ref a ∧ H1 a = some (.ins C dx fs) ∧ fs.lookup m = none ∧ t σ H1 fun vs H2 => sp (x :: vs) H2 Q (E σ)
theorem pe_meth0Q {pl : Sem Bool} (hO : PE X o ta) (hC : Cls X.K C) (hM : Meth X.K C m f) (hF : FnOk X.prog X.w X.K X.mg X.base CX k f fd ps sp) (hr : Room k X.A) (hb : L2.Binds X.K fd ps []) (hx : ∀ σ, PassesAt CX X σ (E σ))
    (ht : eval (.Call (.Attribute o m apos) [] [] pos) X.env = (do
      let ov ← eval o X.env
      standAt apos.atName
      let (g, fst) ← holding [ov] (getMethod ov m pl)
      callWith pos g fst (backTo pos (starEach [] X.env)) (backToKw pos (keywordEach [] X.env))) := by rfl) :
    PE X (.Call (.Attribute o m apos) [] [] pos) (tMethQ C m sp E ta tNil) := by
  refine ⟨fun pins s σ H Q J q0 => ?_⟩
  refine PySem.W.methodCall_KW (pl := pl) (thn (hO.run pins s σ H _ J q0) fun u s1 ⟨y, H1, J1, ry, a, dx, fs, ey, ea, l, q1⟩ => ?_) ht
  subst ey
  obtain rfl : u = Value.ref a := ry
  exact getmeth_ok J1 ea hC hM l (PySem.W.callWith_K0 (first := [.ref a]) J1.kIn hM.kp (run_fnS (us := [.ref a]) (vs := [.ref a]) hF hr hb (hx σ) J1 (.cons rfl .nil) q1))
def tMakeQ (C : Addr) (sp : Sp) (E : L2.St → XK) (t : TA) : TE := fun σ H Q => t σ H fun vs H1 => ∀ y dx, H1 y = none → H1 dx = none → dx ≠ y → sp (.ref y :: vs) (upd (upd H1 dx (.own y)) y (.ins C dx [])) (fun v H2 => v = .non ∧ Q (.ref y) H2) (E σ)
/-- what is raised in __init__ is wished for where the new instance stands, too -/
theorem run_makeQ {pins : List (Addr × Obj)} {σ : L2.St} {H : Hp} {s : Shared} {Q : VK} {us : List Value} {vs : List V} (M : Mk X.K C f) (hF : FnOk X.prog X.w X.K X.mg X.base CX k f fd ps sp) (hr : Room (k + 1) X.A) (hb : L2.Binds X.K fd ps [])
    (hx : ∀ σ, PassesAt CX X σ (E σ)) (J : Inv X pins σ H s) (r : Vals vs us)
    (q : ∀ y dx, H y = none → H dx = none → dx ≠ y → sp (.ref y :: vs) (upd (upd H dx (.own y)) y (.ins C dx [])) (fun v H2 => v = .non ∧ Q (.ref y) H2) (E σ)) :
    wpAny (model X.prog X.w) X.A (call (.ref C) us) (EP X pins σ Q) X.xe s := by
  have q0 := q (s.heap.objs.size + 1) s.heap.objs.size (J.hok.fresh (Nat.le_succ _)) (J.hok.fresh (Nat.le_refl _)) (Nat.ne_of_lt (Nat.lt_succ_self _))
  have J2 := Inv.made (C := C) J
  have r2 : Vals (V.ref (s.heap.objs.size + 1) :: vs) (Value.ref (s.heap.objs.size + 1) :: us) := .cons rfl r
  have hl : (Value.ref (s.heap.objs.size + 1) :: us).length = ps.length := r2.length.symm.trans (hF.len _ _ _ _ q0)
  have bb := hb { s with heap := (s.heap.push PySem.W.emptyDict).push (PySem.W.instObj C s.heap.objs.size) } (Value.ref (s.heap.objs.size + 1) :: us) J2.kIn (by rw [List.append_nil]; exact hl)
  rw [List.append_nil] at bb
  refine wpAny_call (make_map (f := f) J.kIn M.makes M.init (beq_iff_eq.mp M.fn) (codeAny_mono (hF.run _ X.stack _ _ ⟨Value.ref (s.heap.objs.size + 1) :: us, []⟩ _ _ _ (E σ) (hr.make C us []) (J2.env0.make C us []) bb r2 q0) fun r s' hq => ?_))
  cases r with
  | error e => exact hx σ pins _ _ e s' J2 hq
  | ok fl =>
    cases fl with
    | ret u =>
      obtain ⟨v, H', J3, rv, ev, q3⟩ := J2.after hq
      subst ev
      exact ⟨rv, ⟨V.ref (s.heap.objs.size + 1), H', J3, rfl, q3⟩⟩
    | next => exact False.elim hq
    | brk => exact False.elim hq
    | cont => exact False.elim hq
theorem pe_makeQ (M : Mk X.K C f) (hF : FnOk X.prog X.w X.K X.mg X.base CX k f fd ps sp) (hr : Room (k + 1) X.A) (hg : Gl X x) (hm : X.mg x = some (.ref C)) (hb : L2.Binds X.K fd ps []) (hx : ∀ σ, PassesAt CX X σ (E σ))
    (hA : PA X (e :: es) t) (hdb : (x == ("__debug__" : Str)) = false := by decide) (he : starEach (e :: es) X.env = (false, eval e X.env) :: starEach es X.env := by rfl) (hpl : (backTo pos (starEach es X.env)).any (·.1) = false := by rfl) :
    PE X (.Call (.Name x p) (e :: es) [] pos) (tMakeQ C sp E t) := by
  refine ⟨fun pins s σ H Q J q0 => ?_⟩
  refine wpAny_Call_Name_kw (ld_glob J hg hm (PySem.W.callWith_K (h₀ := X.base) J.ok.mod.kin M.kp (thn (hA.run pos pins s σ H _ J q0) fun us s1 ⟨vs, H1, J1, r, q⟩ => ⟨J1.kIn, ?_⟩) he hpl) hdb)
  exact run_makeQ M hF hr hb hx J1 r q
end
def insD (M : Mp) : D → Option (Addr × List (Str × D))
  | .obj C fs => some (C, fs)
  | .ref p => match M p with
    | some (.ins C fs) => some (C, fs)
    | _ => none
  | _ => none
theorem ins_of {K : KTb} {M : Mp} {F H : Hp} {v : V} {d : D} {C : Addr} {fs : List (Str × D)} (c : Cc K M F H) (r : Rp K F v d) (h : insD M d = some (C, fs)) : ∃ a dx vs, v = .ref a ∧ H a = some (.ins C dx vs) ∧ RpF K F vs fs := by
  cases d with
  | obj C' fs' =>
    cases h
    cases r with
    | obj h1 h2 =>
      rcases c.fr _ _ h1 with z | ⟨⟨_, z⟩, _⟩
      · exact ⟨_, _, _, rfl, z, rpF_of h2⟩
      · cases z
  | ref p =>
    cases r
    cases e : M p with
    | none => simp [insD, e] at h
    | some x =>
      obtain ⟨_, o, h2, h3⟩ := c.ow _ _ e
      cases x with
      | ins C' fs' =>
        simp [insD, e] at h
        obtain ⟨rfl, rfl⟩ := h
        obtain ⟨dx, vs, e1, h4⟩ := h3
        exact ⟨p, dx, vs, rfl, by rw [h2, e1], h4⟩
      | _ => simp [insD, e] at h
  | _ => simp [insD] at h
theorem RpF.lookO {K : KTb} {F : Hp} {f : Str} {vs : List (Str × V)} {fs : List (Str × D)} (h : RpF K F vs fs) (e : fs.lookup f = none) : vs.lookup f = none := h.lookN e
def putD (f : Str) (v : D) : List (Str × D) → List (Str × D)
  | [] => [(f, v)]
  | (g, x) :: r => if g = f then (g, v) :: r else (g, x) :: putD f v r
theorem RpF.put {K : KTb} {F : Hp} {f : Str} {v : V} {d : D} (r : Rp K F v d) : ∀ {vs : List (Str × V)} {fs : List (Str × D)}, RpF K F vs fs → RpF K F (putF f v vs) (putD f d fs)
  | _, _, .nil => .cons ⟨rfl, r⟩ .nil
  | (g, u) :: vs, (g', u') :: fs, .cons q t => by
    obtain ⟨e1, q⟩ := q
    have e1 : g = g' := e1
    subst e1
    show RpF K F (if g = f then (g, v) :: vs else (g, u) :: putF f v vs) (if g = f then (g, d) :: fs else (g, u') :: putD f d fs)
    by_cases z : g = f
    · rw [if_pos z, if_pos z]
      exact .cons ⟨rfl, r⟩ t
    · rw [if_neg z, if_neg z]
      exact .cons ⟨rfl, q⟩ (RpF.put r t)
theorem RpF.len {K : KTb} {F : Hp} : ∀ {vs : List (Str × V)} {fs : List (Str × D)}, RpF K F vs fs → vs.length = fs.length
  | _, _, .nil => rfl
  | _, _, .cons _ t => congrArg (· + 1) (RpF.len t)
section
variable {X : Cx} {W : WT} {e o a : Expr} {es : List Expr} {pos pos' apos : Pos} {C : Addr} {f m : Str}
/-- o.f -/
def dFld (C : Addr) (f : Str) (to : DTE) : DTE := fun Γ M Q E => to Γ M (fun x M1 => ∃ fs d, insD M1 x = some (C, fs) ∧ fs.lookup f = some d ∧ Q d M1) E
theorem de_fld {to : DTE} (hC : Cls X.K C) (hn : NoAttr X.K C f) (ho : DE X W o to) (hb : attributeBase o f X.env (eval o X.env) = eval o X.env := by rfl) : DE X W (.Attribute o f pos) (dFld C f to) :=
  ⟨peW (pe_fld ho.pe hb) fun σ H Q ⟨Γ, M, F, E, Qd, a, q, k⟩ => ⟨Γ, M, F, E, _, a, q, fun F1 H1 v d M1 s1 c1 r1 ⟨fs, d1, e1, e2, q1⟩ => by
    obtain ⟨b, dx, vs, rfl, hH, rf⟩ := ins_of c1 r1 e1
    obtain ⟨u, l1, l2⟩ := rf.look e2
    exact ⟨b, C, dx, vs, u, rfl, hH, hC, hn, l1, k F1 H1 u d1 M1 s1 c1 l2 q1⟩⟩⟩
/-- o.f = e -/
def dPut (C : Addr) (f : Str) (to te : DTE) : DTS := fun Dn Γ M => te Γ M (fun d M1 => to Γ M1 (fun x M2 => ∃ p fs, x = .ref p ∧ M2 p = some (.ins C fs) ∧ fs.length < 1000 ∧ Dn.nx Γ (mup M2 p (.ins C (putD f d fs)))) Dn.ex) Dn.ex
theorem ds_put {to te : DTE} (hC : Cls X.K C) (hn : NoAttr X.K C f) (ho : DE X W o to) (he : DE X W e te) (hs : swapsWith e (some (.Attribute o f pos')) pos.line X.env = pure false := by rfl) : DS X W (.Assign [.Attribute o f pos'] e pos) (dPut C f to te) :=
  ⟨psW (ps_fld ho.pe he.pe hs) fun E σ H ⟨Γ, M, F, Dn, a, h, k⟩ => ⟨Γ, M, F, _, _, a, h, fun F1 H1 v d M1 s1 c1 r1 q1 => ⟨Γ, M1, F1, _, _, a.next s1 c1, q1, fun F2 H2 w x M2 s2 c2 r2 ⟨p, fs, e1, e2, hl, q2⟩ => by
    subst e1
    cases r2
    obtain ⟨fz, u, h2, dx, vs, e3, rf⟩ := c2.ow _ _ e2
    subst e3
    exact ⟨p, C, dx, vs, rfl, h2, hC, hn, by rw [rf.len]; exact hl, k.nx F2 _ _ _ _ (s1.trans s2) (c2.write (x := .ins C (putD f d fs)) e2 ⟨dx, _, rfl, rf.put (r1.mono s2)⟩) (a.g.mono (s1.trans s2)) q2⟩⟩⟩⟩
end
section
variable {P : Program} {w : World} {K : PySem.W.Frag} {T : List (Addr × Str)} {mg : Str → Option Value} {base : Heap}
/-- the method m of the class at C, as it stands in the text -/
structure MethAt (K : PySem.W.Frag) (C : Addr) (m qual : Str) (st : Stmt) (ps : List Str) : Prop where
  ex : ∃ f fd, Meth K C m f ∧ FunK K m qual st f fd ∧ L2.Binds K fd ps []
/-- it keeps a promise over data -/
structure Mfk (P : Program) (w : World) (K : PySem.W.Frag) (mg : Str → Option Value) (base : Heap) (T : List (Addr × Str)) (C : Addr) (m : Str) (k : Nat) (ps : List Str) (sp : DSp) : Prop where
  ex : ∃ f fd, FnOk P w K mg base (L2.CX P w) k f fd ps (spUp ⟨K, T⟩ sp) ∧ Meth K C m f ∧ L2.Binds K fd ps []
theorem MethAt.ok {C : Addr} {m qual : Str} {st : Stmt} {N ps : List Str} {k : Nat} {sp : DSp} (Fn : MethAt K C m qual st ps) (S : FnScope N ps (defScope st)) (len : ∀ ds M Q E, sp ds M Q E → ds.length = ps.length)
    (hbody : ∀ (f : Addr) (cdv : Value) (A : Around) (outer : List Env) (s : Shared) (H : Hp) (E : XK), Room k (A.deeper (PyProof.Rows.envOfC qual (defScope st) s.heap.objs.size f cdv)) → ∃ t, DSs (cxOf (L2.CX P w) P w K mg base N qual (defScope st) f cdv A outer s H E) (wOf T E) (defBody st) t ∧
      ∀ (ds : List D) (M : Mp) (Qd : DQ) (Ed : DXK), sp ds M Qd Ed → t { nx := fun _ M' => Fin ⟨K, T⟩ Qd .non M', rt := Fin ⟨K, T⟩ Qd, ex := fun _ C fs M' => Ed C fs M' } (dstart N ds) M) : Mfk P w K mg base T C m (k + 1) ps sp := by
  obtain ⟨f, fd, h1, h2, h3⟩ := Fn.ex
  refine ⟨f, fd, dfn h2 S len fun cdv A outer s H E hr => ?_, h1, h3⟩
  obtain ⟨t, ht, hq⟩ := hbody f cdv A outer s H E hr
  exact ⟨t, ht, fun ds M Qd Ed F H h c => ⟨F, M, Same.refl _, c, hq ds M Qd Ed h⟩⟩
end
section
variable {X : Cx} {W : WT} {e o : Expr} {es : List Expr} {pos apos p : Pos} {C : Addr} {x m : Str}
/-- o.m(..) -/
def dMeth (C : Addr) (m : Str) (sp : DSp) (to : DTE) (t : DTA) : DTE := fun Γ M Q E => to Γ M (fun x M1 => (∃ fs, insD M1 x = some (C, fs) ∧ fs.lookup m = none) ∧ t Γ M1 (fun ds M2 => sp (x :: ds) M2 Q (fun C fs M3 => E Γ C fs M3)) E) E
theorem up_methE {sp : DSp} {F H : Hp} {M : Mp} {vs : List V} {ds : List D} {Qd : DQ} {Q : VK} {σ : L2.St} {Γ : DG} {E : DXE} (c : Cc (kt X W) M F H) (r : Rps (kt X W) F vs ds) (g : RpG (kt X W) F σ Γ) (w : Ew (kt X W) F E W.w)
    (q : sp ds M Qd (fun C fs M2 => E Γ C fs M2)) (k : CoQ (kt X W) F Qd Q) : spUp (kt X W) sp vs H Q (fun cls d H => W.w cls d σ H) :=
  ⟨ds, M, F, Qd, _, c, r, q, k, fun F' H' C d us fs M' s c hd rf q => w F' H' σ Γ C d us fs M' s c (g.mono s) hd rf q⟩
theorem de_meth0 {k : Nat} {ps : List Str} {sp : DSp} {to : DTE} {pl : Sem Bool} (Fn : Mfk X.prog X.w X.K X.mg X.base W.T C m k ps sp) (hC : Cls X.K C) (hr : Room k X.A) (tk : Takes X W.w) (ho : DE X W o to)
    (ht : eval (.Call (.Attribute o m apos) [] [] pos) X.env = (do
      let ov ← eval o X.env
      standAt apos.atName
      let (g, fst) ← holding [ov] (getMethod ov m pl)
      callWith pos g fst (backTo pos (starEach [] X.env)) (backToKw pos (keywordEach [] X.env))) := by rfl) :
    DE X W (.Call (.Attribute o m apos) [] [] pos) (dMeth C m sp to dNil) := by
  obtain ⟨f, fd, h1, h2, h3⟩ := Fn.ex
  exact ⟨peW (pe_meth0Q (E := fun σ cls d H => W.w cls d σ H) ho.pe hC h2 h1 hr h3 (fun σ => passAt tk σ) ht) fun σ H Q ⟨Γ, M, F, E, Qd, a, q, k⟩ => ⟨Γ, M, F, E, _, a, q, fun F1 H1 v d M1 s1 c1 r1 ⟨⟨fs, e1, e2⟩, q1⟩ => by
    obtain ⟨b, dx, vs, rfl, hH, rf⟩ := ins_of c1 r1 e1
    exact ⟨b, dx, vs, rfl, hH, rf.lookO e2, up_methE c1 (.cons r1 .nil) (a.g.mono s1) (a.w.mono s1) q1 (k.mono s1)⟩⟩⟩
/-- C(..): a cell -/
def dMake (C : Addr) (sp : DSp) (t : DTA) : DTE := fun Γ M Q E => t Γ M (fun ds M1 => ∀ p, M1 p = none → sp (.ref p :: ds) (mup M1 p (.ins C [])) (fun d M2 => d = .non ∧ Q (.ref p) M2) (fun C fs M3 => E Γ C fs M3)) E
/-- a class of the text that is made by its __init__ -/
structure Mkk (P : Program) (w : World) (K : PySem.W.Frag) (mg : Str → Option Value) (base : Heap) (T : List (Addr × Str)) (x : Str) (C : Addr) (k : Nat) (ps : List Str) (sp : DSp) : Prop where
  ex : ∃ f fd, FnOk P w K mg base (L2.CX P w) k f fd ps (spUp ⟨K, T⟩ sp) ∧ Mk K C f ∧ L2.Binds K fd ps [] ∧ mg x = some (.ref C)
theorem de_make {k : Nat} {ps : List Str} {sp : DSp} {t : DTA} (Fn : Mkk X.prog X.w X.K X.mg X.base W.T x C k ps sp) (hr : Room (k + 1) X.A) (tk : Takes X W.w) (ha : DA X W (e :: es) t)
    (hg : Gl X x := by rfl) (hdb : (x == ("__debug__" : Str)) = false := by decide) (he : starEach (e :: es) X.env = (false, eval e X.env) :: starEach es X.env := by rfl) (hpl : (backTo pos (starEach es X.env)).any (·.1) = false := by rfl) :
    DE X W (.Call (.Name x p) (e :: es) [] pos) (dMake C sp t) := by
  obtain ⟨f, fd, h1, h2, h3, h4⟩ := Fn.ex
  exact ⟨peW (pe_makeQ (E := fun σ cls d H => W.w cls d σ H) h2 h1 hr hg h4 h3 (fun σ => passAt tk σ) ha.pa hdb he hpl) fun σ H Q ⟨Γ, M, F, E, Qd, a, q, k⟩ => ⟨Γ, M, F, E, _, a, q, fun F1 H1 vs ds M1 s1 c1 r1 q1 y dx hy hdx hne => by
    have sm := Same.upd (o := HO.own y) hdx
    have c2 := c1.same sm
    have hy2 : upd H1 dx (HO.own y) y = none := by rw [upd_ne (Ne.symm hne)]; exact hy
    have c3 := c2.newM (x := .ins C []) hy2 (o := .ins C dx []) ⟨dx, [], rfl, .nil⟩
    refine up_methE c3 (.cons (.ref y) r1) (a.g.mono s1) (a.w.mono s1) (q1 y (c1.Mnone hy)) fun F2 H2 v d M2 s2 c4 r4 ⟨e1, q2⟩ => ?_
    subst e1
    cases r4
    exact ⟨rfl, k F2 H2 _ _ M2 (s1.trans s2) c4 (.ref y) q2⟩⟩⟩
end
end DL
namespace DL
open PySem L2
section
variable {κ β : Type} [DecidableEq κ]
def valG (kvs : List (κ × β)) (k : κ) : Option β := (kvs.find? fun kv => decide (kv.1 = k)).map (·.2)
def putG (kvs : List (κ × β)) (k : κ) (v : β) : List (κ × β) := if (kvs.any fun kv => decide (kv.1 = k)) = true then kvs.map (fun kv => if kv.1 = k then (kv.1, v) else kv) else kvs ++ [(k, v)]
def dropG (kvs : List (κ × β)) (k : κ) : List (κ × β) := kvs.filter fun kv => decide (kv.1 ≠ k)
end
section
variable {K : KTb} {F : Hp}
theorem RpK.val {k : Key} : ∀ {vs : List (Key × V)} {ds : List (Key × D)}, RpK K F vs ds → (∀ d, valG ds k = some d → ∃ v, valV vs k = some v ∧ Rp K F v d) ∧ (valG ds k = none → valV vs k = none)
  | _, _, .nil => ⟨fun d e => (by cases e), fun _ => rfl⟩
  | (k1, v1) :: vs, (_, d1) :: ds, .cons r t => by
    obtain ⟨h1, h2⟩ := RpK.val (k := k) t
    by_cases e : k1 = k
    · have e1 : valG ((k1, d1) :: ds) k = some d1 := by simp [valG, e]
      have e2 : valV ((k1, v1) :: vs) k = some v1 := by simp [valV, e]
      rw [e1, e2]
      exact ⟨fun d z => by cases z; exact ⟨v1, rfl, r⟩, fun z => by cases z⟩
    · have e1 : valG ((k1, d1) :: ds) k = valG ds k := by simp [valG, e]
      have e2 : valV ((k1, v1) :: vs) k = valV vs k := by simp [valV, e]
      rw [e1, e2]
      exact ⟨h1, h2⟩
theorem RpK.some {k : Key} {vs : List (Key × V)} {ds : List (Key × D)} (h : RpK K F vs ds) : (valV vs k).isSome = (valG ds k).isSome := by
  obtain ⟨h1, h2⟩ := h.val (k := k)
  cases e : valG ds k with
  | none => rw [h2 e]; rfl
  | some d =>
    obtain ⟨v, e2, _⟩ := h1 d e
    rw [e2]
    rfl
theorem RpK.len : ∀ {vs : List (Key × V)} {ds : List (Key × D)}, RpK K F vs ds → vs.length = ds.length
  | _, _, .nil => rfl
  | _, _, .cons _ t => congrArg (· + 1) (RpK.len t)
theorem RpK.any {k : Key} : ∀ {vs : List (Key × V)} {ds : List (Key × D)}, RpK K F vs ds → (vs.any fun kv => decide (kv.1 = k)) = (ds.any fun kv => decide (kv.1 = k))
  | _, _, .nil => rfl
  | (k1, v1) :: vs, (_, d1) :: ds, .cons r t => by
    rw [List.any_cons, List.any_cons, RpK.any t]
theorem RpK.over {k : Key} {v : V} {d : D} (r : Rp K F v d) : ∀ {vs : List (Key × V)} {ds : List (Key × D)}, RpK K F vs ds → RpK K F (vs.map fun kv => if kv.1 = k then (kv.1, v) else kv) (ds.map fun kv => if kv.1 = k then (kv.1, d) else kv)
  | _, _, .nil => .nil
  | (k1, v1) :: vs, (_, d1) :: ds, .cons q t => by
    rw [List.map_cons, List.map_cons]
    by_cases e : k1 = k
    · rw [if_pos e, if_pos e]
      exact .cons r (RpK.over r t)
    · rw [if_neg e, if_neg e]
      exact .cons q (RpK.over r t)
theorem RpK.app : ∀ {vs us : List (Key × V)} {ds es : List (Key × D)}, RpK K F vs ds → RpK K F us es → RpK K F (vs ++ us) (ds ++ es)
  | _, _, _, _, .nil, s => s
  | _, _, _, _, .cons r t, s => .cons r (RpK.app t s)
theorem RpK.put {k : Key} {v : V} {d : D} {vs : List (Key × V)} {ds : List (Key × D)} (r : Rp K F v d) (h : RpK K F vs ds) : RpK K F (putK vs k v) (putG ds k d) := by
  unfold putK putG
  rw [h.any]
  split
  · exact h.over r
  · exact h.app (.cons r .nil)
theorem RpK.drop {k : Key} : ∀ {vs : List (Key × V)} {ds : List (Key × D)}, RpK K F vs ds → RpK K F (dropK vs k) (dropG ds k)
  | _, _, .nil => .nil
  | (k1, v1) :: vs, (_, d1) :: ds, .cons r t => by
    unfold dropK dropG
    rw [List.filter_cons, List.filter_cons]
    by_cases e : k1 = k
    · simp only [e, ne_eq, not_true_eq_false, decide_false, Bool.false_eq_true, if_false]
      exact RpK.drop t
    · simp only [e, ne_eq, not_false_eq_true, decide_true, if_true]
      exact .cons r (RpK.drop t)
theorem RpK.get : ∀ {vs : List (Key × V)} {ds : List (Key × D)} {i : Nat} {k : Key} {d : D}, RpK K F vs ds → ds[i]? = .some (k, d) → ∃ v, vs[i]? = .some (k, v) ∧ Rp K F v d
  | _, _, _, _, _, .nil, e => by simp at e
  | (k1, v1) :: vs, (_, d1) :: ds, 0, k, d, .cons r t, e => by
    simp at e
    obtain ⟨rfl, rfl⟩ := e
    exact ⟨v1, rfl, r⟩
  | (k1, v1) :: vs, (_, d1) :: ds, i + 1, k, d, .cons r t, e => by
    obtain ⟨v, h1, h2⟩ := RpK.get (i := i) t (by simpa using e)
    exact ⟨v, by simpa using h1, h2⟩
end
/-- a dict: frozen, a cell -/
def dcD (M : Mp) : D → Option (List (Key × D))
  | .dic kvs => some kvs
  | .ref p => match M p with
    | some (.dic kvs) => some kvs
    | some (.lkd kvs _) => some kvs
    | _ => none
  | _ => none
def keyD : D → Option Key
  | .int i => some (.inl i)
  | .str x => some (.inr x)
  | _ => none
section
variable {X : Cx} {W : WT} {e a b o i tg : Expr} {pos pos' tpos : Pos}
/-- {} -/
def dDnew : DTE := fun _ M Q _ => ∀ p, M p = none → Q (.ref p) (mup M p (.dic []))
/-- k in d -/
def dDin (neg : Bool) (ty td : DTE) : DTE := fun Γ M Q E => ty Γ M (fun x M1 => td Γ M1 (fun y M2 => ∃ kvs k, dcD M2 y = some kvs ∧ keyD x = some k ∧ Q (.bl (if neg = true then !(valG kvs k).isSome else (valG kvs k).isSome)) M2) E) E
/-- d[k] -/
def dDget (td ty : DTE) : DTE := fun Γ M Q E => td Γ M (fun x M1 => ty Γ M1 (fun y M2 => ∃ kvs k d, dcD M2 x = some kvs ∧ keyD y = some k ∧ valG kvs k = some d ∧ Q d M2) E) E
/-- d[k] = v -/
def dDput (td ty tv : DTE) : DTS := fun Dn Γ M => tv Γ M (fun v M1 => td Γ M1 (fun x M2 => ty Γ M2 (fun y M3 => ∃ p kvs k, x = .ref p ∧ keyD y = some k ∧ M3 p = some (.dic kvs) ∧ kvs.length < sizeLine ∧ Dn.nx Γ (mup M3 p (.dic (putG kvs k v)))) Dn.ex) Dn.ex) Dn.ex
/-- the dict in a slot is locked while the expression runs -/
def dLck (t : DTE) : DTE := fun Γ M Q E => ∃ p kvs, M p = some (.dic kvs) ∧ ∀ u, t Γ (mup M p (.lkd kvs u)) (fun x M1 => M1 p = some (.lkd kvs u) ∧ Q x (mup M1 p (.dic kvs))) noE
def keyV : Key → D
  | .inl i => .int i
  | .inr x => .str x
/-- for k in d, d locked -/
def dIKeys (t : DTE) : DTI := fun Γ M R E => t Γ M (fun d M1 => ∃ p kvs u, d = .ref p ∧ M1 p = some (.lkd kvs u) ∧ kvs.length ≤ sizeLine ∧ R ⟨kvs.map fun kv => keyV kv.1, fun M2 => M2 p = some (.lkd kvs u)⟩ M1) E
end
end DL
namespace DL
open PySem L2
def dcF (f : D → Option (Key × D)) (xs : List D) : List (Key × D) := xs.foldl (fun kvs d => match f d with | some p => putG kvs p.1 p.2 | none => kvs) []
section
variable {X : Cx} {W : WT} {tg : Expr} {pos : Pos}
def dDc (ti : DTI) (g : DTG) (tt : DTT) (tk tv : DTE) (vs : List Nat) : DTE := fun Γ M Q E => ti Γ M (fun it M1 => ∃ f : D → Option (Key × D), (∀ M', Ext M1 M' → it.ok M') ∧
  (∀ d, d ∈ it.seq → ∀ M', Ext M1 M' → g d (dwipe Γ vs) M' (fun Γ2 M3 => tt Γ2 M3 (fun b M4 => if b = true then tk Γ2 M4 (fun y M5 => tv Γ2 M5 (fun z M6 => M6 = M' ∧ ∃ k, keyD y = some k ∧ f d = some (k, z)) noE) noE else M4 = M' ∧ f d = none) noE)) ∧
  it.seq.length < sizeLine ∧ ∀ p, M1 p = none → Q (.ref p) (mup M1 p (.dic (dcF f it.seq)))) E
end
/-- the statement runs while a dict is locked; no exception leaves it -/
def dLckS (t : DTS) : DTS := fun Dn Γ M => ∃ p kvs, M p = some (.dic kvs) ∧ ∀ u, t { nx := fun Γ' M' => M' p = some (.lkd kvs u) ∧ Dn.nx Γ' (mup M' p (.dic kvs)), rt := fun x M' => M' p = some (.lkd kvs u) ∧ Dn.rt x (mup M' p (.dic kvs)), bk := fun Γ' M' => M' p = some (.lkd kvs u) ∧ Dn.bk Γ' (mup M' p (.dic kvs)), ct := fun Γ' M' => M' p = some (.lkd kvs u) ∧ Dn.ct Γ' (mup M' p (.dic kvs)) } Γ (mup M p (.lkd kvs u))
/-- what a class must have to be made, but for its __init__ -/
structure MkF (K : PySem.W.Frag) (mg : Str → Option Value) (x : Str) (C : Addr) : Prop where
  makes : PySem.W.makesIn K C = true
  kp : PySem.W.keepIn K (.ref C) = true
  at_ : mg x = some (.ref C)
theorem mkk_of {P : Program} {w : World} {K : PySem.W.Frag} {T : List (Addr × Str)} {mg : Str → Option Value} {base : Heap} {x : Str} {C : Addr} {k : Nat} {ps : List Str} {sp : DSp} (h : Mfk P w K mg base T C "__init__" k ps sp) (m : MkF K mg x C) : Mkk P w K mg base T x C k ps sp := by
  obtain ⟨f, fd, h1, h2, h3⟩ := h.ex
  exact ⟨⟨f, fd, h1, ⟨m.makes, h2.at_, h2.fn, m.kp⟩, h3, m.at_⟩⟩
theorem insF {M : Mp} {p C : Addr} {fs : List (Str × D)} : insD (mup M p (.ins C fs)) (.ref p) = some (C, fs) := by
  show (match mup M p (.ins C fs) p with | some (.ins C fs) => some (C, fs) | _ => none) = _
  rw [mup_same]
theorem dcF1 {M : Mp} {p : Addr} {kvs : List (Key × D)} : dcD (mup M p (.dic kvs)) (.ref p) = some kvs := by
  show (match mup M p (.dic kvs) p with | some (.dic kvs) => some kvs | some (.lkd kvs _) => some kvs | _ => none) = _
  rw [mup_same]
end DL
namespace DL
open PySem L2
theorem Rps.erase {K : KTb} {F : Hp} {vs : List V} {ds : List D} (r : Rps K F vs ds) (k : Nat) : Rps K F (vs.eraseIdx k) (ds.eraseIdx k) := by
  rw [List.eraseIdx_eq_take_drop_succ, List.eraseIdx_eq_take_drop_succ]
  exact (r.take k).append (r.drop (k + 1))
section
variable {X : Cx} {W : WT} {o i : Expr} {pos tpos : Pos}
def dDelL (to ti : DTE) : DTS := fun Dn Γ M => to Γ M (fun x M1 => ti Γ M1 (fun y M2 => ∃ (p : Addr) (xs : List D) (k : Nat), x = .ref p ∧ y = .int (k : Nat) ∧ M2 p = some (.lst xs) ∧ k < xs.length ∧ xs.length ≤ 10000000 ∧ Dn.nx Γ (mup M2 p (.lst (xs.eraseIdx k)))) Dn.ex) Dn.ex
end
end DL
namespace DL
open PySem PySem.Spec PyProof.Rows L2
end DL
namespace DL
open PySem L2
structure ExO (K : PySem.W.Frag) (C : Addr) (y : Str) : Prop where
  one : PySem.W.exmOne K (.ref C) (.ref C) = some true
  fld : XfC K C
  nof : PySem.W.findIn K (.ref C) y = some none
/-- an __init__ with a default for its one argument, which is handed all the same -/
theorem ini1_mk {K : PySem.W.Frag} {x qual : Str} {st : Stmt} {f T e : Addr} {oc oc2 : Value} {od od2 an : Option Addr} {osl osl2 : Array (Option Value)} {n : Nat} {kV doc pm cdv ct : Value} {ps : List Str} (hps : ps.length = 2)
    (l : K.lookup f = some ⟨oc, od, .func (PySem.W.fnOf x qual (defArgs st) (defBody st) (defScope st) (.ref T) kV doc pm an cdv ct), osl⟩) (c : PySem.W.codeIn K cdv qual = true) (k : PySem.W.keepIn K (.ref f) = true)
    (lT : K.lookup T = some ⟨oc2, od2, .seq #[.ref e] n, osl2⟩)
    (h : ∀ (T : Addr) (kV doc pm : Value) (an : Option Addr) (cdv ct : Value) (us its : List Value), us.length = 2 → its.length = 1 →
      ∃ k, bindArgs (PySem.W.fnOf x qual (defArgs st) (defBody st) (defScope st) (.ref T) kV doc pm an cdv ct) ⟨us, []⟩ = seqItems? (.ref T) >>= k ∧ k (some its.toArray) = pure (ps.zip (us ++ its.drop 1))) :
    FunK K x qual st f (PySem.W.fnOf x qual (defArgs st) (defBody st) (defScope st) (.ref T) kV doc pm an cdv ct) ∧ Binds K (PySem.W.fnOf x qual (defArgs st) (defBody st) (defScope st) (.ref T) kV doc pm an cdv ct) ps [] := by
  have F : FunD K x qual (defArgs st) (defBody st) (defScope st) [V.ref e] [] f (PySem.W.fnOf x qual (defArgs st) (defBody st) (defScope st) (.ref T) kV doc pm an cdv ct) := ⟨⟨oc, od, .ref T, kV, doc, pm, an, cdv, ct, osl, rfl, l, c, .inr ⟨by simp, T, _, [.ref e], n, rfl, lT, rfl, .cons rfl .nil⟩, .inl rfl⟩, k⟩
  refine ⟨FunK.ofD F, ?_⟩
  obtain ⟨ds, r, b⟩ := F.binds1 (ps := ps) 2 1 (by simp) (by simp [hps]) h
  cases r
  exact b
section
variable {X : Cx} {W : WT}
/-- xs.pop(i), i a place -/
def dPopI (tx te : DTE) : DTE := fun Γ M Q E => tx Γ M (fun d M1 => (∃ xs, sqX M1 d = some xs) ∧ te Γ M1 (fun i M2 => ∃ (p : Addr) (xs : List D) (k : Nat) (y : D), d = .ref p ∧ i = .int (k : Nat) ∧ M2 p = some (.lst xs) ∧ xs[k]? = some y ∧ xs.length ≤ 10000000 ∧ Q y (mup M2 p (.lst (xs.eraseIdx k)))) E) E
end
end DL
namespace DL
open PySem PySem.Spec PyProof.Rows L2
section
variable {X : Cx} {W : WT}
def dLenSet (t : DTE) : DTE := fun Γ M Q E => t Γ M (fun d M1 => ∃ ms : List (Int × Int × Int), sqD M1 d = some (ms.map mkD) ∧ ms.length < 64 ∧ ms.Nodup ∧ Q (.int (ms.length : Nat)) M1) E
end
end DL
namespace DL
open PySem PySem.Spec PyProof.Rows L2
section
variable {X : Cx} {W : WT}
/-- xs.index(y) -/
def dIndex (tx te : DTE) : DTE := fun Γ M Q E => tx Γ M (fun d M1 => (∃ xs, sqX M1 d = some xs) ∧ te Γ M1 (fun y M2 => ∃ (xs : List D) (j : Nat) (z : D), res M2 d = .lst xs ∧ shD (.lst xs) = true ∧ shD (res M2 y) = true ∧ xs[j]? = some z ∧ deq z (res M2 y) = true ∧
  (∀ (m : Nat) (z' : D), m < j → xs[m]? = some z' → deq z' (res M2 y) = false) ∧ Q (.int (j : Nat)) M2) E) E
theorem de_index {xs y : Expr} {apos cpos : Pos} {tx te : DTE} (hu : X.A.units + 65 < cLine) (hx : DE X W xs tx) (hy : DE X W y te)
    (hbase : attributeBase xs "index" X.env (eval xs X.env) = eval xs X.env := by rfl)
    (hfew : ((backTo cpos (starEach [y] X.env)).all (fun x => !x.1) && (backToKw cpos (keywordEach [] X.env)).all (fun x => x.1.isSome) && decide (([y] : List Expr).length + ([] : List Keyword).length + (if ([] : List Keyword).isEmpty then 0 else 1) < 30)) = true := by rfl)
    (hline : (apos.endLine == cpos.line) = true := by rfl) (hs : starEach [y] X.env = (false, eval y X.env) :: starEach [] X.env := by rfl) : DE X W (.Call (.Attribute xs "index" apos) [y] [] cpos) (dIndex tx te) :=
  ⟨peW (pe_bm PySem.F.plainAttrs_list PySem.F.slot_list_index PySem.F.type_list_index (mt_indexD hu) hx.pe (pa_cons hy.pe pa_nil hs) hbase hfew hline hs rfl) fun σ H Q ⟨Γ, M, F, E, Qd, a, q, k⟩ => ⟨Γ, M, F, E, _, a, q, fun F1 H1 v d M1 s1 c1 r1 ⟨⟨xs, e1⟩, q1⟩ => ⟨ty_list c1 r1 e1,
    Γ, M1, F1, E, _, a.next s1 c1, q1, fun F2 H2 w e M2 s2 c2 r2 ⟨ys, j, z, h1, h2, h3, h4, h5, h6, q2⟩ => by
      have rd := dp_res c2 (r1.mono s2) (by rw [h1]; exact h2)
      rw [h1] at rd
      simp only [D.py] at rd
      have ry := dp_res c2 r2 h3
      obtain ⟨av, vs, rfl, _, _⟩ := sqx_of c1 r1 e1
      refine ⟨av, w, (res M2 e).py, pys ys, j, z.py, rfl, rfl, rd, ry, by simpa [shD, D.py] using h2, h3, by rw [pys_map, List.getElem?_map, h4]; rfl, h5, fun m z' hm hz' => ?_, k _ _ _ _ _ (s1.trans s2) c2 (.int _) q2⟩
      rw [pys_map, List.getElem?_map] at hz'
      cases e9 : ys[m]? with
      | none => rw [e9] at hz'; cases hz'
      | some z0 =>
        rw [e9] at hz'
        cases hz'
        exact h6 m z0 hm e9⟩⟩⟩
end
end DL
namespace DL
open PySem PySem.Spec PyProof.Rows L2 LamX NdefX
abbrev pI (p : Int × Int) : D := tupI [p.1, p.2]
def pLt (p q : Int × Int) : Bool := HT.lexLt [p.1, p.2] [q.1, q.2]
theorem pLt_iff {p q : Int × Int} : pLt p q = true ↔ p.1 < q.1 ∨ p.1 = q.1 ∧ p.2 < q.2 := by
  unfold pLt
  rw [HT.lexLt_cons, HT.lexLt_cons, HT.lexLt_nil_nil]
  by_cases h : p.1 = q.1
  · by_cases h2 : p.2 = q.2
    · simp [h, h2]
    · simp [h, h2]
  · simp [h]
theorem pLt_no {p q : Int × Int} : pLt p q = false ↔ q.1 < p.1 ∨ q.1 = p.1 ∧ q.2 ≤ p.2 := by
  rw [← Bool.not_eq_true, pLt_iff]
  omega
theorem pLt_up {p q r : Int × Int} (h1 : pLt p q = true) (h2 : pLt p r = false) : pLt q r = false := by
  rw [pLt_iff] at h1
  rw [pLt_no] at h2 ⊢
  omega
theorem pLt_self (p : Int × Int) : pLt p p = false := by
  rw [pLt_no]
  omega
/-- the reading: t the list's, sp the lambda's promise -/
def dMaxK (sp : DSp) (t : DTE) : DTE := fun Γ M Q E => t Γ M (fun d M1 => ∃ (ds : List D) (kf : D → Int × Int), sqD M1 d = some ds ∧ ds ≠ [] ∧ (∀ x, x ∈ ds → sp [x] M1 (fun v M2 => M2 = M1 ∧ v = pI (kf x)) (fun _ _ _ => False)) ∧
  ∀ x, x ∈ ds → (∀ y, y ∈ ds → pLt (kf x) (kf y) = false) → Q x M1) E
end DL
namespace DL
open PySem PySem.Spec PyProof.Rows L2
def ikey (k : List Int) : List L2.Key := k.map Sum.inl
theorem ikey_inj {k l : List Int} (h : ikey k = ikey l) : k = l := by
  unfold ikey at h
  exact List.map_inj_right (fun a b e => by cases e; rfl) |>.mp h
/-- the object at a is the dict of these entries: key, the key's tuple, value -/
def DtO (P : Program) (w : World) (a : Addr) (xs : List (List L2.Key × Addr × Value)) : HO := .ext fun h => ∃ o es ep, h.get? a = some o ∧ o.ExactDict ∧ o.data = .dict es ep ∧ es.toList = xs.map (entryOfKey (tupleKind (mixKind P w))) ∧ (xs.map (·.1)).Nodup
/-- one entry: the key's tuple stands at its address -/
def EntV (K : PySem.W.Frag) (H : Hp) (p : List Int × Int) (q : List L2.Key × Addr × Value) : Prop := q.1 = ikey p.1 ∧ SqT K H q.2.1 (p.1.map V.int) ∧ ∃ t, q.2.2 = .int p.2 t
inductive Ents (K : PySem.W.Frag) (H : Hp) : List (List Int × Int) → List (List L2.Key × Addr × Value) → Prop
  | nil : Ents K H [] []
  | cons {p ps q qs} : EntV K H p q → Ents K H ps qs → Ents K H (p :: ps) (q :: qs)
section
variable {K : PySem.W.Frag} {H : Hp}
theorem Ents.len {ps qs} (h : Ents K H ps qs) : ps.length = qs.length := by
  induction h with
  | nil => rfl
  | cons _ _ ih => simp [ih]
theorem Ents.keys {ps qs} (h : Ents K H ps qs) : qs.map (·.1) = ps.map fun p => ikey p.1 := by
  induction h with
  | nil => rfl
  | cons e _ ih => rw [List.map_cons, List.map_cons, ih, e.1]
theorem Ents.mem {ps qs} (h : Ents K H ps qs) : ∀ q ∈ qs, ∃ p ∈ ps, EntV K H p q := by
  induction h with
  | nil => intro q hq; cases hq
  | cons e _ ih =>
    intro q hq
    rcases List.mem_cons.mp hq with rfl | hq
    · exact ⟨_, List.mem_cons_self, e⟩
    · obtain ⟨p, hp, r⟩ := ih q hq
      exact ⟨p, List.mem_cons_of_mem _ hp, r⟩
end
/-- .. by data -/
def dctD (K : KTb) (P : Program) (w : World) (a : Addr) (kvs : List (List Int × Int)) : D := .any (.ref a) fun F => ∃ L : List (Addr × Value), L.length = kvs.length ∧ F a = some (DtO P w a ((kvs.zip L).map fun p => (ikey p.1.1, p.2.1, p.2.2))) ∧ ∀ p ∈ kvs.zip L, Rp K F (.ref p.2.1) (tupI p.1.1) ∧ ∃ t, p.2.2 = Value.int p.1.2 t
def kvD (p : List Int × Int) : D := .tup [tupI p.1, .int p.2]
def rdDictP (K : KTb) (P : Program) (w : World) : D1s := fun ds M Q => ∃ (d : D) (kvs : List (List Int × Int)), ds = [d] ∧ sqD M d = some (kvs.map kvD) ∧ (kvs.map (·.1)).Nodup ∧ ∀ a, Q (dctD K P w a kvs) M
section
variable {X : Cx} {W : WT} {o i : Expr} {pos : Pos}
def dDctGet (K : KTb) (P : Program) (w : World) (td ty : DTE) : DTE := fun Γ M Q E => td Γ M (fun d M1 => ty Γ M1 (fun y M2 => ∃ (a : Addr) (kvs : List (List Int × Int)) (k : List Int) (v : Int), d = dctD K P w a kvs ∧ y = tupI k ∧ (kvs.find? fun p => decide (p.1 = k)) = some (k, v) ∧ Q (.int v) M2) E) E
end
end DL
namespace L2
open PySem PySem.Spec PyProof.Rows
end L2
namespace DL
open PySem L2
section
variable {X : Cx} {es : List Expr} {e : Expr} {pos p : Pos}
/-- a, *rest = ..; the rest is frozen -/
def gdStar (t : DTGs) : DTG := fun d Γ M Q => ∃ x xs, (sqD M d = some (x :: xs) ∨ tpD d = some (x :: xs)) ∧ xs.length + 1 ≤ 16384 ∧ t [x, .lst xs] Γ M Q
/-- a new instance that is frozen at once -/
def dFrzI (t : DTE) : DTE := fun Γ M Q E => t Γ M (fun d M1 => ∃ p C fs, d = .ref p ∧ M1 p = some (.ins C fs) ∧ Q (.obj C fs) (mdel M1 p)) E
theorem de_frzI {W : WT} {t : DTE} (h : DE X W e t) : DE X W e (dFrzI t) := ⟨peW h.pe fun σ H Q ⟨Γ, M, F, E, Qd, a, q, k⟩ => ⟨Γ, M, F, E, _, a, q, fun F1 H1 v d M1 s1 c1 r1 ⟨p, C, fs, e1, e2, q1⟩ => by
  subst e1
  cases r1
  obtain ⟨F2, s2, c2, r2⟩ := c1.freezeI e2
  exact k F2 H1 _ _ _ (s1.trans s2) c2 r2 q1⟩⟩
end
section
variable {X : Cx} {W : WT} {a : Expr}
/-- list(range(n)): a cell -/
def dListRg1 (ta : DTE) : DTE := fun Γ M Q E => ta Γ M (fun x M1 => ∃ j : Int, x = .int j ∧ RgOk 0 j ∧ ∀ p, M1 p = none → Q (.ref p) (mup M1 p (.lst (rngD 0 1 j.toNat)))) E
theorem de_listRg1 {ta : DTE} {p p2 pos pos2 : Pos} (hc : X.calm = true) (hml : X.mg "list" = none) (hmr : X.mg "range" = none) (ha : DE X W a ta) (hgl : Gl X "list" := by rfl) (hgr : Gl X "range" := by rfl)
    (n0 : starEach [.Call (.Name "range" p2) [a] [] pos2] X.env = (false, eval (.Call (.Name "range" p2) [a] [] pos2) X.env) :: starEach [] X.env := by rfl)
    (n1 : starEach [a] X.env = (false, eval a X.env) :: starEach [] X.env := by rfl) :
    DE X W (.Call (.Name "list" p) [.Call (.Name "range" p2) [a] [] pos2] [] pos) (dListRg1 ta) :=
  ⟨peW (pe_listRg hc hgl hml (prg_1 hgr hmr ha.pe n1) n0) fun σ H Q ⟨Γ, M, F, E, Qd, at0, q, k⟩ => ⟨Γ, M, F, E, _, at0, q, fun F1 H1 v d M1 s1 c1 r1 ⟨j, e1, ok, q1⟩ => by
    subst e1
    cases r1
    refine ⟨j, rfl, ok, fun q hq => k F1 _ _ _ _ s1 (c1.newM (x := .lst _) hq ⟨_, rfl, ?_⟩) (.ref q) (q1 q (c1.Mnone hq))⟩
    have := rgV_eq 0 j F1 (K := kt X W)
    rw [Int.sub_zero] at this
    exact this⟩⟩
end
end DL
namespace L2
open PySem PySem.Spec PyProof.Rows HT
end L2
namespace DL
open PySem L2
section
variable {X : Cx} {W : WT} {o value : Expr} {lo hi : Option Expr} {p2 pos pos' tpos : Pos}
def dDelSl (to : DTE) (tl th : DTO) : DTS := fun Dn Γ M => to Γ M (fun x M1 => tl Γ M1 (fun l M2 => th Γ M2 (fun u M3 => ∃ p xs a c, x = .ref p ∧ l = some a ∧ u = some c ∧ M3 p = some (.lst xs) ∧ 0 ≤ a ∧ a ≤ c ∧ c ≤ xs.length ∧ Dn.nx Γ (mup M3 p (.lst (xs.take a.toNat ++ xs.drop c.toNat)))) Dn.ex) Dn.ex) Dn.ex
def dSetSl (tv to : DTE) (tl th : DTO) : DTS := fun Dn Γ M => tv Γ M (fun v M0 => to Γ M0 (fun x M1 => tl Γ M1 (fun l M2 => th Γ M2 (fun u M3 => ∃ p xs ys a c, x = .ref p ∧ v = .lst ys ∧ l = some a ∧ u = some c ∧ M3 p = some (.lst xs) ∧ 0 ≤ a ∧ a ≤ c ∧ c ≤ xs.length ∧ xs.length + ys.length ≤ sizeLine ∧ Dn.nx Γ (mup M3 p (.lst (xs.take a.toNat ++ ys ++ xs.drop c.toNat)))) Dn.ex) Dn.ex) Dn.ex) Dn.ex
end
theorem RpK.keys {K : KTb} {F : Hp} : ∀ {vs : List (Key × V)} {kvs : List (Key × D)}, RpK K F vs kvs → vs.map (·.1) = kvs.map (·.1)
  | _, _, .nil => rfl
  | (k, v) :: vs, (_, d) :: kvs, .cons r t => by rw [List.map_cons, List.map_cons, RpK.keys t]
section
variable {X : Cx} {W : WT} {o e : Expr} {pos tpos apos cpos : Pos}
/-- d.pop(k), there -/
def dDpop (td ty : DTE) : DTE := fun Γ M Q E => td Γ M (fun x M1 => (∃ kvs, dcD M1 x = some kvs) ∧ ty Γ M1 (fun y M2 => ∃ p kvs k d, x = .ref p ∧ M2 p = some (.dic kvs) ∧ keyD y = some k ∧ valG kvs k = some d ∧ Q d (mup M2 p (.dic (dropG kvs k)))) E) E
/-- del d[k] -/
def dDdel (td ty : DTE) : DTS := fun Dn Γ M => td Γ M (fun x M1 => ty Γ M1 (fun y M2 => ∃ p kvs k, x = .ref p ∧ M2 p = some (.dic kvs) ∧ keyD y = some k ∧ (valG kvs k).isSome = true ∧ Dn.nx Γ (mup M2 p (.dic (dropG kvs k)))) Dn.ex) Dn.ex
end
section
variable {K : KTb} {F : Hp}
theorem RpT.val {k : List Key} : ∀ {vs : List (List Key × V)} {ds : List (List Key × D)}, RpT K F vs ds → (∀ d, valG ds k = some d → ∃ v, valV vs k = some v ∧ Rp K F v d) ∧ (valG ds k = none → valV vs k = none)
  | _, _, .nil => ⟨fun d e => (by cases e), fun _ => rfl⟩
  | (k1, v1) :: vs, (_, d1) :: ds, .cons r t => by
    obtain ⟨h1, h2⟩ := RpT.val (k := k) t
    by_cases e : k1 = k
    · have e1 : valG ((k1, d1) :: ds) k = some d1 := by simp [valG, e]
      have e2 : valV ((k1, v1) :: vs) k = some v1 := by simp [valV, e]
      rw [e1, e2]
      exact ⟨fun d z => by cases z; exact ⟨v1, rfl, r⟩, fun z => by cases z⟩
    · have e1 : valG ((k1, d1) :: ds) k = valG ds k := by simp [valG, e]
      have e2 : valV ((k1, v1) :: vs) k = valV vs k := by simp [valV, e]
      rw [e1, e2]
      exact ⟨h1, h2⟩
theorem RpT.some {k : List Key} {vs : List (List Key × V)} {ds : List (List Key × D)} (h : RpT K F vs ds) : (valV vs k).isSome = (valG ds k).isSome := by
  obtain ⟨h1, h2⟩ := h.val (k := k)
  cases e : valG ds k with
  | none => rw [h2 e]; rfl
  | some d =>
    obtain ⟨v, e2, _⟩ := h1 d e
    rw [e2]
    rfl
theorem RpT.len : ∀ {vs : List (List Key × V)} {ds : List (List Key × D)}, RpT K F vs ds → vs.length = ds.length
  | _, _, .nil => rfl
  | _, _, .cons _ t => congrArg (· + 1) (RpT.len t)
theorem RpT.any {k : List Key} : ∀ {vs : List (List Key × V)} {ds : List (List Key × D)}, RpT K F vs ds → (vs.any fun kv => decide (kv.1 = k)) = (ds.any fun kv => decide (kv.1 = k))
  | _, _, .nil => rfl
  | (k1, v1) :: vs, (_, d1) :: ds, .cons r t => by
    rw [List.any_cons, List.any_cons, RpT.any t]
theorem RpT.over {k : List Key} {v : V} {d : D} (r : Rp K F v d) : ∀ {vs : List (List Key × V)} {ds : List (List Key × D)}, RpT K F vs ds → RpT K F (vs.map fun kv => if kv.1 = k then (kv.1, v) else kv) (ds.map fun kv => if kv.1 = k then (kv.1, d) else kv)
  | _, _, .nil => .nil
  | (k1, v1) :: vs, (_, d1) :: ds, .cons q t => by
    rw [List.map_cons, List.map_cons]
    by_cases e : k1 = k
    · rw [if_pos e, if_pos e]
      exact .cons r (RpT.over r t)
    · rw [if_neg e, if_neg e]
      exact .cons q (RpT.over r t)
theorem RpT.app : ∀ {vs us : List (List Key × V)} {ds es : List (List Key × D)}, RpT K F vs ds → RpT K F us es → RpT K F (vs ++ us) (ds ++ es)
  | _, _, _, _, .nil, s => s
  | _, _, _, _, .cons r t, s => .cons r (RpT.app t s)
theorem RpT.put {k : List Key} {v : V} {d : D} {vs : List (List Key × V)} {ds : List (List Key × D)} (r : Rp K F v d) (h : RpT K F vs ds) : RpT K F (putK vs k v) (putG ds k d) := by
  unfold putK putG
  rw [h.any]
  split
  · exact h.over r
  · exact h.app (.cons r .nil)
end
/-- a dict by tuples: frozen, a cell -/
def dtD (M : Mp) : D → Option (List (List Key × D))
  | .dit kvs => some kvs
  | .ref p => match M p with
    | some (.dit kvs) => some kvs
    | _ => none
  | _ => none
/-- a tuple of ints that was made by the text -/
def keyT (b : Addr) (ns : List Int) : D := .any (.ref b) fun F => F b = some (.tup (ns.map V.int))
section
variable {X : Cx} {W : WT} {e a b o i tg : Expr} {pos pos' tpos : Pos}
def dDnewT : DTE := fun _ M Q _ => ∀ p, M p = none → Q (.ref p) (mup M p (.dit []))
def dDinT (neg : Bool) (ty td : DTE) : DTE := fun Γ M Q E => ty Γ M (fun x M1 => td Γ M1 (fun y M2 => ∃ kvs b ns, dtD M2 y = some kvs ∧ x = keyT b ns ∧ Q (.bl (if neg = true then !(valG kvs (ikey ns)).isSome else (valG kvs (ikey ns)).isSome)) M2) E) E
def dDgetT (td ty : DTE) : DTE := fun Γ M Q E => td Γ M (fun x M1 => ty Γ M1 (fun y M2 => ∃ kvs b ns d, dtD M2 x = some kvs ∧ y = keyT b ns ∧ valG kvs (ikey ns) = some d ∧ Q d M2) E) E
def dDputT (td ty tv : DTE) : DTS := fun Dn Γ M => tv Γ M (fun v M1 => td Γ M1 (fun x M2 => ty Γ M2 (fun y M3 => ∃ p kvs b ns, x = .ref p ∧ y = keyT b ns ∧ M3 p = some (.dit kvs) ∧ kvs.length < sizeLine ∧ Dn.nx Γ (mup M3 p (.dit (putG kvs (ikey ns) v)))) Dn.ex) Dn.ex) Dn.ex
end
end DL
namespace L2
open PySem PySem.Spec PyProof.Rows
end L2
namespace DL
open PySem L2
section
variable {X : Cx} {W : WT} {e o : Expr} {es : List Expr} {pos pos' apos p : Pos} {C : Addr} {f x m : Str} {kws : List Keyword}
/-- o.f += e, ints -/
def dFldAug (C : Addr) (f : Str) (to te : DTE) : DTS := fun Dn Γ M => to Γ M (fun x M1 => ∃ q fs i, x = .ref q ∧ M1 q = some (.ins C fs) ∧ fs.lookup f = some (.int i) ∧ te Γ M1 (fun y M2 => ∃ j fs', y = .int j ∧ M2 q = some (.ins C fs') ∧ fs'.length < 1000 ∧ Dn.nx Γ (mup M2 q (.ins C (putD f (.int (i + j)) fs')))) Dn.ex) Dn.ex
/-- try: body / finally: suite -/
def dFin (tb tf : DTS) : DTS := fun Dn Γ M => tb { nx := fun Γ2 M2 => tf { nx := Dn.nx, rt := Dn.rt, bk := Dn.bk, ct := Dn.ct } Γ2 M2, rt := fun _ _ => False, ex := fun Γ2 C fs M2 => tf { nx := fun Γ3 M3 => Dn.ex Γ3 C fs M3, rt := fun _ _ => False } Γ2 M2 } Γ M
structure PatD (K : PySem.W.Frag) where
  n : Nat
  ks : List Str
  gV : List V → List V → List V
  gD : List D → List D → List D
  rel : ∀ {T : List (Addr × Str)} {F : Hp} {vs zs : List V} {ds es : List D}, Rps ⟨K, T⟩ F vs ds → Rps ⟨K, T⟩ F zs es → vs.length = n → zs.length = ks.length → Rps ⟨K, T⟩ F (gV vs zs) (gD ds es)
end
section
variable {P : Program} {w : World} {K : PySem.W.Frag} {T : List (Addr × Str)} {mg : Str → Option Value} {base : Heap}
structure MethAtP (K : PySem.W.Frag) (C : Addr) (m qual : Str) (st : Stmt) (ps : List Str) (pats : List (PatD K)) : Prop where
  ex : ∃ f fd, Meth K C m f ∧ FunK K m qual st f fd ∧ ∀ pt ∈ pats, ∃ g, KBn K fd ps pt.n pt.ks g pt.gV
structure MfkP (P : Program) (w : World) (K : PySem.W.Frag) (mg : Str → Option Value) (base : Heap) (T : List (Addr × Str)) (C : Addr) (m : Str) (k : Nat) (ps : List Str) (pats : List (PatD K)) (sp : DSp) : Prop where
  ex : ∃ f fd, FnOk P w K mg base (L2.CX P w) k f fd ps (spUp ⟨K, T⟩ sp) ∧ Meth K C m f ∧ ∀ pt ∈ pats, ∃ g, KBn K fd ps pt.n pt.ks g pt.gV
theorem MethAtP.ok {C : Addr} {m qual : Str} {st : Stmt} {N ps : List Str} {pats : List (PatD K)} {k : Nat} {sp : DSp} (Fn : MethAtP K C m qual st ps pats) (S : FnScope N ps (defScope st)) (len : ∀ ds M Q E, sp ds M Q E → ds.length = ps.length)
    (hbody : ∀ (f : Addr) (cdv : Value) (A : Around) (outer : List Env) (s : Shared) (H : Hp) (E : XK), Room k (A.deeper (PyProof.Rows.envOfC qual (defScope st) s.heap.objs.size f cdv)) → ∃ t, DSs (cxOf (L2.CX P w) P w K mg base N qual (defScope st) f cdv A outer s H E) (wOf T E) (defBody st) t ∧
      ∀ (ds : List D) (M : Mp) (Qd : DQ) (Ed : DXK), sp ds M Qd Ed → t { nx := fun _ M' => Fin ⟨K, T⟩ Qd .non M', rt := Fin ⟨K, T⟩ Qd, ex := fun _ C fs M' => Ed C fs M' } (dstart N ds) M) : MfkP P w K mg base T C m (k + 1) ps pats sp := by
  obtain ⟨f, fd, h1, h2, h3⟩ := Fn.ex
  refine ⟨f, fd, dfn h2 S len fun cdv A outer s H E hr => ?_, h1, h3⟩
  obtain ⟨t, ht, hq⟩ := hbody f cdv A outer s H E hr
  exact ⟨t, ht, fun ds M Qd Ed F H h c => ⟨F, M, Same.refl _, c, hq ds M Qd Ed h⟩⟩
end
section
variable {X : Cx} {W : WT} {e o : Expr} {es : List Expr} {pos apos p : Pos} {C : Addr} {x m : Str} {kws : List Keyword}
def dMethK (C : Addr) (m : Str) {K : PySem.W.Frag} (pt : PatD K) (sp : DSp) (to : DTE) (t tk : DTA) : DTE := fun Γ M Q E => to Γ M (fun x M1 => (∃ fs, insD M1 x = some (C, fs) ∧ fs.lookup m = none) ∧ t Γ M1 (fun ds M2 => tk Γ M2 (fun zs M3 => ds.length + 1 = pt.n ∧ zs.length = pt.ks.length ∧ sp (pt.gD (x :: ds) zs) M3 Q (fun C fs M4 => E Γ C fs M4)) E) E) E
end
end DL
namespace DL
open PySem L2
section
variable {X : Cx} {W : WT} {e o : Expr} {es : List Expr} {pos apos p : Pos} {C : Addr} {x m : Str} {kws : List Keyword}
def dMakeK (C : Addr) {K : PySem.W.Frag} (pt : PatD K) (sp : DSp) (t tk : DTA) : DTE := fun Γ M Q E => t Γ M (fun ds M1 => tk Γ M1 (fun zs M2 => ds.length + 1 = pt.n ∧ zs.length = pt.ks.length ∧ ∀ p, M2 p = none → sp (pt.gD (.ref p :: ds) zs) (mup M2 p (.ins C [])) (fun d M3 => d = .non ∧ Q (.ref p) M3) (fun C fs M4 => E Γ C fs M4)) E) E
end
end DL
namespace DL
open PySem L2 PySem.Spec PyProof.Rows
section
variable {X : Cx} {W : WT} {e : Expr} {apos cpos p p2 : Pos} {te : DTE} {kvs : List (Str × Int)} {miss : List Str} {x : Str}
def dWget (kvs : List (Str × Int)) (miss : List Str) (te : DTE) (j : Int) : DTE := fun Γ M Q E => te Γ M (fun y M1 => ∃ z, y = .str z ∧ ((∃ i, (z, i) ∈ kvs ∧ Q (.int i) M1) ∨ (z ∈ miss ∧ Q (.int j) M1))) E
end
section
variable {X : Cx} {W : WT} {e : Expr}
def dFrzD (t : DTE) : DTE := fun Γ M Q E => t Γ M (fun d M1 => ∃ p kvs, d = .ref p ∧ M1 p = some (.dic kvs) ∧ Q (.dic kvs) (mdel M1 p)) E
def dFrzT (t : DTE) : DTE := fun Γ M Q E => t Γ M (fun d M1 => ∃ p kvs, d = .ref p ∧ M1 p = some (.dit kvs) ∧ Q (.dit kvs) (mdel M1 p)) E
end
end DL
namespace PySem
open Sem (wp)
open AutoSeq1 (wpAny_loadPart')
end PySem
namespace L2
open PySem PySem.Spec PyProof.Rows
end L2
namespace DL
open PySem L2
section
variable {X : Cx} {W : WT} {e : Expr}
def dIEn0 (t : DTA) : DTI := fun Γ M R E => t Γ M (fun ds M1 => ∃ d, ds = [d] ∧ ((∃ xs, sqD M1 d = some xs ∧ xs.length ≤ sizeLine ∧ R ⟨enD xs, fun M2 => sqD M2 d = some xs⟩ M1) ∨ (d = .tup [] ∧ R ⟨[], fun _ => True⟩ M1))) E
end
end DL
namespace L2
open PySem PySem.Spec PyProof.Rows
end L2
namespace DL
open PySem L2
def rdEqE : D2 := fun x y M Q => ∃ xs, sqD M x = some xs ∧ sqD M y = some [] ∧ Q (.bl xs.isEmpty) M
end DL
namespace DL
open PySem PySem.Spec PyProof.Rows L2
def rdDictN : D1s := fun ds M Q => ∃ (d : D) (kvs : List (Str × D)), ds = [d] ∧ sqD M d = some (kvs.map fun kv => .tup [.str kv.1, kv.2]) ∧ (kvs.map (·.1)).Nodup ∧ ∀ p, M p = none → Q (.ref p) (mup M p (.dic (kvs.map fun kv => ((Sum.inr kv.1 : L2.Key), kv.2))))
end DL
namespace L2
open PySem PySem.Spec PyProof.Rows
end L2
namespace DL
open PySem PySem.Spec PyProof.Rows L2
section
variable {X : Cx} {W : WT} {e : Expr} {es : List Expr} {pos p : Pos}
def dFmt (te : DTE) : DTE := fun Γ M Q E => te Γ M (fun d M1 => (∃ y : Str, d = .str y ∧ y.length ≤ sizeLine ∧ Q (.str y) M1) ∨ ∃ i : Int, d = .int i ∧ i.natAbs.log2 < 1920 ∧ Q (.str (toString i)) M1) E
def dJs : List DTE → Str → DG → Mp → DQ → DXE → Prop
  | [], acc, _, M, Q, _ => Q (.str acc) M
  | t :: ts, acc, Γ, M, Q, E => t Γ M (fun d M1 => ∃ y : Str, d = .str y ∧ (acc ++ y).length ≤ sizeLine ∧ dJs ts (acc ++ y) Γ M1 Q E) E
def dJoined (ts : List DTE) : DTE := fun Γ M Q E => dJs ts Str.empty Γ M Q E
end
end DL
namespace PySem
namespace LkX
open Builtin Builtin.ObjectAttr
def low : List Value := [.type "LookupError", .type "Exception", .type "BaseException", .type "object"]
/-- classes of the text, then LookupError's line -/
def isLow : List Value → Bool
  | .ref _ :: more => isLow more
  | ends => ends == low
theorem isLow_two {y : Value} {more : List Value} (h : isLow (y :: more) = true) : (∃ c, y = .ref c ∧ isLow more = true) ∨ y :: more = low := by
  cases y with
  | ref c => exact .inl ⟨c, rfl, h⟩
  | _ => exact .inr (beq_iff_eq.mp h)
/-- what is asked of the line of bases -/
structure LowX (ms : List Value) : Prop where
  pass : ∀ self : Value, refuseLoop self "__setattr__" ms = pure ()
  has : ∀ X : String, ms.contains (.type X) = low.contains (.type X)
  some : ms.isEmpty = false
theorem lowX : ∀ {ms : List Value}, isLow ms = true → LowX ms
  | [], h => by cases h
  | y :: more, h => by
    rcases isLow_two h with ⟨c, rfl, h2⟩ | h2
    · have ih := lowX h2
      exact ⟨fun self => (by rw [refuseLoop_ref]; exact ih.pass self), fun X => (List.contains_cons).trans (by rw [ih.has X]; rfl), rfl⟩
    · rw [h2]
      exact ⟨fun self => PySem.F.store_LookupError.passes self, fun _ => rfl, rfl⟩
end LkX
end PySem
namespace L2
open PySem PySem.Spec PyProof.Rows
/-- what the written part says of a class beneath LookupError -/
structure OexL (K : PySem.W.Frag) (C : Addr) : Prop where
  cls : ∃ nm q N bs bm sn sub ab col dd k0 k1 k2 k3 k5, K.lookup C = some (excClassObj nm q C N bs bm true sn sub ab col dd k0 k1 k2 k3 k5 "LookupError.__new__") ∧ LkX.isLow bm = true
  sa : PySem.W.findIn K (.ref C) "__setattr__" = some (some (.builtin "object.__setattr__"))
  exC : PySem.W.subIn K (.ref C) (.type "BaseException") = some true
  tyC : PySem.W.typeIn K (.ref C) = some (.type "type")
  kC : PySem.W.keepIn K (.ref C) = true
theorem OexL.data {K : PySem.W.Frag} {C : Addr} (T : OexL K C) : ∃ cd : ClassData, PySem.W.clsIn K C = some cd ∧ LkX.LowX cd.mro ∧ cd.hasDict = true := by
  obtain ⟨nm, q, N, bs, bm, sn, sub, ab, col, dd, k0, k1, k2, k3, k5, hC, hbm⟩ := T.cls
  refine ⟨_, (by unfold PySem.W.clsIn; rw [hC]), LkX.lowX (ms := .ref C :: bm) hbm, rfl⟩
section
variable {X : Cx} {pins : List (Addr × Obj)} {σ : St} {H : Hp} {s : Shared} {a C dx : Addr} {f : Str} {y : V} {u : Value} {fs : List (Str × V)} {Q : Unit → Shared → Prop} {E : Value → Shared → Prop} {A : Around}
theorem other {b : Addr} (e : H a = some (exo a C none)) (n : H b = none) : b ≠ a := fun z => by
  rw [z, e] at n
  cases n
end
end L2
namespace DL
open PySem L2
end DL
namespace L2
open PySem PySem.Spec PyProof.Rows
/-- what the values of a dict are as data -/
inductive DpK (K : PySem.W.Frag) (H : Hp) : List (Key × V) → List (Key × PyData) → Prop
  | nil : DpK K H [] []
  | cons {k : Key} {v : V} {d : PyData} {vs : List (Key × V)} {ds : List (Key × PyData)} : Dp K H v d → SeqAt.shaped d = true → DpK K H vs ds → DpK K H ((k, v) :: vs) ((k, d) :: ds)
def valP (ds : List (Key × PyData)) (k : Key) : Option PyData := (ds.find? fun kv => decide (kv.1 = k)).map (·.2)
section
variable {K : PySem.W.Frag} {H : Hp}
theorem DpK.len {vs : List (Key × V)} {ds : List (Key × PyData)} (h : DpK K H vs ds) : vs.length = ds.length := by
  induction h with
  | nil => rfl
  | cons _ _ _ ih => simp [ih]
theorem DpK.val {vs : List (Key × V)} {ds : List (Key × PyData)} (h : DpK K H vs ds) (k : Key) : (valV vs k = none ∧ valP ds k = none) ∨ ∃ v d, valV vs k = some v ∧ valP ds k = some d ∧ Dp K H v d ∧ SeqAt.shaped d = true := by
  induction h with
  | nil => exact .inl ⟨rfl, rfl⟩
  | @cons k1 v d vs ds h1 h2 _ ih =>
    unfold valV valP at ih ⊢
    rw [List.find?_cons, List.find?_cons]
    by_cases e : k1 = k
    · rw [decide_eq_true e]
      exact .inr ⟨v, d, rfl, rfl, h1, h2⟩
    · rw [decide_eq_false e]
      exact ih
end
end L2
namespace DL
open PySem L2
section
variable {X : Cx} {W : WT} {e a b o i tg : Expr} {pos pos' tpos : Pos}
def dDinP (neg : Bool) (ty td : DTE) : DTE := fun Γ M Q E => ty Γ M (fun x M1 => td Γ M1 (fun y M2 => ∃ kvs a b, dtD M2 y = some kvs ∧ x = .tup [.int a, .int b] ∧ Q (.bl (if neg = true then !(valG kvs (ikey [a, b])).isSome else (valG kvs (ikey [a, b])).isSome)) M2) E) E
def dDgetP (td ty : DTE) : DTE := fun Γ M Q E => td Γ M (fun x M1 => ty Γ M1 (fun y M2 => ∃ kvs a b d, dtD M2 x = some kvs ∧ y = .tup [.int a, .int b] ∧ valG kvs (ikey [a, b]) = some d ∧ Q d M2) E) E
def dDputP (td ty tv : DTE) : DTS := fun Dn Γ M => tv Γ M (fun v M1 => td Γ M1 (fun x M2 => ty Γ M2 (fun y M3 => ∃ p kvs a b, x = .ref p ∧ y = .tup [.int a, .int b] ∧ M3 p = some (.dit kvs) ∧ kvs.length < sizeLine ∧ Dn.nx Γ (mup M3 p (.dit (putG kvs (ikey [a, b]) v)))) Dn.ex) Dn.ex) Dn.ex
end
end DL
namespace DL
open PySem L2
end DL
namespace DL
open PySem L2
end DL
namespace DL
open PySem L2
end DL
namespace DL
open PySem PySem.Spec PyProof.Rows L2
end DL
namespace L2
open PySem PySem.Spec PyProof.Rows
end L2
namespace DL
open PySem L2
end DL
namespace DL
open PySem L2
section
variable {X : Cx} {W : WT}
def dJoin (tx te : DTE) : DTE := fun Γ M Q E => tx Γ M (fun d M1 => (∃ a, d = .str a) ∧ te Γ M1 (fun y M2 => ∃ (a : Str) (ys : List Str), d = .str a ∧ sqD M2 y = some (ys.map D.str) ∧ (ys.map (·.length)).sum + ys.length * a.length ≤ 16777216 ∧ Q (.str (Txt.join a ys)) M2) E) E
def dSplit (tx te : DTE) : DTE := fun Γ M Q E => tx Γ M (fun d M1 => (∃ a, d = .str a) ∧ te Γ M1 (fun y M2 => ∃ (a b : Str), d = .str a ∧ y = .str b ∧ (b.length == 0) = false ∧ a.length + 2 ≤ sizeLine ∧ ∀ p, M2 p = none → Q (.ref p) (mup M2 p (.lst ((Txt.split a b).map D.str)))) E) E
end
end DL
namespace DL
open PySem PySem.Spec PyProof.Rows L2
section
variable {X : Cx} {W : WT}
def dLenSetA (t : DTE) : DTE := fun Γ M Q E => t Γ M (fun d M1 => ∃ ms : List (Int × Int × Int), sqD M1 d = some (ms.map mkD) ∧ ms.length < 64 ∧ ∀ n : Nat, n ≤ ms.length → (ms.Nodup ↔ n = ms.length) → Q (.int (n : Nat)) M1) E
end
end DL
namespace RZ
open PySem PySem.Spec PyProof.Rows L2
structure MixSt (a b z TI TO i1 i2 : Addr) (i : Nat) (h : Heap) : Prop where
  zip : IsZip h z TI TO .none
  ins : IsTupOf2 h TI (.ref i1) (.ref i2)
  out : ∃ x y, IsTupOf2 h TO x y
  one : h.IsTupleIter i1 a i
  two : h.IsListIter i2 b i
theorem MixSt.cell {a b z TI TO i1 i2 : Addr} {i : Nat} {h : Heap} (st : MixSt a b z TI TO i1 i2 i h) (c : Addr) (hc : c ∈ [z, TI, TO, i1, i2]) : ∃ o, h.get? c = some o ∧ ∀ v, o.data ≠ .cell v := by
  obtain ⟨x, y, ho⟩ := st.out
  obtain ⟨o1, e1, _, d1⟩ := st.one
  obtain ⟨o2, e2, _, d2⟩ := st.two
  simp only [List.mem_cons, List.not_mem_nil, or_false] at hc
  rcases hc with rfl | rfl | rfl | rfl | rfl
  · exact ⟨_, st.zip, nofun⟩
  · exact ⟨_, st.ins, nofun⟩
  · exact ⟨_, ho, nofun⟩
  · exact ⟨_, e1, fun v => by rw [d1]; nofun⟩
  · exact ⟨_, e2, fun v => by rw [d2]; nofun⟩
end RZ
namespace DL
open PySem PySem.Spec PyProof.Rows L2
section
variable {X : Cx} {W : WT} {a b : Expr}
def dIZipM (t : DTA) : DTI := fun Γ M R E => t Γ M (fun ds M1 => ∃ xs e ys, ds = [.tup xs, e] ∧ sqD M1 e = some ys ∧ xs.length ≤ sizeLine ∧ R ⟨zipD xs ys, fun M2 => sqD M2 e = some ys⟩ M1) E
end
end DL
namespace L2
open PySem PySem.Spec PyProof.Rows
structure EnT (a e it : Addr) (i : Nat) (h : Heap) : Prop where
  en : ∃ old, IsEnum h e it ((i : Nat) : Int) old
  src : h.IsTupleIter it a i
  ne : e ≠ it ∧ a ≠ it ∧ e ≠ a
theorem EnT.cell {a e it : Addr} {i : Nat} {h : Heap} (st : EnT a e it i h) (c : Addr) (hc : c ∈ [e, it]) : ∃ o, h.get? c = some o ∧ ∀ v, o.data ≠ .cell v := by
  obtain ⟨old, he⟩ := st.en
  obtain ⟨o, ho, _, hd⟩ := st.src
  simp only [List.mem_cons, List.not_mem_nil, or_false] at hc
  rcases hc with rfl | rfl
  · exact ⟨_, he, nofun⟩
  · exact ⟨_, ho, fun v => by rw [hd]; nofun⟩
end L2
namespace DL
open PySem L2
section
variable {X : Cx} {W : WT} {e : Expr}
/-- a list's or a tuple's items -/
def ltD (M : Mp) : D → Option (List D)
  | .tup xs => some xs
  | d => sqD M d
def dIEnT (t : DTA) : DTI := fun Γ M R E => t Γ M (fun ds M1 => ∃ d xs, ds = [d] ∧ ltD M1 d = some xs ∧ xs.length ≤ sizeLine ∧ R ⟨enD xs, fun M2 => ltD M2 d = some xs⟩ M1) E
end
end DL
namespace L2
open PySem PySem.Spec PyProof.Rows
end L2
namespace DL
open PySem PySem.Spec PyProof.Rows L2 LamX NdefX
section
variable {P : Program} {w : World} {K : PySem.W.Frag} {T : List (Addr × Str)} {mg : Str → Option Value} {base : Heap}
structure DefAtP (K : PySem.W.Frag) (mg : Str → Option Value) (x : Str) (st : Stmt) (ps : List Str) (pats : List (PatD K)) : Prop where
  ex : ∃ f fd, mg x = some (.ref f) ∧ FunK K x x st f fd ∧ ∀ pt ∈ pats, ∃ g, KBn K fd ps pt.n pt.ks g pt.gV
structure DefTP (K : PySem.W.Frag) (mg : Str → Option Value) (base : Heap) (T : List (Addr × Str)) (x : Str) (st : Stmt) (ps : List Str) (pats : List (PatD K)) : Prop where
  ex : ∃ f fd cdv, mg x = some (.ref f) ∧ FunC K x st f fd cdv ∧ (∀ pt ∈ pats, ∃ g, KBn K fd ps pt.n pt.ks g pt.gV) ∧ TabC mg base T x st cdv
structure DfkP (P : Program) (w : World) (K : PySem.W.Frag) (mg : Str → Option Value) (base : Heap) (T : List (Addr × Str)) (x : Str) (k : Nat) (ps : List Str) (pats : List (PatD K)) (sp : DSp) : Prop where
  ex : ∃ f fd, FnOk P w K mg base (L2.CX P w) k f fd ps (spUp ⟨K, T⟩ sp) ∧ mg x = some (.ref f) ∧ PySem.W.keepIn K (.ref f) = true ∧ ∀ pt ∈ pats, ∃ g, KBn K fd ps pt.n pt.ks g pt.gV
theorem DefAtP.ok {x : Str} {st : Stmt} {N ps : List Str} {pats : List (PatD K)} {k : Nat} {sp : DSp} (Fn : DefAtP K mg x st ps pats) (S : FnScope N ps (defScope st)) (len : ∀ ds M Q E, sp ds M Q E → ds.length = ps.length)
    (hbody : ∀ (f : Addr) (cdv : Value) (A : Around) (outer : List Env) (s : Shared) (H : Hp) (E : XK), Room k (A.deeper (PyProof.Rows.envOfC x (defScope st) s.heap.objs.size f cdv)) → ∃ t, DSs (cxOf (L2.CX P w) P w K mg base N x (defScope st) f cdv A outer s H E) (wOf T E) (defBody st) t ∧
      ∀ (ds : List D) (M : Mp) (Qd : DQ) (Ed : DXK), sp ds M Qd Ed → t { nx := fun _ M' => Fin ⟨K, T⟩ Qd .non M', rt := Fin ⟨K, T⟩ Qd, ex := fun _ C fs M' => Ed C fs M' } (dstart N ds) M) : DfkP P w K mg base T x (k + 1) ps pats sp := by
  obtain ⟨f, fd, h1, h2, h3⟩ := Fn.ex
  refine ⟨f, fd, dfn h2 S len fun cdv A outer s H E hr => ?_, h1, h2.kp, h3⟩
  obtain ⟨t, ht, hq⟩ := hbody f cdv A outer s H E hr
  exact ⟨t, ht, fun ds M Qd Ed F H h c => ⟨F, M, Same.refl _, c, hq ds M Qd Ed h⟩⟩
theorem DefTP.ok {x : Str} {st : Stmt} {N ps : List Str} {pats : List (PatD K)} {k : Nat} {sp : DSp} (Fn : DefTP K mg base T x st ps pats) (S : FnScope N ps (defScope st)) (len : ∀ ds M Q E, sp ds M Q E → ds.length = ps.length)
    (hbody : ∀ (f : Addr) (cdv : Value) (A : Around) (outer : List Env) (s : Shared) (H : Hp) (E : XK), LamAt (cxOf (L2.CX P w) P w K mg base N x (defScope st) f cdv A outer s H E) T → Room k (A.deeper (PyProof.Rows.envOfC x (defScope st) s.heap.objs.size f cdv)) → ∃ t, DSs (cxOf (L2.CX P w) P w K mg base N x (defScope st) f cdv A outer s H E) (wOf T E) (defBody st) t ∧
      ∀ (ds : List D) (M : Mp) (Qd : DQ) (Ed : DXK), sp ds M Qd Ed → t { nx := fun _ M' => Fin ⟨K, T⟩ Qd .non M', rt := Fin ⟨K, T⟩ Qd, ex := fun _ C fs M' => Ed C fs M' } (dstart N ds) M) : DfkP P w K mg base T x (k + 1) ps pats sp := by
  obtain ⟨f, fd, cdv, h1, h2, h3, h4⟩ := Fn.ex
  exact ⟨f, fd, h2.ok S len fun A outer s H E hr => hbody f cdv A outer s H E h4.at_ hr, h1, h2.kp, h3⟩
end
section
variable {X : Cx} {W : WT} {e : Expr} {es : List Expr} {pos p : Pos} {x : Str} {C : Addr} {kws : List Keyword}
def dCallP {K : PySem.W.Frag} (pt : PatD K) (sp : DSp) (t tk : DTA) : DTE := fun Γ M Q E => t Γ M (fun ds M1 => tk Γ M1 (fun zs M2 => ds.length = pt.n ∧ zs.length = pt.ks.length ∧ sp (pt.gD ds zs) M2 Q (fun C fs M3 => E Γ C fs M3)) E) E
end
end DL
namespace PySem
namespace HandSPX
section
variable {M : Model} {A : Around} {E : Value → Shared → Prop} {s : Shared} {base : Heap} {env : Env} {outer : List Env} {e L C : Addr} {Z : Obj → Prop}
theorem raw_ne {C L : Addr} (h : C ≠ L) : ((rawInt (C : Int) == rawInt (L : Int)) : Bool) = false := by
  rw [← Bool.not_eq_true, beq_iff_eq]
  intro z
  unfold rawInt at z
  injection z with z
  exact h (Int.ofNat.inj z)
/-- noted by another's mark -/
theorem looks_offZ {Q : Unit → Shared → Prop} (hZ : Steady Z) (hfr : A.frames = some (env :: outer)) (hf : env.frame = some L) (hC : C ≠ L) (hfl : HeldZ base (env :: outer) e Z C s.heap)
    (hQ : ∀ h', HeldZ base (env :: outer) e Z L h' → s.heap.UpToSlots h' → Q () { s with heap := h' }) : wpAny M A (noteFrame (.ref e) env) Q E s := by
  obtain ⟨hkb, hen, hl, oe, vs, T, oT, ts, he, hz, hd, h1, hnT, hTe, hT, hdT, h3⟩ := hfl
  unfold noteFrame
  simp only [hf]
  refine wpAny_bind (wpAny_field he hd h1 ?_)
  rw [if_pos (show (Value.ref T != Value.none) = true from by simp)]
  refine wpAny_bind (wpAny_field hT hdT h3 ?_)
  rw [if_neg (by rw [raw_ne hC]; exact Bool.false_ne_true)]
  refine wpAny_bind (wpAny_setField hT hdT (Array.getElem?_eq_some_iff.mp h3).1 ?_)
  have other : ∀ b, b ≠ T → (s.heap.update T (Obj.mapFields (·.setIfInBounds 3 Value.none))).get? b = s.heap.get? b := fun b hb => Heap.get?_update_other _ _ (Ne.symm hb)
  have noRecord : ∀ b o, s.heap.get? b = some o → (∀ vs, o.data ≠ .fields vs) → b ≠ T := fun b o hb hnf q => by
    rw [q, hT] at hb; injection hb with hb; subst hb; exact hnf ts hdT
  refine wpAny_entryZ hZ hfr (hl.of_keeps fun b o hb hnf => ⟨o, (other b (noRecord b o hb hnf)).trans hb, rfl⟩) hf ((other e (Ne.symm hTe)).trans he)
    (fun b o hbo => (other b fun q => by rw [q, hnT] at hbo; cases hbo).trans (hkb b o hbo)) hen hd (Array.getElem?_eq_some_iff.mp h1).1 hz fun h' hN => ?_
  obtain ⟨x1, x2, x3, x4⟩ := hN
  exact hQ h' ⟨x1, hen, x2, x3⟩ fun b o hb hnf => x4 b o ((other b (noRecord b o hb hnf)).trans hb) hnf
end
end HandSPX
end PySem
namespace L2
open PySem PySem.Spec PyProof.Rows
abbrev Cx.blkX (X : Cx) (s : Shared) (H : Hp) (scope : Scope) (cenv : Env) (fp : List Addr) (xe : Value → Shared → Prop) : Cx := { X.blk s H scope cenv fp with xe := xe }
section
variable {X : Cx} {W : WX} {pins : List (Addr × Obj)} {σ : St} {H H3 : Hp} {s3 : Shared} {scope : Scope} {ce : Env} {fp : List Addr}
theorem takes_blk (hs : X.stack = X.env :: X.outer) (hf : X.env.frame = some X.env.locals) (tk : Takes X W) (I3 : Inv X pins σ H3 s3) (hce : ce.frame = X.env.frame)
    (f3 : ∀ b ∈ fp, FpOk X pins H3 b) (fC : FpOk X pins (fun _ => none) ce.locals) :
    Takes (X.blkX s3 H3 scope ce fp (notedBy (model X.prog X.w) X.A ce (CompFails (model X.prog X.w) X.A X.xe ce))) (fun cls d _ H' => W cls d σ H') := fun u s' big => by
  obtain ⟨a, B, sI, pinsB, τ, G, cls, d, rfl, JB, nb, up, sky, na, os, ag, w⟩ := big
  have frA : X.A.frames = some (X.env :: X.outer) := by rw [I3.ok.frames, hs]
  have nb : ∀ b o, sI.heap.get? b = some o → b ∉ frs (X.env :: X.outer) → B.get? b = some o := by rw [← hs]; exact nb
  have sky : Sky B (X.env :: X.outer) a (Zc cls d) ce.locals s'.heap := by rw [← hs]; exact sky
  have hCL : ce.locals ≠ X.env.locals := fC.2.1
  obtain ⟨mI, nI, _⟩ := JB.loc
  have nI : sI.heap.Ns ce.locals mI := nI
  have JX : Inv X pins σ G sI := I3.call' (ch := fp) JB.os JB.base JB.hok JB.bare fun b hb => ⟨(f3 b hb).2.2.2.1, (f3 b hb).2.1, (f3 b hb).2.2.2.2.1, (f3 b hb).2.2.2.2.2⟩
  have gC : G ce.locals = none := JB.free
  have fCG : FpOk X pins G ce.locals := ⟨gC, fC.2⟩
  have Cfr : ce.locals ∉ frs (X.env :: X.outer) := fun hm => by
    unfold frs at hm
    rw [List.filterMap_cons, hf] at hm
    rcases List.mem_cons.mp hm with z | z
    · exact hCL z
    · exact fC.2.2.1 z
  show wpAny (model X.prog X.w) X.A (noteFrame (.ref a) ce) _ _ s'
  rw [noteFrame_env _ hce]
  have fin : ∀ h1, HandSPX.HeldZ B (X.env :: X.outer) a (Zc cls d) X.env.locals h1 → s'.heap.UpToSlots h1 → CompFails (model X.prog X.w) X.A X.xe ce (.ref a) { s' with heap := h1 } := fun h1 hh up1 => by
    have up01 := up.trans up1
    refine ⟨mI, nI.upToSlots up01, fun h2 m2 n2 sb => ?_⟩
    obtain ⟨oI, _, _, gI, dI, _⟩ := id nI
    obtain ⟨o2, _, _, g2, d2, _⟩ := id n2
    obtain ⟨b1, b2, b3, oe, vs, T, oT, ts, he, hz, hd, h1', hnT, hTe, hT, hdT, h3'⟩ := hh
    have BC : B.get? ce.locals = some oI := nb _ _ gI Cfr
    have g1C : h1.get? ce.locals = some oI := b1 _ _ BC
    have aC : a ≠ ce.locals := fun z => by rw [z, BC] at b2; cases b2
    have TC : T ≠ ce.locals := fun z => by rw [z, BC] at hnT; cases hnT
    have alive : o2.isFreed = false := (Heap.get?_some_iff.mp g2).2
    have eI : (sI.heap.update ce.locals fun _ => o2).get? ce.locals = some o2 := Heap.get?_update_self _ gI alive
    have eB : (B.update ce.locals fun _ => o2).get? ce.locals = some o2 := Heap.get?_update_self _ BC alive
    have oth : ∀ (h : Heap) b, b ≠ ce.locals → (h.update ce.locals fun _ => o2).get? b = h.get? b := fun h b hb => Heap.get?_update_other _ _ (Ne.symm hb)
    have JI : Inv X pins σ G { sI with heap := sI.heap.update ce.locals fun _ => o2 } := JX.turned (t' := sI.toks) (fun b o hb e => (oth _ b hb).trans e) fCG.1 fCG.2.1 fCG.2.2.2.1 fCG.2.2.2.2.1 fCG.2.2.2.2.2
    have B1 : (B.update ce.locals fun _ => o2).StaysIn h2 := fun b o e => by
      by_cases hb : b = ce.locals
      · rw [hb] at e ⊢
        rw [eB] at e
        rw [g2]
        exact e
      · rw [oth _ b hb] at e
        exact (sb.2 b hb).trans (b1 b o e)
    have FF : h2.FunFrames (B.update ce.locals fun _ => o2) (X.env :: X.outer) := by
      have all : ∀ (l : List Env), h1.FunFrames B l → h2.FunFrames (B.update ce.locals fun _ => o2) l := by
        intro l
        induction l with
        | nil => intro _; trivial
        | cons env r ih =>
          intro hl
          obtain ⟨hk, ⟨L, o, hf, hn, ho, hd⟩, hr⟩ := hl
          have hL : L ≠ ce.locals := fun z => by rw [z, BC] at hn; cases hn
          exact ⟨hk, ⟨L, o, hf, (oth _ L hL).trans hn, (sb.2 L hL).trans ho, hd⟩, ih hr⟩
      exact all _ b3
    have TT : HandSPX.TracedZ h2 (B.update ce.locals fun _ => o2) a (Zc cls d) (rawInt X.env.locals) :=
      ⟨oe, vs, T, oT, ts, (sb.2 a aC).trans he, hz, hd, h1', (oth _ T TC).trans hnT, hTe, (sb.2 T TC).trans hT, hdT, h3'⟩
    have UP : (sI.heap.update ce.locals fun _ => o2).UpToSlots h2 := fun b o e nf => by
      by_cases hb : b = ce.locals
      · rw [hb] at e ⊢
        rw [eI] at e
        cases e
        exact ⟨o2.slots, g2⟩
      · rw [oth _ b hb] at e
        obtain ⟨sl, e2⟩ := up01 b o e nf
        exact ⟨sl, (sb.2 b hb).trans e2⟩
    unfold PySem.passOn
    refine wpAny_bind (wpAny_field ((sb.2 a aC).trans he) hd h1' ?_)
    rw [if_neg (show ¬ ((Value.ref T == Value.none) = true) by simp), hce, hf]
    refine wpAny_bind (HandSPX.setFlight_anyZ (s := { s' with heap := h2 }) B1 FF TT fun h4 k1 k2 k3 k4 => wpAny_throw (tk _ _ ?_))
    refine ⟨a, B.update ce.locals fun _ => o2, { sI with heap := sI.heap.update ce.locals fun _ => o2 }, pins, σ, G, cls, d, rfl, JI, fun b o e hb => ?_, UP.trans k4, hs ▸ .inr (.inr ⟨k1, (oth _ a aC).trans b2, k2, k3⟩), na, os, ag, w⟩
    by_cases hc : b = ce.locals
    · rw [hc] at e ⊢
      exact eB.trans (eI.symm.trans e)
    · rw [oth _ b hc] at e ⊢
      exact nb b o e (hs ▸ hb)
  rcases sky with ⟨hB, hn, hl, oe, vs, he, hz, hd, h1⟩ | fl | hh
  · exact HandSPX.look_newZ Zc.steady frA hl hf he hB hn hd h1 hz fin
  · exact HandSPX.looks_onZ Zc.steady frA hf fl fin
  · exact HandSPX.looks_offZ Zc.steady frA hf hCL hh fin
/-- the state of the outer def, the heap at the raise -/
abbrev atRaise (W : WX) (σ : St) : WX := fun cls d _ H => W cls d σ H
theorem Inv.toXe {X : Cx} {pins : List (Addr × Obj)} {σ : St} {H : Hp} {s : Shared} (xe : Value → Shared → Prop) (I : Inv X pins σ H s) : Inv { X with xe := xe } pins σ H s :=
  ⟨⟨I.ok.mod, I.ok.kind, I.ok.glob, I.ok.blt, I.ok.above, I.ok.inj, I.ok.has, I.ok.cab, I.ok.hd, I.ok.frames, I.ok.stk, I.ok.exf, I.ok.bs, I.ok.bsz, I.ok.noex, I.ok.exfs, I.ok.funs, I.ok.frf⟩, I.os, I.bare, I.base, I.loc, I.cell, I.free, I.freeC, I.pin, I.hok, I.len⟩
/-- the parts of a comprehension whose parts may raise -/
structure BlkX (X : Cx) (elt tg : Expr) (ifs : List Expr) (scope : Scope) (g : WX → TG) (tt : WX → TT) (te : WX → TE) : Prop where
  hg : ∀ (s : Shared) (H : Hp) (C : Addr) (cl : List (Str × Addr)) (fp : List Addr) (xe : Value → Shared → Prop) (W : WX), Takes (X.blkX s H scope (compEnvC scope cl C X.env) fp xe) W → PG (X.blkX s H scope (compEnvC scope cl C X.env) fp xe) tg (g W)
  ht : ∀ (s : Shared) (H : Hp) (C : Addr) (cl : List (Str × Addr)) (fp : List Addr) (xe : Value → Shared → Prop) (W : WX), Takes (X.blkX s H scope (compEnvC scope cl C X.env) fp xe) W → PTs (X.blkX s H scope (compEnvC scope cl C X.env) fp xe) ifs (tt W)
  he : ∀ (s : Shared) (H : Hp) (C : Addr) (cl : List (Str × Addr)) (fp : List Addr) (xe : Value → Shared → Prop) (W : WX), Takes (X.blkX s H scope (compEnvC scope cl C X.env) fp xe) W → PE (X.blkX s H scope (compEnvC scope cl C X.env) fp xe) elt (te W)
theorem lc_coreX {elt tg iter : Expr} {ifs : List Expr} {own : List (Str × Nat)} {pos pos' : Pos} {wi : TI} {g : WX → TG} {tt : WX → TT} {te : WX → TE} {use : Option (Value → Sem Unit)} {Qf : Value → Shared → Prop} {Q : VK} {s : Shared}
    (hst : X.stack = X.env :: X.outer) (hfr : X.env.frame = some X.env.locals) (tk : Takes X W) (hc : X.calm = true) (hN : X.N.Nodup) (I : Inv X pins σ H s) (hi : PI X tg iter wi) (ok : BlkOk X.N X.env.scope scope own)
    (hb : BlkX X elt tg ifs scope g tt te) (hs : ∀ x, foldedSetIterable iter X.env x = pure x)
    (h : tLc wi (g (atRaise W σ)) (tt (atRaise W σ)) (te (atRaise W σ)) (own.map (·.2)) σ H Q)
    (hRR : ∀ D (ce : Env) s' m H', Inv X pins σ H' s' → Q (.ref D) H' → s'.heap.Ns ce.locals m → FpOk X pins H' ce.locals → compEnds (model X.prog X.w) X.A X.xe use Qf (.ref D) ce (.ok .next) s') :
    wpAny (model X.prog X.w) X.A (comprehension (.ListComp elt [⟨tg, iter, ifs, 0⟩] scope pos) scope X.env pos' (newList []) false (eval iter X.env) use) Qf X.xe s := by
  have hfree : ∀ y ∈ scope.names, y.2 = .free → ∃ c, X.env.cells.lookup y.1 = some c := fun y hy e => (ok.free y hy e).elim (fun k => I.ok.has _ (.inl k)) fun k => I.ok.has _ (.inr k)
  refine comprehension_at (use := use) rfl hs (closure_ok hfree) ok.kind (fun y hy e => by rw [ok.uniq y hy, e])
    (thn (hi.run pins s σ H _ I h) fun xv s1 hx => thn hx fun itv s2 h2 => ?_)
  obtain ⟨it, fp, tn, J, H2, e, I2, T, st2, f2, q⟩ := h2
  subst e
  refine wpAny_newObj_type (newEnv_comp ?_) (by show 0 ≤ sizeLine; decide)
  generalize hD : s2.heap.objs.size = D
  have hDn : H2 D = none := I2.hok.fresh (Nat.le_of_eq hD)
  obtain ⟨Wn, ⟨m0, w0⟩, turn⟩ := q D hDn
  generalize hs3 : ({ s2 with heap := s2.heap.push { cls := .type "list", data := .seq ([] : List Value).toArray } } : Shared) = s3
  have I3 : Inv X pins σ (upd H2 D (.lst [])) s3 := by
    rw [← hs3]
    refine I2.laid (t' := s2.toks) (fun b o e => Heap.get?_push_of_some _ e) (Nat.le_of_eq hD) ⟨Nat.zero_le _, [], 0, .nil, ?_⟩
    rw [← hD]
    exact Heap.get?_push_size _ rfl
  have h3 : s3.heap = s2.heap.push { cls := .type "list", data := .seq ([] : List Value).toArray } := by rw [← hs3]
  have f3 : ∀ b ∈ fp, FpOk X pins (upd H2 D (.lst [])) b ∧ b < s3.heap.objs.size := fun b hb => by
    obtain ⟨o, e, _⟩ := T.obj _ _ st2 b hb
    have hlt : b < s2.heap.objs.size := Heap.lt_size e
    refine ⟨⟨?_, (f2 b hb).2⟩, by rw [h3, Heap.size_push]; exact Nat.lt_succ_of_lt hlt⟩
    rw [upd_ne (by rw [← hD]; exact Nat.ne_of_lt hlt)]
    exact (f2 b hb).1
  have st3 : tn 0 s3.heap := T.keep _ _ _ st2 fun b _ o e => by rw [h3]; exact Heap.get?_push_of_some _ e
  have I4 := block_start I3 ok hN f3
  have fC : FpOk X pins (fun _ => none) s3.heap.objs.size := I3.fpOk (Nat.le_refl _) rfl
  generalize hcl : cellsFrom (s3.heap.objs.size + 1) scope.names (cloFrom X.env.cells scope.names []) = cl at I4 ⊢
  show codeAny _ _ (.compStart (.ListComp elt [⟨tg, iter, ifs, 0⟩] scope pos) 0 (.ref it) (.ref D) (compEnvC scope cl s3.heap.objs.size X.env)) (compEnds (model X.prog X.w) X.A X.xe use Qf (.ref D) (compEnvC scope cl s3.heap.objs.size X.env)) { s3 with heap := pushCells (s3.heap.push { cls := .type "dict", data := .dict #[] }) scope.names }
  have tb := takes_blk (scope := scope) (ce := compEnvC scope cl s3.heap.objs.size X.env) hst hfr tk I3 rfl (fun b hb => (f3 b hb).1) fC
  have eR : CompFails (model X.prog X.w) X.A X.xe (compEnvC scope cl s3.heap.objs.size X.env) = fun e s' => compEnds (model X.prog X.w) X.A X.xe use Qf (.ref D) (compEnvC scope cl s3.heap.objs.size X.env) (.error e) s' := by cases use <;> rfl
  rw [eR] at tb
  have pg := hb.hg s3 (upd H2 D (.lst [])) s3.heap.objs.size cl fp _ _ tb
  have pt := hb.ht s3 (upd H2 D (.lst [])) s3.heap.objs.size cl fp _ _ tb
  have pe := hb.he s3 (upd H2 D (.lst [])) s3.heap.objs.size cl fp _ _ tb
  have nfp : ∀ b ∈ fp, (upd H2 D (.lst [])) b = none := fun b hb => (f3 b hb).1.1
  have I4 := I4.toXe (notedBy (model X.prog X.w) X.A (compEnvC scope cl s3.heap.objs.size X.env) fun e s' => compEnds (model X.prog X.w) X.A X.xe use Qf (.ref D) (compEnvC scope cl s3.heap.objs.size X.env) (.error e) s')
  have cL : (compEnvC scope cl s3.heap.objs.size X.env).locals = s3.heap.objs.size := rfl
  generalize compEnvC scope cl s3.heap.objs.size X.env = ce at I4 pg pt pe tb cL ⊢
  generalize hH3 : upd H2 D (.lst []) = H3 at I3 I4 pg pt pe w0 nfp f3
  generalize hs4 : ({ s3 with heap := pushCells (s3.heap.push { cls := .type "dict", data := .dict #[] }) scope.names } : Shared) = s4 at I4 ⊢
  have st4 : tn 0 s4.heap := T.keep _ _ _ st3 fun b _ o e => by rw [← hs4]; exact pushCells_keeps _ _ _ _ (Heap.get?_push_of_some _ e)
  generalize hxb : (notedBy (model X.prog X.w) X.A ce fun e s' => compEnds (model X.prog X.w) X.A X.xe use Qf (.ref D) ce (.error e) s') = xb at I4 pg pt pe
  have stat : ∀ {σ' : St} {H' : Hp} {s' : Shared}, Inv (X.blkX s3 H3 scope ce fp xb) [] σ' H' s' → (∀ b ∈ fp, H' b = none) → ∀ b ∈ fp, FpOk (X.blkX s3 H3 scope ce fp xb) [] H' b := fun {σ' H' s'} I' hn b hb =>
    ⟨hn b hb, (I'.ok.exf b hb).1, I'.ok.exfs b hb, .inl hb, fun x c e => (I'.ok.exf b hb).2 x c e, fun p hp => absurd (show p ∈ ([] : List (Addr × Obj)) ++ [] from hp) (by simp)⟩
  have loop : codeAny (model X.prog X.w) X.A (.compLoop (.ListComp elt [⟨tg, iter, ifs, 0⟩] scope pos) 0 (.ref it) (.ref D) ce) (compEnds (model X.prog X.w) X.A X.xe use Qf (.ref D) ce) s4 := by
    refine compLoop_any (fun n s' => ∃ i H', Inv (X.blkX s3 H3 scope ce fp xb) [] (wipe σ (own.map (·.2))) H' s' ∧ tn i s'.heap ∧ (∀ b ∈ fp, H' b = none) ∧ Wn i n H') ?_ m0 ⟨0, H3, I4, st4, nfp, w0⟩
    rw [hxb]
    rintro n s5 ⟨i, H5, I5, st5, n5, w5⟩
    rcases turn i n H5 w5 with ⟨stop, qq⟩ | ⟨go, Nx, hNx, step⟩
    · refine thnF (T.done (X.blkX s3 H3 scope ce fp xb) rfl rfl rfl hc i [] s5 _ H5 (fun _ _ => False) I5 (stat I5 n5) st5 stop) fun r s6 ⟨hr, I6⟩ => ?_
      subst hr
      have I7 : Inv X pins σ H5 s6 := I3.call' (ch := fp) I6.os I6.base I6.hok I6.bare fun b hb => ⟨(f3 b hb).1.2.2.2.1, (f3 b hb).1.2.1, (f3 b hb).1.2.2.2.2.1, (f3 b hb).1.2.2.2.2.2⟩
      have nC : H5 ce.locals = none := I6.free
      obtain ⟨m, hn, _⟩ := I6.loc
      have hn : s6.heap.Ns ce.locals m := hn
      exact hRR D ce s6 m H5 I7 qq hn ⟨nC, by rw [cL]; exact fC.2⟩
    · refine thnF (T.item (X.blkX s3 H3 scope ce fp xb) rfl rfl rfl hc i [] s5 _ H5 (fun _ _ => False) I5 (stat I5 n5) st5 go) fun r s6 ⟨u, hr, h6⟩ => ?_
      subst hr
      refine thnF h6 fun _ s7 ⟨x, H7, I7, r7, y7, st7, n7⟩ => ?_
      have I7' := I7.pinned (stat I7 n7) (T.obj _ _ st7)
      refine thn (pg.run _ s7 _ H7 x u _ I7' r7 (step x H7 y7)) fun _ s8 ⟨σ8, H8, I8, hw8, q8⟩ => ?_
      refine thn (pt.run _ s8 σ8 H8 _ I8 q8) fun b s9 ⟨H9, I9, q9⟩ => ?_
      have fin : ∀ {s' : Shared} {H' : Hp}, Inv (X.blkX s3 H3 scope ce fp xb) ([] ++ pinsAt fp s7.heap) σ8 H' s' → Nx H' → ∃ m, m < n ∧ ∃ i H', Inv (X.blkX s3 H3 scope ce fp xb) [] (wipe σ (own.map (·.2))) H' s' ∧ tn i s'.heap ∧ (∀ b ∈ fp, H' b = none) ∧ Wn i m H' := fun {s' H'} I' nx => by
        obtain ⟨m', hm, w'⟩ := hNx H' nx
        have pin' : ∀ b ∈ fp, ∀ o, s7.heap.get? b = some o → s'.heap.get? b = some o ∧ H' b = none := fun b hb o e =>
          let z := I'.pin (b, o) (List.mem_append_right _ (List.mem_append_right _ (mem_pinsAt hb e)))
          ⟨z.1, z.2.1⟩
        refine ⟨m', hm, i + 1, H', (I'.unpinned (pins := [])).weak (by rw [← hw8, wipe_length]) (fun j v e => (wipe_some (hw8 ▸ e)).1), T.keep _ _ _ st7 fun b hb o e => (pin' b hb o e).1, fun b hb => ?_, w'⟩
        obtain ⟨o, e, _⟩ := T.obj _ _ st7 b hb
        exact (pin' b hb o e).2
      cases b with
      | false => exact fin I9 q9
      | true =>
        simp only [if_true] at q9 ⊢
        refine thn (pe.run _ s9 σ8 H9 _ I9 q9) fun z s10 ⟨yv, H10, I10, r10, acc, hD10, hz10, nx⟩ => ?_
        exact app_ok (X := X.blkX s3 H3 scope ce fp xb) I10 hD10 hz10 r10 fun s11 I11 => fin I11 nx
  exact codeAny_compStart_list loop (T.self X.A 0 _ _ _ st4 loop)
end
end L2
namespace L2
open PySem PySem.Spec PyProof.Rows
section
variable {X : Cx} {W : WX} {elt tg iter : Expr} {ifs : List Expr} {scope : Scope} {own : List (Str × Nat)} {pos spos : Pos} {wi : TI} {g : WX → TG} {tt : WX → TT} {te : WX → TE}
/-- as a value -/
theorem pe_lcX (hst : X.stack = X.env :: X.outer) (hfr : X.env.frame = some X.env.locals) (tk : Takes X W) (hc : X.calm = true) (hN : X.N.Nodup) (hi : PI X tg iter wi) (ok : BlkOk X.N X.env.scope scope own)
    (hb : BlkX X elt tg ifs scope g tt te) (hs : ∀ x, foldedSetIterable iter X.env x = pure x := by intro _; rfl) :
    PE X (.ListComp elt [⟨tg, iter, ifs, 0⟩] scope pos) (fun σ H Q => tLc wi (g (atRaise W σ)) (tt (atRaise W σ)) (te (atRaise W σ)) (own.map (·.2)) σ H Q) := by
  refine ⟨fun pins s σ H Q I h => ?_⟩
  rw [eval_ListComp]
  refine lc_coreX hst hfr tk hc hN I hi ok hb hs h fun D ce s' m H' I' q hn f => ⟨m, hn, fun h'' sb => ?_⟩
  obtain ⟨f0, f1, f2, f3, f4, f5⟩ := f
  exact ⟨.ref D, H', I'.turned (t' := s'.toks) (fun b o hb e => (sb.2 b hb).trans e) f0 f1 f3 f4 f5, rfl, q⟩
/-- name = [..] -/
theorem ps_setLcX {i : Nat} {y : Str} {py : Pos} (hst : X.stack = X.env :: X.outer) (hfr : X.env.frame = some X.env.locals) (tk : Takes X W) (hc : X.calm = true) (hN : X.N.Nodup) (hy : X.N[i]? = some y) (hyl : X.env.scope.names.lookup y = some .local)
    (hsw : swapsWith (.ListComp elt [⟨tg, iter, ifs, 0⟩] scope pos) (some (.Name y py)) spos.line X.env = pure true) (hi : PI X tg iter wi) (ok : BlkOk X.N X.env.scope scope own)
    (hb : BlkX X elt tg ifs scope g tt te) (hs : ∀ x, foldedSetIterable iter X.env x = pure x := by intro _; rfl) :
    PS X (.Assign [.Name y py] (.ListComp elt [⟨tg, iter, ifs, 0⟩] scope pos) spos) (tAsg (fun σ H Q => tLc wi (g (atRaise W σ)) (tt (atRaise W σ)) (te (atRaise W σ)) (own.map (·.2)) σ H Q) (gName i)) := by
  refine ⟨fun pins s σ H D I h => ?_⟩
  rw [exec_Assign_Name_used _ _ _ _ hsw]
  refine wpAny_bind (wpAny_standAt (wpAny_bind ?_))
  show wpAny _ X.A (do let _ ← comprehension (.ListComp elt [⟨tg, iter, ifs, 0⟩] scope pos) scope X.env (firstIterPos [⟨tg, iter, ifs, 0⟩] pos) (newList []) false (eval iter X.env) (some (assign (.Name y py) X.env))) _ _ s
  have h : tLc wi (g (atRaise W σ)) (tt (atRaise W σ)) (te (atRaise W σ)) (own.map (·.2)) σ H (fun x H1 => gName i x σ H1 D.nx) := h
  refine wpAny_bind (thn (lc_coreX (Qf := fun _ s' => SP X pins D .next s') hst hfr tk hc hN I hi ok hb hs h fun L ce s' m H' I' q hn f => ?_) fun _ s' hq => wpAny_pure (wpAny_pure hq))
  show wpAny _ _ (assign (.Name y py) X.env (.ref L)) _ _ _
  refine wpAny_assign_Name (store_ok2 (v := V.ref L) I' hN hy (.inl hyl) rfl (fun s2 I2 ⟨a, sb, ha⟩ => ?_) (.inr hyl))
  obtain ⟨f0, f1, f2, f3, f4, f5⟩ := f
  have haC : ce.locals ≠ a := by
    rcases ha with z | z
    · rw [z]; exact f1
    · exact fun e => f4 y a z e.symm
  refine ⟨m, hn.sameBut sb haC, fun h3 sb3 => ?_⟩
  exact ⟨_, H', I2.turned (t' := s2.toks) (fun b o hb e => (sb3.2 b hb).trans e) f0 f1 f3 f4 f5, q⟩
end
end L2
namespace LW
open PySem PySem.Spec PyProof.Rows L2 DL
section
variable {X : Cx} {W : WT} {elt tg iter : Expr} {ifs : List Expr} {scope : Scope} {own : List (Str × Nat)} {pos : Pos} {ti : DTI} {g : DTG} {tt : DTT} {te : DTE}
theorem wipe_again : ∀ (l l2 : List Nat) (σ : L2.St), (∀ j ∈ l, j ∈ l2) → wipe (wipe σ l2) l = wipe σ l2 := by
  have key : ∀ (j : Nat) (l2 : List Nat) (σ : L2.St), j ∈ l2 → (wipe σ l2).set j none = wipe σ l2 := by
    intro j l2
    induction l2 with
    | nil => intro σ h; cases h
    | cons q l2 ih2 =>
      intro σ h
      show ((wipe σ l2).set q none).set j none = (wipe σ l2).set q none
      by_cases hq : q = j
      · subst hq
        rw [List.set_set]
      · rw [List.set_comm _ _ hq, ih2 σ ((List.mem_cons.mp h).resolve_left fun z => hq z.symm)]
  intro l
  induction l with
  | nil => intro l2 σ _; rfl
  | cons j l ih =>
    intro l2 σ hj
    show (wipe (wipe σ l2) l).set j none = _
    rw [ih l2 σ fun j' hj' => hj j' (List.mem_cons_of_mem _ hj')]
    exact key j l2 σ (hj j List.mem_cons_self)
theorem mdel_some {M : Mp} {p b : Addr} {u : Cell} (h : mdel M p b = some u) : M b = some u := by
  by_cases hb : b = p
  · rw [hb, mdel_same] at h; cases h
  · rwa [mdel_ne hb] at h
/-- the turns: J by the turn, the list so far, the cells; the new list at p; R what is owed at the end -/
def LG (it : DIt) (g : DTG) (tt : DTT) (te : DTE) (vs : List Nat) (Γ : DG) (M1 : Mp) (E : DXE) (R : Addr → List D → Mp → Prop) : Prop :=
  ∀ p, M1 p = none → ∃ J : Nat → List D → Mp → Prop, J 0 [] (mup M1 p (.lst [])) ∧ ∀ i acc M', M' p = some (.lst acc) → acc.length ≤ i → J i acc M' → it.ok M' ∧
    (∀ d, it.seq[i]? = some d → g d (dwipe Γ vs) M' (fun Γ2 M3 => tt Γ2 M3 (fun b M4 => if b = true then te Γ2 M4 (fun y M5 => M5 p = some (.lst acc) ∧ J (i + 1) (acc ++ [y]) (mup M5 p (.lst (acc ++ [y])))) (fun _ C fs M' => E Γ C fs (mdel M' p)) else M4 p = some (.lst acc) ∧ J (i + 1) acc M4) (fun _ C fs M' => E Γ C fs (mdel M' p)))) ∧
    (i = it.seq.length → R p acc M')
def dLgO (ti : DTI) (g : DTG) (tt : DTT) (te : DTE) (vs : List Nat) : DTE := fun Γ M Q E => ti Γ M (fun it M1 => LG it g tt te vs Γ M1 E fun p _ M' => Q (.ref p) M') E
def dLg (ti : DTI) (g : DTG) (tt : DTT) (te : DTE) (vs : List Nat) : DTE := fun Γ M Q E => ti Γ M (fun it M1 => LG it g tt te vs Γ M1 E fun p acc M' => Q (.lst acc) (mdel M' p)) E
theorem upLgX {vs : List Nat} {σ : L2.St} {H : Hp} {Q : VK} {Γ : DG} {M F : _} {E : DXE} {R : Addr → List D → Mp → Prop} (a : At (kt X W) W.w σ H Γ M F E)
    (h : ti Γ M (fun it M1 => LG it g tt te vs Γ M1 E R) E)
    (k : ∀ (F' H' : Hp) (acc : List D) (M' : Mp) (p : Addr), Same F F' → Cc (kt X W) M' F' H' → M' p = some (.lst acc) → R p acc M' → Q (.ref p) H') :
    tLc (upI (kt X W) W.w ti) (upG (kt X W) (some vs) g) (upT (kt X W) (atRaise W.w σ) tt) (upE (kt X W) (atRaise W.w σ) te) vs σ H Q := by
  refine ⟨Γ, M, F, E, _, a, h, fun F1 H1 J it M1 s1 c1 ⟨hz, rj⟩ hc0 Dd hD => ?_⟩
  have m1 : M1 Dd = none := c1.Mnone hD
  obtain ⟨Jv, j0, jn⟩ := hc0 Dd m1
  refine ⟨fun i m H2 => m = it.seq.length - i ∧ i ≤ it.seq.length ∧ ∃ F2 acc M2, Same F1 F2 ∧ Cc (kt X W) M2 F2 H2 ∧ M2 Dd = some (.lst acc) ∧ acc.length ≤ i ∧ Jv i acc M2,
    ⟨_, rfl, Nat.zero_le _, F1, [], _, Same.refl _, c1.newM (x := .lst []) hD ⟨[], rfl, .nil⟩, mup_same, Nat.le_refl _, j0⟩, ?_⟩
  rintro i m H2 ⟨rfl, hi, F2, acc, M2, s2, c2, e2, hl, jv⟩
  obtain ⟨okx, stp, don⟩ := jn i acc M2 e2 hl jv
  obtain ⟨j1, j2⟩ := rj F2 H2 _ i s2 c2 okx
  by_cases hlt : i < it.seq.length
  · have hget : it.seq[i]? = some it.seq[i] := List.getElem?_eq_getElem hlt
    obtain ⟨go, yl⟩ := j1 _ hget
    refine .inr ⟨go, fun H4 => ∃ F4 acc M4, Same F1 F4 ∧ Cc (kt X W) M4 F4 H4 ∧ M4 Dd = some (.lst acc) ∧ acc.length ≤ i + 1 ∧ Jv (i + 1) acc M4,
      fun H4 qq => ⟨_, by omega, rfl, hlt, qq⟩, fun x H' y => ?_⟩
    obtain ⟨F3, s3, c3, r3⟩ := yl x H' y
    refine ⟨_, dwipe Γ vs, _, F3, _, c3, (a.g.mono ((s1.trans s2).trans s3)).wipe vs, r3, stp _ hget, fun F4 H4 σ4 Γ4 M4 s4 c4 g4 w4 q4 => ⟨?_, ?_⟩⟩
    · have z := w4 vs rfl
      rw [z]
      exact wipe_again vs vs σ fun _ hh => hh
    · have ew : Ew (kt X W) F4 (fun _ C fs M' => E Γ C fs (mdel M' Dd)) (atRaise W.w σ) := fun F5 H5 σ5 Γ5 C d us fs M5 s5 c5 _ hx rf ex =>
        (a.w.mono (((s1.trans s2).trans s3).trans s4)) F5 H5 σ Γ C d us fs (mdel M5 Dd) s5 (c5.less fun b u hb => mdel_some hb) (a.g.mono ((((s1.trans s2).trans s3).trans s4).trans s5)) hx rf ex
      refine ⟨Γ4, M4, F4, _, _, ⟨c4, g4, ew⟩, q4, fun F5 H5 b M5 s5 c5 q5 => ?_⟩
      have s15 := ((s2.trans s3).trans s4).trans s5
      cases b with
      | false =>
        rw [if_neg Bool.false_ne_true] at q5
        exact iteF ⟨F5, acc, M5, s15, c5, q5.1, by omega, q5.2⟩
      | true =>
        rw [if_pos rfl] at q5
        refine iteT ⟨Γ4, M5, F5, _, _, ⟨c5, g4.mono s5, ew.mono s5⟩, q5, fun F6 H6 v d M6 s6 c6 r6 ⟨e6, p6⟩ => ?_⟩
        obtain ⟨f7, o7, e7, us7, e8, r7⟩ := c6.ow Dd _ e6
        subst e8
        have hus : us7.length ≤ i := by rw [r7.length]; exact hl
        refine ⟨us7, e7, by omega, F6, acc ++ [d], _, s15.trans s6, c6.write (p := Dd) (x := .lst (acc ++ [d])) (o := .lst (us7 ++ [v])) e6 ⟨_, rfl, r7.append (.cons r6 .nil)⟩, mup_same, by rw [List.length_append, List.length_singleton]; omega, p6⟩
  · have e : i = it.seq.length := by omega
    exact .inl ⟨j2 (by omega), k F2 H2 acc M2 Dd (s1.trans s2) c2 e2 (don e)⟩
end
end LW
namespace LW
open PySem PySem.Spec PyProof.Rows L2 DL
/-- the parts of a comprehension whose elements may lay cells, may raise -/
structure LcOkX (X : Cx) (W : WT) (elt tg iter : Expr) (ifs : List Expr) (scope : Scope) (own : List (Str × Nat)) (ti : DTI) (g : DTG) (tt : DTT) (te : DTE) : Prop where
  hst : X.stack = X.env :: X.outer
  hfr : X.env.frame = some X.env.locals
  tk : Takes X W.w
  hc : X.calm = true
  hN : X.N.Nodup
  hi : DI X W tg iter ti
  ok : BlkOk X.N X.env.scope scope own
  hg : ∀ (s : Shared) (H : Hp) (C : Addr) (cl : List (Str × Addr)) (fp : List Addr) (xe : Value → Shared → Prop), DGt (X.blkX s H scope (compEnvC scope cl C X.env) fp xe) W.T (some (own.map (·.2))) tg g
  ht : ∀ (s : Shared) (H : Hp) (C : Addr) (cl : List (Str × Addr)) (fp : List Addr) (xe : Value → Shared → Prop) (Wb : WX), Takes (X.blkX s H scope (compEnvC scope cl C X.env) fp xe) (WT.w ⟨W.T, Wb⟩) → DTs (X.blkX s H scope (compEnvC scope cl C X.env) fp xe) ⟨W.T, Wb⟩ ifs tt
  he : ∀ (s : Shared) (H : Hp) (C : Addr) (cl : List (Str × Addr)) (fp : List Addr) (xe : Value → Shared → Prop) (Wb : WX), Takes (X.blkX s H scope (compEnvC scope cl C X.env) fp xe) (WT.w ⟨W.T, Wb⟩) → DE (X.blkX s H scope (compEnvC scope cl C X.env) fp xe) ⟨W.T, Wb⟩ elt te
section
variable {X : Cx} {W : WT} {elt tg iter : Expr} {ifs : List Expr} {scope : Scope} {own : List (Str × Nat)} {pos : Pos} {ti : DTI} {g : DTG} {tt : DTT} {te : DTE}
theorem LcOkX.parts (L : LcOkX X W elt tg iter ifs scope own ti g tt te) : BlkX X elt tg ifs scope (fun _ => upG (kt X W) (some (own.map (·.2))) g) (fun Wb => upT (kt X W) Wb tt) (fun Wb => upE (kt X W) Wb te) :=
  ⟨fun s H C cl fp xe _ _ => (L.hg s H C cl fp xe).pg, fun s H C cl fp xe Wb t => (L.ht s H C cl fp xe Wb t).pt, fun s H C cl fp xe Wb t => (L.he s H C cl fp xe Wb t).pe⟩
theorem upLgO {vs : List Nat} {σ : L2.St} {H : Hp} {Q : VK} (h : upE (kt X W) W.w (dLgO ti g tt te vs) σ H Q) : tLc (upI (kt X W) W.w ti) (upG (kt X W) (some vs) g) (upT (kt X W) (atRaise W.w σ) tt) (upE (kt X W) (atRaise W.w σ) te) vs σ H Q := by
  obtain ⟨Γ, M, F, E, Qd, a, q, k⟩ := h
  exact upLgX a q fun F' H' acc M' p s c _ r => k F' H' _ _ M' s c (.ref p) r
theorem de_lcgO (L : LcOkX X W elt tg iter ifs scope own ti g tt te) (hs : ∀ x, foldedSetIterable iter X.env x = pure x := by intro _; rfl) : DE X W (.ListComp elt [⟨tg, iter, ifs, 0⟩] scope pos) (dLgO ti g tt te (own.map (·.2))) :=
  ⟨peW (pe_lcX L.hst L.hfr L.tk L.hc L.hN L.hi.pi L.ok L.parts hs) fun _ _ _ h => upLgO h⟩
theorem ds_setLcgG {i : Nat} {y : Str} {py pos2 : Pos} {t : DTE} (L : LcOkX X W elt tg iter ifs scope own ti g tt te) (h : ∀ σ H Q, upE (kt X W) W.w t σ H Q → tLc (upI (kt X W) W.w ti) (upG (kt X W) (some (own.map (·.2))) g) (upT (kt X W) (atRaise W.w σ) tt) (upE (kt X W) (atRaise W.w σ) te) (own.map (·.2)) σ H Q)
    (hy : X.N[i]? = some y) (hyl : X.env.scope.names.lookup y = some .local) (hsw : swapsWith (.ListComp elt [⟨tg, iter, ifs, 0⟩] scope pos) (some (.Name y py)) pos2.line X.env = pure true) (hs : ∀ x, foldedSetIterable iter X.env x = pure x := by intro _; rfl) :
    DS X W (.Assign [.Name y py] (.ListComp elt [⟨tg, iter, ifs, 0⟩] scope pos) pos2) (dSet t i) :=
  ⟨psW (ps_setLcX L.hst L.hfr L.tk L.hc L.hN hy hyl hsw L.hi.pi L.ok L.parts hs) fun E σ H ⟨Γ, M, F, Dn, a, q, k⟩ =>
    h σ H _ ⟨Γ, M, F, _, _, a, q, fun F1 H1 v d M1 s1 c1 r1 q1 => k.nx F1 H1 _ _ M1 s1 c1 ((a.g.mono s1).set r1 i) q1⟩⟩
theorem ds_setLcgO (i : Nat) {y : Str} {py pos2 : Pos} (L : LcOkX X W elt tg iter ifs scope own ti g tt te) (hsw : swapsWith (.ListComp elt [⟨tg, iter, ifs, 0⟩] scope pos) (some (.Name y py)) pos2.line X.env = pure true) (hy : X.N[i]? = some y := by rfl) (hyl : X.env.scope.names.lookup y = some .local := by rfl) (hs : ∀ x, foldedSetIterable iter X.env x = pure x := by intro _; rfl) : DS X W (.Assign [.Name y py] (.ListComp elt [⟨tg, iter, ifs, 0⟩] scope pos) pos2) (dSet (dLgO ti g tt te (own.map (·.2))) i) := ds_setLcgG L (fun _ _ _ h => upLgO h) hy hyl hsw hs
end
end LW
namespace DL
open PySem PySem.Spec PyProof.Rows L2 LamX NdefX
open Classical in
def hidS (H : Hp) (S : Addr → Prop) (b : Addr) : Prop := S b ∨ ∃ a, H b = some (.own a) ∧ S a
open Classical in
noncomputable def hH (H : Hp) (S : Addr → Prop) : Hp := fun b => if hidS H S b then none else H b
/-- what may be hidden -/
def HidOk (H : Hp) (S : Addr → Prop) : Prop := ∀ b, S b → ∃ o, H b = some o ∧ (∀ xs, o ≠ .tup xs) ∧ (∀ x, o ≠ .own x) ∧ ∀ ps, o ≠ .tbl ps
section
variable {P : Program} {w : World} {H H' : Hp} {S : Addr → Prop} {h h' : Heap} {b : Addr}
theorem HidOk.ex (k : HidOk H S) (e : hidS H S b) : ∃ o, H b = some o ∧ (∀ xs, o ≠ .tup xs) ∧ ∀ ps, o ≠ .tbl ps := by
  rcases e with e | ⟨a, e, _⟩
  · obtain ⟨o, h1, h2, _, h3⟩ := k b e
    exact ⟨o, h1, h2, h3⟩
  · exact ⟨_, e, fun xs z => (by cases z), fun ps z => (by cases z)⟩
end
/-- a captured cell that holds v for good -/
def CelV (c : Addr) (v : V) : HO := .ext fun h => ∃ u, RelV v u ∧ h.IsCell c (some u)
mutual
def plD : D → Bool
  | .tup xs => plL xs
  | .lst xs => plL xs
  | .dic xs => plK xs
  | .obj _ fs => plS fs
  | .dit xs => plT xs
  | .any _ _ => false
  | _ => true
def plL : List D → Bool
  | [] => true
  | d :: ds => plD d && plL ds
def plK : List (Key × D) → Bool
  | [] => true
  | (_, d) :: ds => plD d && plK ds
def plS : List (Str × D) → Bool
  | [] => true
  | (_, d) :: ds => plD d && plS ds
def plT : List (List Key × D) → Bool
  | [] => true
  | (_, d) :: ds => plD d && plT ds
end
def plC : Cell → Bool
  | .lst xs => plL xs
  | .dic xs => plK xs
  | .dit xs => plT xs
  | .ins _ fs => plS fs
  | _ => false
def plG (wd : DG) : Bool := wd.all fun | none => true | some d => plD d
/-- Ms: those of the cells that a call needs -/
def SubM (Ms M : Mp) : Prop := ∀ a c, Ms a = some c → M a = some c ∧ plC c = true
/-- the cells behind the call -/
def backM (M Ms M' : Mp) : Mp := fun b => match M b, Ms b with
  | some c, none => some c
  | _, _ => M' b
section
variable {K : KTb} {M Ms M' : Mp} {F F' H H' : Hp}
theorem Sd.to {a : Addr} {o : HO} (r : Sd H a o) (e : H' a = H a) : Sd H' a o := by
  rcases r with r | ⟨k, ob, r⟩
  · exact .inl (by rw [e]; exact r)
  · exact .inr ⟨k, ob, by rw [e]; exact r⟩
end
end DL
namespace DL
open PySem PySem.Spec PyProof.Rows L2 LamX NdefX
/-- where a proof stands -/
structure Wd where
  P : Program
  w : World
  K : PySem.W.Frag
  T : List (Addr × Str)
  mg : Str → Option Value
  base : Heap
abbrev Wd.k (Z : Wd) : KTb := ⟨Z.K, Z.T⟩
/-- f is a lambda that keeps the promise sp; what it captured is known -/
def fnP (Z : Wd) (kl : Nat) (f : Addr) (sp : DSp) (F : Hp) : Prop := ∃ (G : NF) (be : Expr) (fr : List Str) (ws : List (Option V)) (wd : DG) (spL : DSp),
  LmK Z.P Z.w Z.K Z.mg Z.base Z.T kl G be fr wd spL ∧ F f = some (LmO f G be) ∧ F G.c = some (CodeO G.c G.qual) ∧ ws.length = fr.length ∧ (∀ y c, G.cl.lookup y = some c → ∃ v, F c = some (CelV c v)) ∧ (∀ x y c, G.cl.lookup x = some c → G.cl.lookup y = some c → x = y) ∧
  (∀ (i : Nat) y, fr[i]? = some y → ∃ c v, G.cl.lookup y = some c ∧ ws[i]? = some (some v) ∧ F c = some (CelV c v)) ∧ RpG Z.k F ws wd ∧ plG wd = true ∧ ∀ ds M Q E, sp ds M Q E → spL ds M Q E
def fnD (Z : Wd) (kl : Nat) (f : Addr) (sp : DSp) : D := .any (.ref f) (fnP Z kl f sp)
section
variable {Z : Wd} {kl : Nat} {f : Addr} {sp : DSp} {F F' H : Hp} {M Ms : Mp} {h : Heap} {v : V}
theorem fnP.mono (z : fnP Z kl f sp F) (s : Same F F') : fnP Z kl f sp F' := by
  obtain ⟨G, be, fr, ws, wd, spL, h1, h2, h3, h4, h5, h6, h7, h8, h9, h10⟩ := z
  exact ⟨G, be, fr, ws, wd, spL, h1, s _ _ h2, s _ _ h3, h4, fun y c e => (h5 y c e).imp fun v q => s _ _ q, h6, fun i y e => by
    obtain ⟨c, v, e1, e2, e3⟩ := h7 i y e
    exact ⟨c, v, e1, e2, s _ _ e3⟩, h8.mono s, h9, h10⟩
end
/-- x(e), e a lambda as a value; Ms: the cells that the call needs -/
def dHofV (Z : Wd) (kl : Nat) (sp : D → DSp → DSp) (te : DTE) : DTE := fun Γ M Q E => te Γ M (fun d M1 => ∃ (f : Addr) (spF : DSp) (Ms : Mp), d = fnD Z kl f spF ∧ SubM Ms M1 ∧
  ∀ (L : D) (spL : DSp), (∀ ds M Q E, spF ds M Q E → spL ds M Q E) → sp L spL [L] Ms (fun d2 M2 => Q d2 (backM M1 Ms M2)) (fun C fs M2 => E Γ C fs (backM M1 Ms M2))) E
/-- f(), f a name that holds a lambda as a value -/
def dActV (Z : Wd) (kl j : Nat) : DTE := fun Γ M Q E => ∃ (f : Addr) (spF : DSp) (Ms : Mp), Γ[j]? = some (some (fnD Z kl f spF)) ∧ SubM Ms M ∧ spF [] Ms (fun d2 M2 => Q d2 (backM M Ms M2)) (fun C fs M2 => E Γ C fs (backM M Ms M2))
def lamP (f : Addr) (G : NF) (be : Expr) : D := .any (.ref f) fun F => F f = some (LmO f G be) ∧ F G.c = some (CodeO G.c G.qual)
/-- the lambda's captured names: cells of the frame, at the slots js -/
def capB (sc scope : Scope) (N fr : List Str) (js : List Nat) : Bool :=
  scope.names.all (fun y => !decide (y.2 = .free) || decide (y.1 ∈ fr)) && fr.all (fun y => decide ((y, NameKind.free) ∈ scope.names) && decide (sc.names.lookup y = some .cell)) && decide (js.map (fun j => N[j]?) = fr.map some)
/-- what is known of a lambda just made: its words, its promise -/
structure LamOk (Z : Wd) (N : List Str) (sc : Scope) (cells : List (Str × Addr)) (kl : Nat) (G : NF) (be : Expr) (fr : List Str) (js : List Nat) (spL : DG → DSp) : Prop where
  cl : ∃ scope : Scope, G.cl = cloFrom cells scope.names [] ∧ capB sc scope N fr js = true
  lk : ∀ wd, LmK Z.P Z.w Z.K Z.mg Z.base Z.T kl G be fr wd (spL wd)
def dLam (Z : Wd) (N : List Str) (sc : Scope) (cells : List (Str × Addr)) (kl : Nat) (fr : List Str) (js : List Nat) (spL : DG → DSp) : DTE := fun _ M Q _ => ∀ f G be, LamOk Z N sc cells kl G be fr js spL → Q (lamP f G be) M
abbrev DTR := DG → Mp → (DG → D → Mp → Prop) → DXE → Prop
def dRRet (te : DTE) : DTR := fun Γ M Q E => te Γ M (fun d M1 => Q Γ d M1) E
def dRSeq (ts : DTS) (tr : DTR) : DTR := fun Γ M Q E => ts { nx := fun Γ1 M1 => tr Γ1 M1 Q E, rt := fun _ _ => False, ex := E } Γ M
/-- a datum turned -/
def Cv (K : KTb) (F : Hp) (d e : D) : Prop := ∀ v, Rp K F v d → Rp K F v e
theorem Cv.refl {K : KTb} {F : Hp} {d : D} : Cv K F d d := fun _ h => h
inductive Cvs (K : KTb) (F : Hp) : List D → List D → Prop
  | nil : Cvs K F [] []
  | cons {d e : D} {ds es : List D} : Cv K F d e → Cvs K F ds es → Cvs K F (d :: ds) (e :: es)
theorem Cvs.to {K : KTb} {F : Hp} {ds es : List D} (h : Cvs K F ds es) : ∀ {vs}, Rps K F vs ds → Rps K F vs es := by
  induction h with
  | nil => exact fun r => r
  | cons h _ ih =>
    intro vs r
    cases r with
    | cons r1 r2 => exact .cons (h _ r1) (ih r2)
theorem Cvs.lst {K : KTb} {F : Hp} {ds es : List D} (h : Cvs K F ds es) : Cv K F (.lst ds) (.lst es) := fun v r => by
  cases r with
  | lst h1 h2 => exact .lst h1 (h.to h2)
theorem Cvs.tup {K : KTb} {F : Hp} {ds es : List D} (h : Cvs K F ds es) : Cv K F (.tup ds) (.tup es) := fun v r => by
  cases r with
  | tup h1 h2 => exact .tup h1 (h.to h2)
end DL
namespace LW
open PySem L2 DL
abbrev Sp2 := Int × Int
abbrev Mk := Int × Int × Int
def okS (s : Sp2) : Prop := 0 ≤ s.1 ∧ s.1 < s.2 ∧ s.2 ≤ 400
def okM (m : Mk) : Prop := 0 ≤ m.2.1 ∧ m.2.1 < m.2.2 ∧ m.2.2 ≤ 400 ∧ m.2.1 ≤ m.1 ∧ m.1 < m.2.2
instance (s : Sp2) : Decidable (okS s) := by unfold okS; infer_instance
instance (m : Mk) : Decidable (okM m) := by unfold okM; infer_instance
/-- bound: one stretch may serve both -/
def bnd (a b : Mk) : Prop := a.2.1 ≤ a.1 ∧ a.2.1 ≤ b.1 ∧ b.2.1 ≤ a.1 ∧ b.2.1 ≤ b.1 ∧ a.1 < a.2.2 ∧ b.1 < a.2.2 ∧ a.1 < b.2.2 ∧ b.1 < b.2.2
def und (a b : Mk) : Prop := a.1 ≤ b.1 ∧ b.2.1 ≤ a.2.1 ∧ b.2.2 ≤ a.2.2
def acr (a b : Mk) : Prop := a.1 < b.1 ∧ a.2.1 < b.2.1 ∧ a.2.2 < b.2.2 ∧ bnd a b
instance (a b : Mk) : Decidable (bnd a b) := by unfold bnd; infer_instance
instance (a b : Mk) : Decidable (und a b) := by unfold und; infer_instance
instance (a b : Mk) : Decidable (acr a b) := by unfold acr; infer_instance
/-- the bag of what is drawn -/
def BagOk (ds : List D) : Prop := ∃ (ns : List Int) (i r s : Int), ds = [.lst (ns.map D.int), .int i, .int r, .int s] ∧ ns.length ≤ 63 ∧ 0 ≤ i ∧ 0 ≤ r ∧ 0 ≤ s ∧ s < 2147483629
abbrev bagC : Cell := .opq BagOk
def holds (x : Int) (s : Sp2) : Bool := decide (s.1 ≤ x) && decide (x < s.2)
def within (o a : Sp2) : Prop := a.1 ≤ o.1 ∧ o.2 ≤ a.2
instance (o a : Sp2) : Decidable (within o a) := by unfold within; infer_instance
def nar (o a : Sp2) : Bool := !decide (o = a) && decide (within o a)
def leastAt (x : Int) (as : List Sp2) : List Sp2 := (as.filter (holds x)).filter fun a => !((as.filter (holds x)).any fun o => nar o a)
theorem mem_leastAt {x : Int} {as : List Sp2} {a : Sp2} : a ∈ leastAt x as ↔ a ∈ as ∧ a.1 ≤ x ∧ x < a.2 ∧ ∀ o ∈ as, o.1 ≤ x → x < o.2 → o ≠ a → ¬ within o a := by
  unfold leastAt nar holds
  simp only [List.mem_filter, Bool.and_eq_true, decide_eq_true_eq, Bool.not_eq_true', List.any_eq_false, Bool.not_eq_false']
  constructor
  · rintro ⟨⟨h1, h2, h3⟩, h4⟩
    refine ⟨h1, h2, h3, fun o ho q1 q2 q3 q4 => ?_⟩
    exact h4 o ⟨ho, q1, q2⟩ ⟨by simpa using q3, q4⟩
  · rintro ⟨h1, h2, h3, h4⟩
    refine ⟨⟨h1, h2, h3⟩, fun o ⟨ho, q1, q2⟩ ⟨q3, q4⟩ => h4 o ho q1 q2 (by simpa using q3) q4⟩
/-- m is a mark of as, no other ask within its own holds its cell -/
def isEss (as : List Sp2) (m : Mk) : Prop := (m.2.1, m.2.2) ∈ leastAt m.1 as
def essAt (cs : List Int) (as : List Sp2) : List Mk := cs.flatMap fun c => (leastAt c as).map fun s => (c, s.1, s.2)
theorem mem_essAt {cs : List Int} {as : List Sp2} {m : Mk} : m ∈ essAt cs as ↔ m.1 ∈ cs ∧ isEss as m := by
  unfold essAt isEss
  rw [List.mem_flatMap]
  constructor
  · rintro ⟨c, hc, h⟩
    obtain ⟨s, hs, rfl⟩ := List.mem_map.mp h
    exact ⟨hc, hs⟩
  · rintro ⟨h1, h2⟩
    exact ⟨_, h1, List.mem_map.mpr ⟨_, h2, rfl⟩⟩
theorem leastAt_pw {x : Int} {as : List Sp2} (h : as.Pairwise spLt) : (leastAt x as).Pairwise spLt := by
  unfold leastAt
  exact (h.filter _).filter _
theorem essAt_pw {as : List Sp2} (h : as.Pairwise spLt) : ∀ {cs : List Int}, cs.Pairwise (· < ·) → (essAt cs as).Pairwise mkLt
  | [], _ => by simp [essAt]
  | c :: cs, hp => by
    obtain ⟨h1, h2⟩ := List.pairwise_cons.mp hp
    have e : essAt (c :: cs) as = ((leastAt c as).map fun s => (c, s.1, s.2)) ++ essAt cs as := by simp [essAt]
    rw [e]
    refine List.pairwise_append.mpr ⟨?_, essAt_pw h h2, fun x hx y hy => ?_⟩
    · rw [List.pairwise_map]
      exact (leastAt_pw h).imp fun {a b} z => .inr ⟨rfl, z⟩
    · obtain ⟨s, _, rfl⟩ := List.mem_map.mp hx
      obtain ⟨hc, _⟩ := mem_essAt.mp hy
      exact .inl (h1 _ hc)
def crossAny (f : List Mk) (m : Mk) : Bool := f.any fun o => decide (acr o m ∨ acr m o)
def takenOf (ms : List Mk) : List Mk := ms.foldl (fun f m => if crossAny f m = true then f else f ++ [m]) []
theorem takenOf_snoc (ms : List Mk) (m : Mk) : takenOf (ms ++ [m]) = if crossAny (takenOf ms) m = true then takenOf ms else takenOf ms ++ [m] := by
  unfold takenOf
  rw [List.foldl_append]
  rfl
theorem snoc_ind {P : List Mk → Prop} (h0 : P []) (h1 : ∀ ms m, P ms → P (ms ++ [m])) (ms : List Mk) : P ms := by
  rw [← List.reverse_reverse ms]
  induction ms.reverse with
  | nil => exact h0
  | cons x t ih => rw [List.reverse_cons]; exact h1 _ _ ih
theorem takenOf_sub (ms : List Mk) : (takenOf ms).Sublist ms := by
  refine snoc_ind (P := fun ms => (takenOf ms).Sublist ms) (List.Sublist.refl _) (fun ms m ih => ?_) ms
  rw [takenOf_snoc]
  split
  · exact ih.trans (List.sublist_append_left _ _)
  · exact List.Sublist.append ih (List.Sublist.refl _)
theorem takenOf_apart (ms : List Mk) : (takenOf ms).Pairwise fun a b => ¬ acr a b ∧ ¬ acr b a := by
  refine snoc_ind (P := fun ms => (takenOf ms).Pairwise fun a b => ¬ acr a b ∧ ¬ acr b a) List.Pairwise.nil (fun ms m ih => ?_) ms
  rw [takenOf_snoc]
  split
  · exact ih
  · rename_i h
    refine List.pairwise_append.mpr ⟨ih, List.pairwise_singleton _ _, fun a ha b hb => ?_⟩
    obtain rfl : b = m := by simpa using hb
    have : crossAny (takenOf ms) b = false := by simpa using h
    unfold crossAny at this
    rw [List.any_eq_false] at this
    have := this a ha
    simp only [decide_eq_true_eq, not_or] at this
    exact this
/-- essential marks that do not cross: bound just where one is under the other -/
theorem bound_under {as : List Sp2} {a c : Mk} (ha : isEss as a) (hc : isEss as c) (h1 : ¬ acr a c) (h2 : ¬ acr c a) (hb : bnd a c) : und a c ∨ und c a := by
  obtain ⟨a1, a2, a3, a4⟩ := mem_leastAt.mp ha
  obtain ⟨c1, c2, c3, c4⟩ := mem_leastAt.mp hc
  have hb' : bnd c a := by unfold bnd at hb ⊢; omega
  have n1 : ¬ (a.1 < c.1 ∧ a.2.1 < c.2.1 ∧ a.2.2 < c.2.2) := fun z => h1 ⟨z.1, z.2.1, z.2.2, hb⟩
  have n2 : ¬ (c.1 < a.1 ∧ c.2.1 < a.2.1 ∧ c.2.2 < a.2.2) := fun z => h2 ⟨z.1, z.2.1, z.2.2, hb'⟩
  unfold bnd at hb
  unfold und
  by_cases e : (c.2.1, c.2.2) = (a.2.1, a.2.2)
  · simp only [Prod.mk.injEq] at e
    omega
  · have m1 := a4 _ c1 (by show c.2.1 ≤ a.1; omega) (by show a.1 < c.2.2; omega) e
    have m2 := c4 _ a1 (by show a.2.1 ≤ c.1; omega) (by show c.1 < a.2.2; omega) (fun z => e z.symm)
    unfold within at m1 m2
    simp only at m1 m2
    simp only [Prod.mk.injEq] at e
    omega
instance (as : List Sp2) (m : Mk) : Decidable (isEss as m) := by unfold isEss; infer_instance
theorem mkLt_irr {a : Mk} : ¬ mkLt a a := by unfold mkLt; omega
theorem mkLt_asym {a b : Mk} (h : mkLt a b) : ¬ mkLt b a := by unfold mkLt at h ⊢; omega
theorem spLt_asym {a b : Sp2} (h : spLt a b) : ¬ spLt b a := by unfold spLt at h ⊢; omega
def goodL (as : List Sp2) : Prop := as.length ≤ 60 ∧ ∀ s ∈ as, okS s
/-- s serves m -/
def servs (s : Sp2) (m : Mk) : Prop := m.2.1 ≤ s.1 ∧ s.1 ≤ m.1 ∧ m.1 < s.2 ∧ s.2 ≤ m.2.2
instance (s : Sp2) (m : Mk) : Decidable (servs s m) := by unfold servs; infer_instance
def servedBy (ks : List Sp2) (m : Mk) : Bool := ks.any fun s => decide (servs s m)
theorem spLt_uniq : ∀ {l1 l2 : List Sp2}, l1.Pairwise spLt → l2.Pairwise spLt → (∀ m, m ∈ l1 ↔ m ∈ l2) → l1 = l2
  | [], [], _, _, _ => rfl
  | [], y :: ys, _, _, h => absurd ((h y).mpr List.mem_cons_self) (by simp)
  | x :: xs, [], _, _, h => absurd ((h x).mp List.mem_cons_self) (by simp)
  | x :: xs, y :: ys, h1, h2, h => by
    obtain ⟨a1, b1⟩ := List.pairwise_cons.mp h1
    obtain ⟨a2, b2⟩ := List.pairwise_cons.mp h2
    have irr : ∀ a : Sp2, ¬ spLt a a := fun a z => spLt_asym z z
    have e : x = y := by
      rcases List.mem_cons.mp ((h x).mp List.mem_cons_self) with e | hx
      · exact e
      · rcases List.mem_cons.mp ((h y).mpr List.mem_cons_self) with e | hy
        · exact e.symm
        · exact absurd (a1 y hy) (spLt_asym (a2 x hx))
    subst e
    have ih := spLt_uniq b1 b2 fun m => ⟨fun hm => by
      rcases List.mem_cons.mp ((h m).mp (List.mem_cons_of_mem _ hm)) with e | hm'
      · subst e
        exact absurd (a1 m hm) (irr m)
      · exact hm', fun hm => by
      rcases List.mem_cons.mp ((h m).mpr (List.mem_cons_of_mem _ hm)) with e | hm'
      · subst e
        exact absurd (a2 m hm) (irr m)
      · exact hm'⟩
    rw [ih]
/-- the asks, each once, rising -/
def Dst (as bs : List Sp2) : Prop := bs.Pairwise spLt ∧ (∀ s, s ∈ bs ↔ s ∈ as) ∧ bs.length ≤ as.length
theorem injInt : ∀ a b : Int, D.int a = D.int b → a = b := fun a b h => by simpa using h
theorem ixN_nat {n k : Nat} (h : k < n) : ixN n (k : Int) = some k := by
  simp [ixN]
  omega
end LW
namespace LW
theorem nodup_sub {α : Type} [DecidableEq α] : ∀ {a b : List α}, a.Nodup → (∀ x ∈ a, x ∈ b) → a.length ≤ b.length
  | [], _, _, _ => Nat.zero_le _
  | x :: a, b, h, s => by
    obtain ⟨h1, h2⟩ := List.nodup_cons.mp h
    have hx := s x List.mem_cons_self
    have := nodup_sub (a := a) (b := b.erase x) h2 fun y hy => (List.mem_erase_of_ne fun e => h1 (by rw [← e]; exact hy)).mpr (s y (List.mem_cons_of_mem _ hy))
    rw [List.length_erase_of_mem hx] at this
    have : 0 < b.length := List.length_pos_of_mem hx
    rw [List.length_cons]
    omega
theorem getD_set {α : Type} {d v : α} {l : List α} {i j : Nat} : (l.set i v).getD j d = if i = j ∧ i < l.length then v else l.getD j d := by
  simp only [List.getD_eq_getElem?_getD]
  by_cases e : i = j
  · subst e
    by_cases h : i < l.length
    · rw [List.getElem?_set_self h, if_pos ⟨rfl, h⟩]; rfl
    · rw [if_neg fun z => h z.2, List.getElem?_eq_none (by rw [List.length_set]; omega), List.getElem?_eq_none (by omega)]
  · rw [List.getElem?_set_ne e, if_neg fun z => e z.1]
theorem filter_split {α : Type} (p : α → Bool) : ∀ l : List α, (l.filter p).length + (l.filter fun x => !p x).length = l.length
  | [] => rfl
  | x :: l => by
    have := filter_split p l
    cases h : p x <;> simp [h] <;> omega
abbrev RS := List Nat × List (Nat × Nat)
/-- the lower one by which an upper one came -/
def whence (came : List (Nat × Nat)) (to : Nat) : Option Nat := (came.find? fun p => p.1 == to).map (·.2)
def isIn (came : List (Nat × Nat)) (to : Nat) : Bool := came.any fun p => p.1 == to
def rstep (below : List Int) (low : Nat) (s : RS) (to : Nat) : RS :=
  if isIn s.2 to = true then s else (if 0 ≤ below.getD to (-1) then s.1 ++ [(below.getD to (-1)).toNat] else s.1, s.2 ++ [(to, low)])
def rturn (ups : List (List Nat)) (below : List Int) (s : RS) (at_ : Nat) : RS := (ups.getD (s.1.getD at_ 0) []).foldl (rstep below (s.1.getD at_ 0)) s
def reachF (ups : List (List Nat)) (below : List Int) : Nat → Nat → RS → RS
  | 0, _, s => s
  | f + 1, a, s => if a < s.1.length then reachF ups below f (a + 1) (rturn ups below s a) else s
def reached (ups : List (List Nat)) (below : List Int) (begin_ : List Nat) : RS := reachF ups below (begin_.length + ups.length + 1) 0 (begin_, [])
theorem isIn_iff {came : List (Nat × Nat)} {to : Nat} : isIn came to = true ↔ to ∈ came.map (·.1) := by
  unfold isIn
  rw [List.any_eq_true, List.mem_map]
  constructor
  · rintro ⟨p, h1, h2⟩
    exact ⟨p, h1, by simpa using h2⟩
  · rintro ⟨p, h1, h2⟩
    exact ⟨p, h1, by simpa using h2⟩
/-- what holds all along the search: from the first turns `a` on all is done; n: all places are below -/
structure RI (ups : List (List Nat)) (below : List Int) (begin_ : List Nat) (s : RS) : Prop where
  nd : (s.2.map (·.1)).Nodup
  kb : ∀ p ∈ s.2, p.1 < ups.length ∧ p.2 ∈ s.1 ∧ p.1 ∈ ups.getD p.2 []
  lb : ∃ r, s.1 = begin_ ++ r ∧ r.length ≤ s.2.length ∧ ∀ l ∈ r, ∃ q ∈ s.2, below.getD q.1 (-1) = (l : Int)
  bl : ∀ p ∈ s.2, 0 ≤ below.getD p.1 (-1) → (below.getD p.1 (-1)).toNat ∈ s.1
  /-- a lower one by which one came is of the beginning, or matched by an earlier upper one -/
  wf : ∀ (i : Nat) (p : Nat × Nat), s.2[i]? = some p → p.2 ∈ begin_ ∨ ∃ j q, j < i ∧ s.2[j]? = some q ∧ below.getD q.1 (-1) = (p.2 : Int)
section
variable {ups : List (List Nat)} {below : List Int} {begin_ : List Nat}
theorem RI.low {s : RS} (h : RI ups below begin_ s) {l : Nat} (hl : l ∈ s.1) : l ∈ begin_ ∨ ∃ (j : Nat) (q : Nat × Nat), j < s.2.length ∧ s.2[j]? = some q ∧ below.getD q.1 (-1) = (l : Int) := by
  obtain ⟨r, e, _, h2⟩ := h.lb
  rw [e] at hl
  rcases List.mem_append.mp hl with hl | hl
  · exact .inl hl
  · obtain ⟨q, hq, e2⟩ := h2 l hl
    obtain ⟨j, hj⟩ := List.mem_iff_getElem?.mp hq
    exact .inr ⟨j, q, (List.getElem?_eq_some_iff.mp hj).1, hj, e2⟩
theorem RI.step {s : RS} {low to : Nat} (h : RI ups below begin_ s) (hl : low ∈ s.1) (ht : to < ups.length) (hu : to ∈ ups.getD low []) : RI ups below begin_ (rstep below low s to) := by
  unfold rstep
  split
  · exact h
  · rename_i hn
    have hn : to ∉ s.2.map (·.1) := fun z => hn (isIn_iff.mpr z)
    refine ⟨?_, ?_, ?_, ?_, ?_⟩
    · rw [List.map_append]
      refine List.nodup_append.mpr ⟨h.nd, by simp, ?_⟩
      intro a ha b hb e
      have : b = to := by simpa using hb
      subst e
      subst this
      exact hn ha
    · intro p hp
      have up : ∀ l ∈ s.1, l ∈ (if 0 ≤ below.getD to (-1) then s.1 ++ [(below.getD to (-1)).toNat] else s.1) := fun l hl => by split <;> simp [hl]
      rcases List.mem_append.mp hp with hp | hp
      · obtain ⟨a, b, c⟩ := h.kb p hp
        exact ⟨a, up _ b, c⟩
      · obtain rfl : p = (to, low) := by simpa using hp
        exact ⟨ht, up _ hl, hu⟩
    · obtain ⟨r, e, e2, e3⟩ := h.lb
      dsimp only
      split
      · rename_i h0
        refine ⟨r ++ [(below.getD to (-1)).toNat], by rw [e, List.append_assoc], by simp; exact e2, fun l hl => ?_⟩
        rcases List.mem_append.mp hl with hl | hl
        · obtain ⟨q, hq, z⟩ := e3 l hl
          exact ⟨q, List.mem_append_left _ hq, z⟩
        · obtain rfl : l = (below.getD to (-1)).toNat := by simpa using hl
          exact ⟨(to, low), by simp, by show below.getD to (-1) = _; omega⟩
      · exact ⟨r, e, by simp; omega, fun l hl => let ⟨q, hq, z⟩ := e3 l hl; ⟨q, List.mem_append_left _ hq, z⟩⟩
    · intro p hp h0
      dsimp only
      rcases List.mem_append.mp hp with hp | hp
      · have := h.bl p hp h0
        split
        · exact List.mem_append_left _ this
        · exact this
      · obtain rfl : p = (to, low) := by simpa using hp
        have h0 : 0 ≤ below.getD to (-1) := h0
        rw [if_pos h0]
        simp
    · intro i p hp
      have hp : (s.2 ++ [(to, low)])[i]? = some p := hp
      have lift : ∀ (l : Nat) (i : Nat), i ≤ s.2.length → (l ∈ begin_ ∨ ∃ (j : Nat) (q : Nat × Nat), j < i ∧ s.2[j]? = some q ∧ below.getD q.1 (-1) = (l : Int)) → (l ∈ begin_ ∨ ∃ (j : Nat) (q : Nat × Nat), j < i ∧ (s.2 ++ [(to, low)])[j]? = some q ∧ below.getD q.1 (-1) = (l : Int)) := fun l i hi z => z.imp id fun ⟨j, q, a, b, c⟩ => ⟨j, q, a, by rw [List.getElem?_append_left (by omega)]; exact b, c⟩
      by_cases hi : i < s.2.length
      · rw [List.getElem?_append_left hi] at hp
        exact lift _ i (by omega) (h.wf i p hp)
      · have hi2 : i = s.2.length := by
          have := (List.getElem?_eq_some_iff.mp hp).1
          simp at this
          omega
        subst hi2
        rw [List.getElem?_append_right (Nat.le_refl _)] at hp
        obtain rfl : (to, low) = p := by simpa using hp
        refine lift _ _ (Nat.le_refl _) ?_
        exact (h.low hl).imp id fun ⟨j, q, a, b, c⟩ => ⟨j, q, a, b, c⟩
/-- the search only grows -/
def grows (s t : RS) : Prop := (∃ r, t.1 = s.1 ++ r) ∧ ∃ r, t.2 = s.2 ++ r
theorem grows.refl (s : RS) : grows s s := ⟨⟨[], by simp⟩, [], by simp⟩
theorem grows.trans {s t u : RS} (h : grows s t) (g : grows t u) : grows s u := by
  obtain ⟨⟨a, ha⟩, b, hb⟩ := h
  obtain ⟨⟨c, hc⟩, d, hd⟩ := g
  exact ⟨⟨a ++ c, by rw [hc, ha, List.append_assoc]⟩, b ++ d, by rw [hd, hb, List.append_assoc]⟩
theorem grows.step (below : List Int) (low : Nat) (s : RS) (to : Nat) : grows s (rstep below low s to) := by
  unfold rstep
  split
  · exact grows.refl s
  · refine ⟨?_, _, rfl⟩
    dsimp only
    split
    · exact ⟨_, rfl⟩
    · exact ⟨[], by simp⟩
theorem grows.len {s t : RS} (h : grows s t) : s.1.length ≤ t.1.length := by
  obtain ⟨⟨r, e⟩, _⟩ := h
  rw [e]
  simp
theorem grows.get {s t : RS} (h : grows s t) {i : Nat} (hi : i < s.1.length) : t.1.getD i 0 = s.1.getD i 0 := by
  obtain ⟨⟨r, e⟩, _⟩ := h
  rw [e, List.getD_eq_getElem?_getD, List.getElem?_append_left hi, List.getD_eq_getElem?_getD]
theorem grows.key {s t : RS} (h : grows s t) {k : Nat} (hk : k ∈ s.2.map (·.1)) : k ∈ t.2.map (·.1) := by
  obtain ⟨_, r, e⟩ := h
  rw [e, List.map_append]
  exact List.mem_append_left _ hk
theorem step_key (below : List Int) (low : Nat) (s : RS) (to : Nat) : to ∈ (rstep below low s to).2.map (·.1) := by
  unfold rstep
  split
  · rename_i h
    exact isIn_iff.mp h
  · simp
theorem fold_ri {low : Nat} : ∀ (ts : List Nat) (s : RS), RI ups below begin_ s → low ∈ s.1 → (∀ t ∈ ts, t < ups.length ∧ t ∈ ups.getD low []) →
    RI ups below begin_ (ts.foldl (rstep below low) s) ∧ grows s (ts.foldl (rstep below low) s) ∧ ∀ t ∈ ts, t ∈ (ts.foldl (rstep below low) s).2.map (·.1)
  | [], s, h, _, _ => ⟨h, grows.refl s, fun t ht => (by cases ht)⟩
  | t :: ts, s, h, hl, ht => by
    have g := grows.step below low s t
    obtain ⟨a, b⟩ := ht t List.mem_cons_self
    have hl2 : low ∈ (rstep below low s t).1 := by
      obtain ⟨⟨r, e⟩, _⟩ := g
      rw [e]
      exact List.mem_append_left _ hl
    obtain ⟨h1, h2, h3⟩ := fold_ri ts _ (h.step hl a b) hl2 fun t ht' => ht t (List.mem_cons_of_mem _ ht')
    refine ⟨h1, g.trans h2, fun x hx => ?_⟩
    rcases List.mem_cons.mp hx with rfl | hx
    · exact h2.key (step_key below low s x)
    · exact h3 x hx
/-- the first a lower ones are gone through -/
def RDone (ups : List (List Nat)) (a : Nat) (s : RS) : Prop := ∀ i, i < a → ∀ t ∈ ups.getD (s.1.getD i 0) [], t ∈ s.2.map (·.1)
theorem turn_ri {s : RS} {a : Nat} (hu : ∀ l, ∀ t ∈ ups.getD l [], t < ups.length) (h : RI ups below begin_ s) (hd : RDone ups a s) (ha : a < s.1.length) : RI ups below begin_ (rturn ups below s a) ∧ grows s (rturn ups below s a) ∧ RDone ups (a + 1) (rturn ups below s a) := by
  have hm : s.1.getD a 0 ∈ s.1 := by
    rw [List.getD_eq_getElem?_getD, List.getElem?_eq_getElem ha]
    exact List.getElem_mem ha
  obtain ⟨h1, h2, h3⟩ := fold_ri (ups.getD (s.1.getD a 0) []) s h hm fun t ht => ⟨hu _ t ht, ht⟩
  refine ⟨h1, h2, fun i hi t ht => ?_⟩
  have e := h2.get (i := i) (by omega)
  unfold rturn at ht ⊢
  rw [e] at ht
  by_cases z : i = a
  · subst z
    exact h3 t ht
  · exact h2.key (hd i (by omega) t ht)
theorem RI.count {s : RS} (h : RI ups below begin_ s) : s.1.length ≤ begin_.length + ups.length := by
  obtain ⟨r, e, h2, _⟩ := h.lb
  have : (s.2.map (·.1)).length ≤ (List.range ups.length).length := nodup_sub h.nd fun x hx => by
    obtain ⟨p, hp, rfl⟩ := List.mem_map.mp hx
    exact List.mem_range.mpr (h.kb p hp).1
  rw [List.length_map, List.length_range] at this
  rw [e, List.length_append]
  omega
theorem reachF_ri (hu : ∀ l, ∀ t ∈ ups.getD l [], t < ups.length) : ∀ (f a : Nat) (s : RS), RI ups below begin_ s → RDone ups a s → begin_.length + ups.length < f + a → a ≤ s.1.length →
    RI ups below begin_ (reachF ups below f a s) ∧ grows s (reachF ups below f a s) ∧ RDone ups (reachF ups below f a s).1.length (reachF ups below f a s)
  | 0, a, s, h, hd, hf, ha => by
    have := h.count
    exact ⟨h, grows.refl s, by omega⟩
  | f + 1, a, s, h, hd, hf, ha => by
    unfold reachF
    split
    · rename_i hlt
      obtain ⟨h1, h2, h3⟩ := turn_ri hu h hd hlt
      obtain ⟨g1, g2, g3⟩ := reachF_ri hu f (a + 1) _ h1 h3 (by omega) (by have := h2.len; omega)
      exact ⟨g1, h2.trans g2, g3⟩
    · rename_i hlt
      have : a = s.1.length := by omega
      subst this
      exact ⟨h, grows.refl s, hd⟩
theorem ri0 (ups : List (List Nat)) (below : List Int) (begin_ : List Nat) : RI ups below begin_ (begin_, []) :=
  ⟨by simp, fun p hp => (by cases hp), ⟨[], by simp, Nat.le_refl _, fun l hl => (by cases hl)⟩, fun p hp => (by cases hp), fun i p hp => (by simp at hp)⟩
theorem reached_ri (hu : ∀ l, ∀ t ∈ ups.getD l [], t < ups.length) : RI ups below begin_ (reached ups below begin_) ∧ (∀ l ∈ begin_, l ∈ (reached ups below begin_).1) ∧
    ∀ l ∈ (reached ups below begin_).1, ∀ t ∈ ups.getD l [], t ∈ (reached ups below begin_).2.map (·.1) := by
  obtain ⟨h1, ⟨⟨r, h2⟩, _⟩, h3⟩ := reachF_ri (below := below) (begin_ := begin_) hu (begin_.length + ups.length + 1) 0 (begin_, []) (ri0 _ _ _) (fun i hi => by omega) (by omega) (Nat.zero_le _)
  refine ⟨h1, fun l hl => ?_, fun l hl t ht => ?_⟩
  · show l ∈ (reachF _ _ _ _ _).1
    rw [h2]
    exact List.mem_append_left _ hl
  · obtain ⟨i, hi⟩ := List.mem_iff_getElem?.mp hl
    obtain ⟨hi1, hi2⟩ := List.getElem?_eq_some_iff.mp hi
    refine h3 i hi1 t ?_
    have : (reachF ups below (begin_.length + ups.length + 1) 0 (begin_, [])).1.getD i 0 = l := by
      rw [List.getD_eq_getElem?_getD]
      have hi : (reachF ups below (begin_.length + ups.length + 1) 0 (begin_, [])).1[i]? = some l := hi
      rw [hi]
      rfl
    rw [this]
    exact ht
end
end LW
namespace LW
abbrev MS := List Int × List Int
def augF (came : List (Nat × Nat)) (beg : Nat) : Nat → Nat → MS → MS
  | 0, _, m => m
  | f + 1, to, m =>
    let low := (whence came to).getD 0
    if low = beg then (m.1.set low (to : Int), m.2.set to (low : Int)) else augF came beg f (m.1.getD low (-1)).toNat (m.1.set low (to : Int), m.2.set to (low : Int))
def minN : List Nat → Nat
  | [] => 0
  | x :: r => r.foldl min x
theorem foldl_minN : ∀ (r : List Nat) (x : Nat), (r.foldl min x = x ∨ r.foldl min x ∈ r) ∧ r.foldl min x ≤ x ∧ ∀ y ∈ r, r.foldl min x ≤ y
  | [], x => ⟨.inl rfl, Nat.le_refl _, fun y h => (by cases h)⟩
  | y :: r, x => by
    obtain ⟨h1, h2, h3⟩ := foldl_minN r (min x y)
    rw [List.foldl_cons]
    have m1 : min x y ≤ x := Nat.min_le_left _ _
    have m2 : min x y ≤ y := Nat.min_le_right _ _
    refine ⟨?_, by omega, fun z hz => ?_⟩
    · rcases h1 with e | e
      · rw [e]
        rcases Nat.le_total x y with q | q
        · exact .inl (Nat.min_eq_left q)
        · exact .inr (by rw [Nat.min_eq_right q]; exact List.mem_cons_self)
      · exact .inr (List.mem_cons_of_mem _ e)
    · rcases List.mem_cons.mp hz with rfl | hz
      · omega
      · exact h3 z hz
theorem minN_mem {l : List Nat} (h : l ≠ []) : minN l ∈ l ∧ ∀ y ∈ l, minN l ≤ y := by
  cases l with
  | nil => exact absurd rfl h
  | cons x r =>
    obtain ⟨h1, h2, h3⟩ := foldl_minN r x
    refine ⟨?_, fun y hy => ?_⟩
    · rcases h1 with e | e
      · show r.foldl min x ∈ _
        rw [e]
        exact List.mem_cons_self
      · exact List.mem_cons_of_mem _ e
    · rcases List.mem_cons.mp hy with rfl | hy
      · exact h2
      · exact h3 y hy
def freeOf (below : List Int) (r : RS) : List Nat := (r.2.map (·.1)).filter fun to => decide (below.getD to (-1) < 0)
def widenF (ups : List (List Nat)) (m : MS) (beg : Nat) : MS :=
  let r := reached ups m.2 [beg]
  if freeOf m.2 r = [] then m else augF r.2 beg (r.2.length + 1) (minN (freeOf m.2 r)) m
def matchF (ups : List (List Nat)) (k : Nat) : MS := (List.range k).foldl (widenF ups) (List.replicate ups.length (-1), List.replicate ups.length (-1))
/-- above and below tell the same pairs, each an edge -/
structure Con (ups : List (List Nat)) (m : MS) : Prop where
  l1 : m.1.length = ups.length
  l2 : m.2.length = ups.length
  a : ∀ l t : Nat, m.1.getD l (-1) = (t : Int) → t < ups.length ∧ m.2.getD t (-1) = (l : Int) ∧ t ∈ ups.getD l []
  b : ∀ t l : Nat, m.2.getD t (-1) = (l : Int) → l < ups.length ∧ m.1.getD l (-1) = (t : Int)
/-- nothing free is come to from L: uppers of L are in U, U's are matched in L -/
def Dead (ups : List (List Nat)) (below : List Int) (L U : Nat → Prop) : Prop := (∀ l, L l → ∀ t ∈ ups.getD l [], U t) ∧ ∀ u, U u → ∃ l : Nat, L l ∧ below.getD u (-1) = (l : Int)
structure AI (ups : List (List Nat)) (m0 : MS) (came : List (Nat × Nat)) (beg : Nat) (i to : Nat) (m : MS) : Prop where
  l1 : m.1.length = ups.length
  l2 : m.2.length = ups.length
  a : ∀ l t : Nat, m.1.getD l (-1) = (t : Int) → t < ups.length ∧ m.2.getD t (-1) = (l : Int) ∧ t ≠ to ∧ t ∈ ups.getD l []
  b : ∀ t l : Nat, t ≠ to → m.2.getD t (-1) = (l : Int) → l < ups.length ∧ m.1.getD l (-1) = (t : Int)
  c : m.1.getD beg (-1) < 0
  d : ∀ l t : Nat, m0.1.getD l (-1) = (t : Int) → m.1.getD l (-1) = (t : Int) ∨ ∃ k q, i ≤ k ∧ came[k]? = some q ∧ q.1 = t
  e : ∀ l, 0 ≤ m0.1.getD l (-1) → 0 ≤ m.1.getD l (-1)
  g : ∀ l, 0 ≤ m.1.getD l (-1) → 0 ≤ m0.1.getD l (-1)
  f : ∀ L U : Nat → Prop, Dead ups m0.2 L U → ¬ L beg → ¬ U to ∧ ∀ u, U u → m.2.getD u (-1) = m0.2.getD u (-1)
theorem keys_at {came : List (Nat × Nat)} (nd : (came.map (·.1)).Nodup) {i j : Nat} {p q : Nat × Nat} (h1 : came[i]? = some p) (h2 : came[j]? = some q) (e : p.1 = q.1) : i = j := by
  obtain ⟨hi, e1⟩ := List.getElem?_eq_some_iff.mp h1
  obtain ⟨hj, e2⟩ := List.getElem?_eq_some_iff.mp h2
  have := (List.getElem_inj (h₀ := by simpa using hi) (h₁ := by simpa using hj) nd).mp (by simp [e1, e2, e])
  exact this
theorem whence_at {came : List (Nat × Nat)} (nd : (came.map (·.1)).Nodup) {i : Nat} {p : Nat × Nat} (h : came[i]? = some p) : whence came p.1 = some p.2 := by
  unfold whence
  have hm : p ∈ came := List.mem_of_getElem? h
  cases hf : came.find? (fun q => q.1 == p.1) with
  | none =>
    have := List.find?_eq_none.mp hf p hm
    simp at this
  | some q =>
    have hq := List.mem_of_find?_eq_some hf
    have e : q.1 = p.1 := by simpa using List.find?_some hf
    obtain ⟨j, hj⟩ := List.mem_iff_getElem?.mp hq
    have := keys_at nd hj h e
    subst this
    rw [h] at hj
    cases hj
    rfl
theorem aug_ok {ups : List (List Nat)} {m0 : MS} {beg : Nat} {r : RS} (C : Con ups m0) (hb : beg < ups.length) (hul : ∀ l, ∀ t ∈ ups.getD l [], l < ups.length) (R : RI ups m0.2 [beg] r) : ∀ (f i to low : Nat) (m : MS), i < f → r.2[i]? = some (to, low) → AI ups m0 r.2 beg i to m →
    Con ups (augF r.2 beg f to m) ∧ 0 ≤ (augF r.2 beg f to m).1.getD beg (-1) ∧ (∀ l, 0 ≤ m0.1.getD l (-1) → 0 ≤ (augF r.2 beg f to m).1.getD l (-1)) ∧ (∀ l, 0 ≤ (augF r.2 beg f to m).1.getD l (-1) → 0 ≤ m0.1.getD l (-1) ∨ l = beg) ∧ ∀ L U : Nat → Prop, Dead ups m0.2 L U → ¬ L beg → Dead ups (augF r.2 beg f to m).2 L U
  | 0, i, _, _, _, h, _, _ => by omega
  | f + 1, i, to, low, m, hi, hr, A => by
    have hw : whence r.2 to = some low := whence_at R.nd (p := (to, low)) hr
    obtain ⟨tb, lm, tu⟩ := R.kb _ (List.mem_of_getElem? hr)
    have tb : to < ups.length := tb
    have tu : to ∈ ups.getD low [] := tu
    have hlow : low < ups.length := hul low to tu
    have hl1 : low < m.1.length := by rw [A.l1]; exact hlow
    have ht2 : to < m.2.length := by rw [A.l2]; exact tb
    have g1 : ∀ j, (m.1.set low (to : Int)).getD j (-1) = if low = j then (to : Int) else m.1.getD j (-1) := fun j => by
      rw [getD_set]
      by_cases z : low = j
      · rw [if_pos ⟨z, hl1⟩, if_pos z]
      · rw [if_neg fun q => z q.1, if_neg z]
    have g2 : ∀ j, (m.2.set to (low : Int)).getD j (-1) = if to = j then (low : Int) else m.2.getD j (-1) := fun j => by
      rw [getD_set]
      by_cases z : to = j
      · rw [if_pos ⟨z, ht2⟩, if_pos z]
      · rw [if_neg fun q => z q.1, if_neg z]
    unfold augF
    rw [hw]
    dsimp only [Option.getD_some]
    have dead2 : ∀ L U : Nat → Prop, Dead ups m0.2 L U → ¬ L beg → ¬ L low := fun L U D hL hl => (A.f L U D hL).1 (D.1 low hl to tu)
    have keep : ∀ L U : Nat → Prop, Dead ups m0.2 L U → ¬ L beg → ∀ u, U u → (m.2.set to (low : Int)).getD u (-1) = m0.2.getD u (-1) := fun L U D hL u hu => by
      obtain ⟨h1, h2⟩ := A.f L U D hL
      rw [g2, if_neg fun z : to = u => h1 (by rw [z]; exact hu)]
      exact h2 u hu
    have e2 : ∀ l, 0 ≤ m0.1.getD l (-1) → 0 ≤ (m.1.set low (to : Int)).getD l (-1) := fun l h => by
      rw [g1]
      split
      · omega
      · exact A.e l h
    by_cases hbeg : low = beg
    · rw [if_pos hbeg]
      refine ⟨⟨by rw [List.length_set]; exact A.l1, by rw [List.length_set]; exact A.l2, fun l t h => ?_, fun t l h => ?_⟩, ?_, e2, fun l h => ?_, fun L U D hL => ⟨D.1, fun u hu => ?_⟩⟩
      · dsimp only at h ⊢
        rw [g1] at h
        by_cases z : low = l
        · rw [if_pos z] at h
          have : to = t := by omega
          subst this
          subst z
          exact ⟨tb, by rw [g2, if_pos rfl], tu⟩
        · rw [if_neg z] at h
          obtain ⟨q1, q2, q3, q4⟩ := A.a l t h
          exact ⟨q1, by rw [g2, if_neg fun y => q3 y.symm]; exact q2, q4⟩
      · dsimp only at h ⊢
        rw [g2] at h
        by_cases z : to = t
        · rw [if_pos z] at h
          have : low = l := by omega
          subst this
          subst z
          exact ⟨hlow, by rw [g1, if_pos rfl]⟩
        · rw [if_neg z] at h
          obtain ⟨q1, q2⟩ := A.b t l (fun y => z y.symm) h
          refine ⟨q1, ?_⟩
          rw [g1]
          by_cases y : low = l
          · exfalso
            have := A.c
            rw [← hbeg, y, q2] at this
            omega
          · rw [if_neg y]
            exact q2
      · dsimp only
        rw [g1, if_pos hbeg]
        omega
      · dsimp only at h
        rw [g1] at h
        by_cases z : low = l
        · exact .inr (by omega)
        · rw [if_neg z] at h
          exact .inl (A.g l h)
      · dsimp only
        rw [keep L U D hL u hu]
        exact D.2 u hu
    · rw [if_neg hbeg]
      obtain ⟨j, q, hj, hq, hbe⟩ : ∃ j q, j < i ∧ r.2[j]? = some q ∧ m0.2.getD q.1 (-1) = (low : Int) := by
        rcases R.wf i (to, low) hr with h | h
        · exact absurd (by simpa using h) hbeg
        · exact h
      obtain ⟨_, hab0⟩ := C.b q.1 low hbe
      have hab : m.1.getD low (-1) = (q.1 : Int) := by
        rcases A.d low q.1 hab0 with h | ⟨k, p, hk, hp, e⟩
        · exact h
        · have := keys_at R.nd hp hq e
          omega
      obtain ⟨q1, q2, q3, q4⟩ := A.a low q.1 hab
      rw [hab]
      have en : ((q.1 : Nat) : Int).toNat = q.1 := by omega
      rw [en]
      refine aug_ok C hb hul R f j q.1 q.2 _ (by omega) hq ⟨by rw [List.length_set]; exact A.l1, by rw [List.length_set]; exact A.l2, fun l t h => ?_, fun t l ht h => ?_, ?_, fun l t h => ?_, e2, fun l h => ?_, fun L U D hL => ⟨fun hu => ?_, keep L U D hL⟩⟩
      · dsimp only at h ⊢
        rw [g1] at h
        by_cases z : low = l
        · rw [if_pos z] at h
          have : to = t := by omega
          subst this
          subst z
          exact ⟨tb, by rw [g2, if_pos rfl], fun y => q3 y.symm, tu⟩
        · rw [if_neg z] at h
          obtain ⟨p1, p2, p3, p4⟩ := A.a l t h
          refine ⟨p1, by rw [g2, if_neg fun y => p3 y.symm]; exact p2, fun y => ?_, p4⟩
          rw [y, q2] at p2
          exact z (by omega)
      · dsimp only at h ⊢
        rw [g2] at h
        by_cases z : to = t
        · rw [if_pos z] at h
          have : low = l := by omega
          subst this
          subst z
          exact ⟨hlow, by rw [g1, if_pos rfl]⟩
        · rw [if_neg z] at h
          obtain ⟨p1, p2⟩ := A.b t l (fun y => z y.symm) h
          refine ⟨p1, ?_⟩
          rw [g1]
          by_cases y : low = l
          · exfalso
            rw [← y, hab] at p2
            exact ht (by omega)
          · rw [if_neg y]
            exact p2
      · dsimp only
        rw [g1, if_neg hbeg]
        exact A.c
      · dsimp only
        by_cases z : low = l
        · subst z
          rw [hab0] at h
          have : q.1 = t := by omega
          exact .inr ⟨j, q, Nat.le_refl _, hq, this⟩
        · rw [g1, if_neg z]
          exact (A.d l t h).imp id fun ⟨k, p, a1, a2⟩ => ⟨k, p, by omega, a2⟩
      · dsimp only at h
        rw [g1] at h
        by_cases z : low = l
        · subst z
          omega
        · rw [if_neg z] at h
          exact A.g l h
      · -- the next upper one is not dead
        obtain ⟨l, hl, e⟩ := D.2 _ hu
        rw [hbe] at e
        have : low = l := by omega
        subst this
        exact dead2 L U D hL hl
theorem freeOf_nil {below : List Int} {r : RS} (h : freeOf below r = []) : ∀ p ∈ r.2, 0 ≤ below.getD p.1 (-1) := fun p hp => by
  unfold freeOf at h
  rw [List.filter_eq_nil_iff] at h
  have := h p.1 (List.mem_map.mpr ⟨p, hp, rfl⟩)
  simp only [decide_eq_true_eq] at this
  omega
/-- what holds when the first k places have been gone through -/
structure MI (ups : List (List Nat)) (k : Nat) (m : MS) : Prop where
  con : Con ups m
  dead : ∃ L U : Nat → Prop, Dead ups m.2 L U ∧ (∀ l, l < k → m.1.getD l (-1) < 0 → L l) ∧ ∀ l, L l → m.1.getD l (-1) < 0 → l < k
  un : ∀ l, k ≤ l → m.1.getD l (-1) < 0
theorem widen_ok {ups : List (List Nat)} (hu : ∀ l, ∀ t ∈ ups.getD l [], t < ups.length) (hul : ∀ l, ∀ t ∈ ups.getD l [], l < ups.length) {k : Nat} {m : MS} (hk : k < ups.length) (M : MI ups k m) : MI ups (k + 1) (widenF ups m k) := by
  obtain ⟨L, U, D, d1, d2⟩ := M.dead
  obtain ⟨R, R2, R3⟩ := reached_ri (ups := ups) (below := m.2) (begin_ := [k]) hu
  unfold widenF
  dsimp only
  generalize reached ups m.2 [k] = r at R R2 R3
  by_cases hf : freeOf m.2 r = []
  · rw [if_pos hf]
    have hfree := freeOf_nil hf
    refine ⟨M.con, ⟨fun l => L l ∨ l ∈ r.1, fun u => U u ∨ u ∈ r.2.map (·.1), ⟨fun l hl t ht => ?_, fun u hu' => ?_⟩, fun l hl h0 => ?_, fun l hl h0 => ?_⟩, fun l hl => M.un l (by omega)⟩
    · rcases hl with hl | hl
      · exact .inl (D.1 l hl t ht)
      · exact .inr (R3 l hl t ht)
    · rcases hu' with hu' | hu'
      · obtain ⟨l, h1, h2⟩ := D.2 u hu'
        exact ⟨l, .inl h1, h2⟩
      · obtain ⟨p, hp, rfl⟩ := List.mem_map.mp hu'
        have h0 := hfree p hp
        exact ⟨_, .inr (R.bl p hp h0), by omega⟩
    · by_cases z : l < k
      · exact .inl (d1 l z h0)
      · have : l = k := by omega
        subst this
        exact .inr (R2 l (by simp))
    · rcases hl with hl | hl
      · have := d2 l hl h0
        omega
      · rcases R.low hl with h | ⟨j, q, _, hq, e⟩
        · have : l = k := by simpa using h
          omega
        · obtain ⟨_, e2⟩ := M.con.b q.1 l e
          rw [e2] at h0
          omega
  · rw [if_neg hf]
    obtain ⟨hm1, _⟩ := minN_mem hf
    generalize minN (freeOf m.2 r) = to at hm1
    unfold freeOf at hm1
    obtain ⟨hm2, hm3⟩ := List.mem_filter.mp hm1
    have hm3 : m.2.getD to (-1) < 0 := by simpa using hm3
    obtain ⟨p, hp, e⟩ := List.mem_map.mp hm2
    obtain ⟨i, hi⟩ := List.mem_iff_getElem?.mp hp
    have hil := (List.getElem?_eq_some_iff.mp hi).1
    obtain ⟨p1, low⟩ := p
    have e : p1 = to := e
    subst e
    have hkm := M.un k (Nat.le_refl _)
    have hLk : ¬ L k := fun z => by
      have := d2 k z hkm
      omega
    have A : AI ups m r.2 k i p1 m := ⟨M.con.l1, M.con.l2, fun l t h => (by
        obtain ⟨a1, a2, a3⟩ := M.con.a l t h
        refine ⟨a1, a2, fun z => ?_, a3⟩
        rw [z] at a2
        omega), fun t l _ h => M.con.b t l h, hkm, fun l t h => .inl h, fun l h => h, fun l h => h, fun L' U' D' _ => ⟨fun z => (by
        obtain ⟨l, _, e⟩ := D'.2 _ z
        omega), fun _ _ => rfl⟩⟩
    obtain ⟨c1, c2, c3, c5, c4⟩ := aug_ok M.con hk hul R (r.2.length + 1) i p1 low m (by omega) hi A
    generalize augF r.2 k (r.2.length + 1) p1 m = m' at c1 c2 c3 c4 c5
    refine ⟨c1, ⟨L, U, c4 L U D hLk, fun l hl h0 => ?_, fun l hl h0 => ?_⟩, fun l hl => ?_⟩
    · by_cases z : l = k
      · subst z
        omega
      · refine d1 l (by omega) ?_
        by_cases y : 0 ≤ m.1.getD l (-1)
        · have := c3 l y
          omega
        · omega
    · have : m.1.getD l (-1) < 0 := by
        by_cases y : 0 ≤ m.1.getD l (-1)
        · have := c3 l y
          omega
        · omega
      have := d2 l hl this
      omega
    · by_cases y : 0 ≤ m'.1.getD l (-1)
      · rcases c5 l y with q | q
        · have := M.un l (by omega)
          omega
        · omega
      · omega
theorem con0 (ups : List (List Nat)) : Con ups (List.replicate ups.length (-1), List.replicate ups.length (-1)) := by
  have h : ∀ j, (List.replicate ups.length (-1 : Int)).getD j (-1) = -1 := fun j => by
    rw [List.getD_eq_getElem?_getD, List.getElem?_replicate]
    split <;> rfl
  refine ⟨by simp, by simp, fun l t e => ?_, fun t l e => ?_⟩
  · dsimp only at e
    rw [h] at e
    omega
  · dsimp only at e
    rw [h] at e
    omega
theorem match_mi {ups : List (List Nat)} (hu : ∀ l, ∀ t ∈ ups.getD l [], t < ups.length) (hul : ∀ l, ∀ t ∈ ups.getD l [], l < ups.length) : ∀ k, k ≤ ups.length → MI ups k (matchF ups k)
  | 0, _ => ⟨con0 ups, ⟨fun _ => False, fun _ => False, ⟨fun _ h => h.elim, fun _ h => h.elim⟩, fun l h => by omega, fun _ h => h.elim⟩, fun l _ => by
    show (List.replicate ups.length (-1 : Int)).getD l (-1) < 0
    rw [List.getD_eq_getElem?_getD, List.getElem?_replicate]
    split <;> decide⟩
  | k + 1, h => by
    have ih := match_mi hu hul k (by omega)
    have e : matchF ups (k + 1) = widenF ups (matchF ups k) k := by
      unfold matchF
      rw [List.range_succ, List.foldl_append]
      rfl
    rw [e]
    exact widen_ok hu hul (by omega) ih
def freeLow (m : MS) : List Nat := (List.range m.1.length).filter fun a => decide (m.1.getD a (-1) < 0)
def unlikeF (ups : List (List Nat)) (m : MS) : List Nat :=
  let r := reached ups m.2 (freeLow m)
  (List.range m.1.length).filter fun a => decide (a ∈ r.1) && !isIn r.2 a
def startsF (m : MS) : List Nat := (List.range m.2.length).filter fun a => decide (m.2.getD a (-1) < 0)
theorem reach_dead {ups : List (List Nat)} {below : List Int} {begin_ : List Nat} {L U : Nat → Prop} {r : RS} (R : RI ups below begin_ r) (D : Dead ups below L U) (hb : ∀ l ∈ begin_, L l) : ∀ (i : Nat) (p : Nat × Nat), r.2[i]? = some p → L p.2 ∧ U p.1 := by
  intro i
  induction i using Nat.strongRecOn with
  | _ i ih =>
    intro p hp
    have hL : L p.2 := by
      rcases R.wf i p hp with h | ⟨j, q, hj, hq, e⟩
      · exact hb _ h
      · obtain ⟨_, hU⟩ := ih j hj q hq
        obtain ⟨l, hl, e2⟩ := D.2 _ hU
        rw [e] at e2
        have : p.2 = l := by omega
        rw [this]
        exact hl
    exact ⟨hL, D.1 _ hL _ (R.kb p (List.mem_of_getElem? hp)).2.2⟩
theorem mem_unlike {ups : List (List Nat)} {m : MS} {a : Nat} : a ∈ unlikeF ups m ↔ a < m.1.length ∧ a ∈ (reached ups m.2 (freeLow m)).1 ∧ a ∉ (reached ups m.2 (freeLow m)).2.map (·.1) := by
  unfold unlikeF
  simp only [List.mem_filter, List.mem_range, Bool.and_eq_true, decide_eq_true_eq, Bool.not_eq_true']
  rw [← isIn_iff]
  simp
/-- as many unlike ones as chains begin, no edge among them -/
theorem unlike_ok {ups : List (List Nat)} (hu : ∀ l, ∀ t ∈ ups.getD l [], t < ups.length) {m : MS} (M : MI ups ups.length m) : (startsF m).length ≤ (unlikeF ups m).length ∧ ∀ a ∈ unlikeF ups m, ∀ b ∈ unlikeF ups m, b ∉ ups.getD a [] := by
  obtain ⟨R, R2, R3⟩ := reached_ri (ups := ups) (below := m.2) (begin_ := freeLow m) hu
  obtain ⟨L, U, D, d1, d2⟩ := M.dead
  have hfl : ∀ l ∈ freeLow m, L l := fun l hl => by
    unfold freeLow at hl
    obtain ⟨h1, h2⟩ := List.mem_filter.mp hl
    rw [List.mem_range, M.con.l1] at h1
    exact d1 l h1 (by simpa using h2)
  have hD := reach_dead R D hfl
  refine ⟨?_, fun a ha b hb he => ?_⟩
  · have hul : (unlikeF ups m) = (List.range m.1.length).filter fun a => decide (a ∈ (reached ups m.2 (freeLow m)).1) && !isIn (reached ups m.2 (freeLow m)).2 a := rfl
    rw [hul]
    generalize reached ups m.2 (freeLow m) = r at R R2 R3 hD
    have n1 := M.con.l1
    have n2 := M.con.l2
    -- all places: n; not reached; come to
    let n := ups.length
    let U1 := (List.range n).filter fun a => !decide (m.2.getD a (-1) < 0)
    have hU1 : (startsF m).length + U1.length = n := by
      have := filter_split (fun a => decide (m.2.getD a (-1) < 0)) (List.range n)
      rw [List.length_range] at this
      unfold startsF
      rw [n2]
      exact this
    let N1 := (List.range n).filter fun a => !decide (a ∈ r.1)
    have key : (r.2.map (·.1) ++ N1.map fun a => (m.1.getD a (-1)).toNat).length ≤ U1.length := by
      have hN1 : ∀ a ∈ N1, ∃ t : Nat, m.1.getD a (-1) = (t : Int) := fun a ha => by
        obtain ⟨h1, h2⟩ := List.mem_filter.mp ha
        have h2 : a ∉ r.1 := by simpa using h2
        have h3 : ¬ m.1.getD a (-1) < 0 := fun z => h2 (R2 a (by
          unfold freeLow
          rw [List.mem_filter, n1]
          exact ⟨h1, by simpa using z⟩))
        exact ⟨(m.1.getD a (-1)).toNat, by omega⟩
      have hnr : ∀ a ∈ N1, a ∉ r.1 := fun a ha => by simpa using (List.mem_filter.mp ha).2
      refine nodup_sub (List.nodup_append.mpr ⟨R.nd, ?_, ?_⟩) ?_
      · have nd : N1.Nodup := List.nodup_range.filter _
        refine List.pairwise_map.mpr (nd.imp_of_mem fun {a b} ha hb hab e => hab ?_)
        obtain ⟨t, ht⟩ := hN1 a ha
        obtain ⟨u, hu'⟩ := hN1 b hb
        have : t = u := by omega
        subst this
        have h1 := (M.con.a a t ht).2.1
        have h2 := (M.con.a b t hu').2.1
        omega
      · intro x hx y hy e
        subst e
        obtain ⟨a, ha, e⟩ := List.mem_map.mp hy
        obtain ⟨t, ht⟩ := hN1 a ha
        have : x = t := by omega
        subst this
        obtain ⟨p, hp, rfl⟩ := List.mem_map.mp hx
        have h1 := (M.con.a a p.1 ht).2.1
        have := R.bl p hp (by omega)
        rw [h1] at this
        exact hnr a ha (by simpa using this)
      · intro x hx
        refine List.mem_filter.mpr ?_
        rcases List.mem_append.mp hx with hx | hx
        · obtain ⟨p, hp, rfl⟩ := List.mem_map.mp hx
          obtain ⟨i, hi⟩ := List.mem_iff_getElem?.mp hp
          obtain ⟨_, hU⟩ := hD i p hi
          obtain ⟨l, _, e⟩ := D.2 _ hU
          refine ⟨List.mem_range.mpr (R.kb p hp).1, ?_⟩
          have : ¬ m.2.getD p.1 (-1) < 0 := by omega
          simpa using this
        · obtain ⟨a, ha, rfl⟩ := List.mem_map.mp hx
          obtain ⟨t, ht⟩ := hN1 a ha
          obtain ⟨h1, h2, _⟩ := M.con.a a t ht
          have e : (m.1.getD a (-1)).toNat = t := by omega
          rw [e]
          refine ⟨List.mem_range.mpr h1, ?_⟩
          have : ¬ m.2.getD t (-1) < 0 := by omega
          simpa using this
    rw [List.length_append, List.length_map, List.length_map] at key
    -- n = unlike + the others
    have hs := filter_split (fun a => decide (a ∈ r.1) && !isIn r.2 a) (List.range n)
    rw [List.length_range] at hs
    have ho : ((List.range n).filter fun x => !(decide (x ∈ r.1) && !isIn r.2 x)).length ≤ (N1 ++ r.2.map (·.1)).length := nodup_sub (List.nodup_range.filter _) fun x hx => by
      obtain ⟨h1, h2⟩ := List.mem_filter.mp hx
      rw [List.mem_append]
      by_cases z : x ∈ r.1
      · right
        rw [← isIn_iff]
        simpa [z] using h2
      · left
        exact List.mem_filter.mpr ⟨h1, by simpa using z⟩
    rw [List.length_append, List.length_map] at ho
    rw [n1]
    show _ ≤ ((List.range n).filter _).length
    omega
  · obtain ⟨_, h1, h2⟩ := mem_unlike.mp ha
    obtain ⟨_, h3, h4⟩ := mem_unlike.mp hb
    exact h4 (R3 a h1 b he)
end LW
namespace LW
def rowF (ab : List Int) : Nat → Nat → List Nat
  | 0, a => [a]
  | f + 1, a => if 0 ≤ ab.getD a (-1) then a :: rowF ab f (ab.getD a (-1)).toNat else [a]
def rowsF (m : MS) : List (List Nat) := (startsF m).map (rowF m.1 m.1.length)
/-- edges go up by a rank -/
structure Rank (ups : List (List Nat)) (rk : Nat → Nat) : Prop where
  up : ∀ l, ∀ t ∈ ups.getD l [], rk l < rk t
  lt : ∀ t, t < ups.length → rk t < ups.length
theorem rowF_head (ab : List Int) (f a : Nat) : ∃ r, rowF ab f a = a :: r := by
  cases f with
  | zero => exact ⟨[], rfl⟩
  | succ f =>
    unfold rowF
    split
    · exact ⟨_, rfl⟩
    · exact ⟨[], rfl⟩
theorem rowF_ne (ab : List Int) (f a : Nat) : rowF ab f a ≠ [] := by
  obtain ⟨r, e⟩ := rowF_head ab f a
  rw [e]
  simp
section
variable {ups : List (List Nat)} {m : MS} {rk : Nat → Nat}
theorem Con.edge (C : Con ups m) {a : Nat} (h : 0 ≤ m.1.getD a (-1)) : ∃ t : Nat, m.1.getD a (-1) = (t : Int) ∧ t < ups.length ∧ m.2.getD t (-1) = (a : Int) ∧ t ∈ ups.getD a [] := by
  refine ⟨(m.1.getD a (-1)).toNat, by omega, ?_⟩
  exact C.a a _ (by omega)
theorem rowF_next (C : Con ups m) (R : Rank ups rk) : ∀ (f a : Nat), a < ups.length → ups.length ≤ f + rk a → ∀ x ∈ rowF m.1 f a, ∀ y : Nat, m.1.getD x (-1) = (y : Int) → y ∈ rowF m.1 f a
  | 0, a, ha, hf, _, _, _, _ => by
    have := R.lt a ha
    omega
  | f + 1, a, ha, hf, x, hx, y, hy => by
    unfold rowF at hx ⊢
    by_cases h0 : 0 ≤ m.1.getD a (-1)
    · rw [if_pos h0] at hx ⊢
      obtain ⟨t, e, ht, _, hu⟩ := C.edge h0
      have et : (m.1.getD a (-1)).toNat = t := by omega
      rw [et] at hx ⊢
      have hr := R.up a t hu
      rcases List.mem_cons.mp hx with rfl | hx
      · have : y = t := by omega
        subst this
        obtain ⟨r, e2⟩ := rowF_head m.1 f y
        rw [e2]
        simp
      · exact List.mem_cons_of_mem _ (rowF_next C R f t ht (by omega) x hx y hy)
    · rw [if_neg h0] at hx
      obtain rfl : x = a := by simpa using hx
      omega
theorem rowF_mem (C : Con ups m) : ∀ (f a : Nat), a < ups.length → ∀ x ∈ rowF m.1 f a, x < ups.length
  | 0, a, ha, x, hx => by
    obtain rfl : x = a := by simpa [rowF] using hx
    exact ha
  | f + 1, a, ha, x, hx => by
    unfold rowF at hx
    by_cases h0 : 0 ≤ m.1.getD a (-1)
    · rw [if_pos h0] at hx
      obtain ⟨t, e, ht, _, _⟩ := C.edge h0
      have et : (m.1.getD a (-1)).toNat = t := by omega
      rw [et] at hx
      rcases List.mem_cons.mp hx with rfl | hx
      · exact ha
      · exact rowF_mem C f t ht x hx
    · rw [if_neg h0] at hx
      obtain rfl : x = a := by simpa using hx
      exact ha
/-- each place stands in a row -/
theorem rows_cover (C : Con ups m) (R : Rank ups rk) : ∀ (n a : Nat), rk a ≤ n → a < ups.length → ∃ s ∈ startsF m, a ∈ rowF m.1 ups.length s
  | n, a, hn, ha => by
    by_cases h0 : m.2.getD a (-1) < 0
    · refine ⟨a, ?_, ?_⟩
      · unfold startsF
        rw [List.mem_filter, List.mem_range, C.l2]
        exact ⟨ha, by simpa using h0⟩
      · obtain ⟨r, e⟩ := rowF_head m.1 ups.length a
        rw [e]
        simp
    · have hb : m.2.getD a (-1) = (((m.2.getD a (-1)).toNat : Nat) : Int) := by omega
      obtain ⟨hl, e⟩ := C.b a _ hb
      obtain ⟨_, _, hu⟩ := C.a _ a e
      have hr := R.up _ a hu
      match n, hn with
      | 0, hn => omega
      | n + 1, hn =>
        obtain ⟨s, hs, hm⟩ := rows_cover C R n _ (by omega) hl
        refine ⟨s, hs, rowF_next C R _ s ?_ (by omega) _ hm a e⟩
        unfold startsF at hs
        have := List.mem_range.mp (List.mem_filter.mp hs).1
        rw [C.l2] at this
        exact this
/-- what holds of each edge and goes on holds from the head on, and to the last -/
theorem rowF_rel (C : Con ups m) {P : Nat → Nat → Prop} (rf : ∀ a, a < ups.length → P a a) (tr : ∀ a b c, P a b → P b c → P a c) (ed : ∀ l, ∀ t ∈ ups.getD l [], P l t) : ∀ (f a : Nat), a < ups.length → (∀ x ∈ rowF m.1 f a, P a x) ∧ ∀ x ∈ rowF m.1 f a, P x ((rowF m.1 f a).getLast (rowF_ne _ _ _))
  | 0, a, ha => by
    refine ⟨fun x hx => ?_, fun x hx => ?_⟩
    · obtain rfl : x = a := by simpa [rowF] using hx
      exact rf x ha
    · obtain rfl : x = a := by simpa [rowF] using hx
      simpa [rowF] using rf x ha
  | f + 1, a, ha => by
    by_cases h0 : 0 ≤ m.1.getD a (-1)
    · obtain ⟨t, e, ht, _, hu⟩ := C.edge h0
      have et : (m.1.getD a (-1)).toNat = t := by omega
      have er : rowF m.1 (f + 1) a = a :: rowF m.1 f t := by
        conv => lhs; unfold rowF
        rw [if_pos h0, et]
      obtain ⟨h1, h2⟩ := rowF_rel C rf tr ed f t ht
      have hat := ed a t hu
      have el : (rowF m.1 (f + 1) a).getLast (rowF_ne _ _ _) = (rowF m.1 f t).getLast (rowF_ne _ _ _) := by
        simp only [er]
        exact List.getLast_cons _
      have htl := h2 t (by obtain ⟨r, e2⟩ := rowF_head m.1 f t; rw [e2]; simp)
      refine ⟨fun x hx => ?_, fun x hx => ?_⟩
      · rw [er] at hx
        rcases List.mem_cons.mp hx with rfl | hx
        · exact rf x ha
        · exact tr _ _ _ hat (h1 x hx)
      · rw [el]
        rw [er] at hx
        rcases List.mem_cons.mp hx with rfl | hx
        · exact tr _ _ _ hat htl
        · exact h2 x hx
    · have er : rowF m.1 (f + 1) a = [a] := by
        unfold rowF
        rw [if_neg h0]
      refine ⟨fun x hx => ?_, fun x hx => ?_⟩
      · rw [er] at hx
        obtain rfl : x = a := by simpa using hx
        exact rf x ha
      · rw [er] at hx
        obtain rfl : x = a := by simpa using hx
        simp only [er, List.getLast_singleton]
        exact rf x ha
end
def noMk : Mk := (0, 0, 0)
def upsOf (ms : List Mk) : List (List Nat) := (List.range ms.length).map fun a => (List.range ms.length).filter fun t => !decide (t = a) && decide (und (ms.getD a noMk) (ms.getD t noMk))
theorem upsOf_len (ms : List Mk) : (upsOf ms).length = ms.length := by simp [upsOf]
theorem mem_upsOf {ms : List Mk} {l t : Nat} : t ∈ (upsOf ms).getD l [] ↔ l < ms.length ∧ t < ms.length ∧ t ≠ l ∧ und (ms.getD l noMk) (ms.getD t noMk) := by
  unfold upsOf
  rw [List.getD_eq_getElem?_getD, List.getElem?_map]
  by_cases h : l < ms.length
  · rw [List.getElem?_range h]
    simp only [Option.map_some, Option.getD_some, List.mem_filter, List.mem_range, Bool.and_eq_true, decide_eq_true_eq, Bool.not_eq_true', decide_eq_false_iff_not]
    exact ⟨fun ⟨a, b, c⟩ => ⟨h, a, b, c⟩, fun ⟨_, a, b, c⟩ => ⟨a, b, c⟩⟩
  · rw [List.getElem?_eq_none (by simpa using h)]
    simp [h]
theorem filter_lt {α : Type} {p q : α → Bool} : ∀ {l : List α} {x : α}, (∀ y ∈ l, p y = true → q y = true) → x ∈ l → q x = true → p x = false → (l.filter p).length < (l.filter q).length
  | y :: l, x, h, hx, hq, hp => by
    have hl : ∀ z ∈ l, p z = true → q z = true := fun z hz => h z (List.mem_cons_of_mem _ hz)
    have le : ∀ l : List α, (∀ z ∈ l, p z = true → q z = true) → (l.filter p).length ≤ (l.filter q).length := by
      intro l
      induction l with
      | nil => intro _; exact Nat.le_refl _
      | cons z l ih =>
        intro hh
        have i2 := ih fun w hw => hh w (List.mem_cons_of_mem _ hw)
        have hz := hh z List.mem_cons_self
        rw [List.filter_cons, List.filter_cons]
        cases h1 : p z <;> cases h2 : q z <;> simp [h1, h2] at hz ⊢ <;> omega
    rw [List.filter_cons, List.filter_cons]
    rcases List.mem_cons.mp hx with e | hx
    · subst e
      rw [hq, hp]
      have := le l hl
      simp
      omega
    · have := filter_lt hl hx hq hp
      have hy := h y List.mem_cons_self
      cases h1 : p y <;> cases h2 : q y <;> simp [h1, h2] at hy ⊢ <;> omega
theorem und_refl (a : Mk) : und a a := by unfold und; omega
theorem und_trans {a b c : Mk} (h1 : und a b) (h2 : und b c) : und a c := by unfold und at *; omega
theorem und_anti {a b : Mk} (h1 : und a b) (h2 : und b a) : a = b := by
  unfold und at *
  exact Prod.ext (by omega) (Prod.ext (by omega) (by omega))
theorem getD_inj {ms : List Mk} (nd : ms.Nodup) {a b : Nat} (ha : a < ms.length) (hb : b < ms.length) (e : ms.getD a noMk = ms.getD b noMk) : a = b := by
  rw [List.getD_eq_getElem?_getD, List.getD_eq_getElem?_getD, List.getElem?_eq_getElem ha, List.getElem?_eq_getElem hb] at e
  exact (List.getElem_inj nd).mp e
theorem upsOf_rank {ms : List Mk} (nd : ms.Nodup) : ∃ rk, Rank (upsOf ms) rk := by
  refine ⟨fun t => ((List.range ms.length).filter fun s => !decide (s = t) && decide (und (ms.getD s noMk) (ms.getD t noMk))).length, fun l t ht => ?_, fun t ht => ?_⟩
  · obtain ⟨h1, h2, h3, h4⟩ := mem_upsOf.mp ht
    refine filter_lt (x := l) (fun s hs hp => ?_) (List.mem_range.mpr h1) ?_ ?_
    · simp only [Bool.and_eq_true, decide_eq_true_eq, Bool.not_eq_true', decide_eq_false_iff_not] at hp ⊢
      refine ⟨fun e => ?_, und_trans hp.2 h4⟩
      subst e
      exact h3 (getD_inj nd h2 h1 (und_anti hp.2 h4))
    · simp only [Bool.and_eq_true, decide_eq_true_eq, Bool.not_eq_true', decide_eq_false_iff_not]
      exact ⟨h3.symm, h4⟩
    · simp
  · rw [upsOf_len] at ht ⊢
    have : ((List.range ms.length).filter fun s => !decide (s = t) && decide (und (ms.getD s noMk) (ms.getD t noMk))).length < ((List.range ms.length).filter fun _ => true).length := filter_lt (x := t) (fun _ _ _ => rfl) (List.mem_range.mpr ht) rfl (by simp)
    have e : ((List.range ms.length).filter fun _ => true).length = ms.length := by rw [List.filter_eq_self.mpr (fun _ _ => rfl), List.length_range]
    rw [e] at this
    exact this
def matchOf (ms : List Mk) : MS := matchF (upsOf ms) ms.length
def rowsOf (ms : List Mk) : List (List Mk) := (rowsF (matchOf ms)).map fun r => r.map fun a => ms.getD a noMk
def unlikeOf (ms : List Mk) : List Mk := (unlikeF (upsOf ms) (matchOf ms)).map fun a => ms.getD a noMk
theorem upsOf_hu (ms : List Mk) : ∀ l, ∀ t ∈ (upsOf ms).getD l [], t < (upsOf ms).length := fun l t ht => by rw [upsOf_len]; exact (mem_upsOf.mp ht).2.1
theorem upsOf_hul (ms : List Mk) : ∀ l, ∀ t ∈ (upsOf ms).getD l [], l < (upsOf ms).length := fun l t ht => by rw [upsOf_len]; exact (mem_upsOf.mp ht).1
theorem matchOf_mi (ms : List Mk) : MI (upsOf ms) (upsOf ms).length (matchOf ms) := by
  have := match_mi (upsOf_hu ms) (upsOf_hul ms) (upsOf ms).length (Nat.le_refl _)
  unfold matchOf
  rw [← upsOf_len ms]
  exact this
theorem rowsOf_len (ms : List Mk) : (rowsOf ms).length ≤ (unlikeOf ms).length := by
  have := (unlike_ok (upsOf_hu ms) (matchOf_mi ms)).1
  unfold rowsOf rowsF unlikeOf
  simpa using this
theorem getD_mem {ms : List Mk} {a : Nat} (h : a < ms.length) : ms.getD a noMk ∈ ms := by
  rw [List.getD_eq_getElem?_getD, List.getElem?_eq_getElem h]
  exact List.getElem_mem h
theorem unlikeOf_mem {ms : List Mk} {x : Mk} (h : x ∈ unlikeOf ms) : x ∈ ms := by
  obtain ⟨a, ha, rfl⟩ := List.mem_map.mp h
  have := (mem_unlike.mp ha).1
  rw [(matchOf_mi ms).con.l1, upsOf_len] at this
  exact getD_mem this
/-- no two of them under one another -/
theorem unlikeOf_pw {ms : List Mk} (nd : ms.Nodup) : (unlikeOf ms).Pairwise fun x y => ¬ und x y ∧ ¬ und y x := by
  unfold unlikeOf
  rw [List.pairwise_map]
  have hn : (unlikeF (upsOf ms) (matchOf ms)).Nodup := by
    unfold unlikeF
    exact List.nodup_range.filter _
  have h2 := (unlike_ok (upsOf_hu ms) (matchOf_mi ms)).2
  have hl : ∀ a ∈ unlikeF (upsOf ms) (matchOf ms), a < ms.length := fun a ha => by
    have := (mem_unlike.mp ha).1
    rw [(matchOf_mi ms).con.l1, upsOf_len] at this
    exact this
  refine hn.imp_of_mem fun {a b} ha hb hab => ⟨fun z => ?_, fun z => ?_⟩
  · exact h2 a ha b hb (mem_upsOf.mpr ⟨hl a ha, hl b hb, fun e => hab e.symm, z⟩)
  · exact h2 b hb a ha (mem_upsOf.mpr ⟨hl b hb, hl a ha, hab, z⟩)
theorem unlikeOf_nodup {ms : List Mk} (nd : ms.Nodup) : (unlikeOf ms).Nodup := (unlikeOf_pw nd).imp fun {a b} h e => h.1 (by rw [e]; exact und_refl _)
/-- each mark stands in a row, between its first and its last -/
theorem rowsOf_cover {ms : List Mk} (nd : ms.Nodup) {x : Mk} (hx : x ∈ ms) : ∃ r ∈ rowsOf ms, ∃ a b, r.head? = some a ∧ r.getLast? = some b ∧ und a x ∧ und x b ∧ a ∈ ms ∧ b ∈ ms := by
  obtain ⟨i, hi⟩ := List.mem_iff_getElem?.mp hx
  have hil := (List.getElem?_eq_some_iff.mp hi).1
  have ex : ms.getD i noMk = x := by rw [List.getD_eq_getElem?_getD, hi]; rfl
  obtain ⟨rk, R⟩ := upsOf_rank nd
  have M := matchOf_mi ms
  obtain ⟨s, hs, hm⟩ := rows_cover M.con R _ i (Nat.le_refl _) (by rw [upsOf_len]; exact hil)
  have hsl : s < (upsOf ms).length := by
    have := List.mem_range.mp (List.mem_filter.mp hs).1
    rw [M.con.l2] at this
    exact this
  obtain ⟨h1, h2⟩ := rowF_rel (P := fun a b => und (ms.getD a noMk) (ms.getD b noMk)) M.con (fun _ _ => und_refl _) (fun _ _ _ => und_trans) (fun l t ht => (mem_upsOf.mp ht).2.2.2) (upsOf ms).length s hsl
  have e1 : (matchOf ms).1.length = (upsOf ms).length := M.con.l1
  refine ⟨(rowF (matchOf ms).1 (upsOf ms).length s).map fun a => ms.getD a noMk, ?_, ms.getD s noMk, ms.getD ((rowF (matchOf ms).1 (upsOf ms).length s).getLast (rowF_ne _ _ _)) noMk, ?_, ?_, ?_, ?_, ?_, ?_⟩
  · unfold rowsOf rowsF
    rw [List.map_map, e1]
    exact List.mem_map.mpr ⟨s, hs, rfl⟩
  · obtain ⟨r, e⟩ := rowF_head (matchOf ms).1 (upsOf ms).length s
    rw [e]
    rfl
  · rw [List.getLast?_map, List.getLast?_eq_some_getLast (rowF_ne _ _ _)]
    rfl
  · rw [← ex]
    exact h1 i hm
  · rw [← ex]
    exact h2 i hm
  · exact getD_mem (by rw [upsOf_len] at hsl; exact hsl)
  · have := rowF_mem M.con _ s hsl _ (List.getLast_mem (rowF_ne (matchOf ms).1 (upsOf ms).length s))
    have e : (upsOf ms).length = ms.length := upsOf_len ms
    exact getD_mem (by omega)
end LW
namespace LW
open PySem L2 DL
def natD (k : Nat) : D := .int (k : Int)
def upD (r : List Nat) : D := .lst (r.map natD)
/-- a matching at p: its edges at u, above at a, below at b -/
structure MatM (C : Addr) (M : Mp) (p u a b : Addr) (ups : List (List Nat)) (m : MS) : Prop where
  ho : M p = some (.ins C [("ups", .ref u), ("above", .ref a), ("below", .ref b)])
  hu : M u = some (.lst (ups.map upD))
  ha : M a = some (.lst (m.1.map D.int))
  hb : M b = some (.lst (m.2.map D.int))
  ua : u ≠ a
  ub : u ≠ b
  ab : a ≠ b
theorem MatM.ext {C : Addr} {M M' : Mp} {p u a b : Addr} {ups : List (List Nat)} {m : MS} (h : MatM C M p u a b ups m) (x : Ext M M') : MatM C M' p u a b ups m := ⟨x _ _ h.ho, x _ _ h.hu, x _ _ h.ha, x _ _ h.hb, h.ua, h.ub, h.ab⟩
theorem MatM.pa {C : Addr} {M : Mp} {p u a b : Addr} {ups : List (List Nat)} {m : MS} (h : MatM C M p u a b ups m) : p ≠ a ∧ p ≠ b ∧ p ≠ u := by
  refine ⟨fun z => ?_, fun z => ?_, fun z => ?_⟩
  · have := h.ho
    rw [z, h.ha] at this
    cases this
  · have := h.ho
    rw [z, h.hb] at this
    cases this
  · have := h.ho
    rw [z, h.hu] at this
    cases this
/-- both lists written -/
theorem MatM.put {C : Addr} {M : Mp} {p u a b : Addr} {ups : List (List Nat)} {m m' : MS} (h : MatM C M p u a b ups m) : MatM C (mup (mup M a (.lst (m'.1.map D.int))) b (.lst (m'.2.map D.int))) p u a b ups m' := by
  obtain ⟨h1, h2, h3⟩ := h.pa
  refine ⟨?_, ?_, ?_, mup_same, h.ua, h.ub, h.ab⟩
  · rw [mup_ne h2, mup_ne h1]; exact h.ho
  · rw [mup_ne h.ub, mup_ne h.ua]; exact h.hu
  · rw [mup_ne h.ab]; exact mup_same
theorem atI_nat {l : List Nat} {i : Nat} (h : i < l.length) : atI (l.map natD) (i : Int) = some (natD (l.getD i 0)) := by
  refine atMn ?_
  rw [List.getD_eq_getElem?_getD, List.getElem?_eq_getElem h]
  rfl
end LW
namespace LW
open DL
def noSp : Sp2 := (0, 0)
theorem servedBy_iff {ks : List Sp2} {m : Mk} : servedBy ks m = true ↔ ∃ k ∈ ks, servs k m := by
  unfold servedBy
  rw [List.any_eq_true]
  simp
theorem servedBy_at {ks : List Sp2} {m : Mk} (h : servedBy ks m = true) : ∃ (i : Nat) (k : Sp2), ks[i]? = some k ∧ servs k m := by
  obtain ⟨k, hk, hs⟩ := servedBy_iff.mp h
  obtain ⟨i, hi⟩ := List.mem_iff_getElem?.mp hk
  exact ⟨i, k, hi, hs⟩
theorem servedBy_of {ks : List Sp2} {m : Mk} {i : Nat} {k : Sp2} (h : ks[i]? = some k) (hs : servs k m) : servedBy ks m = true := servedBy_iff.mpr ⟨k, List.mem_of_getElem? h, hs⟩
def firstAt (ks : List Sp2) (m : Mk) : Nat := ks.findIdx fun s => decide (servs s m)
theorem firstAt_ok {ks : List Sp2} {m : Mk} (h : servedBy ks m = true) : ∃ k, ks[firstAt ks m]? = some k ∧ servs k m := by
  unfold firstAt
  have hl : ks.findIdx (fun s => decide (servs s m)) < ks.length := by
    rw [List.findIdx_lt_length]
    obtain ⟨k, hk, hs⟩ := servedBy_iff.mp h
    exact ⟨k, hk, by simpa using hs⟩
  refine ⟨ks[ks.findIdx fun s => decide (servs s m)], List.getElem?_eq_getElem hl, ?_⟩
  have := List.findIdx_getElem (w := hl)
  simpa using this
def exch (ks : List Sp2) (m o : Mk) : List Sp2 :=
  let i := firstAt ks (o.1, m.2)
  let j := firstAt ks (m.1, o.2)
  (ks.set i ((ks.getD i noSp).1, (ks.getD j noSp).2)).set j ((ks.getD j noSp).1, (ks.getD i noSp).2)
theorem exch_len (ks : List Sp2) (m o : Mk) : (exch ks m o).length = ks.length := by simp [exch]
theorem getD_of {α : Type} {l : List α} {i : Nat} {x d : α} (h : l[i]? = some x) : l.getD i d = x := by rw [List.getD_eq_getElem?_getD, h]; rfl
theorem exch_ok {bs : List Sp2} {ks : List Sp2} {m o : Mk} (hm : isEss bs m) (ho : isEss bs o) (hx : acr o m) (hn : servedBy ks m = false) (h1 : servedBy ks (o.1, m.2) = true) (h2 : servedBy ks (m.1, o.2) = true) :
    servedBy (exch ks m o) m = true ∧ (∀ x, isEss bs x → servedBy ks x = true → servedBy (exch ks m o) x = true) ∧ ∀ e ∈ exch ks m o, (∃ k ∈ ks, e.1 = k.1) ∧ (∃ k ∈ ks, e.2 = k.2) ∧ ((∀ k ∈ ks, k.1 < k.2) → e.1 < e.2) := by
  obtain ⟨k, hk, sk⟩ := firstAt_ok h1
  obtain ⟨l, hl, sl⟩ := firstAt_ok h2
  unfold exch
  dsimp only
  generalize firstAt ks (o.1, m.2) = i at hk
  generalize firstAt ks (m.1, o.2) = j at hl
  rw [getD_of hk, getD_of hl]
  have nk : ¬ servs k m := fun z => by rw [servedBy_of hk z] at hn; cases hn
  have nl : ¬ servs l m := fun z => by rw [servedBy_of hl z] at hn; cases hn
  unfold acr bnd at hx
  unfold servs at sk sl nk nl
  dsimp only at sk sl
  have hil := (List.getElem?_eq_some_iff.mp hk).1
  have hjl := (List.getElem?_eq_some_iff.mp hl).1
  have hij : i ≠ j := fun z => by
    rw [z, hl] at hk
    cases hk
    omega
  have ei : ((ks.set i (k.1, l.2)).set j (l.1, k.2))[i]? = some (k.1, l.2) := by
    rw [List.getElem?_set_ne (Ne.symm hij), List.getElem?_set_self hil]
  have ej : ((ks.set i (k.1, l.2)).set j (l.1, k.2))[j]? = some (l.1, k.2) := by
    rw [List.getElem?_set_self (by rw [List.length_set]; exact hjl)]
  have en : ∀ n, n ≠ i → n ≠ j → ((ks.set i (k.1, l.2)).set j (l.1, k.2))[n]? = ks[n]? := fun n h1 h2 => by
    rw [List.getElem?_set_ne (Ne.symm h2), List.getElem?_set_ne (Ne.symm h1)]
  refine ⟨servedBy_of ei (by unfold servs; dsimp only; omega), fun x hxe hs => ?_, fun e he => ?_⟩
  · obtain ⟨n, q, hq, sq⟩ := servedBy_at hs
    by_cases z1 : n = i
    · subst z1
      rw [hk] at hq
      cases hq
      unfold servs at sq
      by_cases z2 : x.2.1 ≤ l.1
      · exact servedBy_of ej (by unfold servs; dsimp only; omega)
      · by_cases z3 : l.2 ≤ x.2.2
        · exact servedBy_of ei (by unfold servs; dsimp only; omega)
        · exfalso
          obtain ⟨_, _, _, hmin⟩ := mem_leastAt.mp ho
          obtain ⟨hxb, _, _, _⟩ := mem_leastAt.mp hxe
          refine hmin (x.2.1, x.2.2) hxb (by dsimp only; omega) (by dsimp only; omega) (fun z => ?_) ?_
          · have := congrArg Prod.fst z
            dsimp only at this
            omega
          · unfold within
            dsimp only
            omega
    · by_cases z2 : n = j
      · subst z2
        rw [hl] at hq
        cases hq
        unfold servs at sq
        by_cases z3 : k.1 ≤ x.1
        · exact servedBy_of ei (by unfold servs; dsimp only; omega)
        · exact servedBy_of ej (by unfold servs; dsimp only; omega)
      · exact servedBy_of (by rw [en n z1 z2]; exact hq) sq
  · obtain ⟨n, hn2⟩ := List.mem_iff_getElem?.mp he
    have mk := List.mem_of_getElem? hk
    have ml := List.mem_of_getElem? hl
    by_cases z2 : n = j
    · subst z2
      rw [ej] at hn2
      cases hn2
      exact ⟨⟨l, ml, rfl⟩, ⟨k, mk, rfl⟩, fun _ => by dsimp only; omega⟩
    · by_cases z1 : n = i
      · subst z1
        rw [ei] at hn2
        cases hn2
        exact ⟨⟨k, mk, rfl⟩, ⟨l, ml, rfl⟩, fun _ => by dsimp only; omega⟩
      · rw [en n z1 z2] at hn2
        have me := List.mem_of_getElem? hn2
        exact ⟨⟨e, me, rfl⟩, ⟨e, me, rfl⟩, fun h => h e me⟩
/-- an essential mark of the cell within each ask that has it -/
theorem ess_min {bs : List Sp2} {c : Int} : ∀ (n : Nat) (s : Sp2), (s.2 - s.1).toNat ≤ n → s ∈ bs → s.1 ≤ c → c < s.2 → ∃ t, within t s ∧ isEss bs (c, t.1, t.2)
  | 0, s, hn, _, h1, h2 => by omega
  | n + 1, s, hn, hs, h1, h2 => by
    by_cases h : ∃ o ∈ bs, o.1 ≤ c ∧ c < o.2 ∧ o ≠ s ∧ within o s
    · obtain ⟨o, ho, h3, h4, h5, h6⟩ := h
      have h6' := h6
      unfold within at h6'
      have : ¬ (o.1 = s.1 ∧ o.2 = s.2) := fun z => h5 (Prod.ext z.1 z.2)
      obtain ⟨t, ht, he⟩ := ess_min n o (by omega) ho h3 h4
      exact ⟨t, by unfold within at *; omega, he⟩
    · refine ⟨s, by unfold within; omega, ?_⟩
      refine mem_leastAt.mpr ⟨hs, h1, h2, fun o ho h3 h4 h5 h6 => h ⟨o, ho, h3, h4, h5, h6⟩⟩
theorem servs_up {k : Sp2} {c : Int} {t s : Sp2} (w : within t s) (h : servs k (c, t.1, t.2)) : servs k (c, s.1, s.2) := by
  unfold within at w
  unfold servs at *
  dsimp only at *
  omega
theorem served_up {ks : List Sp2} {c : Int} {t s : Sp2} (w : within t s) (h : servedBy ks (c, t.1, t.2) = true) : servedBy ks (c, s.1, s.2) = true := by
  obtain ⟨k, hk, hs⟩ := servedBy_iff.mp h
  exact servedBy_iff.mpr ⟨k, hk, servs_up w hs⟩
/-- what is not taken crosses one taken ahead -/
theorem taken_cross {m : Mk} : ∀ ms : List Mk, ms.Pairwise mkLt → m ∈ ms → m ∉ takenOf ms → ∃ o ∈ takenOf ms, mkLt o m ∧ (acr o m ∨ acr m o) := by
  refine snoc_ind (P := fun ms => ms.Pairwise mkLt → m ∈ ms → m ∉ takenOf ms → ∃ o ∈ takenOf ms, mkLt o m ∧ (acr o m ∨ acr m o)) (fun _ h => by cases h) (fun ms x ih hp hm hn => ?_)
  obtain ⟨p1, _, p2⟩ := List.pairwise_append.mp hp
  rw [takenOf_snoc] at hn ⊢
  have up : ∀ o, o ∈ takenOf ms → o ∈ (if crossAny (takenOf ms) x = true then takenOf ms else takenOf ms ++ [x]) := fun o ho => by
    split
    · exact ho
    · exact List.mem_append_left _ ho
  rcases List.mem_append.mp hm with hm | hm
  · obtain ⟨o, h1, h2⟩ := ih p1 hm fun z => hn (up m z)
    exact ⟨o, up o h1, h2⟩
  · obtain rfl : m = x := by simpa using hm
    by_cases z : crossAny (takenOf ms) m = true
    · have z2 := z
      unfold crossAny at z2
      rw [List.any_eq_true] at z2
      obtain ⟨o, ho, hc⟩ := z2
      exact ⟨o, up o ho, p2 o ((takenOf_sub ms).subset ho) m (by simp), by simpa using hc⟩
    · rw [if_neg z] at hn
      exact absurd (List.mem_append_right _ (by simp)) hn
def spreadStep (sm : List Mk) (ks : List Sp2) (m : Mk) : List Sp2 := if servedBy ks m = true then ks else match sm.find? fun o => decide (acr o m) with
  | some o => exch ks m o
  | none => ks
def chainSp (r : List Mk) : Sp2 := ((r.headD noMk).2.1, (r.getLastD noMk).2.2)
def spreadF (rows : List (List Mk)) (E sm : List Mk) : List Sp2 := E.foldl (spreadStep sm) (rows.map chainSp)
theorem mkLt_take {L : List Mk} {n : Nat} {m x : Mk} (hw : L.Pairwise mkLt) (hn : L[n]? = some m) (hx : x ∈ L) (h : mkLt x m) : x ∈ L.take n := by
  obtain ⟨i, hi⟩ := List.mem_iff_getElem?.mp hx
  have hil := (List.getElem?_eq_some_iff.mp hi).1
  have hnl := (List.getElem?_eq_some_iff.mp hn).1
  by_cases z : i < n
  · exact List.mem_iff_getElem?.mpr ⟨i, by rw [List.getElem?_take_of_lt z]; exact hi⟩
  · exfalso
    rcases Nat.lt_or_ge n i with q | q
    · have := List.pairwise_iff_getElem.mp hw n i hnl hil q
      rw [(List.getElem?_eq_some_iff.mp hn).2, (List.getElem?_eq_some_iff.mp hi).2] at this
      exact mkLt_asym h this
    · have : i = n := by omega
      subst this
      rw [hn] at hi
      cases hi
      exact mkLt_irr h
/-- the ends of stretches stand among those of others -/
def EndsIn (ks : List Sp2) (P : Int → Prop) : Prop := ∀ k ∈ ks, P k.1 ∧ P k.2 ∧ k.1 < k.2
theorem spread_ok {bs : List Sp2} {cs : List Int} {rows : List (List Mk)} (hw : (essAt cs bs).Pairwise mkLt)
    (hr : ∀ x ∈ takenOf (essAt cs bs), servedBy (rows.map chainSp) x = true) {P : Int → Prop} (he : EndsIn (rows.map chainSp) P) :
    ∀ n, n ≤ (essAt cs bs).length → (((essAt cs bs).take n).foldl (spreadStep (takenOf (essAt cs bs))) (rows.map chainSp)).length = rows.length ∧
      (∀ x ∈ (essAt cs bs).take n, servedBy (((essAt cs bs).take n).foldl (spreadStep (takenOf (essAt cs bs))) (rows.map chainSp)) x = true) ∧
      (∀ x ∈ takenOf (essAt cs bs), servedBy (((essAt cs bs).take n).foldl (spreadStep (takenOf (essAt cs bs))) (rows.map chainSp)) x = true) ∧ EndsIn (((essAt cs bs).take n).foldl (spreadStep (takenOf (essAt cs bs))) (rows.map chainSp)) P ∧
      (∀ m, (essAt cs bs)[n]? = some m → servedBy (((essAt cs bs).take n).foldl (spreadStep (takenOf (essAt cs bs))) (rows.map chainSp)) m = false → ∃ o, (takenOf (essAt cs bs)).find? (fun o => decide (acr o m)) = some o ∧
        servedBy (((essAt cs bs).take n).foldl (spreadStep (takenOf (essAt cs bs))) (rows.map chainSp)) (o.1, m.2) = true ∧ servedBy (((essAt cs bs).take n).foldl (spreadStep (takenOf (essAt cs bs))) (rows.map chainSp)) (m.1, o.2) = true) := by
  generalize hE : essAt cs bs = E at hw hr
  have em : ∀ m ∈ E, m.1 ∈ cs ∧ isEss bs m := fun m hm => by rw [← hE] at hm; exact mem_essAt.mp hm
  have me : ∀ m, m.1 ∈ cs → isEss bs m → m ∈ E := fun m h1 h2 => by rw [← hE]; exact mem_essAt.mpr ⟨h1, h2⟩
  have tE : ∀ o ∈ takenOf E, o ∈ E := fun o ho => (takenOf_sub E).subset ho
  -- the other one is there, both halves are served
  have find : ∀ (n : Nat) (ks : List Sp2) (m : Mk), E[n]? = some m → (∀ x ∈ E.take n, servedBy ks x = true) → (∀ x ∈ takenOf E, servedBy ks x = true) → servedBy ks m = false → ∃ o, (takenOf E).find? (fun o => decide (acr o m)) = some o ∧ acr o m ∧ isEss bs o ∧ servedBy ks (o.1, m.2) = true ∧ servedBy ks (m.1, o.2) = true := fun n ks m hm hd ht hs => by
    have hmE := List.mem_of_getElem? hm
    have hmt : m ∉ takenOf E := fun z => by rw [ht m z] at hs; cases hs
    obtain ⟨o', ho', hlt, hc⟩ := taken_cross E hw hmE hmt
    have hac : acr o' m := by
      rcases hc with hc | hc
      · exact hc
      · unfold acr at hc
        unfold mkLt at hlt
        omega
    obtain ⟨o, hf⟩ : ∃ o, (takenOf E).find? (fun o => decide (acr o m)) = some o := by
      cases h : (takenOf E).find? (fun o => decide (acr o m)) with
      | some o => exact ⟨o, rfl⟩
      | none =>
        have := List.find?_eq_none.mp h o' ho'
        simp [hac] at this
    have hom := List.mem_of_find?_eq_some hf
    have hoa : acr o m := by simpa using List.find?_some hf
    obtain ⟨oc, oe⟩ := em o (tE o hom)
    obtain ⟨mc, mes⟩ := em m hmE
    obtain ⟨mb, m1, m2, mmin⟩ := mem_leastAt.mp mes
    obtain ⟨ob, o1, o2, _⟩ := mem_leastAt.mp oe
    dsimp only at mb m1 m2 mmin ob o1 o2
    have hoa' := hoa
    unfold acr bnd at hoa'
    refine ⟨o, hf, hoa, oe, ?_, ?_⟩
    · obtain ⟨t, tw, te⟩ := ess_min (c := o.1) _ (m.2.1, m.2.2) (Nat.le_refl _) mb (by dsimp only; omega) (by dsimp only; omega)
      have tin : (o.1, t.1, t.2) ∈ E.take n := mkLt_take hw hm (me _ oc te) (by unfold mkLt; dsimp only; omega)
      exact served_up tw (hd _ tin)
    · obtain ⟨t, tw, te⟩ := ess_min (c := m.1) _ (o.2.1, o.2.2) (Nat.le_refl _) ob (by dsimp only; omega) (by dsimp only; omega)
      have tw' := tw
      unfold within at tw'
      dsimp only at tw'
      obtain ⟨tb, t1, t2, tmin⟩ := mem_leastAt.mp te
      dsimp only at tb t1 t2 tmin
      have lt : t.1 < m.2.1 := by
        rcases Int.lt_or_le t.1 m.2.1 with z | z
        · exact z
        · exfalso
          refine mmin t tb t1 t2 (fun y => ?_) (by unfold within; dsimp only; omega)
          have := congrArg Prod.snd y
          dsimp only at this
          omega
      have tin : (m.1, t.1, t.2) ∈ E.take n := mkLt_take hw hm (me _ mc te) (by unfold mkLt; dsimp only; omega)
      exact served_up tw (hd _ tin)
  have key : ∀ n, n ≤ E.length → ((E.take n).foldl (spreadStep (takenOf E)) (rows.map chainSp)).length = rows.length ∧
      (∀ x ∈ E.take n, servedBy ((E.take n).foldl (spreadStep (takenOf E)) (rows.map chainSp)) x = true) ∧ (∀ x ∈ takenOf E, servedBy ((E.take n).foldl (spreadStep (takenOf E)) (rows.map chainSp)) x = true) ∧ EndsIn ((E.take n).foldl (spreadStep (takenOf E)) (rows.map chainSp)) P := by
    intro n
    induction n with
    | zero =>
      intro _
      exact ⟨by simp, fun x hx => by simp at hx, hr, he⟩
    | succ n ih =>
      intro hn
      obtain ⟨h1, h2, h3, h4⟩ := ih (by omega)
      have hm : E[n]? = some E[n] := List.getElem?_eq_getElem (by omega)
      have et : E.take (n + 1) = E.take n ++ [E[n]] := by rw [List.take_add_one, hm]; rfl
      rw [et, List.foldl_append]
      show (spreadStep _ _ _).length = _ ∧ (∀ x ∈ _, servedBy (spreadStep _ _ _) x = true) ∧ (∀ x ∈ _, servedBy (spreadStep _ _ _) x = true) ∧ EndsIn (spreadStep _ _ _) P
      generalize E[n] = m at hm
      generalize (E.take n).foldl (spreadStep (takenOf E)) (rows.map chainSp) = ks at h1 h2 h3 h4
      unfold spreadStep
      by_cases hs : servedBy ks m = true
      · rw [if_pos hs]
        refine ⟨h1, fun x hx => ?_, h3, h4⟩
        rcases List.mem_append.mp hx with hx | hx
        · exact h2 x hx
        · obtain rfl : x = m := by simpa using hx
          exact hs
      · have hs : servedBy ks m = false := by simpa using hs
        rw [if_neg (by rw [hs]; decide)]
        obtain ⟨o, hf, hoa, oe, s1, s2⟩ := find n ks m hm h2 h3 hs
        rw [hf]
        dsimp only
        obtain ⟨g1, g2, g3⟩ := exch_ok (em m (List.mem_of_getElem? hm)).2 oe hoa hs s1 s2
        refine ⟨by rw [exch_len]; exact h1, fun x hx => ?_, fun x hx => g2 x (em x (tE x hx)).2 (h3 x hx), fun k hk => ?_⟩
        · rcases List.mem_append.mp hx with hx | hx
          · exact g2 x (em x (List.mem_of_mem_take hx)).2 (h2 x hx)
          · obtain rfl : x = m := by simpa using hx
            exact g1
        · obtain ⟨⟨a, ha, e1⟩, ⟨b, hb, e2⟩, hlt⟩ := g3 k hk
          rw [e1, e2]
          exact ⟨(h4 a ha).1, (h4 b hb).2.1, by rw [← e1, ← e2]; exact hlt fun k hk => (h4 k hk).2.2⟩
  intro n hn
  obtain ⟨h1, h2, h3, h4⟩ := key n hn
  exact ⟨h1, h2, h3, h4, fun m hm hs => let ⟨o, hf, _, _, s1, s2⟩ := find n _ m hm h2 h3 hs; ⟨o, hf, s1, s2⟩⟩
end LW
namespace LW
open DL
def minI : List Int → Int
  | [] => 0
  | x :: r => r.foldl min x
def maxI : List Int → Int
  | [] => 0
  | x :: r => r.foldl max x
theorem foldl_minI : ∀ (r : List Int) (x : Int), (r.foldl min x = x ∨ r.foldl min x ∈ r) ∧ r.foldl min x ≤ x ∧ ∀ y ∈ r, r.foldl min x ≤ y
  | [], x => ⟨.inl rfl, Int.le_refl _, fun y h => (by cases h)⟩
  | y :: r, x => by
    obtain ⟨h1, h2, h3⟩ := foldl_minI r (min x y)
    rw [List.foldl_cons]
    refine ⟨?_, by omega, fun z hz => ?_⟩
    · rcases h1 with e | e
      · rw [e]
        rcases Int.le_total x y with q | q
        · exact .inl (by omega)
        · exact .inr (by rw [show min x y = y by omega]; exact List.mem_cons_self)
      · exact .inr (List.mem_cons_of_mem _ e)
    · rcases List.mem_cons.mp hz with rfl | hz
      · omega
      · exact h3 z hz
theorem foldl_maxI : ∀ (r : List Int) (x : Int), (r.foldl max x = x ∨ r.foldl max x ∈ r) ∧ x ≤ r.foldl max x ∧ ∀ y ∈ r, y ≤ r.foldl max x
  | [], x => ⟨.inl rfl, Int.le_refl _, fun y h => (by cases h)⟩
  | y :: r, x => by
    obtain ⟨h1, h2, h3⟩ := foldl_maxI r (max x y)
    rw [List.foldl_cons]
    refine ⟨?_, by omega, fun z hz => ?_⟩
    · rcases h1 with e | e
      · rw [e]
        rcases Int.le_total x y with q | q
        · exact .inr (by rw [show max x y = y by omega]; exact List.mem_cons_self)
        · exact .inl (by omega)
      · exact .inr (List.mem_cons_of_mem _ e)
    · rcases List.mem_cons.mp hz with rfl | hz
      · omega
      · exact h3 z hz
theorem minI_ok {l : List Int} (h : l ≠ []) : minI l ∈ l ∧ ∀ y ∈ l, minI l ≤ y := by
  cases l with
  | nil => exact absurd rfl h
  | cons x r =>
    obtain ⟨h1, h2, h3⟩ := foldl_minI r x
    refine ⟨?_, fun y hy => ?_⟩
    · rcases h1 with e | e
      · show r.foldl min x ∈ _
        rw [e]
        exact List.mem_cons_self
      · exact List.mem_cons_of_mem _ e
    · rcases List.mem_cons.mp hy with rfl | hy
      · exact h2
      · exact h3 y hy
theorem maxI_ok {l : List Int} (h : l ≠ []) : maxI l ∈ l ∧ ∀ y ∈ l, y ≤ maxI l := by
  cases l with
  | nil => exact absurd rfl h
  | cons x r =>
    obtain ⟨h1, h2, h3⟩ := foldl_maxI r x
    refine ⟨?_, fun y hy => ?_⟩
    · rcases h1 with e | e
      · show r.foldl max x ∈ _
        rw [e]
        exact List.mem_cons_self
      · exact List.mem_cons_of_mem _ e
    · rcases List.mem_cons.mp hy with rfl | hy
      · exact h2
      · exact h3 y hy
theorem er_iff {ks : List Sp2} {i : Nat} {m : Mk} : servedBy (ks.eraseIdx i) m = true ↔ ∃ (n : Nat) (q : Sp2), n ≠ i ∧ ks[n]? = some q ∧ servs q m := by
  rw [servedBy_iff]
  constructor
  · rintro ⟨k, hk, hs⟩
    obtain ⟨n, h1, h2⟩ := List.mem_eraseIdx_iff_getElem?.mp hk
    exact ⟨n, k, h1, h2, hs⟩
  · rintro ⟨n, q, h1, h2, hs⟩
    exact ⟨q, List.mem_eraseIdx_iff_getElem?.mpr ⟨n, h1, h2⟩, hs⟩
def aloneF (ks : List Sp2) (i : Nat) (ms : List Mk) : List Int := (ms.filter fun m => decide (servs (ks.getD i noSp) m) && !servedBy (ks.eraseIdx i) m).map (·.1)
theorem mem_alone {ks : List Sp2} {i : Nat} {ms : List Mk} {c : Int} {k : Sp2} (h : ks[i]? = some k) : c ∈ aloneF ks i ms ↔ ∃ m ∈ ms, m.1 = c ∧ servs k m ∧ servedBy (ks.eraseIdx i) m = false := by
  unfold aloneF
  rw [List.mem_map, getD_of h]
  constructor
  · rintro ⟨m, hm, e⟩
    obtain ⟨h1, h2⟩ := List.mem_filter.mp hm
    simp only [Bool.and_eq_true, decide_eq_true_eq, Bool.not_eq_true'] at h2
    exact ⟨m, h1, e, h2⟩
  · rintro ⟨m, hm, e, h1, h2⟩
    exact ⟨m, List.mem_filter.mpr ⟨hm, by simp [h1, h2]⟩, e⟩
def takenIn (pl : List Int) (left : Bool) (k : Sp2) (cs : List Int) : Sp2 := if left = true then (minI cs, k.2) else (k.1, minI (pl.filter fun p => decide (maxI cs < p)))
def shortF (pl : List Int) (ms : List Mk) (left : Bool) : Nat → Nat → List Sp2 → List Sp2
  | 0, _, ks => ks
  | f + 1, a, ks => if a < ks.length then
      if aloneF ks a ms = [] then shortF pl ms left f a (ks.eraseIdx a) else shortF pl ms left f (a + 1) (ks.set a (takenIn pl left (ks.getD a noSp) (aloneF ks a ms)))
    else ks
def wSp (k : Sp2) : Nat := (k.2 - k.1 + 1).toNat
def tot (ks : List Sp2) : Nat := (ks.map wSp).sum
theorem tot_set : ∀ {ks : List Sp2} {i : Nat} {k k' : Sp2}, ks[i]? = some k → tot (ks.set i k') + wSp k = tot ks + wSp k'
  | x :: ks, 0, k, k', h => by
    simp at h
    subst h
    simp [tot]
    omega
  | x :: ks, i + 1, k, k', h => by
    have := tot_set (ks := ks) (i := i) (k := k) (k' := k') (by simpa using h)
    simp only [tot, List.set_cons_succ, List.map_cons, List.sum_cons] at this ⊢
    omega
theorem tot_erase : ∀ {ks : List Sp2} {i : Nat} {k : Sp2}, ks[i]? = some k → tot (ks.eraseIdx i) + wSp k = tot ks
  | x :: ks, 0, k, h => by
    simp at h
    subst h
    simp [tot]
    omega
  | x :: ks, i + 1, k, h => by
    have := tot_erase (ks := ks) (i := i) (k := k) (by simpa using h)
    simp only [tot, List.eraseIdx_cons_succ, List.map_cons, List.sum_cons] at this ⊢
    omega
theorem tot_perm {a b : List Sp2} (h : a.Perm b) : tot a = tot b := (h.map wSp).sum_nat
structure TI (pl : List Int) (ms : List Mk) (ks : List Sp2) : Prop where
  sv : ∀ m ∈ ms, servedBy ks m = true
  en : EndsIn ks (· ∈ pl)
/-- the stretch at i cannot be taken in on one side -/
def Fix (pl : List Int) (ms : List Mk) (left : Bool) (ks : List Sp2) (i : Nat) : Prop := ∀ k, ks[i]? = some k → aloneF ks i ms ≠ [] ∧ takenIn pl left k (aloneF ks i ms) = k
section
variable {pl : List Int} {ms : List Mk} {left : Bool}
theorem taken_in {ks : List Sp2} {i : Nat} {k : Sp2} (hc : ∀ m ∈ ms, m.1 ∈ pl) (T : TI pl ms ks) (h : ks[i]? = some k) (hne : aloneF ks i ms ≠ []) :
    within (takenIn pl left k (aloneF ks i ms)) k ∧ (takenIn pl left k (aloneF ks i ms)).1 ∈ pl ∧ (takenIn pl left k (aloneF ks i ms)).2 ∈ pl ∧ (takenIn pl left k (aloneF ks i ms)).1 < (takenIn pl left k (aloneF ks i ms)).2 ∧
    ∀ m ∈ ms, servs k m → servedBy (ks.eraseIdx i) m = false → servs (takenIn pl left k (aloneF ks i ms)) m := by
  obtain ⟨n1, n2⟩ := minI_ok hne
  obtain ⟨x1, x2⟩ := maxI_ok hne
  have inK : ∀ c ∈ aloneF ks i ms, k.1 ≤ c ∧ c < k.2 ∧ c ∈ pl := fun c hc2 => by
    obtain ⟨m, hm, e, hs, _⟩ := (mem_alone h).mp hc2
    unfold servs at hs
    rw [← e]
    exact ⟨by omega, by omega, hc m hm⟩
  obtain ⟨e1, e2, e3⟩ := T.en k (List.mem_of_getElem? h)
  have own : ∀ m ∈ ms, servs k m → servedBy (ks.eraseIdx i) m = false → m.1 ∈ aloneF ks i ms := fun m hm h1 h2 => (mem_alone h).mpr ⟨m, hm, rfl, h1, h2⟩
  unfold takenIn
  cases left with
  | true =>
    rw [if_pos rfl]
    have := inK _ n1
    refine ⟨by unfold within; dsimp only; omega, this.2.2, e2, this.2.1, fun m hm h1 h2 => ?_⟩
    have := n2 _ (own m hm h1 h2)
    unfold servs at *
    dsimp only
    omega
  | false =>
    rw [if_neg (by decide)]
    have hmx := inK _ x1
    have hk2 : k.2 ∈ pl.filter fun p => decide (maxI (aloneF ks i ms) < p) := List.mem_filter.mpr ⟨e2, by simpa using hmx.2.1⟩
    obtain ⟨f1, f2⟩ := minI_ok (List.ne_nil_of_mem hk2)
    obtain ⟨f3, f4⟩ := List.mem_filter.mp f1
    have f4 : maxI (aloneF ks i ms) < minI (pl.filter fun p => decide (maxI (aloneF ks i ms) < p)) := by simpa using f4
    have f5 := f2 _ hk2
    refine ⟨by unfold within; dsimp only; omega, e1, f3, by dsimp only; omega, fun m hm h1 h2 => ?_⟩
    have := x2 _ (own m hm h1 h2)
    unfold servs at *
    dsimp only
    omega
theorem TI.set {ks : List Sp2} {i : Nat} {k : Sp2} (hc : ∀ m ∈ ms, m.1 ∈ pl) (T : TI pl ms ks) (h : ks[i]? = some k) (hne : aloneF ks i ms ≠ []) : TI pl ms (ks.set i (takenIn pl left k (aloneF ks i ms))) := by
  obtain ⟨_, t2, t3, t4, t5⟩ := taken_in (left := left) hc T h hne
  have hil := (List.getElem?_eq_some_iff.mp h).1
  refine ⟨fun m hm => ?_, fun e he => ?_⟩
  · by_cases z : servedBy (ks.eraseIdx i) m = true
    · obtain ⟨n, q, h1, h2, h3⟩ := er_iff.mp z
      exact servedBy_of (i := n) (by rw [List.getElem?_set_ne (Ne.symm h1)]; exact h2) h3
    · have z : servedBy (ks.eraseIdx i) m = false := by simpa using z
      obtain ⟨n, q, h1, h2⟩ := servedBy_at (T.sv m hm)
      have hn : n = i := Classical.byContradiction fun y => by
        have := er_iff.mpr ⟨n, q, y, h1, h2⟩
        rw [z] at this
        cases this
      subst hn
      rw [h] at h1
      cases h1
      exact servedBy_of (i := n) (by rw [List.getElem?_set_self hil]) (t5 m hm h2 z)
  · rcases List.mem_or_eq_of_mem_set he with he | rfl
    · exact T.en e he
    · exact ⟨t2, t3, t4⟩
theorem TI.erase {ks : List Sp2} {i : Nat} {k : Sp2} (T : TI pl ms ks) (h : ks[i]? = some k) (hne : aloneF ks i ms = []) : TI pl ms (ks.eraseIdx i) := by
  refine ⟨fun m hm => ?_, fun e he => T.en e (List.mem_of_mem_eraseIdx he)⟩
  by_cases z : servedBy (ks.eraseIdx i) m = true
  · exact z
  · have z : servedBy (ks.eraseIdx i) m = false := by simpa using z
    obtain ⟨n, q, h1, h2⟩ := servedBy_at (T.sv m hm)
    have hn : n = i := Classical.byContradiction fun y => by
      have := er_iff.mpr ⟨n, q, y, h1, h2⟩
      rw [z] at this
      cases this
    subst hn
    rw [h] at h1
    cases h1
    have : m.1 ∈ aloneF ks n ms := (mem_alone h).mpr ⟨m, hm, rfl, h2, z⟩
    rw [hne] at this
    cases this
theorem wSp_in {a k : Sp2} (h : within a k) (h2 : a.1 < a.2) : wSp a ≤ wSp k ∧ (wSp a = wSp k → a = k) := by
  unfold within at h
  unfold wSp
  exact ⟨by omega, fun e => Prod.ext (by omega) (by omega)⟩
theorem set_self {ks : List Sp2} {i : Nat} {k : Sp2} (h : ks[i]? = some k) : ks.set i k = ks := by
  obtain ⟨hl, e⟩ := List.getElem?_eq_some_iff.mp h
  rw [← e]
  exact List.set_getElem_self hl
theorem short_ok (hc : ∀ m ∈ ms, m.1 ∈ pl) : ∀ (f a : Nat) (ks : List Sp2), ks.length ≤ f + a → TI pl ms ks → TI pl ms (shortF pl ms left f a ks) ∧ (shortF pl ms left f a ks).length ≤ ks.length ∧ tot (shortF pl ms left f a ks) ≤ tot ks ∧
    (∀ e ∈ shortF pl ms left f a ks, ∃ k ∈ ks, within e k) ∧ (tot (shortF pl ms left f a ks) = tot ks → shortF pl ms left f a ks = ks ∧ ∀ i, a ≤ i → i < ks.length → Fix pl ms left ks i)
  | 0, a, ks, hf, T => ⟨T, Nat.le_refl _, Nat.le_refl _, fun e he => ⟨e, he, by unfold within; omega⟩, fun _ => ⟨rfl, fun i h1 h2 => by omega⟩⟩
  | f + 1, a, ks, hf, T => by
    unfold shortF
    by_cases hlt : a < ks.length
    · rw [if_pos hlt]
      have hk : ks[a]? = some ks[a] := List.getElem?_eq_getElem hlt
      generalize ks[a] = k at hk
      obtain ⟨k1, k2, k3⟩ := T.en k (List.mem_of_getElem? hk)
      have wk : 1 ≤ wSp k := by unfold wSp; omega
      by_cases hne : aloneF ks a ms = []
      · rw [if_pos hne]
        have te := tot_erase hk
        obtain ⟨g1, g2, g3, g4, g5⟩ := short_ok hc f a (ks.eraseIdx a) (by rw [List.length_eraseIdx_of_lt hlt]; omega) (T.erase hk hne)
        refine ⟨g1, ?_, by omega, fun e he => ?_, fun e => by omega⟩
        · rw [List.length_eraseIdx_of_lt hlt] at g2
          omega
        · obtain ⟨q, hq, w⟩ := g4 e he
          exact ⟨q, List.mem_of_mem_eraseIdx hq, w⟩
      · rw [if_neg hne, getD_of hk]
        have ts := tot_set (k' := takenIn pl left k (aloneF ks a ms)) hk
        obtain ⟨t1, _, _, t4, _⟩ := taken_in (left := left) hc T hk hne
        obtain ⟨w1, w2⟩ := wSp_in t1 t4
        obtain ⟨g1, g2, g3, g4, g5⟩ := short_ok hc f (a + 1) (ks.set a (takenIn pl left k (aloneF ks a ms))) (by rw [List.length_set]; omega) (T.set hc hk hne)
        rw [List.length_set] at g2
        refine ⟨g1, g2, by omega, fun e he => ?_, fun e => ?_⟩
        · obtain ⟨q, hq, w⟩ := g4 e he
          rcases List.mem_or_eq_of_mem_set hq with hq | rfl
          · exact ⟨q, hq, w⟩
          · refine ⟨k, List.mem_of_getElem? hk, ?_⟩
            unfold within at *
            omega
        · have ek : takenIn pl left k (aloneF ks a ms) = k := w2 (by omega)
          have es : ks.set a (takenIn pl left k (aloneF ks a ms)) = ks := by rw [ek]; exact set_self hk
          rw [es] at g5 ⊢
          obtain ⟨h1, h2⟩ := g5 (by rw [es] at g3; rw [es] at e; exact e)
          refine ⟨h1, fun i hi hil => ?_⟩
          by_cases z : i = a
          · subst z
            intro k' hk'
            rw [hk] at hk'
            cases hk'
            exact ⟨hne, ek⟩
          · exact h2 i (by omega) hil
    · rw [if_neg hlt]
      exact ⟨T, Nat.le_refl _, Nat.le_refl _, fun e he => ⟨e, he, by unfold within; omega⟩, fun _ => ⟨rfl, fun i h1 h2 => by omega⟩⟩
end
instance (a b : Sp2) : Decidable (spLt a b) := by unfold spLt; infer_instance
instance (a b : Mk) : Decidable (mkLt a b) := by unfold mkLt; infer_instance
section
variable {α : Type} (r : α → α → Prop) [DecidableRel r]
def insO (x : α) : List α → List α
  | [] => [x]
  | y :: l => if r y x then y :: insO x l else x :: y :: l
def sortO : List α → List α
  | [] => []
  | x :: l => insO r x (sortO l)
end
section
variable {α : Type} {r : α → α → Prop} [DecidableRel r]
theorem insO_perm (x : α) : ∀ l : List α, (insO r x l).Perm (x :: l)
  | [] => .refl _
  | y :: l => by
    unfold insO
    split
    · exact (List.Perm.cons y (insO_perm x l)).trans (List.Perm.swap _ _ _)
    · exact .refl _
theorem sortO_perm : ∀ l : List α, (sortO r l).Perm l
  | [] => .refl _
  | x :: l => (insO_perm x (sortO r l)).trans (List.Perm.cons x (sortO_perm l))
theorem insO_pw (tr : ∀ a b c, ¬ r b a → ¬ r c b → ¬ r c a) (as : ∀ a b, r a b → ¬ r b a) (x : α) : ∀ l : List α, l.Pairwise (fun a b => ¬ r b a) → (insO r x l).Pairwise (fun a b => ¬ r b a)
  | [], _ => by simp [insO]
  | y :: l, h => by
    obtain ⟨h1, h2⟩ := List.pairwise_cons.mp h
    unfold insO
    by_cases z : r y x
    · rw [if_pos z]
      refine List.pairwise_cons.mpr ⟨fun w hw => ?_, insO_pw tr as x l h2⟩
      rcases List.mem_cons.mp ((insO_perm x l).mem_iff.mp hw) with rfl | hw
      · exact as _ _ z
      · exact h1 w hw
    · rw [if_neg z]
      refine List.pairwise_cons.mpr ⟨fun w hw => ?_, h⟩
      rcases List.mem_cons.mp hw with rfl | hw
      · exact z
      · exact tr _ _ _ z (h1 w hw)
theorem sortO_pw (tr : ∀ a b c, ¬ r b a → ¬ r c b → ¬ r c a) (as : ∀ a b, r a b → ¬ r b a) : ∀ l : List α, (sortO r l).Pairwise (fun a b => ¬ r b a)
  | [] => List.Pairwise.nil
  | x :: l => insO_pw tr as x _ (sortO_pw tr as l)
/-- sorted lists of the same members, each as often, are one -/
theorem sorted_uniq (an : ∀ a b, ¬ r a b → ¬ r b a → a = b) : ∀ {a b : List α}, a.Perm b → a.Pairwise (fun x y => ¬ r y x) → b.Pairwise (fun x y => ¬ r y x) → a = b
  | [], b, h, _, _ => (List.Perm.nil_eq h)
  | x :: a, [], h, _, _ => by
    have := h.length_eq
    simp at this
  | x :: a, y :: b, h, h1, h2 => by
    obtain ⟨p1, p2⟩ := List.pairwise_cons.mp h1
    obtain ⟨q1, q2⟩ := List.pairwise_cons.mp h2
    have e : x = y := by
      rcases List.mem_cons.mp (h.mem_iff.mp List.mem_cons_self) with e | hx
      · exact e
      · rcases List.mem_cons.mp (h.mem_iff.mpr List.mem_cons_self) with e | hy
        · exact e.symm
        · exact an _ _ (p1 y hy |> fun z => (q1 x hx)) (p1 y hy)
    subst e
    rw [sorted_uniq an ((List.perm_cons x).mp h) p2 q2]
end
theorem spLt_tr (a b c : Sp2) (h1 : ¬ spLt b a) (h2 : ¬ spLt c b) : ¬ spLt c a := by unfold spLt at *; omega
theorem spLt_as (a b : Sp2) (h1 : spLt a b) : ¬ spLt b a := by unfold spLt at *; omega
theorem spLt_an (a b : Sp2) (h1 : ¬ spLt a b) (h2 : ¬ spLt b a) : a = b := by unfold spLt at *; exact Prod.ext (by omega) (by omega)
theorem mkLt_tr (a b c : Mk) (h1 : ¬ mkLt b a) (h2 : ¬ mkLt c b) : ¬ mkLt c a := by unfold mkLt at *; omega
theorem mkLt_as (a b : Mk) (h1 : mkLt a b) : ¬ mkLt b a := by unfold mkLt at *; omega
theorem mkLt_an (a b : Mk) (h1 : ¬ mkLt a b) (h2 : ¬ mkLt b a) : a = b := by unfold mkLt at *; exact Prod.ext (by omega) (Prod.ext (by omega) (by omega))
def sortSp (l : List Sp2) : List Sp2 := sortO spLt l
def sortMk (l : List Mk) : List Mk := sortO mkLt l
theorem sortSp_eq {a b : List Sp2} (h : b.Perm a) (hp : b.Pairwise fun x y => ¬ spLt y x) : b = sortSp a := sorted_uniq spLt_an (h.trans (sortO_perm a).symm) hp (sortO_pw spLt_tr spLt_as a)
def bothF (pl : List Int) (ms : List Mk) (ks : List Sp2) : List Sp2 :=
  let a := shortF pl ms true ks.length 0 ks
  sortSp (shortF pl ms false a.length 0 a)
def thinF (pl : List Int) (ms : List Mk) : Nat → List Sp2 → List Sp2
  | 0, ks => ks
  | f + 1, ks => if bothF pl ms ks = ks then ks else thinF pl ms f (bothF pl ms ks)
section
variable {pl : List Int} {ms : List Mk}
theorem TI.perm {a b : List Sp2} (h : a.Perm b) (T : TI pl ms a) : TI pl ms b := ⟨fun m hm => by
  obtain ⟨k, hk, hs⟩ := servedBy_iff.mp (T.sv m hm)
  exact servedBy_iff.mpr ⟨k, h.mem_iff.mp hk, hs⟩, fun e he => T.en e (h.mem_iff.mpr he)⟩
theorem both_ok (hc : ∀ m ∈ ms, m.1 ∈ pl) {ks : List Sp2} (T : TI pl ms ks) (hs : ks.Pairwise fun x y => ¬ spLt y x) : TI pl ms (bothF pl ms ks) ∧ (bothF pl ms ks).length ≤ ks.length ∧ (∀ e ∈ bothF pl ms ks, ∃ k ∈ ks, within e k) ∧ (bothF pl ms ks).Pairwise (fun x y => ¬ spLt y x) ∧
    tot (bothF pl ms ks) ≤ tot ks ∧ (tot (bothF pl ms ks) = tot ks → bothF pl ms ks = ks ∧ ∀ i, i < ks.length → Fix pl ms true ks i ∧ Fix pl ms false ks i) := by
  obtain ⟨a1, a2, a3, a4, a5⟩ := short_ok (left := true) hc ks.length 0 ks (by omega) T
  unfold bothF
  dsimp only
  generalize shortF pl ms true ks.length 0 ks = a at a1 a2 a3 a4 a5
  obtain ⟨b1, b2, b3, b4, b5⟩ := short_ok (left := false) hc a.length 0 a (by omega) a1
  generalize shortF pl ms false a.length 0 a = b at b1 b2 b3 b4 b5
  have pm := sortO_perm (r := spLt) b
  have ep := tot_perm pm
  refine ⟨b1.perm pm.symm, by rw [show (sortSp b).length = b.length from pm.length_eq]; omega, fun e he => ?_, sortO_pw spLt_tr spLt_as b, by show tot (sortO spLt b) ≤ _; omega, fun e => ?_⟩
  · obtain ⟨k, hk, w⟩ := b4 e (pm.mem_iff.mp he)
    obtain ⟨q, hq, w2⟩ := a4 k hk
    exact ⟨q, hq, by unfold within at *; omega⟩
  · have e : tot (sortO spLt b) = tot ks := e
    obtain ⟨e1, f1⟩ := a5 (by omega)
    subst e1
    obtain ⟨e2, f2⟩ := b5 (by omega)
    subst e2
    exact ⟨(sortSp_eq (.refl _) hs).symm, fun i hi => ⟨f1 i (Nat.zero_le _) hi, f2 i (Nat.zero_le _) hi⟩⟩
theorem thin_ok (hc : ∀ m ∈ ms, m.1 ∈ pl) : ∀ (f : Nat) (ks : List Sp2), tot ks ≤ f → TI pl ms ks → ks.Pairwise (fun x y => ¬ spLt y x) → TI pl ms (thinF pl ms f ks) ∧ (thinF pl ms f ks).length ≤ ks.length ∧ (∀ e ∈ thinF pl ms f ks, ∃ k ∈ ks, within e k) ∧ (thinF pl ms f ks).Pairwise (fun x y => ¬ spLt y x) ∧
    (∀ i, i < (thinF pl ms f ks).length → Fix pl ms true (thinF pl ms f ks) i ∧ Fix pl ms false (thinF pl ms f ks) i)
  | 0, ks, hf, T, hs => by
    have : ks = [] := by
      cases ks with
      | nil => rfl
      | cons k ks =>
        obtain ⟨_, _, h⟩ := T.en k List.mem_cons_self
        simp only [tot, List.map_cons, List.sum_cons, wSp] at hf
        omega
    subst this
    exact ⟨T, Nat.le_refl _, fun e he => ⟨e, he, by unfold within; omega⟩, hs, fun i hi => by simp [thinF] at hi⟩
  | f + 1, ks, hf, T, hs => by
    obtain ⟨b1, b2, b3, b4, b5, b6⟩ := both_ok hc T hs
    unfold thinF
    by_cases z : bothF pl ms ks = ks
    · rw [if_pos z]
      obtain ⟨_, h⟩ := b6 (by rw [z])
      exact ⟨T, Nat.le_refl _, fun e he => ⟨e, he, by unfold within; omega⟩, hs, h⟩
    · rw [if_neg z]
      have : tot (bothF pl ms ks) ≠ tot ks := fun e => z (b6 e).1
      obtain ⟨g1, g2, g3, g4, g5⟩ := thin_ok hc f (bothF pl ms ks) (by omega) b1 b4
      refine ⟨g1, by omega, fun e he => ?_, g4, g5⟩
      obtain ⟨k, hk, w⟩ := g3 e he
      obtain ⟨q, hq, w2⟩ := b3 k hk
      exact ⟨q, hq, by unfold within at *; omega⟩
end
end LW
namespace LW
open DL
/-- the borders of stretches within 0 to 400, rising -/
def bordersF (bs : List Sp2) : List Int := ((List.range 401).map fun k : Nat => (k : Int)).filter fun z => bs.any fun s => decide (s.1 = z) || decide (s.2 = z)
def inRow (bs : List Sp2) : Prop := ∀ s ∈ bs, 0 ≤ s.1 ∧ s.1 ≤ 400 ∧ 0 ≤ s.2 ∧ s.2 ≤ 400
theorem mem_borders {bs : List Sp2} (h : inRow bs) {z : Int} : z ∈ bordersF bs ↔ ∃ s ∈ bs, z = s.1 ∨ z = s.2 := by
  unfold bordersF
  rw [List.mem_filter, List.any_eq_true]
  constructor
  · rintro ⟨_, s, hs, e⟩
    refine ⟨s, hs, ?_⟩
    simp only [Bool.or_eq_true, decide_eq_true_eq] at e
    exact e.imp Eq.symm Eq.symm
  · rintro ⟨s, hs, e⟩
    have := h s hs
    refine ⟨List.mem_map.mpr ⟨z.toNat, List.mem_range.mpr ?_, ?_⟩, s, hs, ?_⟩
    · rcases e with e | e <;> omega
    · rcases e with e | e <;> omega
    · simp only [Bool.or_eq_true, decide_eq_true_eq]
      exact e.imp Eq.symm Eq.symm
theorem borders_pw (bs : List Sp2) : (bordersF bs).Pairwise (· < ·) := by
  unfold bordersF
  refine List.Pairwise.filter _ ?_
  rw [List.pairwise_map]
  exact List.pairwise_lt_range.imp fun {a b} h => by omega
theorem int_uniq : ∀ {a b : List Int}, a.Pairwise (· < ·) → b.Pairwise (· < ·) → (∀ z, z ∈ a ↔ z ∈ b) → a = b
  | [], [], _, _, _ => rfl
  | [], y :: b, _, _, h => by have := (h y).mpr List.mem_cons_self; cases this
  | x :: a, [], _, _, h => by have := (h x).mp List.mem_cons_self; cases this
  | x :: a, y :: b, h1, h2, h => by
    obtain ⟨p1, p2⟩ := List.pairwise_cons.mp h1
    obtain ⟨q1, q2⟩ := List.pairwise_cons.mp h2
    have e : x = y := by
      rcases List.mem_cons.mp ((h x).mp List.mem_cons_self) with e | hx
      · exact e
      · rcases List.mem_cons.mp ((h y).mpr List.mem_cons_self) with e | hy
        · exact e.symm
        · have := q1 x hx
          have := p1 y hy
          omega
    subst e
    rw [int_uniq p2 q2 fun z => ?_]
    have := h z
    simp only [List.mem_cons] at this
    constructor
    · intro hz
      rcases this.mp (.inr hz) with e | hb
      · have := p1 z hz
        omega
      · exact hb
    · intro hz
      rcases this.mpr (.inr hz) with e | hb
      · have := q1 z hz
        omega
      · exact hb
theorem borders_eq {bs : List Sp2} {L : List Int} (h : inRow bs) (hm : ∀ z, z ∈ L ↔ ∃ s ∈ bs, z = s.1 ∨ z = s.2) (hp : L.Pairwise (· < ·)) : L = bordersF bs := int_uniq hp (borders_pw bs) fun z => by rw [hm, mem_borders h]
theorem drop_lt {L : List Int} (hp : L.Pairwise (· < ·)) {x y : Int} (hx : x ∈ L) (hy : y ∈ L) (h : x < y) : x ∈ L.dropLast := by
  have hne : L ≠ [] := List.ne_nil_of_mem hx
  rw [← List.dropLast_concat_getLast hne] at hx hy hp
  rcases List.mem_append.mp hx with hx | hx
  · exact hx
  · exfalso
    have ex : x = L.getLast hne := by simpa using hx
    rcases List.mem_append.mp hy with hy | hy
    · have := (List.pairwise_append.mp hp).2.2 y hy (L.getLast hne) (by simp)
      omega
    · have : y = L.getLast hne := by simpa using hy
      omega
/-- the last place that is not right of c -/
theorem last_le : ∀ (L : List Int) (s c : Int), s ∈ L → s ≤ c → ∃ p ∈ L, p ≤ c ∧ ∀ q ∈ L, q ≤ c → q ≤ p := fun L s c hs hc => by
  have hne : L.filter (fun q => decide (q ≤ c)) ≠ [] := List.ne_nil_of_mem (List.mem_filter.mpr ⟨hs, by simpa using hc⟩)
  obtain ⟨h1, h2⟩ := maxI_ok hne
  obtain ⟨h3, h4⟩ := List.mem_filter.mp h1
  exact ⟨_, h3, by simpa using h4, fun q hq hqc => h2 q (List.mem_filter.mpr ⟨hq, by simpa using hqc⟩)⟩
/-- kept stretches that serve, shortened -/
def thinnedF (bs ks : List Sp2) : List Sp2 := thinF (bordersF (bs ++ ks)) (essAt (bordersF (bs ++ ks)).dropLast bs) (tot ks) (sortSp ks)
def allServed (bs ks : List Sp2) : Prop := ∀ s ∈ bs, ∀ c, s.1 ≤ c → c < s.2 → servedBy ks (c, s.1, s.2) = true
/-- essential marks at all borders are served: all marks are -/
theorem all_of_ess {bs R : List Sp2} {pl : List Int} (hp : pl.Pairwise (· < ·)) (hb : ∀ s ∈ bs, s.1 ∈ pl ∧ s.2 ∈ pl) (hR : ∀ k ∈ R, k.2 ∈ pl) (h : ∀ m ∈ essAt pl.dropLast bs, servedBy R m = true) : allServed bs R := fun s hs c h1 h2 => by
  obtain ⟨p, hpl, hpc, hmax⟩ := last_le pl s.1 c (hb s hs).1 h1
  have hsp := hmax _ (hb s hs).1 h1
  obtain ⟨t, tw, te⟩ := ess_min (c := p) _ s (Nat.le_refl _) hs hsp (by omega)
  have hd : p ∈ pl.dropLast := drop_lt hp hpl (hb s hs).2 (by omega)
  obtain ⟨k, hk, sk⟩ := servedBy_iff.mp (h _ (mem_essAt.mpr ⟨hd, te⟩))
  unfold servs at sk
  dsimp only at sk
  have : c < k.2 := Classical.byContradiction fun z => by
    have := hmax k.2 (hR k hk) (by omega)
    omega
  refine servedBy_iff.mpr ⟨k, hk, ?_⟩
  unfold within at tw
  unfold servs
  dsimp only
  omega
/-- what holds of thinned stretches -/
structure Thin (bs ks R : List Sp2) : Prop where
  all : allServed bs R
  len : R.length ≤ ks.length
  sub : ∀ e ∈ R, ∃ k ∈ ks, within e k
  pw : R.Pairwise spLt
  lo : ∀ i k, R[i]? = some k → ∃ s ∈ bs, s.1 ≤ k.1 ∧ k.2 ≤ s.2 ∧ servedBy (R.eraseIdx i) (k.1, s.1, s.2) = false
  hi : ∀ i k, R[i]? = some k → ∃ s ∈ bs, s.1 ≤ k.1 ∧ k.2 ≤ s.2 ∧ servedBy (R.eraseIdx i) (k.2 - 1, s.1, s.2) = false
  en : EndsIn R fun z => ∃ s ∈ bs ++ ks, z = s.1 ∨ z = s.2
theorem inRow_app {a b : List Sp2} (h1 : inRow a) (h2 : inRow b) : inRow (a ++ b) := fun s hs => by
  rcases List.mem_append.mp hs with hs | hs
  · exact h1 s hs
  · exact h2 s hs
theorem thinned_ok {bs ks : List Sp2} (hb : inRow bs) (hk : inRow ks) (hlt : ∀ k ∈ ks, k.1 < k.2) (hs : ∀ m ∈ essAt (bordersF (bs ++ ks)).dropLast bs, servedBy ks m = true) : Thin bs ks (thinnedF bs ks) := by
  have hr := inRow_app hb hk
  unfold thinnedF
  generalize hpl : bordersF (bs ++ ks) = pl at hs
  have hm : ∀ z, z ∈ pl ↔ ∃ s ∈ bs ++ ks, z = s.1 ∨ z = s.2 := fun z => by rw [← hpl, mem_borders hr]
  have pw : pl.Pairwise (· < ·) := by rw [← hpl]; exact borders_pw _
  have hc : ∀ m ∈ essAt pl.dropLast bs, m.1 ∈ pl := fun m hm => List.dropLast_subset _ (mem_essAt.mp hm).1
  have en0 : EndsIn ks (· ∈ pl) := fun k hk => ⟨(hm _).mpr ⟨k, List.mem_append_right _ hk, .inl rfl⟩, (hm _).mpr ⟨k, List.mem_append_right _ hk, .inr rfl⟩, hlt k hk⟩
  have pm := sortO_perm (r := spLt) ks
  have T0 : TI pl (essAt pl.dropLast bs) (sortSp ks) := TI.perm pm.symm ⟨hs, en0⟩
  obtain ⟨T, h2, h3, h4, h5⟩ := thin_ok hc (tot ks) (sortSp ks) (by rw [show tot (sortSp ks) = tot ks from tot_perm pm]; exact Nat.le_refl _) T0 (sortO_pw spLt_tr spLt_as ks)
  generalize thinF pl (essAt pl.dropLast bs) (tot ks) (sortSp ks) = R at T h2 h3 h4 h5
  have fixL : ∀ i k, R[i]? = some k → ∃ m ∈ essAt pl.dropLast bs, m.1 = k.1 ∧ servs k m ∧ servedBy (R.eraseIdx i) m = false := fun i k hk => by
    have hil := (List.getElem?_eq_some_iff.mp hk).1
    obtain ⟨n1, n2⟩ := (h5 i hil).1 k hk
    have h1 := (minI_ok n1).1
    have e : minI (aloneF R i (essAt pl.dropLast bs)) = k.1 := by
      have := congrArg Prod.fst n2
      unfold takenIn at this
      rw [if_pos rfl] at this
      exact this
    rw [e] at h1
    exact (mem_alone hk).mp h1
  have fixR : ∀ i k, R[i]? = some k → ∃ m ∈ essAt pl.dropLast bs, servs k m ∧ servedBy (R.eraseIdx i) m = false ∧ ∀ p ∈ pl, m.1 < p → k.2 ≤ p := fun i k hk => by
    have hil := (List.getElem?_eq_some_iff.mp hk).1
    obtain ⟨n1, n2⟩ := (h5 i hil).2 k hk
    have h1 := (maxI_ok n1).1
    obtain ⟨m, hm, e, g1, g2⟩ := (mem_alone hk).mp h1
    have e2 : minI (pl.filter fun p => decide (maxI (aloneF R i (essAt pl.dropLast bs)) < p)) = k.2 := by
      have := congrArg Prod.snd n2
      unfold takenIn at this
      rw [if_neg (by decide)] at this
      exact this
    refine ⟨m, hm, g1, g2, fun p hp hlt => ?_⟩
    have hpf : p ∈ pl.filter fun p => decide (maxI (aloneF R i (essAt pl.dropLast bs)) < p) := List.mem_filter.mpr ⟨hp, by rw [← e]; simpa using hlt⟩
    have := (minI_ok (List.ne_nil_of_mem hpf)).2 p hpf
    omega
  refine ⟨all_of_ess pw (fun s hs => ⟨(hm _).mpr ⟨s, List.mem_append_left _ hs, .inl rfl⟩, (hm _).mpr ⟨s, List.mem_append_left _ hs, .inr rfl⟩⟩) (fun k hk => (T.en k hk).2.1) T.sv, ?_, fun e he => ?_, ?_, fun i k hk => ?_, fun i k hk => ?_, fun k hk => ?_⟩
  · have := pm.length_eq
    unfold sortSp at h2
    omega
  · obtain ⟨k, hk, w⟩ := h3 e he
    exact ⟨k, pm.mem_iff.mp hk, w⟩
  · have nd : R.Nodup := by
      refine List.pairwise_iff_getElem.mpr fun i j hi hj hij e => ?_
      have hk : R[i]? = some R[i] := List.getElem?_eq_getElem hi
      obtain ⟨m, _, _, g1, g2⟩ := fixL i _ hk
      have := er_iff.mpr ⟨j, R[j], (show j ≠ i by omega), List.getElem?_eq_getElem hj, by rw [← e]; exact g1⟩
      rw [g2] at this
      cases this
    refine (h4.and nd).imp fun {a b} ⟨z1, z2⟩ => ?_
    by_cases z : spLt a b
    · exact z
    · exact absurd (spLt_an _ _ z z1) z2
  · obtain ⟨m, hm, e, g1, g2⟩ := fixL i k hk
    obtain ⟨q1, q2, q3, _⟩ := mem_leastAt.mp (mem_essAt.mp hm).2
    unfold servs at g1
    exact ⟨(m.2.1, m.2.2), q1, g1.1, g1.2.2.2, by rw [← e]; exact g2⟩
  · obtain ⟨m, hm, g1, g2, g3⟩ := fixR i k hk
    obtain ⟨q1, q2, q3, _⟩ := mem_leastAt.mp (mem_essAt.mp hm).2
    unfold servs at g1
    refine ⟨(m.2.1, m.2.2), q1, g1.1, g1.2.2.2, ?_⟩
    cases z : servedBy (R.eraseIdx i) (k.2 - 1, m.2.1, m.2.2) with
    | false => rfl
    | true =>
      obtain ⟨n, q, y1, y2, y3⟩ := er_iff.mp z
      unfold servs at y3
      dsimp only at y3
      have hq1 := (T.en q (List.mem_of_getElem? y2)).1
      have hqc : q.1 ≤ m.1 := Classical.byContradiction fun w => by
        have := g3 q.1 hq1 (by omega)
        omega
      have := er_iff.mpr ⟨n, q, y1, y2, show servs q m by unfold servs; omega⟩
      rw [g2] at this
      cases this
  · obtain ⟨z1, z2, z3⟩ := T.en k hk
    exact ⟨(hm _).mp z1, (hm _).mp z2, z3⟩
def essF (bs : List Sp2) : List Mk := essAt (bordersF bs).dropLast bs
def keptF (bs : List Sp2) : List Sp2 := spreadF (rowsOf (takenOf (essF bs))) (essF bs) (takenOf (essF bs))
def planF (bs : List Sp2) : List Sp2 × List Mk := (thinnedF bs (keptF bs), sortMk (unlikeOf (takenOf (essF bs))))
theorem bnd_of {k : Sp2} {a b : Mk} (h1 : servs k a) (h2 : servs k b) : bnd a b := by unfold servs at *; unfold bnd; omega
theorem unlike_le {R : List Sp2} {U : List Mk} (hs : ∀ m ∈ U, servedBy R m = true) (hu : U.Pairwise fun a b => ¬ bnd a b) : U.length ≤ R.length := by
  have h1 : (U.map (firstAt R)).Nodup := by
    refine List.pairwise_map.mpr (hu.imp_of_mem fun {a b} ha hb hn e => hn ?_)
    obtain ⟨k, hk, sk⟩ := firstAt_ok (hs a ha)
    obtain ⟨l, hl, sl⟩ := firstAt_ok (hs b hb)
    rw [e, hl] at hk
    cases hk
    exact bnd_of sk sl
  have := nodup_sub h1 (b := List.range R.length) fun x hx => by
    obtain ⟨m, hm, rfl⟩ := List.mem_map.mp hx
    obtain ⟨k, hk, _⟩ := firstAt_ok (hs m hm)
    exact List.mem_range.mpr (List.getElem?_eq_some_iff.mp hk).1
  rwa [List.length_map, List.length_range] at this
structure PlanP (bs : List Sp2) (K : List Sp2) (U : List Mk) : Prop where
  all : allServed bs K
  pw : K.Pairwise spLt
  len : K.length = U.length
  up : U.Pairwise mkLt
  um : ∀ m ∈ U, (m.2.1, m.2.2) ∈ bs ∧ m.2.1 ≤ m.1 ∧ m.1 < m.2.2
  un : U.Pairwise fun a b => ¬ bnd a b
  lo : ∀ i k, K[i]? = some k → ∃ s ∈ bs, s.1 ≤ k.1 ∧ k.2 ≤ s.2 ∧ servedBy (K.eraseIdx i) (k.1, s.1, s.2) = false
  hi : ∀ i k, K[i]? = some k → ∃ s ∈ bs, s.1 ≤ k.1 ∧ k.2 ≤ s.2 ∧ servedBy (K.eraseIdx i) (k.2 - 1, s.1, s.2) = false
  en : EndsIn K fun z => ∃ s ∈ bs, z = s.1 ∨ z = s.2
theorem essF_pw {bs : List Sp2} (hp : bs.Pairwise spLt) : (essF bs).Pairwise mkLt := essAt_pw hp ((borders_pw bs).sublist (List.dropLast_sublist _))
theorem kept_ok {bs : List Sp2} (hb : inRow bs) (hp : bs.Pairwise spLt) : (keptF bs).length = (rowsOf (takenOf (essF bs))).length ∧ (∀ x ∈ essF bs, servedBy (keptF bs) x = true) ∧ EndsIn (keptF bs) (fun z => ∃ s ∈ bs, z = s.1 ∨ z = s.2) ∧
    ∀ n m, (essF bs)[n]? = some m → servedBy (((essF bs).take n).foldl (spreadStep (takenOf (essF bs))) ((rowsOf (takenOf (essF bs))).map chainSp)) m = false → ∃ o, (takenOf (essF bs)).find? (fun o => decide (acr o m)) = some o ∧
        servedBy (((essF bs).take n).foldl (spreadStep (takenOf (essF bs))) ((rowsOf (takenOf (essF bs))).map chainSp)) (o.1, m.2) = true ∧ servedBy (((essF bs).take n).foldl (spreadStep (takenOf (essF bs))) ((rowsOf (takenOf (essF bs))).map chainSp)) (m.1, o.2) = true := by
  have hw := essF_pw hp
  have nd : (takenOf (essF bs)).Nodup := (hw.sublist (takenOf_sub _)).imp fun {a b} h e => by rw [e] at h; exact mkLt_irr h
  have es : ∀ x ∈ takenOf (essF bs), (x.2.1, x.2.2) ∈ bs ∧ x.2.1 ≤ x.1 ∧ x.1 < x.2.2 := fun x hx => by
    obtain ⟨h1, h2, h3, _⟩ := mem_leastAt.mp (mem_essAt.mp ((takenOf_sub _).subset hx)).2
    exact ⟨h1, h2, h3⟩
  have cov := fun x (hx : x ∈ takenOf (essF bs)) => rowsOf_cover nd hx
  have hr : ∀ x ∈ takenOf (essF bs), servedBy ((rowsOf (takenOf (essF bs))).map chainSp) x = true := fun x hx => by
    obtain ⟨r, hr, a, b, ea, eb, h1, h2, ma, mb⟩ := cov x hx
    refine servedBy_iff.mpr ⟨chainSp r, List.mem_map.mpr ⟨r, hr, rfl⟩, ?_⟩
    have e1 : chainSp r = (a.2.1, b.2.2) := by
      unfold chainSp
      rw [List.headD_eq_head?_getD, ea, List.getLastD_eq_getLast?, eb]
      rfl
    rw [e1]
    have qa := es a ma
    have qb := es b mb
    unfold und at h1 h2
    unfold servs
    dsimp only
    omega
  have he : EndsIn ((rowsOf (takenOf (essF bs))).map chainSp) (fun z => ∃ s ∈ bs, z = s.1 ∨ z = s.2) := fun k hk => by
    obtain ⟨r, hr, rfl⟩ := List.mem_map.mp hk
    -- a row's head and last
    obtain ⟨r0, hr0, rfl⟩ := List.mem_map.mp hr
    obtain ⟨s, hs, rfl⟩ := List.mem_map.mp hr0
    have M := matchOf_mi (takenOf (essF bs))
    have hsl : s < (upsOf (takenOf (essF bs))).length := by
      have := List.mem_range.mp (List.mem_filter.mp hs).1
      rw [M.con.l2] at this
      exact this
    obtain ⟨h1, h2⟩ := rowF_rel (P := fun a b => und ((takenOf (essF bs)).getD a noMk) ((takenOf (essF bs)).getD b noMk)) M.con (fun _ _ => und_refl _) (fun _ _ _ => und_trans) (fun l t ht => (mem_upsOf.mp ht).2.2.2) (matchOf (takenOf (essF bs))).1.length s hsl
    have hlm := rowF_mem M.con (matchOf (takenOf (essF bs))).1.length s hsl _ (List.getLast_mem (rowF_ne _ _ _))
    obtain ⟨q, eq⟩ := rowF_head (matchOf (takenOf (essF bs))).1 (matchOf (takenOf (essF bs))).1.length s
    have hs0 := h1 _ (List.getLast_mem (rowF_ne _ _ _))
    generalize hlast : (rowF (matchOf (takenOf (essF bs))).1 (matchOf (takenOf (essF bs))).1.length s).getLast (rowF_ne _ _ _) = t at hlm hs0
    rw [upsOf_len] at hsl hlm
    have e1 : chainSp ((rowF (matchOf (takenOf (essF bs))).1 (matchOf (takenOf (essF bs))).1.length s).map fun a => (takenOf (essF bs)).getD a noMk) = (((takenOf (essF bs)).getD s noMk).2.1, ((takenOf (essF bs)).getD t noMk).2.2) := by
      unfold chainSp
      rw [List.headD_eq_head?_getD, List.getLastD_eq_getLast?, List.getLast?_map, List.getLast?_eq_some_getLast (rowF_ne _ _ _), hlast]
      rw [show ((rowF (matchOf (takenOf (essF bs))).1 (matchOf (takenOf (essF bs))).1.length s).map fun a => (takenOf (essF bs)).getD a noMk).head? = some ((takenOf (essF bs)).getD s noMk) by rw [eq]; rfl]
      rfl
    rw [e1]
    have qa := es _ (getD_mem hsl)
    have qb := es _ (getD_mem hlm)
    unfold und at hs0
    refine ⟨⟨_, qa.1, .inl rfl⟩, ⟨_, qb.1, .inr rfl⟩, ?_⟩
    dsimp only
    omega
  have so := spread_ok (cs := (bordersF bs).dropLast) (bs := bs) (rows := rowsOf (takenOf (essF bs))) hw hr he
  obtain ⟨g1, g2, g3, g4, _⟩ := so (essF bs).length (Nat.le_refl _)
  rw [show essAt (bordersF bs).dropLast bs = essF bs from rfl, List.take_length] at g1 g2 g4
  refine ⟨g1, g2, g4, fun n m hn hm => ?_⟩
  obtain ⟨_, _, _, _, h5⟩ := so n (Nat.le_of_lt (List.getElem?_eq_some_iff.mp hn).1)
  exact h5 m hn hm
theorem inRow_en {bs ks : List Sp2} (hb : inRow bs) (h : EndsIn ks (fun z => ∃ s ∈ bs, z = s.1 ∨ z = s.2)) : inRow ks := fun k hk => by
  obtain ⟨⟨s, hs, e1⟩, ⟨t, ht, e2⟩, _⟩ := h k hk
  have := hb s hs
  have := hb t ht
  omega
theorem borders_same {bs ks : List Sp2} (hb : inRow bs) (h : EndsIn ks (fun z => ∃ s ∈ bs, z = s.1 ∨ z = s.2)) : bordersF (bs ++ ks) = bordersF bs := by
  refine borders_eq hb (fun z => ?_) (borders_pw _)
  rw [mem_borders (inRow_app hb (inRow_en hb h))]
  constructor
  · rintro ⟨s, hs, e⟩
    rcases List.mem_append.mp hs with hs | hs
    · exact ⟨s, hs, e⟩
    · obtain ⟨h1, h2, _⟩ := h s hs
      rcases e with e | e
      · rw [e]; exact h1
      · rw [e]; exact h2
  · rintro ⟨s, hs, e⟩
    exact ⟨s, List.mem_append_left _ hs, e⟩
theorem plan_ok {bs : List Sp2} (hb : inRow bs) (hp : bs.Pairwise spLt) : PlanP bs (planF bs).1 (planF bs).2 := by
  obtain ⟨k1, k2, k3, _⟩ := kept_ok hb hp
  have hw := essF_pw hp
  have nd : (takenOf (essF bs)).Nodup := (hw.sublist (takenOf_sub _)).imp fun {a b} h e => by rw [e] at h; exact mkLt_irr h
  have T := thinned_ok hb (inRow_en hb k3) (fun k hk => (k3 k hk).2.2) (by rw [borders_same hb k3]; exact k2)
  have es : ∀ x ∈ takenOf (essF bs), isEss bs x := fun x hx => (mem_essAt.mp ((takenOf_sub _).subset hx)).2
  unfold planF
  dsimp only
  have pm := sortO_perm (r := mkLt) (unlikeOf (takenOf (essF bs)))
  have mem : ∀ x, x ∈ sortMk (unlikeOf (takenOf (essF bs))) → x ∈ takenOf (essF bs) := fun x hx => unlikeOf_mem (pm.mem_iff.mp hx)
  have ap := takenOf_apart (essF bs)
  have nbU : (unlikeOf (takenOf (essF bs))).Pairwise fun a b => ¬ bnd a b ∧ ¬ bnd b a := by
    refine (unlikeOf_pw nd |>.and (unlikeOf_nodup nd)).imp_of_mem fun {a b} ha hb2 ⟨⟨h1, h2⟩, h3⟩ => ?_
    have ma := unlikeOf_mem ha
    have mb := unlikeOf_mem hb2
    have hx : ¬ acr a b ∧ ¬ acr b a := by
      obtain ⟨i, hi⟩ := List.mem_iff_getElem?.mp ma
      obtain ⟨j, hj⟩ := List.mem_iff_getElem?.mp mb
      obtain ⟨hil, ei⟩ := List.getElem?_eq_some_iff.mp hi
      obtain ⟨hjl, ej⟩ := List.getElem?_eq_some_iff.mp hj
      rcases Nat.lt_trichotomy i j with z | z | z
      · have := List.pairwise_iff_getElem.mp ap i j hil hjl z
        rw [ei, ej] at this
        exact this
      · subst z
        rw [hi] at hj
        cases hj
        exact absurd rfl h3
      · have := List.pairwise_iff_getElem.mp ap j i hjl hil z
        rw [ei, ej] at this
        exact ⟨this.2, this.1⟩
    have no : ¬ bnd a b := fun z => by
      rcases bound_under (es a ma) (es b mb) hx.1 hx.2 z with q | q
      · exact h1 q
      · exact h2 q
    exact ⟨no, fun z => no (by unfold bnd at *; omega)⟩
  have un : (sortMk (unlikeOf (takenOf (essF bs)))).Pairwise fun a b => ¬ bnd a b ∧ ¬ bnd b a := (pm.symm.pairwise_iff (fun {a b} h => ⟨h.2, h.1⟩)).mp nbU
  have lenU : (sortMk (unlikeOf (takenOf (essF bs)))).length = (unlikeOf (takenOf (essF bs))).length := pm.length_eq
  have um : ∀ m ∈ sortMk (unlikeOf (takenOf (essF bs))), (m.2.1, m.2.2) ∈ bs ∧ m.2.1 ≤ m.1 ∧ m.1 < m.2.2 := fun m hm => by
    obtain ⟨h1, h2, h3, _⟩ := mem_leastAt.mp (es m (mem m hm))
    exact ⟨h1, h2, h3⟩
  have ub : (sortMk (unlikeOf (takenOf (essF bs)))).length ≤ (thinnedF bs (keptF bs)).length := unlike_le (fun m hm => by
    obtain ⟨h1, h2, h3⟩ := um m hm
    exact T.all _ h1 _ h2 h3) (un.imp fun h => h.1)
  have rl := rowsOf_len (takenOf (essF bs))
  refine ⟨T.all, T.pw, by have := T.len; omega, ?_, um, un.imp fun h => h.1, T.lo, T.hi, fun k hk => ?_⟩
  · have nd2 : (sortMk (unlikeOf (takenOf (essF bs)))).Nodup := pm.symm.nodup_iff.mp (unlikeOf_nodup nd)
    refine ((sortO_pw mkLt_tr mkLt_as (unlikeOf (takenOf (essF bs)))).and nd2).imp fun {a b} ⟨z1, z2⟩ => ?_
    by_cases z : mkLt a b
    · exact z
    · exact absurd (mkLt_an _ _ z z1) z2
  · obtain ⟨⟨s, hs, e1⟩, ⟨t, ht, e2⟩, h3⟩ := T.en k hk
    have back : ∀ s ∈ bs ++ keptF bs, ∀ z, z = s.1 ∨ z = s.2 → ∃ s ∈ bs, z = s.1 ∨ z = s.2 := fun s hs z e => by
      rcases List.mem_append.mp hs with hs | hs
      · exact ⟨s, hs, e⟩
      · obtain ⟨h1, h2, _⟩ := k3 s hs
        rcases e with e | e
        · rw [e]; exact h1
        · rw [e]; exact h2
    exact ⟨back s hs _ e1, back t ht _ e2, h3⟩
def dd : List Sp2 → List Sp2
  | [] => []
  | s :: l => if s ∈ dd l then dd l else s :: dd l
theorem mem_dd {x : Sp2} : ∀ {l : List Sp2}, x ∈ dd l ↔ x ∈ l
  | [] => Iff.rfl
  | s :: l => by
    unfold dd
    split
    · rename_i h
      rw [mem_dd, List.mem_cons]
      refine ⟨.inr, fun z => ?_⟩
      rcases z with rfl | z
      · exact mem_dd.mp h
      · exact z
    · rw [List.mem_cons, List.mem_cons, mem_dd]
theorem dd_nodup : ∀ l : List Sp2, (dd l).Nodup
  | [] => List.nodup_nil
  | s :: l => by
    unfold dd
    split
    · exact dd_nodup l
    · rename_i h
      exact List.nodup_cons.mpr ⟨h, dd_nodup l⟩
theorem dd_len : ∀ l : List Sp2, (dd l).length ≤ l.length
  | [] => Nat.le_refl _
  | s :: l => by
    have := dd_len l
    unfold dd
    split
    · rw [List.length_cons]
      omega
    · rw [List.length_cons, List.length_cons]
      omega
/-- the ends are few -/
def FewE (as : List Sp2) : Prop := ∃ N : List Int, N.length ≤ 122 ∧ ∀ s ∈ as, s.1 ∈ N ∧ s.2 ∈ N
end LW
namespace LW
open DL
/-- what serves is no fewer -/
theorem no_fewer {bs ks R : List Sp2} {U : List Mk} (P : PlanP bs R U) (h : allServed bs ks) : R.length ≤ ks.length := by
  rw [P.len]
  refine unlike_le (fun m hm => ?_) P.un
  obtain ⟨h1, h2, h3⟩ := P.um m hm
  exact h _ h1 _ h2 h3
end LW
namespace LW
open PySem L2 DL
def dstF (L : List Sp2) : List Sp2 := sortSp (dd L)
theorem dstF_ok (as : List Sp2) : Dst as (dstF as) := by
  have pm := sortO_perm (r := spLt) (dd as)
  refine ⟨?_, fun s => by rw [show s ∈ dstF as ↔ s ∈ dd as from pm.mem_iff, mem_dd], by rw [show (dstF as).length = (dd as).length from pm.length_eq]; exact dd_len as⟩
  refine ((sortO_pw spLt_tr spLt_as (dd as)).and (pm.symm.nodup_iff.mp (dd_nodup as))).imp fun {a b} ⟨z1, z2⟩ => ?_
  by_cases z : spLt a b
  · exact z
  · exact absurd (spLt_an _ _ z z1) z2
end LW
namespace LW
open PySem L2 DL
instance (as : List Sp2) : Decidable (goodL as) := by unfold goodL; infer_instance
theorem need_row {a : List Sp2} (h : ∀ s ∈ a, okS s) : PlanP (dstF a) (planF (dstF a)).1 (planF (dstF a)).2 := plan_ok (fun s hs => by have := h s (((dstF_ok a).2.1 s).mp hs); unfold okS at this; omega) (dstF_ok a).1
end LW
namespace LW
open PySem L2 DL
def hasC (c : Int) (s : Sp2) : Bool := decide (s.1 ≤ c ∧ c < s.2)
def kO (s : Sp2) : Int × Int := (s.2, -s.1)
theorem kO_inj {x y : Sp2} (h1 : pLt (kO x) (kO y) = false) (h2 : pLt (kO y) (kO x) = false) : x = y := by
  rw [pLt_no] at h1 h2
  unfold kO at h1 h2
  simp only at h1 h2
  exact Prod.ext (by omega) (by omega)
def farD (c : Int) (ks : List Sp2) : Option Sp2 := (ks.filter (hasC c)).find? fun s => (ks.filter (hasC c)).all fun y => !pLt (kO s) (kO y)
theorem far_of {c : Int} {ks : List Sp2} {x : Sp2} (hx : x ∈ ks.filter (hasC c)) (hm : ∀ y ∈ ks.filter (hasC c), pLt (kO x) (kO y) = false) : farD c ks = some x := by
  unfold farD
  cases e : (ks.filter (hasC c)).find? (fun s => (ks.filter (hasC c)).all fun y => !pLt (kO s) (kO y)) with
  | none =>
    have := List.find?_eq_none.mp e x hx
    exact absurd (List.all_eq_true.mpr fun y hy => by rw [hm y hy]; rfl) this
  | some z =>
    have h1 := List.find?_some e
    have h2 := List.mem_of_find?_eq_some e
    have h3 := List.all_eq_true.mp h1 x hx
    rw [kO_inj (by simpa using h3) (hm z h2)]
theorem top_ex : ∀ (l : List Sp2), l ≠ [] → ∃ x ∈ l, ∀ y ∈ l, pLt (kO x) (kO y) = false
  | [], h => absurd rfl h
  | [x], _ => ⟨x, by simp, fun y hy => by
    rw [List.mem_singleton.mp hy]
    exact pLt_self _⟩
  | x :: y :: l, _ => by
    obtain ⟨z, hz, hm⟩ := top_ex (y :: l) (by simp)
    cases h : pLt (kO z) (kO x) with
    | true => exact ⟨x, by simp, fun w hw => by
        rcases List.mem_cons.mp hw with rfl | hw
        · exact pLt_self _
        · exact pLt_up h (hm w hw)⟩
    | false => exact ⟨z, List.mem_cons_of_mem _ hz, fun w hw => by
        rcases List.mem_cons.mp hw with rfl | hw
        · exact h
        · exact hm w hw⟩
theorem far_no {c : Int} {ks : List Sp2} (h : farD c ks = none) : ks.filter (hasC c) = [] := by
  cases e : ks.filter (hasC c) with
  | nil => rfl
  | cons x l =>
    obtain ⟨z, hz, hm⟩ := top_ex (ks.filter (hasC c)) (by rw [e]; simp)
    rw [far_of hz hm] at h
    cases h
theorem far_some {c : Int} {ks : List Sp2} {s : Sp2} (h : farD c ks = some s) : s ∈ ks ∧ s.1 ≤ c ∧ c < s.2 ∧ ∀ y ∈ ks, y.1 ≤ c → c < y.2 → y.2 ≤ s.2 := by
  unfold farD at h
  have h1 := List.find?_some h
  have h2 := List.mem_filter.mp (List.mem_of_find?_eq_some h)
  have h3 := of_decide_eq_true h2.2
  refine ⟨h2.1, h3.1, h3.2, fun y hy y1 y2 => ?_⟩
  have h4 := List.all_eq_true.mp h1 y (List.mem_filter.mpr ⟨hy, decide_eq_true ⟨y1, y2⟩⟩)
  have h5 : pLt (kO s) (kO y) = false := by simpa using h4
  rw [pLt_no] at h5
  unfold kO at h5
  simp only at h5
  omega
/-- the going from the left -/
def goO (ks : List Sp2) (hi : Int) : Nat → Int → List Sp2 → List Int → Except Int (List Sp2 × List Int)
  | 0, _, f, cs => .ok (f, cs)
  | n + 1, c, f, cs => if c < hi then (match farD c ks with
    | some s => goO ks hi n s.2 (f ++ [s]) (cs ++ [c])
    | none => .error c) else .ok (f, cs)
def openO (a : Sp2) (ks : List Sp2) : Except Int (List Sp2 × List Int) := goO (ks.filter fun s => decide (within s a)) a.2 400 a.1 [] []
theorem goO_len {ks : List Sp2} {hi : Int} : ∀ (n : Nat) (c : Int) (f : List Sp2) (cs : List Int) (r : List Sp2 × List Int), goO ks hi n c f cs = .ok r → r.1.length ≤ f.length + n ∧ r.2.length ≤ cs.length + n
  | 0, c, f, cs, r, h => by
    cases h
    exact ⟨Nat.le_refl _, Nat.le_refl _⟩
  | n + 1, c, f, cs, r, h => by
    unfold goO at h
    by_cases hc : c < hi
    · rw [if_pos hc] at h
      cases e : farD c ks with
      | none =>
        rw [e] at h
        cases h
      | some s =>
        rw [e] at h
        have := goO_len n _ _ _ r h
        simp only [List.length_append, List.length_cons, List.length_nil] at this
        omega
    · rw [if_neg hc] at h
      cases h
      simp only
      omega
end LW
namespace LW
open PySem L2 DL
/-- whether m stretches make what lies from c to hi -/
def makeB (ks : List Sp2) (hi : Int) : Nat → Int → Bool
  | 0, c => decide (hi ≤ c)
  | n + 1, c => decide (hi ≤ c) || ks.any fun s => hasC c s && makeB ks hi n s.2
structure OpP (ks : List Sp2) (c hi : Int) (F : List Sp2) (C : List Int) : Prop where
  len : F.length = C.length
  mem : ∀ s ∈ F, s ∈ ks
  lies : ∀ x ∈ C, c ≤ x ∧ x < hi
  all : ∀ x, c ≤ x → x < hi → ∃ s ∈ F, s.1 ≤ x ∧ x < s.2
  pw : C.Pairwise fun x y => x < y ∧ ∀ s ∈ ks, s.1 ≤ x → x < s.2 → s.2 ≤ y
  few : ∀ (m : Nat) (c' : Int), c' ≤ c → makeB ks hi m c' = true → C.length ≤ m
theorem op_nil {ks : List Sp2} {c hi : Int} (h : ¬ c < hi) : OpP ks c hi [] [] :=
  ⟨rfl, (fun s hs => by cases hs), (fun x hx => by cases hx), fun x h1 h2 => by omega, .nil, fun m c' _ _ => Nat.zero_le _⟩
theorem op_cons {ks : List Sp2} {c hi : Int} {s : Sp2} {F : List Sp2} {C : List Int} (hc : c < hi) (hF : farD c ks = some s) (P : OpP ks s.2 hi F C) : OpP ks c hi (s :: F) (c :: C) := by
  obtain ⟨h1, h2, h3, h4⟩ := far_some hF
  refine ⟨by rw [List.length_cons, List.length_cons, P.len], fun t ht => ?_, fun x hx => ?_, fun x hx1 hx2 => ?_, List.pairwise_cons.mpr ⟨fun y hy => ?_, P.pw⟩, fun m c' hc' hm => ?_⟩
  · rcases List.mem_cons.mp ht with rfl | ht
    · exact h1
    · exact P.mem t ht
  · rcases List.mem_cons.mp hx with rfl | hx
    · exact ⟨Int.le_refl _, hc⟩
    · have := P.lies x hx
      exact ⟨by omega, this.2⟩
  · by_cases hx3 : x < s.2
    · exact ⟨s, List.mem_cons_self, by omega, hx3⟩
    · obtain ⟨t, ht, t1, t2⟩ := P.all x (by omega) hx2
      exact ⟨t, List.mem_cons_of_mem _ ht, t1, t2⟩
  · have := (P.lies y hy).1
    refine ⟨by omega, fun t ht t1 t2 => ?_⟩
    have := h4 t ht t1 t2
    omega
  · cases m with
    | zero =>
      have := of_decide_eq_true hm
      omega
    | succ m =>
      unfold makeB at hm
      rw [decide_eq_false (by omega), Bool.false_or, List.any_eq_true] at hm
      obtain ⟨t, ht, hm⟩ := hm
      rw [Bool.and_eq_true] at hm
      obtain ⟨t1, t2⟩ := of_decide_eq_true hm.1
      have hle : t.2 ≤ s.2 := by
        by_cases h5 : c < t.2
        · exact h4 t ht (by omega) h5
        · omega
      have := P.few m t.2 hle hm.2
      simp only [List.length_cons]
      omega
theorem goO_ok {ks : List Sp2} {hi : Int} : ∀ (n : Nat) (c : Int) (f : List Sp2) (cs : List Int) (r : List Sp2 × List Int), hi ≤ c + n → goO ks hi n c f cs = .ok r → ∃ F C, r.1 = f ++ F ∧ r.2 = cs ++ C ∧ OpP ks c hi F C
  | 0, c, f, cs, r, h, e => by
    cases e
    exact ⟨[], [], by simp, by simp, op_nil (by omega)⟩
  | n + 1, c, f, cs, r, h, e => by
    unfold goO at e
    by_cases hc : c < hi
    · rw [if_pos hc] at e
      cases hF : farD c ks with
      | none =>
        rw [hF] at e
        cases e
      | some s =>
        rw [hF] at e
        have := (far_some hF).2.2.1
        obtain ⟨F, C, e1, e2, P⟩ := goO_ok n _ _ _ r (by omega) e
        exact ⟨s :: F, c :: C, by rw [e1]; simp, by rw [e2]; simp, op_cons hc hF P⟩
    · rw [if_neg hc] at e
      cases e
      exact ⟨[], [], by simp, by simp, op_nil hc⟩
theorem goO_err {ks : List Sp2} {hi : Int} : ∀ (n : Nat) (c : Int) (f : List Sp2) (cs : List Int) (x : Int), goO ks hi n c f cs = .error x → c ≤ x ∧ x < hi ∧ farD x ks = none
  | 0, c, f, cs, x, e => by cases e
  | n + 1, c, f, cs, x, e => by
    unfold goO at e
    by_cases hc : c < hi
    · rw [if_pos hc] at e
      cases hF : farD c ks with
      | none =>
        rw [hF] at e
        cases e
        exact ⟨Int.le_refl _, hc, hF⟩
      | some s =>
        rw [hF] at e
        have := (far_some hF).2.2.1
        obtain ⟨h1, h2⟩ := goO_err n _ _ _ x e
        exact ⟨by omega, h2⟩
    · rw [if_neg hc] at e
      cases e
/-- where the kept stretches serve an ask, it is opened -/
theorem open_ok {a : Sp2} {ks : List Sp2} (oa : okS a) (h : ∀ c, a.1 ≤ c → c < a.2 → servedBy ks (c, a.1, a.2) = true) : ∃ F C, openO a ks = .ok (F, C) ∧ OpP (ks.filter fun s => decide (within s a)) a.1 a.2 F C := by
  unfold okS at oa
  cases e : openO a ks with
  | error x =>
    obtain ⟨h1, h2, h3⟩ := goO_err _ _ _ _ _ e
    have h4 := far_no h3
    obtain ⟨k, hk, hs⟩ := servedBy_iff.mp (h x h1 h2)
    exfalso
    have : k ∈ (ks.filter fun s => decide (within s a)).filter (hasC x) := by
      refine List.mem_filter.mpr ⟨List.mem_filter.mpr ⟨hk, ?_⟩, ?_⟩
      · unfold servs at hs
        unfold within
        simp only at hs ⊢
        exact decide_eq_true (by omega)
      · unfold servs at hs
        unfold hasC
        simp only at hs ⊢
        exact decide_eq_true (by omega)
    rw [h4] at this
    cases this
  | ok r =>
    obtain ⟨F, C, e1, e2, P⟩ := goO_ok _ _ _ _ _ (by omega) e
    obtain ⟨r1, r2⟩ := r
    simp only [List.nil_append] at e1 e2
    subst e1
    subst e2
    exact ⟨_, _, rfl, P⟩
end LW
namespace LW
open PySem L2 DL
theorem riseI {L bs : List Int} {i : Nat} {x : Int} (hx : L[i]? = some x) (pw : L.Pairwise (· ≤ ·)) (hm : ∀ y, y ∈ bs ↔ y ∈ L.take i) (hp : bs.Pairwise (· < ·)) (hn : bs.getLast? ≠ some x) (hl : bs.getLast? = (L.take i).getLast?) : (bs ++ [x]).Pairwise (· < ·) := by
  obtain ⟨hi, ex⟩ := List.getElem?_eq_some_iff.mp hx
  refine List.pairwise_append.mpr ⟨hp, List.pairwise_singleton _ _, fun y hy z hz => ?_⟩
  obtain rfl : z = x := by simpa using hz
  have le : ∀ w ∈ bs, w ≤ z := fun w hw => by
    obtain ⟨j, hj, ej⟩ := List.getElem_of_mem ((hm w).mp hw)
    rw [List.length_take] at hj
    have ej' : L[j] = w := by rw [← ej, List.getElem_take]
    have := List.pairwise_iff_getElem.mp pw j i (by omega) hi (by omega)
    omega
  have hne : bs ≠ [] := by intro q; subst q; cases hy
  have hlast := List.getLast?_eq_some_getLast hne
  have h1 := le y hy
  have h2 := le _ (List.getLast_mem hne)
  have h3 : bs.getLast hne ≠ z := fun q => hn (by rw [hlast, q])
  have h4 : y ≤ bs.getLast hne := by
    obtain ⟨j, hj, ej⟩ := List.getElem_of_mem hy
    rw [List.getLast_eq_getElem]
    by_cases e : j = bs.length - 1
    · subst e
      rw [← ej]
      exact Int.le_refl _
    · have := List.pairwise_iff_getElem.mp hp j (bs.length - 1) hj (by omega) (by omega)
      rw [← ej]
      omega
  omega
end LW
namespace LW
open PySem L2 DL
abbrev Tb := List (List Int)
def opJ (t : Tb) (a b : Int) : Int := (t.getD a.toNat []).getD b.toNat 0
def inJ (n : Nat) (a : Int) : Prop := 0 ≤ a ∧ a < (n : Int)
instance (n : Nat) (a : Int) : Decidable (inJ n a) := by unfold inJ; infer_instance
def isTab (t : Tb) : Prop := (1 ≤ t.length ∧ t.length ≤ 16) ∧ (∀ r ∈ t, r.length = t.length) ∧ ∀ r ∈ t, ∀ w ∈ r, inJ t.length w
instance (t : Tb) : Decidable (isTab t) := by unfold isTab; infer_instance
structure JoinP (t : Tb) : Prop where
  tab : isTab t
  id : ∀ a, inJ t.length a → opJ t a a = a
  cm : ∀ a b, inJ t.length a → inJ t.length b → opJ t a b = opJ t b a
  as : ∀ a b c, inJ t.length a → inJ t.length b → inJ t.length c → opJ t (opJ t a b) c = opJ t a (opJ t b c)
theorem row_at {t : Tb} {a : Int} (h : inJ t.length a) : ∃ r, t[a.toNat]? = some r ∧ t.getD a.toNat [] = r ∧ r ∈ t := by
  have hl : a.toNat < t.length := by unfold inJ at h; omega
  refine ⟨t[a.toNat], List.getElem?_eq_getElem hl, ?_, List.getElem_mem hl⟩
  rw [List.getD_eq_getElem?_getD, List.getElem?_eq_getElem hl]
  rfl
theorem cell_at {t : Tb} (T : isTab t) {a b : Int} (ha : inJ t.length a) (hb : inJ t.length b) : ∃ r, t[a.toNat]? = some r ∧ r[b.toNat]? = some (opJ t a b) ∧ inJ t.length (opJ t a b) := by
  obtain ⟨r, h1, h2, h3⟩ := row_at ha
  have hl : b.toNat < r.length := by rw [T.2.1 r h3]; unfold inJ at hb; omega
  have e : opJ t a b = r[b.toNat] := by
    unfold opJ
    rw [h2, List.getD_eq_getElem?_getD, List.getElem?_eq_getElem hl]
    rfl
  refine ⟨r, h1, by rw [e]; exact List.getElem?_eq_getElem hl, ?_⟩
  rw [e]
  exact T.2.2 r h3 _ (List.getElem_mem hl)
theorem JoinP.cl {t : Tb} (J : JoinP t) {a b : Int} (ha : inJ t.length a) (hb : inJ t.length b) : inJ t.length (opJ t a b) := by
  obtain ⟨_, _, _, h⟩ := cell_at J.tab ha hb
  exact h
section
variable {β : Type} {f : Nat → Option β} {n i : Nat} {x : β}
theorem fs_some (hi : i < n) (h : ∀ j, j < i → f j = none) (hx : f i = some x) : (List.range n).findSome? f = some x := by
  have e : List.range n = List.range i ++ i :: (List.range (n - i - 1)).map (· + (i + 1)) := by
    apply List.ext_getElem
    · simp; omega
    · intro k h1 h2
      simp only [List.getElem_range]
      by_cases hk : k < i
      · rw [List.getElem_append_left (by simpa using hk)]; simp
      · rw [List.getElem_append_right (by simpa using hk)]
        simp only [List.length_range]
        obtain ⟨m, rfl⟩ : ∃ m, k = i + m := ⟨k - i, by omega⟩
        cases m with
        | zero => simp
        | succ m => simp [show i + (m + 1) - i = m + 1 by omega]; omega
  rw [e, List.findSome?_append, List.findSome?_eq_none_iff.mpr fun j hj => h j (List.mem_range.mp hj)]
  simp [hx]
theorem fs_none (h : ∀ j, j < n → f j = none) : (List.range n).findSome? f = none := List.findSome?_eq_none_iff.mpr fun j hj => h j (List.mem_range.mp hj)
end
def twF (t : Tb) (a : Nat) : Option D := if opJ t a a = a then none else some (.tup [.str "twice", .int a])
def abF (t : Tb) (a k : Nat) : Option D := if opJ t a (a + 1 + k : Nat) = opJ t (a + 1 + k : Nat) a then none else some (.tup [.str "about", .int a, .int (a + 1 + k : Nat)])
def brF (t : Tb) (a b c : Nat) : Option D := if opJ t (opJ t a b) c = opJ t a (opJ t b c) then none else some (.tup [.str "brackets", .int a, .int b, .int c])
def brk1 (t : Tb) : Option D := (List.range t.length).findSome? (twF t)
def brk2r (t : Tb) (a : Nat) : Option D := (List.range (t.length - (a + 1))).findSome? (abF t a)
def brk2 (t : Tb) : Option D := (List.range t.length).findSome? (brk2r t)
def brk3q (t : Tb) (a b : Nat) : Option D := (List.range t.length).findSome? (brF t a b)
def brk3r (t : Tb) (a : Nat) : Option D := (List.range t.length).findSome? (brk3q t a)
def brk3 (t : Tb) : Option D := (List.range t.length).findSome? (brk3r t)
def brkO (t : Tb) : Option D := match brk1 t with
  | some d => some d
  | none => match brk2 t with
    | some d => some d
    | none => brk3 t
theorem nat_in {n i : Nat} (h : i < n) : inJ n (i : Int) := ⟨Int.natCast_nonneg _, Int.ofNat_lt.mpr h⟩
def tabOf (names : List Int) (f : Int → Int → Int) : Tb := names.map fun x => names.map fun y => ((names.idxOf (f x y) : Nat) : Int)
theorem idx_at {names : List Int} (nd : names.Nodup) {i : Nat} (h : i < names.length) : names.idxOf names[i] = i := nd.idxOf_getElem i h
theorem at_idx {names : List Int} {v : Int} (h : v ∈ names) : names.getD (names.idxOf v) 0 = v := by
  have hl := List.idxOf_lt_length_of_mem h
  rw [List.getD_eq_getElem?_getD, List.getElem?_eq_getElem hl]
  exact List.getElem_idxOf hl
theorem tabOf_ok {names : List Int} {f : Int → Int → Int} (nd : names.Nodup) (h1 : 1 ≤ names.length) (h2 : names.length ≤ 16) (cl : ∀ x ∈ names, ∀ y ∈ names, f x y ∈ names) (id : ∀ x ∈ names, f x x = x)
    (cm : ∀ x ∈ names, ∀ y ∈ names, f x y = f y x) (as : ∀ x ∈ names, ∀ y ∈ names, ∀ z ∈ names, f (f x y) z = f x (f y z)) : JoinP (tabOf names f) := by
  have hlen : (tabOf names f).length = names.length := by simp [tabOf]
  let g : Int → Int := fun a => names.getD a.toNat 0
  have gm : ∀ a, inJ names.length a → g a ∈ names ∧ ((names.idxOf (g a) : Nat) : Int) = a := fun a ha => by
    have hl : a.toNat < names.length := by unfold inJ at ha; omega
    have e : g a = names[a.toNat] := by
      show names.getD _ _ = _
      rw [List.getD_eq_getElem?_getD, List.getElem?_eq_getElem hl]
      rfl
    rw [e]
    refine ⟨List.getElem_mem hl, ?_⟩
    rw [idx_at nd hl]
    unfold inJ at ha
    omega
  have gi : ∀ v, v ∈ names → g ((names.idxOf v : Nat) : Int) = v ∧ inJ names.length ((names.idxOf v : Nat) : Int) := fun v hv => ⟨by show names.getD _ _ = _; rw [Int.toNat_natCast]; exact at_idx hv, nat_in (List.idxOf_lt_length_of_mem hv)⟩
  have op : ∀ a b, inJ names.length a → inJ names.length b → opJ (tabOf names f) a b = ((names.idxOf (f (g a) (g b)) : Nat) : Int) := fun a b ha hb => by
    have hla : a.toNat < names.length := by unfold inJ at ha; omega
    have hlb : b.toNat < names.length := by unfold inJ at hb; omega
    unfold opJ tabOf
    simp only [List.getD_eq_getElem?_getD, List.getElem?_map, List.getElem?_eq_getElem hla, Option.map_some, Option.getD_some, List.getElem?_eq_getElem hlb]
    show _ = ((names.idxOf (f (names.getD _ _) (names.getD _ _)) : Nat) : Int)
    simp only [List.getD_eq_getElem?_getD, List.getElem?_eq_getElem hla, List.getElem?_eq_getElem hlb, Option.getD_some]
  refine ⟨⟨by rw [hlen]; exact ⟨h1, h2⟩, fun r hr => ?_, fun r hr w hw => ?_⟩, fun a ha => ?_, fun a b ha hb => ?_, fun a b c ha hb hc => ?_⟩
  · obtain ⟨x, _, rfl⟩ := List.mem_map.mp hr
    simp [tabOf]
  · obtain ⟨x, hx, rfl⟩ := List.mem_map.mp hr
    obtain ⟨y, hy, rfl⟩ := List.mem_map.mp hw
    rw [hlen]
    exact (gi _ (cl x hx y hy)).2
  · rw [hlen] at ha
    rw [op a a ha ha, id _ (gm a ha).1, (gm a ha).2]
  · rw [hlen] at ha hb
    rw [op a b ha hb, op b a hb ha, cm _ (gm a ha).1 _ (gm b hb).1]
  · rw [hlen] at ha hb hc
    have ga := (gm a ha).1
    have gb := (gm b hb).1
    have gc := (gm c hc).1
    obtain ⟨e1, e2⟩ := gi _ (cl _ ga _ gb)
    obtain ⟨e3, e4⟩ := gi _ (cl _ gb _ gc)
    rw [op a b ha hb, op b c hb hc, op _ c e2 hc, op a _ ha e4, e1, e3, as _ ga _ gb _ gc]
theorem bor_nn {x y : Int} (hx : 0 ≤ x) (hy : 0 ≤ y) : 0 ≤ Builtin.bitOr x y := Bits.bitOr_nonneg hx hy
theorem bor_cm {x y : Int} (hx : 0 ≤ x) (hy : 0 ≤ y) : Builtin.bitOr x y = Builtin.bitOr y x := by rw [Bits.bitOr_pp hx hy, Bits.bitOr_pp hy hx, Nat.or_comm]
theorem bor_id {x : Int} (hx : 0 ≤ x) : Builtin.bitOr x x = x := by
  rw [Bits.bitOr_pp hx hx, Nat.or_self]
  omega
theorem bor_as {x y z : Int} (hx : 0 ≤ x) (hy : 0 ≤ y) (hz : 0 ≤ z) : Builtin.bitOr (Builtin.bitOr x y) z = Builtin.bitOr x (Builtin.bitOr y z) := by
  rw [Bits.bitOr_pp (bor_nn hx hy) hz, Bits.bitOr_pp hx (bor_nn hy hz), Bits.bitOr_pp hx hy, Bits.bitOr_pp hy hz, Int.toNat_natCast, Int.toNat_natCast, Nat.or_assoc]
theorem bor_lt {x y : Int} {k : Nat} (hx : 0 ≤ x) (hy : 0 ≤ y) (hx2 : x < 2 ^ k) (hy2 : y < 2 ^ k) : Builtin.bitOr x y < 2 ^ k := by
  rw [Bits.bitOr_pp hx hy]
  have e : ((2 ^ k : Nat) : Int) = 2 ^ k := by simp
  have := Nat.or_lt_two_pow (n := k) (x := x.toNat) (y := y.toNat) (by omega) (by omega)
  omega
def Closed (k : Nat) (F : List Int) : Prop := (∀ x ∈ F, 0 ≤ x ∧ x < 2 ^ k) ∧ ∀ x ∈ F, ∀ y ∈ F, Builtin.bitOr x y ∈ F
theorem closed_step {k : Nat} {F : List Int} {x : Int} (h : Closed k F) (hx : 0 ≤ x) (hx2 : x < 2 ^ k) : Closed k (F ++ [x] ++ F.map fun y => Builtin.bitOr x y) := by
  obtain ⟨h1, h2⟩ := h
  have mem : ∀ z, z ∈ F ++ [x] ++ F.map (fun y => Builtin.bitOr x y) ↔ z ∈ F ∨ z = x ∨ ∃ y ∈ F, Builtin.bitOr x y = z := fun z => by simp [or_assoc]
  refine ⟨fun z hz => ?_, fun a ha b hb => ?_⟩
  · rcases (mem z).mp hz with hz | rfl | ⟨y, hy, rfl⟩
    · exact h1 z hz
    · exact ⟨hx, hx2⟩
    · exact ⟨bor_nn hx (h1 y hy).1, bor_lt hx (h1 y hy).1 hx2 (h1 y hy).2⟩
  · rw [mem]
    have n : ∀ y ∈ F, 0 ≤ y := fun y hy => (h1 y hy).1
    replace ha := (mem a).mp ha
    replace hb := (mem b).mp hb
    rcases ha with ha | rfl | ⟨y, hy, rfl⟩ <;> rcases hb with hb | rfl | ⟨z, hz, rfl⟩
    · exact .inl (h2 a ha b hb)
    · exact .inr (.inr ⟨a, ha, bor_cm hx (n a ha)⟩)
    · exact .inr (.inr ⟨Builtin.bitOr a z, h2 a ha z hz, by rw [← bor_as hx (n a ha) (n z hz), bor_cm hx (n a ha), bor_as (n a ha) hx (n z hz)]⟩)
    · exact .inr (.inr ⟨b, hb, rfl⟩)
    · exact .inr (.inl (bor_id hx))
    · exact .inr (.inr ⟨z, hz, by rw [← bor_as hx hx (n z hz), bor_id hx]⟩)
    · exact .inr (.inr ⟨Builtin.bitOr y b, h2 y hy b hb, (bor_as hx (n y hy) (n b hb)).symm⟩)
    · exact .inr (.inr ⟨y, hy, by rw [bor_cm (bor_nn hx (n y hy)) hx, ← bor_as hx hx (n y hy), bor_id hx]⟩)
    · refine .inr (.inr ⟨Builtin.bitOr y z, h2 y hy z hz, ?_⟩)
      rw [bor_as hx (n y hy) (bor_nn hx (n z hz)), ← bor_as (n y hy) hx (n z hz), bor_cm (n y hy) hx, bor_as hx (n y hy) (n z hz), ← bor_as hx hx (bor_nn (n y hy) (n z hz)), bor_id hx]
theorem closed_one {k : Nat} {x : Int} (hx : 0 ≤ x) (hx2 : x < 2 ^ k) : Closed k [x] := by
  refine ⟨fun z hz => ?_, fun a ha b hb => ?_⟩
  · simp at hz
    subst hz
    exact ⟨hx, hx2⟩
  · simp at ha hb
    subst ha
    subst hb
    simp [bor_id hx]
def foldJ (t : Tb) : List Int → Int
  | [] => 0
  | w :: ws => ws.foldl (opJ t) w
/-- F is what the worths make together -/
def IsJ (t : Tb) (ws : List Int) (F : Int) : Prop := inJ t.length F ∧ (∀ w ∈ ws, opJ t w F = F) ∧ ∀ z, inJ t.length z → (∀ w ∈ ws, opJ t w z = z) → opJ t F z = z
theorem IsJ.uniq {t : Tb} (J : JoinP t) {ws vs : List Int} {F G : Int} (h : IsJ t ws F) (g : IsJ t vs G) (e : ∀ w, w ∈ ws ↔ w ∈ vs) : F = G := by
  have h1 := h.2.2 G g.1 fun w hw => g.2.1 w ((e w).mp hw)
  have h2 := g.2.2 F h.1 fun w hw => h.2.1 w ((e w).mpr hw)
  rw [J.cm F G h.1 g.1, h2] at h1
  exact h1
theorem atJi {α : Type} {f : α → D} {xs : List α} {a : Int} {x : α} (h0 : 0 ≤ a) (h : xs[a.toNat]? = some x) : atI (xs.map f) a = some (f x) := by
  have e : a = ((a.toNat : Nat) : Int) := by omega
  rw [e]
  exact atMn h
/-- the fields of a join -/
def joinF (t : Tb) : List (Str × D) := [("pairs", .tup (t.map tupI))]
theorem injTupI : ∀ a b : List Int, tupI a = tupI b → a = b := fun a b h => by
  unfold tupI at h
  have h := D.tup.inj h
  exact List.map_inj_right (fun _ _ e => injI _ _ e) |>.mp h
theorem idx_int {names : List Int} {v : Int} {M : Mp} {Q : DQ} (hv : v ∈ names) (q : Q (.int (names.idxOf v : Nat)) M) : ∃ (xs : List D) (j : Nat) (z : D), res M (.lst (names.map D.int)) = .lst xs ∧ shD (.lst xs) = true ∧ shD (res M (.int v)) = true ∧ xs[j]? = some z ∧ deq z (res M (.int v)) = true ∧
    (∀ (m : Nat) (z' : D), m < j → xs[m]? = some z' → deq z' (res M (.int v)) = false) ∧ Q (.int (j : Nat)) M := by
  have hl := List.idxOf_lt_length_of_mem hv
  refine ⟨names.map D.int, names.idxOf v, .int v, rfl, sh_of (lay_mapL (lay_int 0) names) (by decide), sh_of (lay_int 0 v) (by decide), ?_, ?_, fun m z' hm hz => ?_, q⟩
  · rw [List.getElem?_map, List.getElem?_eq_getElem hl, Option.map_some, List.getElem_idxOf hl]
  · show deq (.int v) (.int v) = true
    rw [deq_int]
    exact decide_eq_true rfl
  · rw [List.getElem?_map, List.getElem?_eq_getElem (by omega), Option.map_some] at hz
    cases hz
    show deq (.int _) (.int v) = false
    rw [deq_int]
    exact decide_eq_false (by simpa using List.not_of_lt_findIdx hm)
theorem idx_int2 {names : List Int} {v : Int} {M : Mp} (hv : v ∈ names) : ∃ xs : List D, res M (.lst (names.map D.int)) = .lst xs ∧ shD (.lst xs) = true ∧ ∃ (j : Nat) (z : D), xs[j]? = some z ∧ deq z (.int v) = true ∧ (∀ (m : Nat) (z' : D), m < j → xs[m]? = some z' → deq z' (.int v) = false) ∧ (j : Int) = ((names.idxOf v : Nat) : Int) := by
  obtain ⟨xs, j, z, h1, h2, _, h4, h5, h6, e⟩ := idx_int (Q := fun d _ => d = .int (names.idxOf v : Nat)) (M := M) hv rfl
  exact ⟨xs, h1, h2, j, z, h4, h5, h6, D.int.inj e⟩
theorem Closed.names {k : Nat} {ys names : List Int} (hk : k ≤ 4) (hne : ys ≠ []) (pw : ys.Pairwise (· < ·)) (c : Closed k ys) (pm : names.Perm ys) : JoinP (tabOf names Builtin.bitOr) := by
  have nd : ys.Nodup := pw.imp fun h e => by omega
  have mem : ∀ x, x ∈ names ↔ x ∈ ys := fun x => pm.mem_iff
  have hp : (2 : Int) ^ k ≤ 16 := by
    have : k = 0 ∨ k = 1 ∨ k = 2 ∨ k = 3 ∨ k = 4 := by omega
    rcases this with rfl | rfl | rfl | rfl | rfl <;> decide
  have hl : ys.length ≤ 16 := by
    have h1 := nodup_sub (a := ys) (b := (List.range 16).map fun i : Nat => (i : Int)) nd fun x hx => by
      have := c.1 x hx
      exact List.mem_map.mpr ⟨x.toNat, List.mem_range.mpr (by omega), by omega⟩
    simpa using h1
  have nn : ∀ x ∈ names, 0 ≤ x := fun x hx => (c.1 x ((mem x).mp hx)).1
  refine tabOf_ok (pm.nodup_iff.mpr nd) (by rw [pm.length_eq]; exact List.length_pos_iff.mpr hne) (by rw [pm.length_eq]; exact hl) (fun x hx y hy => (mem _).mpr (c.2 x ((mem x).mp hx) y ((mem y).mp hy))) (fun x hx => bor_id (nn x hx)) (fun x hx y hy => bor_cm (nn x hx) (nn y hy)) fun x hx y hy z hz => bor_as (nn x hx) (nn y hy) (nn z hz)
def maxF (x y : Int) : Int := if y > x then y else x
theorem max_names {n : Nat} {names : List Int} (h1 : 1 ≤ n) (h2 : n ≤ 16) (pm : names.Perm ((List.range n).map fun i : Nat => (i : Int))) : JoinP (tabOf names maxF) := by
  have nd : ((List.range n).map fun i : Nat => (i : Int)).Nodup := List.Pairwise.map _ (fun a b h e => h (by omega)) List.nodup_range
  have hl : names.length = n := by rw [pm.length_eq]; simp
  have cl : ∀ x ∈ names, ∀ y ∈ names, maxF x y ∈ names := fun x hx y hy => by
    unfold maxF
    split <;> assumption
  have e : ∀ x y : Int, maxF x y = max x y := fun x y => by unfold maxF; omega
  exact tabOf_ok (pm.nodup_iff.mpr nd) (by omega) (by omega) cl (fun x _ => by rw [e]; omega) (fun x _ y _ => by rw [e, e]; omega) fun x _ y _ z _ => by rw [e, e, e, e]; omega
end LW
namespace LW
open PySem L2 DL
def strLt (a b : Str) : Prop := a.cps.toList < b.cps.toList
instance (a b : Str) : Decidable (strLt a b) := by unfold strLt; infer_instance
theorem str_ext {a b : Str} (h : a.cps.toList = b.cps.toList) : a = b := by
  cases a with
  | mk x => cases b with
    | mk y =>
      have : x = y := Array.toList_inj.mp h
      rw [this]
theorem strLt_an (a b : Str) (h : ¬ strLt a b) (g : ¬ strLt b a) : a = b := by
  unfold strLt at h g
  exact str_ext (List.le_antisymm (List.not_lt.mp g) (List.not_lt.mp h))
theorem strLt_tr (a b c : Str) (h : ¬ strLt b a) (g : ¬ strLt c b) : ¬ strLt c a := by
  unfold strLt at h g ⊢
  exact List.not_lt.mpr (List.le_trans (List.not_lt.mp h) (List.not_lt.mp g))
theorem strLt_as (a b : Str) (h : strLt a b) : ¬ strLt b a := by
  unfold strLt at h ⊢
  exact List.lt_asymm h
def sortN (l : List Str) : List Str := sortO strLt l
theorem sortN_congr {a b : List Str} (h : a.Perm b) : sortN a = sortN b := sorted_uniq (r := strLt) strLt_an ((sortO_perm a).trans (h.trans (sortO_perm b).symm)) (sortO_pw strLt_tr strLt_as a) (sortO_pw strLt_tr strLt_as b)
section
variable {κ β γ : Type} [DecidableEq κ] [DecidableEq γ]
theorem putG_map {l : List (κ × β)} {f : κ → γ} {g : β → D} (hf : ∀ a b, f a = f b → a = b) (k : κ) (v : β) : putG (l.map fun a => (f a.1, g a.2)) (f k) (g v) = (putG l k v).map fun a => (f a.1, g a.2) := by
  unfold putG
  rw [List.any_map]
  have e : ((fun kv : γ × D => decide (kv.1 = f k)) ∘ fun a : κ × β => (f a.1, g a.2)) = fun kv => decide (kv.1 = k) := by
    funext a
    show decide (f a.1 = f k) = decide (a.1 = k)
    by_cases h : a.1 = k
    · rw [h]; simp
    · rw [decide_eq_false h, decide_eq_false fun z => h (hf _ _ z)]
  rw [e]
  split
  · rw [List.map_map, List.map_map]
    refine List.map_congr_left fun a _ => ?_
    show (if f a.1 = f k then (f a.1, g v) else (f a.1, g a.2)) = _
    by_cases h : a.1 = k
    · simp [h]
    · have h2 : ¬ f a.1 = f k := fun z => h (hf _ _ z)
      simp [h, h2]
  · rw [List.map_append]
    rfl
theorem putG_keys {l : List (κ × β)} {k : κ} {v : β} : (putG l k v).map (·.1) = if k ∈ l.map (·.1) then l.map (·.1) else l.map (·.1) ++ [k] := by
  unfold putG
  by_cases h : k ∈ l.map (·.1)
  · have : (l.any fun kv => decide (kv.1 = k)) = true := by
      obtain ⟨a, ha, e⟩ := List.mem_map.mp h
      exact List.any_eq_true.mpr ⟨a, ha, decide_eq_true e⟩
    rw [if_pos this, if_pos h, List.map_map]
    refine List.map_congr_left fun a _ => ?_
    show (if a.1 = k then (a.1, v) else a).1 = a.1
    split <;> rfl
  · have : ¬ (l.any fun kv => decide (kv.1 = k)) = true := fun z => by
      obtain ⟨a, ha, e⟩ := List.any_eq_true.mp z
      exact h (List.mem_map.mpr ⟨a, ha, of_decide_eq_true e⟩)
    rw [if_neg this, if_neg h, List.map_append]
    rfl
theorem valG_mem {l : List (κ × β)} {k : κ} {v : β} (h : valG l k = some v) : (k, v) ∈ l := by
  unfold valG at h
  obtain ⟨a, ha, e⟩ := Option.map_eq_some_iff.mp h
  have h1 := List.mem_of_find?_eq_some ha
  have h2 := List.find?_some ha
  have h3 : a.1 = k := of_decide_eq_true h2
  rw [← h3, ← e]
  exact h1
theorem valG_none {l : List (κ × β)} {k : κ} : valG l k = none ↔ k ∉ l.map (·.1) := by
  unfold valG
  rw [Option.map_eq_none_iff, List.find?_eq_none]
  exact ⟨fun h z => by
    obtain ⟨a, ha, e⟩ := List.mem_map.mp z
    exact h a ha (decide_eq_true e), fun h a ha z => h (List.mem_map.mpr ⟨a, ha, of_decide_eq_true z⟩)⟩
end
abbrev Asks := List (Str × Sp2)
def asksK (as : Asks) : List (Key × D) := as.map fun a => ((Sum.inr a.1 : Key), spD a.2)
theorem inr_inj : ∀ a b : Str, (Sum.inr a : Key) = Sum.inr b → a = b := fun a b h => Sum.inr.inj h
theorem asks_put (as : Asks) (n : Str) (s : Sp2) : putG (asksK as) (Sum.inr n) (spD s) = asksK (putG as n s) := putG_map (f := fun s : Str => (Sum.inr s : Key)) inr_inj n s
def FIRSTS : Str := "abcdefghijklmnopqrstuvwxyz"
def SIGNS : Str := "abcdefghijklmnopqrstuvwxyz0123456789"
def isName (s : Str) : Bool := match s.cps.toList with
  | [] => false
  | c :: r => decide ((c :: r).length ≤ 10) && decide (c ∈ FIRSTS.cps.toList) && (c :: r).all fun x => decide (x ∈ SIGNS.cps.toList)
structure Dr where
  cells : List (Int × Int)
  asks : Asks
inductive Rf | name | taken (n : Str) | full | stretch | ask (n : Str) | cell (at_ : Int) | worth | long
inductive Deed
  | ask (n : Str) (s : Int) (e : Option Int)
  | drop (n : Str)
  | move (n : Str) (s : Int) (e : Option Int)
  | write (at_ : Int) (w : Int)
  | pin (at_ : Int) (ws : List Int)
  | out (s : Int) (e : Option Int)
def lookF (n : Nat) (s : Int) (e : Option Int) : Option Sp2 := if 0 ≤ s ∧ s < e.getD n ∧ e.getD n ≤ n then some (s, e.getD n) else none
def spanW (a m : Int) (s : Sp2) : Sp2 := (if a ≤ s.1 then s.1 + m else s.1, if a < s.2 then s.2 + m else s.2)
def spanN (lo hi : Int) (s : Sp2) : Sp2 := (if s.1 ≤ lo then s.1 else max lo (s.1 - (hi - lo)), if s.2 ≤ lo then s.2 else max lo (s.2 - (hi - lo)))
def goneF (lo hi : Int) (a : Str × Sp2) : Bool := decide ((spanN lo hi a.2).1 = (spanN lo hi a.2).2)
def newCells (sign : Int) (ws : List Int) : List (Int × Int) := ws.zipIdx.map fun p => (sign + (p.2 : Nat), p.1)
def cutL {α : Type} (xs : List α) (lo hi : Int) : List α := xs.take lo.toNat ++ xs.drop hi.toNat
def askS (room : Int) (d : Dr) (n : Str) (s : Int) (e : Option Int) : Except Rf (Dr × D) := if isName n = false then .error .name else if (valG d.asks n).isSome = true then .error (.taken n) else if room ≤ (d.asks.length : Int) then .error .full else match lookF d.cells.length s e with
    | none => .error .stretch
    | some r => .ok ({ d with asks := putG d.asks n r }, .non)
def dropS (d : Dr) (n : Str) : Except Rf (Dr × D) := match valG d.asks n with
    | none => .error (.ask n)
    | some r => .ok ({ d with asks := dropG d.asks n }, spD r)
def moveS (d : Dr) (n : Str) (s : Int) (e : Option Int) : Except Rf (Dr × D) := match valG d.asks n with
    | none => .error (.ask n)
    | some r => match lookF d.cells.length s e with
      | none => .error .stretch
      | some q => .ok ({ d with asks := putG d.asks n q }, spD r)
def writeS (m : Nat) (d : Dr) (sign : Int) (a w : Int) : Except Rf (Dr × D) := if ¬ (0 ≤ a ∧ a < (d.cells.length : Int)) then .error (.cell a) else if ¬ inJ m w then .error .worth else .ok ({ d with cells := d.cells.set a.toNat (sign, w) }, .int (d.cells.getD a.toNat (0, 0)).2)
def pinS (m : Nat) (d : Dr) (sign : Int) (a : Int) (ws : List Int) : Except Rf (Dr × D) := if ¬ (0 ≤ a ∧ a ≤ (d.cells.length : Int)) then .error (.cell a) else if ¬ (∀ w ∈ ws, inJ m w) then .error .worth else if 400 < d.cells.length + ws.length then .error .long else
    .ok ({ cells := d.cells.take a.toNat ++ newCells sign ws ++ d.cells.drop a.toNat, asks := d.asks.map fun x => (x.1, spanW a ws.length x.2) }, .non)
def outS (d : Dr) (s : Int) (e : Option Int) : Except Rf (Dr × D) := match lookF d.cells.length s e with
    | none => .error .stretch
    | some r => .ok ({ cells := cutL d.cells r.1 r.2, asks := (d.asks.filter fun x => !goneF r.1 r.2 x).map fun x => (x.1, spanN r.1 r.2 x.2) }, .lst ((sortN ((d.asks.filter (goneF r.1 r.2)).map (·.1))).map D.str))
/-- a deed on a draft; m worths, the larder's room, new cells signed from sign on: what it tells, or its refusal -/
def stepF (m : Nat) (room : Int) (d : Dr) (sign : Int) : Deed → Except Rf (Dr × D)
  | .ask n s e => askS room d n s e
  | .drop n => dropS d n
  | .move n s e => moveS d n s e
  | .write a w => writeS m d sign a w
  | .pin a ws => pinS m d sign a ws
  | .out s e => outS d s e
def doneF (m : Nat) (room : Int) : Dr → List Deed → Int → Except Rf (Dr × List D)
  | d, [], _ => .ok (d, [])
  | d, x :: xs, sign => match stepF m room d sign x with
    | .error r => .error r
    | .ok (d1, o) => match doneF m room d1 xs (sign + 400) with
      | .error r => .error r
      | .ok (d2, os) => .ok (d2, o :: os)
structure StM where
  cells : List (Int × Int)
  asks : Asks
  kept : List Sp2
  marks : List Mk
  joins : List (List Int × Int)
def rangeF {α : Type} (xs : List α) (s : Sp2) : List α := (xs.drop s.1.toNat).take (s.2.toNat - s.1.toNat)
def signsF (cells : List (Int × Int)) (s : Sp2) : List Int := (rangeF cells s).map (·.1)
def worthsF (cells : List (Int × Int)) (s : Sp2) : List Int := (rangeF cells s).map (·.2)
def planS (as : Asks) : List Sp2 × List Mk := planF (dstF (as.map (·.2)))
def joinAt (t : Tb) (old : List (List Int × Int)) (cells : List (Int × Int)) (s : Sp2) : Int := (valG old (signsF cells s)).getD (foldJ t (worthsF cells s))
def joinsF (t : Tb) (old : List (List Int × Int)) (cells : List (Int × Int)) (kept : List Sp2) : List (List Int × Int) := kept.foldl (fun js s => putG js (signsF cells s) (joinAt t old cells s)) []
def newsF (old : List (List Int × Int)) (cells : List (Int × Int)) (kept : List Sp2) : List Sp2 := kept.filter fun s => (valG old (signsF cells s)).isNone
def settleF (t : Tb) (old : List (List Int × Int)) (d : Dr) : StM × List Sp2 :=
  (⟨d.cells, d.asks, (planS d.asks).1, (planS d.asks).2, joinsF t old d.cells (planS d.asks).1⟩, newsF old d.cells (planS d.asks).1)
structure LmM where
  t : Tb
  room : Int
  here : StM
  fresh : Int
  past : List StM
  future : List StM
  news : List Sp2
def togF (L : LmM) (xs : List Deed) : Except Rf (LmM × List D) := match doneF L.t.length L.room ⟨L.here.cells, L.here.asks⟩ xs L.fresh with
  | .error r => .error r
  | .ok (d, os) => if xs = [] then .ok (L, []) else
    .ok ({ L with here := (settleF L.t L.here.joins d).1, fresh := L.fresh + 400 * xs.length, past := L.past ++ [L.here], future := [], news := (settleF L.t L.here.joins d).2 }, os)
def joinsK (js : List (List Int × Int)) : List (List Key × D) := js.map fun p => (ikey p.1, D.int p.2)
def standFs (s : StM) : List (Str × D) := [("cells", .lst (s.cells.map spD)), ("asks", .dic (asksK s.asks)), ("plan", .tup [.lst (s.kept.map spD), .lst (s.marks.map mkD)]), ("joins", .dit (joinsK s.joins))]
def standD (C : Addr) (s : StM) : D := .obj C (standFs s)
/-- the larder at p, its lists of steps at pp and pf -/
def larderFs (CJ CS : Addr) (L : LmM) (pp pf : Addr) : List (Str × D) := [("joint", .obj CJ (joinF L.t)), ("room", .int L.room), ("here", standD CS L.here), ("fresh", .int L.fresh), ("past", .ref pp), ("future", .ref pf), ("news", .lst (L.news.map spD))]
structure LAt (CJ CS CL : Addr) (M : Mp) (p pp pf : Addr) (L : LmM) : Prop where
  self : M p = some (.ins CL (larderFs CJ CS L pp pf))
  past : M pp = some (.lst (L.past.map (standD CS)))
  fut : M pf = some (.lst (L.future.map (standD CS)))
  ne : pp ≠ pf
/-- what a larder's cells may be: those of its own -/
def drFs (CJ : Addr) (t : Tb) (pc pa : Addr) (room : Int) : List (Str × D) := [("joint", .obj CJ (joinF t)), ("cells", .ref pc), ("asks", .ref pa), ("room", .int room)]
structure DAt (CJ CD : Addr) (M : Mp) (p pc pa : Addr) (t : Tb) (room : Int) (d : Dr) : Prop where
  self : M p = some (.ins CD (drFs CJ t pc pa room))
  cells : M pc = some (.lst (d.cells.map spD))
  asks : M pa = some (.dic (asksK d.asks))
theorem DAt.cp {CJ CD : Addr} {M : Mp} {p pc pa : Addr} {t : Tb} {room : Int} {d : Dr} (h : DAt CJ CD M p pc pa t room d) : pc ≠ p ∧ pa ≠ p ∧ pa ≠ pc := by
  refine ⟨fun z => ?_, fun z => ?_, fun z => ?_⟩
  · have := h.cells; rw [z, h.self] at this; cases this
  · have := h.asks; rw [z, h.self] at this; cases this
  · have := h.asks; rw [z, h.cells] at this; cases this
theorem DAt.setA {CJ CD : Addr} {M : Mp} {p pc pa : Addr} {t : Tb} {room : Int} {d : Dr} (h : DAt CJ CD M p pc pa t room d) (as : Asks) : DAt CJ CD (mup M pa (.dic (asksK as))) p pc pa t room { d with asks := as } := by
  obtain ⟨n1, n2, n3⟩ := h.cp
  exact ⟨by rw [mup_ne (Ne.symm n2)]; exact h.self, by rw [mup_ne (Ne.symm n3)]; exact h.cells, mup_same⟩
theorem seq_sq {M : Mp} {d : D} {xs : List D} (h : sqD M d = some xs) : seqD M d = some xs := by
  unfold seqD
  cases d with
  | tup ys => simp [sqD] at h
  | _ => exact h
end LW
namespace LW
open PySem L2 DL
def updA (as : Asks) (S : List Str) (mv : Sp2 → Sp2) : Asks := as.map fun x => (x.1, if x.1 ∈ S then mv x.2 else x.2)
theorem val_uniq {α : Type} {l : List (Str × α)} (hn : (l.map (·.1)).Nodup) {x : Str × α} (hx : x ∈ l) : valG l x.1 = some x.2 := by
  induction l with
  | nil => cases hx
  | cons a l ih =>
    rw [List.map_cons, List.nodup_cons] at hn
    unfold valG
    rw [List.find?_cons]
    rcases List.mem_cons.mp hx with rfl | hx
    · rw [decide_eq_true rfl]; rfl
    · have : a.1 ≠ x.1 := fun z => hn.1 (by rw [z]; exact List.mem_map_of_mem hx)
      rw [decide_eq_false this]
      exact ih hn.2 hx
theorem updA_put {as : Asks} {S : List Str} {mv : Sp2 → Sp2} {n : Str} {r : Sp2} (hn : (as.map (·.1)).Nodup) (h : valG as n = some r) : putG (updA as S mv) n (mv r) = updA as (S ++ [n]) mv := by
  have hm := valG_mem h
  unfold putG
  have : ((updA as S mv).any fun kv => decide (kv.1 = n)) = true := by
    unfold updA
    rw [List.any_map]
    exact List.any_eq_true.mpr ⟨_, hm, decide_eq_true rfl⟩
  rw [if_pos this]
  unfold updA
  rw [List.map_map]
  refine List.map_congr_left fun x hx => ?_
  show (if x.1 = n then (x.1, mv r) else (x.1, _)) = (x.1, _)
  by_cases hx2 : x.1 = n
  · rw [if_pos hx2, if_pos (by rw [hx2]; simp)]
    have := val_uniq hn hx
    rw [hx2, h] at this
    cases this
    rfl
  · rw [if_neg hx2]
    by_cases h3 : x.1 ∈ S
    · rw [if_pos h3, if_pos (List.mem_append_left _ h3)]
    · rw [if_neg h3, if_neg fun z => by
        rcases List.mem_append.mp z with z | z
        · exact h3 z
        · exact hx2 (by simpa using z)]
theorem DAt.up {CJ CD : Addr} {M : Mp} {p pc pa q : Addr} {t : Tb} {room : Int} {d : Dr} {c : Cell} (h : DAt CJ CD M p pc pa t room d) (n1 : q ≠ p) (n2 : q ≠ pc) (n3 : q ≠ pa) : DAt CJ CD (mup M q c) p pc pa t room d :=
  ⟨by rw [mup_ne (Ne.symm n1)]; exact h.self, by rw [mup_ne (Ne.symm n2)]; exact h.cells, by rw [mup_ne (Ne.symm n3)]; exact h.asks⟩
theorem DAt.step {CJ CD : Addr} {M : Mp} {p pc pa : Addr} {t : Tb} {room : Int} {cs : List (Int × Int)} {as : Asks} {S : List Str} {i : Nat} {n : Str} {mv : Sp2 → Sp2} {r : Sp2} {u v : Int} (h : DAt CJ CD M p pc pa t room ⟨cs, updA as (S.take i) mv⟩) (hnd : (as.map (·.1)).Nodup) (hn : S[i]? = some n) (hv : valG as n = some r) (e : (u, v) = mv r) : DAt CJ CD (mup M pa (.dic (putG (asksK (updA as (S.take i) mv)) (Sum.inr n) (.tup [.int u, .int v])))) p pc pa t room ⟨cs, updA as (S.take (i + 1)) mv⟩ := by
  rw [show D.tup [.int u, .int v] = spD (u, v) from rfl, asks_put, e, updA_put hnd hv, List.take_add_one, hn]
  exact h.setA _
theorem DAt.less {CJ CD : Addr} {M : Mp} {p pc pa q : Addr} {t : Tb} {room : Int} {d : Dr} (h : DAt CJ CD M p pc pa t room d) (n1 : q ≠ p) (n2 : q ≠ pc) (n3 : q ≠ pa) : DAt CJ CD (mdel M q) p pc pa t room d :=
  ⟨by rw [mdel_ne (Ne.symm n1)]; exact h.self, by rw [mdel_ne (Ne.symm n2)]; exact h.cells, by rw [mdel_ne (Ne.symm n3)]; exact h.asks⟩
def okD : Deed → Prop
  | .ask n _ _ => n.length ≤ 1000
  | .pin _ ws => ws.length ≤ 1000
  | _ => True
def okDr (m : Nat) (d : Dr) : Prop := d.cells.length ≤ 400 ∧ d.asks.length ≤ 24 ∧ (d.asks.map (·.1)).Nodup ∧ (∀ a ∈ d.asks, 0 ≤ a.2.1 ∧ a.2.1 < a.2.2 ∧ a.2.2 ≤ (d.cells.length : Int)) ∧ ∀ c ∈ d.cells, inJ m c.2
theorem okDr.ok {m : Nat} {d : Dr} (h : okDr m d) : ∀ s ∈ d.asks.map (·.2), okS s := fun s hs => by
  obtain ⟨a, ha, rfl⟩ := List.mem_map.mp hs
  have := h.2.2.2.1 a ha
  have := h.1
  unfold okS
  omega
theorem okDr.few {m : Nat} {d : Dr} (h : okDr m d) : FewE (d.asks.map (·.2)) := by
  refine ⟨(d.asks.map (·.2.1)) ++ (d.asks.map (·.2.2)), ?_, fun s hs => ?_⟩
  · rw [List.length_append, List.length_map, List.length_map]
    have := h.2.1
    omega
  · obtain ⟨a, ha, rfl⟩ := List.mem_map.mp hs
    exact ⟨List.mem_append_left _ (List.mem_map.mpr ⟨a, ha, rfl⟩), List.mem_append_right _ (List.mem_map.mpr ⟨a, ha, rfl⟩)⟩
theorem okDr.plan {m : Nat} {d : Dr} (h : okDr m d) : PlanP (dstF (d.asks.map (·.2))) (planS d.asks).1 (planS d.asks).2 := need_row h.ok
theorem okDr.kept {m : Nat} {d : Dr} (h : okDr m d) : ∀ k ∈ (planS d.asks).1, 0 ≤ k.1 ∧ k.1 < k.2 ∧ k.2 ≤ (d.cells.length : Int) := fun k hk => by
  obtain ⟨i, hi, e⟩ := List.mem_iff_getElem.mp hk
  obtain ⟨s, hs, h1, h2, _⟩ := h.plan.lo i k (by rw [List.getElem?_eq_getElem hi, e])
  obtain ⟨a, ha, rfl⟩ := List.mem_map.mp (((dstF_ok _).2.1 s).mp hs)
  have h3 := h.2.2.2.1 a ha
  have h4 := (h.plan.en k hk).2.2
  omega
theorem okDr.klen {m : Nat} {d : Dr} (h : okDr m d) : (planS d.asks).1.length ≤ 24 := by
  have h1 : (planS d.asks).1.length ≤ (dstF (d.asks.map (·.2))).length := no_fewer h.plan fun s hs c h1 h2 => by
    have : okS s := h.ok s (((dstF_ok _).2.1 s).mp hs)
    unfold okS at this
    exact servedBy_iff.mpr ⟨s, hs, by unfold servs; exact ⟨Int.le_refl _, h1, h2, Int.le_refl _⟩⟩
  have h2 := (dstF_ok (d.asks.map (·.2))).2.2
  rw [List.length_map] at h2
  have := h.2.1
  omega
theorem putG_le {κ β : Type} [DecidableEq κ] {l : List (κ × β)} {k : κ} {v : β} : (putG l k v).length ≤ l.length + 1 := by
  unfold putG
  split
  · simp
  · simp
theorem newsF_len {old : List (List Int × Int)} {cells : List (Int × Int)} {ks : List Sp2} : (newsF old cells ks).length ≤ ks.length := List.length_filter_le _ _
theorem DAt.ext {CJ CD : Addr} {M M2 : Mp} {p pc pa : Addr} {t : Tb} {room : Int} {d : Dr} (h : DAt CJ CD M p pc pa t room d) (x : Ext M M2) : DAt CJ CD M2 p pc pa t room d := ⟨x _ _ h.self, x _ _ h.cells, x _ _ h.asks⟩
theorem rangeF_len {α : Type} {xs : List α} {s : Sp2} (h2 : s.2 ≤ (xs.length : Int)) : (rangeF xs s).length = s.2.toNat - s.1.toNat := by
  unfold rangeF
  rw [List.length_take, List.length_drop]
  omega
end LW
namespace LW
open PySem L2 DL
theorem lookF_some {n : Nat} {s : Int} {e : Option Int} {r : Sp2} (h : lookF n s e = some r) : 0 ≤ r.1 ∧ r.1 < r.2 ∧ r.2 ≤ (n : Int) := by
  unfold lookF at h
  split at h
  · rename_i g
    cases h
    exact g
  · cases h
theorem putG_mem {l : Asks} {k : Str} {v : Sp2} {a : Str × Sp2} (h : a ∈ putG l k v) : a ∈ l ∨ a = (k, v) := by
  unfold putG at h
  split at h
  · obtain ⟨b, hb, e⟩ := List.mem_map.mp h
    split at e
    · rename_i g
      right
      rw [← e, g]
    · left
      rw [← e]
      exact hb
  · rcases List.mem_append.mp h with h | h
    · exact .inl h
    · exact .inr (by simpa using h)
theorem putG_nodup {l : Asks} {k : Str} {v : Sp2} (h : (l.map (·.1)).Nodup) : ((putG l k v).map (·.1)).Nodup := by
  rw [putG_keys]
  split
  · exact h
  · rename_i g
    rw [List.nodup_append]
    exact ⟨h, by simp, fun a ha b hb => by
      have : b = k := by simpa using hb
      rw [this]
      exact fun z => g (z ▸ ha)⟩
theorem putG_len1 {l : Asks} {k : Str} {v : Sp2} (h : k ∈ l.map (·.1)) : (putG l k v).length = l.length := by
  have := congrArg List.length (putG_keys (l := l) (k := k) (v := v))
  rw [if_pos h] at this
  simpa using this
theorem spanN_ok {lo hi : Int} {n : Nat} {s : Sp2} (h0 : 0 ≤ lo) (h1 : lo < hi) (h2 : hi ≤ (n : Int)) (hs : 0 ≤ s.1 ∧ s.1 < s.2 ∧ s.2 ≤ (n : Int)) (hg : ¬ (spanN lo hi s).1 = (spanN lo hi s).2) : 0 ≤ (spanN lo hi s).1 ∧ (spanN lo hi s).1 < (spanN lo hi s).2 ∧ (spanN lo hi s).2 ≤ (n : Int) - (hi - lo) := by
  unfold spanN at hg ⊢
  simp only at hg ⊢
  rw [Int.max_def, Int.max_def] at hg ⊢
  repeat' split at hg
  all_goals repeat' split
  all_goals omega
theorem spanW_ok {a m : Int} {n : Nat} {s : Sp2} (h0 : 0 ≤ a) (h1 : a ≤ (n : Int)) (hm : 0 ≤ m) (hs : 0 ≤ s.1 ∧ s.1 < s.2 ∧ s.2 ≤ (n : Int)) : 0 ≤ (spanW a m s).1 ∧ (spanW a m s).1 < (spanW a m s).2 ∧ (spanW a m s).2 ≤ (n : Int) + m := by
  unfold spanW
  simp only
  repeat' split
  all_goals omega
theorem stepF_ok {m : Nat} {room : Int} {d d1 : Dr} {sign : Int} {x : Deed} {o : D} (hr : room ≤ 24) (h : okDr m d) (e : stepF m room d sign x = .ok (d1, o)) : okDr m d1 := by
  obtain ⟨h1, h2, h3, h4, h5⟩ := h
  cases x with
  | ask n s en =>
    simp only [stepF, askS] at e
    split at e
    · cases e
    split at e
    · cases e
    rename_i g
    split at e
    · cases e
    rename_i g2
    cases hl : lookF d.cells.length s en with
    | none => rw [hl] at e; cases e
    | some r =>
      rw [hl] at e
      cases e
      have hl := lookF_some hl
      exact ⟨h1, Nat.le_trans putG_le (by omega), putG_nodup h3, fun a ha => by
        rcases putG_mem ha with ha | rfl
        · exact h4 a ha
        · exact hl, h5⟩
  | drop n =>
    simp only [stepF, dropS] at e
    cases hv : valG d.asks n with
    | none => rw [hv] at e; cases e
    | some r =>
      rw [hv] at e
      cases e
      have sb : (dropG d.asks n).Sublist d.asks := List.filter_sublist
      exact ⟨h1, Nat.le_trans sb.length_le h2, h3.sublist (sb.map _), fun a ha => h4 a (sb.subset ha), h5⟩
  | move n s en =>
    simp only [stepF, moveS] at e
    cases hv : valG d.asks n with
    | none => rw [hv] at e; cases e
    | some r =>
      rw [hv] at e
      simp only at e
      cases hl : lookF d.cells.length s en with
      | none => rw [hl] at e; cases e
      | some q =>
        rw [hl] at e
        cases e
        have hl := lookF_some hl
        have hk : n ∈ d.asks.map (·.1) := List.mem_map.mpr ⟨_, valG_mem hv, rfl⟩
        exact ⟨h1, by show (putG d.asks n q).length ≤ 24; rw [putG_len1 hk]; exact h2, putG_nodup h3, fun a ha => by
          rcases putG_mem ha with ha | rfl
          · exact h4 a ha
          · exact hl, h5⟩
  | write a w =>
    simp only [stepF, writeS] at e
    split at e
    · cases e
    split at e
    · cases e
    rename_i g
    cases e
    refine ⟨by rw [List.length_set]; exact h1, h2, h3, by rw [List.length_set]; exact h4, fun c hc => ?_⟩
    rcases List.mem_or_eq_of_mem_set hc with hc | rfl
    · exact h5 c hc
    · exact Classical.not_not.mp g
  | pin a ws =>
    simp only [stepF, pinS] at e
    split at e
    · cases e
    rename_i g0
    split at e
    · cases e
    rename_i g
    split at e
    · cases e
    rename_i g2
    cases e
    have g0 := Classical.not_not.mp g0
    have g := Classical.not_not.mp g
    have hl : (d.cells.take a.toNat ++ newCells sign ws ++ d.cells.drop a.toNat).length = d.cells.length + ws.length := by
      rw [List.length_append, List.length_append, List.length_take, List.length_drop]
      unfold newCells
      rw [List.length_map, List.length_zipIdx]
      omega
    refine ⟨by rw [hl]; omega, by rw [List.length_map]; exact h2, by rw [List.map_map]; exact h3, fun b hb => ?_, fun c hc => ?_⟩
    · obtain ⟨b0, hb0, rfl⟩ := List.mem_map.mp hb
      rw [hl]
      have := spanW_ok (m := (ws.length : Int)) g0.1 g0.2 (by omega) (h4 b0 hb0)
      exact ⟨this.1, this.2.1, Int.le_trans this.2.2 (by omega)⟩
    · rcases List.mem_append.mp hc with hc | hc
      · rcases List.mem_append.mp hc with hc | hc
        · exact h5 c (List.mem_of_mem_take hc)
        · obtain ⟨q, hq, rfl⟩ := List.mem_map.mp hc
          exact g _ (by
            obtain ⟨k, hk, e2⟩ := List.mem_iff_getElem.mp hq
            rw [List.getElem_zipIdx] at e2
            rw [← e2]
            exact List.getElem_mem _)
      · exact h5 c (List.mem_of_mem_drop hc)
  | out s en =>
    simp only [stepF, outS] at e
    cases hl : lookF d.cells.length s en with
    | none => rw [hl] at e; cases e
    | some r =>
      rw [hl] at e
      cases e
      have hl := lookF_some hl
      have hc : (cutL d.cells r.1 r.2).length = d.cells.length - (r.2 - r.1).toNat := by
        unfold cutL
        rw [List.length_append, List.length_take, List.length_drop]
        omega
      have sb : (d.asks.filter fun x => !goneF r.1 r.2 x).Sublist d.asks := List.filter_sublist
      refine ⟨by rw [hc]; omega, by rw [List.length_map]; exact Nat.le_trans sb.length_le h2, by rw [List.map_map]; exact h3.sublist (sb.map _), fun b hb => ?_, fun c hc => ?_⟩
      · obtain ⟨b0, hb0, rfl⟩ := List.mem_map.mp hb
        obtain ⟨hb1, hb2⟩ := List.mem_filter.mp hb0
        have g : ¬ (spanN r.1 r.2 b0.2).1 = (spanN r.1 r.2 b0.2).2 := fun z => by
          unfold goneF at hb2
          rw [decide_eq_true z] at hb2
          cases hb2
        have := spanN_ok hl.1 hl.2.1 hl.2.2 (h4 b0 hb1) g
        rw [hc]
        exact ⟨this.1, this.2.1, Int.le_trans this.2.2 (by omega)⟩
      · unfold cutL at hc
        rcases List.mem_append.mp hc with hc | hc
        · exact h5 c (List.mem_of_mem_take hc)
        · exact h5 c (List.mem_of_mem_drop hc)
def okT : Deed → Prop
  | .ask n _ _ => PyData.strOk n = true
  | .drop n => PyData.strOk n = true
  | .move n _ _ => PyData.strOk n = true
  | _ => True
/-- a larder whose steps go on -/
def okL (L : LmM) : Prop := isTab L.t ∧ L.room ≤ 24 ∧ okDr L.t.length ⟨L.here.cells, L.here.asks⟩ ∧ L.past.length ≤ 1000
/-- one deed as a step -/
def oneL (L : LmM) (d : Dr) : LmM := { L with here := (settleF L.t L.here.joins d).1, fresh := L.fresh + 400, past := L.past ++ [L.here], future := [], news := (settleF L.t L.here.joins d).2 }
def oneF (L : LmM) (x : Deed) : Except Rf (LmM × D) := match stepF L.t.length L.room ⟨L.here.cells, L.here.asks⟩ L.fresh x with
  | .error r => .error r
  | .ok (d, o) => .ok (oneL L d, o)
theorem togF_one {L : LmM} {x : Deed} : togF L [x] = match oneF L x with
    | .error r => .error r
    | .ok (L1, o) => .ok (L1, [o]) := by
  unfold togF oneF
  simp only [doneF]
  cases stepF L.t.length L.room ⟨L.here.cells, L.here.asks⟩ L.fresh x with
  | error r => rfl
  | ok q =>
    obtain ⟨d, o⟩ := q
    simp only
    rw [if_neg (by simp)]
    rfl
end LW
namespace LW
open PySem L2 DL
/-- a larder that stands, with no more than k steps behind it -/
def okLn (k : Nat) (L : LmM) : Prop := isTab L.t ∧ L.room ≤ 24 ∧ okDr L.t.length ⟨L.here.cells, L.here.asks⟩ ∧ L.past.length ≤ k
theorem okLn.ok {k : Nat} {L : LmM} (h : okLn k L) (hk : k ≤ 1000 := by decide) : okL L := ⟨h.1, h.2.1, h.2.2.1, Nat.le_trans h.2.2.2 hk⟩
theorem one_write {L : LmM} {a w : Int} (h1 : 0 ≤ a ∧ a < (L.here.cells.length : Int)) (h2 : inJ L.t.length w) : oneF L (.write a w) = .ok (oneL L ⟨L.here.cells.set a.toNat (L.fresh, w), L.here.asks⟩, .int (L.here.cells.getD a.toNat (0, 0)).2) := by
  unfold oneF
  simp only [stepF, writeS]
  rw [if_neg (fun z => z h1), if_neg (fun z => z h2)]
/-- a larder by itself while another one goes on -/
theorem LAt.keep {CJ CS CL : Addr} {M M2 : Mp} {p pp pf q qp qf : Addr} {L : LmM} (h : LAt CJ CS CL M q qp qf L) (fr : ∀ a c, a ≠ p → a ≠ pp → a ≠ pf → M a = some c → M2 a = some c)
    (n : (q ≠ p ∧ q ≠ pp ∧ q ≠ pf) ∧ (qp ≠ p ∧ qp ≠ pp ∧ qp ≠ pf) ∧ (qf ≠ p ∧ qf ≠ pp ∧ qf ≠ pf)) : LAt CJ CS CL M2 q qp qf L :=
  ⟨fr _ _ n.1.1 n.1.2.1 n.1.2.2 h.self, fr _ _ n.2.1.1 n.2.1.2.1 n.2.1.2.2 h.past, fr _ _ n.2.2.1 n.2.2.2.1 n.2.2.2.2 h.fut, h.ne⟩
theorem LAt.extL {CJ CS CL : Addr} {M M2 : Mp} {p pp pf : Addr} {L : LmM} (h : LAt CJ CS CL M p pp pf L) (x : Ext M M2) : LAt CJ CS CL M2 p pp pf L := ⟨x _ _ h.self, x _ _ h.past, x _ _ h.fut, h.ne⟩
end LW
namespace LW
open PySem L2 DL
/-- a law's state as a draft: worths without signs -/
def dL (ws : List Int) (la : Asks) : Dr := ⟨ws.map fun w => (0, w), la⟩
def stD (ws : List Int) (pa : Addr) : D := .tup [.lst (ws.map D.int), .ref pa]
theorem dL_len {ws : List Int} {la : Asks} : (dL ws la).cells.length = ws.length := by simp [dL]
theorem val_perm {α : Type} {as bs : List (Str × α)} (p : as.Perm bs) (h : (as.map (·.1)).Nodup) (n : Str) : valG as n = valG bs n := by
  cases e : valG as n with
  | none =>
    have := valG_none.mp e
    exact (valG_none.mpr fun z => this ((p.map _).mem_iff.mpr z)).symm
  | some v =>
    have hm : (n, v) ∈ as := by
      unfold valG at e
      obtain ⟨a, ha, e2⟩ := Option.map_eq_some_iff.mp e
      have h1 := List.mem_of_find?_eq_some ha
      have h3 : a.1 = n := of_decide_eq_true (List.find?_some (p := fun kv : Str × α => decide (kv.1 = n)) ha)
      rw [← h3, ← e2]
      exact h1
    exact (val_uniq (x := (n, v)) ((p.map _).nodup_iff.mp h) (p.mem_iff.mp hm)).symm
end LW
namespace LW
open PySem L2 DL
theorem lookF_val {k : Nat} {s : Int} {e : Option Int} {r : Sp2} (h : lookF k s e = some r) : r = (s, e.getD k) := by
  unfold lookF at h
  split at h
  · cases h; rfl
  · cases h
theorem ask_inv {room : Int} {d d1 : Dr} {n : Str} {s : Int} {e : Option Int} {o : D} (h : askS room d n s e = .ok (d1, o)) : o = .non ∧ d1 = { d with asks := putG d.asks n (s, e.getD d.cells.length) } := by
  unfold askS at h
  split at h
  · cases h
  split at h
  · cases h
  split at h
  · cases h
  cases hl : lookF d.cells.length s e with
  | none => rw [hl] at h; cases h
  | some r =>
    rw [hl] at h
    cases h
    rw [lookF_val hl]
    exact ⟨rfl, rfl⟩
theorem move_inv {d d1 : Dr} {n : Str} {s : Int} {e : Option Int} {o : D} (h : moveS d n s e = .ok (d1, o)) : ∃ r, valG d.asks n = some r ∧ o = spD r ∧ d1 = { d with asks := putG d.asks n (s, e.getD d.cells.length) } := by
  unfold moveS at h
  cases hv : valG d.asks n with
  | none => rw [hv] at h; cases h
  | some r =>
    rw [hv] at h
    simp only at h
    cases hl : lookF d.cells.length s e with
    | none => rw [hl] at h; cases h
    | some q =>
      rw [hl] at h
      cases h
      rw [lookF_val hl]
      exact ⟨r, rfl, rfl, rfl⟩
theorem dL_ws {ws : List Int} {la : Asks} : (dL ws la).cells.map (·.2) = ws := by
  show (ws.map fun w => ((0 : Int), w)).map (·.2) = ws
  rw [List.map_map]
  exact List.map_id ws
theorem drop_inv {d d1 : Dr} {n : Str} {o : D} (h : dropS d n = .ok (d1, o)) : ∃ r, valG d.asks n = some r ∧ o = spD r ∧ d1 = { d with asks := dropG d.asks n } := by
  unfold dropS at h
  cases hv : valG d.asks n with
  | none => rw [hv] at h; cases h
  | some r =>
    rw [hv] at h
    cases h
    exact ⟨r, rfl, rfl, rfl⟩
theorem write_inv {m : Nat} {d d1 : Dr} {sign a w : Int} {o : D} (h : writeS m d sign a w = .ok (d1, o)) : (0 ≤ a ∧ a < (d.cells.length : Int)) ∧ inJ m w ∧ o = .int (d.cells.getD a.toNat (0, 0)).2 ∧ d1 = { d with cells := d.cells.set a.toNat (sign, w) } := by
  unfold writeS at h
  split at h
  · cases h
  rename_i g
  split at h
  · cases h
  rename_i g2
  cases h
  exact ⟨Classical.not_not.mp g, Classical.not_not.mp g2, rfl, rfl⟩
theorem pin_inv {m : Nat} {d d1 : Dr} {sign a : Int} {vs : List Int} {o : D} (h : pinS m d sign a vs = .ok (d1, o)) : (0 ≤ a ∧ a ≤ (d.cells.length : Int)) ∧ (∀ w ∈ vs, inJ m w) ∧ d.cells.length + vs.length ≤ 400 ∧ o = .non ∧ d1 = { cells := d.cells.take a.toNat ++ newCells sign vs ++ d.cells.drop a.toNat, asks := d.asks.map fun x => (x.1, spanW a vs.length x.2) } := by
  unfold pinS at h
  split at h
  · cases h
  rename_i g
  split at h
  · cases h
  rename_i g2
  split at h
  · cases h
  rename_i g3
  cases h
  exact ⟨Classical.not_not.mp g, Classical.not_not.mp g2, by omega, rfl, rfl⟩
theorem out_inv {d d1 : Dr} {s : Int} {e : Option Int} {o : D} (h : outS d s e = .ok (d1, o)) : ∃ r, lookF d.cells.length s e = some r ∧ o = .lst ((sortN ((d.asks.filter (goneF r.1 r.2)).map (·.1))).map D.str) ∧ d1 = { cells := cutL d.cells r.1 r.2, asks := (d.asks.filter fun x => !goneF r.1 r.2 x).map fun x => (x.1, spanN r.1 r.2 x.2) } := by
  unfold outS at h
  cases hl : lookF d.cells.length s e with
  | none => rw [hl] at h; cases h
  | some r =>
    rw [hl] at h
    cases h
    exact ⟨r, rfl, rfl, rfl⟩
theorem newCells_ws {sign : Int} {ws : List Int} : (newCells sign ws).map (·.2) = ws := by
  unfold newCells
  rw [List.map_map]
  exact List.ext_getElem? fun i => by
    rw [List.getElem?_map, List.getElem?_zipIdx]
    cases ws[i]? <;> rfl
end LW
namespace LW
open PySem L2 DL
section
variable {κ β : Type} [DecidableEq κ]
theorem valG_cons {k k2 : κ} {v : β} {l : List (κ × β)} : valG ((k, v) :: l) k2 = if k2 = k then some v else valG l k2 := by
  unfold valG
  rw [List.find?_cons]
  by_cases h : k2 = k
  · subst h; simp
  · have : ¬ k = k2 := fun z => h z.symm
    simp [h, this]
theorem valG_append {k : κ} {l m : List (κ × β)} : valG (l ++ m) k = (valG l k).or (valG m k) := by
  unfold valG
  rw [List.find?_append]
  cases l.find? (fun kv => decide (kv.1 = k)) <;> rfl
theorem valG_upd {k k2 : κ} {v : β} : ∀ {l : List (κ × β)}, (∃ a ∈ l, a.1 = k) → valG (l.map fun a => if a.1 = k then (a.1, v) else a) k2 = if k2 = k then some v else valG l k2
  | [], h => by obtain ⟨a, ha, _⟩ := h; cases ha
  | a :: l, h => by
    obtain ⟨x, y⟩ := a
    rw [List.map_cons]
    by_cases hx : x = k
    · subst hx
      simp only [if_true]
      rw [valG_cons, valG_cons]
      by_cases h2 : k2 = x
      · rw [if_pos h2, if_pos h2]
      · rw [if_neg h2, if_neg h2, if_neg h2]
        by_cases h3 : ∃ a ∈ l, a.1 = x
        · rw [valG_upd h3, if_neg h2]
        · congr 1
          conv => rhs; rw [← List.map_id l]
          refine List.map_congr_left fun a ha => ?_
          rw [if_neg (fun z => h3 ⟨a, ha, z⟩)]
          rfl
    · rw [if_neg hx, valG_cons, valG_cons]
      have h3 : ∃ a ∈ l, a.1 = k := by
        obtain ⟨b, hb, e⟩ := h
        rcases List.mem_cons.mp hb with rfl | hb
        · exact absurd e hx
        · exact ⟨b, hb, e⟩
      rw [valG_upd h3]
      by_cases h2 : k2 = x
      · subst h2
        simp [hx]
      · simp [h2]
theorem valG_put {l : List (κ × β)} {k k2 : κ} {v : β} : valG (putG l k v) k2 = if k2 = k then some v else valG l k2 := by
  unfold putG
  split
  · rename_i h
    obtain ⟨a, ha, e⟩ := List.any_eq_true.mp h
    exact valG_upd ⟨a, ha, of_decide_eq_true e⟩
  · rename_i h
    rw [valG_append, valG_cons]
    by_cases h2 : k2 = k
    · subst h2
      have : valG l k2 = none := valG_none.mpr fun z => by
        obtain ⟨a, ha, e⟩ := List.mem_map.mp z
        exact h (List.any_eq_true.mpr ⟨a, ha, decide_eq_true e⟩)
      rw [this, if_pos rfl, if_pos rfl]
      rfl
    · rw [if_neg h2, if_neg h2]
      show (valG l k2).or none = _
      cases valG l k2 <;> rfl
theorem putG_memP {l : List (κ × β)} {k : κ} {v : β} {a : κ × β} (h : a ∈ putG l k v) : a ∈ l ∨ a = (k, v) := by
  unfold putG at h
  split at h
  · obtain ⟨b, hb, e⟩ := List.mem_map.mp h
    split at e
    · rename_i g
      right
      rw [← e, g]
    · left
      rw [← e]
      exact hb
  · rcases List.mem_append.mp h with h | h
    · exact .inl h
    · exact .inr (by simpa using h)
end
theorem joinsG_val {t : Tb} {old : List (List Int × Int)} {cells : List (Int × Int)} {key : List Int} : ∀ (ks : List Sp2) (acc : List (List Int × Int)),
    (valG (ks.foldl (fun js s => putG js (signsF cells s) (joinAt t old cells s)) acc) key).isSome = true ↔ (∃ k ∈ ks, signsF cells k = key) ∨ (valG acc key).isSome = true
  | [], acc => by simp
  | k :: ks, acc => by
    rw [List.foldl_cons, joinsG_val ks, valG_put]
    constructor
    · rintro (⟨k2, h1, h2⟩ | h)
      · exact .inl ⟨k2, List.mem_cons_of_mem _ h1, h2⟩
      · by_cases e : key = signsF cells k
        · exact .inl ⟨k, List.mem_cons_self, e.symm⟩
        · rw [if_neg e] at h
          exact .inr h
    · rintro (⟨k2, h1, h2⟩ | h)
      · rcases List.mem_cons.mp h1 with rfl | h1
        · right
          rw [if_pos h2.symm]
          rfl
        · exact .inl ⟨k2, h1, h2⟩
      · right
        split
        · rfl
        · exact h
theorem joinsF_is {t : Tb} {old : List (List Int × Int)} {cells : List (Int × Int)} {ks : List Sp2} {key : List Int} : (valG (joinsF t old cells ks) key).isSome = true ↔ ∃ k ∈ ks, signsF cells k = key := by
  unfold joinsF
  rw [joinsG_val]
  simp [valG]
theorem joinsG_mem {t : Tb} {old : List (List Int × Int)} {cells : List (Int × Int)} {p : List Int × Int} : ∀ (ks : List Sp2) (acc : List (List Int × Int)),
    p ∈ ks.foldl (fun js s => putG js (signsF cells s) (joinAt t old cells s)) acc → (∃ k ∈ ks, p = (signsF cells k, joinAt t old cells k)) ∨ p ∈ acc
  | [], acc, h => .inr h
  | k :: ks, acc, h => by
    rcases joinsG_mem ks _ h with ⟨k2, h1, h2⟩ | h
    · exact .inl ⟨k2, List.mem_cons_of_mem _ h1, h2⟩
    · rcases putG_memP h with h | h
      · exact .inr h
      · exact .inl ⟨k, List.mem_cons_self, h⟩
theorem joinsF_mem {t : Tb} {old : List (List Int × Int)} {cells : List (Int × Int)} {ks : List Sp2} {p : List Int × Int} (h : p ∈ joinsF t old cells ks) : ∃ k ∈ ks, p = (signsF cells k, joinAt t old cells k) := by
  rcases joinsG_mem ks [] h with h | h
  · exact h
  · cases h
structure DrI (W : Int → Int) (fr : Int) (d : Dr) : Prop where
  cells : ∀ c ∈ d.cells, c.1 < fr ∧ c.2 = W c.1
  nd : (d.cells.map (·.1)).Nodup
  names : ∀ a ∈ d.asks, a.1.length ≤ 1000 ∧ PyData.strOk a.1 = true
structure StI (t : Tb) (W : Int → Int) (fr : Int) (s : StM) : Prop where
  dr : okDr t.length ⟨s.cells, s.asks⟩
  di : DrI W fr ⟨s.cells, s.asks⟩
  kept : s.kept = (planS s.asks).1
  marks : s.marks = (planS s.asks).2
  joins : ∀ p ∈ s.joins, p.2 = foldJ t (p.1.map W) ∧ ∀ k ∈ p.1, k < fr
  keys : ∀ key, (valG s.joins key).isSome = true ↔ ∃ k ∈ s.kept, signsF s.cells k = key
theorem DrI.more {W W' : Int → Int} {fr fr' : Int} {d : Dr} (h : DrI W fr d) (e : ∀ i, i < fr → W' i = W i) (l : fr ≤ fr') : DrI W' fr' d :=
  ⟨fun c hc => by have := h.cells c hc; exact ⟨by omega, by rw [e _ this.1]; exact this.2⟩, h.nd, h.names⟩
theorem StI.more {t : Tb} {W W' : Int → Int} {fr fr' : Int} {s : StM} (h : StI t W fr s) (e : ∀ i, i < fr → W' i = W i) (l : fr ≤ fr') : StI t W' fr' s :=
  ⟨h.dr, h.di.more e l, h.kept, h.marks, fun p hp => by
    obtain ⟨h1, h2⟩ := h.joins p hp
    exact ⟨by rw [h1, List.map_congr_left fun k hk => (e k (h2 k hk)).symm], fun k hk => by have := h2 k hk; omega⟩, h.keys⟩
theorem signs_worths {W : Int → Int} {fr : Int} {cells : List (Int × Int)} (h : ∀ c ∈ cells, c.1 < fr ∧ c.2 = W c.1) (k : Sp2) : (signsF cells k).map W = worthsF cells k := by
  unfold signsF worthsF
  rw [List.map_map]
  refine List.map_congr_left fun c hc => ?_
  have := h c (List.mem_of_mem_drop (List.mem_of_mem_take hc))
  exact this.2.symm
theorem signs_lt {W : Int → Int} {fr : Int} {cells : List (Int × Int)} (h : ∀ c ∈ cells, c.1 < fr ∧ c.2 = W c.1) (k : Sp2) : ∀ i ∈ signsF cells k, i < fr := fun i hi => by
  unfold signsF at hi
  obtain ⟨c, hc, rfl⟩ := List.mem_map.mp hi
  exact (h c (List.mem_of_mem_drop (List.mem_of_mem_take hc))).1
/-- a kept join is that of its cells -/
theorem StI.join {t : Tb} {W : Int → Int} {fr : Int} {s : StM} (h : StI t W fr s) {k : Sp2} (hk : k ∈ s.kept) : valG s.joins (signsF s.cells k) = some (foldJ t (worthsF s.cells k)) := by
  obtain ⟨v, hv⟩ := Option.isSome_iff_exists.mp ((h.keys _).mpr ⟨k, hk, rfl⟩)
  obtain ⟨e, _⟩ := h.joins _ (valG_mem hv)
  rw [hv, show v = foldJ t ((signsF s.cells k).map W) from e, signs_worths h.di.cells]
/-- one deed: signs still tell worths -/
theorem step_di {m : Nat} {room sign : Int} {W : Int → Int} {d d1 : Dr} {x : Deed} {o : D} (h : DrI W sign d) (ok : okDr m d) (o1 : okD x) (o2 : okT x) (e : stepF m room d sign x = .ok (d1, o)) : ∃ W', (∀ i, i < sign → W' i = W i) ∧ DrI W' (sign + 400) d1 := by
  have same : ∀ {as : Asks}, (∀ a ∈ as, a.1.length ≤ 1000 ∧ PyData.strOk a.1 = true) → DrI W (sign + 400) ⟨d.cells, as⟩ := fun {as} z => ⟨fun c hc => by have := h.cells c hc; exact ⟨by omega, this.2⟩, h.nd, z⟩
  cases x with
  | ask n s en =>
    obtain ⟨_, rfl⟩ := ask_inv e
    exact ⟨W, fun _ _ => rfl, same fun a ha => by
      rcases putG_mem ha with ha | rfl
      · exact h.names a ha
      · exact ⟨o1, o2⟩⟩
  | drop n =>
    obtain ⟨_, _, _, rfl⟩ := drop_inv e
    exact ⟨W, fun _ _ => rfl, same fun a ha => h.names a (List.mem_filter.mp ha).1⟩
  | move n s en =>
    obtain ⟨r, hv, _, rfl⟩ := move_inv e
    exact ⟨W, fun _ _ => rfl, same fun a ha => by
      rcases putG_mem ha with ha | rfl
      · exact h.names a ha
      · exact h.names (n, r) (valG_mem hv)⟩
  | write a w =>
    obtain ⟨⟨a0, a1⟩, _, _, rfl⟩ := write_inv e
    have hlt : a.toNat < d.cells.length := by omega
    refine ⟨fun i => if i = sign then w else W i, fun i hi => if_neg (by omega), fun c hc => ?_, ?_, h.names⟩
    · rcases List.mem_or_eq_of_mem_set hc with hc | rfl
      · have := h.cells c hc
        exact ⟨by omega, by rw [if_neg (by omega)]; exact this.2⟩
      · exact ⟨by show sign < sign + 400; omega, by rw [if_pos rfl]⟩
    · rw [List.map_set]
      show ((d.cells.map (·.1)).set a.toNat sign).Nodup
      have ns : sign ∉ d.cells.map (·.1) := fun z => by
        obtain ⟨c, hc, e⟩ := List.mem_map.mp z
        have := (h.cells c hc).1
        omega
      rw [List.set_eq_take_append_cons_drop]
      split
      · have nd := h.nd
        rw [← List.take_append_drop (a.toNat + 1) (d.cells.map (·.1))] at nd
        have nd2 := List.nodup_append.mp nd
        have sub : ∀ y ∈ (d.cells.map (·.1)).take a.toNat, y ∈ (d.cells.map (·.1)).take (a.toNat + 1) := fun y hy => by
          rw [List.take_add_one]
          exact List.mem_append_left _ hy
        refine List.nodup_append.mpr ⟨h.nd.sublist (List.take_sublist _ _), List.nodup_cons.mpr ⟨fun z => ns (List.mem_of_mem_drop z), h.nd.sublist (List.drop_sublist _ _)⟩, fun y hy z hz => ?_⟩
        rcases List.mem_cons.mp hz with rfl | hz
        · exact fun q => ns (q ▸ List.mem_of_mem_take hy)
        · exact nd2.2.2 y (sub y hy) z hz
      · exact h.nd
  | pin a ws =>
    obtain ⟨⟨a0, a1⟩, _, hl, _, rfl⟩ := pin_inv e
    refine ⟨fun i => if sign ≤ i then ws.getD (i - sign).toNat 0 else W i, fun i hi => if_neg (by omega), fun c hc => ?_, ?_, fun b hb => ?_⟩
    · have old : c ∈ d.cells → c.1 < sign + 400 ∧ c.2 = if sign ≤ c.1 then ws.getD (c.1 - sign).toNat 0 else W c.1 := fun hc => by
        have := h.cells c hc
        exact ⟨by omega, by rw [if_neg (by omega)]; exact this.2⟩
      rcases List.mem_append.mp hc with hc | hc
      · rcases List.mem_append.mp hc with hc | hc
        · exact old (List.mem_of_mem_take hc)
        · unfold newCells at hc
          obtain ⟨q, hq, rfl⟩ := List.mem_map.mp hc
          obtain ⟨k, hk, e2⟩ := List.mem_iff_getElem.mp hq
          rw [List.getElem_zipIdx] at e2
          rw [List.length_zipIdx] at hk
          rw [← e2]
          refine ⟨by simp only; omega, ?_⟩
          simp only
          rw [if_pos (by omega), show (sign + ((0 + k : Nat) : Int) - sign).toNat = k by omega, List.getD_eq_getElem?_getD, List.getElem?_eq_getElem hk]
          rfl
      · exact old (List.mem_of_mem_drop hc)
    · rw [List.map_append, List.map_append, List.map_take, List.map_drop]
      have en : (newCells sign ws).map (·.1) = (List.range ws.length).map fun k : Nat => sign + (k : Int) := by
        unfold newCells
        rw [List.map_map]
        refine List.ext_getElem? fun i => ?_
        rw [List.getElem?_map, List.getElem?_map, List.getElem?_zipIdx]
        by_cases hi : i < ws.length
        · rw [List.getElem?_eq_getElem hi, List.getElem?_range hi]
          simp
        · rw [List.getElem?_eq_none (by omega), List.getElem?_eq_none (by simp; omega)]
          rfl
      rw [en]
      have old : ∀ y ∈ d.cells.map (·.1), y < sign := fun y hy => by
        obtain ⟨c, hc, rfl⟩ := List.mem_map.mp hy
        exact (h.cells c hc).1
      have new : ∀ y ∈ (List.range ws.length).map (fun k : Nat => sign + (k : Int)), sign ≤ y := fun y hy => by
        obtain ⟨k, hk, rfl⟩ := List.mem_map.mp hy
        omega
      have ndn : ((List.range ws.length).map fun k : Nat => sign + (k : Int)).Nodup := List.Pairwise.map _ (fun a b z => by omega) (List.nodup_range (n := ws.length))
      have nd := h.nd
      rw [← List.take_append_drop a.toNat (d.cells.map (·.1))] at nd
      have nd2 := List.nodup_append.mp nd
      refine List.nodup_append.mpr ⟨List.nodup_append.mpr ⟨nd2.1, ndn, fun y hy z hz => ?_⟩, nd2.2.1, fun y hy z hz => ?_⟩
      · have := old y (List.mem_of_mem_take hy)
        have := new z hz
        omega
      · rcases List.mem_append.mp hy with hy | hy
        · exact nd2.2.2 y hy z hz
        · have := old z (List.mem_of_mem_drop hz)
          have := new y hy
          omega
    · obtain ⟨b0, hb0, rfl⟩ := List.mem_map.mp hb
      exact h.names b0 hb0
  | out s en =>
    obtain ⟨r, hl, _, rfl⟩ := out_inv e
    refine ⟨W, fun _ _ => rfl, fun c hc => ?_, ?_, fun b hb => ?_⟩
    · have : c ∈ d.cells := by
        unfold cutL at hc
        rcases List.mem_append.mp hc with hc | hc
        · exact List.mem_of_mem_take hc
        · exact List.mem_of_mem_drop hc
      have := h.cells c this
      exact ⟨by omega, this.2⟩
    · show ((cutL d.cells r.1 r.2).map (·.1)).Nodup
      have hl := lookF_some hl
      unfold cutL
      rw [List.map_append, List.map_take, List.map_drop]
      have nd := h.nd
      rw [← List.take_append_drop r.1.toNat (d.cells.map (·.1))] at nd
      have nd2 := List.nodup_append.mp nd
      refine List.nodup_append.mpr ⟨nd2.1, h.nd.sublist (List.drop_sublist _ _), fun y hy z hz => nd2.2.2 y hy z ?_⟩
      have : (d.cells.map (·.1)).drop r.2.toNat = ((d.cells.map (·.1)).drop r.1.toNat).drop (r.2.toNat - r.1.toNat) := by rw [List.drop_drop]; congr 1; omega
      rw [this] at hz
      exact List.mem_of_mem_drop hz
    · obtain ⟨b0, hb0, rfl⟩ := List.mem_map.mp hb
      exact h.names b0 (List.mem_filter.mp hb0).1
theorem done_di {m : Nat} {room : Int} (hr : room ≤ 24) : ∀ {xs : List Deed} {sign : Int} {W : Int → Int} {d d1 : Dr} {os : List D}, DrI W sign d → okDr m d → (∀ x ∈ xs, okD x ∧ okT x) → doneF m room d xs sign = .ok (d1, os) → okDr m d1 ∧ ∃ W', (∀ i, i < sign → W' i = W i) ∧ DrI W' (sign + 400 * (xs.length : Nat)) d1
  | [], sign, W, d, d1, os, h, ok, _, e => by
    simp only [doneF] at e
    cases e
    exact ⟨ok, W, fun _ _ => rfl, h.more (fun _ _ => rfl) (by simp)⟩
  | x :: xs, sign, W, d, d1, os, h, ok, hx, e => by
    simp only [doneF] at e
    cases e1 : stepF m room d sign x with
    | error r => rw [e1] at e; cases e
    | ok q =>
      obtain ⟨d2, o⟩ := q
      rw [e1] at e
      simp only at e
      cases e2 : doneF m room d2 xs (sign + 400) with
      | error r => rw [e2] at e; cases e
      | ok q =>
        obtain ⟨d3, os2⟩ := q
        rw [e2] at e
        cases e
        obtain ⟨W1, a1, h1⟩ := step_di h ok (hx x List.mem_cons_self).1 (hx x List.mem_cons_self).2 e1
        obtain ⟨ok2, W2, a2, h2⟩ := done_di hr h1 (stepF_ok hr ok e1) (fun y hy => hx y (List.mem_cons_of_mem _ hy)) e2
        refine ⟨ok2, W2, fun i hi => by rw [a2 i (by omega), a1 i hi], ?_⟩
        have : sign + 400 + 400 * ((xs.length : Nat) : Int) = sign + 400 * (((x :: xs).length : Nat) : Int) := by rw [List.length_cons]; omega
        rw [← this]
        exact h2
theorem settle_st {t : Tb} {W W' : Int → Int} {fr fr' : Int} {s : StM} {d : Dr} (hs : StI t W fr s) (e : ∀ i, i < fr → W' i = W i) (ok : okDr t.length d) (h : DrI W' fr' d) : StI t W' fr' (settleF t s.joins d).1 := by
  refine ⟨ok, h, rfl, rfl, fun p hp => ?_, fun key => joinsF_is⟩
  obtain ⟨k, hk, rfl⟩ := joinsF_mem hp
  refine ⟨?_, signs_lt h.cells k⟩
  show joinAt t s.joins d.cells k = foldJ t ((signsF d.cells k).map W')
  unfold joinAt
  cases hv : valG s.joins (signsF d.cells k) with
  | some v =>
    obtain ⟨h1, h2⟩ := hs.joins _ (valG_mem hv)
    show v = _
    rw [show v = _ from h1, List.map_congr_left fun i hi => (e i (h2 i hi)).symm]
  | none =>
    show foldJ t (worthsF d.cells k) = _
    rw [signs_worths h.cells]
/-- a larder behind any deeds, no more than n steps, taken back or not -/
structure LarW (n : Nat) (W : Int → Int) (L : LmM) : Prop where
  tab : isTab L.t
  r0 : 0 ≤ L.room
  r1 : L.room ≤ 24
  steps : L.past.length + L.future.length ≤ n
  here : StI L.t W L.fresh L.here
  past : ∀ s ∈ L.past, StI L.t W L.fresh s
  fut : ∀ s ∈ L.future, StI L.t W L.fresh s
  news : L.news.length ≤ 24
theorem LarW.ok {n : Nat} {W : Int → Int} {L : LmM} (h : LarW n W L) (hn : n ≤ 1000 := by decide) : okL L := ⟨h.tab, h.r1, h.here.dr, by have := h.steps; omega⟩
theorem newsF_le {old : List (List Int × Int)} {cells : List (Int × Int)} {m : Nat} {d : Dr} (ok : okDr m d) : (newsF old cells (planS d.asks).1).length ≤ 24 := Nat.le_trans newsF_len ok.klen
theorem LarW.tog {n : Nat} {W : Int → Int} {L L1 : LmM} {xs : List Deed} {os : List D} (h : LarW n W L) (hx : ∀ x ∈ xs, okD x ∧ okT x) (e : togF L xs = .ok (L1, os)) : ∃ W', LarW (n + 1) W' L1 := by
  unfold togF at e
  cases e1 : doneF L.t.length L.room ⟨L.here.cells, L.here.asks⟩ xs L.fresh with
  | error r => rw [e1] at e; cases e
  | ok q =>
    obtain ⟨d, os2⟩ := q
    rw [e1] at e
    simp only at e
    split at e
    · cases e
      exact ⟨W, h.tab, h.r0, h.r1, Nat.le_succ_of_le h.steps, h.here, h.past, h.fut, h.news⟩
    · cases e
      obtain ⟨ok, W', a, di⟩ := done_di h.r1 h.here.di h.here.dr hx e1
      have lf : L.fresh ≤ L.fresh + 400 * ((xs.length : Nat) : Int) := by omega
      refine ⟨W', h.tab, h.r0, h.r1, ?_, settle_st h.here a ok di, fun s hs => ?_, fun s hs => (by cases hs), newsF_le ok⟩
      · show (L.past ++ [L.here]).length + 0 ≤ n + 1
        rw [List.length_append, List.length_singleton]
        have := h.steps
        omega
      · rcases List.mem_append.mp hs with hs | hs
        · exact (h.past s hs).more a lf
        · obtain rfl : s = L.here := by simpa using hs
          exact h.here.more a lf
theorem LarW.one {n : Nat} {W : Int → Int} {L L1 : LmM} {x : Deed} {o : D} (h : LarW n W L) (o1 : okD x) (o2 : okT x) (e : oneF L x = .ok (L1, o)) : ∃ W', LarW (n + 1) W' L1 := by
  have z := togF_one (L := L) (x := x)
  rw [e] at z
  exact h.tog (fun y hy => by have := List.mem_singleton.mp hy; subst this; exact ⟨o1, o2⟩) z
end LW
namespace LW
open PySem L2 DL
theorem putG_perm {l m : Asks} {k : Str} {v : Sp2} (h : l.Perm m) : (putG l k v).Perm (putG m k v) := by
  unfold putG
  have e : (l.any fun kv => decide (kv.1 = k)) = (m.any fun kv => decide (kv.1 = k)) := by
    rw [Bool.eq_iff_iff, List.any_eq_true, List.any_eq_true]
    exact ⟨fun ⟨a, h1, h2⟩ => ⟨a, h.mem_iff.mp h1, h2⟩, fun ⟨a, h1, h2⟩ => ⟨a, h.mem_iff.mpr h1, h2⟩⟩
  rw [e]
  split
  · exact h.map _
  · exact h.append_right _
def relS (p q : Except Rf (Dr × D)) : Prop := match p, q with
  | .error r, .error s => r = s
  | .ok (d, o), .ok (e, o2) => o = o2 ∧ d.cells.map (·.2) = e.cells.map (·.2) ∧ d.asks.Perm e.asks
  | _, _ => False
theorem cells_len {d e : Dr} (h : d.cells.map (·.2) = e.cells.map (·.2)) : d.cells.length = e.cells.length := by
  have := congrArg List.length h
  simpa using this
/-- what a deed does hangs on worths and asks alone -/
theorem step_rel {m : Nat} {room s1 s2 : Int} {d e : Dr} (hc : d.cells.map (·.2) = e.cells.map (·.2)) (hp : d.asks.Perm e.asks) (nd : (e.asks.map (·.1)).Nodup) (x : Deed) : relS (stepF m room d s1 x) (stepF m room e s2 x) := by
  have hl := cells_len hc
  have nd2 : (d.asks.map (·.1)).Nodup := ((hp.map _).nodup_iff).mpr nd
  cases x with
  | ask n s en =>
    simp only [stepF, askS]
    rw [val_perm hp nd2 n, hp.length_eq, hl]
    split
    · rfl
    split
    · rfl
    split
    · rfl
    cases lookF e.cells.length s en with
    | none => rfl
    | some r => exact ⟨rfl, hc, putG_perm hp⟩
  | drop n =>
    simp only [stepF, dropS]
    rw [val_perm hp nd2 n]
    cases valG e.asks n with
    | none => rfl
    | some r => exact ⟨rfl, hc, hp.filter _⟩
  | move n s en =>
    simp only [stepF, moveS]
    rw [val_perm hp nd2 n, hl]
    cases valG e.asks n with
    | none => rfl
    | some r =>
      simp only
      cases lookF e.cells.length s en with
      | none => rfl
      | some q => exact ⟨rfl, hc, putG_perm hp⟩
  | write a w =>
    simp only [stepF, writeS]
    rw [hl]
    split
    · rfl
    split
    · rfl
    refine ⟨?_, ?_, hp⟩
    · have z : ∀ cs : List (Int × Int), (cs.getD a.toNat (0, 0)).2 = (cs.map (·.2)).getD a.toNat 0 := fun cs => by
        rw [List.getD_eq_getElem?_getD, List.getD_eq_getElem?_getD, List.getElem?_map]
        cases cs[a.toNat]? <;> rfl
      rw [z, z, hc]
    · rw [List.map_set, List.map_set, hc]
  | pin a ws =>
    simp only [stepF, pinS]
    rw [hl]
    split
    · rfl
    split
    · rfl
    split
    · rfl
    refine ⟨rfl, ?_, hp.map _⟩
    rw [List.map_append, List.map_append, List.map_append, List.map_append, List.map_take, List.map_take, List.map_drop, List.map_drop, hc, newCells_ws, newCells_ws]
  | out s en =>
    simp only [stepF, outS]
    rw [hl]
    cases lookF e.cells.length s en with
    | none => rfl
    | some r =>
      refine ⟨?_, ?_, (hp.filter _).map _⟩
      · try simp only
        rw [sortN_congr ((hp.filter (goneF r.1 r.2)).map (·.1))]
      · try simp only
        unfold cutL
        rw [List.map_append, List.map_append, List.map_take, List.map_take, List.map_drop, List.map_drop, hc]
theorem oneL_of {L : LmM} {x : Deed} {d : Dr} {o : D} (h : stepF L.t.length L.room ⟨L.here.cells, L.here.asks⟩ L.fresh x = .ok (d, o)) : oneF L x = .ok (oneL L d, o) := by
  unfold oneF
  rw [h]
/-- the larder at p and a law's state: worths, asks at pa -/
structure LarS (CJ CS CLr : Addr) (M : Mp) (p pp pf pa : Addr) (n : Nat) (t : Tb) (L : LmM) (ws : List Int) (la : Asks) : Prop where
  at_ : LAt CJ CS CLr M p pp pf L
  w : ∃ W, LarW n W L
  tt : L.t = t
  room : L.room = 24
  cw : L.here.cells.map (·.2) = ws
  lp : la.Perm L.here.asks
  dic : M pa = some (.dic (asksK la))
section
variable {CJ CS CLr : Addr} {M M2 : Mp} {p pp pf pa : Addr} {n : Nat} {t : Tb} {L : LmM} {ws : List Int} {la : Asks}
theorem LarS.dr (h : LarS CJ CS CLr M p pp pf pa n t L ws la) : okDr t.length (dL ws la) := by
  obtain ⟨W, w⟩ := h.w
  obtain ⟨h1, h2, h3, h4, h5⟩ := w.here.dr
  rw [h.tt] at h5
  have hl : ws.length = L.here.cells.length := by rw [← h.cw, List.length_map]
  refine ⟨by rw [dL_len, hl]; exact h1, by show la.length ≤ 24; rw [h.lp.length_eq]; exact h2, ((h.lp.map _).nodup_iff).mpr h3, fun a ha => ?_, fun c hc => ?_⟩
  · rw [dL_len, hl]
    exact h4 a (h.lp.mem_iff.mp ha)
  · obtain ⟨w2, hw, rfl⟩ := List.mem_map.mp hc
    rw [← h.cw] at hw
    obtain ⟨c2, hc2, e⟩ := List.mem_map.mp hw
    show inJ t.length w2
    rw [← e]
    exact h5 c2 hc2
theorem LarS.names (h : LarS CJ CS CLr M p pp pf pa n t L ws la) : ∀ a ∈ la, a.1.length ≤ 1000 ∧ PyData.strOk a.1 = true := fun a ha => by
  obtain ⟨W, w⟩ := h.w
  exact w.here.di.names a (h.lp.mem_iff.mp ha)
theorem LarS.tab (h : LarS CJ CS CLr M p pp pf pa n t L ws la) : isTab t := by
  obtain ⟨W, w⟩ := h.w
  rw [← h.tt]
  exact w.tab
theorem LarS.ext (h : LarS CJ CS CLr M p pp pf pa n t L ws la) (x : Ext M M2) : LarS CJ CS CLr M2 p pp pf pa n t L ws la := ⟨h.at_.extL x, h.w, h.tt, h.room, h.cw, h.lp, x _ _ h.dic⟩
/-- a deed that is due "" stands -/
theorem LarS.one (h : LarS CJ CS CLr M p pp pf pa n t L ws la) {x : Deed} (o1 : okD x) (o2 : okT x) {d1 : Dr} {o : D} (e : stepF t.length 24 (dL ws la) 0 x = .ok (d1, o)) :
    ∃ L1, oneF L x = .ok (L1, o) ∧ (∃ W, LarW (n + 1) W L1) ∧ L1.t = t ∧ L1.room = 24 ∧ L1.here.cells.map (·.2) = d1.cells.map (·.2) ∧ d1.asks.Perm L1.here.asks := by
  obtain ⟨W, w⟩ := h.w
  have r := step_rel (m := t.length) (room := 24) (s1 := 0) (s2 := L.fresh) (d := dL ws la) (e := ⟨L.here.cells, L.here.asks⟩) (by rw [dL_ws]; exact h.cw.symm) h.lp w.here.dr.2.2.1 x
  rw [e] at r
  cases e2 : stepF t.length 24 ⟨L.here.cells, L.here.asks⟩ L.fresh x with
  | error z => rw [e2] at r; exact r.elim
  | ok q =>
    obtain ⟨d2, o3⟩ := q
    rw [e2] at r
    obtain ⟨rfl, r2, r3⟩ := r
    have e3 : oneF L x = .ok (oneL L d2, o) := oneL_of (by rw [h.tt, h.room]; exact e2)
    exact ⟨_, e3, w.one o1 o2 e3, h.tt, h.room, r2.symm, r3⟩
end
/-- all but a larder's own cells is as it was -/
def Fr3 (p pp pf : Addr) (M M2 : Mp) : Prop := ∀ a c, a ≠ p → a ≠ pp → a ≠ pf → M a = some c → M2 a = some c
theorem Fr3.ext {p pp pf : Addr} {M M2 : Mp} (x : Ext M M2) : Fr3 p pp pf M M2 := fun a c _ _ _ e => x a c e
theorem Fr3.trans {p pp pf pf2 : Addr} {M M2 M3 : Mp} (h : Fr3 p pp pf M M2) (g : Fr3 p pp pf2 M2 M3) (n : pf2 = pf ∨ M pf2 = none) : Fr3 p pp pf M M3 := fun a c h1 h2 h3 e => g a c h1 h2 (fun z => by
  rcases n with n | n
  · exact h3 (z.trans n)
  · rw [← z, e] at n
    cases n) (h a c h1 h2 h3 e)
end LW
namespace LW
open PySem L2 DL
theorem worths_range {cells : List (Int × Int)} {s : Sp2} : worthsF cells s = rangeF (cells.map (·.2)) s := by
  unfold worthsF rangeF
  rw [List.map_take, List.map_drop]
theorem foldl_in {t : Tb} (T : isTab t) : ∀ (ws : List Int) (w : Int), inJ t.length w → (∀ v ∈ ws, inJ t.length v) → inJ t.length (ws.foldl (opJ t) w)
  | [], w, h, _ => h
  | v :: ws, w, h, hv => by
    rw [List.foldl_cons]
    obtain ⟨_, _, _, h3⟩ := cell_at T h (hv v List.mem_cons_self)
    exact foldl_in T ws _ h3 fun x hx => hv x (List.mem_cons_of_mem _ hx)
theorem fold_in {t : Tb} (T : isTab t) {ws : List Int} (hn : ws ≠ []) (h : ∀ v ∈ ws, inJ t.length v) : inJ t.length (foldJ t ws) := by
  cases ws with
  | nil => exact absurd rfl hn
  | cons w ws => exact foldl_in T ws w (h w List.mem_cons_self) fun x hx => h x (List.mem_cons_of_mem _ hx)
theorem mem_range {α : Type} {xs : List α} {s : Sp2} (h0 : 0 ≤ s.1) (h2 : s.2 ≤ (xs.length : Int)) {x : α} : x ∈ rangeF xs s ↔ ∃ c : Int, s.1 ≤ c ∧ c < s.2 ∧ xs[c.toNat]? = some x := by
  unfold rangeF
  rw [List.mem_iff_getElem?]
  constructor
  · rintro ⟨i, hi⟩
    have hl := (List.getElem?_eq_some_iff.mp hi).1
    rw [List.length_take, List.length_drop] at hl
    rw [List.getElem?_take_of_lt (by omega), List.getElem?_drop] at hi
    exact ⟨s.1 + (i : Int), by omega, by omega, by rw [show (s.1 + (i : Int)).toNat = s.1.toNat + i by omega]; exact hi⟩
  · rintro ⟨c, h3, h4, h5⟩
    refine ⟨c.toNat - s.1.toNat, ?_⟩
    rw [List.getElem?_take_of_lt (by omega), List.getElem?_drop, show s.1.toNat + (c.toNat - s.1.toNat) = c.toNat by omega]
    exact h5
theorem range_ne {α : Type} {xs : List α} {s : Sp2} (h0 : 0 ≤ s.1) (h1 : s.1 < s.2) (h2 : s.2 ≤ (xs.length : Int)) : rangeF xs s ≠ [] := fun z => by
  have := rangeF_len (xs := xs) h2
  rw [z, List.length_nil] at this
  omega
theorem range_in {m : Nat} {ws : List Int} {s : Sp2} (h : ∀ w ∈ ws, inJ m w) : ∀ w ∈ rangeF ws s, inJ m w := fun w hw => h w (List.mem_of_mem_drop (List.mem_of_mem_take hw))
theorem planS_perm {a b : Asks} (h : a.Perm b) : planS a = planS b := by
  unfold planS
  rw [spLt_uniq (dstF_ok (a.map (·.2))).1 (dstF_ok (b.map (·.2))).1 fun s => by rw [(dstF_ok _).2.1, (dstF_ok _).2.1, (h.map _).mem_iff]]
section
variable {CJ CS CLr : Addr} {M M2 : Mp} {p pp pf pa : Addr} {n : Nat} {t : Tb} {L : LmM} {ws : List Int} {la : Asks}
theorem LarS.hdr (h : LarS CJ CS CLr M p pp pf pa n t L ws la) : okDr t.length ⟨L.here.cells, L.here.asks⟩ := by
  obtain ⟨W, w⟩ := h.w
  have := w.here.dr
  rw [h.tt] at this
  exact this
theorem LarS.wl (h : LarS CJ CS CLr M p pp pf pa n t L ws la) : L.here.cells.length = ws.length := by rw [← h.cw, List.length_map]
theorem LarS.win (h : LarS CJ CS CLr M p pp pf pa n t L ws la) : ∀ w ∈ ws, inJ t.length w := fun w hw => by
  rw [← h.cw] at hw
  obtain ⟨c, hc, rfl⟩ := List.mem_map.mp hw
  exact h.hdr.2.2.2.2 c hc
theorem LarS.keptE (h : LarS CJ CS CLr M p pp pf pa n t L ws la) : L.here.kept = (planS la).1 ∧ L.here.marks = (planS la).2 := by
  obtain ⟨W, w⟩ := h.w
  rw [planS_perm h.lp]
  exact ⟨w.here.kept, w.here.marks⟩
theorem LarS.pla (h : LarS CJ CS CLr M p pp pf pa n t L ws la) : PlanP (dstF (la.map (·.2))) L.here.kept L.here.marks := by
  rw [h.keptE.1, h.keptE.2]
  exact need_row h.dr.ok
theorem LarS.keep (h : LarS CJ CS CLr M p pp pf pa n t L ws la) : ∀ k ∈ L.here.kept, 0 ≤ k.1 ∧ k.1 < k.2 ∧ k.2 ≤ (ws.length : Int) ∧ valG L.here.joins (signsF L.here.cells k) = some (foldJ t (rangeF ws k)) ∧ inJ t.length (foldJ t (rangeF ws k)) := fun k hk => by
  obtain ⟨W, w⟩ := h.w
  have hj := w.here.join hk
  rw [h.tt, worths_range, h.cw] at hj
  have hk2 := hk
  rw [h.keptE.1] at hk2
  obtain ⟨k0, k1, k2⟩ := h.dr.kept k hk2
  rw [dL_len] at k2
  exact ⟨k0, k1, k2, hj, fold_in h.tab (range_ne k0 k1 k2) (range_in h.win)⟩
theorem LarS.klen (h : LarS CJ CS CLr M p pp pf pa n t L ws la) : L.here.kept.length ≤ 24 := by
  rw [h.keptE.1]
  exact h.dr.klen
theorem LarS.w400 (h : LarS CJ CS CLr M p pp pf pa n t L ws la) : ws.length ≤ 400 := by
  have := h.dr.1
  rw [dL_len] at this
  exact this
theorem LarS.nd (h : LarS CJ CS CLr M p pp pf pa n t L ws la) : (la.map (·.1)).Nodup := h.dr.2.2.1
theorem LarS.val (h : LarS CJ CS CLr M p pp pf pa n t L ws la) (k : Str) : valG L.here.asks k = valG la k := (val_perm h.lp h.nd k).symm
theorem LarS.sp (h : LarS CJ CS CLr M p pp pf pa n t L ws la) {k : Str} {r : Sp2} (hv : valG la k = some r) : 0 ≤ r.1 ∧ r.1 < r.2 ∧ r.2 ≤ (ws.length : Int) := by
  have := h.dr.2.2.2.1 _ (valG_mem hv)
  rw [dL_len] at this
  exact this
theorem LarS.okS (h : LarS CJ CS CLr M p pp pf pa n t L ws la) {k : Str} {r : Sp2} (hv : valG la k = some r) : okS r := by
  have := h.sp hv
  have := h.w400
  exact ⟨by omega, by omega, by omega⟩
/-- what an ask is opened to -/
theorem LarS.open (h : LarS CJ CS CLr M p pp pf pa n t L ws la) {k : Str} {r : Sp2} (hv : valG la k = some r) : ∃ F Cs, openO r L.here.kept = .ok (F, Cs) ∧ F ≠ [] ∧ F.length ≤ 400 ∧ (∀ s ∈ F, s ∈ L.here.kept ∧ r.1 ≤ s.1 ∧ s.2 ≤ r.2) ∧ ∀ c, r.1 ≤ c → c < r.2 → ∃ s ∈ F, s.1 ≤ c ∧ c < s.2 := by
  have sp := h.sp hv
  obtain ⟨F, Cs, e, P⟩ := open_ok (a := r) (ks := L.here.kept) (h.okS hv) fun c c0 c1 => h.pla.all r (((dstF_ok _).2.1 r).mpr (List.mem_map.mpr ⟨_, valG_mem hv, rfl⟩)) c c0 c1
  obtain ⟨h1, _⟩ := goO_len _ _ _ _ _ e
  refine ⟨F, Cs, e, fun z => ?_, by simpa using h1, fun s hs => ?_, P.all⟩
  · obtain ⟨s, hs, _⟩ := P.all r.1 (Int.le_refl _) sp.2.1
    rw [z] at hs
    cases hs
  · have := P.mem s hs
    obtain ⟨h2, h3⟩ := List.mem_filter.mp this
    have h3 := of_decide_eq_true h3
    exact ⟨h2, h3.1, h3.2⟩
end
end LW
namespace LW
open PySem L2 DL
section
variable {CJ CS CLr : Addr} {M M2 : Mp} {p pp pf pa : Addr} {n : Nat} {t : Tb} {L : LmM} {ws : List Int} {la : Asks}
theorem LarS.ok (h : LarS CJ CS CLr M p pp pf pa n t L ws la) (hn : n ≤ 1000 := by omega) : okL L := by
  obtain ⟨W, w⟩ := h.w
  exact w.ok hn
theorem LarW.mono {n m : Nat} {W : Int → Int} {L : LmM} (h : LarW n W L) (hm : n ≤ m) : LarW m W L := ⟨h.tab, h.r0, h.r1, Nat.le_trans h.steps hm, h.here, h.past, h.fut, h.news⟩
theorem LarS.mono {m : Nat} (h : LarS CJ CS CLr M p pp pf pa n t L ws la) (hm : n ≤ m) : LarS CJ CS CLr M p pp pf pa m t L ws la := by
  obtain ⟨W, w⟩ := h.w
  exact ⟨h.at_, ⟨W, w.mono hm⟩, h.tt, h.room, h.cw, h.lp, h.dic⟩
/-- cells of another kind are none of the larder's -/
theorem LAt.off {q : Addr} {c : Cell} (h : LAt CJ CS CLr M p pp pf L) (e : M q = some c) (h1 : ∀ C fs, c ≠ .ins C fs) (h2 : ∀ xs, c ≠ .lst xs) : q ≠ p ∧ q ≠ pp ∧ q ≠ pf :=
  ⟨fun z => (by rw [z, h.self] at e; cases e; exact h1 _ _ rfl), fun z => (by rw [z, h.past] at e; cases e; exact h2 _ rfl), fun z => (by rw [z, h.fut] at e; cases e; exact h2 _ rfl)⟩
theorem Fr3.at {p pp pf : Addr} {M M2 : Mp} (h : Fr3 p pp pf M M2) {q : Addr} {c : Cell} (n : q ≠ p ∧ q ≠ pp ∧ q ≠ pf) (e : M q = some c) : M2 q = some c := h q c n.1 n.2.1 n.2.2 e
/-- a deed done by larder and law alike -/
theorem LarS.done {M4 : Mp} {pf2 pa4 : Addr} {d1 : Dr} {L1 : LmM} {la4 : Asks} (hL : LAt CJ CS CLr M2 p pp pf2 L1) (w : ∃ W, LarW (n + 1) W L1) (t1 : L1.t = t) (r1 : L1.room = 24) (c1 : L1.here.cells.map (·.2) = d1.cells.map (·.2)) (p1 : d1.asks.Perm L1.here.asks) (pm : la4.Perm d1.asks) (hd : M4 pa4 = some (.dic (asksK la4))) (X : Ext M2 M4) : LarS CJ CS CLr M4 p pp pf2 pa4 (n + 1) t L1 (d1.cells.map (·.2)) la4 :=
  ⟨hL.extL X, w, t1, r1, c1, pm.trans p1, hd⟩
end
end LW
namespace LW
open PySem L2 DL
/-- a kept stretch with its join -/
def shD (v : Sp2 → Int) (k : Sp2) : D := .tup [.tup [.int k.1, .int k.2], .int (v k)]
theorem LAt.upN {CJ CS CLr : Addr} {M : Mp} {p pp pf q : Addr} {L : LmM} {c : Cell} (h : LAt CJ CS CLr M p pp pf L) (n : q ≠ p ∧ q ≠ pp ∧ q ≠ pf) : LAt CJ CS CLr (mup M q c) p pp pf L :=
  ⟨by rw [mup_ne (Ne.symm n.1)]; exact h.self, by rw [mup_ne (Ne.symm n.2.1)]; exact h.past, by rw [mup_ne (Ne.symm n.2.2)]; exact h.fut, h.ne⟩
end LW
namespace LW
open PySem L2 DL
theorem range_set {α : Type} {xs : List α} {k : Sp2} {a : Int} {x : α} (a0 : 0 ≤ a) (h : ¬ (k.1 ≤ a ∧ a < k.2)) (k0 : 0 ≤ k.1) : rangeF (xs.set a.toNat x) k = rangeF xs k := by
  unfold rangeF
  refine List.ext_getElem? fun i => ?_
  rw [List.getElem?_take, List.getElem?_take]
  split
  · rw [List.getElem?_drop, List.getElem?_drop, List.getElem?_set]
    rw [if_neg (by omega)]
  · rfl
theorem range_set_in {α : Type} {xs : List α} {k : Sp2} {a : Int} {x : α} (k0 : 0 ≤ k.1) (k2 : k.2 ≤ (xs.length : Int)) (h1 : k.1 ≤ a) (h2 : a < k.2) : x ∈ rangeF (xs.set a.toNat x) k :=
  (mem_range k0 (by rw [List.length_set]; exact k2)).mpr ⟨a, h1, h2, by rw [List.getElem?_set_self (by omega)]⟩
section
variable {CJ CS CLr : Addr} {M M2 : Mp} {p pp pf pa : Addr} {n : Nat} {t : Tb} {L : LmM} {ws : List Int} {la : Asks}
/-- news of a written cell -/
theorem write_news (hS : LarS CJ CS CLr M p pp pf pa n t L ws la) {a w : Int} (a0 : 0 ≤ a) (a1 : a < (ws.length : Int)) : newsF L.here.joins (L.here.cells.set a.toNat (L.fresh, w)) L.here.kept = L.here.kept.filter fun k => decide (k.1 ≤ a ∧ a < k.2) := by
  obtain ⟨W, lw⟩ := hS.w
  unfold newsF
  refine List.filter_congr fun k hk => ?_
  obtain ⟨k0, k1, k2, _, _⟩ := hS.keep k hk
  by_cases h : k.1 ≤ a ∧ a < k.2
  · rw [decide_eq_true h, Option.isNone_iff_eq_none]
    cases e : valG L.here.joins (signsF (L.here.cells.set a.toNat (L.fresh, w)) k) with
    | none => rfl
    | some v =>
      exfalso
      have hl := (lw.here.joins _ (valG_mem e)).2
      have hm : L.fresh ∈ signsF (L.here.cells.set a.toNat (L.fresh, w)) k := by
        unfold signsF
        exact List.mem_map.mpr ⟨(L.fresh, w), range_set_in k0 (by rw [hS.wl]; exact k2) h.1 h.2, rfl⟩
      have := hl _ hm
      omega
  · rw [decide_eq_false h]
    have e : signsF (L.here.cells.set a.toNat (L.fresh, w)) k = signsF L.here.cells k := by
      unfold signsF
      rw [range_set a0 h k0]
    rw [e]
    have := (lw.here.keys (signsF L.here.cells k)).mpr ⟨k, hk, rfl⟩
    cases e2 : valG L.here.joins (signsF L.here.cells k) with
    | none => rw [e2] at this; cases this
    | some v => rfl
/-- a cell is written -/
theorem LarS.write (hS : LarS CJ CS CLr M p pp pf pa n t L ws la) {a w : Int} (a0 : 0 ≤ a) (a1 : a < (ws.length : Int)) (hw : inJ t.length w) :
    ∃ L1, oneF L (.write a w) = .ok (L1, .int (ws.getD a.toNat 0)) ∧ (∃ W, LarW (n + 1) W L1) ∧ L1.t = t ∧ L1.room = 24 ∧ L1.here.cells.map (·.2) = ws.set a.toNat w ∧ la.Perm L1.here.asks ∧ L1.here.kept = L.here.kept ∧ L1.news = L.here.kept.filter fun k => decide (k.1 ≤ a ∧ a < k.2) := by
  obtain ⟨W, lw⟩ := hS.w
  have e := one_write (L := L) (a := a) (w := w) ⟨a0, by rw [hS.wl]; exact a1⟩ (by rw [hS.tt]; exact hw)
  have ev : (L.here.cells.getD a.toNat (0, 0)).2 = ws.getD a.toNat 0 := by
    rw [← hS.cw, List.getD_eq_getElem?_getD, List.getD_eq_getElem?_getD, List.getElem?_map]
    cases L.here.cells[a.toNat]? <;> rfl
  rw [ev] at e
  refine ⟨_, e, lw.one (x := .write a w) True.intro True.intro e, hS.tt, hS.room, ?_, hS.lp, ?_, ?_⟩
  · show (L.here.cells.set a.toNat (L.fresh, w)).map (·.2) = _
    rw [List.map_set, hS.cw]
  · exact lw.here.kept.symm
  · show newsF L.here.joins (L.here.cells.set a.toNat (L.fresh, w)) (planS L.here.asks).1 = _
    rw [← lw.here.kept]
    exact write_news hS a0 a1
end
end LW
namespace DL
open PySem PySem.Spec PyProof.Rows L2 LamX NdefX
end DL
namespace L2
open PySem PySem.Spec PyProof.Rows
end L2
namespace DL
open PySem L2
end DL
namespace LW
open PySem L2 DL
/-- a state that a law keeps beside a step of its larder -/
abbrev Zs := StM × Addr × Asks
def zD (z : Zs) : D := stD (z.1.cells.map (·.2)) z.2.1
def ZR (M : Mp) (z : Zs) : Prop := z.2.2.Perm z.1.asks ∧ M z.2.1 = some (.dic (asksK z.2.2))
section
variable {CJ CS CLr : Addr} {M M2 : Mp} {p pp pf pf2 pa : Addr} {n : Nat} {t : Tb} {L : LmM} {ws : List Int} {la : Asks}
theorem LarS.steps (h : LarS CJ CS CLr M p pp pf pa n t L ws la) : L.past.length + L.future.length ≤ n := by
  obtain ⟨W, w⟩ := h.w
  exact w.steps
/-- the law's two rows of states: those at a1 and those at a2 -/
structure Rows (M : Mp) (p pp pf a1 a2 : Addr) (zs us : List Zs) : Prop where
  c1 : M a1 = some (.lst (zs.map zD))
  c2 : M a2 = some (.lst (us.map zD))
  z1 : ∀ z ∈ zs, ZR M z
  z2 : ∀ z ∈ us, ZR M z
  o1 : a1 ≠ p ∧ a1 ≠ pp ∧ a1 ≠ pf
  o2 : a2 ≠ p ∧ a2 ≠ pp ∧ a2 ≠ pf
  ne : a1 ≠ a2
variable {a1 a2 : Addr} {zs us : List Zs}
theorem Rows.swap (h : Rows M p pp pf a1 a2 zs us) : Rows M p pp pf a2 a1 us zs := ⟨h.c2, h.c1, h.z2, h.z1, h.o2, h.o1, Ne.symm h.ne⟩
theorem ZR.up {z : Zs} (h : ZR M z) {q : Addr} {xs : List D} {c : Cell} (e : M q = some (.lst xs)) : ZR (mup M q c) z := ⟨h.1, by rw [mup_ne fun y => by rw [← y, h.2] at e; cases e]; exact h.2⟩
theorem ZR.ext {z : Zs} (h : ZR M z) (x : Ext M M2) : ZR M2 z := ⟨h.1, x _ _ h.2⟩
theorem ZR.fr {z : Zs} (h : ZR M z) (hL : LAt CJ CS CLr M p pp pf L) (x : Fr3 p pp pf M M2) : ZR M2 z := ⟨h.1, x.at (hL.off h.2 (fun _ _ z => by cases z) (fun _ z => by cases z)) h.2⟩
theorem Rows.ext (h : Rows M p pp pf a1 a2 zs us) (x : Ext M M2) : Rows M2 p pp pf a1 a2 zs us := ⟨x _ _ h.c1, x _ _ h.c2, fun z hz => (h.z1 z hz).ext x, fun z hz => (h.z2 z hz).ext x, h.o1, h.o2, h.ne⟩
theorem Rows.fr (h : Rows M p pp pf a1 a2 zs us) (hL : LAt CJ CS CLr M p pp pf L) (x : Fr3 p pp pf M M2) (y : pf2 = pf ∨ M pf2 = none) : Rows M2 p pp pf2 a1 a2 zs us := by
  refine ⟨x.at h.o1 h.c1, x.at h.o2 h.c2, fun z hz => (h.z1 z hz).fr hL x, fun z hz => (h.z2 z hz).fr hL x, ⟨h.o1.1, h.o1.2.1, fun z => ?_⟩, ⟨h.o2.1, h.o2.2.1, fun z => ?_⟩, h.ne⟩
  · rcases y with y | y
    · exact h.o1.2.2 (z.trans y)
    · rw [← z, h.c1] at y
      cases y
  · rcases y with y | y
    · exact h.o2.2.2 (z.trans y)
    · rw [← z, h.c2] at y
      cases y
/-- x goes behind the second row, the first one's last one goes -/
theorem Rows.move {z x : Zs} (h : Rows M p pp pf a1 a2 (zs ++ [z]) us) (hx : ZR M x) : Rows (mup (mup M a2 (.lst (us.map zD ++ [zD x]))) a1 (.lst (zs.map zD))) p pp pf a1 a2 zs (us ++ [x]) := by
  have e1 : mup M a2 (.lst (us.map zD ++ [zD x])) a1 = some (.lst ((zs ++ [z]).map zD)) := by rw [mup_ne h.ne]; exact h.c1
  refine ⟨mup_same, by rw [mup_ne (Ne.symm h.ne), mup_same, List.map_append]; rfl, fun y hy => ((h.z1 y (List.mem_append_left _ hy)).up h.c2).up e1, fun y hy => ?_, h.o1, h.o2, h.ne⟩
  rcases List.mem_append.mp hy with hy | hy
  · exact ((h.z2 y hy).up h.c2).up e1
  · rw [List.mem_singleton.mp hy]
    exact (hx.up h.c2).up e1
theorem LarS.up (h : LarS CJ CS CLr M p pp pf pa n t L ws la) {q : Addr} {xs : List D} {c : Cell} (o : q ≠ p ∧ q ≠ pp ∧ q ≠ pf) (e : M q = some (.lst xs)) : LarS CJ CS CLr (mup M q c) p pp pf pa n t L ws la :=
  ⟨h.at_.upN o, h.w, h.tt, h.room, h.cw, h.lp, by rw [mup_ne fun y => by rw [← y, h.dic] at e; cases e]; exact h.dic⟩
end
end LW
namespace LW
open PySem L2 DL
def rngL (n : Nat) : List Int := (List.range n).map fun (k : Nat) => (k : Int)
theorem rng_rngL {n : Nat} : rngD 0 1 ((n : Int).toNat) = (rngL n).map D.int := by
  unfold rngD rngL
  rw [List.map_map, show ((n : Int).toNat) = n from by omega]
  refine List.map_congr_left fun k _ => ?_
  show D.int (0 + (k : Int) * 1) = D.int (k : Int)
  rw [show (0 + (k : Int) * 1) = (k : Int) from by omega]
end LW
namespace DL
open PySem PySem.Spec PyProof.Rows L2 LamX NdefX
section
variable {P : Program} {w : World} {K : PySem.W.Frag} {mg : Str → Option Value} {base : Heap} {T : List (Addr × Str)}
structure HofC (P : Program) (w : World) (K : PySem.W.Frag) (mg : Str → Option Value) (base : Heap) (T : List (Addr × Str)) (x : Str) (k kl : Nat) (ps : List Str) (sp : D → DSp → DSp) : Prop where
  ex : ∃ g, mg x = some (.ref g) ∧ PySem.W.keepIn K (.ref g) = true ∧ ∀ (G : NF) (be : Expr) (spL : DSp), G.cl = [] → LmK P w K mg base T kl G be [] [] spL →
    ∀ (f : Addr) (A : Around) (outer : List Env) (s : Shared) (H : Hp) (us : List Value) (vs : List V) (Q : VK) (E : XK) (ds : List D) (M : Mp) (F : Hp) (Qd : DQ) (Ed : DXK), Room k A → Env0 P w K mg base A outer s H → Vals vs us →
      Cc ⟨K, T⟩ M F H → Rps ⟨K, T⟩ F vs ds → sp (lamD ⟨K, T⟩ f G be [] []) spL ds M Qd Ed → CoQ ⟨K, T⟩ F Qd Q → CoX ⟨K, T⟩ F Ed E → codeAny (model P w) A (.call (.ref g) ⟨us, []⟩) (CR (L2.CX P w) outer P w H s Q E) s
theorem HofC.mono {x : Str} {k k2 kl : Nat} {ps : List Str} {sp : D → DSp → DSp} (h : HofC P w K mg base T x k kl ps sp) (i : k ≤ k2) : HofC P w K mg base T x k2 kl ps sp := by
  obtain ⟨g, h1, h2, h3⟩ := h.ex
  exact ⟨g, h1, h2, fun G be spL hc LK f A outer s H us vs Q E ds M F Qd Ed hr => h3 G be spL hc LK f A outer s H us vs Q E ds M F Qd Ed (hr.mono i)⟩
end
end DL
namespace LW
open PySem L2 DL
/-- a larder, its steps no more than n -/
structure LarK (CJ CS CLr : Addr) (M : Mp) (p pp pf : Addr) (n : Nat) (L : LmM) : Prop where
  at_ : LAt CJ CS CLr M p pp pf L
  w : ∃ W, LarW n W L
section
variable {CJ CS CLr : Addr} {M M2 : Mp} {p pp pf pf2 : Addr} {n : Nat} {L L1 : LmM}
theorem LarK.ext (h : LarK CJ CS CLr M p pp pf n L) (x : Ext M M2) : LarK CJ CS CLr M2 p pp pf n L := ⟨h.at_.extL x, h.w⟩
theorem LarK.ok (h : LarK CJ CS CLr M p pp pf n L) (hn : n ≤ 1000 := by omega) : okL L := by
  obtain ⟨W, w⟩ := h.w
  exact w.ok hn
theorem LarK.steps (h : LarK CJ CS CLr M p pp pf n L) : L.past.length + L.future.length ≤ n := by
  obtain ⟨W, w⟩ := h.w
  exact w.steps
theorem LarK.one (h : LarK CJ CS CLr M p pp pf n L) {x : Deed} {o : D} (ox : okD x) (tx : okT x) (e : oneF L x = .ok (L1, o)) (hL : LAt CJ CS CLr M2 p pp pf2 L1) : LarK CJ CS CLr M2 p pp pf2 (n + 1) L1 := by
  obtain ⟨W, w⟩ := h.w
  refine ⟨hL, w.tog (xs := [x]) (os := [o]) (fun y hy => by rw [List.mem_singleton.mp hy]; exact ⟨ox, tx⟩) ?_⟩
  rw [togF_one, e]
end
end LW
namespace LW
open PySem L2 DL
instance (as : List Sp2) : Decidable (goodL as) := by unfold goodL; infer_instance
theorem LarK.mono {CJ CS CLr : Addr} {M : Mp} {p pp pf : Addr} {n m : Nat} {L : LmM} (h : LarK CJ CS CLr M p pp pf n L) (hm : n ≤ m) : LarK CJ CS CLr M p pp pf m L := by
  obtain ⟨W, w⟩ := h.w
  exact ⟨h.at_, W, w.mono hm⟩
theorem LarK.tab {CJ CS CLr : Addr} {M : Mp} {p pp pf : Addr} {n : Nat} {L : LmM} (h : LarK CJ CS CLr M p pp pf n L) : isTab L.t := by
  obtain ⟨W, w⟩ := h.w
  exact w.tab
end LW
namespace L2
open PySem PySem.Spec PyProof.Rows
end L2
namespace DL
open PySem L2
end DL
namespace DL
open PySem L2 PySem.Spec PyProof.Rows
end DL
namespace L2
open PySem PySem.Spec PyProof.Rows
end L2
namespace DL
open PySem L2 PySem.Spec PyProof.Rows
end DL
namespace LW
open PySem L2 DL
theorem rng_rngN {n : Nat} : rngD 0 1 n = (rngL n).map D.int := by
  have := rng_rngL (n := n)
  rwa [show ((n : Int)).toNat = n from by omega] at this
end LW
namespace L2
open PySem PySem.Spec PyProof.Rows
end L2
namespace DL
open PySem L2 PySem.Spec PyProof.Rows
end DL
namespace LW
open PySem L2 DL
/-- what stands in seen -/
def SeenIs (kvs : List (List Key × D)) (seen : List Sp2) : Prop := ∀ s : Sp2, (valG kvs (ikey [s.1, s.2])).isSome = true ↔ s ∈ seen
theorem SeenIs.nil : SeenIs [] [] := fun s => by simp [valG]
theorem SeenIs.put {kvs : List (List Key × D)} {seen : List Sp2} (h : SeenIs kvs seen) (s : Sp2) (v : D) : SeenIs (putG kvs (ikey [s.1, s.2]) v) (s :: seen) := fun u => by
  rw [valG_put]
  by_cases e : u = s
  · subst e
    rw [if_pos rfl]
    simp
  · rw [if_neg (fun z => e (by
      have := ikey_inj z
      injection this with a b
      injection b with b
      exact Prod.ext a b)), h u]
    simp [e]
theorem SeenIs.len {kvs : List (List Key × D)} {k : List Key} {v : D} : (putG kvs k v).length ≤ kvs.length + 1 := by
  unfold putG
  split
  · rw [List.length_map]; omega
  · rw [List.length_append]; simp
end LW
namespace DL
open PySem L2
mutual
theorem dep_deq : ∀ (n : Nat) (d : D), dep n d → deq d d = true
  | _, .non, _ => by simp [deq, D.py, PyData.eqv]
  | _, .bl b, _ => by simp [deq, D.py, PyData.eqv]
  | _, .int b, _ => by simp [deq, D.py, PyData.eqv]
  | _, .str b, _ => by simp [deq, D.py, PyData.eqv]
  | 0, .tup xs, h => h.elim
  | 0, .lst xs, h => h.elim
  | n + 1, .tup xs, h => by
    rcases h with h | ⟨ys, e, _, h⟩
    · exact h.elim
    · simp only [D.tup.injEq, reduceCtorEq, or_false] at e
      subst e
      simp only [deq, D.py, PyData.eqv]
      exact deps_deq n xs h
  | n + 1, .lst xs, h => by
    rcases h with h | ⟨ys, e, _, h⟩
    · exact h.elim
    · simp only [D.lst.injEq, reduceCtorEq, false_or] at e
      subst e
      simp only [deq, D.py, PyData.eqv]
      exact deps_deq n xs h
  | n, .ref _, h => by cases n with | zero => exact h.elim | succ n => rcases h with h | ⟨_, e | e, _⟩ <;> first | exact h.elim | cases e
  | n, .dic _, h => by cases n with | zero => exact h.elim | succ n => rcases h with h | ⟨_, e | e, _⟩ <;> first | exact h.elim | cases e
  | n, .scr _, h => by cases n with | zero => exact h.elim | succ n => rcases h with h | ⟨_, e | e, _⟩ <;> first | exact h.elim | cases e
  | n, .obj _ _, h => by cases n with | zero => exact h.elim | succ n => rcases h with h | ⟨_, e | e, _⟩ <;> first | exact h.elim | cases e
  | n, .dit _, h => by cases n with | zero => exact h.elim | succ n => rcases h with h | ⟨_, e | e, _⟩ <;> first | exact h.elim | cases e
  | n, .any _ _, h => by cases n with | zero => exact h.elim | succ n => rcases h with h | ⟨_, e | e, _⟩ <;> first | exact h.elim | cases e
theorem deps_deq : ∀ (n : Nat) (xs : List D), (∀ x ∈ xs, dep n x) → PyData.eqvAll (pys xs) (pys xs) = true
  | _, [], _ => rfl
  | n, x :: xs, h => by
    have h1 := dep_deq n x (h x List.mem_cons_self)
    have h2 := deps_deq n xs fun y hy => h y (List.mem_cons_of_mem _ hy)
    simp only [deq] at h1
    simp only [pys, PyData.eqvAll, h1, h2, Bool.and_self]
end
theorem dep_lay : ∀ (n : Nat) (d : D), dep n d → lay n d
  | 0, d, h => by
    cases d with
    | non => exact lay_non 0
    | bl b => exact lay_bl 0 b
    | int i => exact lay_int 0 i
    | str s => exact lay_str h
    | _ => exact h.elim
  | n + 1, d, h => by
    rcases h with h | ⟨xs, e | e, _, h⟩
    · cases d with
      | non => exact lay_non _
      | bl b => exact lay_bl _ b
      | int i => exact lay_int _ i
      | str s => exact lay_str h
      | _ => exact h.elim
    · subst e
      exact lay_tup fun x hx => dep_lay n x (h x hx)
    · subst e
      exact lay_lst fun x hx => dep_lay n x (h x hx)
theorem dep_res {n : Nat} {d : D} {M : Mp} (h : dep n d) : res M d = d := res_dep h M
end DL
namespace LW
open PySem L2 DL
/-- the rows of a table, wherever they stand -/
def rowsR (M : Mp) (d : D) (t : Tb) : Prop := ∃ rs : List D, sqD M d = some rs ∧ rs.length = t.length ∧ ∀ (i : Nat) (r : List Int), t[i]? = some r → ∃ x, rs[i]? = some x ∧ sqD M x = some (r.map D.int)
theorem rowsR_ext {M M2 : Mp} {d : D} {t : Tb} (h : rowsR M d t) (x : Ext M M2) : rowsR M2 d t := by
  obtain ⟨rs, h1, h2, h3⟩ := h
  refine ⟨rs, sq_ext x h1, h2, fun i r e => ?_⟩
  obtain ⟨y, e1, e2⟩ := h3 i r e
  exact ⟨y, e1, sq_ext x e2⟩
theorem rowsR_lst {M : Mp} {t : Tb} : rowsR M (.lst (t.map lotD)) t := ⟨_, rfl, by rw [List.length_map], fun i r e => ⟨lotD r, by rw [List.getElem?_map, e]; rfl, rfl⟩⟩
theorem rowsR_at {M : Mp} {d : D} {t : Tb} (h : rowsR M d t) (TT : isTab t) {a b : Int} (ha : inJ t.length a) (hb : inJ t.length b) : ∃ x, ixD M d (.int a) = some x ∧ ixD M x (.int b) = some (.int (opJ t a b)) ∧ inJ t.length (opJ t a b) := by
  obtain ⟨rs, h1, h2, h3⟩ := h
  obtain ⟨r, c1, c2, c3⟩ := cell_at TT ha hb
  obtain ⟨x, e1, e2⟩ := h3 _ r c1
  refine ⟨x, ?_, ?_, c3⟩
  · rw [ixSq h1]
    have := atN e1
    rwa [Int.toNat_of_nonneg ha.1] at this
  · rw [ixSq e2]
    exact atJi (f := D.int) hb.1 c2
/-- the ints of a row -/
def intsD (M : Mp) (x : D) : List Int := ((sqD M x).getD []).map fun d => match d with
  | .int i => i
  | _ => 0
theorem intsD_of {M : Mp} {x : D} {r : List Int} (h : sqD M x = some (r.map D.int)) : intsD M x = r := by
  unfold intsD
  rw [h]
  show (r.map D.int).map _ = r
  rw [List.map_map]
  exact List.map_id r
theorem rowsR_ints {M : Mp} {d : D} {t : Tb} (h : rowsR M d t) : ∃ rs : List D, sqD M d = some rs ∧ t = rs.map (intsD M) ∧ ∀ x ∈ rs, sqD M x = some ((intsD M x).map D.int) := by
  obtain ⟨rs, h1, h2, h3⟩ := h
  have key : ∀ (i : Nat) (x : D), rs[i]? = some x → ∃ r, t[i]? = some r ∧ sqD M x = some (r.map D.int) := fun i x e => by
    have hi := (List.getElem?_eq_some_iff.mp e).1
    have ht : t[i]? = some t[i] := List.getElem?_eq_getElem (by omega)
    obtain ⟨y, e1, e2⟩ := h3 i _ ht
    rw [e] at e1
    cases e1
    exact ⟨_, ht, e2⟩
  refine ⟨rs, h1, List.ext_getElem? fun i => ?_, fun x hx => ?_⟩
  · rw [List.getElem?_map]
    cases e : rs[i]? with
    | none =>
      have := List.getElem?_eq_none_iff.mp e
      exact List.getElem?_eq_none (by omega)
    | some x =>
      obtain ⟨r, e1, e2⟩ := key i x e
      rw [e1, Option.map_some, intsD_of e2]
  · obtain ⟨i, e⟩ := List.mem_iff_getElem?.mp hx
    obtain ⟨r, e1, e2⟩ := key i x e
    rw [intsD_of e2]
    exact e2
theorem flatI {g : D → List D} : ∀ {xs : List D} {os : List (List D)}, All2 (fun x r => r = g x) xs os → os.flatten = (xs.map g).flatten
  | _, _, .nil => rfl
  | _, _, .cons (a := a) h t => by
    subst h
    rw [List.flatten_cons, List.map_cons, List.flatten_cons, flatI t]
theorem tab_all {rs : List D} {M : Mp} (h1 : 1 ≤ rs.length) (h2 : rs.length ≤ 16) (h3 : ∀ x ∈ rs, (intsD M x).length = rs.length) : (rs.map fun x => (intsD M x).map fun w => decide (0 ≤ w ∧ w < (rs.length : Int))).flatten.all id = decide (isTab (rs.map (intsD M))) := by
  rw [Bool.eq_iff_iff, List.all_eq_true, decide_eq_true_eq]
  refine ⟨fun h => ⟨by rw [List.length_map]; exact ⟨h1, h2⟩, fun r hr => ?_, fun r hr w hw => ?_⟩, fun T b hb => ?_⟩
  · obtain ⟨x, hx, rfl⟩ := List.mem_map.mp hr
    rw [List.length_map]
    exact h3 x hx
  · obtain ⟨x, hx, rfl⟩ := List.mem_map.mp hr
    have := h _ (List.mem_flatten.mpr ⟨_, List.mem_map_of_mem hx, List.mem_map_of_mem hw⟩)
    have := of_decide_eq_true this
    unfold inJ
    rw [List.length_map]
    exact this
  · obtain ⟨l, hl, hb⟩ := List.mem_flatten.mp hb
    obtain ⟨x, hx, rfl⟩ := List.mem_map.mp hl
    obtain ⟨w, hw, rfl⟩ := List.mem_map.mp hb
    have := T.2.2 _ (List.mem_map_of_mem hx) w hw
    unfold inJ at this
    rw [List.length_map] at this
    exact decide_eq_true this
section
variable {xs : List D} {ok : Mp → Prop} {g : DTG} {tt : DTT} {te : DTE} {vs : List Nat} {Γ : DG} {M : Mp} {Q : D → Mp → Prop}
theorem LI_J (H : D → Option D) (hok : ∀ M', Ext M M' → ok M') (body : ∀ x, x ∈ xs → ∀ M', Ext M M' → LB g tt te (dwipe Γ vs) M' x (fun o => o = H x)) (q : Q (.lst (xs.filterMap H)) M) : LI ⟨xs, ok⟩ g tt te vs Γ M Q := by
  have := LI_F (F := fun d : D => d) (xs := xs) (ok := ok) (fun a b z => z) H hok body q
  rwa [List.map_id'] at this
end
theorem brk_shape {t : Tb} {w : D} (h : brkO t = some w) : ∃ (s : Str) (ns : List Int), PyData.strOk s = true ∧ ns.length ≤ 3 ∧ w = .tup (.str s :: ns.map D.int) := by
  have fs : ∀ {n : Nat} {f : Nat → Option D} {x : D}, (List.range n).findSome? f = some x → ∃ a, f a = some x := fun {n f x} e => by
    obtain ⟨a, _, ha⟩ := List.exists_of_findSome?_eq_some e
    exact ⟨a, ha⟩
  have k1 : PyData.strOk ("twice" : Str) = true ∧ PyData.strOk ("about" : Str) = true ∧ PyData.strOk ("brackets" : Str) = true := by decide +kernel
  unfold brkO at h
  cases e1 : brk1 t with
  | some d =>
    rw [e1] at h
    cases h
    obtain ⟨a, ha⟩ := fs e1
    unfold twF at ha
    split at ha
    · cases ha
    · cases ha
      exact ⟨_, [(a : Int)], k1.1, by simp, rfl⟩
  | none =>
    rw [e1] at h
    dsimp only at h
    cases e2 : brk2 t with
    | some d =>
      rw [e2] at h
      cases h
      obtain ⟨a, ha⟩ := fs e2
      obtain ⟨b, hb⟩ := fs ha
      unfold abF at hb
      split at hb
      · cases hb
      · cases hb
        exact ⟨_, [(a : Int), ((a + 1 + b : Nat) : Int)], k1.2.1, by simp, rfl⟩
    | none =>
      rw [e2] at h
      dsimp only at h
      obtain ⟨a, ha⟩ := fs h
      obtain ⟨b, hb⟩ := fs ha
      obtain ⟨c, hc⟩ := fs hb
      unfold brF at hc
      split at hc
      · cases hc
      · cases hc
        exact ⟨_, [(a : Int), (b : Int), (c : Int)], k1.2.2, by simp, rfl⟩
theorem brk_dep {t : Tb} {w : D} (h : brkO t = some w) : dep 1 w := by
  obtain ⟨s, ns, h1, h2, rfl⟩ := brk_shape h
  refine dep_tup (fun x hx => ?_) (by rw [List.length_cons, List.length_map]; omega)
  rcases List.mem_cons.mp hx with rfl | hx
  · exact dep_str h1
  · obtain ⟨n, _, rfl⟩ := List.mem_map.mp hx
    exact dep_int
theorem brk_ne {t : Tb} {w : D} (h : brkO t = some w) {M : Mp} {Q : DQ} (q : Q (.bl true) M) : rdNe w (.tup []) M Q := by
  have d := brk_dep h
  have e0 : res M (D.tup []) = D.tup [] := rfl
  have e1 : res M w = w := dep_res d
  obtain ⟨s, ns, h1, h2, rfl⟩ := brk_shape h
  exact neSq (b := true) (by rw [e1]; exact sh_of (dep_lay 1 _ d) (by omega)) (by rw [e0]; decide) (by rw [e1, e0]; rfl) q
/-- a table of its own: the rows at qs, the list of them at p -/
structure OwnT (M : Mp) (p : Addr) (qs : List Addr) (t : Tb) : Prop where
  all : M p = some (.lst (qs.map D.ref))
  len : qs.length = t.length
  row : ∀ (i : Nat) (q : Addr), qs[i]? = some q → ∃ r, t[i]? = some r ∧ M q = some (.lst (r.map D.int))
  nd : qs.Nodup
  np : p ∉ qs
theorem OwnT.rows {M : Mp} {p : Addr} {qs : List Addr} {t : Tb} (h : OwnT M p qs t) : rowsR M (.ref p) t := by
  refine ⟨_, sqD_ref h.all, by rw [List.length_map, h.len], fun i r e => ?_⟩
  have hi : i < qs.length := by rw [h.len]; exact (List.getElem?_eq_some_iff.mp e).1
  obtain ⟨r', e1, e2⟩ := h.row i _ (List.getElem?_eq_getElem hi)
  rw [e] at e1
  cases e1
  exact ⟨.ref qs[i], by rw [List.getElem?_map, List.getElem?_eq_getElem hi]; rfl, sqD_ref e2⟩
/-- what a bent table's look must be -/
def Bent (t : Tb) (w : D) : Prop := (1 ≤ t.length ∧ t.length ≤ 17 ∧ ∀ r ∈ t, 1 ≤ r.length ∧ r.length ≤ 17) ∧ ((isTab t ∧ w = (brkO t).getD .non) ∨ (¬ isTab t ∧ w = .tup []))
/-- an entry is written -/
theorem OwnT.put {M : Mp} {p q : Addr} {qs : List Addr} {t : Tb} {i j : Nat} {r : List Int} {v : Int} (h : OwnT M p qs t) (hq : qs[i]? = some q) (hr : t[i]? = some r) : OwnT (mup M q (.lst ((r.set j v).map D.int))) p qs (t.set i (r.set j v)) := by
  have hqm : q ∈ qs := List.mem_of_getElem? hq
  have npq : p ≠ q := fun z => h.np (by rw [z]; exact hqm)
  refine ⟨by rw [mup_ne npq]; exact h.all, by rw [List.length_set]; exact h.len, fun k x hx => ?_, h.nd, h.np⟩
  obtain ⟨s, e1, e2⟩ := h.row k x hx
  by_cases hk : k = i
  · subst hk
    rw [hq] at hx
    cases hx
    exact ⟨_, by rw [List.getElem?_set_self (List.getElem?_eq_some_iff.mp hr).1], mup_same⟩
  · refine ⟨s, by rw [List.getElem?_set_ne (Ne.symm hk)]; exact e1, ?_⟩
    rw [mup_ne fun z => hk ?_]
    · exact e2
    · have hi := (List.getElem?_eq_some_iff.mp hq)
      have hx' := (List.getElem?_eq_some_iff.mp hx)
      obtain ⟨a1, a2⟩ := hi
      obtain ⟨b1, b2⟩ := hx'
      exact (List.getElem_inj (h₀ := b1) (h₁ := a1) h.nd).mp (b2.trans (z.trans a2.symm))
/-- the first rows laid -/
structure PartT (M0 M : Mp) (p : Addr) (qs : List Addr) (t : Tb) : Prop where
  row : ∀ (i : Nat) (q : Addr), qs[i]? = some q → ∃ r, t[i]? = some r ∧ M q = some (.lst (r.map D.int))
  nd : qs.Nodup
  np : p ∉ qs
  old : ∀ a c, M0 a = some c → M a = some c
theorem PartT.start {M0 : Mp} {p : Addr} {c : Cell} {t : Tb} (h : M0 p = none) : PartT M0 (mup M0 p c) p [] t :=
  ⟨fun i q z => by simp at z, List.nodup_nil, by simp, fun a d e => by rw [mup_ne fun z => by rw [z, h] at e; cases e]; exact e⟩
theorem PartT.next {M0 M : Mp} {p q : Addr} {qs : List Addr} {t : Tb} {r : List Int} {ds ds' : List D} (h : PartT M0 M p qs t) (hp0 : M0 p = none) (hp : M p = some (.lst ds)) (hq : M q = none) (hr : t[qs.length]? = some r) : PartT M0 (mup (mup M q (.lst (r.map D.int))) p (.lst ds')) p (qs ++ [q]) t ∧ mup M q (.lst (r.map D.int)) p = some (.lst ds) := by
  have pq : p ≠ q := fun z => by rw [z, hq] at hp; cases hp
  have nq : q ∉ qs := fun hm => by
    obtain ⟨i, e⟩ := List.mem_iff_getElem?.mp hm
    obtain ⟨r', _, e2⟩ := h.row i q e
    rw [hq] at e2
    cases e2
  refine ⟨⟨fun i x hx => ?_, ?_, ?_, fun a c e => ?_⟩, by rw [mup_ne pq]; exact hp⟩
  · by_cases hi : i < qs.length
    · rw [List.getElem?_append_left hi] at hx
      obtain ⟨r', e1, e2⟩ := h.row i x hx
      refine ⟨r', e1, ?_⟩
      have xq : x ≠ q := fun z => nq (z ▸ List.mem_of_getElem? hx)
      have xp : x ≠ p := fun z => h.np (z ▸ List.mem_of_getElem? hx)
      rw [mup_ne xp, mup_ne xq]
      exact e2
    · rw [List.getElem?_append_right (by omega)] at hx
      have : i - qs.length = 0 := by
        have := (List.getElem?_eq_some_iff.mp hx).1
        simp at this
        omega
      rw [this] at hx
      cases hx
      have ei : i = qs.length := by omega
      subst ei
      exact ⟨r, hr, by rw [mup_ne (Ne.symm pq), mup_same]⟩
  · rw [List.nodup_append]
    exact ⟨h.nd, by simp, fun a ha b hb => by rw [List.mem_singleton.mp hb]; exact fun z => nq (z ▸ ha)⟩
  · intro z
    rcases List.mem_append.mp z with z | z
    · exact h.np z
    · exact pq (List.mem_singleton.mp z)
  · have ap : a ≠ p := fun z => by rw [z, hp0] at e; cases e
    have e' := h.old a c e
    have aq : a ≠ q := fun z => by rw [z, hq] at e'; cases e'
    rw [mup_ne ap, mup_ne aq]
    exact e'
theorem OwnT.at_ {M : Mp} {p b : Addr} {qs : List Addr} {t : Tb} {i : Nat} (h : OwnT M p qs t) (hb : M b = some bagC) (hi : i < t.length) : ∃ q r, qs[i]? = some q ∧ t[i]? = some r ∧ ixD M (.ref p) (.int (i : Nat)) = some (.ref q) ∧ M q = some (.lst (r.map D.int)) ∧ b ≠ q ∧ b ≠ p := by
  have hq : i < qs.length := by rw [h.len]; exact hi
  obtain ⟨r, e1, e2⟩ := h.row i _ (List.getElem?_eq_getElem hq)
  refine ⟨qs[i], r, List.getElem?_eq_getElem hq, e1, ?_, e2, fun z => ?_, fun z => ?_⟩
  · rw [ixd_ref h.all]
    exact atN (by rw [List.getElem?_map, List.getElem?_eq_getElem hq]; rfl)
  · rw [← z, hb] at e2
    cases e2
  · have := h.all
    rw [← z, hb] at this
    cases this
theorem tab_put {t : Tb} {i j : Nat} {r : List Int} {v : Int} (T : isTab t) (hr : t[i]? = some r) (hv : inJ t.length v) : isTab (t.set i (r.set j v)) := by
  have hm := List.mem_of_getElem? hr
  refine ⟨by rw [List.length_set]; exact T.1, fun s hs => ?_, fun s hs w hw => ?_⟩
  · rw [List.length_set]
    rcases List.mem_or_eq_of_mem_set hs with hs | rfl
    · exact T.2.1 s hs
    · rw [List.length_set]
      exact T.2.1 r hm
  · rw [List.length_set]
    rcases List.mem_or_eq_of_mem_set hs with hs | rfl
    · exact T.2.2 s hs w hw
    · rcases List.mem_or_eq_of_mem_set hw with hw | rfl
      · exact T.2.2 r hm w hw
      · exact hv
theorem bent_ok {t : Tb} (T : isTab t) : Bent t ((brkO t).getD .non) := by
  have T1 := T.1
  refine ⟨⟨by omega, by omega, fun r hr => ?_⟩, .inl ⟨T, rfl⟩⟩
  have := T.2.1 r hr
  omega
/-- a row is written anew -/
theorem OwnT.row2 {M : Mp} {p q : Addr} {qs : List Addr} {t : Tb} {i : Nat} {r r2 : List Int} (h : OwnT M p qs t) (hq : qs[i]? = some q) (hr : t[i]? = some r) : OwnT (mup M q (.lst (r2.map D.int))) p qs (t.set i r2) := by
  have hqm : q ∈ qs := List.mem_of_getElem? hq
  have npq : p ≠ q := fun z => h.np (by rw [z]; exact hqm)
  refine ⟨by rw [mup_ne npq]; exact h.all, by rw [List.length_set]; exact h.len, fun k x hx => ?_, h.nd, h.np⟩
  obtain ⟨s, e1, e2⟩ := h.row k x hx
  by_cases hk : k = i
  · subst hk
    rw [hq] at hx
    cases hx
    exact ⟨_, by rw [List.getElem?_set_self (List.getElem?_eq_some_iff.mp hr).1], mup_same⟩
  · refine ⟨s, by rw [List.getElem?_set_ne (Ne.symm hk)]; exact e1, ?_⟩
    rw [mup_ne fun z => hk ?_]
    · exact e2
    · obtain ⟨a1, a2⟩ := List.getElem?_eq_some_iff.mp hq
      obtain ⟨b1, b2⟩ := List.getElem?_eq_some_iff.mp hx
      exact (List.getElem_inj (h₀ := b1) (h₁ := a1) h.nd).mp (b2.trans (z.trans a2.symm))
theorem bent_row {t : Tb} {i : Nat} {r r2 : List Int} (T : isTab t) (hr : t[i]? = some r) (h1 : 1 ≤ r2.length) (h2 : r2.length = t.length + 1) : Bent (t.set i r2) (.tup []) := by
  have T1 := T.1
  have hi := (List.getElem?_eq_some_iff.mp hr).1
  refine ⟨⟨by rw [List.length_set]; omega, by rw [List.length_set]; omega, fun s hs => ?_⟩, .inr ⟨fun X => ?_, rfl⟩⟩
  · rcases List.mem_or_eq_of_mem_set hs with hs | rfl
    · have := T.2.1 s hs; omega
    · omega
  · have := X.2.1 r2 (List.mem_of_getElem? (List.getElem?_set_self hi))
    rw [List.length_set] at this
    omega
theorem bent_put {t : Tb} {i j : Nat} {r : List Int} {v : Int} (T : isTab t) (hr : t[i]? = some r) (hj : j < r.length) (nv : ¬ inJ t.length v) : Bent (t.set i (r.set j v)) (.tup []) := by
  have T1 := T.1
  have hi := (List.getElem?_eq_some_iff.mp hr).1
  have rl := T.2.1 r (List.mem_of_getElem? hr)
  refine ⟨⟨by rw [List.length_set]; omega, by rw [List.length_set]; omega, fun s hs => ?_⟩, .inr ⟨fun X => nv ?_, rfl⟩⟩
  · rcases List.mem_or_eq_of_mem_set hs with hs | rfl
    · have := T.2.1 s hs; omega
    · rw [List.length_set]; omega
  · have := X.2.2 _ (List.mem_of_getElem? (List.getElem?_set_self hi)) v (List.mem_of_getElem? (List.getElem?_set_self hj))
    rwa [List.length_set] at this
theorem zeros30 (n : Nat) : (List.replicate ((n : Nat) : Int).toNat [D.int 0]).flatten = (List.replicate n (0 : Int)).map D.int := by
  rw [Int.toNat_natCast, List.map_replicate]
  induction n with
  | zero => rfl
  | succ n ih => rw [List.replicate_succ, List.flatten_cons, ih, List.replicate_succ]; rfl
theorem OwnT.more {M : Mp} {p : Addr} {qs : List Addr} {t : Tb} (h : OwnT M p qs t) (r : List Int) : rowsR (mup M p (.lst (qs.map D.ref ++ [.lst (r.map D.int)]))) (.ref p) (t ++ [r]) := by
  refine ⟨_, sqD_ref mup_same, by rw [List.length_append, List.length_append, List.length_map, h.len]; rfl, fun i s e => ?_⟩
  by_cases hi : i < t.length
  · rw [List.getElem?_append_left hi] at e
    have hq : i < qs.length := by rw [h.len]; exact hi
    obtain ⟨r', e1, e2⟩ := h.row i _ (List.getElem?_eq_getElem hq)
    rw [e] at e1
    cases e1
    refine ⟨.ref qs[i], by rw [List.getElem?_append_left (by rw [List.length_map]; exact hq), List.getElem?_map, List.getElem?_eq_getElem hq]; rfl, ?_⟩
    have np : qs[i] ≠ p := fun z => h.np (by rw [← z]; exact List.getElem_mem hq)
    exact sqD_ref (by rw [mup_ne np]; exact e2)
  · rw [List.getElem?_append_right (by omega)] at e
    have e0 : i - t.length = 0 := by
      have := (List.getElem?_eq_some_iff.mp e).1
      simp at this
      omega
    rw [e0] at e
    cases e
    refine ⟨.lst (r.map D.int), ?_, rfl⟩
    rw [List.getElem?_append_right (by rw [List.length_map, h.len]; omega), List.length_map, h.len, e0]
    rfl
theorem bent_more {t : Tb} {r : List Int} (T : isTab t) (hr : r.length = t.length) : Bent (t ++ [r]) (.tup []) := by
  have T1 := T.1
  refine ⟨⟨by rw [List.length_append]; simp, by rw [List.length_append]; simp; omega, fun s hs => ?_⟩, .inr ⟨fun X => ?_, rfl⟩⟩
  · rcases List.mem_append.mp hs with hs | hs
    · have := T.2.1 s hs; omega
    · rw [List.mem_singleton.mp hs]; omega
  · have := X.2.1 r (List.mem_append_right _ (by simp))
    rw [List.length_append, List.length_singleton] at this
    omega
end LW
namespace DL
open PySem L2
theorem dp_resQ {K : KTb} {M : Mp} {F H : Hp} {v : V} {d : D} {xs : List D} (c : Cc K M F H) (r : Rp K F v d) (h : sqD M d = some xs) (hs : ∀ e ∈ xs, shD (res M e) = true) : Dp K.K H v (D.lst (xs.map (res M))).py := by
  obtain ⟨a, vs, rfl, h1, h2⟩ := sq_of c r h
  simp only [D.py]
  exact .lst h1 (dps_res c xs vs h2 hs)
def rdNeQ : D2 := fun x y M Q => ∃ xs ys, sqD M x = some xs ∧ sqD M y = some ys ∧ (∀ e ∈ xs, shD (res M e) = true) ∧ (∀ e ∈ ys, shD (res M e) = true) ∧ shD (.lst (xs.map (res M))) = true ∧ shD (.lst (ys.map (res M))) = true ∧ Q (.bl (!deq (.lst (xs.map (res M))) (.lst (ys.map (res M))))) M
theorem real_neQ {K : KTb} : Real2 K (rNeD K.K) rdNeQ := fun F H M x y d e Qd Q c rx ry ⟨xs, ys, h1, h2, h3, h4, h5, h6, q⟩ k => ⟨_, _, dp_resQ c rx h1 h3, dp_resQ c ry h2 h4, h5, h6, k F H _ _ M (Same.refl _) c (.bl _) q⟩
end DL
namespace LW
open PySem L2 DL
theorem rows_res {M : Mp} {d : D} {t : Tb} (h : rowsR M d t) : ∃ xs, sqD M d = some xs ∧ xs.map (res M) = t.map lotD ∧ ∀ e ∈ xs, ∃ r ∈ t, res M e = lotD r := by
  obtain ⟨rs, h1, rfl, h3⟩ := rowsR_ints h
  have e : ∀ x ∈ rs, res M x = lotD (intsD M x) := fun x hx => by
    unfold res
    rw [h3 x hx]
    rfl
  refine ⟨rs, h1, ?_, fun x hx => ⟨_, List.mem_map_of_mem hx, e x hx⟩⟩
  rw [List.map_map]
  exact List.map_congr_left e
/-- a table's data, be it a join or not -/
def SmallT (t : Tb) : Prop := t.length ≤ 17 ∧ ∀ r ∈ t, r.length ≤ 17
theorem dep_row17 {r : List Int} (h : r.length ≤ 17) : dep 1 (lotD r) := dep_lst (fun _ _ => dep_int) (by omega)
theorem dep_tab17 {t : Tb} (h : SmallT t) : dep 2 (.lst (t.map lotD)) := dep_lst (fun r hr => dep_row17 (h.2 r hr)) (by have := h.1; omega)
theorem sh_tab {t : Tb} (h : SmallT t) : DL.shD (.lst (t.map lotD)) = true := sh_of (dep_lay 2 _ (dep_tab17 h)) (by omega)
theorem sh_row {r : List Int} (h : r.length ≤ 17) : DL.shD (lotD r) = true := sh_of (dep_lay 1 _ (dep_row17 h)) (by omega)
theorem deq_tab {t : Tb} (h : SmallT t) : deq (.lst (t.map lotD)) (.lst (t.map lotD)) = true := dep_deq 2 _ (dep_tab17 h)
theorem neTab {M : Mp} {d e : D} {t : Tb} {Q : DQ} (h1 : rowsR M d t) (h2 : rowsR M e t) (h : SmallT t) (q : Q (.bl false) M) : rdNeQ d e M Q := by
  obtain ⟨xs, a1, a2, a3⟩ := rows_res h1
  obtain ⟨ys, b1, b2, b3⟩ := rows_res h2
  refine ⟨xs, ys, a1, b1, fun x hx => ?_, fun y hy => ?_, by rw [a2]; exact sh_tab h, by rw [b2]; exact sh_tab h, ?_⟩
  · obtain ⟨r, hr, e⟩ := a3 x hx
    rw [e]
    exact sh_row (h.2 r hr)
  · obtain ⟨r, hr, e⟩ := b3 y hy
    rw [e]
    exact sh_row (h.2 r hr)
  · rw [a2, b2, deq_tab h]
    exact q
end LW
namespace LW
open PySem L2 DL
local macro_rules | `(tactic| sizeOf_list_dec) => `(tactic| simp only [dRRet, dRSeq, dHofV, dActV, dLam, dLgO, dLg, dCallP, dIEnT, dIZipM, dLenSetA, dJoin, dSplit, dJoined, dJs, dFmt, rdDictN, rdEqE, dIEn0, dFrzD, dFrzT, dWget, dDpop, dDdel, dDelSl, dSetSl, dFldAug, dFin, dMethK, dMakeK, dDnewT, dDinT, dDgetT, dDputT, dDinP, dDgetP, dDputP, dListRg1, dFrzI, gdStar, dMaxK, dDctGet, rdDictP, dSeq, dNext, dRet, dRetN, dIfS, dSet, dPar, dAsg, dDrop, dC, dOp, dTest, dChain, dChain3, dChain4, dAnd, dOr, dNot, dAndV, dOrV, dNotV, dCons, dNil, dTup, dLst, dLstO, dCB, dCall, dIf, dUn, dAppend, dPop, dPopI, dIndex, dLenSet, dInsert, dAug, dWhile, dDelL, dCont, dBreak, dFld, dPut, dMeth, dMake, dDnew, dDin, dDget, dDput, dLck, dLckS, dIKeys, dDc, insF, dcF1, dAct, dCallK, dCBK, dHof, spLm, startL, capD, dTryN, exN, offD, dXf, Option.join_some, List.map_nil, List.nil_append, List.cons_append, List.replicate, dVar, rdI_eq, rdIc_eq, rdIx, rdInt2_eq, lenL, isN_non, isN_tup, isN_int, dFrz, dAugS, dIsi, dIsi2, dListRg, dSetSp, dSetIn, dLc2O, dRev, lenT, dIZip, zpL, zpD_tup, zip_map, isaTL, isaTT, isaLL, isaLT, isaIB, isaII, isaIS, isaIL, isaIT, neSpU, eqSpU, neMkU, eqMkU, eqB, neB, isN_bl, isN_lst, isN_ref, isaBB, isaBL, isaBT, isaBI, isaBS, tyI, tyB, tyN, tyTu, tyLs, Cell.lst.injEq, implies_true, reduceCtorEq, true_implies, false_implies, if_true, if_false, Int.reduceToNat, Int.reducePow, Int.reduceNeg, exX, LB, dYes, dwipe, addL, sz0, sz1, sz2, sz3, Int.zero_add, Int.mul_one, dLcN_eq, dLcNO_eq, dIRng1, dIRng2, dIEn, dISeq, dFor_eq, List.map_cons, List.map_nil, mulI, rdAbs_eq, eqI, neI, xN4_0, xN4_1, xN4_2, xN4_3, List.length_map, ixS, mup_same, mup_mup, dRaise, gdName, gdTup, gdUnl, gdNil_eq, gdCons_eq, gdSub, dPart, dNoPart, dSl, tpD, fd0, List.getElem?_cons_zero, List.getElem?_cons_succ, List.set_cons_zero, List.set_cons_succ, Option.some.injEq, exists_eq_left', exists_eq_left, exists_eq_right, exists_eq_right', D.int.injEq, D.bl.injEq, D.tup.injEq, D.lst.injEq, D.ref.injEq, ixd_tup, ixd_lst, spD, mkD, decide_eq_true_eq, decide_eq_false_iff_not, Nat.reduceAdd, Int.reduceNeg, at0, at1, at2, at3, List.cons.injEq, and_true, true_and, List.append_nil, exists_and_left, exists_and_right, List.length_cons, List.length_nil, addI, res_int, deq_int, sh_int, iffB, parEq, Bool.not_eq_true', Bool.not_eq_false', Bool.not_eq_true ])
local macro_rules | `(tactic| nomatch $es,*) => `(tactic| simp only [dRRet, dRSeq, dHofV, dActV, dLam, dLgO, dLg, dCallP, dIEnT, dIZipM, dLenSetA, dJoin, dSplit, dJoined, dJs, dFmt, rdDictN, rdEqE, dIEn0, dFrzD, dFrzT, dWget, dDpop, dDdel, dDelSl, dSetSl, dFldAug, dFin, dMethK, dMakeK, dDnewT, dDinT, dDgetT, dDputT, dDinP, dDgetP, dDputP, dListRg1, dFrzI, gdStar, dMaxK, dDctGet, rdDictP, dSeq, dNext, dRet, dRetN, dIfS, dSet, dPar, dAsg, dDrop, dC, dOp, dTest, dChain, dChain3, dChain4, dAnd, dOr, dNot, dAndV, dOrV, dNotV, dCons, dNil, dTup, dLst, dLstO, dCB, dCall, dIf, dUn, dAppend, dPop, dPopI, dIndex, dLenSet, dInsert, dAug, dWhile, dDelL, dCont, dBreak, dFld, dPut, dMeth, dMake, dDnew, dDin, dDget, dDput, dLck, dLckS, dIKeys, dDc, insF, dcF1, dAct, dCallK, dCBK, dHof, spLm, startL, capD, dTryN, exN, offD, dXf, Option.join_some, List.map_nil, List.nil_append, List.cons_append, List.replicate, dVar, rdI_eq, rdIc_eq, rdIx, rdInt2_eq, lenL, isN_non, isN_tup, isN_int, dFrz, dAugS, dIsi, dIsi2, dListRg, dSetSp, dSetIn, dLc2O, dRev, lenT, dIZip, zpL, zpD_tup, zip_map, isaTL, isaTT, isaLL, isaLT, isaIB, isaII, isaIS, isaIL, isaIT, neSpU, eqSpU, neMkU, eqMkU, eqB, neB, isN_bl, isN_lst, isN_ref, isaBB, isaBL, isaBT, isaBI, isaBS, tyI, tyB, tyN, tyTu, tyLs, Cell.lst.injEq, implies_true, reduceCtorEq, true_implies, false_implies, if_true, if_false, Int.reduceToNat, Int.reducePow, Int.reduceNeg, exX, LB, dYes, dwipe, addL, sz0, sz1, sz2, sz3, Int.zero_add, Int.mul_one, dLcN_eq, dLcNO_eq, dIRng1, dIRng2, dIEn, dISeq, dFor_eq, List.map_cons, List.map_nil, mulI, rdAbs_eq, eqI, neI, xN4_0, xN4_1, xN4_2, xN4_3, List.length_map, ixS, mup_same, mup_mup, dRaise, gdName, gdTup, gdUnl, gdNil_eq, gdCons_eq, gdSub, dPart, dNoPart, dSl, tpD, fd0, List.getElem?_cons_zero, List.getElem?_cons_succ, List.set_cons_zero, List.set_cons_succ, Option.some.injEq, exists_eq_left', exists_eq_left, exists_eq_right, exists_eq_right', D.int.injEq, D.bl.injEq, D.tup.injEq, D.lst.injEq, D.ref.injEq, ixd_tup, ixd_lst, spD, mkD, decide_eq_true_eq, decide_eq_false_iff_not, Nat.reduceAdd, Int.reduceNeg, at0, at1, at2, at3, List.cons.injEq, and_true, true_and, List.append_nil, exists_and_left, exists_and_right, List.length_cons, List.length_nil, addI, res_int, deq_int, sh_int, iffB, parEq, Bool.not_eq_true', Bool.not_eq_false', Bool.not_eq_true , $[$es:term],*])
def topS (i : Nat) : Stmt := PySem.Challenge.pw_joinlarder_k01_tables_looked_through.main.body.getD i (.Pass ⟨0, 0, 0, 0⟩)
abbrev s_is_table : Stmt := topS 6
abbrev s_broken : Stmt := topS 7
abbrev s_Join_init : Stmt := inClass (topS 8) 0
abbrev s_Join_size : Stmt := inClass (topS 8) 3
abbrev s_Join_table : Stmt := inClass (topS 8) 4
abbrev s_law_bag : Stmt := topS 10
abbrev s_law_take : Stmt := topS 11
abbrev s_law_of : Stmt := topS 12
abbrev s_law_turned : Stmt := topS 13
abbrev s_law_same : Stmt := topS 14
abbrev s_law_rising : Stmt := topS 15
abbrev s_law_closed : Stmt := topS 16
abbrev s_law_table : Stmt := topS 17
abbrev s_law_break : Stmt := topS 18
abbrev s_law_bent : Stmt := topS 19
abbrev s_law : Stmt := topS 20
abbrev c_LarderError : Stmt := inClass (topS 1) 0
abbrev c_BadTable : Stmt := inClass (topS 2) 0
structure Glb (P : Program) (w : World) (K : PySem.W.Frag) (mg : Str → Option Value) (base : Heap) (C_BadTable : Addr) (C_Join : Addr) : Prop where
  m_MOST_WORTHS : ∃ t, mg "MOST_WORTHS" = some (.int 16 t)
  n_abs : mg "abs" = none
  n_all : mg "all" = none
  n_bool : mg "bool" = none
  n_int : mg "int" = none
  n_isinstance : mg "isinstance" = none
  n_len : mg "len" = none
  n_list : mg "list" = none
  n_max : mg "max" = none
  n_range : mg "range" = none
  n_sorted : mg "sorted" = none
  n_str : mg "str" = none
  n_tuple : mg "tuple" = none
  n_zip : mg "zip" = none
  x_BadTable : ExC P w K mg base "BadTable" C_BadTable 1 (fun ws => [("why", ws.headD .non), ("word", V.str "table")])
  y_BadTable : mg "BadTable" = some (.ref C_BadTable)
  o_BadTable : ExO K C_BadTable "why"
  cl_Join : Cls K C_Join
  na_Join_pairs : NoAttr K C_Join "pairs"
  mk_Join : MkF K mg "Join" C_Join
section
variable {P : Program} {w : World} {K : PySem.W.Frag} {T : List (Addr × Str)} {mg : Str → Option Value} {base : Heap} { C_BadTable C_Join : Addr}
theorem sc_is_table : FnScope ["table", "size", "row", "worth"] ["table"] (defScope s_is_table) := ⟨rfl, rfl, rfl, by decide +kernel, rfl, by decide +kernel, by decide +kernel⟩
def sp_is_table : DSp := fun ds M Q _ => ∃ (d : D) (t : Tb), ds = [d] ∧ rowsR M d t ∧ t.length ≤ 100 ∧ (∀ r ∈ t, r.length ≤ 100) ∧ Q (.bl (decide (isTab t))) M
theorem st_is_table {a0 : D} : dstart ["table", "size", "row", "worth"] [a0] = [some a0, none, none, none] := rfl
theorem ok_is_table (G : Glb P w K mg base C_BadTable C_Join) (Dd : DefAt K mg "is_table" s_is_table ["table"]) : Dfk P w K mg base T "is_table" 1 ["table"] sp_is_table := by
  refine DefAt.ok Dd sc_is_table (fun ds M Q E h => by
    obtain ⟨_, _, rfl, _⟩ := h
    rfl) fun f cdv A outer s H E hr => ?_
  have tk : Takes (cxOf (L2.CX P w) P w K mg base ["table", "size", "row", "worth"] "is_table" (defScope s_is_table) f cdv A outer s H E) (wOf T E).w := takes_of rfl rfl rfl rfl
  refine ⟨_, (dss_cons (ds_set 1 sc_is_table.nd (de_callB call_len real_len rfl G.n_len rfl (da_cons (dv 0) da_nil)))
      (dss_cons (ds_if (dw_pt (dw_or (dt_not (dt_chain op_le op_le real_le real_le de_int (dv 1) (de_globI G.m_MOST_WORTHS))) (dw_or1 (dt_not (dt_val (de_callB (cr_all rfl) real_all rfl G.n_all rfl (da_cons (de_lcN (LcOk.mk (own := [("row", 2)]) rfl sc_is_table.nd (di_seq (dv 0)) (blkOk_by (N := ["table", "size", "row", "worth"]) (sc := defScope s_is_table) (by decide +kernel)) (fun _ _ _ _ _ => (dg_name (i := 2) sc_is_table.nd rfl (by first | exact Or.inl rfl | exact Or.inr rfl) (fun _ e => by cases e; decide))) (fun _ _ _ _ _ => dts_nil) (fun _ _ _ _ _ => (de_cmp (op_eqD hr.units) real_eq (de_callB call_len real_len rfl G.n_len rfl (da_cons (dv 2) da_nil)) (dv 1) (nomark _))))) da_nil))))))) (dss_one (ds_ret de_bl)) dss_nil)
      (dss_one (ds_ret (de_callB (cr_all rfl) real_all rfl G.n_all rfl (da_cons (de_frz (de_lc2O (own := [("row", 2), ("worth", 3)]) [3] rfl sc_is_table.nd (di_seq (dv 0)) (blkOk_by (N := ["table", "size", "row", "worth"]) (sc := defScope s_is_table) (by decide +kernel)) (fun _ _ _ _ _ => (dg_name (i := 2) sc_is_table.nd rfl (by first | exact Or.inl rfl | exact Or.inr rfl) (fun _ e => by cases e; decide))) (fun _ _ _ _ _ => dts_nil) (fun _ _ _ _ _ => (di_seq (dv 2))) (fun _ _ _ _ _ => (dg_name (i := 3) sc_is_table.nd rfl (by first | exact Or.inl rfl | exact Or.inr rfl) (fun _ e => by cases e; decide))) (fun _ _ _ _ _ => dts_nil) (fun _ _ _ _ _ => (de_chain op_le op_lt real_le real_lt de_int (dv 3) (dv 1))))) da_nil)))))), fun ds M Qd Ed h => ?_⟩
  obtain ⟨d, t, rfl, RR, l1, l2, h⟩ := h
  obtain ⟨rs, hrs, rfl, hx⟩ := rowsR_ints RR
  rw [List.length_map] at l1
  have l3 : ∀ x ∈ rs, (intsD M x).length ≤ 100 := fun x hx => l2 _ (List.mem_map_of_mem hx)
  (first | (simp only [st_is_table]; try sizeOf_list_dec) | sizeOf_list_dec)
  rw [lenSq hrs]
  have no : ¬ isTab (rs.map (intsD M)) → Qd (.bl false) M := fun n => by rw [decide_eq_false n] at h; exact h
  refine ⟨1, (rs.length : Nat), rfl, rfl, _, rfl, fun z1 => ?_, fun z1 => ?_⟩
  · have z1 := of_decide_eq_true z1
    refine ⟨_, 16, rfl, rfl, _, rfl, ?_⟩
    by_cases h16 : ((rs.length : Nat) : Int) ≤ 16
    · rw [decide_eq_true h16, if_neg (by decide)]
      refine ⟨_, itSq hrs, LI_J (fun x => some (.bl (decide ((intsD M x).length = rs.length)))) (fun M' hM => itSq (sq_ext hM hrs)) (fun x hxm M' hM => ?_) ?_⟩
      · (first | (simp only [st_is_table]; try sizeOf_list_dec) | sizeOf_list_dec)
        rw [lenSq (sq_ext hM (hx x hxm)), List.length_map]
        refine eqSq (b := decide (((intsD M x).length : Int) = (rs.length : Int))) rfl rfl rfl ⟨rfl, ?_⟩
        rw [decide_eq_decide.mpr Int.ofNat_inj]
      rw [filterMap_some]
      refine ⟨_, rs.map fun x => decide ((intsD M x).length = rs.length), rfl, by rw [sqD_lst, List.map_map]; rfl, _, rfl, ?_⟩
      by_cases hA : ∀ x ∈ rs, (intsD M x).length = rs.length
      · rw [show ((rs.map fun x => decide ((intsD M x).length = rs.length)).all id) = true by
          rw [List.all_map, List.all_eq_true]; exact fun x hxm => decide_eq_true (hA x hxm), if_neg (by decide)]
        refine ⟨_, itSq hrs, fun x r => r = (intsD M x).map fun w => D.bl (decide (0 ≤ w ∧ w < (rs.length : Int))), 100, by rw [szl]; omega, fun M' hM => itSq (sq_ext hM hrs), fun x hxm M' hM => ?_, fun os ho p hp => ?_⟩
        · refine ⟨_, itSq (sq_ext hM (hx x hxm)), by rw [List.length_map]; exact l3 x hxm, L2in_F (F := D.int) (xs := intsD M x) injInt (fun w => some (.bl (decide (0 ≤ w ∧ w < (rs.length : Int))))) (fun M5 hM5 => itSq (sq_ext hM5 (hx x hxm))) (fun w hw M5 hM5 => ?_) ?_⟩
          · (first | (simp only [st_is_table]; try sizeOf_list_dec) | sizeOf_list_dec)
            exact ⟨fun z => by rw [decide_eq_decide]; exact ⟨fun y => ⟨z, y⟩, fun y => y.2⟩, fun z => (decide_eq_false fun y => z y.1).symm⟩
          · rw [filterMap_some]
        rw [mdel_mup hp, flatI ho]
        refine ⟨_, (rs.map fun x => (intsD M x).map fun w => decide (0 ≤ w ∧ w < (rs.length : Int))).flatten, rfl, ?_, ?_⟩
        · show some _ = some _
          rw [List.map_flatten, List.map_map]
          congr 2
          refine List.map_congr_left fun x _ => ?_
          rw [Function.comp, List.map_map]
          rfl
        · rw [tab_all (by omega) (by omega) hA]
          exact Fin.same h
      · rw [show ((rs.map fun x => decide ((intsD M x).length = rs.length)).all id) = false by
          rw [← Bool.not_eq_true, List.all_map, List.all_eq_true]; exact fun c => hA fun x hxm => of_decide_eq_true (c x hxm), if_pos rfl]
        exact Fin.same (no fun T => hA fun x hxm => by have := T.2.1 _ (List.mem_map_of_mem hxm); rwa [List.length_map] at this)
    · rw [decide_eq_false h16, if_pos rfl]
      exact Fin.same (no fun T => h16 (by have := T.1.2; rw [List.length_map] at this; omega))
  · have z1 := of_decide_eq_false z1
    exact Fin.same (no fun T => z1 (by have := T.1.1; rw [List.length_map] at this; omega))
theorem sc_broken : FnScope ["table", "size", "one", "two", "three"] ["table"] (defScope s_broken) := ⟨rfl, rfl, rfl, by decide +kernel, rfl, by decide +kernel, by decide +kernel⟩
def sp_broken : DSp := fun ds M Q _ => ∃ (d : D) (t : Tb), ds = [d] ∧ rowsR M d t ∧ isTab t ∧ Q ((brkO t).getD (.tup [])) M
theorem st_broken {a0 : D} : dstart ["table", "size", "one", "two", "three"] [a0] = [some a0, none, none, none, none] := rfl
theorem ok_broken (G : Glb P w K mg base C_BadTable C_Join) (Dd : DefAt K mg "broken" s_broken ["table"]) : Dfk P w K mg base T "broken" 1 ["table"] sp_broken := by
  refine DefAt.ok Dd sc_broken (fun ds M Q E h => by
    obtain ⟨_, _, rfl, _⟩ := h
    rfl) fun f cdv A outer s H E hr => ?_
  have tk : Takes (cxOf (L2.CX P w) P w K mg base ["table", "size", "one", "two", "three"] "broken" (defScope s_broken) f cdv A outer s H E) (wOf T E).w := takes_of rfl rfl rfl rfl
  refine ⟨_, (dss_cons (ds_set 1 sc_broken.nd (de_callB call_len real_len rfl G.n_len rfl (da_cons (dv 0) da_nil)))
      (dss_cons (ds_for (passes_of rfl) rfl (di_rng1 rfl G.n_range (da_cons (dv 1) da_nil)) (dg_name (i := 2) sc_broken.nd rfl (by first | exact Or.inl rfl | exact Or.inr rfl) (fun _ e => nomatch e)) (dss_one (ds_if (dt_cmp (op_neD hr.units) real_ne (de_ix (de_ix (dv 0) (dv 2)) (dv 2)) (dv 2) (nomark _)) (dss_one (ds_ret (de_tup (da_cons de_str (da_cons (dv 2) da_nil))))) dss_nil)))
      (dss_cons (ds_for (passes_of rfl) rfl (di_rng1 rfl G.n_range (da_cons (dv 1) da_nil)) (dg_name (i := 2) sc_broken.nd rfl (by first | exact Or.inl rfl | exact Or.inr rfl) (fun _ e => nomatch e)) (dss_one (ds_for (passes_of rfl) rfl (di_rng2 rfl G.n_range (da_cons (de_op op_add3 real_add (dv 2) de_int) (da_cons (dv 1) da_nil))) (dg_name (i := 3) sc_broken.nd rfl (by first | exact Or.inl rfl | exact Or.inr rfl) (fun _ e => nomatch e)) (dss_one (ds_if (dt_cmp (op_neD hr.units) real_ne (de_ix (de_ix (dv 0) (dv 2)) (dv 3)) (de_ix (de_ix (dv 0) (dv 3)) (dv 2)) (nomark _)) (dss_one (ds_ret (de_tup (da_cons de_str (da_cons (dv 2) (da_cons (dv 3) da_nil)))))) dss_nil)))))
      (dss_cons (ds_for (passes_of rfl) rfl (di_rng1 rfl G.n_range (da_cons (dv 1) da_nil)) (dg_name (i := 2) sc_broken.nd rfl (by first | exact Or.inl rfl | exact Or.inr rfl) (fun _ e => nomatch e)) (dss_one (ds_for (passes_of rfl) rfl (di_rng1 rfl G.n_range (da_cons (dv 1) da_nil)) (dg_name (i := 3) sc_broken.nd rfl (by first | exact Or.inl rfl | exact Or.inr rfl) (fun _ e => nomatch e)) (dss_one (ds_for (passes_of rfl) rfl (di_rng1 rfl G.n_range (da_cons (dv 1) da_nil)) (dg_name (i := 4) sc_broken.nd rfl (by first | exact Or.inl rfl | exact Or.inr rfl) (fun _ e => nomatch e)) (dss_one (ds_if (dt_cmp (op_neD hr.units) real_ne (de_ix (de_ix (dv 0) (de_ix (de_ix (dv 0) (dv 2)) (dv 3))) (dv 4)) (de_ix (de_ix (dv 0) (dv 2)) (de_ix (de_ix (dv 0) (dv 3)) (dv 4))) (nomark _)) (dss_one (ds_ret (de_tup (da_cons de_str (da_cons (dv 2) (da_cons (dv 3) (da_cons (dv 4) da_nil))))))) dss_nil)))))))
      (dss_one (ds_ret (de_tup da_nil))))))), fun ds M Qd Ed h => ?_⟩
  obtain ⟨d, t, rfl, RR, TT, h⟩ := h
  obtain ⟨rs, hrs, hrl, _⟩ := id RR
  have T2 := TT.1.2
  (first | (simp only [st_broken]; try sizeOf_list_dec) | sizeOf_list_dec)
  rw [lenSq hrs, hrl]
  refine ⟨_, rfl, ?_⟩
  refine ⟨⟨by omega, by omega⟩, ?_⟩
  rw [Int.toNat_natCast]
  have at2 : ∀ {a b : Int}, inJ t.length a → inJ t.length b → ∃ x, ixD M d (.int a) = some x ∧ ixD M x (.int b) = some (.int (opJ t a b)) ∧ inJ t.length (opJ t a b) := fun {a b} ha hb => rowsR_at RR TT ha hb
  let I1 : Nat → DG → Mp → Prop := fun i Γ2 M2 => (∃ c2, Γ2 = [some d, some (.int (t.length : Nat)), c2, none, none]) ∧ M = M2 ∧ ∀ j, j < i → twF t j = none
  refine forRng I1 ⟨⟨_, rfl⟩, rfl, fun j hj => absurd hj (Nat.not_lt_zero _)⟩ (fun _ => trivial) ?_ ?_
  · rintro i _ _ hi ⟨⟨c2, rfl⟩, rfl, hb⟩
    (first | (simp only [st_broken]; try sizeOf_list_dec) | sizeOf_list_dec)
    obtain ⟨r, a1, a2, a3⟩ := at2 (nat_in hi) (nat_in hi)
    refine ⟨_, a1, _, a2, ?_⟩
    (first | (simp only [st_broken]; try sizeOf_list_dec) | sizeOf_list_dec)
    refine ⟨fun z => ?_, fun z => ⟨⟨_, rfl⟩, rfl, fun j hj => ?_⟩⟩
    · have e : brkO t = some (.tup [.str "twice", .int (i : Nat)]) := by
        unfold brkO brk1
        rw [fs_some hi hb (if_neg z)]
      rw [e] at h
      exact Fin.same h
    · by_cases e : j = i
      · subst e
        exact if_pos z
      · exact hb j (by omega)
  rintro _ _ ⟨⟨c2, rfl⟩, rfl, hb⟩
  have e1 : brk1 t = none := fs_none hb
  sizeOf_list_dec
  refine ⟨⟨by omega, by omega⟩, ?_⟩
  rw [Int.toNat_natCast]
  let I2 : Nat → DG → Mp → Prop := fun i Γ2 M2 => (∃ c2 c3, Γ2 = [some d, some (.int (t.length : Nat)), c2, c3, none]) ∧ M = M2 ∧ ∀ j, j < i → brk2r t j = none
  refine forRng I2 ⟨⟨_, _, rfl⟩, rfl, fun j hj => absurd hj (Nat.not_lt_zero _)⟩ (fun _ => trivial) ?_ ?_
  · rintro i _ _ hi ⟨⟨c2, c3, rfl⟩, rfl, hb2⟩
    sizeOf_list_dec
    refine ⟨⟨by omega, by omega⟩, ⟨by omega, by omega⟩, ?_⟩
    rw [show ((t.length : Int) - ((i : Int) + 1)).toNat = t.length - (i + 1) by omega]
    refine ⟨by omega, ?_⟩
    let I3 : Nat → DG → Mp → Prop := fun k Γ2 M2 => (∃ c3, Γ2 = [some d, some (.int (t.length : Nat)), some (.int (i : Nat)), c3, none]) ∧ M = M2 ∧ ∀ j, j < k → abF t i j = none
    refine forRng I3 ⟨⟨_, rfl⟩, rfl, fun j hj => absurd hj (Nat.not_lt_zero _)⟩ (fun _ => trivial) ?_ ?_
    · rintro k _ _ hk ⟨⟨c3, rfl⟩, rfl, hb3⟩
      have ek : (i : Int) + 1 + (k : Int) = ((i + 1 + k : Nat) : Int) := by omega
      nomatch st_broken, ek
      have hj : inJ t.length ((i + 1 + k : Nat) : Int) := nat_in (by omega)
      obtain ⟨r, a1, a2, a3⟩ := at2 (nat_in hi) hj
      obtain ⟨r2, b1, b2, b3⟩ := at2 hj (nat_in hi)
      refine ⟨_, a1, _, a2, _, b1, _, b2, ?_⟩
      sizeOf_list_dec
      refine ⟨fun z => ?_, fun z => ⟨⟨_, rfl⟩, rfl, fun j hj => ?_⟩⟩
      · have e : brkO t = some (.tup [.str "about", .int (i : Nat), .int (i + 1 + k : Nat)]) := by
          unfold brkO
          rw [e1]
          show (match brk2 t with | some d => some d | none => brk3 t) = _
          rw [show brk2 t = some _ from fs_some hi hb2 (fs_some hk hb3 (if_neg z))]
        rw [e] at h
        exact Fin.same h
      · by_cases e : j = k
        · subst e
          exact if_pos z
        · exact hb3 j (by omega)
    rintro _ _ ⟨⟨c3, rfl⟩, rfl, hb3⟩
    refine ⟨⟨_, _, rfl⟩, rfl, fun j hj => ?_⟩
    by_cases e : j = i
    · subst e
      exact fs_none hb3
    · exact hb2 j (by omega)
  rintro _ _ ⟨⟨c2, c3, rfl⟩, rfl, hb2⟩
  have e2 : brk2 t = none := fs_none hb2
  sizeOf_list_dec
  refine ⟨⟨by omega, by omega⟩, ?_⟩
  rw [Int.toNat_natCast]
  let I4 : Nat → DG → Mp → Prop := fun i Γ2 M2 => (∃ c2 c3 c4, Γ2 = [some d, some (.int (t.length : Nat)), c2, c3, c4]) ∧ M = M2 ∧ ∀ j, j < i → brk3r t j = none
  refine forRng I4 ⟨⟨_, _, _, rfl⟩, rfl, fun j hj => absurd hj (Nat.not_lt_zero _)⟩ (fun _ => trivial) ?_ ?_
  · rintro i _ _ hi ⟨⟨c2, c3, c4, rfl⟩, rfl, hb3⟩
    sizeOf_list_dec
    refine ⟨⟨by omega, by omega⟩, ?_⟩
    rw [Int.toNat_natCast]
    let I5 : Nat → DG → Mp → Prop := fun k Γ2 M2 => (∃ c3 c4, Γ2 = [some d, some (.int (t.length : Nat)), some (.int (i : Nat)), c3, c4]) ∧ M = M2 ∧ ∀ j, j < k → brk3q t i j = none
    refine forRng I5 ⟨⟨_, _, rfl⟩, rfl, fun j hj => absurd hj (Nat.not_lt_zero _)⟩ (fun _ => trivial) ?_ ?_
    · rintro k _ _ hk ⟨⟨c3, c4, rfl⟩, rfl, hb4⟩
      sizeOf_list_dec
      refine ⟨⟨by omega, by omega⟩, ?_⟩
      rw [Int.toNat_natCast]
      let I6 : Nat → DG → Mp → Prop := fun m Γ2 M2 => (∃ c4, Γ2 = [some d, some (.int (t.length : Nat)), some (.int (i : Nat)), some (.int (k : Nat)), c4]) ∧ M = M2 ∧ ∀ j, j < m → brF t i k j = none
      refine forRng I6 ⟨⟨_, rfl⟩, rfl, fun j hj => absurd hj (Nat.not_lt_zero _)⟩ (fun _ => trivial) ?_ ?_
      · rintro m _ _ hm ⟨⟨c4, rfl⟩, rfl, hb5⟩
        sizeOf_list_dec
        obtain ⟨r, a1, a2, a3⟩ := at2 (nat_in hi) (nat_in hk)
        obtain ⟨r2, b1, b2, b3⟩ := at2 a3 (nat_in hm)
        obtain ⟨r3, d1, d2, d3⟩ := at2 (nat_in hk) (nat_in hm)
        obtain ⟨r4, f1, f2, f3⟩ := at2 (nat_in hi) d3
        refine ⟨_, a1, _, a2, _, b1, _, b2, _, f1, _, d1, _, d2, _, f2, ?_⟩
        sizeOf_list_dec
        refine ⟨fun z => ?_, fun z => ⟨⟨_, rfl⟩, rfl, fun j hj => ?_⟩⟩
        · have e : brkO t = some (.tup [.str "brackets", .int (i : Nat), .int (k : Nat), .int (m : Nat)]) := by
            unfold brkO
            rw [e1, e2]
            exact fs_some hi hb3 (fs_some hk hb4 (fs_some hm hb5 (if_neg z)))
          rw [e] at h
          exact ⟨by rw [szl]; decide, Fin.same h⟩
        · by_cases e : j = m
          · subst e
            exact if_pos z
          · exact hb5 j (by omega)
      rintro _ _ ⟨⟨c4, rfl⟩, rfl, hb5⟩
      refine ⟨⟨_, _, rfl⟩, rfl, fun j hj => ?_⟩
      by_cases e : j = k
      · subst e
        exact fs_none hb5
      · exact hb4 j (by omega)
    rintro _ _ ⟨⟨c3, c4, rfl⟩, rfl, hb4⟩
    refine ⟨⟨_, _, _, rfl⟩, rfl, fun j hj => ?_⟩
    by_cases e : j = i
    · subst e
      exact fs_none hb4
    · exact hb3 j (by omega)
  rintro _ _ ⟨⟨c2, c3, c4, rfl⟩, rfl, hb3⟩
  sizeOf_list_dec
  have e : brkO t = none := by
    unfold brkO
    rw [e1, e2]
    exact fs_none hb3
  rw [e] at h
  exact Fin.same h
theorem sc_Join_init : FnScope ["self", "table", "why", "row"] ["self", "table"] (defScope s_Join_init) := ⟨rfl, rfl, rfl, by decide +kernel, rfl, by decide +kernel, by decide +kernel⟩
def sp_Join_init (CB C : Addr) : DSp := fun ds M Q E => ∃ (p : Addr) (d : D) (t : Tb), ds = [.ref p, d] ∧ M p = some (.ins C []) ∧ rowsR M d t ∧ t.length ≤ 100 ∧ (∀ r ∈ t, r.length ≤ 100) ∧ (¬ isTab t → E CB (fd1 "why" "table" [.tup []]) M) ∧ (isTab t → ∀ w, brkO t = some w → E CB (fd1 "why" "table" [w]) M) ∧ (isTab t → brkO t = none → Q .non (mup M p (.ins C (joinF t))))
theorem st_Join_init {a0 a1 : D} : dstart ["self", "table", "why", "row"] [a0, a1] = [some a0, some a1, none, none] := rfl
theorem ok_Join_init (G : Glb P w K mg base C_BadTable C_Join) (h_broken : Dfk P w K mg base T "broken" 1 ["table"] sp_broken) (h_is_table : Dfk P w K mg base T "is_table" 1 ["table"] sp_is_table) (Dd : MethAt K C_Join "__init__" "Join.__init__" s_Join_init ["self", "table"]) : Mfk P w K mg base T C_Join "__init__" 4 ["self", "table"] (sp_Join_init C_BadTable C_Join) := by
  refine MethAt.ok Dd sc_Join_init (fun ds M Q E h => by
    obtain ⟨_, _, _, rfl, _⟩ := h
    rfl) fun f cdv A outer s H E hr => ?_
  have tk : Takes (cxOf (L2.CX P w) P w K mg base ["self", "table", "why", "row"] "Join.__init__" (defScope s_Join_init) f cdv A outer s H E) (wOf T E).w := takes_of rfl rfl rfl rfl
  refine ⟨_, (dss_cons (ds_if (dt_not (dt_val (de_callA h_is_table (hr.mono (by decide)) tk (da_cons (dv 1) da_nil)))) (dss_one (ds_raise G.x_BadTable (by decide) rf1 (hr.mono (by decide)) rfl tk (da_cons (de_tup da_nil) da_nil))) dss_nil)
      (dss_cons (ds_set 2 sc_Join_init.nd (de_callA h_broken (hr.mono (by decide)) tk (da_cons (dv 1) da_nil)))
      (dss_cons (ds_if (dt_cmp (op_neD hr.units) real_ne (dv 2) (de_tup da_nil) (nomark _)) (dss_one (ds_raise G.x_BadTable (by decide) rf1 (hr.mono (by decide)) rfl tk (da_cons (dv 2) da_nil))) dss_nil)
      (dss_one (ds_put G.cl_Join G.na_Join_pairs (dv 0) (de_callTy call_tuple_of real_tuple rfl G.n_tuple rfl (da_cons (de_lcN (LcOk.mk (own := [("row", 3)]) rfl sc_Join_init.nd (di_seq (dv 1)) (blkOk_by (N := ["self", "table", "why", "row"]) (sc := defScope s_Join_init) (by decide +kernel)) (fun _ _ _ _ _ => (dg_name (i := 3) sc_Join_init.nd rfl (by first | exact Or.inl rfl | exact Or.inr rfl) (fun _ e => by cases e; decide))) (fun _ _ _ _ _ => dts_nil) (fun _ _ _ _ _ => (de_callTy call_tuple_of real_tuple rfl G.n_tuple rfl (da_cons (dv 3) da_nil))))) da_nil))))))), fun ds M Qd Ed h => ?_⟩
  obtain ⟨p, d, t, rfl, hp, RR, l1, l2, e1, e2, h⟩ := h
  (first | (simp only [st_Join_init]; try sizeOf_list_dec) | sizeOf_list_dec)
  refine ⟨d, t, rfl, RR, l1, l2, _, rfl, ?_⟩
  by_cases T : isTab t
  · rw [decide_eq_true T, if_neg (by decide)]
    refine ⟨d, t, rfl, RR, T, ?_⟩
    cases eb : brkO t with
    | some w =>
      exact brk_ne eb ⟨_, rfl, fun _ => e2 T w eb, (fun z => by cases z)⟩
    | none =>
      show rdNe (.tup []) (.tup []) M _
      have e0 : res M (D.tup []) = D.tup [] := rfl
      refine neSq (b := false) (by rw [e0]; decide) (by rw [e0]; decide) (by rw [e0]; decide) ⟨_, rfl, (fun z => by cases z), fun _ => ?_⟩
      have h := h T eb
      obtain ⟨rs, hrs, rfl, hx⟩ := rowsR_ints RR
      refine ⟨_, itSq hrs, LI_J (fun x => some (tupI (intsD M x))) (fun M' hM => itSq (sq_ext hM hrs)) (fun x hxm M' hM => ?_) ?_⟩
      · (first | (simp only [st_Join_init]; try sizeOf_list_dec) | sizeOf_list_dec)
        exact rdTuple_sq (sq_ext hM (hx x hxm)) ⟨rfl, rfl⟩
      rw [filterMap_some]
      refine rdTuple_sq (xs := rs.map fun x => tupI (intsD M x)) rfl ⟨_, hp, by simp, ?_⟩
      refine Fin.same ?_
      have e : joinF (rs.map (intsD M)) = putD "pairs" (.tup (rs.map fun x => tupI (intsD M x))) [] := by
        unfold joinF
        rw [List.map_map]
        rfl
      rw [← e]
      exact h
  rw [decide_eq_false T, if_pos rfl]
  exact e1 T
theorem sc_Join_size : FnScope ["self"] ["self"] (defScope s_Join_size) := ⟨rfl, rfl, rfl, by decide +kernel, rfl, by decide +kernel, by decide +kernel⟩
def sp_Join_size (C : Addr) : DSp := fun ds M Q _ => ∃ (d : D) (t : Tb), ds = [d] ∧ insD M d = some (C, joinF t) ∧ Q (.int (t.length : Nat)) M
theorem st_Join_size {a0 : D} : dstart ["self"] [a0] = [some a0] := rfl
theorem ok_Join_size (G : Glb P w K mg base C_BadTable C_Join) (Dd : MethAt K C_Join "size" "Join.size" s_Join_size ["self"]) : Mfk P w K mg base T C_Join "size" 1 ["self"] (sp_Join_size C_Join) := by
  refine MethAt.ok Dd sc_Join_size (fun ds M Q E h => by
    obtain ⟨_, _, rfl, _⟩ := h
    rfl) fun f cdv A outer s H E hr => ?_
  have tk : Takes (cxOf (L2.CX P w) P w K mg base ["self"] "Join.size" (defScope s_Join_size) f cdv A outer s H E) (wOf T E).w := takes_of rfl rfl rfl rfl
  refine ⟨_, (dss_one (ds_ret (de_callB call_len real_len rfl G.n_len rfl (da_cons (de_fld G.cl_Join G.na_Join_pairs (dv 0)) da_nil)))), fun ds M Qd Ed h => ?_⟩
  obtain ⟨d, t, rfl, hd, h⟩ := h
  (first | (simp only [st_Join_size]; try sizeOf_list_dec) | sizeOf_list_dec)
  refine ⟨_, hd, _, rfl, ?_⟩
  rw [lenT, List.length_map]
  exact Fin.same h
theorem sc_Join_table : FnScope ["self", "row"] ["self"] (defScope s_Join_table) := ⟨rfl, rfl, rfl, by decide +kernel, rfl, by decide +kernel, by decide +kernel⟩
def sp_Join_table (C : Addr) : DSp := fun ds M Q _ => ∃ (d : D) (t : Tb), ds = [d] ∧ insD M d = some (C, joinF t) ∧ isTab t ∧ Q (.lst (t.map lotD)) M
theorem st_Join_table {a0 : D} : dstart ["self", "row"] [a0] = [some a0, none] := rfl
theorem ok_Join_table (G : Glb P w K mg base C_BadTable C_Join) (Dd : MethAt K C_Join "table" "Join.table" s_Join_table ["self"]) : Mfk P w K mg base T C_Join "table" 1 ["self"] (sp_Join_table C_Join) := by
  refine MethAt.ok Dd sc_Join_table (fun ds M Q E h => by
    obtain ⟨_, _, rfl, _⟩ := h
    rfl) fun f cdv A outer s H E hr => ?_
  have tk : Takes (cxOf (L2.CX P w) P w K mg base ["self", "row"] "Join.table" (defScope s_Join_table) f cdv A outer s H E) (wOf T E).w := takes_of rfl rfl rfl rfl
  refine ⟨_, (dss_one (ds_ret (de_lcN (LcOk.mk (own := [("row", 1)]) rfl sc_Join_table.nd (di_seq (de_fld G.cl_Join G.na_Join_pairs (dv 0))) (blkOk_by (N := ["self", "row"]) (sc := defScope s_Join_table) (by decide +kernel)) (fun _ _ _ _ _ => (dg_name (i := 1) sc_Join_table.nd rfl (by first | exact Or.inl rfl | exact Or.inr rfl) (fun _ e => by cases e; decide))) (fun _ _ _ _ _ => dts_nil) (fun _ _ _ _ _ => (de_frz (de_callTy call_list_of real_list rfl G.n_list rfl (da_cons (dv 1) da_nil)))))))), fun ds M Qd Ed h => ?_⟩
  obtain ⟨d, t, rfl, hd, T, h⟩ := h
  (first | (simp only [st_Join_table]; try sizeOf_list_dec) | sizeOf_list_dec)
  refine ⟨_, hd, _, rfl, _, rfl, LI_F (F := tupI) (xs := t) injTupI (fun r => some (lotD r)) (fun _ _ => rfl) (fun r hr M1 X1 => ?_) ?_⟩
  · (first | (simp only [st_Join_table]; try sizeOf_list_dec) | sizeOf_list_dec)
    exact ⟨_, r.map D.int, rfl, rfl, fun p hp => ⟨p, rfl, _, mup_same, mdel_mup hp, rfl⟩⟩
  rw [filterMap_some]
  exact Fin.same h
def sp_Join_tableO (C : Addr) : DSp := fun ds M Q _ => ∃ (d : D) (t : Tb), ds = [d] ∧ insD M d = some (C, joinF t) ∧ isTab t ∧ ∀ (p q0 : Addr) (rest : List D) (r0 : List Int) (M2 : Mp), M2 p = some (.lst (.ref q0 :: rest)) → M2 q0 = some (.lst (r0.map D.int)) → M q0 = none → (∀ a c, M a = some c → M2 a = some c) → 1 ≤ r0.length → r0.length ≤ 16 → Q (.ref p) M2
theorem ok_Join_tableO (G : Glb P w K mg base C_BadTable C_Join) (Dd : MethAt K C_Join "table" "Join.table" s_Join_table ["self"]) : Mfk P w K mg base T C_Join "table" 1 ["self"] (sp_Join_tableO C_Join) := by
  refine MethAt.ok Dd sc_Join_table (fun ds M Q E h => by
    obtain ⟨_, _, rfl, _⟩ := h
    rfl) fun f cdv A outer s H E hr => ?_
  have tk : Takes (cxOf (L2.CX P w) P w K mg base ["self", "row"] "Join.table" (defScope s_Join_table) f cdv A outer s H E) (wOf T E).w := takes_of rfl rfl rfl rfl
  refine ⟨_, (dss_one (ds_ret (de_lcgO (LcOkX.mk (own := [("row", 1)]) rfl rfl tk rfl sc_Join_table.nd (di_seq (de_fld G.cl_Join G.na_Join_pairs (dv 0))) (blkOk_by (N := ["self", "row"]) (sc := defScope s_Join_table) (by decide +kernel)) (fun _ _ _ _ _ _ => (dg_name (i := 1) sc_Join_table.nd rfl (by first | exact Or.inl rfl | exact Or.inr rfl) (fun _ e => by cases e; decide))) (fun _ _ _ _ _ _ _ tkb => dts_nil) (fun _ _ _ _ _ _ _ tkb => (de_callTy call_list_of real_list rfl G.n_list rfl (da_cons (dv 1) da_nil))))))), fun ds M Qd Ed h => ?_⟩
  obtain ⟨d, t, rfl, hd, TT, h⟩ := h
  (first | (simp only [st_Join_table]; try sizeOf_list_dec) | sizeOf_list_dec)
  refine ⟨_, hd, _, rfl, _, rfl, fun p hp => ⟨fun i acc M' => ∃ qs : List Addr, acc = qs.map D.ref ∧ qs.length = i ∧ PartT M M' p qs t ∧ ∀ q ∈ qs, M q = none, ⟨[], rfl, rfl, PartT.start hp, by simp⟩, fun i acc M' hp' hl hJ => ⟨rfl, fun d hd => ?_, fun hi => ?_⟩⟩⟩
  · obtain ⟨qs, rfl, rfl, hP, hN⟩ := hJ
    have hd : (t.map tupI)[qs.length]? = some d := hd
    rw [List.getElem?_map] at hd
    cases hr : t[qs.length]? with
    | none => rw [hr] at hd; cases hd
    | some r =>
      rw [hr] at hd
      cases hd
      (first | (simp only [st_Join_table]; try sizeOf_list_dec) | sizeOf_list_dec)
      refine ⟨tupI r, r.map D.int, rfl, rfl, fun q hq => ?_⟩
      obtain ⟨n1, n2⟩ := hP.next (ds' := qs.map D.ref ++ [.ref q]) hp hp' hq hr
      refine ⟨n2, qs ++ [q], by rw [List.map_append]; rfl, by rw [List.length_append]; rfl, n1, fun x hx => ?_⟩
      rcases List.mem_append.mp hx with hx | hx
      · exact hN x hx
      · rw [List.mem_singleton.mp hx]
        cases e : M q with
        | none => rfl
        | some c => rw [hP.old _ _ e] at hq; cases hq
  obtain ⟨qs, rfl, hql, hP, hN⟩ := hJ
  have hi : i = (t.map tupI).length := hi
  rw [List.length_map] at hi
  have T1 := TT.1
  have hq0 : 0 < qs.length := by omega
  obtain ⟨r0, e1, e2⟩ := hP.row 0 _ (List.getElem?_eq_getElem hq0)
  have rl := TT.2.1 r0 (List.mem_of_getElem? e1)
  cases qs with
  | nil => simp at hq0
  | cons q0 ys => exact Fin.same (h p q0 (ys.map D.ref) r0 M' hp' e2 (hN q0 List.mem_cons_self) hP.old (by omega) (by omega))
theorem sc_law_bag : FnScope ["_law_script"] ["_law_script"] (defScope s_law_bag) := ⟨rfl, rfl, rfl, by decide +kernel, rfl, by decide +kernel, by decide +kernel⟩
def sp_law_bag : DSp := fun ds M Q _ => ∃ ns : List Int, ds = [.scr ns] ∧ ns.length ≤ 63 ∧ ∀ p, M p = none → Q (.ref p) (mup M p bagC)
theorem st_law_bag {a0 : D} : dstart ["_law_script"] [a0] = [some a0] := rfl
theorem ok_law_bag (G : Glb P w K mg base C_BadTable C_Join) (Dd : DefAt K mg "_law_bag" s_law_bag ["_law_script"]) : Dfk P w K mg base T "_law_bag" 1 ["_law_script"] sp_law_bag := by
  refine DefAt.ok Dd sc_law_bag (fun ds M Q E h => by
    obtain ⟨_, rfl, _⟩ := h
    rfl) fun f cdv A outer s H E hr => ?_
  have tk : Takes (cxOf (L2.CX P w) P w K mg base ["_law_script"] "_law_bag" (defScope s_law_bag) f cdv A outer s H E) (wOf T E).w := takes_of rfl rfl rfl rfl
  refine ⟨_, (dss_one (ds_ret (de_lstO (da_cons (de_frz (de_callTy call_list_of real_list rfl G.n_list rfl (da_cons (de_sl (dv 0) do_none (do_some de_int)) da_nil))) (da_cons de_int (da_cons de_int (da_cons de_int da_nil))))))), fun ds M Qd Ed h => ?_⟩
  obtain ⟨ns, rfl, hl, h⟩ := h
  (first | (simp only [st_law_bag]; try sizeOf_list_dec) | sizeOf_list_dec)
  refine ⟨ns.map D.int, sqI, .lst _, _, rfl, rfl, fun p hp => ⟨p, rfl, _, mup_same, sz4, ?_⟩⟩
  rw [mdel_mup hp]
  intro q hq
  refine Fin.close mup_same (φ := BagOk) ⟨ns, 0, 0, 29, ?_, hl, by decide, by decide, by decide, by decide⟩ ?_
  · unfold cutD HT.sIx
    simp only [List.length_map]
    rw [List.take_of_length_le (by simp; omega)]
    simp
  · rw [mup_mup]
    exact h q hq
theorem sc_law_take : FnScope ["_law_bag_here", "_law_sides", "_law_cell", "_law_rest", "_law_twice"] ["_law_bag_here", "_law_sides"] (defScope s_law_take) := ⟨rfl, rfl, rfl, by decide +kernel, rfl, by decide +kernel, by decide +kernel⟩
def sp_law_take : DSp := fun ds M Q _ => ∃ (b : Addr) (n : Int), ds = [.ref b, .int n] ∧ M b = some bagC ∧ 0 < n ∧ n < 1073741824 ∧ ∀ r : Int, 0 ≤ r → r < n → Q (.int r) M
theorem st_law_take {a0 a1 : D} : dstart ["_law_bag_here", "_law_sides", "_law_cell", "_law_rest", "_law_twice"] [a0, a1] = [some a0, some a1, none, none, none] := rfl
theorem ok_law_take (G : Glb P w K mg base C_BadTable C_Join) (Dd : DefAt K mg "_law_take" s_law_take ["_law_bag_here", "_law_sides"]) : Dfk P w K mg base T "_law_take" 1 ["_law_bag_here", "_law_sides"] sp_law_take := by
  refine DefAt.ok Dd sc_law_take (fun ds M Q E h => by
    obtain ⟨_, _, rfl, _⟩ := h
    rfl) fun f cdv A outer s H E hr => ?_
  have tk : Takes (cxOf (L2.CX P w) P w K mg base ["_law_bag_here", "_law_sides", "_law_cell", "_law_rest", "_law_twice"] "_law_take" (defScope s_law_take) f cdv A outer s H E) (wOf T E).w := takes_of rfl rfl rfl rfl
  refine ⟨_, (dss_gh (dss_cut (ds_if (dw_pt (dw_and (dt_cmp (op_eqD hr.units) real_eq (de_ix (dv 0) de_int) de_int (nomark _)) (dw_and1 (dt_cmp op_lt real_lt (de_ix (dv 0) de_int) (de_callB call_len real_len rfl G.n_len rfl (da_cons (de_ix (dv 0) de_int) da_nil)) (nomark _))))) (dss_cons (ds_set 2 sc_law_take.nd (de_ix (de_ix (dv 0) de_int) (de_ix (dv 0) de_int)))
      (dss_cons (ds_augS (dv 0) de_int de_int ip_add)
      (dss_one (ds_if (dw_pt (dw_or (dt_cmp op_ge real_ge (dv 2) (de_op op_pow real_pow de_int de_int) (nomark _)) (dw_or1 (dt_cmp op_le real_le (dv 2) (de_neg (de_op op_pow real_pow de_int de_int)) (nomark _))))) (dss_one (ds_asg (de_callB call_abs real_abs rfl G.n_abs rfl (da_cons (dv 2) da_nil)) (dg_sub (dv 0) de_int))) (dss_one (ds_asg (de_op op_mod real_mod (de_op op_add3 real_add (de_op op_add3 real_add (de_op op_mul2 real_mul (de_ix (dv 0) de_int) de_int) (de_op op_mul2 real_mul (de_op op_mod real_mod (dv 2) de_int) de_int)) de_int) de_int) (dg_sub (dv 0) de_int))))))) dss_nil)
      (dss_cut (ds_if (dt_cmp op_gt real_gt (de_ix (dv 0) de_int) de_int (nomark _)) (dss_cons (ds_set 3 sc_law_take.nd (de_ix (dv 0) de_int))
      (dss_cons (ds_asg (de_op op_fdiv real_fdiv (dv 3) (dv 1)) (dg_sub (dv 0) de_int))
      (dss_one (ds_ret (de_op op_mod real_mod (dv 3) (dv 1)))))) dss_nil)
      (dss_cons (ds_set 4 sc_law_take.nd (de_op op_mod real_mod (de_op op_mul2 real_mul (de_ix (dv 0) de_int) (de_ix (dv 0) de_int)) de_int))
      (dss_cons (ds_asg (de_op op_mod real_mod (de_op op_add3 real_add (de_op op_add3 real_add (de_op op_mul2 real_mul (dv 4) de_int) (de_op op_mul2 real_mul (de_ix (dv 0) de_int) de_int)) de_int) de_int) (dg_sub (dv 0) de_int))
      (dss_one (ds_ret (de_op op_mod real_mod (de_op op_fdiv real_fdiv (de_ix (dv 0) de_int) de_int) (dv 1))))))))), fun ds M Qd Ed h => ?_⟩
  obtain ⟨b, n, rfl, hb, h0, h1, h⟩ := h
  refine GhS.open hb fun ds hd => ?_
  obtain ⟨ns, i, r, s, rfl, hl, hi, hr0, hs0, hs1⟩ := hd
  have back : ∀ (i r s z : Int), 0 ≤ i → 0 ≤ r → 0 ≤ s → s < 2147483629 → 0 ≤ z → z < n → Fin ⟨K, T⟩ Qd (.int z) (mup M b (.lst [.lst (ns.map D.int), .int i, .int r, .int s])) := fun i r s z h2 h3 h4 h5 h6 h7 => by
    refine Fin.close mup_same (φ := BagOk) ⟨ns, i, r, s, rfl, hl, h2, h3, h4, h5⟩ ?_
    rw [mup_mup, mup_self hb]
    exact h z h6 h7
  refine ⟨fun Γ' M' => ∃ (c : Option D) (i r s : Int), Γ' = [some (.ref b), some (.int n), c, none, none] ∧ M' = mup M b (.lst [.lst (ns.map D.int), .int i, .int r, .int s]) ∧ 0 ≤ i ∧ 0 ≤ r ∧ 0 ≤ s ∧ s < 2147483629, ?_, ?_⟩
  · (first | (simp only [st_law_take]; try sizeOf_list_dec) | sizeOf_list_dec)
    refine ⟨fun hr => ⟨fun hi2 => ?_, fun _ => ⟨i, r, s, rfl, hi, hr0, hs0, hs1⟩⟩, fun _ => ⟨i, r, s, rfl, hi, hr0, hs0, hs1⟩⟩
    obtain ⟨z, _, _, ez⟩ := atJ (f := D.int) hi hi2
    refine ⟨_, ez, ?_⟩
    (first | (simp only [st_law_take]; try sizeOf_list_dec) | sizeOf_list_dec)
    have p1 : CPow 10 18 := ⟨by decide, by decide, by decide⟩
    have c1 : CMul s 31337 := .inr ⟨by decide, by decide⟩
    have c2 : CMul (z % 1000003) 977 := .inr ⟨by decide, by decide⟩
    have hz : 0 ≤ (if z < 0 then -z else z) := by split <;> omega
    refine ⟨p1, fun _ => ⟨_, _, _, rfl, by omega, hz, hs0, hs1⟩, fun _ => ⟨p1, fun _ => ⟨_, _, _, rfl, by omega, hz, hs0, hs1⟩, fun _ => ⟨c1, by decide, c2, by decide, _, _, _, rfl, by omega, hr0, Int.emod_nonneg _ (by decide), Int.emod_lt_of_pos _ (by decide)⟩⟩⟩
  · rintro _ _ ⟨c, i, r, s, rfl, rfl, hi, hr0, hs0, hs1⟩
    refine ⟨fun Γ' M' => Γ' = [some (.ref b), some (.int n), c, none, none] ∧ M' = mup M b (.lst [.lst (ns.map D.int), .int i, .int r, .int s]), ?_, ?_⟩
    · (first | (simp only [st_law_take]; try sizeOf_list_dec) | sizeOf_list_dec)
      refine fun hp => ⟨⟨h0, h1⟩, h0, ?_⟩
      exact back i (r / n) s (r % n) hi (Int.ediv_nonneg hr0 (by omega)) hs0 hs1 (Int.emod_nonneg _ (by omega)) (Int.emod_lt_of_pos _ h0)
    · rintro _ _ ⟨rfl, rfl⟩
      sizeOf_list_dec
      refine ⟨.inr ⟨by omega, by omega⟩, by decide, .inr ⟨by decide, by decide⟩, .inr ⟨by decide, by decide⟩, by decide, ⟨by decide, by decide⟩, h0, ?_⟩
      exact back _ _ _ _ hi hr0 (Int.emod_nonneg _ (by decide)) (Int.emod_lt_of_pos _ (by decide)) (Int.emod_nonneg _ (by omega)) (Int.emod_lt_of_pos _ h0)
theorem sc_law_of : FnScope ["_law_bag_here", "_law_some"] ["_law_bag_here", "_law_some"] (defScope s_law_of) := ⟨rfl, rfl, rfl, by decide +kernel, rfl, by decide +kernel, by decide +kernel⟩
def sp_law_of : DSp := fun ds M Q _ => ∃ (b : Addr) (d : D) (xs : List D), ds = [.ref b, d] ∧ M b = some bagC ∧ sqD M d = some xs ∧ 0 < xs.length ∧ xs.length < 1073741824 ∧ ∀ x, x ∈ xs → Q x M
theorem st_law_of {a0 a1 : D} : dstart ["_law_bag_here", "_law_some"] [a0, a1] = [some a0, some a1] := rfl
theorem ok_law_of (G : Glb P w K mg base C_BadTable C_Join) (h_law_take : Dfk P w K mg base T "_law_take" 1 ["_law_bag_here", "_law_sides"] sp_law_take) (Dd : DefAt K mg "_law_of" s_law_of ["_law_bag_here", "_law_some"]) : Dfk P w K mg base T "_law_of" 2 ["_law_bag_here", "_law_some"] sp_law_of := by
  refine DefAt.ok Dd sc_law_of (fun ds M Q E h => by
    obtain ⟨_, _, _, rfl, _⟩ := h
    rfl) fun f cdv A outer s H E hr => ?_
  have tk : Takes (cxOf (L2.CX P w) P w K mg base ["_law_bag_here", "_law_some"] "_law_of" (defScope s_law_of) f cdv A outer s H E) (wOf T E).w := takes_of rfl rfl rfl rfl
  refine ⟨_, (dss_one (ds_ret (de_ix (dv 1) (de_callA h_law_take (hr.mono (by decide)) tk (da_cons (dv 0) (da_cons (de_callB call_len real_len rfl G.n_len rfl (da_cons (dv 1) da_nil)) da_nil)))))), fun ds M Qd Ed h => ?_⟩
  obtain ⟨b, d, xs, rfl, hb, hd, h0, h1, h⟩ := h
  (first | (simp only [st_law_of]; try sizeOf_list_dec) | sizeOf_list_dec)
  rw [lenSq hd]
  refine ⟨b, _, rfl, hb, by omega, by omega, fun r hr0 hr1 => ?_⟩
  obtain ⟨x, hx, _, e⟩ := atL hr0 hr1
  rw [ixSq hd]
  exact ⟨x, e, Fin.same (h x hx)⟩
theorem sc_law_turned : FnScope ["_law_bag_here", "_law_some", "_law_found", "_law_one"] ["_law_bag_here", "_law_some"] (defScope s_law_turned) := ⟨rfl, rfl, rfl, by decide +kernel, rfl, by decide +kernel, by decide +kernel⟩
def sp_law_turned : DSp := fun ds M Q _ => ∃ (b : Addr) (d : D) (α : Type) (f : α → D) (as : List α), ds = [.ref b, d] ∧ M b = some bagC ∧ sqD M d = some (as.map f) ∧ as.length ≤ 1000 ∧ ∀ bs : List α, bs.Perm as → Q (.lst (bs.map f)) M
theorem st_law_turned {a0 a1 : D} : dstart ["_law_bag_here", "_law_some", "_law_found", "_law_one"] [a0, a1] = [some a0, some a1, none, none] := rfl
theorem ok_law_turned (G : Glb P w K mg base C_BadTable C_Join) (h_law_take : Dfk P w K mg base T "_law_take" 1 ["_law_bag_here", "_law_sides"] sp_law_take) (Dd : DefAt K mg "_law_turned" s_law_turned ["_law_bag_here", "_law_some"]) : Dfk P w K mg base T "_law_turned" 2 ["_law_bag_here", "_law_some"] sp_law_turned := by
  refine DefAt.ok Dd sc_law_turned (fun ds M Q E h => by
    obtain ⟨_, _, _, _, _, rfl, _⟩ := h
    rfl) fun f cdv A outer s H E hr => ?_
  have tk : Takes (cxOf (L2.CX P w) P w K mg base ["_law_bag_here", "_law_some", "_law_found", "_law_one"] "_law_turned" (defScope s_law_turned) f cdv A outer s H E) (wOf T E).w := takes_of rfl rfl rfl rfl
  refine ⟨_, (dss_cons (ds_set 2 sc_law_turned.nd (de_lstO da_nil))
      (dss_cons (ds_for (passes_of rfl) rfl (di_seq (dv 1)) (dg_name (i := 3) sc_law_turned.nd rfl (by first | exact Or.inl rfl | exact Or.inr rfl) (fun _ e => nomatch e)) (dss_one (ds_expr (de_insert (dv 2) (de_callA h_law_take (hr.mono (by decide)) tk (da_cons (dv 0) (da_cons (de_op op_add3 real_add (de_callB call_len real_len rfl G.n_len rfl (da_cons (dv 2) da_nil)) de_int) da_nil))) (dv 3)))))
      (dss_one (ds_ret (dv 2))))), fun ds M Qd Ed h => ?_⟩
  obtain ⟨b, d, α, f, as, rfl, hb, hd, hl, h⟩ := h
  have sz : sizeLine = 16777216 := szl
  (first | (simp only [st_law_turned]; try sizeOf_list_dec) | sizeOf_list_dec)
  refine fun p hp => ?_
  have hpb : b ≠ p := fun z => by rw [z, hp] at hb; cases hb
  refine ⟨_, itSq (sq_ext ((Ext.refl M).up hp) hd), forBy (fun i Γ2 M2 => ∃ (bs : List α) (c : Option D), Γ2 = [some (.ref b), some d, some (.ref p), c] ∧ M2 = mup M p (.lst (bs.map f)) ∧ bs.Perm (as.take i)) ⟨[], none, rfl, rfl, .refl _⟩ ?_ ?_ ?_⟩
  · rintro i _ _ ⟨bs, c, rfl, rfl, _⟩
    exact itSq (sq_ext ((Ext.refl M).up hp) hd)
  · rintro i x _ _ hx ⟨bs, c, rfl, rfl, hm⟩
    have hi : i < as.length := (List.getElem?_eq_some_iff.mp hx).1
    have ht : as.take (i + 1) = as.take i ++ [x] := by rw [List.take_add_one, hx]; rfl
    have hlen : bs.length = i := by rw [hm.length_eq, List.length_take]; omega
    (first | (simp only [st_law_turned]; try sizeOf_list_dec) | sizeOf_list_dec)
    rw [lenR mup_same]
    (first | (simp only [st_law_turned]; try sizeOf_list_dec) | sizeOf_list_dec)
    refine ⟨b, _, rfl, by rw [mup_ne hpb]; exact hb, by omega, by omega, fun r h0 h1 => ?_⟩
    sizeOf_list_dec
    refine ⟨by omega, h0, by omega, bs.take r.toNat ++ [x] ++ bs.drop r.toNat, by simp [List.map_take, List.map_drop], ?_⟩
    rw [ht]
    refine List.Perm.trans ?_ (hm.append_right [x])
    rw [List.append_assoc]
    refine (List.perm_append_comm_assoc _ _ _).trans ?_
    rw [List.take_append_drop]
    exact List.perm_append_comm
  · rintro _ _ ⟨bs, c, rfl, rfl, hm⟩
    sizeOf_list_dec
    rw [List.take_length] at hm
    exact Fin.frzE mup_same hp ((Ext.refl M).up hp) (h bs hm)
theorem sc_law_same : FnScope ["_law_found", "_law_due", "_law_x", "_law_y"] ["_law_found", "_law_due"] (defScope s_law_same) := ⟨rfl, rfl, rfl, by decide +kernel, rfl, by decide +kernel, by decide +kernel⟩
def sp_law_sameN (n : Nat) : DSp := fun ds M Q _ => ∃ d e : D, ds = [d, e] ∧ dep n (res M d) ∧ dep n (res M e) ∧ Q (.bl (sameD (res M d) (res M e))) M
def sp_law_same0 : DSp := sp_law_sameN 0
theorem st_law_same {a0 a1 : D} : dstart ["_law_found", "_law_due", "_law_x", "_law_y"] [a0, a1] = [some a0, some a1, none, none] := rfl
theorem ok_law_same0 (G : Glb P w K mg base C_BadTable C_Join) (Dd : DefAt K mg "_law_same" s_law_same ["_law_found", "_law_due"]) : Dfk P w K mg base T "_law_same" 1 ["_law_found", "_law_due"] sp_law_same0 := by
  refine DefAt.ok Dd sc_law_same (fun ds M Q E h => by
    obtain ⟨_, _, rfl, _⟩ := h
    rfl) fun f cdv A outer s H E hr => ?_
  have tk : Takes (cxOf (L2.CX P w) P w K mg base ["_law_found", "_law_due", "_law_x", "_law_y"] "_law_same" (defScope s_law_same) f cdv A outer s H E) (wOf T E).w := takes_of rfl rfl rfl rfl
  refine ⟨_, (dss_cons (ds_if (dt_val (de_isi2 (c := "list") (c' := "tuple") (dv 1) G.n_isinstance rfl G.n_list rfl G.n_tuple rfl)) dss_never dss_nil)
      (dss_cons (ds_if (dw_pt (dw_or (dt_cmp (op_neD hr.units) real_ne (de_cmp op_isN real_isN (dv 0) de_non (nomark _)) (de_cmp op_isN real_isN (dv 1) de_non (nomark _)) (nomark _)) (dw_or1 (dt_cmp (op_neD hr.units) real_ne (de_isi (c := "bool") (dv 0) G.n_isinstance rfl G.n_bool rfl) (de_isi (c := "bool") (dv 1) G.n_isinstance rfl G.n_bool rfl) (nomark _))))) (dss_one (ds_ret de_bl)) dss_nil)
      (dss_cons (ds_if (dt_cmp (op_neD hr.units) real_ne (de_isi (c := "int") (dv 0) G.n_isinstance rfl G.n_int rfl) (de_isi (c := "int") (dv 1) G.n_isinstance rfl G.n_int rfl) (nomark _)) (dss_one (ds_ret de_bl)) dss_nil)
      (dss_one (ds_ret (de_and (de_cmp (op_eqD hr.units) real_eq (de_isi (c := "str") (dv 0) G.n_isinstance rfl G.n_str rfl) (de_isi (c := "str") (dv 1) G.n_isinstance rfl G.n_str rfl) (nomark _)) (de_one (de_cmp (op_eqD hr.units) real_eq (dv 0) (dv 1) (nomark _))))))))), fun ds M Qd Ed h => ?_⟩
  obtain ⟨d, e, rfl, hx, hy, h⟩ := h
  have ex : res M d = d := nsq_res fun xs z => by rw [z] at hx; exact hx
  have ey : res M e = e := nsq_res fun xs z => by rw [z] at hy; exact hy
  rw [ex] at hx h
  rw [ey] at hy h
  have fin : deq d e = sameD d e → Fin ⟨K, T⟩ Qd (D.bl (deq d e)) M := fun z => by rw [z]; exact Fin.same h
  have no : sameD d e = false → Fin ⟨K, T⟩ Qd (D.bl false) M := fun z => by rw [z] at h; exact Fin.same h
  have s1 := sh_flat hx
  have s2 := sh_flat hy
  cases d with
  | non =>
    cases e with
    | non =>
      nomatch st_law_same, isa_No_bo, isa_No_in, isa_No_st, isa_No_tu, isa_No_li, isa_bo_bo, isa_bo_in, isa_bo_st, isa_bo_tu, isa_bo_li, isa_in_bo, isa_in_in, isa_in_st, isa_in_tu, isa_in_li, isa_st_bo, isa_st_in, isa_st_st, isa_st_tu, isa_st_li, isa_tu_bo, isa_tu_in, isa_tu_st, isa_tu_tu, isa_tu_li, isa_li_bo, isa_li_in, isa_li_st, isa_li_tu, isa_li_li, tyStr, isN_str, Bool.or_false, Bool.false_or, Bool.or_true, Bool.true_or, Bool.or_self, not_true_eq_false, not_false_eq_true, Bool.true_eq_false, Bool.false_eq_true, forall_const, Bool.not_false, Bool.not_true, and_self, imp_self
      exact ⟨s1, s2, fin (by simp [deq, D.py, PyData.eqv, sameD])⟩
    | bl j =>
      nomatch st_law_same, isa_No_bo, isa_No_in, isa_No_st, isa_No_tu, isa_No_li, isa_bo_bo, isa_bo_in, isa_bo_st, isa_bo_tu, isa_bo_li, isa_in_bo, isa_in_in, isa_in_st, isa_in_tu, isa_in_li, isa_st_bo, isa_st_in, isa_st_st, isa_st_tu, isa_st_li, isa_tu_bo, isa_tu_in, isa_tu_st, isa_tu_tu, isa_tu_li, isa_li_bo, isa_li_in, isa_li_st, isa_li_tu, isa_li_li, tyStr, isN_str, Bool.or_false, Bool.false_or, Bool.or_true, Bool.true_or, Bool.or_self, not_true_eq_false, not_false_eq_true, Bool.true_eq_false, Bool.false_eq_true, forall_const, Bool.not_false, Bool.not_true, and_self, imp_self
      exact no (by simp [sameD])
    | int j =>
      nomatch st_law_same, isa_No_bo, isa_No_in, isa_No_st, isa_No_tu, isa_No_li, isa_bo_bo, isa_bo_in, isa_bo_st, isa_bo_tu, isa_bo_li, isa_in_bo, isa_in_in, isa_in_st, isa_in_tu, isa_in_li, isa_st_bo, isa_st_in, isa_st_st, isa_st_tu, isa_st_li, isa_tu_bo, isa_tu_in, isa_tu_st, isa_tu_tu, isa_tu_li, isa_li_bo, isa_li_in, isa_li_st, isa_li_tu, isa_li_li, tyStr, isN_str, Bool.or_false, Bool.false_or, Bool.or_true, Bool.true_or, Bool.or_self, not_true_eq_false, not_false_eq_true, Bool.true_eq_false, Bool.false_eq_true, forall_const, Bool.not_false, Bool.not_true, and_self, imp_self
      exact no (by simp [sameD])
    | str j =>
      nomatch st_law_same, isa_No_bo, isa_No_in, isa_No_st, isa_No_tu, isa_No_li, isa_bo_bo, isa_bo_in, isa_bo_st, isa_bo_tu, isa_bo_li, isa_in_bo, isa_in_in, isa_in_st, isa_in_tu, isa_in_li, isa_st_bo, isa_st_in, isa_st_st, isa_st_tu, isa_st_li, isa_tu_bo, isa_tu_in, isa_tu_st, isa_tu_tu, isa_tu_li, isa_li_bo, isa_li_in, isa_li_st, isa_li_tu, isa_li_li, tyStr, isN_str, Bool.or_false, Bool.false_or, Bool.or_true, Bool.true_or, Bool.or_self, not_true_eq_false, not_false_eq_true, Bool.true_eq_false, Bool.false_eq_true, forall_const, Bool.not_false, Bool.not_true, and_self, imp_self
      exact no (by simp [sameD])
    | _ => exact hy.elim
  | bl i =>
    cases e with
    | non =>
      nomatch st_law_same, isa_No_bo, isa_No_in, isa_No_st, isa_No_tu, isa_No_li, isa_bo_bo, isa_bo_in, isa_bo_st, isa_bo_tu, isa_bo_li, isa_in_bo, isa_in_in, isa_in_st, isa_in_tu, isa_in_li, isa_st_bo, isa_st_in, isa_st_st, isa_st_tu, isa_st_li, isa_tu_bo, isa_tu_in, isa_tu_st, isa_tu_tu, isa_tu_li, isa_li_bo, isa_li_in, isa_li_st, isa_li_tu, isa_li_li, tyStr, isN_str, Bool.or_false, Bool.false_or, Bool.or_true, Bool.true_or, Bool.or_self, not_true_eq_false, not_false_eq_true, Bool.true_eq_false, Bool.false_eq_true, forall_const, Bool.not_false, Bool.not_true, and_self, imp_self
      exact no (by simp [sameD])
    | bl j =>
      nomatch st_law_same, isa_No_bo, isa_No_in, isa_No_st, isa_No_tu, isa_No_li, isa_bo_bo, isa_bo_in, isa_bo_st, isa_bo_tu, isa_bo_li, isa_in_bo, isa_in_in, isa_in_st, isa_in_tu, isa_in_li, isa_st_bo, isa_st_in, isa_st_st, isa_st_tu, isa_st_li, isa_tu_bo, isa_tu_in, isa_tu_st, isa_tu_tu, isa_tu_li, isa_li_bo, isa_li_in, isa_li_st, isa_li_tu, isa_li_li, tyStr, isN_str, Bool.or_false, Bool.false_or, Bool.or_true, Bool.true_or, Bool.or_self, not_true_eq_false, not_false_eq_true, Bool.true_eq_false, Bool.false_eq_true, forall_const, Bool.not_false, Bool.not_true, and_self, imp_self
      exact Fin.same (by simpa [sameD] using h)
    | int j =>
      nomatch st_law_same, isa_No_bo, isa_No_in, isa_No_st, isa_No_tu, isa_No_li, isa_bo_bo, isa_bo_in, isa_bo_st, isa_bo_tu, isa_bo_li, isa_in_bo, isa_in_in, isa_in_st, isa_in_tu, isa_in_li, isa_st_bo, isa_st_in, isa_st_st, isa_st_tu, isa_st_li, isa_tu_bo, isa_tu_in, isa_tu_st, isa_tu_tu, isa_tu_li, isa_li_bo, isa_li_in, isa_li_st, isa_li_tu, isa_li_li, tyStr, isN_str, Bool.or_false, Bool.false_or, Bool.or_true, Bool.true_or, Bool.or_self, not_true_eq_false, not_false_eq_true, Bool.true_eq_false, Bool.false_eq_true, forall_const, Bool.not_false, Bool.not_true, and_self, imp_self
      exact no (by simp [sameD])
    | str j =>
      nomatch st_law_same, isa_No_bo, isa_No_in, isa_No_st, isa_No_tu, isa_No_li, isa_bo_bo, isa_bo_in, isa_bo_st, isa_bo_tu, isa_bo_li, isa_in_bo, isa_in_in, isa_in_st, isa_in_tu, isa_in_li, isa_st_bo, isa_st_in, isa_st_st, isa_st_tu, isa_st_li, isa_tu_bo, isa_tu_in, isa_tu_st, isa_tu_tu, isa_tu_li, isa_li_bo, isa_li_in, isa_li_st, isa_li_tu, isa_li_li, tyStr, isN_str, Bool.or_false, Bool.false_or, Bool.or_true, Bool.true_or, Bool.or_self, not_true_eq_false, not_false_eq_true, Bool.true_eq_false, Bool.false_eq_true, forall_const, Bool.not_false, Bool.not_true, and_self, imp_self
      exact no (by simp [sameD])
    | _ => exact hy.elim
  | int i =>
    cases e with
    | non =>
      nomatch st_law_same, isa_No_bo, isa_No_in, isa_No_st, isa_No_tu, isa_No_li, isa_bo_bo, isa_bo_in, isa_bo_st, isa_bo_tu, isa_bo_li, isa_in_bo, isa_in_in, isa_in_st, isa_in_tu, isa_in_li, isa_st_bo, isa_st_in, isa_st_st, isa_st_tu, isa_st_li, isa_tu_bo, isa_tu_in, isa_tu_st, isa_tu_tu, isa_tu_li, isa_li_bo, isa_li_in, isa_li_st, isa_li_tu, isa_li_li, tyStr, isN_str, Bool.or_false, Bool.false_or, Bool.or_true, Bool.true_or, Bool.or_self, not_true_eq_false, not_false_eq_true, Bool.true_eq_false, Bool.false_eq_true, forall_const, Bool.not_false, Bool.not_true, and_self, imp_self
      exact no (by simp [sameD])
    | bl j =>
      nomatch st_law_same, isa_No_bo, isa_No_in, isa_No_st, isa_No_tu, isa_No_li, isa_bo_bo, isa_bo_in, isa_bo_st, isa_bo_tu, isa_bo_li, isa_in_bo, isa_in_in, isa_in_st, isa_in_tu, isa_in_li, isa_st_bo, isa_st_in, isa_st_st, isa_st_tu, isa_st_li, isa_tu_bo, isa_tu_in, isa_tu_st, isa_tu_tu, isa_tu_li, isa_li_bo, isa_li_in, isa_li_st, isa_li_tu, isa_li_li, tyStr, isN_str, Bool.or_false, Bool.false_or, Bool.or_true, Bool.true_or, Bool.or_self, not_true_eq_false, not_false_eq_true, Bool.true_eq_false, Bool.false_eq_true, forall_const, Bool.not_false, Bool.not_true, and_self, imp_self
      exact no (by simp [sameD])
    | int j =>
      nomatch st_law_same, isa_No_bo, isa_No_in, isa_No_st, isa_No_tu, isa_No_li, isa_bo_bo, isa_bo_in, isa_bo_st, isa_bo_tu, isa_bo_li, isa_in_bo, isa_in_in, isa_in_st, isa_in_tu, isa_in_li, isa_st_bo, isa_st_in, isa_st_st, isa_st_tu, isa_st_li, isa_tu_bo, isa_tu_in, isa_tu_st, isa_tu_tu, isa_tu_li, isa_li_bo, isa_li_in, isa_li_st, isa_li_tu, isa_li_li, tyStr, isN_str, Bool.or_false, Bool.false_or, Bool.or_true, Bool.true_or, Bool.or_self, not_true_eq_false, not_false_eq_true, Bool.true_eq_false, Bool.false_eq_true, forall_const, Bool.not_false, Bool.not_true, and_self, imp_self
      exact Fin.same (by simpa [sameD] using h)
    | str j =>
      nomatch st_law_same, isa_No_bo, isa_No_in, isa_No_st, isa_No_tu, isa_No_li, isa_bo_bo, isa_bo_in, isa_bo_st, isa_bo_tu, isa_bo_li, isa_in_bo, isa_in_in, isa_in_st, isa_in_tu, isa_in_li, isa_st_bo, isa_st_in, isa_st_st, isa_st_tu, isa_st_li, isa_tu_bo, isa_tu_in, isa_tu_st, isa_tu_tu, isa_tu_li, isa_li_bo, isa_li_in, isa_li_st, isa_li_tu, isa_li_li, tyStr, isN_str, Bool.or_false, Bool.false_or, Bool.or_true, Bool.true_or, Bool.or_self, not_true_eq_false, not_false_eq_true, Bool.true_eq_false, Bool.false_eq_true, forall_const, Bool.not_false, Bool.not_true, and_self, imp_self
      exact no (by simp [sameD])
    | _ => exact hy.elim
  | str i =>
    cases e with
    | non =>
      nomatch st_law_same, isa_No_bo, isa_No_in, isa_No_st, isa_No_tu, isa_No_li, isa_bo_bo, isa_bo_in, isa_bo_st, isa_bo_tu, isa_bo_li, isa_in_bo, isa_in_in, isa_in_st, isa_in_tu, isa_in_li, isa_st_bo, isa_st_in, isa_st_st, isa_st_tu, isa_st_li, isa_tu_bo, isa_tu_in, isa_tu_st, isa_tu_tu, isa_tu_li, isa_li_bo, isa_li_in, isa_li_st, isa_li_tu, isa_li_li, tyStr, isN_str, Bool.or_false, Bool.false_or, Bool.or_true, Bool.true_or, Bool.or_self, not_true_eq_false, not_false_eq_true, Bool.true_eq_false, Bool.false_eq_true, forall_const, Bool.not_false, Bool.not_true, and_self, imp_self
      exact no (by simp [sameD])
    | bl j =>
      nomatch st_law_same, isa_No_bo, isa_No_in, isa_No_st, isa_No_tu, isa_No_li, isa_bo_bo, isa_bo_in, isa_bo_st, isa_bo_tu, isa_bo_li, isa_in_bo, isa_in_in, isa_in_st, isa_in_tu, isa_in_li, isa_st_bo, isa_st_in, isa_st_st, isa_st_tu, isa_st_li, isa_tu_bo, isa_tu_in, isa_tu_st, isa_tu_tu, isa_tu_li, isa_li_bo, isa_li_in, isa_li_st, isa_li_tu, isa_li_li, tyStr, isN_str, Bool.or_false, Bool.false_or, Bool.or_true, Bool.true_or, Bool.or_self, not_true_eq_false, not_false_eq_true, Bool.true_eq_false, Bool.false_eq_true, forall_const, Bool.not_false, Bool.not_true, and_self, imp_self
      exact no (by simp [sameD])
    | int j =>
      nomatch st_law_same, isa_No_bo, isa_No_in, isa_No_st, isa_No_tu, isa_No_li, isa_bo_bo, isa_bo_in, isa_bo_st, isa_bo_tu, isa_bo_li, isa_in_bo, isa_in_in, isa_in_st, isa_in_tu, isa_in_li, isa_st_bo, isa_st_in, isa_st_st, isa_st_tu, isa_st_li, isa_tu_bo, isa_tu_in, isa_tu_st, isa_tu_tu, isa_tu_li, isa_li_bo, isa_li_in, isa_li_st, isa_li_tu, isa_li_li, tyStr, isN_str, Bool.or_false, Bool.false_or, Bool.or_true, Bool.true_or, Bool.or_self, not_true_eq_false, not_false_eq_true, Bool.true_eq_false, Bool.false_eq_true, forall_const, Bool.not_false, Bool.not_true, and_self, imp_self
      exact no (by simp [sameD])
    | str j =>
      nomatch st_law_same, isa_No_bo, isa_No_in, isa_No_st, isa_No_tu, isa_No_li, isa_bo_bo, isa_bo_in, isa_bo_st, isa_bo_tu, isa_bo_li, isa_in_bo, isa_in_in, isa_in_st, isa_in_tu, isa_in_li, isa_st_bo, isa_st_in, isa_st_st, isa_st_tu, isa_st_li, isa_tu_bo, isa_tu_in, isa_tu_st, isa_tu_tu, isa_tu_li, isa_li_bo, isa_li_in, isa_li_st, isa_li_tu, isa_li_li, tyStr, isN_str, Bool.or_false, Bool.false_or, Bool.or_true, Bool.true_or, Bool.or_self, not_true_eq_false, not_false_eq_true, Bool.true_eq_false, Bool.false_eq_true, forall_const, Bool.not_false, Bool.not_true, and_self, imp_self
      exact ⟨s1, s2, fin (by rw [deq_str]; simp [sameD])⟩
    | _ => exact hy.elim
  | _ => exact hx.elim
def sp_law_same1 : DSp := sp_law_sameN 1
theorem ok_law_sameN {n k : Nat} (G : Glb P w K mg base C_BadTable C_Join) (h_law_same0 : Dfk P w K mg base T "_law_same" k ["_law_found", "_law_due"] (sp_law_sameN n)) (Dd : DefAt K mg "_law_same" s_law_same ["_law_found", "_law_due"]) : Dfk P w K mg base T "_law_same" (k + 1) ["_law_found", "_law_due"] (sp_law_sameN (n + 1)) := by
  refine DefAt.ok Dd sc_law_same (fun ds M Q E h => by
    obtain ⟨_, _, rfl, _⟩ := h
    rfl) fun f cdv A outer s H E hr => ?_
  have tk : Takes (cxOf (L2.CX P w) P w K mg base ["_law_found", "_law_due", "_law_x", "_law_y"] "_law_same" (defScope s_law_same) f cdv A outer s H E) (wOf T E).w := takes_of rfl rfl rfl rfl
  refine ⟨_, (dss_cons (ds_if (dt_val (de_isi2 (c := "list") (c' := "tuple") (dv 1) G.n_isinstance rfl G.n_list rfl G.n_tuple rfl)) (dss_cons (ds_if (dw_pt (dw_or (dt_cmp (op_neD hr.units) real_ne (de_isi (c := "list") (dv 0) G.n_isinstance rfl G.n_list rfl) (de_isi (c := "list") (dv 1) G.n_isinstance rfl G.n_list rfl) (nomark _)) (dw_or1 (dt_cmp (op_neD hr.units) real_ne (de_isi (c := "tuple") (dv 0) G.n_isinstance rfl G.n_tuple rfl) (de_isi (c := "tuple") (dv 1) G.n_isinstance rfl G.n_tuple rfl) (nomark _))))) (dss_one (ds_ret de_bl)) dss_nil)
      (dss_one (ds_ret (de_and (de_cmp (op_eqD hr.units) real_eq (de_callB call_len real_len rfl G.n_len rfl (da_cons (dv 0) da_nil)) (de_callB call_len real_len rfl G.n_len rfl (da_cons (dv 1) da_nil)) (nomark _)) (de_one (de_callB (cr_all rfl) real_all rfl G.n_all rfl (da_cons (de_lcN (LcOk.mk (own := [("_law_x", 2), ("_law_y", 3)]) rfl sc_law_same.nd (di_zip rfl G.n_zip (da_cons (dv 0) (da_cons (dv 1) da_nil))) (blkOk_by (N := ["_law_found", "_law_due", "_law_x", "_law_y"]) (sc := defScope s_law_same) (by decide +kernel)) (fun _ _ _ _ _ => (dg_tup (n := 2) rfl (dgs_cons (dg_name (i := 2) sc_law_same.nd rfl (by first | exact Or.inl rfl | exact Or.inr rfl) (fun _ e => by cases e; decide)) (dgs_cons (dg_name (i := 3) sc_law_same.nd rfl (by first | exact Or.inl rfl | exact Or.inr rfl) (fun _ e => by cases e; decide)) dgs_nil)))) (fun _ _ _ _ _ => dts_nil) (fun _ _ _ _ _ => (de_callA h_law_same0 (hr.mono (Nat.le_refl _)) takes_none5 (da_cons (dv 2) (da_cons (dv 3) da_nil)))))) da_nil))))))) dss_nil)
      (dss_cons (ds_if (dw_pt (dw_or (dt_cmp (op_neD hr.units) real_ne (de_cmp op_isN real_isN (dv 0) de_non (nomark _)) (de_cmp op_isN real_isN (dv 1) de_non (nomark _)) (nomark _)) (dw_or1 (dt_cmp (op_neD hr.units) real_ne (de_isi (c := "bool") (dv 0) G.n_isinstance rfl G.n_bool rfl) (de_isi (c := "bool") (dv 1) G.n_isinstance rfl G.n_bool rfl) (nomark _))))) (dss_one (ds_ret de_bl)) dss_nil)
      (dss_cons (ds_if (dt_cmp (op_neD hr.units) real_ne (de_isi (c := "int") (dv 0) G.n_isinstance rfl G.n_int rfl) (de_isi (c := "int") (dv 1) G.n_isinstance rfl G.n_int rfl) (nomark _)) (dss_one (ds_ret de_bl)) dss_nil)
      (dss_one (ds_ret (de_and (de_cmp (op_eqD hr.units) real_eq (de_isi (c := "str") (dv 0) G.n_isinstance rfl G.n_str rfl) (de_isi (c := "str") (dv 1) G.n_isinstance rfl G.n_str rfl) (nomark _)) (de_one (de_cmp (op_eqD hr.units) real_eq (dv 0) (dv 1) (nomark _))))))))), fun ds M Qd Ed h => ?_⟩
  obtain ⟨d, e, rfl, hx, hy, h⟩ := h
  have tx := tyRes hx
  have ty := tyRes hy
  have no : sameD (res M d) (res M e) = false → Fin ⟨K, T⟩ Qd (D.bl false) M := fun z => by rw [z] at h; exact Fin.same h
  have pairs : ∀ xs ys : List D, xs.length ≤ 16000000 → (∀ x ∈ xs, dep n x) → (∀ y ∈ ys, dep n y) → xs.length = ys.length → (Fin ⟨K, T⟩ Qd (D.bl (samesD xs ys)) M) → ∀ ok : Mp → Prop, (∀ M', Ext M M' → ok M') → xs.length ≤ sizeLine ∧ LI ⟨zipD xs ys, ok⟩ (gdTup 2 (gdCons (gdName 2) (gdCons (gdName 3) gdNil))) dYes (dCall (sp_law_sameN n) [] (dCons (dVar 2) (dCons (dVar 3) dNil))) [2, 3] [some d, some e, none, none] M (fun x M1 => rdAll [x] M1 (Fin ⟨K, T⟩ Qd)) := fun xs ys hl h1 h2 hlen q ok hok => by
    refine ⟨szOf (by omega), ?_⟩
    rw [zipPr]
    refine LI_F (F := fun p : D × D => D.tup [p.1, p.2]) (xs := xs.zip ys) injPair (fun p => some (.bl (sameD p.1 p.2))) hok (fun p hp M' _ => ?_) ?_
    · have p1 := h1 _ (List.of_mem_zip hp).1
      have p2 := h2 _ (List.of_mem_zip hp).2
      (first | (simp only [st_law_same]; try sizeOf_list_dec) | sizeOf_list_dec)
      exact ⟨_, _, rfl, by rw [res_dep p1]; exact p1, by rw [res_dep p2]; exact p2, by rw [res_dep p1, res_dep p2]; exact ⟨rfl, rfl⟩⟩
    · refine allT ((xs.zip ys).map fun p => sameD p.1 p.2) (by rw [filterMap_some, List.map_map]; rfl) ?_
      rw [samesD_zip hlen]
      exact q
  rcases dep_kinds hy with fy | ⟨ys, ey⟩ | ⟨ys, ey⟩
  · have ee : res M e = e := nsq_res fun xs z => by rw [z] at fy; exact fy
    rcases dep_kinds hx with fx | ⟨xs, ex⟩ | ⟨xs, ex⟩
    · have ed : res M d = d := nsq_res fun xs z => by rw [z] at fx; exact fx
      rw [ed] at fx h
      rw [ee] at fy h
      have fin : deq d e = sameD d e → Fin ⟨K, T⟩ Qd (D.bl (deq d e)) M := fun z => by rw [z]; exact Fin.same h
      have no : sameD d e = false → Fin ⟨K, T⟩ Qd (D.bl false) M := fun z => by rw [z] at h; exact Fin.same h
      have s1 := sh_flat fx
      have s2 := sh_flat fy
      cases d with
      | non =>
        cases e with
        | non =>
          nomatch st_law_same, isa_No_bo, isa_No_in, isa_No_st, isa_No_tu, isa_No_li, isa_bo_bo, isa_bo_in, isa_bo_st, isa_bo_tu, isa_bo_li, isa_in_bo, isa_in_in, isa_in_st, isa_in_tu, isa_in_li, isa_st_bo, isa_st_in, isa_st_st, isa_st_tu, isa_st_li, isa_tu_bo, isa_tu_in, isa_tu_st, isa_tu_tu, isa_tu_li, isa_li_bo, isa_li_in, isa_li_st, isa_li_tu, isa_li_li, tyStr, isN_str, Bool.or_false, Bool.false_or, Bool.or_true, Bool.true_or, Bool.or_self, not_true_eq_false, not_false_eq_true, Bool.true_eq_false, Bool.false_eq_true, forall_const, Bool.not_false, Bool.not_true, and_self, imp_self
          exact ⟨s1, s2, fin (by simp [deq, D.py, PyData.eqv, sameD])⟩
        | bl j =>
          nomatch st_law_same, isa_No_bo, isa_No_in, isa_No_st, isa_No_tu, isa_No_li, isa_bo_bo, isa_bo_in, isa_bo_st, isa_bo_tu, isa_bo_li, isa_in_bo, isa_in_in, isa_in_st, isa_in_tu, isa_in_li, isa_st_bo, isa_st_in, isa_st_st, isa_st_tu, isa_st_li, isa_tu_bo, isa_tu_in, isa_tu_st, isa_tu_tu, isa_tu_li, isa_li_bo, isa_li_in, isa_li_st, isa_li_tu, isa_li_li, tyStr, isN_str, Bool.or_false, Bool.false_or, Bool.or_true, Bool.true_or, Bool.or_self, not_true_eq_false, not_false_eq_true, Bool.true_eq_false, Bool.false_eq_true, forall_const, Bool.not_false, Bool.not_true, and_self, imp_self
          exact no (by simp [sameD])
        | int j =>
          nomatch st_law_same, isa_No_bo, isa_No_in, isa_No_st, isa_No_tu, isa_No_li, isa_bo_bo, isa_bo_in, isa_bo_st, isa_bo_tu, isa_bo_li, isa_in_bo, isa_in_in, isa_in_st, isa_in_tu, isa_in_li, isa_st_bo, isa_st_in, isa_st_st, isa_st_tu, isa_st_li, isa_tu_bo, isa_tu_in, isa_tu_st, isa_tu_tu, isa_tu_li, isa_li_bo, isa_li_in, isa_li_st, isa_li_tu, isa_li_li, tyStr, isN_str, Bool.or_false, Bool.false_or, Bool.or_true, Bool.true_or, Bool.or_self, not_true_eq_false, not_false_eq_true, Bool.true_eq_false, Bool.false_eq_true, forall_const, Bool.not_false, Bool.not_true, and_self, imp_self
          exact no (by simp [sameD])
        | str j =>
          nomatch st_law_same, isa_No_bo, isa_No_in, isa_No_st, isa_No_tu, isa_No_li, isa_bo_bo, isa_bo_in, isa_bo_st, isa_bo_tu, isa_bo_li, isa_in_bo, isa_in_in, isa_in_st, isa_in_tu, isa_in_li, isa_st_bo, isa_st_in, isa_st_st, isa_st_tu, isa_st_li, isa_tu_bo, isa_tu_in, isa_tu_st, isa_tu_tu, isa_tu_li, isa_li_bo, isa_li_in, isa_li_st, isa_li_tu, isa_li_li, tyStr, isN_str, Bool.or_false, Bool.false_or, Bool.or_true, Bool.true_or, Bool.or_self, not_true_eq_false, not_false_eq_true, Bool.true_eq_false, Bool.false_eq_true, forall_const, Bool.not_false, Bool.not_true, and_self, imp_self
          exact no (by simp [sameD])
        | _ => exact fy.elim
      | bl i =>
        cases e with
        | non =>
          nomatch st_law_same, isa_No_bo, isa_No_in, isa_No_st, isa_No_tu, isa_No_li, isa_bo_bo, isa_bo_in, isa_bo_st, isa_bo_tu, isa_bo_li, isa_in_bo, isa_in_in, isa_in_st, isa_in_tu, isa_in_li, isa_st_bo, isa_st_in, isa_st_st, isa_st_tu, isa_st_li, isa_tu_bo, isa_tu_in, isa_tu_st, isa_tu_tu, isa_tu_li, isa_li_bo, isa_li_in, isa_li_st, isa_li_tu, isa_li_li, tyStr, isN_str, Bool.or_false, Bool.false_or, Bool.or_true, Bool.true_or, Bool.or_self, not_true_eq_false, not_false_eq_true, Bool.true_eq_false, Bool.false_eq_true, forall_const, Bool.not_false, Bool.not_true, and_self, imp_self
          exact no (by simp [sameD])
        | bl j =>
          nomatch st_law_same, isa_No_bo, isa_No_in, isa_No_st, isa_No_tu, isa_No_li, isa_bo_bo, isa_bo_in, isa_bo_st, isa_bo_tu, isa_bo_li, isa_in_bo, isa_in_in, isa_in_st, isa_in_tu, isa_in_li, isa_st_bo, isa_st_in, isa_st_st, isa_st_tu, isa_st_li, isa_tu_bo, isa_tu_in, isa_tu_st, isa_tu_tu, isa_tu_li, isa_li_bo, isa_li_in, isa_li_st, isa_li_tu, isa_li_li, tyStr, isN_str, Bool.or_false, Bool.false_or, Bool.or_true, Bool.true_or, Bool.or_self, not_true_eq_false, not_false_eq_true, Bool.true_eq_false, Bool.false_eq_true, forall_const, Bool.not_false, Bool.not_true, and_self, imp_self
          exact Fin.same (by simpa [sameD] using h)
        | int j =>
          nomatch st_law_same, isa_No_bo, isa_No_in, isa_No_st, isa_No_tu, isa_No_li, isa_bo_bo, isa_bo_in, isa_bo_st, isa_bo_tu, isa_bo_li, isa_in_bo, isa_in_in, isa_in_st, isa_in_tu, isa_in_li, isa_st_bo, isa_st_in, isa_st_st, isa_st_tu, isa_st_li, isa_tu_bo, isa_tu_in, isa_tu_st, isa_tu_tu, isa_tu_li, isa_li_bo, isa_li_in, isa_li_st, isa_li_tu, isa_li_li, tyStr, isN_str, Bool.or_false, Bool.false_or, Bool.or_true, Bool.true_or, Bool.or_self, not_true_eq_false, not_false_eq_true, Bool.true_eq_false, Bool.false_eq_true, forall_const, Bool.not_false, Bool.not_true, and_self, imp_self
          exact no (by simp [sameD])
        | str j =>
          nomatch st_law_same, isa_No_bo, isa_No_in, isa_No_st, isa_No_tu, isa_No_li, isa_bo_bo, isa_bo_in, isa_bo_st, isa_bo_tu, isa_bo_li, isa_in_bo, isa_in_in, isa_in_st, isa_in_tu, isa_in_li, isa_st_bo, isa_st_in, isa_st_st, isa_st_tu, isa_st_li, isa_tu_bo, isa_tu_in, isa_tu_st, isa_tu_tu, isa_tu_li, isa_li_bo, isa_li_in, isa_li_st, isa_li_tu, isa_li_li, tyStr, isN_str, Bool.or_false, Bool.false_or, Bool.or_true, Bool.true_or, Bool.or_self, not_true_eq_false, not_false_eq_true, Bool.true_eq_false, Bool.false_eq_true, forall_const, Bool.not_false, Bool.not_true, and_self, imp_self
          exact no (by simp [sameD])
        | _ => exact fy.elim
      | int i =>
        cases e with
        | non =>
          nomatch st_law_same, isa_No_bo, isa_No_in, isa_No_st, isa_No_tu, isa_No_li, isa_bo_bo, isa_bo_in, isa_bo_st, isa_bo_tu, isa_bo_li, isa_in_bo, isa_in_in, isa_in_st, isa_in_tu, isa_in_li, isa_st_bo, isa_st_in, isa_st_st, isa_st_tu, isa_st_li, isa_tu_bo, isa_tu_in, isa_tu_st, isa_tu_tu, isa_tu_li, isa_li_bo, isa_li_in, isa_li_st, isa_li_tu, isa_li_li, tyStr, isN_str, Bool.or_false, Bool.false_or, Bool.or_true, Bool.true_or, Bool.or_self, not_true_eq_false, not_false_eq_true, Bool.true_eq_false, Bool.false_eq_true, forall_const, Bool.not_false, Bool.not_true, and_self, imp_self
          exact no (by simp [sameD])
        | bl j =>
          nomatch st_law_same, isa_No_bo, isa_No_in, isa_No_st, isa_No_tu, isa_No_li, isa_bo_bo, isa_bo_in, isa_bo_st, isa_bo_tu, isa_bo_li, isa_in_bo, isa_in_in, isa_in_st, isa_in_tu, isa_in_li, isa_st_bo, isa_st_in, isa_st_st, isa_st_tu, isa_st_li, isa_tu_bo, isa_tu_in, isa_tu_st, isa_tu_tu, isa_tu_li, isa_li_bo, isa_li_in, isa_li_st, isa_li_tu, isa_li_li, tyStr, isN_str, Bool.or_false, Bool.false_or, Bool.or_true, Bool.true_or, Bool.or_self, not_true_eq_false, not_false_eq_true, Bool.true_eq_false, Bool.false_eq_true, forall_const, Bool.not_false, Bool.not_true, and_self, imp_self
          exact no (by simp [sameD])
        | int j =>
          nomatch st_law_same, isa_No_bo, isa_No_in, isa_No_st, isa_No_tu, isa_No_li, isa_bo_bo, isa_bo_in, isa_bo_st, isa_bo_tu, isa_bo_li, isa_in_bo, isa_in_in, isa_in_st, isa_in_tu, isa_in_li, isa_st_bo, isa_st_in, isa_st_st, isa_st_tu, isa_st_li, isa_tu_bo, isa_tu_in, isa_tu_st, isa_tu_tu, isa_tu_li, isa_li_bo, isa_li_in, isa_li_st, isa_li_tu, isa_li_li, tyStr, isN_str, Bool.or_false, Bool.false_or, Bool.or_true, Bool.true_or, Bool.or_self, not_true_eq_false, not_false_eq_true, Bool.true_eq_false, Bool.false_eq_true, forall_const, Bool.not_false, Bool.not_true, and_self, imp_self
          exact Fin.same (by simpa [sameD] using h)
        | str j =>
          nomatch st_law_same, isa_No_bo, isa_No_in, isa_No_st, isa_No_tu, isa_No_li, isa_bo_bo, isa_bo_in, isa_bo_st, isa_bo_tu, isa_bo_li, isa_in_bo, isa_in_in, isa_in_st, isa_in_tu, isa_in_li, isa_st_bo, isa_st_in, isa_st_st, isa_st_tu, isa_st_li, isa_tu_bo, isa_tu_in, isa_tu_st, isa_tu_tu, isa_tu_li, isa_li_bo, isa_li_in, isa_li_st, isa_li_tu, isa_li_li, tyStr, isN_str, Bool.or_false, Bool.false_or, Bool.or_true, Bool.true_or, Bool.or_self, not_true_eq_false, not_false_eq_true, Bool.true_eq_false, Bool.false_eq_true, forall_const, Bool.not_false, Bool.not_true, and_self, imp_self
          exact no (by simp [sameD])
        | _ => exact fy.elim
      | str i =>
        cases e with
        | non =>
          nomatch st_law_same, isa_No_bo, isa_No_in, isa_No_st, isa_No_tu, isa_No_li, isa_bo_bo, isa_bo_in, isa_bo_st, isa_bo_tu, isa_bo_li, isa_in_bo, isa_in_in, isa_in_st, isa_in_tu, isa_in_li, isa_st_bo, isa_st_in, isa_st_st, isa_st_tu, isa_st_li, isa_tu_bo, isa_tu_in, isa_tu_st, isa_tu_tu, isa_tu_li, isa_li_bo, isa_li_in, isa_li_st, isa_li_tu, isa_li_li, tyStr, isN_str, Bool.or_false, Bool.false_or, Bool.or_true, Bool.true_or, Bool.or_self, not_true_eq_false, not_false_eq_true, Bool.true_eq_false, Bool.false_eq_true, forall_const, Bool.not_false, Bool.not_true, and_self, imp_self
          exact no (by simp [sameD])
        | bl j =>
          nomatch st_law_same, isa_No_bo, isa_No_in, isa_No_st, isa_No_tu, isa_No_li, isa_bo_bo, isa_bo_in, isa_bo_st, isa_bo_tu, isa_bo_li, isa_in_bo, isa_in_in, isa_in_st, isa_in_tu, isa_in_li, isa_st_bo, isa_st_in, isa_st_st, isa_st_tu, isa_st_li, isa_tu_bo, isa_tu_in, isa_tu_st, isa_tu_tu, isa_tu_li, isa_li_bo, isa_li_in, isa_li_st, isa_li_tu, isa_li_li, tyStr, isN_str, Bool.or_false, Bool.false_or, Bool.or_true, Bool.true_or, Bool.or_self, not_true_eq_false, not_false_eq_true, Bool.true_eq_false, Bool.false_eq_true, forall_const, Bool.not_false, Bool.not_true, and_self, imp_self
          exact no (by simp [sameD])
        | int j =>
          nomatch st_law_same, isa_No_bo, isa_No_in, isa_No_st, isa_No_tu, isa_No_li, isa_bo_bo, isa_bo_in, isa_bo_st, isa_bo_tu, isa_bo_li, isa_in_bo, isa_in_in, isa_in_st, isa_in_tu, isa_in_li, isa_st_bo, isa_st_in, isa_st_st, isa_st_tu, isa_st_li, isa_tu_bo, isa_tu_in, isa_tu_st, isa_tu_tu, isa_tu_li, isa_li_bo, isa_li_in, isa_li_st, isa_li_tu, isa_li_li, tyStr, isN_str, Bool.or_false, Bool.false_or, Bool.or_true, Bool.true_or, Bool.or_self, not_true_eq_false, not_false_eq_true, Bool.true_eq_false, Bool.false_eq_true, forall_const, Bool.not_false, Bool.not_true, and_self, imp_self
          exact no (by simp [sameD])
        | str j =>
          nomatch st_law_same, isa_No_bo, isa_No_in, isa_No_st, isa_No_tu, isa_No_li, isa_bo_bo, isa_bo_in, isa_bo_st, isa_bo_tu, isa_bo_li, isa_in_bo, isa_in_in, isa_in_st, isa_in_tu, isa_in_li, isa_st_bo, isa_st_in, isa_st_st, isa_st_tu, isa_st_li, isa_tu_bo, isa_tu_in, isa_tu_st, isa_tu_tu, isa_tu_li, isa_li_bo, isa_li_in, isa_li_st, isa_li_tu, isa_li_li, tyStr, isN_str, Bool.or_false, Bool.false_or, Bool.or_true, Bool.true_or, Bool.or_self, not_true_eq_false, not_false_eq_true, Bool.true_eq_false, Bool.false_eq_true, forall_const, Bool.not_false, Bool.not_true, and_self, imp_self
          exact ⟨s1, s2, fin (by rw [deq_str]; simp [sameD])⟩
        | _ => exact fy.elim
      | _ => exact fx.elim
  
    · have ed : d = .tup xs := by rw [← ex]; exact (nsq_res fun zs z => by rw [ex] at z; cases z).symm
      subst ed
      rw [ee] at fy ty no
      cases e with
      | non => nomatch st_law_same, isa_No_bo, isa_No_in, isa_No_st, isa_No_tu, isa_No_li, isa_bo_bo, isa_bo_in, isa_bo_st, isa_bo_tu, isa_bo_li, isa_in_bo, isa_in_in, isa_in_st, isa_in_tu, isa_in_li, isa_st_bo, isa_st_in, isa_st_st, isa_st_tu, isa_st_li, isa_tu_bo, isa_tu_in, isa_tu_st, isa_tu_tu, isa_tu_li, isa_li_bo, isa_li_in, isa_li_st, isa_li_tu, isa_li_li, tyStr, isN_str, Bool.or_false, Bool.false_or, Bool.or_true, Bool.true_or, Bool.or_self, not_true_eq_false, not_false_eq_true, Bool.true_eq_false, Bool.false_eq_true, forall_const, Bool.not_false, Bool.not_true, and_self, imp_self; exact no (by simp [sameD, res_tup])
      | bl j => nomatch st_law_same, isa_No_bo, isa_No_in, isa_No_st, isa_No_tu, isa_No_li, isa_bo_bo, isa_bo_in, isa_bo_st, isa_bo_tu, isa_bo_li, isa_in_bo, isa_in_in, isa_in_st, isa_in_tu, isa_in_li, isa_st_bo, isa_st_in, isa_st_st, isa_st_tu, isa_st_li, isa_tu_bo, isa_tu_in, isa_tu_st, isa_tu_tu, isa_tu_li, isa_li_bo, isa_li_in, isa_li_st, isa_li_tu, isa_li_li, tyStr, isN_str, Bool.or_false, Bool.false_or, Bool.or_true, Bool.true_or, Bool.or_self, not_true_eq_false, not_false_eq_true, Bool.true_eq_false, Bool.false_eq_true, forall_const, Bool.not_false, Bool.not_true, and_self, imp_self; exact no (by simp [sameD, res_tup])
      | int j => nomatch st_law_same, isa_No_bo, isa_No_in, isa_No_st, isa_No_tu, isa_No_li, isa_bo_bo, isa_bo_in, isa_bo_st, isa_bo_tu, isa_bo_li, isa_in_bo, isa_in_in, isa_in_st, isa_in_tu, isa_in_li, isa_st_bo, isa_st_in, isa_st_st, isa_st_tu, isa_st_li, isa_tu_bo, isa_tu_in, isa_tu_st, isa_tu_tu, isa_tu_li, isa_li_bo, isa_li_in, isa_li_st, isa_li_tu, isa_li_li, tyStr, isN_str, Bool.or_false, Bool.false_or, Bool.or_true, Bool.true_or, Bool.or_self, not_true_eq_false, not_false_eq_true, Bool.true_eq_false, Bool.false_eq_true, forall_const, Bool.not_false, Bool.not_true, and_self, imp_self; exact no (by simp [sameD, res_tup])
      | str j => nomatch st_law_same, isa_No_bo, isa_No_in, isa_No_st, isa_No_tu, isa_No_li, isa_bo_bo, isa_bo_in, isa_bo_st, isa_bo_tu, isa_bo_li, isa_in_bo, isa_in_in, isa_in_st, isa_in_tu, isa_in_li, isa_st_bo, isa_st_in, isa_st_st, isa_st_tu, isa_st_li, isa_tu_bo, isa_tu_in, isa_tu_st, isa_tu_tu, isa_tu_li, isa_li_bo, isa_li_in, isa_li_st, isa_li_tu, isa_li_li, tyStr, isN_str, Bool.or_false, Bool.false_or, Bool.or_true, Bool.true_or, Bool.or_self, not_true_eq_false, not_false_eq_true, Bool.true_eq_false, Bool.false_eq_true, forall_const, Bool.not_false, Bool.not_true, and_self, imp_self; exact no (by simp [sameD, res_tup])
      | _ => exact fy.elim
    · have tx : tyD M d = some "list" := by rw [tx, ex]; rfl
      have ns : ∀ (b : Bool) (Q : DQ), rdIsN b d .non M Q = Q (.bl b) M := fun b Q => isN_sq ex
      rw [ee, ex] at no
      rw [ee] at fy ty
      cases e with
      | non => nomatch st_law_same, tx, ns, isa_No_bo, isa_No_in, isa_No_st, isa_No_tu, isa_No_li, isa_bo_bo, isa_bo_in, isa_bo_st, isa_bo_tu, isa_bo_li, isa_in_bo, isa_in_in, isa_in_st, isa_in_tu, isa_in_li, isa_st_bo, isa_st_in, isa_st_st, isa_st_tu, isa_st_li, isa_tu_bo, isa_tu_in, isa_tu_st, isa_tu_tu, isa_tu_li, isa_li_bo, isa_li_in, isa_li_st, isa_li_tu, isa_li_li, tyStr, isN_str, Bool.or_false, Bool.false_or, Bool.or_true, Bool.true_or, Bool.or_self, not_true_eq_false, not_false_eq_true, Bool.true_eq_false, Bool.false_eq_true, forall_const, Bool.not_false, Bool.not_true, and_self, imp_self; exact no (by simp [sameD])
      | bl j => nomatch st_law_same, tx, ns, isa_No_bo, isa_No_in, isa_No_st, isa_No_tu, isa_No_li, isa_bo_bo, isa_bo_in, isa_bo_st, isa_bo_tu, isa_bo_li, isa_in_bo, isa_in_in, isa_in_st, isa_in_tu, isa_in_li, isa_st_bo, isa_st_in, isa_st_st, isa_st_tu, isa_st_li, isa_tu_bo, isa_tu_in, isa_tu_st, isa_tu_tu, isa_tu_li, isa_li_bo, isa_li_in, isa_li_st, isa_li_tu, isa_li_li, tyStr, isN_str, Bool.or_false, Bool.false_or, Bool.or_true, Bool.true_or, Bool.or_self, not_true_eq_false, not_false_eq_true, Bool.true_eq_false, Bool.false_eq_true, forall_const, Bool.not_false, Bool.not_true, and_self, imp_self; exact no (by simp [sameD])
      | int j => nomatch st_law_same, tx, ns, isa_No_bo, isa_No_in, isa_No_st, isa_No_tu, isa_No_li, isa_bo_bo, isa_bo_in, isa_bo_st, isa_bo_tu, isa_bo_li, isa_in_bo, isa_in_in, isa_in_st, isa_in_tu, isa_in_li, isa_st_bo, isa_st_in, isa_st_st, isa_st_tu, isa_st_li, isa_tu_bo, isa_tu_in, isa_tu_st, isa_tu_tu, isa_tu_li, isa_li_bo, isa_li_in, isa_li_st, isa_li_tu, isa_li_li, tyStr, isN_str, Bool.or_false, Bool.false_or, Bool.or_true, Bool.true_or, Bool.or_self, not_true_eq_false, not_false_eq_true, Bool.true_eq_false, Bool.false_eq_true, forall_const, Bool.not_false, Bool.not_true, and_self, imp_self; exact no (by simp [sameD])
      | str j => nomatch st_law_same, tx, ns, isa_No_bo, isa_No_in, isa_No_st, isa_No_tu, isa_No_li, isa_bo_bo, isa_bo_in, isa_bo_st, isa_bo_tu, isa_bo_li, isa_in_bo, isa_in_in, isa_in_st, isa_in_tu, isa_in_li, isa_st_bo, isa_st_in, isa_st_st, isa_st_tu, isa_st_li, isa_tu_bo, isa_tu_in, isa_tu_st, isa_tu_tu, isa_tu_li, isa_li_bo, isa_li_in, isa_li_st, isa_li_tu, isa_li_li, tyStr, isN_str, Bool.or_false, Bool.false_or, Bool.or_true, Bool.true_or, Bool.or_self, not_true_eq_false, not_false_eq_true, Bool.true_eq_false, Bool.false_eq_true, forall_const, Bool.not_false, Bool.not_true, and_self, imp_self; exact no (by simp [sameD])
      | _ => exact fy.elim
  · have ee : e = .tup ys := by rw [← ey]; exact (nsq_res fun zs z => by rw [ey] at z; cases z).symm
    subst ee
    rcases dep_kinds hx with fx | ⟨xs, ex⟩ | ⟨xs, ex⟩
    · have ed : res M d = d := nsq_res fun xs z => by rw [z] at fx; exact fx
      rw [ed] at fx no
      cases d with
      | non => nomatch st_law_same, isa_No_bo, isa_No_in, isa_No_st, isa_No_tu, isa_No_li, isa_bo_bo, isa_bo_in, isa_bo_st, isa_bo_tu, isa_bo_li, isa_in_bo, isa_in_in, isa_in_st, isa_in_tu, isa_in_li, isa_st_bo, isa_st_in, isa_st_st, isa_st_tu, isa_st_li, isa_tu_bo, isa_tu_in, isa_tu_st, isa_tu_tu, isa_tu_li, isa_li_bo, isa_li_in, isa_li_st, isa_li_tu, isa_li_li, tyStr, isN_str, Bool.or_false, Bool.false_or, Bool.or_true, Bool.true_or, Bool.or_self, not_true_eq_false, not_false_eq_true, Bool.true_eq_false, Bool.false_eq_true, forall_const, Bool.not_false, Bool.not_true, and_self, imp_self; exact no (by simp [sameD, res_tup])
      | bl j => nomatch st_law_same, isa_No_bo, isa_No_in, isa_No_st, isa_No_tu, isa_No_li, isa_bo_bo, isa_bo_in, isa_bo_st, isa_bo_tu, isa_bo_li, isa_in_bo, isa_in_in, isa_in_st, isa_in_tu, isa_in_li, isa_st_bo, isa_st_in, isa_st_st, isa_st_tu, isa_st_li, isa_tu_bo, isa_tu_in, isa_tu_st, isa_tu_tu, isa_tu_li, isa_li_bo, isa_li_in, isa_li_st, isa_li_tu, isa_li_li, tyStr, isN_str, Bool.or_false, Bool.false_or, Bool.or_true, Bool.true_or, Bool.or_self, not_true_eq_false, not_false_eq_true, Bool.true_eq_false, Bool.false_eq_true, forall_const, Bool.not_false, Bool.not_true, and_self, imp_self; exact no (by simp [sameD, res_tup])
      | int j => nomatch st_law_same, isa_No_bo, isa_No_in, isa_No_st, isa_No_tu, isa_No_li, isa_bo_bo, isa_bo_in, isa_bo_st, isa_bo_tu, isa_bo_li, isa_in_bo, isa_in_in, isa_in_st, isa_in_tu, isa_in_li, isa_st_bo, isa_st_in, isa_st_st, isa_st_tu, isa_st_li, isa_tu_bo, isa_tu_in, isa_tu_st, isa_tu_tu, isa_tu_li, isa_li_bo, isa_li_in, isa_li_st, isa_li_tu, isa_li_li, tyStr, isN_str, Bool.or_false, Bool.false_or, Bool.or_true, Bool.true_or, Bool.or_self, not_true_eq_false, not_false_eq_true, Bool.true_eq_false, Bool.false_eq_true, forall_const, Bool.not_false, Bool.not_true, and_self, imp_self; exact no (by simp [sameD, res_tup])
      | str j => nomatch st_law_same, isa_No_bo, isa_No_in, isa_No_st, isa_No_tu, isa_No_li, isa_bo_bo, isa_bo_in, isa_bo_st, isa_bo_tu, isa_bo_li, isa_in_bo, isa_in_in, isa_in_st, isa_in_tu, isa_in_li, isa_st_bo, isa_st_in, isa_st_st, isa_st_tu, isa_st_li, isa_tu_bo, isa_tu_in, isa_tu_st, isa_tu_tu, isa_tu_li, isa_li_bo, isa_li_in, isa_li_st, isa_li_tu, isa_li_li, tyStr, isN_str, Bool.or_false, Bool.false_or, Bool.or_true, Bool.true_or, Bool.or_self, not_true_eq_false, not_false_eq_true, Bool.true_eq_false, Bool.false_eq_true, forall_const, Bool.not_false, Bool.not_true, and_self, imp_self; exact no (by simp [sameD, res_tup])
      | _ => exact fx.elim
    · have ed : d = .tup xs := by rw [← ex]; exact (nsq_res fun zs z => by rw [ex] at z; cases z).symm
      subst ed
      obtain ⟨l1, d1⟩ := dep_mem (.inr hx)
      obtain ⟨l2, d2⟩ := dep_mem (.inr hy)
      rw [res_tup, res_tup, show sameD (.tup xs) (.tup ys) = samesD xs ys by simp only [sameD]] at h
      nomatch st_law_same, lenT, zpD_tup, isa_No_bo, isa_No_in, isa_No_st, isa_No_tu, isa_No_li, isa_bo_bo, isa_bo_in, isa_bo_st, isa_bo_tu, isa_bo_li, isa_in_bo, isa_in_in, isa_in_st, isa_in_tu, isa_in_li, isa_st_bo, isa_st_in, isa_st_st, isa_st_tu, isa_st_li, isa_tu_bo, isa_tu_in, isa_tu_st, isa_tu_tu, isa_tu_li, isa_li_bo, isa_li_in, isa_li_st, isa_li_tu, isa_li_li, tyStr, isN_str, Bool.or_false, Bool.false_or, Bool.or_true, Bool.true_or, Bool.or_self, not_true_eq_false, not_false_eq_true, Bool.true_eq_false, Bool.false_eq_true, forall_const, Bool.not_false, Bool.not_true, and_self, imp_self
      refine ⟨fun hlen => ?_, fun hne => no ?_⟩
      · obtain ⟨z1, z2⟩ := pairs xs ys l1 d1 d2 (by omega) (Fin.same h) (fun _ => (xs, ys) = (xs, ys)) (fun _ _ => rfl)
        exact ⟨xs, ys, rfl, z1, z2⟩
      · rw [res_tup, res_tup]
        simp only [sameD]
        exact Bool.eq_false_iff.mpr fun z => hne (by rw [samesD_len z])
    · have tx : tyD M d = some "list" := by rw [tx, ex]; rfl
      rw [ex] at no
      nomatch st_law_same, tx, isa_No_bo, isa_No_in, isa_No_st, isa_No_tu, isa_No_li, isa_bo_bo, isa_bo_in, isa_bo_st, isa_bo_tu, isa_bo_li, isa_in_bo, isa_in_in, isa_in_st, isa_in_tu, isa_in_li, isa_st_bo, isa_st_in, isa_st_st, isa_st_tu, isa_st_li, isa_tu_bo, isa_tu_in, isa_tu_st, isa_tu_tu, isa_tu_li, isa_li_bo, isa_li_in, isa_li_st, isa_li_tu, isa_li_li, tyStr, isN_str, Bool.or_false, Bool.false_or, Bool.or_true, Bool.true_or, Bool.or_self, not_true_eq_false, not_false_eq_true, Bool.true_eq_false, Bool.false_eq_true, forall_const, Bool.not_false, Bool.not_true, and_self, imp_self
      exact no (by simp [sameD, res_tup])
  · have ty : tyD M e = some "list" := by rw [ty, ey]; rfl
    rw [ey] at no hy h
    rcases dep_kinds hx with fx | ⟨xs, ex⟩ | ⟨xs, ex⟩
    · have ed : res M d = d := nsq_res fun xs z => by rw [z] at fx; exact fx
      rw [ed] at fx no
      cases d with
      | non => nomatch st_law_same, ty, isa_No_bo, isa_No_in, isa_No_st, isa_No_tu, isa_No_li, isa_bo_bo, isa_bo_in, isa_bo_st, isa_bo_tu, isa_bo_li, isa_in_bo, isa_in_in, isa_in_st, isa_in_tu, isa_in_li, isa_st_bo, isa_st_in, isa_st_st, isa_st_tu, isa_st_li, isa_tu_bo, isa_tu_in, isa_tu_st, isa_tu_tu, isa_tu_li, isa_li_bo, isa_li_in, isa_li_st, isa_li_tu, isa_li_li, tyStr, isN_str, Bool.or_false, Bool.false_or, Bool.or_true, Bool.true_or, Bool.or_self, not_true_eq_false, not_false_eq_true, Bool.true_eq_false, Bool.false_eq_true, forall_const, Bool.not_false, Bool.not_true, and_self, imp_self; exact no (by simp [sameD])
      | bl j => nomatch st_law_same, ty, isa_No_bo, isa_No_in, isa_No_st, isa_No_tu, isa_No_li, isa_bo_bo, isa_bo_in, isa_bo_st, isa_bo_tu, isa_bo_li, isa_in_bo, isa_in_in, isa_in_st, isa_in_tu, isa_in_li, isa_st_bo, isa_st_in, isa_st_st, isa_st_tu, isa_st_li, isa_tu_bo, isa_tu_in, isa_tu_st, isa_tu_tu, isa_tu_li, isa_li_bo, isa_li_in, isa_li_st, isa_li_tu, isa_li_li, tyStr, isN_str, Bool.or_false, Bool.false_or, Bool.or_true, Bool.true_or, Bool.or_self, not_true_eq_false, not_false_eq_true, Bool.true_eq_false, Bool.false_eq_true, forall_const, Bool.not_false, Bool.not_true, and_self, imp_self; exact no (by simp [sameD])
      | int j => nomatch st_law_same, ty, isa_No_bo, isa_No_in, isa_No_st, isa_No_tu, isa_No_li, isa_bo_bo, isa_bo_in, isa_bo_st, isa_bo_tu, isa_bo_li, isa_in_bo, isa_in_in, isa_in_st, isa_in_tu, isa_in_li, isa_st_bo, isa_st_in, isa_st_st, isa_st_tu, isa_st_li, isa_tu_bo, isa_tu_in, isa_tu_st, isa_tu_tu, isa_tu_li, isa_li_bo, isa_li_in, isa_li_st, isa_li_tu, isa_li_li, tyStr, isN_str, Bool.or_false, Bool.false_or, Bool.or_true, Bool.true_or, Bool.or_self, not_true_eq_false, not_false_eq_true, Bool.true_eq_false, Bool.false_eq_true, forall_const, Bool.not_false, Bool.not_true, and_self, imp_self; exact no (by simp [sameD])
      | str j => nomatch st_law_same, ty, isa_No_bo, isa_No_in, isa_No_st, isa_No_tu, isa_No_li, isa_bo_bo, isa_bo_in, isa_bo_st, isa_bo_tu, isa_bo_li, isa_in_bo, isa_in_in, isa_in_st, isa_in_tu, isa_in_li, isa_st_bo, isa_st_in, isa_st_st, isa_st_tu, isa_st_li, isa_tu_bo, isa_tu_in, isa_tu_st, isa_tu_tu, isa_tu_li, isa_li_bo, isa_li_in, isa_li_st, isa_li_tu, isa_li_li, tyStr, isN_str, Bool.or_false, Bool.false_or, Bool.or_true, Bool.true_or, Bool.or_self, not_true_eq_false, not_false_eq_true, Bool.true_eq_false, Bool.false_eq_true, forall_const, Bool.not_false, Bool.not_true, and_self, imp_self; exact no (by simp [sameD])
      | _ => exact fx.elim
    · have ed : d = .tup xs := by rw [← ex]; exact (nsq_res fun zs z => by rw [ex] at z; cases z).symm
      subst ed
      nomatch st_law_same, ty, isa_No_bo, isa_No_in, isa_No_st, isa_No_tu, isa_No_li, isa_bo_bo, isa_bo_in, isa_bo_st, isa_bo_tu, isa_bo_li, isa_in_bo, isa_in_in, isa_in_st, isa_in_tu, isa_in_li, isa_st_bo, isa_st_in, isa_st_st, isa_st_tu, isa_st_li, isa_tu_bo, isa_tu_in, isa_tu_st, isa_tu_tu, isa_tu_li, isa_li_bo, isa_li_in, isa_li_st, isa_li_tu, isa_li_li, tyStr, isN_str, Bool.or_false, Bool.false_or, Bool.or_true, Bool.true_or, Bool.or_self, not_true_eq_false, not_false_eq_true, Bool.true_eq_false, Bool.false_eq_true, forall_const, Bool.not_false, Bool.not_true, and_self, imp_self
      exact no (by simp [sameD, res_tup])
    · have tx : tyD M d = some "list" := by rw [tx, ex]; rfl
      rw [ex] at no hx h
      obtain ⟨l1, d1⟩ := dep_mem (.inl hx)
      obtain ⟨l2, d2⟩ := dep_mem (.inl hy)
      rw [show sameD (.lst xs) (.lst ys) = samesD xs ys by simp only [sameD]] at h no
      have lD : ∀ Q : DQ, rdLen [d] M Q = Q (.int (xs.length : Nat)) M := fun Q => lenDr (.inl ex)
      have lE : ∀ Q : DQ, rdLen [e] M Q = Q (.int (ys.length : Nat)) M := fun Q => lenDr (.inl ey)
      have zp := zpRes ex ey
      nomatch st_law_same, tx, ty, lD, lE, isa_No_bo, isa_No_in, isa_No_st, isa_No_tu, isa_No_li, isa_bo_bo, isa_bo_in, isa_bo_st, isa_bo_tu, isa_bo_li, isa_in_bo, isa_in_in, isa_in_st, isa_in_tu, isa_in_li, isa_st_bo, isa_st_in, isa_st_st, isa_st_tu, isa_st_li, isa_tu_bo, isa_tu_in, isa_tu_st, isa_tu_tu, isa_tu_li, isa_li_bo, isa_li_in, isa_li_st, isa_li_tu, isa_li_li, tyStr, isN_str, Bool.or_false, Bool.false_or, Bool.or_true, Bool.true_or, Bool.or_self, not_true_eq_false, not_false_eq_true, Bool.true_eq_false, Bool.false_eq_true, forall_const, Bool.not_false, Bool.not_true, and_self, imp_self
      refine ⟨fun hlen => ?_, fun hne => no (Bool.eq_false_iff.mpr fun z => hne (by rw [samesD_len z]))⟩
      obtain ⟨z1, z2⟩ := pairs xs ys l1 d1 d2 (by omega) (Fin.same h) (fun M2 => zpD M2 d e = some (xs, ys)) (fun M2 x => by
        have e1 := sq_ext x (sq_res ex)
        have e2 := sq_ext x (sq_res ey)
        exact zpRes (resSq e1) (resSq e2))
      exact ⟨xs, ys, zp, z1, z2⟩
theorem ok_law_same1 (G : Glb P w K mg base C_BadTable C_Join) (h_law_same0 : Dfk P w K mg base T "_law_same" 1 ["_law_found", "_law_due"] sp_law_same0) (Dd : DefAt K mg "_law_same" s_law_same ["_law_found", "_law_due"]) : Dfk P w K mg base T "_law_same" 2 ["_law_found", "_law_due"] sp_law_same1 := ok_law_sameN G h_law_same0 Dd
def sp_law_same2 : DSp := sp_law_sameN 2
theorem ok_law_same2 (G : Glb P w K mg base C_BadTable C_Join) (h_law_same1 : Dfk P w K mg base T "_law_same" 2 ["_law_found", "_law_due"] sp_law_same1) (Dd : DefAt K mg "_law_same" s_law_same ["_law_found", "_law_due"]) : Dfk P w K mg base T "_law_same" 3 ["_law_found", "_law_due"] sp_law_same2 := ok_law_sameN G h_law_same1 Dd
theorem sc_law_rising : FnScope ["_law_some", "_law_found", "_law_one"] ["_law_some"] (defScope s_law_rising) := ⟨rfl, rfl, rfl, by decide +kernel, rfl, by decide +kernel, by decide +kernel⟩
def sp_law_rising : DSp := fun ds M Q _ => ∃ (d : D) (as : List Int), ds = [d] ∧ sqD M d = some (as.map D.int) ∧ as.length ≤ 10000 ∧ ∀ bs : List Int, (∀ x, x ∈ bs ↔ x ∈ as) → bs.length ≤ as.length → bs.Pairwise (· < ·) → Q (.lst (bs.map D.int)) M
theorem st_law_rising {a0 : D} : dstart ["_law_some", "_law_found", "_law_one"] [a0] = [some a0, none, none] := rfl
theorem ok_law_rising (G : Glb P w K mg base C_BadTable C_Join) (Dd : DefAt K mg "_law_rising" s_law_rising ["_law_some"]) : Dfk P w K mg base T "_law_rising" 1 ["_law_some"] sp_law_rising := by
  refine DefAt.ok Dd sc_law_rising (fun ds M Q E h => by
    obtain ⟨_, _, rfl, _⟩ := h
    rfl) fun f cdv A outer s H E hr => ?_
  have tk : Takes (cxOf (L2.CX P w) P w K mg base ["_law_some", "_law_found", "_law_one"] "_law_rising" (defScope s_law_rising) f cdv A outer s H E) (wOf T E).w := takes_of rfl rfl rfl rfl
  refine ⟨_, (dss_cons (ds_set 1 sc_law_rising.nd (de_lstO da_nil))
      (dss_cons (ds_for (passes_of rfl) rfl (di_seq (de_sorted G.n_sorted rfl (da_cons (dv 0) da_nil))) (dg_name (i := 2) sc_law_rising.nd rfl (by first | exact Or.inl rfl | exact Or.inr rfl) (fun _ e => nomatch e)) (dss_one (ds_if (dw_pt (dw_or (dt_cmp (op_eqD hr.units) real_eq (dv 1) (de_lst da_nil) (nomark _)) (dw_or1 (dt_cmp (op_neD hr.units) real_ne (de_ix (dv 1) (de_neg de_int)) (dv 2) (nomark _))))) (dss_one (ds_expr (de_append (dv 1) (dv 2)))) dss_nil)))
      (dss_one (ds_ret (dv 1))))), fun ds M Qd Ed h => ?_⟩
  obtain ⟨d, as, rfl, hd, hl, h⟩ := h
  simp only [dFor_eq, dISeq, st_law_rising, dRRet, dRSeq, dHofV, dActV, dLam, dLgO, dLg, dCallP, dIEnT, dIZipM, dLenSetA, dJoin, dSplit, dJoined, dJs, dFmt, rdDictN, rdEqE, dIEn0, dFrzD, dFrzT, dWget, dDpop, dDdel, dDelSl, dSetSl, dFldAug, dFin, dMethK, dMakeK, dDnewT, dDinT, dDgetT, dDputT, dDinP, dDgetP, dDputP, dListRg1, dFrzI, gdStar, dMaxK, dDctGet, rdDictP, dSeq, dNext, dRet, dRetN, dIfS, dSet, dPar, dAsg, dDrop, dC, dOp, dTest, dChain, dChain3, dChain4, dAnd, dOr, dNot, dAndV, dOrV, dNotV, dCons, dNil, dTup, dLst, dLstO, dCB, dCall, dIf, dUn, dAppend, dPop, dPopI, dIndex, dLenSet, dInsert, dAug, dWhile, dDelL, dCont, dBreak, dFld, dPut, dMeth, dMake, dDnew, dDin, dDget, dDput, dLck, dLckS, dIKeys, dDc, insF, dcF1, dAct, dCallK, dCBK, dHof, spLm, startL, capD, dTryN, exN, offD, dXf, Option.join_some, List.map_nil, List.nil_append, List.cons_append, List.replicate, dVar, rdI_eq, rdIc_eq, rdIx, rdInt2_eq, lenL, isN_non, isN_tup, isN_int, dFrz, dAugS, dIsi, dIsi2, dListRg, dSetSp, dSetIn, dLc2O, dRev, lenT, dIZip, zpL, zpD_tup, zip_map, isaTL, isaTT, isaLL, isaLT, isaIB, isaII, isaIS, isaIL, isaIT, neSpU, eqSpU, neMkU, eqMkU, eqB, neB, isN_bl, isN_lst, isN_ref, isaBB, isaBL, isaBT, isaBI, isaBS, tyI, tyB, tyN, tyTu, tyLs, Cell.lst.injEq, implies_true, reduceCtorEq, true_implies, false_implies, if_true, if_false, Int.reduceToNat, Int.reducePow, Int.reduceNeg, exX, LB, dYes, dwipe, addL, sz0, sz1, sz2, sz3, Int.zero_add, Int.mul_one, dLcN_eq, dLcNO_eq, dIRng1, dIRng2, dIEn, dISeq, dFor_eq, List.map_cons, List.map_nil, mulI, rdAbs_eq, eqI, neI, xN4_0, xN4_1, xN4_2, xN4_3, List.length_map, ixS, mup_same, mup_mup, dRaise, gdName, gdTup, gdUnl, gdNil_eq, gdCons_eq, gdSub, dPart, dNoPart, dSl, tpD, fd0, List.getElem?_cons_zero, List.getElem?_cons_succ, List.set_cons_zero, List.set_cons_succ, Option.some.injEq, exists_eq_left', exists_eq_left, exists_eq_right, exists_eq_right', D.int.injEq, D.bl.injEq, D.tup.injEq, D.lst.injEq, D.ref.injEq, ixd_tup, ixd_lst, spD, mkD, decide_eq_true_eq, decide_eq_false_iff_not, Nat.reduceAdd, Int.reduceNeg, at0, at1, at2, at3, List.cons.injEq, and_true, true_and, List.append_nil, exists_and_left, exists_and_right, List.length_cons, List.length_nil, addI, res_int, deq_int, sh_int, iffB, parEq, Bool.not_eq_true', Bool.not_eq_false', Bool.not_eq_true ]
  refine fun p hp => ?_
  refine .inl ⟨d, as, rfl, sq_ext ((Ext.refl M).up hp) hd, fun L q pm pw hq => ?_⟩
  have hpq : p ≠ q := fun z => by subst z; rw [mup_same] at hq; cases hq
  have hq0 : M q = none := by rw [← hq, mup_ne hpq.symm]
  have hL : L.length = as.length := pm.length_eq
  refine ⟨_, itSq (sqD_ref mup_same), forBy (fun i Γ2 M2 => ∃ bs c, Γ2 = [some d, some (.ref p), c] ∧ M2 = mup (mup M q (.lst (L.map D.int))) p (.lst (bs.map D.int)) ∧ (∀ x, x ∈ bs ↔ x ∈ L.take i) ∧ bs.Pairwise (· < ·) ∧ bs.length ≤ i ∧ bs.getLast? = (L.take i).getLast?) ⟨[], none, rfl, ?_, by simp, List.Pairwise.nil, Nat.le_refl _, by simp⟩ ?_ ?_ ?_⟩
  · rw [mup_comm hpq]
    rfl
  · rintro i _ _ ⟨bs, c, rfl, rfl, _⟩
    exact itSq (sqD_ref (by rw [mup_ne hpq.symm, mup_same]))
  · rintro i x _ _ hx ⟨bs, c, rfl, rfl, hm, hp2, hlen, hlast⟩
    have hi : i < L.length := (List.getElem?_eq_some_iff.mp hx).1
    have ht : L.take (i + 1) = L.take i ++ [x] := by rw [List.take_add_one, hx]; rfl
    have sz : sizeLine = 16777216 := szl
    (first | (simp only [st_law_rising]; try sizeOf_list_dec) | sizeOf_list_dec)
    rw [eqNilR (lay_int 0)]
    (first | (simp only [st_law_rising]; try sizeOf_list_dec) | sizeOf_list_dec)
    have add : bs.getLast? ≠ some x → ∃ bs' : List Int, mup (mup (mup M q (.lst (L.map D.int))) p (.lst (bs.map D.int))) p (.lst (bs.map D.int ++ [D.int x])) = mup (mup M q (.lst (L.map D.int))) p (.lst (bs'.map D.int)) ∧ (∀ x, x ∈ bs' ↔ x ∈ L.take (i + 1)) ∧ bs'.Pairwise (· < ·) ∧ bs'.length ≤ i + 1 ∧ bs'.getLast? = (L.take (i + 1)).getLast? := fun hn => by
      refine ⟨bs ++ [x], ?_, fun y => ?_, riseI hx pw hm hp2 hn hlast, by rw [List.length_append]; simp; omega, by rw [ht]; simp⟩
      · rw [mup_mup, List.map_append]
        rfl
      · rw [ht, List.mem_append, List.mem_append, hm]
    rw [mup_mup] at add
    refine ⟨fun h1 => ?_, fun h1 => ?_⟩
    · have : bs = [] := by simpa using h1
      subst this
      exact ⟨by rw [sz]; decide, add (by simp)⟩
    · have hne : bs ≠ [] := by intro z; subst z; cases h1
      rw [atLast hne]
      refine ⟨_, rfl, ?_⟩
      (first | (simp only [st_law_rising]; try sizeOf_list_dec) | sizeOf_list_dec)
      refine ⟨fun h2 => ⟨by omega, add fun z => ?_⟩, fun h2 => ⟨bs, rfl, fun y => ?_, hp2, by omega, ?_⟩⟩
      · rw [List.getLast?_eq_some_getLast hne] at z
        exact h2 (Option.some.inj z)
      · rw [ht, List.mem_append, hm, List.mem_singleton]
        refine ⟨.inl, fun z => z.elim id fun z => ?_⟩
        subst z
        rw [← h2]
        exact (hm _).mp (List.getLast_mem hne)
      · rw [ht, List.getLast?_concat, List.getLast?_eq_some_getLast hne, h2]
  · rintro _ _ ⟨bs, c, rfl, rfl, hm, hp2, hlen, hlast⟩
    sizeOf_list_dec
    refine Fin.frzE mup_same hp (((Ext.refl M).up hq0).up hp) (h bs (fun x => ?_) (by omega) hp2)
    rw [hm, List.take_length]
    exact pm.mem_iff
theorem sc_law_closed : FnScope ["_law_bits", "_law_some", "_law_found", "_law_one", "_law_other"] ["_law_bits", "_law_some"] (defScope s_law_closed) := ⟨rfl, rfl, rfl, by decide +kernel, rfl, by decide +kernel, by decide +kernel⟩
def sp_law_closed : DSp := fun ds M Q _ => ∃ (k : Nat) (d : D) (xs : List Int), ds = [.int (k : Int), d] ∧ sqD M d = some (xs.map D.int) ∧ k ≤ 10 ∧ xs ≠ [] ∧ xs.length ≤ 3 ∧ (∀ x ∈ xs, 0 ≤ x ∧ x < 2 ^ k) ∧ ∀ ys : List Int, ys ≠ [] → ys.Pairwise (· < ·) → Closed k ys → Q (.lst (ys.map D.int)) M
theorem st_law_closed {a0 a1 : D} : dstart ["_law_bits", "_law_some", "_law_found", "_law_one", "_law_other"] [a0, a1] = [some a0, some a1, none, none, none] := rfl
theorem ok_law_closed (G : Glb P w K mg base C_BadTable C_Join) (h_law_rising : Dfk P w K mg base T "_law_rising" 1 ["_law_some"] sp_law_rising) (Dd : DefAt K mg "_law_closed" s_law_closed ["_law_bits", "_law_some"]) : Dfk P w K mg base T "_law_closed" 2 ["_law_bits", "_law_some"] sp_law_closed := by
  refine DefAt.ok Dd sc_law_closed (fun ds M Q E h => by
    obtain ⟨_, _, _, rfl, _⟩ := h
    rfl) fun f cdv A outer s H E hr => ?_
  have tk : Takes (cxOf (L2.CX P w) P w K mg base ["_law_bits", "_law_some", "_law_found", "_law_one", "_law_other"] "_law_closed" (defScope s_law_closed) f cdv A outer s H E) (wOf T E).w := takes_of rfl rfl rfl rfl
  refine ⟨_, (dss_cons (ds_set 2 sc_law_closed.nd (de_lst (da_cons (de_ix (dv 1) de_int) da_nil)))
      (dss_cons (ds_for (passes_of rfl) rfl (di_seq (dv 1)) (dg_name (i := 3) sc_law_closed.nd rfl (by first | exact Or.inl rfl | exact Or.inr rfl) (fun _ e => nomatch e)) (dss_one (ds_set 2 sc_law_closed.nd (de_op op_add3 real_add (de_op op_add3 real_add (dv 2) (de_lst (da_cons (dv 3) da_nil))) (de_lcN (LcOk.mk (own := [("_law_other", 4)]) rfl sc_law_closed.nd (di_seq (dv 2)) (blkOk_by (N := ["_law_bits", "_law_some", "_law_found", "_law_one", "_law_other"]) (sc := defScope s_law_closed) (by decide +kernel)) (fun _ _ _ _ _ => (dg_name (i := 4) sc_law_closed.nd rfl (by first | exact Or.inl rfl | exact Or.inr rfl) (fun _ e => by cases e; decide))) (fun _ _ _ _ _ => dts_nil) (fun _ _ _ _ _ => (de_op op_or real_or (dv 3) (dv 4)))))))))
      (dss_one (ds_ret (de_callA h_law_rising (hr.mono (by decide)) tk (da_cons (de_lcN (LcOk.mk (own := [("_law_one", 3)]) rfl sc_law_closed.nd (di_seq (dv 2)) (blkOk_by (N := ["_law_bits", "_law_some", "_law_found", "_law_one", "_law_other"]) (sc := defScope s_law_closed) (by decide +kernel)) (fun _ _ _ _ _ => (dg_name (i := 3) sc_law_closed.nd rfl (by first | exact Or.inl rfl | exact Or.inr rfl) (fun _ e => by cases e; decide))) (fun _ _ _ _ _ => dts_nil) (fun _ _ _ _ _ => (de_op op_mod real_mod (dv 3) (de_op op_shl real_shl de_int (dv 0)))))) da_nil)))))), fun ds M Qd Ed h => ?_⟩
  obtain ⟨k, d, xs, rfl, hd, hk, hne, hl, hx, h⟩ := h
  (first | (simp only [st_law_closed]; try sizeOf_list_dec) | sizeOf_list_dec)
  obtain ⟨x0, xr, rfl⟩ : ∃ x0 xr, xs = x0 :: xr := by
    cases xs with
    | nil => exact absurd rfl hne
    | cons x0 xr => exact ⟨x0, xr, rfl⟩
  have hx0 := hx x0 List.mem_cons_self
  refine ⟨_, by rw [ixSq hd]; exact at0, ?_⟩
  let I : Nat → DG → Mp → Prop := fun i Γ2 M2 => ∃ (F : List Int) (c3 c4 : Option D), Γ2 = [some (.int (k : Nat)), some d, some (.lst (F.map D.int)), c3, c4] ∧ M = M2 ∧ F ≠ [] ∧ Closed k F ∧ F.length + 1 ≤ 2 * 2 ^ i
  refine ⟨_, itSq hd, forBy (f := D.int) (xs := x0 :: xr) I ⟨[x0], _, _, rfl, rfl, by simp, closed_one hx0.1 hx0.2, by simp⟩ ?_ ?_ ?_⟩
  · rintro _ _ _ ⟨F, c3, c4, rfl, rfl, _⟩
    exact itSq hd
  · rintro i x _ _ hxi ⟨F, c3, c4, rfl, rfl, hF, hc, hFl⟩
    have hxx := hx x (List.mem_of_getElem? hxi)
    have hi : i < 3 := by have := (List.getElem?_eq_some_iff.mp hxi).1; omega
    have hFl2 : F.length ≤ 100 := by
      have : i = 0 ∨ i = 1 ∨ i = 2 := by omega
      rcases this with rfl | rfl | rfl <;> omega
    (first | (simp only [st_law_closed]; try sizeOf_list_dec) | sizeOf_list_dec)
    refine ⟨by rw [szl]; omega, ⟨_, rfl, LI_F (F := D.int) (xs := F) injInt (fun y => some (.int (Builtin.bitOr x y))) (fun M1 hM => rfl) (fun y hy M1 hM => ?_) ?_⟩⟩
    · (first | (simp only [st_law_closed]; try sizeOf_list_dec) | sizeOf_list_dec)
    rw [filterMap_some, addL]
    refine ⟨by rw [szl]; simp; omega, ⟨F ++ [x] ++ F.map (fun y => Builtin.bitOr x y), some (.int x), c4, ?_, rfl, by simp, closed_step hc hxx.1 hxx.2, ?_⟩⟩
    · rw [List.map_append, List.map_append, List.map_map]
      rfl
    · simp only [List.length_append, List.length_map, List.length_cons, List.length_nil]
      rw [Nat.pow_succ]
      omega
  rintro _ _ ⟨F, c3, c4, rfl, rfl, hF, hc, hFl⟩
  have hFl2 : F.length ≤ 100 := by
    have h3 : (x0 :: xr).length = 0 ∨ (x0 :: xr).length = 1 ∨ (x0 :: xr).length = 2 ∨ (x0 :: xr).length = 3 := by omega
    rcases h3 with e | e | e | e <;> rw [e] at hFl <;> omega
  sizeOf_list_dec
  have hp : (0 : Int) < 2 ^ k := Int.pow_pos (by decide)
  refine ⟨_, rfl, LI_F (F := D.int) (xs := F) injInt (fun y => some (.int y)) (fun M1 hM => rfl) (fun y hy M1 hM => ?_) ?_⟩
  · have hy2 := hc.1 y hy
    sizeOf_list_dec
    refine ⟨⟨by omega, by omega, by decide⟩, ?_⟩
    rw [Int.toNat_natCast, Int.one_mul]
    exact ⟨hp, Int.emod_eq_of_lt hy2.1 hy2.2⟩
  rw [filterMap_some]
  refine ⟨_, F, rfl, rfl, by omega, fun ys hm _ pw => Fin.same (h ys (fun z => ?_) pw ⟨fun y hy => hc.1 y ((hm y).mp hy), fun a ha b hb => (hm _).mpr (hc.2 a ((hm a).mp ha) b ((hm b).mp hb))⟩)⟩
  cases F with
  | nil => exact hF rfl
  | cons f F =>
    have := (hm f).mpr List.mem_cons_self
    rw [z] at this
    cases this
theorem sc_law_table : FnScope ["_law_bag_here", "_law_bits", "_law_some", "_law_names", "_law_k", "_law_one", "_law_two"] ["_law_bag_here"] (defScope s_law_table) := ⟨rfl, rfl, rfl, by decide +kernel, rfl, by decide +kernel, by decide +kernel⟩
def sp_law_table : DSp := fun ds M Q _ => ∃ (b : Addr), ds = [.ref b] ∧ M b = some bagC ∧ ∀ t : Tb, JoinP t → Q (.lst (t.map lotD)) M
theorem st_law_table {a0 : D} : dstart ["_law_bag_here", "_law_bits", "_law_some", "_law_names", "_law_k", "_law_one", "_law_two"] [a0] = [some a0, none, none, none, none, none, none] := rfl
theorem ok_law_table (G : Glb P w K mg base C_BadTable C_Join) (h_law_closed : Dfk P w K mg base T "_law_closed" 2 ["_law_bits", "_law_some"] sp_law_closed) (h_law_take : Dfk P w K mg base T "_law_take" 1 ["_law_bag_here", "_law_sides"] sp_law_take) (h_law_turned : Dfk P w K mg base T "_law_turned" 2 ["_law_bag_here", "_law_some"] sp_law_turned) (Dd : DefAt K mg "_law_table" s_law_table ["_law_bag_here"]) : Dfk P w K mg base T "_law_table" 3 ["_law_bag_here"] sp_law_table := by
  refine DefAt.ok Dd sc_law_table (fun ds M Q E h => by
    obtain ⟨_, rfl, _⟩ := h
    rfl) fun f cdv A outer s H E hr => ?_
  have tk : Takes (cxOf (L2.CX P w) P w K mg base ["_law_bag_here", "_law_bits", "_law_some", "_law_names", "_law_k", "_law_one", "_law_two"] "_law_table" (defScope s_law_table) f cdv A outer s H E) (wOf T E).w := takes_of rfl rfl rfl rfl
  refine ⟨_, (dss_cons (ds_set 1 sc_law_table.nd (de_op op_add3 real_add de_int (de_callA h_law_take (hr.mono (by decide)) tk (da_cons (dv 0) (da_cons de_int da_nil)))))
      (dss_cons (ds_set 2 sc_law_table.nd (de_callA h_law_closed (hr.mono (by decide)) tk (da_cons (dv 1) (da_cons (de_lcN (LcOk.mk (own := [("_law_k", 4)]) rfl sc_law_table.nd (di_rng1 rfl G.n_range (da_cons (de_op op_add3 real_add de_int (de_callA h_law_take (hr.mono (by decide)) tk (da_cons (dv 0) (da_cons de_int da_nil)))) da_nil)) (blkOk_by (N := ["_law_bag_here", "_law_bits", "_law_some", "_law_names", "_law_k", "_law_one", "_law_two"]) (sc := defScope s_law_table) (by decide +kernel)) (fun _ _ _ _ _ => (dg_name (i := 4) sc_law_table.nd rfl (by first | exact Or.inl rfl | exact Or.inr rfl) (fun _ e => by cases e; decide))) (fun _ _ _ _ _ => dts_nil) (fun _ _ _ _ _ => (de_callA h_law_take (hr.mono (by decide)) takes_none5 (da_cons (dv 0) (da_cons (de_op op_shl real_shl de_int (dv 1)) da_nil)))))) da_nil))))
      (dss_cons (ds_if (dt_cmp (op_eqD hr.units) real_eq (de_callA h_law_take (hr.mono (by decide)) tk (da_cons (dv 0) (da_cons de_int da_nil))) de_int (nomark _)) (dss_cons (ds_set 2 sc_law_table.nd (de_frz (de_listRg1 rfl G.n_list G.n_range (de_op op_add3 real_add de_int (de_callA h_law_take (hr.mono (by decide)) tk (da_cons (dv 0) (da_cons de_int da_nil)))))))
      (dss_cons (ds_set 3 sc_law_table.nd (de_callA h_law_turned (hr.mono (by decide)) tk (da_cons (dv 0) (da_cons (dv 2) da_nil))))
      (dss_one (ds_ret (de_lcN (LcOk.mk (own := [("_law_one", 5)]) rfl sc_law_table.nd (di_seq (dv 3)) (blkOk_by (N := ["_law_bag_here", "_law_bits", "_law_some", "_law_names", "_law_k", "_law_one", "_law_two"]) (sc := defScope s_law_table) (by decide +kernel)) (fun _ _ _ _ _ => (dg_name (i := 5) sc_law_table.nd rfl (by first | exact Or.inl rfl | exact Or.inr rfl) (fun _ e => by cases e; decide))) (fun _ _ _ _ _ => dts_nil) (fun _ _ _ _ _ => (de_lcN (LcOk.mk (own := [("_law_two", 6)]) rfl sc_law_table.nd (di_seq (dv 3)) (blkOk_rel (N := ["_law_bag_here", "_law_bits", "_law_some", "_law_names", "_law_k", "_law_one", "_law_two"]) (by decide +kernel)) (fun _ _ _ _ _ => (dg_name (i := 6) sc_law_table.nd rfl (by first | exact Or.inl rfl | exact Or.inr rfl) (fun _ e => by cases e; decide))) (fun _ _ _ _ _ => dts_nil) (fun _ _ _ _ _ => (de_index (Room.un65 hr) (dv 3) (de_callB (call_max2 rfl) real_int2 rfl G.n_max rfl (da_cons (dv 5) (da_cons (dv 6) da_nil)))))))))))))) dss_nil)
      (dss_cons (ds_set 3 sc_law_table.nd (de_callA h_law_turned (hr.mono (by decide)) tk (da_cons (dv 0) (da_cons (dv 2) da_nil))))
      (dss_one (ds_ret (de_lcN (LcOk.mk (own := [("_law_one", 5)]) rfl sc_law_table.nd (di_seq (dv 3)) (blkOk_by (N := ["_law_bag_here", "_law_bits", "_law_some", "_law_names", "_law_k", "_law_one", "_law_two"]) (sc := defScope s_law_table) (by decide +kernel)) (fun _ _ _ _ _ => (dg_name (i := 5) sc_law_table.nd rfl (by first | exact Or.inl rfl | exact Or.inr rfl) (fun _ e => by cases e; decide))) (fun _ _ _ _ _ => dts_nil) (fun _ _ _ _ _ => (de_lcN (LcOk.mk (own := [("_law_two", 6)]) rfl sc_law_table.nd (di_seq (dv 3)) (blkOk_rel (N := ["_law_bag_here", "_law_bits", "_law_some", "_law_names", "_law_k", "_law_one", "_law_two"]) (by decide +kernel)) (fun _ _ _ _ _ => (dg_name (i := 6) sc_law_table.nd rfl (by first | exact Or.inl rfl | exact Or.inr rfl) (fun _ e => by cases e; decide))) (fun _ _ _ _ _ => dts_nil) (fun _ _ _ _ _ => (de_index (Room.un65 hr) (dv 3) (de_op op_or real_or (dv 5) (dv 6))))))))))))))), fun ds M Qd Ed h => ?_⟩
  obtain ⟨b, rfl, hb, h⟩ := h
  (first | (simp only [st_law_table]; try sizeOf_list_dec) | sizeOf_list_dec)
  refine ⟨b, _, rfl, hb, by omega, by omega, fun r h0 h1 => ?_⟩
  obtain ⟨k0, rfl⟩ : ∃ k : Nat, r = k := ⟨r.toNat, by omega⟩
  have ek : (1 : Int) + (k0 : Int) = ((1 + k0 : Nat) : Int) := by omega
  generalize hk : 1 + k0 = k at ek
  nomatch st_law_table, ek
  refine ⟨b, _, rfl, hb, by omega, by omega, fun r2 h20 h21 => ?_⟩
  (first | (simp only [st_law_table]; try sizeOf_list_dec) | sizeOf_list_dec)
  have hp16 : (2 : Int) ^ k ≤ 16 := by
    have : k = 1 ∨ k = 2 ∨ k = 3 ∨ k = 4 := by omega
    rcases this with rfl | rfl | rfl | rfl <;> decide
  have hp : (0 : Int) < 2 ^ k := Int.pow_pos (by decide)
  refine ⟨⟨by omega, by omega⟩, ?_⟩
  refine LI_R (xs := List.range (1 + r2).toNat) (injRng (by decide)) (fun _ o => ∃ x : Int, o = some (.int x) ∧ (0 ≤ x ∧ x < 2 ^ k)) (fun _ _ => trivial) (fun i hi M1 hM => ?_) fun os hos => ?_
  · (first | (simp only [st_law_table]; try sizeOf_list_dec) | sizeOf_list_dec)
    refine ⟨⟨by omega, by omega, by decide⟩, ?_⟩
    rw [Int.toNat_natCast, Int.one_mul]
    exact ⟨b, _, rfl, hM _ _ hb, hp, by omega, fun x hx0 hx1 => ⟨rfl, x, rfl, hx0, hx1⟩⟩
  obtain ⟨xs, e1, e2, e3⟩ := all2_vals (f := D.int) (P := fun x => 0 ≤ x ∧ x < 2 ^ k) hos
  rw [e1]
  rw [List.length_range] at e3
  refine ⟨k, _, xs, rfl, rfl, by omega, (fun z => by rw [z] at e3; simp at e3; omega), by omega, e2, fun ys y1 y2 y3 => ?_⟩
  refine ⟨b, _, rfl, hb, by omega, by omega, fun r3 h30 h31 => ?_⟩
  sizeOf_list_dec
  refine ⟨fun _ => ⟨b, _, rfl, hb, by omega, by omega, fun r4 h40 h41 => ?_⟩, fun _ => ?_⟩
  · obtain ⟨n0, rfl⟩ : ∃ k : Nat, r4 = k := ⟨r4.toNat, by omega⟩
    have en : (1 : Int) + (n0 : Int) = ((1 + n0 : Nat) : Int) := by omega
    nomatch st_law_table, en
    refine ⟨by unfold RgOk; omega, fun p hp => ?_⟩
    rw [mdel_mup hp, Int.toNat_natCast, rngD_eq]
    refine ⟨b, _, Int, D.int, (List.range (1 + n0)).map (fun i : Nat => (i : Int)), rfl, hb, by rw [List.map_map]; simp [sqD, Function.comp_def], by simp; omega, fun names pm => ?_⟩
    have J := max_names (n := 1 + n0) (by omega) (by omega) pm
    have cl : ∀ x ∈ names, ∀ y ∈ names, maxF x y ∈ names := fun x hx y hy => by
      unfold maxF
      split <;> assumption
    refine ⟨_, rfl, LI_F (F := D.int) (xs := names) injInt (fun x => some (lotD (names.map fun y => ((names.idxOf (maxF x y) : Nat) : Int)))) (fun _ _ => rfl) (fun x hx M1 hM => ?_) ?_⟩
    · sizeOf_list_dec
      refine ⟨_, rfl, LI_F (F := D.int) (xs := names) injInt (fun y => some (.int ((names.idxOf (maxF x y) : Nat) : Int))) (fun _ _ => rfl) (fun y hy M2 hM2 => ?_) ?_⟩
      · sizeOf_list_dec
        exact ⟨⟨_, rfl⟩, idx_int2 (cl x hx y hy)⟩
      rw [filterMap_some]
      exact ⟨rfl, by unfold lotD; rw [List.map_map]; rfl⟩
    rw [filterMap_some]
    have h := h _ J
    unfold tabOf at h
    rw [List.map_map] at h
    exact Fin.same h
  · refine ⟨b, _, Int, D.int, ys, rfl, hb, rfl, ?_, fun names pm => ?_⟩
    · have J0 := (Closed.names (k := k) (by omega) y1 y2 y3 (List.Perm.refl _)).tab.1.2
      unfold tabOf at J0
      rw [List.length_map] at J0
      omega
    have J := Closed.names (k := k) (by omega) y1 y2 y3 pm
    have cl : ∀ x ∈ names, ∀ y ∈ names, Builtin.bitOr x y ∈ names := fun x hx y hy => pm.mem_iff.mpr (y3.2 x (pm.mem_iff.mp hx) y (pm.mem_iff.mp hy))
    refine ⟨_, rfl, LI_F (F := D.int) (xs := names) injInt (fun x => some (lotD (names.map fun y => ((names.idxOf (Builtin.bitOr x y) : Nat) : Int)))) (fun _ _ => rfl) (fun x hx M1 hM => ?_) ?_⟩
    · sizeOf_list_dec
      refine ⟨_, rfl, LI_F (F := D.int) (xs := names) injInt (fun y => some (.int ((names.idxOf (Builtin.bitOr x y) : Nat) : Int))) (fun _ _ => rfl) (fun y hy M2 hM2 => ?_) ?_⟩
      · sizeOf_list_dec
        exact ⟨⟨_, rfl⟩, idx_int2 (cl x hx y hy)⟩
      rw [filterMap_some]
      exact ⟨rfl, by unfold lotD; rw [List.map_map]; rfl⟩
    rw [filterMap_some]
    have h := h _ J
    unfold tabOf at h
    rw [List.map_map] at h
    exact Fin.same h
theorem sc_law_break : FnScope ["_law_table_here", "_law_size", "_law_one", "_law_two", "_law_three", "_law_left"] ["_law_table_here"] (defScope s_law_break) := ⟨rfl, rfl, rfl, by decide +kernel, rfl, by decide +kernel, by decide +kernel⟩
def sp_law_break : DSp := fun ds M Q _ => ∃ (d : D) (t : Tb), ds = [d] ∧ rowsR M d t ∧ isTab t ∧ Q ((brkO t).getD .non) M
theorem st_law_break {a0 : D} : dstart ["_law_table_here", "_law_size", "_law_one", "_law_two", "_law_three", "_law_left"] [a0] = [some a0, none, none, none, none, none] := rfl
theorem ok_law_break (G : Glb P w K mg base C_BadTable C_Join) (Dd : DefAt K mg "_law_break" s_law_break ["_law_table_here"]) : Dfk P w K mg base T "_law_break" 1 ["_law_table_here"] sp_law_break := by
  refine DefAt.ok Dd sc_law_break (fun ds M Q E h => by
    obtain ⟨_, _, rfl, _⟩ := h
    rfl) fun f cdv A outer s H E hr => ?_
  have tk : Takes (cxOf (L2.CX P w) P w K mg base ["_law_table_here", "_law_size", "_law_one", "_law_two", "_law_three", "_law_left"] "_law_break" (defScope s_law_break) f cdv A outer s H E) (wOf T E).w := takes_of rfl rfl rfl rfl
  refine ⟨_, (dss_cons (ds_set 1 sc_law_break.nd (de_callB call_len real_len rfl G.n_len rfl (da_cons (dv 0) da_nil)))
      (dss_cons (ds_for (passes_of rfl) rfl (di_rng1 rfl G.n_range (da_cons (dv 1) da_nil)) (dg_name (i := 2) sc_law_break.nd rfl (by first | exact Or.inl rfl | exact Or.inr rfl) (fun _ e => nomatch e)) (dss_one (ds_if (dt_cmp (op_neD hr.units) real_ne (de_ix (de_ix (dv 0) (dv 2)) (dv 2)) (dv 2) (nomark _)) (dss_one (ds_ret (de_tup (da_cons de_str (da_cons (dv 2) da_nil))))) dss_nil)))
      (dss_cons (ds_for (passes_of rfl) rfl (di_rng1 rfl G.n_range (da_cons (dv 1) da_nil)) (dg_name (i := 2) sc_law_break.nd rfl (by first | exact Or.inl rfl | exact Or.inr rfl) (fun _ e => nomatch e)) (dss_one (ds_for (passes_of rfl) rfl (di_rng2 rfl G.n_range (da_cons (de_op op_add3 real_add (dv 2) de_int) (da_cons (dv 1) da_nil))) (dg_name (i := 3) sc_law_break.nd rfl (by first | exact Or.inl rfl | exact Or.inr rfl) (fun _ e => nomatch e)) (dss_one (ds_if (dt_cmp (op_neD hr.units) real_ne (de_ix (de_ix (dv 0) (dv 2)) (dv 3)) (de_ix (de_ix (dv 0) (dv 3)) (dv 2)) (nomark _)) (dss_one (ds_ret (de_tup (da_cons de_str (da_cons (dv 2) (da_cons (dv 3) da_nil)))))) dss_nil)))))
      (dss_cons (ds_for (passes_of rfl) rfl (di_rng1 rfl G.n_range (da_cons (dv 1) da_nil)) (dg_name (i := 2) sc_law_break.nd rfl (by first | exact Or.inl rfl | exact Or.inr rfl) (fun _ e => nomatch e)) (dss_one (ds_for (passes_of rfl) rfl (di_rng1 rfl G.n_range (da_cons (dv 1) da_nil)) (dg_name (i := 3) sc_law_break.nd rfl (by first | exact Or.inl rfl | exact Or.inr rfl) (fun _ e => nomatch e)) (dss_one (ds_for (passes_of rfl) rfl (di_rng1 rfl G.n_range (da_cons (dv 1) da_nil)) (dg_name (i := 4) sc_law_break.nd rfl (by first | exact Or.inl rfl | exact Or.inr rfl) (fun _ e => nomatch e)) (dss_cons (ds_set 5 sc_law_break.nd (de_ix (de_ix (dv 0) (de_ix (de_ix (dv 0) (dv 2)) (dv 3))) (dv 4)))
      (dss_one (ds_if (dt_cmp (op_neD hr.units) real_ne (dv 5) (de_ix (de_ix (dv 0) (dv 2)) (de_ix (de_ix (dv 0) (dv 3)) (dv 4))) (nomark _)) (dss_one (ds_ret (de_tup (da_cons de_str (da_cons (dv 2) (da_cons (dv 3) (da_cons (dv 4) da_nil))))))) dss_nil))))))))
      (dss_one (ds_ret de_non)))))), fun ds M Qd Ed h => ?_⟩
  obtain ⟨d, t, rfl, RR, TT, h⟩ := h
  obtain ⟨rs, hrs, hrl, _⟩ := id RR
  have T2 := TT.1.2
  (first | (simp only [st_law_break]; try sizeOf_list_dec) | sizeOf_list_dec)
  rw [lenSq hrs, hrl]
  refine ⟨_, rfl, ?_⟩
  refine ⟨⟨by omega, by omega⟩, ?_⟩
  rw [Int.toNat_natCast]
  have at2 : ∀ {a b : Int}, inJ t.length a → inJ t.length b → ∃ x, ixD M d (.int a) = some x ∧ ixD M x (.int b) = some (.int (opJ t a b)) ∧ inJ t.length (opJ t a b) := fun {a b} ha hb => rowsR_at RR TT ha hb
  let I1 : Nat → DG → Mp → Prop := fun i Γ2 M2 => (∃ c2, Γ2 = [some d, some (.int (t.length : Nat)), c2, none, none, none]) ∧ M = M2 ∧ ∀ j, j < i → twF t j = none
  refine forRng I1 ⟨⟨_, rfl⟩, rfl, fun j hj => absurd hj (Nat.not_lt_zero _)⟩ (fun _ => trivial) ?_ ?_
  · rintro i _ _ hi ⟨⟨c2, rfl⟩, rfl, hb⟩
    (first | (simp only [st_law_break]; try sizeOf_list_dec) | sizeOf_list_dec)
    obtain ⟨r, a1, a2, a3⟩ := at2 (nat_in hi) (nat_in hi)
    refine ⟨_, a1, _, a2, ?_⟩
    (first | (simp only [st_law_break]; try sizeOf_list_dec) | sizeOf_list_dec)
    refine ⟨fun z => ?_, fun z => ⟨⟨_, rfl⟩, rfl, fun j hj => ?_⟩⟩
    · have e : brkO t = some (.tup [.str "twice", .int (i : Nat)]) := by
        unfold brkO brk1
        rw [fs_some hi hb (if_neg z)]
      rw [e] at h
      exact Fin.same h
    · by_cases e : j = i
      · subst e
        exact if_pos z
      · exact hb j (by omega)
  rintro _ _ ⟨⟨c2, rfl⟩, rfl, hb⟩
  have e1 : brk1 t = none := fs_none hb
  sizeOf_list_dec
  refine ⟨⟨by omega, by omega⟩, ?_⟩
  rw [Int.toNat_natCast]
  let I2 : Nat → DG → Mp → Prop := fun i Γ2 M2 => (∃ c2 c3, Γ2 = [some d, some (.int (t.length : Nat)), c2, c3, none, none]) ∧ M = M2 ∧ ∀ j, j < i → brk2r t j = none
  refine forRng I2 ⟨⟨_, _, rfl⟩, rfl, fun j hj => absurd hj (Nat.not_lt_zero _)⟩ (fun _ => trivial) ?_ ?_
  · rintro i _ _ hi ⟨⟨c2, c3, rfl⟩, rfl, hb2⟩
    sizeOf_list_dec
    refine ⟨⟨by omega, by omega⟩, ⟨by omega, by omega⟩, ?_⟩
    rw [show ((t.length : Int) - ((i : Int) + 1)).toNat = t.length - (i + 1) by omega]
    refine ⟨by omega, ?_⟩
    let I3 : Nat → DG → Mp → Prop := fun k Γ2 M2 => (∃ c3, Γ2 = [some d, some (.int (t.length : Nat)), some (.int (i : Nat)), c3, none, none]) ∧ M = M2 ∧ ∀ j, j < k → abF t i j = none
    refine forRng I3 ⟨⟨_, rfl⟩, rfl, fun j hj => absurd hj (Nat.not_lt_zero _)⟩ (fun _ => trivial) ?_ ?_
    · rintro k _ _ hk ⟨⟨c3, rfl⟩, rfl, hb3⟩
      have ek : (i : Int) + 1 + (k : Int) = ((i + 1 + k : Nat) : Int) := by omega
      nomatch st_law_break, ek
      have hj : inJ t.length ((i + 1 + k : Nat) : Int) := nat_in (by omega)
      obtain ⟨r, a1, a2, a3⟩ := at2 (nat_in hi) hj
      obtain ⟨r2, b1, b2, b3⟩ := at2 hj (nat_in hi)
      refine ⟨_, a1, _, a2, _, b1, _, b2, ?_⟩
      sizeOf_list_dec
      refine ⟨fun z => ?_, fun z => ⟨⟨_, rfl⟩, rfl, fun j hj => ?_⟩⟩
      · have e : brkO t = some (.tup [.str "about", .int (i : Nat), .int (i + 1 + k : Nat)]) := by
          unfold brkO
          rw [e1]
          show (match brk2 t with | some d => some d | none => brk3 t) = _
          rw [show brk2 t = some _ from fs_some hi hb2 (fs_some hk hb3 (if_neg z))]
        rw [e] at h
        exact Fin.same h
      · by_cases e : j = k
        · subst e
          exact if_pos z
        · exact hb3 j (by omega)
    rintro _ _ ⟨⟨c3, rfl⟩, rfl, hb3⟩
    refine ⟨⟨_, _, rfl⟩, rfl, fun j hj => ?_⟩
    by_cases e : j = i
    · subst e
      exact fs_none hb3
    · exact hb2 j (by omega)
  rintro _ _ ⟨⟨c2, c3, rfl⟩, rfl, hb2⟩
  have e2 : brk2 t = none := fs_none hb2
  sizeOf_list_dec
  refine ⟨⟨by omega, by omega⟩, ?_⟩
  rw [Int.toNat_natCast]
  let I4 : Nat → DG → Mp → Prop := fun i Γ2 M2 => (∃ c2 c3 c4 c5, Γ2 = [some d, some (.int (t.length : Nat)), c2, c3, c4, c5]) ∧ M = M2 ∧ ∀ j, j < i → brk3r t j = none
  refine forRng I4 ⟨⟨_, _, _, _, rfl⟩, rfl, fun j hj => absurd hj (Nat.not_lt_zero _)⟩ (fun _ => trivial) ?_ ?_
  · rintro i _ _ hi ⟨⟨c2, c3, c4, c5, rfl⟩, rfl, hb3⟩
    sizeOf_list_dec
    refine ⟨⟨by omega, by omega⟩, ?_⟩
    rw [Int.toNat_natCast]
    let I5 : Nat → DG → Mp → Prop := fun k Γ2 M2 => (∃ c3 c4 c5, Γ2 = [some d, some (.int (t.length : Nat)), some (.int (i : Nat)), c3, c4, c5]) ∧ M = M2 ∧ ∀ j, j < k → brk3q t i j = none
    refine forRng I5 ⟨⟨_, _, _, rfl⟩, rfl, fun j hj => absurd hj (Nat.not_lt_zero _)⟩ (fun _ => trivial) ?_ ?_
    · rintro k _ _ hk ⟨⟨c3, c4, c5, rfl⟩, rfl, hb4⟩
      sizeOf_list_dec
      refine ⟨⟨by omega, by omega⟩, ?_⟩
      rw [Int.toNat_natCast]
      let I6 : Nat → DG → Mp → Prop := fun m Γ2 M2 => (∃ c4 c5, Γ2 = [some d, some (.int (t.length : Nat)), some (.int (i : Nat)), some (.int (k : Nat)), c4, c5]) ∧ M = M2 ∧ ∀ j, j < m → brF t i k j = none
      refine forRng I6 ⟨⟨_, _, rfl⟩, rfl, fun j hj => absurd hj (Nat.not_lt_zero _)⟩ (fun _ => trivial) ?_ ?_
      · rintro m _ _ hm ⟨⟨c4, c5, rfl⟩, rfl, hb5⟩
        sizeOf_list_dec
        obtain ⟨r, a1, a2, a3⟩ := at2 (nat_in hi) (nat_in hk)
        obtain ⟨r2, b1, b2, b3⟩ := at2 a3 (nat_in hm)
        obtain ⟨r3, d1, d2, d3⟩ := at2 (nat_in hk) (nat_in hm)
        obtain ⟨r4, f1, f2, f3⟩ := at2 (nat_in hi) d3
        refine ⟨_, a1, _, a2, _, b1, _, b2, _, f1, _, d1, _, d2, _, f2, ?_⟩
        sizeOf_list_dec
        refine ⟨fun z => ?_, fun z => ⟨⟨_, _, rfl⟩, rfl, fun j hj => ?_⟩⟩
        · have e : brkO t = some (.tup [.str "brackets", .int (i : Nat), .int (k : Nat), .int (m : Nat)]) := by
            unfold brkO
            rw [e1, e2]
            exact fs_some hi hb3 (fs_some hk hb4 (fs_some hm hb5 (if_neg z)))
          rw [e] at h
          exact ⟨by rw [szl]; decide, Fin.same h⟩
        · by_cases e : j = m
          · subst e
            exact if_pos z
          · exact hb5 j (by omega)
      rintro _ _ ⟨⟨c4, c5, rfl⟩, rfl, hb5⟩
      refine ⟨⟨_, _, _, rfl⟩, rfl, fun j hj => ?_⟩
      by_cases e : j = k
      · subst e
        exact fs_none hb5
      · exact hb4 j (by omega)
    rintro _ _ ⟨⟨c3, c4, c5, rfl⟩, rfl, hb4⟩
    refine ⟨⟨_, _, _, _, rfl⟩, rfl, fun j hj => ?_⟩
    by_cases e : j = i
    · subst e
      exact fs_none hb4
    · exact hb3 j (by omega)
  rintro _ _ ⟨⟨c2, c3, c4, c5, rfl⟩, rfl, hb3⟩
  sizeOf_list_dec
  have e : brkO t = none := by
    unfold brkO
    rw [e1, e2]
    exact fs_none hb3
  rw [e] at h
  exact Fin.same h
theorem sc_law_bent : FnScope ["_law_bag_here", "_law_table_here", "_law_size", "_law_found", "_law_way", "_law_k", "_law_one", "_law_two", "_law_row"] ["_law_bag_here", "_law_table_here"] (defScope s_law_bent) := ⟨rfl, rfl, rfl, by decide +kernel, rfl, by decide +kernel, by decide +kernel⟩
def sp_law_bent : DSp := fun ds M Q _ => ∃ (b : Addr) (t : Tb), ds = [.ref b, .lst (t.map lotD)] ∧ M b = some bagC ∧ isTab t ∧ ∀ p q0 rest r0 t' w M2, M2 p = some (.lst (.ref q0 :: rest)) → M2 q0 = some (.lst (r0.map D.int)) → q0 ≠ p → t'[0]? = some r0 → M2 b = some bagC → rowsR M2 (.ref p) t' → Bent t' w → Q (.tup [.ref p, w]) M2
theorem st_law_bent {a0 a1 : D} : dstart ["_law_bag_here", "_law_table_here", "_law_size", "_law_found", "_law_way", "_law_k", "_law_one", "_law_two", "_law_row"] [a0, a1] = [some a0, some a1, none, none, none, none, none, none, none] := rfl
theorem ok_law_bent (G : Glb P w K mg base C_BadTable C_Join) (h_law_break : Dfk P w K mg base T "_law_break" 1 ["_law_table_here"] sp_law_break) (h_law_of : Dfk P w K mg base T "_law_of" 2 ["_law_bag_here", "_law_some"] sp_law_of) (h_law_take : Dfk P w K mg base T "_law_take" 1 ["_law_bag_here", "_law_sides"] sp_law_take) (Dd : DefAt K mg "_law_bent" s_law_bent ["_law_bag_here", "_law_table_here"]) : Dfk P w K mg base T "_law_bent" 3 ["_law_bag_here", "_law_table_here"] sp_law_bent := by
  refine DefAt.ok Dd sc_law_bent (fun ds M Q E h => by
    obtain ⟨_, _, rfl, _⟩ := h
    rfl) fun f cdv A outer s H E hr => ?_
  have tk : Takes (cxOf (L2.CX P w) P w K mg base ["_law_bag_here", "_law_table_here", "_law_size", "_law_found", "_law_way", "_law_k", "_law_one", "_law_two", "_law_row"] "_law_bent" (defScope s_law_bent) f cdv A outer s H E) (wOf T E).w := takes_of rfl rfl rfl rfl
  refine ⟨_, (dss_cons (ds_set 2 sc_law_bent.nd (de_callB call_len real_len rfl G.n_len rfl (da_cons (dv 1) da_nil)))
      (dss_cons (ds_setLcgO 3 (LcOkX.mk (own := [("_law_row", 8)]) rfl rfl tk rfl sc_law_bent.nd (di_seq (dv 1)) (blkOk_by (N := ["_law_bag_here", "_law_table_here", "_law_size", "_law_found", "_law_way", "_law_k", "_law_one", "_law_two", "_law_row"]) (sc := defScope s_law_bent) (by decide +kernel)) (fun _ _ _ _ _ _ => (dg_name (i := 8) sc_law_bent.nd rfl (by first | exact Or.inl rfl | exact Or.inr rfl) (fun _ e => by cases e; decide))) (fun _ _ _ _ _ _ _ tkb => dts_nil) (fun _ _ _ _ _ _ _ tkb => (de_callTy call_list_of real_list rfl G.n_list rfl (da_cons (dv 8) da_nil)))) (sw_true rfl rfl rfl rfl))
      (dss_cons (ds_set 4 sc_law_bent.nd (de_callA h_law_take (hr.mono (by decide)) tk (da_cons (dv 0) (da_cons de_int da_nil))))
      (dss_cons (ds_if (dt_cmp op_lt real_lt (dv 4) de_int (nomark _)) (dss_cons (ds_for (passes_of rfl) rfl (di_rng1 rfl G.n_range (da_cons (dv 4) da_nil)) (dg_name (i := 5) sc_law_bent.nd rfl (by first | exact Or.inl rfl | exact Or.inr rfl) (fun _ e => nomatch e)) (dss_one (ds_asg (de_callA h_law_take (hr.mono (by decide)) tk (da_cons (dv 0) (da_cons (dv 2) da_nil))) (dg_sub (de_ix (dv 3) (de_callA h_law_take (hr.mono (by decide)) takes_none5 (da_cons (dv 0) (da_cons (dv 2) da_nil)))) (de_callA h_law_take (hr.mono (by decide)) takes_none5 (da_cons (dv 0) (da_cons (dv 2) da_nil)))))))
      (dss_one (ds_ret (de_tup (da_cons (dv 3) (da_cons (de_callA h_law_break (hr.mono (by decide)) tk (da_cons (dv 3) da_nil)) da_nil)))))) dss_nil)
      (dss_cons (ds_set 6 sc_law_bent.nd (de_callA h_law_take (hr.mono (by decide)) tk (da_cons (dv 0) (da_cons (dv 2) da_nil))))
      (dss_cons (ds_set 7 sc_law_bent.nd (de_callA h_law_take (hr.mono (by decide)) tk (da_cons (dv 0) (da_cons (dv 2) da_nil))))
      (dss_cons (ds_if (dt_cmp (op_eqD hr.units) real_eq (dv 4) de_int (nomark _)) (dss_cons (ds_asg (de_callA h_law_take (hr.mono (by decide)) tk (da_cons (dv 0) (da_cons (dv 2) da_nil))) (dg_sub (de_ix (dv 3) (dv 6)) (dv 7)))
      (dss_cons (ds_asg (de_ix (de_ix (dv 3) (dv 6)) (dv 7)) (dg_sub (de_ix (dv 3) (dv 7)) (dv 6)))
      (dss_one (ds_ret (de_tup (da_cons (dv 3) (da_cons (de_callA h_law_break (hr.mono (by decide)) tk (da_cons (dv 3) da_nil)) da_nil))))))) dss_nil)
      (dss_cons (ds_if (dt_cmp (op_eqD hr.units) real_eq (dv 4) de_int (nomark _)) (dss_one (ds_expr (de_append (de_ix (dv 3) (dv 6)) de_int))) (dss_one (ds_if (dt_cmp (op_eqD hr.units) real_eq (dv 4) de_int (nomark _)) (dss_one (ds_expr (de_append (dv 3) (de_op op_mul2 real_mul (de_lst (da_cons de_int da_nil)) (dv 2))))) (dss_one (ds_asg (de_callA h_law_of (hr.mono (by decide)) tk (da_cons (dv 0) (da_cons (de_lst (da_cons (de_neg de_int) (da_cons (dv 2) (da_cons (de_op op_add3 real_add de_int (dv 2)) da_nil)))) da_nil))) (dg_sub (de_ix (dv 3) (dv 6)) (dv 7)))))))
      (dss_one (ds_ret (de_tup (da_cons (dv 3) (da_cons (de_tup da_nil) da_nil))))))))))))), fun ds M Qd Ed h => ?_⟩
  obtain ⟨b, t, rfl, hb, TT, h⟩ := h
  (first | (simp only [st_law_bent]; try sizeOf_list_dec) | sizeOf_list_dec)
  refine ⟨_, rfl, fun p hp => ⟨fun i acc M' => ∃ qs : List Addr, acc = qs.map D.ref ∧ qs.length = i ∧ PartT M M' p qs t, ⟨[], rfl, rfl, PartT.start hp⟩, fun i acc M' hp' hl hJ => ⟨rfl, fun d hd => ?_, fun hi => ?_⟩⟩⟩
  · obtain ⟨qs, rfl, rfl, hP⟩ := hJ
    have hd : (t.map lotD)[qs.length]? = some d := hd
    rw [List.getElem?_map] at hd
    cases hr : t[qs.length]? with
    | none => rw [hr] at hd; cases hd
    | some r =>
      rw [hr] at hd
      cases hd
      (first | (simp only [st_law_bent]; try sizeOf_list_dec) | sizeOf_list_dec)
      refine ⟨lotD r, r.map D.int, rfl, rfl, fun q hq => ?_⟩
      obtain ⟨n1, n2⟩ := hP.next (ds' := qs.map D.ref ++ [.ref q]) hp hp' hq hr
      exact ⟨n2, qs ++ [q], by rw [List.map_append]; rfl, by rw [List.length_append]; rfl, n1⟩
  obtain ⟨qs, rfl, hql, hP⟩ := hJ
  have hi : i = (t.map lotD).length := hi
  rw [List.length_map] at hi
  have OT : OwnT M' p qs t := ⟨hp', hql.trans hi, hP.row, hP.nd, hP.np⟩
  have hb2 := hP.old _ _ hb
  clear hP hp' hl
  have fin1 : ∀ (qs2 : List Addr) (t2 : Tb) (w2 : D) (M2 : Mp), OwnT M2 p qs2 t2 → M2 b = some bagC → Bent t2 w2 → Qd (.tup [.ref p, w2]) M2 := fun qs2 t2 w2 M2 O hb9 B => by
    obtain ⟨q0, r0, hq0, hr0, _, hc0, _, _⟩ := O.at_ hb9 (i := 0) (by have := B.1.1; omega)
    cases qs2 with
    | nil => cases hq0
    | cons y ys =>
      cases hq0
      exact h p q0 (ys.map D.ref) r0 t2 w2 M2 O.all hc0 (fun z => O.np (by rw [← z]; exact List.mem_cons_self)) hr0 hb9 O.rows B
  have T2 := TT.1
  obtain ⟨n, hn⟩ : ∃ n : Nat, t.length = n := ⟨_, rfl⟩
  rw [hn] at T2 ⊢
  refine ⟨b, _, rfl, hb2, by omega, by omega, fun way w0 w1 => ?_⟩
  refine ⟨way, 4, rfl, rfl, _, rfl, fun z => ?_, fun z => ?_⟩
  · have z := of_decide_eq_true z
    refine ⟨_, rfl, by unfold small; omega, ?_⟩
    let I : Nat → DG → Mp → Prop := fun k Γ2 M2 => ∃ t2 c5, Γ2 = [some (.ref b), some (.lst (t.map lotD)), some (.int (n : Nat)), some (.ref p), some (.int way), c5, none, none, none] ∧ OwnT M2 p qs t2 ∧ isTab t2 ∧ t2.length = n ∧ M2 b = some bagC
    refine forRng I ⟨t, _, rfl, OT, TT, hn, hb2⟩ (fun _ => trivial) ?_ ?_
    · rintro k _ M2 hk ⟨t2, c5, rfl, O2, T3, n2, hb3⟩
      (first | (simp only [st_law_bent]; try sizeOf_list_dec) | sizeOf_list_dec)
      refine ⟨b, _, rfl, hb3, by omega, by omega, fun v v0 v1 => ?_⟩
      refine ⟨b, _, rfl, hb3, by omega, by omega, fun i0 i00 i01 => ?_⟩
      obtain ⟨i, rfl⟩ : ∃ i : Nat, i0 = (i : Int) := ⟨i0.toNat, by omega⟩
      obtain ⟨q, r, hq, hr, hx, hc, nbq, nbp⟩ := O2.at_ hb3 (i := i) (by omega)
      refine ⟨_, hx, b, _, rfl, hb3, by omega, by omega, fun j0 j00 j01 => ?_⟩
      obtain ⟨j, rfl⟩ : ∃ j : Nat, j0 = (j : Int) := ⟨j0.toNat, by omega⟩
      have rl := T3.2.1 r (List.mem_of_getElem? hr)
      have O3 := O2.put (j := j) (v := v) hq hr
      rw [List.map_set] at O3
      exact ⟨q, rfl, _, _, rfl, hc, j, ixN_nat (by rw [List.length_map]; omega), t2.set i (r.set j v), _, rfl, O3, tab_put T3 hr ⟨v0, by omega⟩, by rw [List.length_set]; exact n2, by rw [mup_ne nbq]; exact hb3⟩
    rintro _ M2 ⟨t2, c5, rfl, O2, T3, n2, hb3⟩
    sizeOf_list_dec
    exact ⟨_, t2, rfl, O2.rows, T3, Fin.same (fin1 qs t2 _ M2 O2 hb3 (bent_ok T3))⟩
  have z := of_decide_eq_false z
  refine ⟨b, _, rfl, hb2, by omega, by omega, fun i0 i00 i01 => ?_⟩
  refine ⟨b, _, rfl, hb2, by omega, by omega, fun j0 j00 j01 => ?_⟩
  obtain ⟨i, rfl⟩ : ∃ i : Nat, i0 = (i : Int) := ⟨i0.toNat, by omega⟩
  obtain ⟨j, rfl⟩ : ∃ j : Nat, j0 = (j : Int) := ⟨j0.toNat, by omega⟩
  obtain ⟨q, r, hq, hr, hx, hc, nbq, nbp⟩ := OT.at_ hb2 (i := i) (by omega)
  have rl := TT.2.1 r (List.mem_of_getElem? hr)
  refine eqSq (b := decide (way = 4)) rfl rfl rfl ⟨_, rfl, fun z4 => ?_, fun z4 => ?_⟩
  · refine ⟨b, _, rfl, hb2, by omega, by omega, fun v v0 v1 => ?_⟩
    have O2 := OT.put (j := j) (v := v) hq hr
    rw [List.map_set] at O2
    have T3 := tab_put (j := j) TT hr (v := v) ⟨v0, by omega⟩
    have hb3 : mup M' q (.lst ((r.map D.int).set j (.int v))) b = some bagC := by rw [mup_ne nbq]; exact hb2
    have n3 : (t.set i (r.set j v)).length = n := by rw [List.length_set]; exact hn
    generalize t.set i (r.set j v) = t3 at O2 T3 n3
    refine ⟨_, hx, q, rfl, _, _, rfl, hc, j, ixN_nat (by rw [List.length_map]; omega), ?_⟩
    generalize mup M' q (.lst ((r.map D.int).set j (.int v))) = M3 at O2 hb3 ⊢
    obtain ⟨q1, r1', hq1, hr1, hx1, hc1, nbq1, _⟩ := O2.at_ hb3 (i := i) (by omega)
    obtain ⟨q2, r2', hq2, hr2, hx2, hc2, nbq2, _⟩ := O2.at_ hb3 (i := j) (by omega)
    have l1 := T3.2.1 r1' (List.mem_of_getElem? hr1)
    have l2 := T3.2.1 r2' (List.mem_of_getElem? hr2)
    have hj : r1'[j]? = some (r1'[j]'(by omega)) := List.getElem?_eq_getElem (by omega)
    have hv := T3.2.2 r1' (List.mem_of_getElem? hr1) _ (List.mem_of_getElem? hj)
    have hx3 : ixD M3 (.ref q1) (.int (j : Nat)) = some (.int (r1'[j]'(by omega))) := by
      rw [ixd_ref hc1]
      exact atMn hj
    have O4 := O2.put (j := i) (v := r1'[j]'(by omega)) hq2 hr2
    rw [List.map_set] at O4
    have T4 := tab_put (j := i) T3 hr2 hv
    refine ⟨_, hx1, _, hx3, _, hx2, q2, rfl, _, _, rfl, hc2, i, ixN_nat (by rw [List.length_map]; omega), ?_⟩
    exact ⟨_, _, rfl, O4.rows, T4, Fin.same (fin1 qs _ _ _ O4 (by rw [mup_ne nbq2]; exact hb3) (bent_ok T4))⟩
  refine eqSq (b := decide (way = 5)) rfl rfl rfl ⟨_, rfl, fun z5 => ?_, fun z5 => ?_⟩
  · refine ⟨_, hx, ⟨_, sqX_ref hc⟩, q, rfl, _, hc, by rw [szl, List.length_map]; omega, ?_⟩
    have O2 := OT.row2 (r2 := r ++ [0]) hq hr
    rw [List.map_append] at O2
    exact Fin.same (fin1 qs _ _ _ O2 (by rw [mup_ne nbq]; exact hb2) (bent_row TT hr (by rw [List.length_append, List.length_singleton]; omega) (by rw [List.length_append, List.length_singleton]; omega)))
  refine eqSq (b := decide (way = 6)) rfl rfl rfl ⟨_, rfl, fun z6 => ?_, fun z6 => ?_⟩
  · obtain ⟨q0, r0, hq0, hr0, _, hc0, _, nbp0⟩ := OT.at_ hb2 (i := 0) (by omega)
    refine ⟨⟨_, sqX_ref OT.all⟩, _, (n : Nat), rfl, rfl, by omega, by omega, by rw [szl]; simp; omega, ?_⟩
    have ez : (List.replicate ((n : Nat) : Int).toNat [D.int 0]).flatten = (List.replicate n (0 : Int)).map D.int := zeros30 n
    rw [ez]
    refine ⟨_, OT.all, by rw [szl, List.length_map, OT.len]; omega, Fin.same ?_⟩
    cases qs with
    | nil => cases hq0
    | cons y ys =>
      cases hq0
      have yp : q0 ≠ p := fun z => OT.np (by rw [← z]; exact List.mem_cons_self)
      exact h p q0 (ys.map D.ref ++ [.lst ((List.replicate n (0 : Int)).map D.int)]) r0 (t ++ [List.replicate n 0]) (.tup []) _ mup_same (by rw [mup_ne yp]; exact hc0) yp (by rw [List.getElem?_append_left (by omega)]; exact hr0) (by rw [mup_ne nbp0]; exact hb2) (OT.more _) (bent_more TT (by rw [List.length_replicate]; exact hn.symm))
  refine ⟨b, _, _, rfl, hb2, rfl, by simp, by simp, fun x hx2 => ?_⟩
  obtain ⟨v, rfl, nv⟩ : ∃ v : Int, x = .int v ∧ ¬ inJ t.length v := by
    unfold inJ
    simp only [List.mem_cons, List.not_mem_nil, or_false] at hx2
    rcases hx2 with rfl | rfl | rfl
    · exact ⟨_, rfl, by omega⟩
    · exact ⟨_, rfl, by omega⟩
    · exact ⟨_, rfl, by omega⟩
  have O2 := OT.put (j := j) (v := v) hq hr
  rw [List.map_set] at O2
  refine ⟨_, hx, q, rfl, _, _, rfl, hc, j, ixN_nat (by rw [List.length_map]; omega), ?_⟩
  exact Fin.same (fin1 qs _ _ _ O2 (by rw [mup_ne nbq]; exact hb2) (bent_put TT hr (by omega) nv))
theorem sc_law : FnScope ["_law_script", "_law_bag_here", "_law_k", "_law_table_here", "_law_due", "_law_kept", "_law_why", "_law_found", "_law_bound_row", "e", "_law_wide", "_law_one", "_law_row", "_law_two"] ["_law_script"] (defScope s_law) := ⟨rfl, rfl, rfl, by decide +kernel, rfl, by decide +kernel, by decide +kernel⟩
def sp_law : DSp := fun ds M Q _ => ∃ ns : List Int, ds = [.scr ns] ∧ ns.length ≤ 63 ∧ ∀ M2, Q (.bl true) M2
theorem st_law {a0 : D} : dstart ["_law_script", "_law_bag_here", "_law_k", "_law_table_here", "_law_due", "_law_kept", "_law_why", "_law_found", "_law_bound_row", "e", "_law_wide", "_law_one", "_law_row", "_law_two"] [a0] = [some a0, none, none, none, none, none, none, none, none, none, none, none, none, none] := rfl
theorem ok_law (G : Glb P w K mg base C_BadTable C_Join) (h_Join_init : Mfk P w K mg base T C_Join "__init__" 4 ["self", "table"] (sp_Join_init C_BadTable C_Join)) (h_Join_size : Mfk P w K mg base T C_Join "size" 1 ["self"] (sp_Join_size C_Join)) (h_Join_table : Mfk P w K mg base T C_Join "table" 1 ["self"] (sp_Join_table C_Join)) (h_Join_tableO : Mfk P w K mg base T C_Join "table" 1 ["self"] (sp_Join_tableO C_Join)) (h_law_bag : Dfk P w K mg base T "_law_bag" 1 ["_law_script"] sp_law_bag) (h_law_bent : Dfk P w K mg base T "_law_bent" 3 ["_law_bag_here", "_law_table_here"] sp_law_bent) (h_law_same1 : Dfk P w K mg base T "_law_same" 2 ["_law_found", "_law_due"] sp_law_same1) (h_law_same2 : Dfk P w K mg base T "_law_same" 3 ["_law_found", "_law_due"] sp_law_same2) (h_law_table : Dfk P w K mg base T "_law_table" 3 ["_law_bag_here"] sp_law_table) {f : Addr} {fd : FuncData} (Dd : FunK K "law" "law" s_law f fd) : FnOk P w K mg base (L2.CX P w) 6 f fd ["_law_script"] (spUp ⟨K, T⟩ sp_law) := by
  refine FunK.okS Dd sc_law (fun ds M Q E h => by
    obtain ⟨_, rfl, _⟩ := h
    rfl) fun cdv A outer s H E hr => ?_
  have tk : Takes (cxOf (L2.CX P w) P w K mg base ["_law_script", "_law_bag_here", "_law_k", "_law_table_here", "_law_due", "_law_kept", "_law_why", "_law_found", "_law_bound_row", "e", "_law_wide", "_law_one", "_law_row", "_law_two"] "law" (defScope s_law) f cdv A outer s H E) (wOf T E).w := takes_of rfl rfl rfl rfl
  refine ⟨_, (dss_cons (ds_set 1 sc_law.nd (de_callA h_law_bag (hr.mono (by decide)) tk (da_cons (dv 0) da_nil)))
      (dss_cons (ds_for (passes_of rfl) rfl (di_rng1 rfl G.n_range (da_cons de_int da_nil)) (dg_name (i := 2) sc_law.nd rfl (by first | exact Or.inl rfl | exact Or.inr rfl) (fun _ e => nomatch e)) (dss_cons (ds_asg (de_callA h_law_bent (hr.mono (by decide)) tk (da_cons (dv 1) (da_cons (de_callA h_law_table (hr.mono (by decide)) tk (da_cons (dv 1) da_nil)) da_nil))) (dg_tup (n := 2) rfl (dgs_cons (dg_name (i := 3) sc_law.nd rfl (by first | exact Or.inl rfl | exact Or.inr rfl) (fun _ e => nomatch e)) (dgs_cons (dg_name (i := 4) sc_law.nd rfl (by first | exact Or.inl rfl | exact Or.inr rfl) (fun _ e => nomatch e)) dgs_nil))))
      (dss_cons (ds_setLcN 5 (LcOk.mk (own := [("_law_row", 12)]) rfl sc_law.nd (di_seq (dv 3)) (blkOk_by (N := ["_law_script", "_law_bag_here", "_law_k", "_law_table_here", "_law_due", "_law_kept", "_law_why", "_law_found", "_law_bound_row", "e", "_law_wide", "_law_one", "_law_row", "_law_two"]) (sc := defScope s_law) (by decide +kernel)) (fun _ _ _ _ _ => (dg_name (i := 12) sc_law.nd rfl (by first | exact Or.inl rfl | exact Or.inr rfl) (fun _ e => by cases e; decide))) (fun _ _ _ _ _ => dts_nil) (fun _ _ _ _ _ => (de_frz (de_callTy call_list_of real_list rfl G.n_list rfl (da_cons (dv 12) da_nil))))) (sw_true rfl rfl rfl rfl))
      (dss_cons (ds_set 6 sc_law.nd de_non)
      (dss_cons (ds_tryN rfl rfl sc_law.nd tk (fun W1 pn xe tk1 => (dss_cons (ds_set 7 sc_law.nd (de_frzI (de_make (mkk_of h_Join_init G.mk_Join) (hr.mono (by decide)) tk1 (da_cons (dv 3) da_nil))))
      (dss_cons (ds_if (dw_pt (dw_or (dt_cmp (op_neD hr.units) real_ne (de_meth0 h_Join_table G.cl_Join (hr.mono (by decide)) tk1 (dv 7)) (dv 5) (nomark _)) (dw_or1 (dt_cmp (op_neD hr.units) real_ne (de_meth0 h_Join_size G.cl_Join (hr.mono (by decide)) tk1 (dv 7)) (de_callB call_len real_len rfl G.n_len rfl (da_cons (dv 5) da_nil)) (nomark _))))) (dss_one (ds_ret de_bl)) dss_nil)
      (dss_cons (ds_set 8 sc_law.nd (de_ix (de_meth0 h_Join_tableO G.cl_Join (hr.mono (by decide)) tk1 (dv 7)) de_int))
      (dss_cons (ds_asg de_int (dg_sub (dv 8) de_int))
      (dss_cons (ds_asg de_int (dg_sub (de_ix (dv 3) de_int) de_int))
      (dss_one (ds_if (dt_not (dt_val (de_callA h_law_same2 (hr.mono (by decide)) tk1 (da_cons (de_meth0 h_Join_table G.cl_Join (hr.mono (by decide)) tk1 (dv 7)) (da_cons (dv 5) da_nil))))) (dss_one (ds_ret de_bl)) dss_nil)))))))) (HdsN.cons (i := 9) ⟨rfl, by decide, .inl G.y_BadTable⟩ rfl rfl (fun p oe cls d pn hz hf => (dss_cons (ds_set 6 sc_law.nd (de_xf (K := ⟨K, T⟩) rfl hz hf (dv 9)))
      (dss_one (ds_if (dt_cmp (op_neD hr.units) real_neQ (dv 3) (dv 5) (nomark _)) (dss_one (ds_ret de_bl)) dss_nil)))) HdsN.nil))
      (dss_one (ds_if (dt_not (dt_val (de_callA h_law_same1 (hr.mono (by decide)) tk (da_cons (dv 6) (da_cons (dv 4) da_nil))))) (dss_one (ds_ret de_bl)) dss_nil)))))))
      (dss_cons (ds_set 6 sc_law.nd de_non)
      (dss_cons (ds_tryN rfl rfl sc_law.nd tk (fun W1 pn xe tk1 => (dss_one (ds_expr (de_frzI (de_make (mkk_of h_Join_init G.mk_Join) (hr.mono (by decide)) tk1 (da_cons (de_lst da_nil) da_nil)))))) (HdsN.cons (i := 9) ⟨rfl, by decide, .inl G.y_BadTable⟩ rfl rfl (fun p oe cls d pn hz hf => (dss_one (ds_set 6 sc_law.nd (de_xf (K := ⟨K, T⟩) rfl hz hf (dv 9))))) HdsN.nil))
      (dss_cons (ds_set 10 sc_law.nd (de_lstO da_nil))
      (dss_cons (ds_for (passes_of rfl) rfl (di_rng1 rfl G.n_range (da_cons de_int da_nil)) (dg_name (i := 11) sc_law.nd rfl (by first | exact Or.inl rfl | exact Or.inr rfl) (fun _ e => nomatch e)) (dss_one (ds_expr (de_append (dv 10) (de_lcN (LcOk.mk (own := [("_law_two", 13)]) rfl sc_law.nd (di_rng1 rfl G.n_range (da_cons de_int da_nil)) (blkOk_by (N := ["_law_script", "_law_bag_here", "_law_k", "_law_table_here", "_law_due", "_law_kept", "_law_why", "_law_found", "_law_bound_row", "e", "_law_wide", "_law_one", "_law_row", "_law_two"]) (sc := defScope s_law) (by decide +kernel)) (fun _ _ _ _ _ => (dg_name (i := 13) sc_law.nd rfl (by first | exact Or.inl rfl | exact Or.inr rfl) (fun _ e => by cases e; decide))) (fun _ _ _ _ _ => dts_nil) (fun _ _ _ _ _ => (de_callB (call_max2 rfl) real_int2 rfl G.n_max rfl (da_cons (dv 11) (da_cons (dv 13) da_nil))))))))))
      (dss_cons (ds_tryN rfl rfl sc_law.nd tk (fun W1 pn xe tk1 => (dss_one (ds_expr (de_frzI (de_make (mkk_of h_Join_init G.mk_Join) (hr.mono (by decide)) tk1 (da_cons (dv 10) da_nil)))))) (HdsN.cons (i := 9) ⟨rfl, by decide, .inl G.y_BadTable⟩ rfl rfl (fun p oe cls d pn hz hf => (dss_one (ds_ret (de_and (de_cmp (op_eqD hr.units) real_eq (dv 6) (de_tup da_nil) (nomark _)) (de_one (de_cmp (op_eqD hr.units) real_eq (de_xf (K := ⟨K, T⟩) rfl hz hf (dv 9)) (de_tup da_nil) (nomark _))))))) HdsN.nil))
      (dss_one (ds_ret de_bl))))))))), fun ds M Qd Ed h => ?_⟩
  obtain ⟨ns, rfl, hl, h⟩ := h
  (first | (simp only [st_law]; try sizeOf_list_dec) | sizeOf_list_dec)
  refine ⟨ns, rfl, hl, fun b hb => ?_⟩
  (first | (simp only [st_law]; try sizeOf_list_dec) | sizeOf_list_dec)
  have hb2 : mup M b bagC b = some bagC := mup_same
  generalize mup M b bagC = M1 at hb2 ⊢
  clear hb
  let I : Nat → DG → Mp → Prop := fun i Γ2 M2 => (∃ c2 c3 c4 c5 c6 c7 c8 c9 c10 c11 c12 c13, Γ2 = [some (.scr ns), some (.ref b), c2, c3, c4, c5, c6, c7, c8, c9, c10, c11, c12, c13]) ∧ M2 b = some bagC
  refine ⟨by unfold small; omega, forRng I ⟨⟨_, _, _, _, _, _, _, _, _, _, _, _, rfl⟩, hb2⟩ (fun _ => trivial) ?_ ?_⟩
  · clear hb2
    rintro i _ M1 hi ⟨⟨c2, c3, c4, c5, c6, c7, c8, c9, c10, c11, c12, c13, rfl⟩, hb2⟩
    (first | (simp only [st_law]; try sizeOf_list_dec) | sizeOf_list_dec)
    refine ⟨b, rfl, hb2, fun t J => ?_⟩
    sizeOf_list_dec
    refine ⟨b, t, rfl, hb2, J.tab, fun p q0 rest r0 t' w M2 hp hq0 nqp hr0 hb3 RR BB => ?_⟩
    sizeOf_list_dec
    obtain ⟨rs, hrs, et, hx⟩ := rowsR_ints RR
    obtain ⟨⟨z1, z2, z3⟩, BB⟩ := BB
    have ST : SmallT t' := ⟨z2, fun r hr => (z3 r hr).2⟩
    refine ⟨_, itSq hrs, LI_J (fun x => some (lotD (intsD M2 x))) (fun M' hM => itSq (sq_ext hM hrs)) (fun x hxm M' hM => ?_) ?_⟩
    · sizeOf_list_dec
      exact ⟨x, _, rfl, seq_sq (sq_ext hM (hx x hxm)), fun q hq => ⟨q, rfl, _, mup_same, mdel_mup hq, rfl⟩⟩
    rw [filterMap_some]
    have ek : (rs.map fun x => lotD (intsD M2 x)) = t'.map lotD := by rw [et, List.map_map]; rfl
    rw [ek]
    sizeOf_list_dec
    have same1 : ∀ (y : D) (M3 : Mp) (Q3 : DQ) (E3 : DXK), dep 1 y → Q3 (.bl true) M3 → sp_law_same1 [y, y] M3 Q3 E3 := fun y M3 Q3 E3 hd q => ⟨y, y, rfl, by rw [dep_res hd]; exact hd, by rw [dep_res hd]; exact hd, by rw [dep_res hd, sameD_refl 1 _ hd]; exact q⟩
    have hpb : p ≠ b := fun z => by rw [z, hb3] at hp; cases hp
    have hqb : q0 ≠ b := fun z => by rw [z, hb3] at hq0; cases hq0
    have xt : ∀ (M3 : Mp) (w2 : D), Ext M2 M3 → w2 = w → dep 1 w2 → True := fun _ _ _ _ _ => trivial
    refine fun p1 hp1 => ?_
    have X1 : ∀ c, Ext M2 (mup M2 p1 c) := fun c => (Ext.refl M2).up hp1
    refine ⟨p1, .ref p, t', rfl, mup_same, rowsR_ext RR (X1 _), by omega, fun r hr => by have := (z3 r hr).2; omega, fun nT => ?_, fun T w' hw => ?_, fun T hbr => ?_⟩
    · have dw : dep 1 (.tup []) := dep_tup (by simp) (by simp)
      obtain rfl : w = D.tup [] := by
        rcases BB with ⟨T, _⟩ | ⟨_, e⟩
        · exact absurd T nT
        · exact e
      refine ⟨true, G.o_BadTable.one, fun _ p2 dd => ⟨_, rfl, G.o_BadTable.fld, G.o_BadTable.nof, _, rfl, _, rfl, neTab (rowsR_ext RR (X1 _)) rowsR_lst ST ⟨false, rfl, (fun y => by cases y), fun _ => same1 _ _ _ _ dw ⟨true, rfl, ?_⟩⟩⟩, fun y => by cases y⟩
      rw [if_neg (by decide)]
      exact ⟨⟨_, _, _, _, _, _, _, _, _, _, _, _, rfl⟩, X1 _ _ _ hb3⟩
    · have dw := brk_dep hw
      obtain rfl : w = w' := by
        rcases BB with ⟨_, e⟩ | ⟨nT, _⟩
        · rw [e, hw]; rfl
        · exact absurd T nT
      refine ⟨true, G.o_BadTable.one, fun _ p2 dd => ⟨_, rfl, G.o_BadTable.fld, G.o_BadTable.nof, _, rfl, _, rfl, neTab (rowsR_ext RR (X1 _)) rowsR_lst ST ⟨false, rfl, (fun y => by cases y), fun _ => same1 _ _ _ _ dw ⟨true, rfl, ?_⟩⟩⟩, fun y => by cases y⟩
      rw [if_neg (by decide)]
      exact ⟨⟨_, _, _, _, _, _, _, _, _, _, _, _, rfl⟩, X1 _ _ _ hb3⟩
    · have dw : dep 1 D.non := dep_flat trivial
      obtain rfl : w = D.non := by
        rcases BB with ⟨_, e⟩ | ⟨nT, _⟩
        · rw [e, hbr]; rfl
        · exact absurd T nT
      refine ⟨rfl, _, _, mup_same, ?_⟩
      rw [mup_mup, mdel_mup hp1]
      refine ⟨⟨_, rfl, rfl⟩, _, t', rfl, rfl, T, sh_tab ST, sh_tab ST, ?_⟩
      rw [show deq (res M2 (.lst (t'.map lotD))) (res M2 (.lst (t'.map lotD))) = true from deq_tab ST]
      refine ⟨_, rfl, (fun y => by cases y), fun _ => ⟨⟨_, rfl, rfl⟩, _, t', rfl, rfl, ?_⟩⟩
      sizeOf_list_dec
      refine ⟨fun y => absurd trivial y, ⟨_, rfl, rfl⟩, _, t', rfl, rfl, T, fun p3 q3 rest3 r3 M3 a1 a2 a3 a4 a5 a6 => ?_⟩
      have nqp3 : p ≠ q3 := fun z => by rw [← z, hp] at a3; cases a3
      have nqq : q0 ≠ q3 := fun z => by rw [← z, hq0] at a3; cases a3
      have nbq : b ≠ q3 := fun z => by rw [← z, hb3] at a3; cases a3
      have rl := (z3 r0 (List.mem_of_getElem? hr0)).1
      have dt := dep_tab17 ST
      have same2 : ∀ (M9 : Mp) (Q3 : DQ) (E3 : DXK), Q3 (.bl true) M9 → sp_law_same2 [.lst (t'.map lotD), .lst (t'.map lotD)] M9 Q3 E3 := fun M9 Q3 E3 q => ⟨_, _, rfl, by rw [dep_res dt]; exact dt, by rw [dep_res dt]; exact dt, by rw [dep_res dt, sameD_refl 2 _ dt]; exact q⟩
      refine ⟨.ref q3, by rw [ixd_ref a1]; exact L2.atI_nat (j := 0) rfl, q3, rfl, _, a2, 0, ixN_nat (k := 0) (by rw [List.length_map]; omega), .ref q0, by rw [ixd_ref ((mup_ne nqp3).trans (a4 _ _ hp))]; exact L2.atI_nat (j := 0) rfl, q0, rfl, _, (mup_ne nqq).trans (a4 _ _ hq0), 0, ixN_nat (k := 0) (by rw [List.length_map]; omega), ⟨_, rfl, rfl⟩, _, t', rfl, rfl, T, same2 _ _ _ ⟨true, rfl, ?_⟩⟩
      rw [if_neg (by decide)]
      refine same1 _ _ _ _ dw ⟨true, rfl, ?_⟩
      rw [if_neg (by decide)]
      exact ⟨⟨_, _, _, _, _, _, _, _, _, _, _, _, rfl⟩, by rw [mup_ne (Ne.symm hqb), mup_ne nbq]; exact a4 _ _ hb3⟩
  rintro _ M1 ⟨⟨c2, c3, c4, c5, c6, c7, c8, c9, c10, c11, c12, c13, rfl⟩, hb2⟩
  sizeOf_list_dec
  refine fun p1 hp1 => ⟨p1, .lst [], [], rfl, mup_same, ⟨[], rfl, rfl, fun i r e => by simp at e⟩, by simp, by simp, fun nT => ?_, fun T => absurd T.1.1 (by simp), fun T => absurd T.1.1 (by simp)⟩
  refine ⟨true, G.o_BadTable.one, fun _ p2 dd => ⟨_, rfl, G.o_BadTable.fld, G.o_BadTable.nof, _, rfl, _, rfl, ?_⟩, fun y => by cases y⟩
  refine fun p hp => ⟨by unfold small; omega, ?_⟩
  let I2 : Nat → DG → Mp → Prop := fun k Γ2 M2 => ∃ (c11 c12 c13 : Option D) (rs : List (List Int)), Γ2 = [some (.scr ns), some (.ref b), c2, c3, c4, c5, some (.tup []), c7, c8, none, some (.ref p), c11, c12, c13] ∧ M2 p = some (.lst (rs.map lotD)) ∧ rs.length = k ∧ ∀ r ∈ rs, r.length = 17
  refine forRng I2 ⟨_, _, _, [], rfl, mup_same, rfl, by simp⟩ (fun _ => trivial) ?_ ?_
  · rintro k _ M3 hk ⟨c11, c12, c13, rs, rfl, h1, h2, h3⟩
    sizeOf_list_dec
    rw [rng_rngN]
    refine ⟨⟨_, sqX_ref h1⟩, by unfold small; omega, LI_F (F := D.int) (xs := rngL 17) (fun a b z => D.int.inj z) (fun b => some (.int (max (k : Int) b))) (fun _ _ => trivial) (fun b hb M4 X4 => ?_) ?_⟩
    · sizeOf_list_dec
      omega
    rw [filterMap_some]
    refine ⟨_, h1, by rw [List.length_map, szl]; omega, _, _, _, rs ++ [(rngL 17).map fun b => max (k : Int) b], rfl, ?_, by rw [List.length_append, h2]; rfl, fun r hr => ?_⟩
    · rw [mup_same, List.map_append, List.map_singleton]
      unfold lotD
      rw [List.map_map]
      rfl
    · rcases List.mem_append.mp hr with hr | hr
      · exact h3 r hr
      · rw [List.mem_singleton.mp hr, List.length_map]
        rfl
  rintro _ M3 ⟨c11, c12, c13, rs, rfl, h1, h2, h3⟩
  have h2 : rs.length = 17 := h2
  sizeOf_list_dec
  refine fun p9 hp9 => ⟨p9, .ref p, rs, rfl, mup_same, rowsR_ext ⟨_, sqD_ref h1, by rw [List.length_map], fun i r e => ⟨lotD r, by rw [List.getElem?_map, e]; rfl, rfl⟩⟩ ((Ext.refl M3).up hp9), by omega, fun r hr => by have := h3 r hr; omega, fun nT => ?_, fun T => absurd T.1.2 (by omega), fun T => absurd T.1.2 (by omega)⟩
  refine ⟨true, G.o_BadTable.one, fun _ p2 dd => ?_, fun y => by cases y⟩
  refine eqSq (b := true) rfl rfl rfl ⟨_, rfl, fun _ => ⟨_, rfl, G.o_BadTable.fld, G.o_BadTable.nof, _, rfl, _, rfl, ?_⟩, fun y => by cases y⟩
  exact eqSq (b := true) rfl rfl rfl (Fin.same (h _))
end
theorem scc_LarderError : FnScope ["self", "word"] ["self", "word"] (defScope c_LarderError) := ⟨rfl, rfl, rfl, by decide +kernel, rfl, by decide +kernel, by decide +kernel⟩
theorem scc_BadTable : FnScope ["self", "why"] ["self", "why"] (defScope c_BadTable) := ⟨rfl, rfl, rfl, by decide +kernel, rfl, by decide +kernel, by decide +kernel⟩
theorem all_mk {l : PySem.W.OpenLaw} {w : World} {K : PySem.W.Frag} {h : Heap} {mg : Str → Option Value} {fa : Addr} (X : K.In h) (Gn : h.Ns mainGlobals mg) (hfa : mg "law" = some (.ref fa))
    {CBLarderError CPJoin CXBadTable DTXBadTable NXBadTable deXBadTable f0 f1 f10 f11 f12 f13 f14 f15 f2 f3 f4 f5 f6 f7 f8 f9 fBLarderError fXBadTable : Addr} {abXBadTable : Bool} {an0 an1 an10 an11 an12 an13 an14 an15 an2 an3 an4 an5 an6 an7 an8 an9 anBLarderError anXBadTable ddXBadTable dpXBadTable od0 od1 od10 od11 od12 od13 od14 od15 od2 od3 od4 od5 od6 od7 od8 od9 odBLarderError odXBadTable : Option Addr} {bmXBadTable bsXBadTable subXBadTable : List Value} {cd0 cd1 cd10 cd11 cd12 cd13 cd14 cd15 cd2 cd3 cd4 cd5 cd6 cd7 cd8 cd9 cdBLarderError cdXBadTable ct0 ct1 ct10 ct11 ct12 ct13 ct14 ct15 ct2 ct3 ct4 ct5 ct6 ct7 ct8 ct9 ctBLarderError ctXBadTable dc0 dc1 dc10 dc11 dc12 dc13 dc14 dc15 dc2 dc3 dc4 dc5 dc6 dc7 dc8 dc9 dcBLarderError dcXBadTable doXBadTable kV0 kV1 kV10 kV11 kV12 kV13 kV14 kV15 kV2 kV3 kV4 kV5 kV6 kV7 kV8 kV9 kVBLarderError kVXBadTable oc0 oc1 oc10 oc11 oc12 oc13 oc14 oc15 oc2 oc3 oc4 oc5 oc6 oc7 oc8 oc9 ocBLarderError ocXBadTable pm0 pm1 pm10 pm11 pm12 pm13 pm14 pm15 pm2 pm3 pm4 pm5 pm6 pm7 pm8 pm9 pmBLarderError pmXBadTable : Value} {colXBadTable : Option Bool} {dnXBadTable : Nat} {dqXBadTable sl0 sl1 sl10 sl11 sl12 sl13 sl14 sl15 sl2 sl3 sl4 sl5 sl6 sl7 sl8 sl9 slBLarderError slXBadTable : Array (Option Value)} {m0XBadTable m1XBadTable m2XBadTable m3XBadTable m5XBadTable : Option Value} {nmXBadTable qXBadTable : Str} {snXBadTable : List Str} {tMOST_WORTHS : Tok}
    (aaPJoin : PySem.W.nsIn K mainGlobals "Join" = some (some (.ref CPJoin)))
    (a0 : PySem.W.nsIn K mainGlobals "is_table" = some (some (.ref f0)))
    (l0 : K.lookup f0 = some ⟨oc0, od0, .func (PySem.W.fnOf "is_table" "is_table" (defArgs s_is_table) (defBody s_is_table) (defScope s_is_table) .none kV0 dc0 pm0 an0 cd0 ct0), sl0⟩)
    (c0 : PySem.W.codeIn K cd0 "is_table" = true)
    (k0 : PySem.W.keepIn K (.ref f0) = true)
    (a1 : PySem.W.nsIn K mainGlobals "broken" = some (some (.ref f1)))
    (l1 : K.lookup f1 = some ⟨oc1, od1, .func (PySem.W.fnOf "broken" "broken" (defArgs s_broken) (defBody s_broken) (defScope s_broken) .none kV1 dc1 pm1 an1 cd1 ct1), sl1⟩)
    (c1 : PySem.W.codeIn K cd1 "broken" = true)
    (k1 : PySem.W.keepIn K (.ref f1) = true)
    (mt2 : PySem.W.findIn K (.ref CPJoin) "__init__" = some (some (.ref f2)))
    (l2 : K.lookup f2 = some ⟨oc2, od2, .func (PySem.W.fnOf "__init__" "Join.__init__" (defArgs s_Join_init) (defBody s_Join_init) (defScope s_Join_init) .none kV2 dc2 pm2 an2 cd2 ct2), sl2⟩)
    (c2 : PySem.W.codeIn K cd2 "Join.__init__" = true)
    (k2 : PySem.W.keepIn K (.ref f2) = true)
    (mf2 : PySem.W.isFn K (.ref f2) = true)
    (mt3 : PySem.W.findIn K (.ref CPJoin) "size" = some (some (.ref f3)))
    (l3 : K.lookup f3 = some ⟨oc3, od3, .func (PySem.W.fnOf "size" "Join.size" (defArgs s_Join_size) (defBody s_Join_size) (defScope s_Join_size) .none kV3 dc3 pm3 an3 cd3 ct3), sl3⟩)
    (c3 : PySem.W.codeIn K cd3 "Join.size" = true)
    (k3 : PySem.W.keepIn K (.ref f3) = true)
    (mf3 : PySem.W.isFn K (.ref f3) = true)
    (mt4 : PySem.W.findIn K (.ref CPJoin) "table" = some (some (.ref f4)))
    (l4 : K.lookup f4 = some ⟨oc4, od4, .func (PySem.W.fnOf "table" "Join.table" (defArgs s_Join_table) (defBody s_Join_table) (defScope s_Join_table) .none kV4 dc4 pm4 an4 cd4 ct4), sl4⟩)
    (c4 : PySem.W.codeIn K cd4 "Join.table" = true)
    (k4 : PySem.W.keepIn K (.ref f4) = true)
    (mf4 : PySem.W.isFn K (.ref f4) = true)
    (a5 : PySem.W.nsIn K mainGlobals "_law_bag" = some (some (.ref f5)))
    (l5 : K.lookup f5 = some ⟨oc5, od5, .func (PySem.W.fnOf "_law_bag" "_law_bag" (defArgs s_law_bag) (defBody s_law_bag) (defScope s_law_bag) .none kV5 dc5 pm5 an5 cd5 ct5), sl5⟩)
    (c5 : PySem.W.codeIn K cd5 "_law_bag" = true)
    (k5 : PySem.W.keepIn K (.ref f5) = true)
    (a6 : PySem.W.nsIn K mainGlobals "_law_take" = some (some (.ref f6)))
    (l6 : K.lookup f6 = some ⟨oc6, od6, .func (PySem.W.fnOf "_law_take" "_law_take" (defArgs s_law_take) (defBody s_law_take) (defScope s_law_take) .none kV6 dc6 pm6 an6 cd6 ct6), sl6⟩)
    (c6 : PySem.W.codeIn K cd6 "_law_take" = true)
    (k6 : PySem.W.keepIn K (.ref f6) = true)
    (a7 : PySem.W.nsIn K mainGlobals "_law_of" = some (some (.ref f7)))
    (l7 : K.lookup f7 = some ⟨oc7, od7, .func (PySem.W.fnOf "_law_of" "_law_of" (defArgs s_law_of) (defBody s_law_of) (defScope s_law_of) .none kV7 dc7 pm7 an7 cd7 ct7), sl7⟩)
    (c7 : PySem.W.codeIn K cd7 "_law_of" = true)
    (k7 : PySem.W.keepIn K (.ref f7) = true)
    (a8 : PySem.W.nsIn K mainGlobals "_law_turned" = some (some (.ref f8)))
    (l8 : K.lookup f8 = some ⟨oc8, od8, .func (PySem.W.fnOf "_law_turned" "_law_turned" (defArgs s_law_turned) (defBody s_law_turned) (defScope s_law_turned) .none kV8 dc8 pm8 an8 cd8 ct8), sl8⟩)
    (c8 : PySem.W.codeIn K cd8 "_law_turned" = true)
    (k8 : PySem.W.keepIn K (.ref f8) = true)
    (a9 : PySem.W.nsIn K mainGlobals "_law_same" = some (some (.ref f9)))
    (l9 : K.lookup f9 = some ⟨oc9, od9, .func (PySem.W.fnOf "_law_same" "_law_same" (defArgs s_law_same) (defBody s_law_same) (defScope s_law_same) .none kV9 dc9 pm9 an9 cd9 ct9), sl9⟩)
    (c9 : PySem.W.codeIn K cd9 "_law_same" = true)
    (k9 : PySem.W.keepIn K (.ref f9) = true)
    (a10 : PySem.W.nsIn K mainGlobals "_law_rising" = some (some (.ref f10)))
    (l10 : K.lookup f10 = some ⟨oc10, od10, .func (PySem.W.fnOf "_law_rising" "_law_rising" (defArgs s_law_rising) (defBody s_law_rising) (defScope s_law_rising) .none kV10 dc10 pm10 an10 cd10 ct10), sl10⟩)
    (c10 : PySem.W.codeIn K cd10 "_law_rising" = true)
    (k10 : PySem.W.keepIn K (.ref f10) = true)
    (a11 : PySem.W.nsIn K mainGlobals "_law_closed" = some (some (.ref f11)))
    (l11 : K.lookup f11 = some ⟨oc11, od11, .func (PySem.W.fnOf "_law_closed" "_law_closed" (defArgs s_law_closed) (defBody s_law_closed) (defScope s_law_closed) .none kV11 dc11 pm11 an11 cd11 ct11), sl11⟩)
    (c11 : PySem.W.codeIn K cd11 "_law_closed" = true)
    (k11 : PySem.W.keepIn K (.ref f11) = true)
    (a12 : PySem.W.nsIn K mainGlobals "_law_table" = some (some (.ref f12)))
    (l12 : K.lookup f12 = some ⟨oc12, od12, .func (PySem.W.fnOf "_law_table" "_law_table" (defArgs s_law_table) (defBody s_law_table) (defScope s_law_table) .none kV12 dc12 pm12 an12 cd12 ct12), sl12⟩)
    (c12 : PySem.W.codeIn K cd12 "_law_table" = true)
    (k12 : PySem.W.keepIn K (.ref f12) = true)
    (a13 : PySem.W.nsIn K mainGlobals "_law_break" = some (some (.ref f13)))
    (l13 : K.lookup f13 = some ⟨oc13, od13, .func (PySem.W.fnOf "_law_break" "_law_break" (defArgs s_law_break) (defBody s_law_break) (defScope s_law_break) .none kV13 dc13 pm13 an13 cd13 ct13), sl13⟩)
    (c13 : PySem.W.codeIn K cd13 "_law_break" = true)
    (k13 : PySem.W.keepIn K (.ref f13) = true)
    (a14 : PySem.W.nsIn K mainGlobals "_law_bent" = some (some (.ref f14)))
    (l14 : K.lookup f14 = some ⟨oc14, od14, .func (PySem.W.fnOf "_law_bent" "_law_bent" (defArgs s_law_bent) (defBody s_law_bent) (defScope s_law_bent) .none kV14 dc14 pm14 an14 cd14 ct14), sl14⟩)
    (c14 : PySem.W.codeIn K cd14 "_law_bent" = true)
    (k14 : PySem.W.keepIn K (.ref f14) = true)
    (a15 : PySem.W.nsIn K mainGlobals "law" = some (some (.ref f15)))
    (l15 : K.lookup f15 = some ⟨oc15, od15, .func (PySem.W.fnOf "law" "law" (defArgs s_law) (defBody s_law) (defScope s_law) .none kV15 dc15 pm15 an15 cd15 ct15), sl15⟩)
    (c15 : PySem.W.codeIn K cd15 "law" = true)
    (k15 : PySem.W.keepIn K (.ref f15) = true)
    (aBLarderError : PySem.W.nsIn K mainGlobals "LarderError" = some (some (.ref CBLarderError)))
    (rdBLarderError : PySem.W.readsIn K CBLarderError (.type "type") = true)
    (gaBLarderError : PySem.W.specialIn K (.ref CBLarderError) "__getattribute__" = some (some (.builtin "type.__getattribute__")))
    (kkBLarderError : PySem.W.findCls K (.ref CBLarderError) (.type "type") "__init__" = some (.val (.ref fBLarderError)))
    (lBLarderError : K.lookup fBLarderError = some ⟨ocBLarderError, odBLarderError, .func (PySem.W.fnOf "__init__" "LarderError.__init__" (defArgs c_LarderError) (defBody c_LarderError) (defScope c_LarderError) .none kVBLarderError dcBLarderError pmBLarderError anBLarderError cdBLarderError ctBLarderError), slBLarderError⟩)
    (cBLarderError : PySem.W.codeIn K cdBLarderError "LarderError.__init__" = true)
    (kBLarderError : PySem.W.keepIn K (.ref fBLarderError) = true)
    (aXBadTable : PySem.W.nsIn K mainGlobals "BadTable" = some (some (.ref CXBadTable)))
    (xlXBadTable : K.lookup CXBadTable = some (excClassObj nmXBadTable qXBadTable CXBadTable NXBadTable bsXBadTable bmXBadTable true snXBadTable subXBadTable abXBadTable colXBadTable ddXBadTable m0XBadTable m1XBadTable m2XBadTable m3XBadTable m5XBadTable "ValueError.__new__"))
    (xrXBadTable : PySem.HandSPX.refsVE bmXBadTable = true)
    (saXBadTable : PySem.W.findIn K (.ref CXBadTable) "__setattr__" = some (some (.builtin "object.__setattr__")))
    (ecXBadTable : PySem.W.subIn K (.ref CXBadTable) (.type "BaseException") = some true)
    (tyXBadTable : PySem.W.typeIn K (.ref CXBadTable) = some (.type "type"))
    (kcXBadTable : PySem.W.keepIn K (.ref CXBadTable) = true)
    (niXBadTable : PySem.W.findIn K (.ref CXBadTable) "__init__" = some (some (.ref fXBadTable)))
    (tiXBadTable : PySem.W.typeIn K (.ref fXBadTable) = some (.type "function"))
    (nwXBadTable : PySem.W.findIn K (.ref CXBadTable) "word" = some none)
    (oeXBadTable : PySem.W.subIn K (.ref CXBadTable) (.ref CXBadTable) = some true)
    (fgXBadTable : PySem.W.findIn K (.ref CXBadTable) "__getattribute__" = some (some (.builtin "BaseException.__getattribute__")))
    (fhXBadTable : PySem.W.findIn K (.ref CXBadTable) "__getattr__" = some none)
    (hdXBadTable : PySem.W.hasDictIn K CXBadTable = true)
    (lXBadTable : K.lookup fXBadTable = some ⟨ocXBadTable, odXBadTable, .func (PySem.W.fnOf "__init__" "BadTable.__init__" (defArgs c_BadTable) (defBody c_BadTable) (defScope c_BadTable) (.ref DTXBadTable) kVXBadTable dcXBadTable pmXBadTable anXBadTable cdXBadTable ctXBadTable), slXBadTable⟩)
    (cXBadTable : PySem.W.codeIn K cdXBadTable "BadTable.__init__" = true)
    (kXBadTable : PySem.W.keepIn K (.ref fXBadTable) = true)
    (dlXBadTable : K.lookup DTXBadTable = some ⟨doXBadTable, dpXBadTable, .seq #[.ref deXBadTable] dnXBadTable, dqXBadTable⟩)
    (nyXBadTable : PySem.W.findIn K (.ref CXBadTable) "why" = some none)
    (gMOST_WORTHS : PySem.W.nsIn K mainGlobals "MOST_WORTHS" = some (some (.int 16 tMOST_WORTHS)))
    (gabs : PySem.W.nsIn K mainGlobals "abs" = some none)
    (gall : PySem.W.nsIn K mainGlobals "all" = some none)
    (gbool : PySem.W.nsIn K mainGlobals "bool" = some none)
    (gint : PySem.W.nsIn K mainGlobals "int" = some none)
    (gisinstance : PySem.W.nsIn K mainGlobals "isinstance" = some none)
    (glen : PySem.W.nsIn K mainGlobals "len" = some none)
    (glist : PySem.W.nsIn K mainGlobals "list" = some none)
    (gmax : PySem.W.nsIn K mainGlobals "max" = some none)
    (grange : PySem.W.nsIn K mainGlobals "range" = some none)
    (gsorted : PySem.W.nsIn K mainGlobals "sorted" = some none)
    (gstr : PySem.W.nsIn K mainGlobals "str" = some none)
    (gtuple : PySem.W.nsIn K mainGlobals "tuple" = some none)
    (gzip : PySem.W.nsIn K mainGlobals "zip" = some none)
    (pgPJoin : PySem.W.plainGet K CPJoin Str.empty = true)
    (hdPJoin : PySem.W.hasDictIn K CPJoin = true)
    (poPJoin : PySem.W.plainOver K CPJoin = true)
    (saPJoin : PySem.W.findIn K (.ref CPJoin) "__setattr__" = some (some (.builtin "object.__setattr__")))
    (naJoinpairs : PySem.W.findIn K (.ref CPJoin) "pairs" = some none)
    (miPJoin : PySem.W.makesIn K CPJoin = true)
    (kcPJoin : PySem.W.keepIn K (.ref CPJoin) = true)
    : ∃ fd : FuncData, (∀ (s : Shared) (v : Value), BindsTo s fd ⟨[v], []⟩ [("_law_script", v)]) ∧ ∀ base : Heap, K.In base → base.Ns mainGlobals mg → FnOk l.prog w K mg base (L2.CX l.prog w) 6 fa fd ["_law_script"] (spUp ⟨K, []⟩ (sp_law)) := by
  have e := hfa.symm.trans (PySem.W.mg_of X Gn a15)
  cases e
  have F0 := fun_mk (st := s_is_table) l0 c0 k0
  have b0 := F0.binds (ps := ["table"]) fun _ _ _ _ _ _ us hl => match us, hl with | [_], _ => rfl
  have D0 : DefAt K mg "is_table" s_is_table ["table"] := ⟨⟨_, _, PySem.W.mg_of X Gn a0, FunK.of F0, b0⟩⟩
  have F1 := fun_mk (st := s_broken) l1 c1 k1
  have b1 := F1.binds (ps := ["table"]) fun _ _ _ _ _ _ us hl => match us, hl with | [_], _ => rfl
  have D1 : DefAt K mg "broken" s_broken ["table"] := ⟨⟨_, _, PySem.W.mg_of X Gn a1, FunK.of F1, b1⟩⟩
  have F2 := fun_mk (st := s_Join_init) l2 c2 k2
  have b2 := F2.binds (ps := ["self", "table"]) fun _ _ _ _ _ _ us hl => match us, hl with | [_, _], _ => rfl
  have D2 : MethAt K CPJoin "__init__" "Join.__init__" s_Join_init ["self", "table"] := ⟨⟨_, _, ⟨mt2, mf2, k2⟩, FunK.of F2, b2⟩⟩
  have F3 := fun_mk (st := s_Join_size) l3 c3 k3
  have b3 := F3.binds (ps := ["self"]) fun _ _ _ _ _ _ us hl => match us, hl with | [_], _ => rfl
  have D3 : MethAt K CPJoin "size" "Join.size" s_Join_size ["self"] := ⟨⟨_, _, ⟨mt3, mf3, k3⟩, FunK.of F3, b3⟩⟩
  have F4 := fun_mk (st := s_Join_table) l4 c4 k4
  have b4 := F4.binds (ps := ["self"]) fun _ _ _ _ _ _ us hl => match us, hl with | [_], _ => rfl
  have D4 : MethAt K CPJoin "table" "Join.table" s_Join_table ["self"] := ⟨⟨_, _, ⟨mt4, mf4, k4⟩, FunK.of F4, b4⟩⟩
  have F5 := fun_mk (st := s_law_bag) l5 c5 k5
  have b5 := F5.binds (ps := ["_law_script"]) fun _ _ _ _ _ _ us hl => match us, hl with | [_], _ => rfl
  have D5 : DefAt K mg "_law_bag" s_law_bag ["_law_script"] := ⟨⟨_, _, PySem.W.mg_of X Gn a5, FunK.of F5, b5⟩⟩
  have F6 := fun_mk (st := s_law_take) l6 c6 k6
  have b6 := F6.binds (ps := ["_law_bag_here", "_law_sides"]) fun _ _ _ _ _ _ us hl => match us, hl with | [_, _], _ => rfl
  have D6 : DefAt K mg "_law_take" s_law_take ["_law_bag_here", "_law_sides"] := ⟨⟨_, _, PySem.W.mg_of X Gn a6, FunK.of F6, b6⟩⟩
  have F7 := fun_mk (st := s_law_of) l7 c7 k7
  have b7 := F7.binds (ps := ["_law_bag_here", "_law_some"]) fun _ _ _ _ _ _ us hl => match us, hl with | [_, _], _ => rfl
  have D7 : DefAt K mg "_law_of" s_law_of ["_law_bag_here", "_law_some"] := ⟨⟨_, _, PySem.W.mg_of X Gn a7, FunK.of F7, b7⟩⟩
  have F8 := fun_mk (st := s_law_turned) l8 c8 k8
  have b8 := F8.binds (ps := ["_law_bag_here", "_law_some"]) fun _ _ _ _ _ _ us hl => match us, hl with | [_, _], _ => rfl
  have D8 : DefAt K mg "_law_turned" s_law_turned ["_law_bag_here", "_law_some"] := ⟨⟨_, _, PySem.W.mg_of X Gn a8, FunK.of F8, b8⟩⟩
  have F9 := fun_mk (st := s_law_same) l9 c9 k9
  have b9 := F9.binds (ps := ["_law_found", "_law_due"]) fun _ _ _ _ _ _ us hl => match us, hl with | [_, _], _ => rfl
  have D9 : DefAt K mg "_law_same" s_law_same ["_law_found", "_law_due"] := ⟨⟨_, _, PySem.W.mg_of X Gn a9, FunK.of F9, b9⟩⟩
  have F10 := fun_mk (st := s_law_rising) l10 c10 k10
  have b10 := F10.binds (ps := ["_law_some"]) fun _ _ _ _ _ _ us hl => match us, hl with | [_], _ => rfl
  have D10 : DefAt K mg "_law_rising" s_law_rising ["_law_some"] := ⟨⟨_, _, PySem.W.mg_of X Gn a10, FunK.of F10, b10⟩⟩
  have F11 := fun_mk (st := s_law_closed) l11 c11 k11
  have b11 := F11.binds (ps := ["_law_bits", "_law_some"]) fun _ _ _ _ _ _ us hl => match us, hl with | [_, _], _ => rfl
  have D11 : DefAt K mg "_law_closed" s_law_closed ["_law_bits", "_law_some"] := ⟨⟨_, _, PySem.W.mg_of X Gn a11, FunK.of F11, b11⟩⟩
  have F12 := fun_mk (st := s_law_table) l12 c12 k12
  have b12 := F12.binds (ps := ["_law_bag_here"]) fun _ _ _ _ _ _ us hl => match us, hl with | [_], _ => rfl
  have D12 : DefAt K mg "_law_table" s_law_table ["_law_bag_here"] := ⟨⟨_, _, PySem.W.mg_of X Gn a12, FunK.of F12, b12⟩⟩
  have F13 := fun_mk (st := s_law_break) l13 c13 k13
  have b13 := F13.binds (ps := ["_law_table_here"]) fun _ _ _ _ _ _ us hl => match us, hl with | [_], _ => rfl
  have D13 : DefAt K mg "_law_break" s_law_break ["_law_table_here"] := ⟨⟨_, _, PySem.W.mg_of X Gn a13, FunK.of F13, b13⟩⟩
  have F14 := fun_mk (st := s_law_bent) l14 c14 k14
  have b14 := F14.binds (ps := ["_law_bag_here", "_law_table_here"]) fun _ _ _ _ _ _ us hl => match us, hl with | [_, _], _ => rfl
  have D14 : DefAt K mg "_law_bent" s_law_bent ["_law_bag_here", "_law_table_here"] := ⟨⟨_, _, PySem.W.mg_of X Gn a14, FunK.of F14, b14⟩⟩
  have F15 := fun_mk (st := s_law) l15 c15 k15
  have b15 := F15.binds (ps := ["_law_script"]) fun _ _ _ _ _ _ us hl => match us, hl with | [_], _ => rfl
  have D15 : DefAt K mg "law" s_law ["_law_script"] := ⟨⟨_, _, PySem.W.mg_of X Gn a15, FunK.of F15, b15⟩⟩
  have FBLarderError := fun_mk (st := c_LarderError) lBLarderError cBLarderError kBLarderError
  have bBLarderError := FBLarderError.binds (ps := ["self", "word"]) fun _ _ _ _ _ _ us hl => match us, hl with | [_, _], _ => rfl
  have EBLarderError : ∀ base : Heap, ExB l.prog w K mg base "LarderError" "word" := fun base => exB_of (PySem.W.mg_of X Gn aBLarderError) rdBLarderError gaBLarderError kkBLarderError FBLarderError scc_LarderError bBLarderError fun cdv A outer s H E => pss_one (ps_ost (pv 0) (pv 1))
  have FXBadTable := ini1_mk (st := c_BadTable) (ps := ["self", "why"]) rfl lXBadTable cXBadTable kXBadTable dlXBadTable fun _ _ _ _ _ _ _ us its h1 h2 => match us, h1, its, h2 with | [_, _], _, [_], _ => ⟨_, rfl, rfl⟩
  have bXBadTable := FXBadTable.2
  have TXBadTable : OexC K CXBadTable := ⟨⟨_, _, _, _, _, _, _, _, _, _, _, _, _, _, _, xlXBadTable, xrXBadTable⟩, saXBadTable, ecXBadTable, tyXBadTable, kcXBadTable⟩
  have EXBadTable : ∀ base : Heap, ExC l.prog w K mg base "BadTable" CXBadTable 1 (fun ws => [("why", ws.headD .non), ("word", V.str "table")]) := fun base => ⟨TXBadTable, PySem.W.mg_of X Gn aXBadTable, ⟨_, _, _, niXBadTable, tiXBadTable, okIni1 (wd := "table") (y := "why") (EBLarderError base) TXBadTable nwXBadTable nyXBadTable FXBadTable.1 scc_BadTable fun CL f fdb mc m1 r kk Fb kp bb cdv A outer s H E hr => pss_cons (ps_expr (pe_clscall (E := fun _ _ _ => False) m1 r kk Fb hr kp bb passL0 (pa_cons (pv 0) (pa_cons pe_str pa_nil)))) (pss_one (ps_ost (pv 0) (pv 1))), bXBadTable⟩⟩
  refine ⟨PySem.W.fnOf "law" "law" (defArgs s_law) (defBody s_law) (defScope s_law) .none kV15 dc15 pm15 an15 cd15 ct15, fun s v => .of_eq rfl, fun base _ _ => ?_⟩
  have G : Glb l.prog w K mg base CXBadTable CPJoin := ⟨⟨_, PySem.W.mg_of X Gn gMOST_WORTHS⟩, PySem.W.mg_none_of X Gn gabs, PySem.W.mg_none_of X Gn gall, PySem.W.mg_none_of X Gn gbool, PySem.W.mg_none_of X Gn gint, PySem.W.mg_none_of X Gn gisinstance, PySem.W.mg_none_of X Gn glen, PySem.W.mg_none_of X Gn glist, PySem.W.mg_none_of X Gn gmax, PySem.W.mg_none_of X Gn grange, PySem.W.mg_none_of X Gn gsorted, PySem.W.mg_none_of X Gn gstr, PySem.W.mg_none_of X Gn gtuple, PySem.W.mg_none_of X Gn gzip, EXBadTable base, PySem.W.mg_of X Gn aXBadTable, ⟨PySem.W.exm_ref ecXBadTable hdXBadTable tyXBadTable oeXBadTable, ⟨fgXBadTable, fhXBadTable, ecXBadTable, hdXBadTable⟩, nyXBadTable⟩, ⟨pgPJoin, hdPJoin, poPJoin, saPJoin⟩, naJoinpairs, ⟨miPJoin, kcPJoin, PySem.W.mg_of X Gn aaPJoin⟩⟩
  have h_is_table := ok_is_table (T := []) G D0
  have h_broken := ok_broken (T := []) G D1
  have h_Join_init := ok_Join_init (T := []) G h_broken h_is_table D2
  have h_Join_size := ok_Join_size (T := []) G D3
  have h_Join_table := ok_Join_table (T := []) G D4
  have h_Join_tableO := ok_Join_tableO (T := []) G D4
  have h_law_bag := ok_law_bag (T := []) G D5
  have h_law_take := ok_law_take (T := []) G D6
  have h_law_of := ok_law_of (T := []) G h_law_take D7
  have h_law_turned := ok_law_turned (T := []) G h_law_take D8
  have h_law_same0 := ok_law_same0 (T := []) G D9
  have h_law_same1 := ok_law_same1 (T := []) G h_law_same0 D9
  have h_law_same2 := ok_law_same2 (T := []) G h_law_same1 D9
  have h_law_rising := ok_law_rising (T := []) G D10
  have h_law_closed := ok_law_closed (T := []) G h_law_rising D11
  have h_law_table := ok_law_table (T := []) G h_law_closed h_law_take h_law_turned D12
  have h_law_break := ok_law_break (T := []) G D13
  have h_law_bent := ok_law_bent (T := []) G h_law_break h_law_of h_law_take D14
  exact ok_law (T := []) G h_Join_init h_Join_size h_Join_table h_Join_tableO h_law_bag h_law_bent h_law_same1 h_law_same2 h_law_table (FunK.of F15)
end LW
open PySem PySem.W PyProof.Rows
set_option hygiene false in
local macro_rules | `(tactic| o_head $H) => `(tactic| (exact h; first | exact DL.HP.ofK $H rfl | exact DL.HP.ofM $H rfl))
set_option maxRecDepth 100000 in
set_option maxHeartbeats 0 in
theorem PySem.Challenge.cw_joinlarder_k01_tables_looked_through_holds : PySem.Challenge.rw_joinlarder_k01_tables_looked_through.Holds := by
  refine LW.opened fun said => ?_
  refine DL.head_at (P := LW.HD.1) (q := LW.view) (loose := LW.loose) (M := 40000) "special-get-raises" LW.hf LW.ht (by kernel_rfl) (fun s => by kernel_rfl) (by rfl) (by rfl) (by rfl) (by rfl) (by first | assumption | decide +kernel) (by decide +kernel) ⟨rfl, rfl, rfl, rfl, rfl, by decide +kernel⟩ ?hw ?hc
  (case hw => w_witness2)
  refine L2.walk_of (l := PySem.Challenge.rw_joinlarder_k01_tables_looked_through) (n := 63) (k := 6) (x := "_law_script") (CX := fun w => L2.CX PySem.Challenge.rw_joinlarder_k01_tables_looked_through.prog w) (sp := fun w => DL.spUp ⟨_, []⟩ LW.sp_law) rfl (by decide) rfl ⟨rfl, by decide, by decide⟩ (fun w h Y => PySem.W.kIn_of Y) ?F (fun w H a ns hl hO hS => DL.lawIn (fun ns M Q h1 h2 => ⟨ns, rfl, h1, h2⟩) hl hO hS) (fun w H s e s' h => by obtain ⟨_, _, _, _, _, _, _, _, _, _, _, _, z⟩ := h; exact z)
  case F =>
    intro w mg fa h KX Gn hmg
    dsimp only [LW.HD, DL.HP.ofK, DL.HP.ofM] at KX ⊢
    refine' LW.all_mk KX Gn hmg ?aaPJoin ?a0 ?l0 ?c0 ?k0 ?a1 ?l1 ?c1 ?k1 ?mt2 ?l2 ?c2 ?k2 ?mf2 ?mt3 ?l3 ?c3 ?k3 ?mf3 ?mt4 ?l4 ?c4 ?k4 ?mf4 ?a5 ?l5 ?c5 ?k5 ?a6 ?l6 ?c6 ?k6 ?a7 ?l7 ?c7 ?k7 ?a8 ?l8 ?c8 ?k8 ?a9 ?l9 ?c9 ?k9 ?a10 ?l10 ?c10 ?k10 ?a11 ?l11 ?c11 ?k11 ?a12 ?l12 ?c12 ?k12 ?a13 ?l13 ?c13 ?k13 ?a14 ?l14 ?c14 ?k14 ?a15 ?l15 ?c15 ?k15 ?aBLarderError ?rdBLarderError ?gaBLarderError ?kkBLarderError ?lBLarderError ?cBLarderError ?kBLarderError ?aXBadTable ?xlXBadTable ?xrXBadTable ?saXBadTable ?ecXBadTable ?tyXBadTable ?kcXBadTable ?niXBadTable ?tiXBadTable ?nwXBadTable ?oeXBadTable ?fgXBadTable ?fhXBadTable ?hdXBadTable ?lXBadTable ?cXBadTable ?kXBadTable ?dlXBadTable ?nyXBadTable ?gMOST_WORTHS ?gabs ?gall ?gbool ?gint ?gisinstance ?glen ?glist ?gmax ?grange ?gsorted ?gstr ?gtuple ?gzip ?pgPJoin ?hdPJoin ?poPJoin ?saPJoin ?naJoinpairs ?miPJoin ?kcPJoin
    (case aaPJoin => k_is)
    (case a0 => k_is)
    (case l0 => k_is)
    (case c0 => k_is)
    (case k0 => k_is)
    (case a1 => k_is)
    (case l1 => k_is)
    (case c1 => k_is)
    (case k1 => k_is)
    (case mt2 => k_is)
    (case l2 => k_is)
    (case c2 => k_is)
    (case k2 => k_is)
    (case mf2 => k_is)
    (case mt3 => k_is)
    (case l3 => k_is)
    (case c3 => k_is)
    (case k3 => k_is)
    (case mf3 => k_is)
    (case mt4 => k_is)
    (case l4 => k_is)
    (case c4 => k_is)
    (case k4 => k_is)
    (case mf4 => k_is)
    (case a5 => k_is)
    (case l5 => k_is)
    (case c5 => k_is)
    (case k5 => k_is)
    (case a6 => k_is)
    (case l6 => k_is)
    (case c6 => k_is)
    (case k6 => k_is)
    (case a7 => k_is)
    (case l7 => k_is)
    (case c7 => k_is)
    (case k7 => k_is)
    (case a8 => k_is)
    (case l8 => k_is)
    (case c8 => k_is)
    (case k8 => k_is)
    (case a9 => k_is)
    (case l9 => k_is)
    (case c9 => k_is)
    (case k9 => k_is)
    (case a10 => k_is)
    (case l10 => k_is)
    (case c10 => k_is)
    (case k10 => k_is)
    (case a11 => k_is)
    (case l11 => k_is)
    (case c11 => k_is)
    (case k11 => k_is)
    (case a12 => k_is)
    (case l12 => k_is)
    (case c12 => k_is)
    (case k12 => k_is)
    (case a13 => k_is)
    (case l13 => k_is)
    (case c13 => k_is)
    (case k13 => k_is)
    (case a14 => k_is)
    (case l14 => k_is)
    (case c14 => k_is)
    (case k14 => k_is)
    (case a15 => k_is)
    (case l15 => k_is)
    (case c15 => k_is)
    (case k15 => k_is)
    (case aBLarderError => k_is)
    (case rdBLarderError => k_is)
    (case gaBLarderError => k_is)
    (case kkBLarderError => k_is)
    (case lBLarderError => k_is)
    (case cBLarderError => k_is)
    (case kBLarderError => k_is)
    (case aXBadTable => k_is)
    (case xlXBadTable => k_is)
    (case xrXBadTable => first | rfl | decide +kernel)
    (case saXBadTable => k_is)
    (case ecXBadTable => k_is)
    (case tyXBadTable => k_is)
    (case kcXBadTable => k_is)
    (case niXBadTable => k_is)
    (case tiXBadTable => k_is)
    (case nwXBadTable => k_is)
    (case oeXBadTable => k_is)
    (case fgXBadTable => k_is)
    (case fhXBadTable => k_is)
    (case hdXBadTable => k_is)
    (case lXBadTable => k_is)
    (case cXBadTable => k_is)
    (case kXBadTable => k_is)
    (case dlXBadTable => k_is)
    (case nyXBadTable => k_is)
    (case gMOST_WORTHS => k_is)
    (case gabs => k_is)
    (case gall => k_is)
    (case gbool => k_is)
    (case gint => k_is)
    (case gisinstance => k_is)
    (case glen => k_is)
    (case glist => k_is)
    (case gmax => k_is)
    (case grange => k_is)
    (case gsorted => k_is)
    (case gstr => k_is)
    (case gtuple => k_is)
    (case gzip => k_is)
    (case pgPJoin => k_is)
    (case hdPJoin => k_is)
    (case poPJoin => k_is)
    (case saPJoin => k_is)
    (case naJoinpairs => k_is)
    (case miPJoin => k_is)
    (case kcPJoin => k_is)
