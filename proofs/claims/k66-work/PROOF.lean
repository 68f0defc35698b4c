import PyProof.Rows.All
import Wide.All
import OpenK.AllK
import Wide.FinOn
import HandS.ForMost
import HandS.ForExc
import HandS.Walk
import HandS.CallSlots
import HandS.IsInst
import HandS.Style
import HandS.TupAny
import HandS.TupMul
import HandS.Zip
import HandS.Wide
import HandS.Flow
import HandS.Deep
import HandS.Lambda
import KE.KDictKeyed
import KE.KDictLaw
import HandS.ExcIs
import KE.KRevSl
import KE.DataMinMax
import KE.DataMinKey
import KE.SortData
import KE.SortKeyHeap
import HandS.SortKw
import PyProof.ListRange
import KE.GoesEnum
import PyProof.EnumStmt
import KE.KDictDisplayH
import HandS.EndTab
import PyProof.Rows.CountFlat
import HandS.HotCalls
import HandS.OwnEq
import HandS.Sort
import PySem.Challenge.RW_patchplaces_k66_work
set_option Elab.async false
section
set_option Elab.async false
set_option linter.all false
set_option maxRecDepth 100000
set_option maxHeartbeats 2000000
set_option autoImplicit false
namespace VL
open PySem PySem.Spec PyProof.Rows L2

/-! ### tables of code objects: their addresses, the names of the lambdas told there -/
class TabN where
  nm : Addr → Option Str
  /-- the class whose instances are known -/
  wc : Option Addr := none
instance (priority := low) tabN0 : TabN := { nm := fun _ => none }
/-- the tables in H, their code objects in G -/
def TabsOk [TabN] (G H : Hp) : Prop := (∀ b ps, G b ≠ some (.tbl ps)) ∧ ∀ (P : Addr) (q : Str), TabN.nm P = some q → ∃ ps : Array Value, H P = some (.tbl ps) ∧ TriplesOk ps.toList ∧ ∀ (pos : Pos) (cv : Value), codeAmong pos ps.toList = some cv → ∃ c, cv = .ref c ∧ G c = some (LamX.CodeO c q)
variable [TabN]
/-- what may be changed without harm to the tables -/
def NoTab (x : HO) : Prop := ∀ ps, x ≠ .tbl ps
theorem noTab_lst {xs : List V} : NoTab (.lst xs) := fun _ z => nomatch z
theorem TabsOk.mono {G G' H : Hp} (t : TabsOk G H) (s : Same G G') (n : ∀ b ps, G' b ≠ some (.tbl ps)) : TabsOk G' H := ⟨n, fun P q h =>
  let ⟨ps, h1, h2, h3⟩ := t.2 P q h
  ⟨ps, h1, h2, fun pos cv hc => let ⟨c, a1, a2⟩ := h3 pos cv hc; ⟨c, a1, s _ _ a2⟩⟩⟩
theorem TabsOk.ext {G H H' : Hp} (t : TabsOk G H) (s : Same H H') : TabsOk G H' := ⟨t.1, fun P q h =>
  let ⟨ps, h1, h2, h3⟩ := t.2 P q h
  ⟨ps, s _ _ h1, h2, h3⟩⟩
theorem TabsOk.upd {G H : Hp} {p : Addr} {x u : HO} (t : TabsOk G H) (hp : H p = some x) (n : NoTab x) : TabsOk G (upd H p u) := ⟨t.1, fun P q h => by
  obtain ⟨ps, h1, h2, h3⟩ := t.2 P q h
  have e1 : P ≠ p := fun z => by subst z; rw [hp] at h1; exact n ps (Option.some.inj h1)
  exact ⟨ps, by rw [upd_ne e1]; exact h1, h2, h3⟩⟩
/-- a value is kept in the frozen part -/
theorem TabsOk.put {G H : Hp} {p : Addr} {u : HO} (t : TabsOk G H) (hp : G p = none) (n : NoTab u) : TabsOk (L2.upd G p u) H := t.mono (fun b x e => by
    rw [upd_ne (fun z => by subst z; rw [hp] at e; cases e)]; exact e) fun b ps z => by
  by_cases hb : b = p
  · subst hb; rw [upd_same] at z; exact n ps (Option.some.inj z)
  · rw [upd_ne hb] at z; exact t.1 b ps z

/-! ### results and data -/
inductive R (α : Type) where
  | ok (a : α) | exc (c : Nat) | stuck
def R.bind {α β : Type} (x : R α) (f : α → R β) : R β := match x with
  | .ok a => f a
  | .exc c => .exc c
  | .stuck => .stuck

inductive D where
  | non | bl (b : Bool) | int (i : Int) | str (x : Str) | tup (xs : List D) | lst (xs : List D) | scr (xs : List D) | op (n : Nat) (xs : List D) | dic (ks vs : List D)

/-- an instance of the class that is known -/
def WObj (H : Hp) (v : V) (vs : List V) : Prop := ∃ C a dx s e l, TabN.wc = some C ∧ v = .ref a ∧ vs = [s, e, l] ∧ H a = some (.ins C dx [("state", s), ("earlier", e), ("later", l)])
theorem WObj.mono {G G' : Hp} {v : V} {vs : List V} (k : Same G G') (h : WObj G v vs) : WObj G' v vs :=
  let ⟨C, a, dx, s, e, l, h1, h2, h3, h4⟩ := h
  ⟨C, a, dx, s, e, l, h1, h2, h3, k _ _ h4⟩
/-- what is kept shut, the exception classes by number -/
structure Gam where
  O : PySem.W.Frag → Hp → V → Nat → List V → Prop
  ob : ∀ {K H v vs}, WObj H v vs → O K H v 3 vs
  mono : ∀ {K H H' v n vs}, Same H H' → O K H v n vs → O K H' v n vs
  cls : Nat → Value
  P : Program
  w : World
  /-- the instance whose method runs -/
  self : Option Addr := none

/-! ### dicts whose keys are tuples -/
mutual
def nkD : D → Option NestedKey
  | .non => some .none
  | .bl b => some (.num (if b = true then 1 else 0))
  | .int i => some (.num i)
  | .str x => some (.text x)
  | .tup xs => (match nkDs xs with | some ks => some (.tup ks) | none => none)
  | .lst _ => none
  | .scr _ => none
  | .op _ _ => none
  | .dic _ _ => none
def nkDs : List D → Option (List NestedKey)
  | [] => some []
  | d :: ds => (match nkD d, nkDs ds with | some k, some ks => some (k :: ks) | _, _ => none)
end
/-- the object at a, as it is -/
def dO (a : Addr) (o : Obj) : HO := .ext fun h => h.get? a = some o
/-- a dict object: its keys, as nested keys and where they stand, its values -/
def DictX (P : Program) (w : World) (a : Addr) (o : Obj) (nks : List NestedKey) (kv vv : List V) : Prop :=
  (a == sysModules) = false ∧ kv.length ≤ 100000 ∧ ∃ es ep, ∃ xs : List (NestedKey × Addr × Value), o.ExactDict ∧ o.data = .dict es ep ∧ es.toList = xs.map (entryOfKey (nestedKind P w)) ∧ (xs.map (·.1)).Nodup ∧ nks = xs.map (·.1) ∧ (∀ k ∈ nks, k.depth ≤ 8) ∧ kv = xs.map (fun x => V.ref x.2.1) ∧ Vals vv (xs.map (·.2.2))

theorem noTab_dO {p : Addr} {o : Obj} : NoTab (dO p o) := fun _ z => nomatch z
theorem heap_of_size : ∀ n : Nat, ∃ h : Heap, h.objs.size = n
  | 0 => ⟨{}, rfl⟩
  | n + 1 => by
    obtain ⟨h, e⟩ := heap_of_size n
    exact ⟨h.push default, by rw [Heap.size_push, e]⟩
theorem codeO_dO {c : Addr} {q : Str} {o : Obj} : LamX.CodeO c q ≠ dO c o := fun z => by
  unfold dO LamX.CodeO at z
  have e := HO.ext.inj z
  obtain ⟨h, hs⟩ := heap_of_size c
  have key : ∀ sl : Array (Option Value), ({ cls := .none, data := .fields #[.none, .str q 0], slots := sl } : Obj) = o := fun sl => by
    have g := Heap.get?_push_size h (o := ({ cls := .none, data := .fields #[.none, .str q 0], slots := sl } : Obj)) rfl
    rw [hs] at g
    have w := congrFun e (h.push { cls := .none, data := .fields #[.none, .str q 0], slots := sl })
    have w2 : (h.push ({ cls := .none, data := .fields #[.none, .str q 0], slots := sl } : Obj)).get? c = some o := cast w ⟨_, _, 0, g, rfl, rfl⟩
    rw [g] at w2
    exact Option.some.inj w2
  have k1 := key #[]
  have k2 := key #[none]
  rw [← k2] at k1
  have := congrArg Obj.slots k1
  simp at this
theorem dO_inj {a : Addr} {o o' : Obj} (hf : o.isFreed = false) (z : dO a o = dO a o') : o = o' := by
  unfold dO at z
  have e := HO.ext.inj z
  obtain ⟨h, hs⟩ := heap_of_size a
  have g := Heap.get?_push_size h hf
  rw [hs] at g
  have w : (h.push o).get? a = some o' := cast (congrFun e (h.push o)) g
  rw [g] at w
  exact Option.some.inj w
mutual
inductive Rp (Γ : Gam) (K : PySem.W.Frag) (H : Hp) : V → D → Prop
  | non : Rp Γ K H .non .non
  | bl (b : Bool) : Rp Γ K H (.bl b) (.bl b)
  | int (i : Int) : Rp Γ K H (.int i) (.int i)
  | str (x : Str) : Rp Γ K H (.str x) (.str x)
  | tup {a : Addr} {xs : List V} {ds : List D} : SqT K H a xs → RpA Γ K H xs ds → Rp Γ K H (.ref a) (.tup ds)
  | lst {a : Addr} {xs : List V} {ds : List D} : H a = some (.lst xs) → RpA Γ K H xs ds → Rp Γ K H (.ref a) (.lst ds)
  | scr {a : Addr} {xs : List V} {ds : List D} : SqL K H a xs → RpA Γ K H xs ds → Rp Γ K H (.ref a) (.scr ds)
  | op {v : V} {n : Nat} {vs : List V} {ds : List D} : Γ.O K H v n vs → RpA Γ K H vs ds → Rp Γ K H v (.op n ds)
  | dic {a : Addr} {o : Obj} {nks : List NestedKey} {kv vv : List V} {ks vs : List D} : H a = some (dO a o) → DictX Γ.P Γ.w a o nks kv vv → nkDs ks = some nks → RpA Γ K H kv ks → RpA Γ K H vv vs → Rp Γ K H (.ref a) (.dic ks vs)
inductive RpA (Γ : Gam) (K : PySem.W.Frag) (H : Hp) : List V → List D → Prop
  | nil : RpA Γ K H [] []
  | cons {v : V} {vs : List V} {d : D} {ds : List D} : Rp Γ K H v d → RpA Γ K H vs ds → RpA Γ K H (v :: vs) (d :: ds)
end

theorem _root_.L2.Same.seqT {K : PySem.W.Frag} {H H' : Hp} {a : Addr} {xs : List V} (e : Same H H') (h : SqT K H a xs) : SqT K H' a xs := by
  rcases h with (h | ⟨o, h⟩) | h
  · exact .inl (.inl (e _ _ h))
  · exact .inl (.inr ⟨o, e _ _ h⟩)
  · exact .inr h
section
variable {Γ : Gam} {K : PySem.W.Frag} {H H' : Hp}
mutual
theorem Rp.mono (e : Same H H') : ∀ {v : V} {d : D}, Rp Γ K H v d → Rp Γ K H' v d
  | _, _, .non => .non
  | _, _, .bl b => .bl b
  | _, _, .int i => .int i
  | _, _, .str x => .str x
  | _, _, .tup h r => .tup (e.seqT h) (RpA.mono e r)
  | _, _, .lst h r => .lst (e _ _ h) (RpA.mono e r)
  | _, _, .scr h r => .scr (e.seq h) (RpA.mono e r)
  | _, _, .op h r => .op (Γ.mono e h) (RpA.mono e r)
  | _, _, .dic h x n r q => .dic (e _ _ h) x n (RpA.mono e r) (RpA.mono e q)
theorem RpA.mono (e : Same H H') : ∀ {vs : List V} {ds : List D}, RpA Γ K H vs ds → RpA Γ K H' vs ds
  | _, _, .nil => .nil
  | _, _, .cons h r => .cons (Rp.mono e h) (RpA.mono e r)
end
theorem RpA.length : ∀ {vs : List V} {ds : List D}, RpA Γ K H vs ds → vs.length = ds.length
  | _, _, .nil => rfl
  | _, _, .cons _ r => congrArg (· + 1) (RpA.length r)
theorem RpA.append : ∀ {vs ws : List V} {ds es : List D}, RpA Γ K H vs ds → RpA Γ K H ws es → RpA Γ K H (vs ++ ws) (ds ++ es)
  | _, _, _, _, .nil, h => h
  | _, _, _, _, .cons h r, q => .cons h (RpA.append r q)
theorem RpA.take : ∀ {vs : List V} {ds : List D} (n : Nat), RpA Γ K H vs ds → RpA Γ K H (vs.take n) (ds.take n)
  | _, _, 0, _ => .nil
  | _, _, _ + 1, .nil => .nil
  | _, _, n + 1, .cons h r => .cons h (RpA.take n r)
theorem RpA.drop : ∀ {vs : List V} {ds : List D} (n : Nat), RpA Γ K H vs ds → RpA Γ K H (vs.drop n) (ds.drop n)
  | _, _, 0, r => r
  | _, _, _ + 1, .nil => .nil
  | _, _, n + 1, .cons _ r => RpA.drop n r
theorem RpA.get : ∀ {vs : List V} {ds : List D} {i : Nat} {d : D}, RpA Γ K H vs ds → ds[i]? = some d → ∃ v, vs[i]? = some v ∧ Rp Γ K H v d
  | _, _, _, _, .nil, e => by simp at e
  | _, _, 0, _, .cons h _, e => by simp at e; subst e; exact ⟨_, rfl, h⟩
  | _, _, i + 1, _, .cons _ r, e => by
    obtain ⟨v, h1, h2⟩ := RpA.get (i := i) r (by simpa using e)
    exact ⟨v, by simpa using h1, h2⟩
theorem RpA.get' : ∀ {vs : List V} {ds : List D} {i : Nat} {v : V}, RpA Γ K H vs ds → vs[i]? = some v → ∃ d, ds[i]? = some d ∧ Rp Γ K H v d
  | _, _, _, _, .nil, e => by simp at e
  | _, _, 0, _, .cons h _, e => by simp at e; subst e; exact ⟨_, rfl, h⟩
  | _, _, i + 1, _, .cons _ r, e => by
    obtain ⟨v, h1, h2⟩ := RpA.get' (i := i) r (by simpa using e)
    exact ⟨v, by simpa using h1, h2⟩
theorem RpA.set {v : V} {d : D} (h : Rp Γ K H v d) : ∀ {vs : List V} {ds : List D} (i : Nat), RpA Γ K H vs ds → RpA Γ K H (vs.set i v) (ds.set i d)
  | _, _, _, .nil => .nil
  | _, _, 0, .cons _ r => .cons h r
  | _, _, i + 1, .cons q r => .cons q (RpA.set h i r)
theorem RpA.one {v : V} {d : D} (h : Rp Γ K H v d) : RpA Γ K H [v] [d] := .cons h .nil
end

/-! ### the frozen part of the heap, and how it grows -/
structure Ext (G H G' H' : Hp) : Prop where
  g : Same G G'
  s : Same G' H'
  k : ∀ b o, H b = some o → G b = none → (∀ ps, o ≠ .tbl ps) → H' b = some o ∧ G' b = none
  d : ∀ b, H' b = none → H b = none
  t : TabsOk G H → TabsOk G' H'
section
variable {G H G1 H1 G2 H2 : Hp} {p : Addr} {o : HO}
theorem Ext.refl (h : Same G H) : Ext G H G H := ⟨.refl _, h, fun _ _ a b _ => ⟨a, b⟩, fun _ h => h, id⟩
theorem Ext.trans (a : Ext G H G1 H1) (b : Ext G1 H1 G2 H2) : Ext G H G2 H2 :=
  ⟨a.g.trans b.g, b.s, fun c o h n t => let ⟨x, y⟩ := a.k c o h n t; b.k c o x y t, fun c h => a.d c (b.d c h), fun h => b.t (a.t h)⟩
theorem same_upd (h : H p = none) : Same H (upd H p o) := fun b x e => by
  rw [upd_ne (ne_of_none e h)]; exact e
theorem _root_.L2.Same.none (h : Same G H) (n : H p = none) : G p = none := by
  cases e : G p with
  | none => rfl
  | some o => rw [h _ _ e] at n; cases n
theorem _root_.L2.Same.upd2 (h : Same G H) : Same (upd G p o) (upd H p o) := fun b x e => by
  by_cases hb : b = p
  · subst hb; rw [upd_same] at e ⊢; exact e
  · rw [upd_ne hb] at e ⊢; exact h _ _ e
/-- a new object, frozen at once -/
theorem upd_none {q : Addr} (h : upd H p o q = none) : H q = none := by
  by_cases hq : q = p
  · subst hq; rw [upd_same] at h; cases h
  · rw [upd_ne hq] at h; exact h
theorem Ext.new (h : Same G H) (n : H p = none) (ho : NoTab o := by intro _ z; cases z) : Ext G H (upd G p o) (upd H p o) :=
  ⟨same_upd (h.none n), h.upd2, fun b x e g _ => by
    have hb : b ≠ p := ne_of_none e n
    rw [upd_ne hb, upd_ne hb]; exact ⟨e, g⟩, fun _ h => upd_none h, fun t => (t.ext (same_upd n)).put (h.none n) ho⟩
/-- a new object, private -/
theorem Ext.priv (h : Same G H) (n : H p = none) : Ext G H G (upd H p o) :=
  ⟨.refl _, h.trans (same_upd n), fun b x e g _ => by
    have hb : b ≠ p := ne_of_none e n
    rw [upd_ne hb]; exact ⟨e, g⟩, fun _ h => upd_none h, fun h => h.ext (same_upd n)⟩
end

/-! ### the slots -/
inductive SV where
  | val (d : D) | own (ds : List D) | dic (ks vs : List D) | obj (tg : Bool) (st : D) (es ls : List D)
def SV.pv : SV → Bool
  | .val _ => false
  | _ => true
abbrev En := List (Option SV)
/-- an instance of the class that is known, its state, its two lists -/
def ObjX (H : Hp) (p pe pl : Addr) (v : V) (us ws : List V) : Prop := (∃ C dx, TabN.wc = some C ∧ H p = some (.ins C dx [("state", v), ("earlier", .ref pe), ("later", .ref pl)])) ∧ H pe = some (.lst us) ∧ H pl = some (.lst ws) ∧ pe ≠ pl
/-- q is one of the two lists of the private instance in slot i -/
def Inn (H : Hp) (σ : L2.St) (ρ : En) (i : Nat) (q : Addr) : Prop := ∃ tg st es ls p C dx v pe pl, ρ[i]? = some (some (.obj tg st es ls)) ∧ σ[i]? = some (some (.ref p)) ∧ H p = some (.ins C dx [("state", v), ("earlier", .ref pe), ("later", .ref pl)]) ∧ (q = pe ∨ q = pl)
structure Rel (Γ : Gam) (K : PySem.W.Frag) (B : Hp × Hp) (G H : Hp) (σ : L2.St) (ρ : En) : Prop where
  ext : Ext B.1 B.2 G H
  val : ∀ {i : Nat} {d : D}, ρ[i]? = some (some (.val d)) → ∃ v, σ[i]? = some (some v) ∧ Rp Γ K G v d
  own : ∀ {i : Nat} {ds : List D}, ρ[i]? = some (some (.own ds)) → ∃ p vs, σ[i]? = some (some (.ref p)) ∧ B.2 p = none ∧ G p = none ∧ H p = some (.lst vs) ∧ RpA Γ K G vs ds
  dic : ∀ {i : Nat} {ks vs : List D}, ρ[i]? = some (some (.dic ks vs)) → ∃ p o nks kv vv, σ[i]? = some (some (.ref p)) ∧ B.2 p = none ∧ G p = none ∧ H p = some (dO p o) ∧ DictX Γ.P Γ.w p o nks kv vv ∧ nkDs ks = some nks ∧ RpA Γ K G kv ks ∧ RpA Γ K G vv vs
  obj : ∀ {i : Nat} {tg : Bool} {st : D} {es ls : List D}, ρ[i]? = some (some (.obj tg st es ls)) → ∃ p pe pl v us ws, σ[i]? = some (some (.ref p)) ∧ (tg = true → Γ.self = some p) ∧ (B.2 p = none ∧ G p = none) ∧ (B.2 pe = none ∧ G pe = none) ∧ (B.2 pl = none ∧ G pl = none) ∧ ObjX H p pe pl v us ws ∧ Rp Γ K G v st ∧ RpA Γ K G us es ∧ RpA Γ K G ws ls
  inn : ∀ {i : Nat} {q : Addr}, Inn H σ ρ i q → (∀ {j : Nat} {s : SV}, ρ[j]? = some (some s) → s.pv = true → σ[j]? ≠ some (some (.ref q))) ∧ ∀ {j : Nat}, Inn H σ ρ j q → i = j
  inj : ∀ {i j : Nat} {s t : SV} {p : Addr}, ρ[i]? = some (some s) → ρ[j]? = some (some t) → s.pv = true → t.pv = true → σ[i]? = some (some (.ref p)) → σ[j]? = some (some (.ref p)) → i = j
  len : ρ.length = σ.length
  tb : TabsOk B.1 B.2
section
variable {Γ : Gam} {K : PySem.W.Frag} {B : Hp × Hp} {G H G' H' : Hp} {σ : L2.St} {ρ : En}
theorem Rel.same (r : Rel Γ K B G H σ ρ) : Same G H := r.ext.s
theorem Rel.tab (r : Rel Γ K B G H σ ρ) : TabsOk G H := r.ext.t r.tb
theorem ObjX.ext {p pe pl : Addr} {v : V} {us ws : List V} (o : ObjX H p pe pl v us ws) (e : Ext G H G' H') (g1 : G p = none) (g2 : G pe = none) (g3 : G pl = none) : ObjX H' p pe pl v us ws ∧ G' p = none ∧ G' pe = none ∧ G' pl = none := by
  obtain ⟨⟨C, dx, c1, c2⟩, o2, o3, o4⟩ := o
  obtain ⟨a1, b1⟩ := e.k _ _ c2 g1 (fun _ z => nomatch z)
  obtain ⟨a2, b2⟩ := e.k _ _ o2 g2 (fun _ z => nomatch z)
  obtain ⟨a3, b3⟩ := e.k _ _ o3 g3 (fun _ z => nomatch z)
  exact ⟨⟨⟨C, dx, c1, a1⟩, a2, a3, o4⟩, b1, b2, b3⟩
theorem inn_back (r : Rel Γ K B G H σ ρ) {i : Nat} {q : Addr} (hk : ∀ tg st es ls p u, ρ[i]? = some (some (.obj tg st es ls)) → σ[i]? = some (some (.ref p)) → H p = some u → H' p = some u) (h : Inn H' σ ρ i q) : Inn H σ ρ i q := by
  obtain ⟨tg, st, es, ls, p, C, dx, v, pe, pl, h1, h2, h3, h4⟩ := h
  obtain ⟨p0, pe0, pl0, v0, us, ws, x1, x2, x3, x4, x5, ⟨⟨C0, dx0, c1, c2⟩, o2, o3, o4⟩, x7⟩ := r.obj h1
  rw [x1] at h2
  cases h2
  have z := hk _ _ _ _ _ _ h1 x1 c2
  rw [z] at h3
  exact ⟨tg, st, es, ls, _, C, dx, v, pe, pl, h1, x1, by rw [c2]; exact h3, h4⟩
theorem Rel.go (r : Rel Γ K B G H σ ρ) (e : Ext G H G' H') : Rel Γ K B G' H' σ ρ := by
  have back : ∀ {i : Nat} {q : Addr}, Inn H' σ ρ i q → Inn H σ ρ i q := fun {i q} h => inn_back r (fun tg st es ls p u h1 h2 h3 => by
    obtain ⟨p0, pe0, pl0, v0, us, ws, x1, x2, x3, x4, x5, ⟨⟨C0, dx0, c1, c2⟩, o2, o3, o4⟩, x7⟩ := r.obj h1
    rw [x1] at h2
    cases h2
    rw [c2] at h3
    cases h3
    exact (e.k _ _ c2 x3.2 (fun _ z => nomatch z)).1) h
  refine ⟨r.ext.trans e, fun h => ?_, fun h => ?_, fun h => ?_, fun h => ?_, fun h => ⟨(r.inn (back h)).1, fun hj => (r.inn (back h)).2 (back hj)⟩, r.inj, r.len, r.tb⟩
  · obtain ⟨v, h1, h2⟩ := r.val h
    exact ⟨v, h1, h2.mono e.g⟩
  · obtain ⟨p, vs, h1, h2, h3, h4, h5⟩ := r.own h
    obtain ⟨q1, q2⟩ := e.k p _ h4 h3 (fun _ z => nomatch z)
    exact ⟨p, vs, h1, h2, q2, q1, h5.mono e.g⟩
  · obtain ⟨p, o, nks, kv, vv, h1, h2, h3, h4, h5, h6, h7, h8⟩ := r.dic h
    obtain ⟨q1, q2⟩ := e.k p _ h4 h3 (fun _ z => nomatch z)
    exact ⟨p, o, nks, kv, vv, h1, h2, q2, q1, h5, h6, h7.mono e.g, h8.mono e.g⟩
  · obtain ⟨p, pe, pl, v, us, ws, h1, h2, h3, h4, h5, h6, h7, h8, h9⟩ := r.obj h
    obtain ⟨y1, y2, y3, y4⟩ := h6.ext e h3.2 h4.2 h5.2
    exact ⟨p, pe, pl, v, us, ws, h1, h2, ⟨h3.1, y2⟩, ⟨h4.1, y3⟩, ⟨h5.1, y4⟩, y1, h7.mono e.g, h8.mono e.g, h9.mono e.g⟩
theorem set_at {α : Type} {xs : List (Option α)} {i j : Nat} {y : Option α} {x : α} (h : (xs.set i y)[j]? = some (some x)) : (i = j ∧ y = some x ∧ i < xs.length) ∨ (i ≠ j ∧ xs[j]? = some (some x)) := by
  by_cases hij : i = j
  · subst hij
    by_cases hl : i < xs.length
    · rw [List.getElem?_set_self hl] at h
      exact .inl ⟨rfl, Option.some.inj h, hl⟩
    · rw [List.getElem?_eq_none (by simpa using hl)] at h; cases h
  · rw [List.getElem?_set_ne hij] at h
    exact .inr ⟨hij, h⟩
theorem inn_set {i j : Nat} {x : Option V} {y : Option SV} {q : Addr} (hy : ∀ tg st es ls, y ≠ some (.obj tg st es ls)) (h : Inn H (σ.set i x) (ρ.set i y) j q) : i ≠ j ∧ Inn H σ ρ j q := by
  obtain ⟨tg, st, es, ls, p, C, dx, v, pe, pl, h1, h2, h3, h4⟩ := h
  rcases set_at h1 with ⟨_, z, _⟩ | ⟨n, z⟩
  · exact absurd z (hy tg st es ls)
  · rw [List.getElem?_set_ne n] at h2
    exact ⟨n, tg, st, es, ls, p, C, dx, v, pe, pl, z, h2, h3, h4⟩
theorem Rel.inn_set {i : Nat} {x : Option V} {y : Option SV} (r : Rel Γ K B G H σ ρ) (hy : ∀ tg st es ls, y ≠ some (.obj tg st es ls)) (hp : ∀ s, y = some s → s.pv = true → ∀ p, x = some (.ref p) → ∀ j, ¬ Inn H σ ρ j p) {j : Nat} {q : Addr} (h : Inn H (σ.set i x) (ρ.set i y) j q) :
    (∀ {k : Nat} {s : SV}, (ρ.set i y)[k]? = some (some s) → s.pv = true → (σ.set i x)[k]? ≠ some (some (.ref q))) ∧ ∀ {k : Nat}, Inn H (σ.set i x) (ρ.set i y) k q → j = k := by
  obtain ⟨n, h'⟩ := VL.inn_set hy h
  refine ⟨fun {k s} hk hs z => ?_, fun hk => (r.inn h').2 (VL.inn_set hy hk).2⟩
  rcases set_at hk with ⟨e, z1, hl⟩ | ⟨n1, z1⟩
  · subst e
    rw [List.getElem?_set_self (by rw [← r.len]; exact hl)] at z
    exact hp s z1 hs q (Option.some.inj z) j h'
  · rw [List.getElem?_set_ne n1] at z
    exact (r.inn h').1 z1 hs z
/-- a slot is set to a value -/
theorem Rel.set {i : Nat} {v : V} {d : D} (r : Rel Γ K B G H σ ρ) (h : Rp Γ K G v d) : Rel Γ K B G H (σ.set i (some v)) (ρ.set i (some (.val d))) := by
  refine ⟨r.ext, fun {j e} hj => ?_, fun {j es} hj => ?_, fun {j ks vs} hj => ?_, fun {j tg st es ls} hj => ?_, r.inn_set (by intro _ _ _ _ z; cases z) (by intro s z hs; cases z; cases hs), fun {j l s t p} h1 h2 p1 p2 h3 h4 => ?_, by simpa using r.len, r.tb⟩
  · rcases set_at hj with ⟨e, z, hl⟩ | ⟨n, q⟩
    · subst e; cases z
      exact ⟨v, List.getElem?_set_self (by rw [← r.len]; exact hl), h⟩
    · rw [List.getElem?_set_ne n]; exact r.val q
  · rcases set_at hj with ⟨e, z, hl⟩ | ⟨n, q⟩
    · cases z
    · rw [List.getElem?_set_ne n]; exact r.own q
  · rcases set_at hj with ⟨e, z, hl⟩ | ⟨n, q⟩
    · cases z
    · rw [List.getElem?_set_ne n]; exact r.dic q
  · rcases set_at hj with ⟨e, z, hl⟩ | ⟨n, q⟩
    · cases z
    · rw [List.getElem?_set_ne n]; exact r.obj q
  · rcases set_at h1 with ⟨e, z, hl⟩ | ⟨n1, q1⟩
    · cases z; cases p1
    · rcases set_at h2 with ⟨e, z, hl⟩ | ⟨n2, q2⟩
      · cases z; cases p2
      · rw [List.getElem?_set_ne n1] at h3
        rw [List.getElem?_set_ne n2] at h4
        exact r.inj q1 q2 p1 p2 h3 h4
/-- a slot is forgotten -/
theorem Rel.unset {i : Nat} {x : Option V} (r : Rel Γ K B G H σ ρ) : Rel Γ K B G H (σ.set i x) (ρ.set i none) := by
  have ne : ∀ {j : Nat} {s : SV}, (ρ.set i none)[j]? = some (some s) → i ≠ j ∧ ρ[j]? = some (some s) := fun {j s} hj => by
    rcases set_at hj with ⟨_, z, _⟩ | q
    · cases z
    · exact q
  refine ⟨r.ext, fun {j e} hj => ?_, fun {j es} hj => ?_, fun {j ks vs} hj => ?_, fun {j tg st es ls} hj => ?_, r.inn_set (by intro _ _ _ _ z; cases z) (by intro s z hs; cases z), fun {j l s t p} h1 h2 p1 p2 h3 h4 => ?_, by simpa using r.len, r.tb⟩
  · obtain ⟨n, q⟩ := ne hj
    rw [List.getElem?_set_ne n]; exact r.val q
  · obtain ⟨n, q⟩ := ne hj
    rw [List.getElem?_set_ne n]; exact r.own q
  · obtain ⟨n, q⟩ := ne hj
    rw [List.getElem?_set_ne n]; exact r.dic q
  · obtain ⟨n, q⟩ := ne hj
    rw [List.getElem?_set_ne n]; exact r.obj q
  · obtain ⟨n1, q1⟩ := ne h1
    obtain ⟨n2, q2⟩ := ne h2
    rw [List.getElem?_set_ne n1] at h3
    rw [List.getElem?_set_ne n2] at h4
    exact r.inj q1 q2 p1 p2 h3 h4
/-- p is no private thing -/
def Frh (H : Hp) (σ : L2.St) (ρ : En) (p : Addr) : Prop := (∀ (j : Nat) (s : SV), ρ[j]? = some (some s) → s.pv = true → σ[j]? ≠ some (some (.ref p))) ∧ ∀ j, ¬ Inn H σ ρ j p
/-- a slot is set to a new private thing -/
theorem Rel.setPv {i : Nat} {p : Addr} {s0 : SV} (r : Rel Γ K B G H σ ρ)
    (hown : ∀ ds, s0 = .own ds → ∃ vs, B.2 p = none ∧ G p = none ∧ H p = some (.lst vs) ∧ RpA Γ K G vs ds)
    (hdic : ∀ ks vs, s0 = .dic ks vs → ∃ o nks kv vv, B.2 p = none ∧ G p = none ∧ H p = some (dO p o) ∧ DictX Γ.P Γ.w p o nks kv vv ∧ nkDs ks = some nks ∧ RpA Γ K G kv ks ∧ RpA Γ K G vv vs) (hv : s0.pv = true) (hn2 : ∀ tg st es ls, s0 ≠ .obj tg st es ls)
    (fr : Frh H σ ρ p) : Rel Γ K B G H (σ.set i (some (.ref p))) (ρ.set i (some s0)) := by
  refine ⟨r.ext, fun {j e} hj => ?_, fun {j es} hj => ?_, fun {j ks vs} hj => ?_, fun {j tg st es ls} hj => ?_, r.inn_set (fun tg st es ls z => hn2 tg st es ls (Option.some.inj z)) (fun s z hs p' zp => by cases zp; exact fr.2), fun {j l s t q} h1 h2 p1 p2 h3 h4 => ?_, by simpa using r.len, r.tb⟩
  · rcases set_at hj with ⟨_, z, _⟩ | ⟨n, q⟩
    · cases z; cases hv
    · rw [List.getElem?_set_ne n]; exact r.val q
  · rcases set_at hj with ⟨e, z, hl⟩ | ⟨n, q⟩
    · subst e
      obtain ⟨vs, a1, a2, a3, a4⟩ := hown es (Option.some.inj z)
      exact ⟨p, vs, List.getElem?_set_self (by rw [← r.len]; exact hl), a1, a2, a3, a4⟩
    · rw [List.getElem?_set_ne n]; exact r.own q
  · rcases set_at hj with ⟨e, z, hl⟩ | ⟨n, q⟩
    · subst e
      obtain ⟨o, nks, kv, vv, a⟩ := hdic ks vs (Option.some.inj z)
      exact ⟨p, o, nks, kv, vv, List.getElem?_set_self (by rw [← r.len]; exact hl), a⟩
    · rw [List.getElem?_set_ne n]; exact r.dic q
  · rcases set_at hj with ⟨_, z, _⟩ | ⟨n, q⟩
    · exact absurd (Option.some.inj z) (hn2 tg st es ls)
    · rw [List.getElem?_set_ne n]; exact r.obj q
  · rcases set_at h1 with ⟨e1, z1, l1⟩ | ⟨n1, q1⟩
    · subst e1
      rcases set_at h2 with ⟨e2, _, _⟩ | ⟨n2, q2⟩
      · exact e2
      · rw [List.getElem?_set_self (by rw [← r.len]; exact l1)] at h3
        cases h3
        rw [List.getElem?_set_ne n2] at h4
        exact absurd h4 (fr.1 _ _ q2 p2)
    · rw [List.getElem?_set_ne n1] at h3
      rcases set_at h2 with ⟨e2, _, l2⟩ | ⟨n2, q2⟩
      · subst e2
        rw [List.getElem?_set_self (by rw [← r.len]; exact l2)] at h4
        cases h4
        exact absurd h3 (fr.1 _ _ q1 p1)
      · rw [List.getElem?_set_ne n2] at h4
        exact r.inj q1 q2 p1 p2 h3 h4
theorem Rel.setOwn {i : Nat} {p : Addr} {vs : List V} {ds : List D} (r : Rel Γ K B G H σ ρ) (hB : B.2 p = none) (hG : G p = none) (hH : H p = some (.lst vs)) (h : RpA Γ K G vs ds)
    (fr : Frh H σ ρ p) : Rel Γ K B G H (σ.set i (some (.ref p))) (ρ.set i (some (.own ds))) :=
  r.setPv (fun es e => by cases e; exact ⟨vs, hB, hG, hH, h⟩) (fun _ _ e => nomatch e) rfl (fun _ _ _ _ z => nomatch z) fr
theorem Rel.setDic {i : Nat} {p : Addr} {o : Obj} {nks : List NestedKey} {kv vv : List V} {ks vs : List D} (r : Rel Γ K B G H σ ρ) (hB : B.2 p = none) (hG : G p = none) (hH : H p = some (dO p o)) (x : DictX Γ.P Γ.w p o nks kv vv) (hn : nkDs ks = some nks) (h1 : RpA Γ K G kv ks) (h2 : RpA Γ K G vv vs)
    (fr : Frh H σ ρ p) : Rel Γ K B G H (σ.set i (some (.ref p))) (ρ.set i (some (.dic ks vs))) :=
  r.setPv (fun _ e => nomatch e) (fun _ _ e => by cases e; exact ⟨o, nks, kv, vv, hB, hG, hH, x, hn, h1, h2⟩) rfl (fun _ _ _ _ z => nomatch z) fr
/-- what an inner list is -/
theorem Rel.inner {i : Nat} {q : Addr} (r : Rel Γ K B G H σ ρ) (h : Inn H σ ρ i q) : ∃ us, H q = some (.lst us) ∧ B.2 q = none ∧ G q = none := by
  obtain ⟨tg, st, es, ls, p, C, dx, v, pe, pl, h1, h2, h3, h4⟩ := h
  obtain ⟨p0, pe0, pl0, v0, us, ws, x1, x2, x3, x4, x5, ⟨⟨C0, dx0, c1, c2⟩, o2, o3, o4⟩, x7⟩ := r.obj h1
  rw [x1] at h2
  cases h2
  rw [c2] at h3
  cases h3
  rcases h4 with rfl | rfl
  · exact ⟨us, o2, x4⟩
  · exact ⟨ws, o3, x5⟩
/-- a new address is in no private slot -/
theorem Rel.fresh0 {p : Addr} (r : Rel Γ K B G H σ ρ) (n : H p = none) : Frh H σ ρ p := by
  refine ⟨fun j s hj hp z => ?_, fun j h => ?_⟩
  · cases s with
    | val d => cases hp
    | own ds =>
      obtain ⟨q, vs, x1, x2, x3, x4, x5⟩ := r.own hj
      rw [x1] at z
      cases z
      rw [n] at x4
      cases x4
    | dic ks vs =>
      obtain ⟨q, o, nks, kv, vv, x1, x2, x3, x4, x5⟩ := r.dic hj
      rw [x1] at z
      cases z
      rw [n] at x4
      cases x4
    | obj tg st es ls =>
      obtain ⟨p0, pe0, pl0, v0, us, ws, x1, x2, x3, x4, x5, ⟨⟨C0, dx0, c1, c2⟩, o2, o3, o4⟩, x7⟩ := r.obj hj
      rw [x1] at z
      cases z
      rw [n] at c2
      cases c2
  · obtain ⟨u, h1, _⟩ := r.inner h
    rw [n] at h1
    cases h1
theorem Rel.fresh {p : Addr} {G1 H1 : Hp} (r : Rel Γ K B G H σ ρ) (n : H p = none) (e : Ext G H G1 H1) : Frh H1 σ ρ p := by
  obtain ⟨a, b⟩ := r.fresh0 n
  refine ⟨a, fun j h => b j (inn_back r (fun tg st es ls p u h1 h2 h3 => ?_) h)⟩
  obtain ⟨p0, pe0, pl0, v0, us, ws, x1, x2, x3, x4, x5, ⟨⟨C0, dx0, c1, c2⟩, o2, o3, o4⟩, x7⟩ := r.obj h1
  rw [x1] at h2
  cases h2
  rw [c2] at h3
  cases h3
  exact (e.k _ _ c2 x3.2 (fun _ z => nomatch z)).1
/-- a private thing is changed -/
theorem Rel.mutPv {i : Nat} {p : Addr} {s0 s1 : SV} {u : HO} (r : Rel Γ K B G H σ ρ) (hi : ρ[i]? = some (some s0)) (hv0 : s0.pv = true) (hs : σ[i]? = some (some (.ref p))) (hB : B.2 p = none) (hG : G p = none) {x0 : HO} (hx : H p = some x0) (hnt : NoTab x0) (hv : s1.pv = true)
    (hown : ∀ ds, s1 = .own ds → ∃ vs, u = .lst vs ∧ RpA Γ K G vs ds) (hdic : ∀ ks vs, s1 = .dic ks vs → ∃ o nks kv vv, u = dO p o ∧ DictX Γ.P Γ.w p o nks kv vv ∧ nkDs ks = some nks ∧ RpA Γ K G kv ks ∧ RpA Γ K G vv vs) (hn0 : ∀ tg st es ls, s0 ≠ .obj tg st es ls := by intro _ _ _ _ z; cases z) (hn1 : ∀ tg st es ls, s1 ≠ .obj tg st es ls := by intro _ _ _ _ z; cases z) :
    Rel Γ K B G (upd H p u) σ (ρ.set i (some s1)) := by
  have nG : ∀ b x, G b = some x → b ≠ p := fun b x e => ne_of_none e hG
  have ow : ∀ {j : Nat} {s : SV}, (ρ.set i (some s1))[j]? = some (some s) → s.pv = true → ∃ s', ρ[j]? = some (some s') ∧ s'.pv = true := fun {j s} hj hp => by
    rcases set_at hj with ⟨e, z, _⟩ | ⟨n, q⟩
    · subst e; exact ⟨s0, hi, hv0⟩
    · exact ⟨s, q, hp⟩
  have pne : ∀ {j : Nat} {p' : Addr} {s : SV}, i ≠ j → ρ[j]? = some (some s) → s.pv = true → σ[j]? = some (some (.ref p')) → p' ≠ p := fun {j p' s} n q hp x1 z => by
    subst z
    exact n (r.inj hi q hv0 hp hs x1)
  have back : ∀ {j : Nat} {q : Addr}, Inn (upd H p u) σ (ρ.set i (some s1)) j q → i ≠ j ∧ Inn H σ ρ j q := fun {j q} ⟨tg, st, es, ls, p', C, dx, v, pe, pl, h1, h2, h3, h4⟩ => by
    rcases set_at h1 with ⟨_, z, _⟩ | ⟨n, z⟩
    · exact absurd (Option.some.inj z) (hn1 tg st es ls)
    · rw [upd_ne (pne n z rfl h2)] at h3
      exact ⟨n, tg, st, es, ls, p', C, dx, v, pe, pl, z, h2, h3, h4⟩
  refine ⟨⟨r.ext.g, fun b x e => ?_, fun b x e g t => ?_, fun b h => r.ext.d b (upd_none h), fun h => (r.ext.t h).upd hx hnt⟩, fun {j e} hj => ?_, fun {j fs} hj => ?_, fun {j ks vs} hj => ?_, fun {j tg st es ls} hj => ?_, fun {j q} h => ⟨fun {k s} hk hp z => ?_, fun hk => (r.inn (back h).2).2 (back hk).2⟩, fun {j l s t q} h1 h2 p1 p2 h3 h4 => ?_, by simpa using r.len, r.tb⟩
  · rw [upd_ne (nG b x e)]; exact r.ext.s _ _ e
  · have hb : b ≠ p := fun z => by subst z; rw [hB] at e; cases e
    rw [upd_ne hb]; exact r.ext.k b x e g t
  · rcases set_at hj with ⟨_, z, _⟩ | ⟨n, q⟩
    · cases z; cases hv
    · exact r.val q
  · rcases set_at hj with ⟨e, z, hl⟩ | ⟨n, q⟩
    · subst e
      obtain ⟨vs, e, h⟩ := hown fs (Option.some.inj z)
      exact ⟨p, vs, hs, hB, hG, by rw [upd_same, e], h⟩
    · obtain ⟨q', vs', x1, x2, x3, x4, x5⟩ := r.own q
      have hne : q' ≠ p := fun z => by
        subst z
        exact n (r.inj hi q hv0 rfl hs x1)
      exact ⟨q', vs', x1, x2, x3, by rw [upd_ne hne]; exact x4, x5⟩
  · rcases set_at hj with ⟨e, z, hl⟩ | ⟨n, q⟩
    · subst e
      obtain ⟨o, nks, kv, vv, e, h⟩ := hdic ks vs (Option.some.inj z)
      exact ⟨p, o, nks, kv, vv, hs, hB, hG, by rw [upd_same, e], h⟩
    · obtain ⟨q', o, nks, kv, vv, x1, x2, x3, x4, x5⟩ := r.dic q
      have hne : q' ≠ p := fun z => by
        subst z
        exact n (r.inj hi q hv0 rfl hs x1)
      exact ⟨q', o, nks, kv, vv, x1, x2, x3, by rw [upd_ne hne]; exact x4, x5⟩
  · rcases set_at hj with ⟨_, z, _⟩ | ⟨n, q⟩
    · exact absurd (Option.some.inj z) (hn1 tg st es ls)
    · obtain ⟨p0, pe0, pl0, v0, us, ws, x1, x2, x3, x4, x5, ⟨⟨C0, dx0, c1, c2⟩, o2, o3, o4⟩, x7⟩ := r.obj q
      have e1 : p0 ≠ p := pne n q rfl x1
      have e2 : pe0 ≠ p := fun z => by
        subst z
        exact (r.inn ⟨tg, st, es, ls, p0, C0, dx0, v0, pe0, pl0, q, x1, c2, .inl rfl⟩).1 hi hv0 hs
      have e3 : pl0 ≠ p := fun z => by
        subst z
        exact (r.inn ⟨tg, st, es, ls, p0, C0, dx0, v0, pe0, pl0, q, x1, c2, .inr rfl⟩).1 hi hv0 hs
      exact ⟨p0, pe0, pl0, v0, us, ws, x1, x2, x3, x4, x5, ⟨⟨C0, dx0, c1, by rw [upd_ne e1]; exact c2⟩, by rw [upd_ne e2]; exact o2, by rw [upd_ne e3]; exact o3, o4⟩, x7⟩
  · obtain ⟨s', o1, v1⟩ := ow hk hp
    exact (r.inn (back h).2).1 o1 v1 z
  · obtain ⟨_, o1, v1⟩ := ow h1 p1
    obtain ⟨_, o2, v2⟩ := ow h2 p2
    exact r.inj o1 o2 v1 v2 h3 h4
theorem Rel.mut {i : Nat} {p : Addr} {ds : List D} {vs : List V} {ws : List V} {es : List D} (r : Rel Γ K B G H σ ρ) (hi : ρ[i]? = some (some (.own ds))) (hs : σ[i]? = some (some (.ref p))) (hB : B.2 p = none) (hG : G p = none) (hp : H p = some (.lst vs)) (h : RpA Γ K G ws es) :
    Rel Γ K B G (upd H p (.lst ws)) σ (ρ.set i (some (.own es))) :=
  r.mutPv hi rfl hs hB hG hp noTab_lst rfl (fun fs e => by cases e; exact ⟨ws, rfl, h⟩) (fun _ _ e => nomatch e)
end
/-- a private thing becomes a value -/
def frzS : SV → SV
  | .val d => .val d
  | .own ds => .val (.lst ds)
  | .dic ks vs => .val (.dic ks vs)
  | .obj _ st es ls => .val (.op 3 [st, .lst es, .lst ls])
def frz (ρ : En) (i : Nat) : En := match ρ[i]? with
  | some (some (.own ds)) => ρ.set i (some (.val (.lst ds)))
  | some (some (.dic ks vs)) => ρ.set i (some (.val (.dic ks vs)))
  | some (some (.obj _ st es ls)) => ρ.set i (some (.val (.op 3 [st, .lst es, .lst ls])))
  | _ => ρ
theorem Rel.frzPv {Γ : Gam} {K : PySem.W.Frag} {B : Hp × Hp} {G H : Hp} {σ : L2.St} {ρ : En} {i : Nat} {s0 : SV} {p : Addr} {u : HO} {d : D} (r : Rel Γ K B G H σ ρ) (hi : ρ[i]? = some (some s0)) (hv0 : s0.pv = true) (h1 : σ[i]? = some (some (.ref p))) (h2 : B.2 p = none) (h3 : G p = none) (h4 : H p = some u)
    (hd : Rp Γ K (upd G p u) (.ref p) d) (hu : NoTab u := by intro _ z; cases z) : ∃ G', Same G G' ∧ Rel Γ K B G' H σ (ρ.set i (some (.val d))) := by
  have sg : Same G (upd G p u) := same_upd h3
  have sH : Same (upd G p u) H := fun b x e => by
    by_cases hb : b = p
    · subst hb; rw [upd_same] at e; rw [h4]; exact e
    · rw [upd_ne hb] at e; exact r.same _ _ e
  have ne : ∀ {j : Nat} {q' : Addr} {s : SV}, i ≠ j → ρ[j]? = some (some s) → s.pv = true → σ[j]? = some (some (.ref q')) → q' ≠ p := fun {j q' s} n q hp x1 z => by
    subst z
    exact n (r.inj hi q hv0 hp h1 x1)
  have n2 : ∀ {j : Nat} {q : Addr}, Inn H σ ρ j q → q ≠ p := fun h z => by
    subst z
    exact (r.inn h).1 hi hv0 h1
  refine ⟨upd G p u, sg, ⟨r.ext.g.trans sg, sH, fun b x e g t => ?_, r.ext.d, fun t => (r.ext.t t).put h3 hu⟩, fun {j e} hj => ?_, fun {j fs} hj => ?_, fun {j ks vs} hj => ?_, fun {j tg st es ls} hj => ?_, fun {j q} h => ?_, fun {j l s t q} q1 q2 p1 p2 q3 q4 => ?_, by simpa using r.len, r.tb⟩
  · have hb : b ≠ p := fun z => by subst z; rw [h2] at e; cases e
    rw [upd_ne hb]; exact r.ext.k b x e g t
  · rcases set_at hj with ⟨z1, z2, _⟩ | ⟨n, q⟩
    · subst z1; cases z2
      exact ⟨.ref p, h1, hd⟩
    · obtain ⟨v, x1, x2⟩ := r.val q
      exact ⟨v, x1, x2.mono sg⟩
  · rcases set_at hj with ⟨z1, z2, _⟩ | ⟨n, q⟩
    · cases z2
    · obtain ⟨q', vs', x1, x2, x3, x4, x5⟩ := r.own q
      exact ⟨q', vs', x1, x2, by rw [upd_ne (ne n q rfl x1)]; exact x3, x4, x5.mono sg⟩
  · rcases set_at hj with ⟨z1, z2, _⟩ | ⟨n, q⟩
    · cases z2
    · obtain ⟨q', o, nks, kv, vv, x1, x2, x3, x4, x5, x6, x7, x8⟩ := r.dic q
      exact ⟨q', o, nks, kv, vv, x1, x2, by rw [upd_ne (ne n q rfl x1)]; exact x3, x4, x5, x6, x7.mono sg, x8.mono sg⟩
  · rcases set_at hj with ⟨z1, z2, _⟩ | ⟨n, q⟩
    · cases z2
    · obtain ⟨p0, pe0, pl0, v0, us, ws, x1, x2, x3, x4, x5, ⟨⟨C0, dx0, c1, c2⟩, o2, o3, o4⟩, x7, x8, x9⟩ := r.obj q
      exact ⟨p0, pe0, pl0, v0, us, ws, x1, x2, ⟨x3.1, by rw [upd_ne (ne n q rfl x1)]; exact x3.2⟩, ⟨x4.1, by rw [upd_ne (n2 ⟨tg, st, es, ls, p0, C0, dx0, v0, pe0, pl0, q, x1, c2, .inl rfl⟩)]; exact x4.2⟩, ⟨x5.1, by rw [upd_ne (n2 ⟨tg, st, es, ls, p0, C0, dx0, v0, pe0, pl0, q, x1, c2, .inr rfl⟩)]; exact x5.2⟩, ⟨⟨C0, dx0, c1, c2⟩, o2, o3, o4⟩, x7.mono sg, x8.mono sg, x9.mono sg⟩
  · have bk : ∀ {k : Nat}, Inn H σ (ρ.set i (some (.val d))) k q → Inn H σ ρ k q := fun {k} ⟨tg, st, es, ls, p', C, dx, v, pe, pl, a1, a2, a3, a4⟩ => by
      rcases set_at a1 with ⟨_, z, _⟩ | ⟨n, z⟩
      · cases z
      · exact ⟨tg, st, es, ls, p', C, dx, v, pe, pl, z, a2, a3, a4⟩
    refine ⟨fun {k s} hk hp z => ?_, fun hk => (r.inn (bk h)).2 (bk hk)⟩
    rcases set_at hk with ⟨_, z2, _⟩ | ⟨_, o1⟩
    · cases z2; cases hp
    · exact (r.inn (bk h)).1 o1 hp z
  · rcases set_at q1 with ⟨_, z, _⟩ | ⟨_, o1⟩
    · cases z; cases p1
    rcases set_at q2 with ⟨_, z, _⟩ | ⟨_, o2⟩
    · cases z; cases p2
    exact r.inj o1 o2 p1 p2 q3 q4
/-- a private instance is frozen -/
theorem Rel.frzO {Γ : Gam} {K : PySem.W.Frag} {B : Hp × Hp} {G H : Hp} {σ : L2.St} {ρ : En} {i : Nat} {tg : Bool} {st : D} {es ls : List D} (r : Rel Γ K B G H σ ρ) (hi : ρ[i]? = some (some (.obj tg st es ls))) : ∃ G', Same G G' ∧ Rel Γ K B G' H σ (ρ.set i (some (.val (.op 3 [st, .lst es, .lst ls])))) := by
  obtain ⟨p, pe, pl, v, us, ws, h1, h2, h3, h4, h5, ⟨⟨C, dx, c1, c2⟩, o2, o3, o4⟩, h7, h8, h9⟩ := r.obj hi
  have ie : Inn H σ ρ i pe := ⟨tg, st, es, ls, p, C, dx, v, pe, pl, hi, h1, c2, .inl rfl⟩
  have il : Inn H σ ρ i pl := ⟨tg, st, es, ls, p, C, dx, v, pe, pl, hi, h1, c2, .inr rfl⟩
  let G' : Hp := fun b => if b = p ∨ b = pe ∨ b = pl then H b else G b
  have gA : ∀ {b}, (b = p ∨ b = pe ∨ b = pl) → G' b = H b := fun h => if_pos h
  have gN : ∀ {b}, ¬ (b = p ∨ b = pe ∨ b = pl) → G' b = G b := fun h => if_neg h
  have g0 : ∀ {b}, (b = p ∨ b = pe ∨ b = pl) → G b = none ∧ B.2 b = none ∧ ∀ ps, H b ≠ some (.tbl ps) := fun {b} h => by
    rcases h with rfl | rfl | rfl
    · exact ⟨h3.2, h3.1, fun ps z => by rw [c2] at z; cases z⟩
    · exact ⟨h4.2, h4.1, fun ps z => by rw [o2] at z; cases z⟩
    · exact ⟨h5.2, h5.1, fun ps z => by rw [o3] at z; cases z⟩
  have sg : Same G G' := fun b x e => by
    rw [gN fun z => by rw [(g0 z).1] at e; cases e]; exact e
  have sH : Same G' H := fun b x e => by
    by_cases hb : b = p ∨ b = pe ∨ b = pl
    · rw [gA hb] at e; exact e
    · rw [gN hb] at e; exact r.same _ _ e
  have ne : ∀ {j : Nat} {q' : Addr} {s : SV}, i ≠ j → ρ[j]? = some (some s) → s.pv = true → σ[j]? = some (some (.ref q')) → ¬ (q' = p ∨ q' = pe ∨ q' = pl) := fun {j q' s} n q hp x1 z => by
    rcases z with rfl | rfl | rfl
    · exact n (r.inj hi q rfl hp h1 x1)
    · exact (r.inn ie).1 q hp x1
    · exact (r.inn il).1 q hp x1
  have n2 : ∀ {j : Nat} {q : Addr}, i ≠ j → Inn H σ ρ j q → ¬ (q = p ∨ q = pe ∨ q = pl) := fun {j q} n h z => by
    rcases z with rfl | rfl | rfl
    · exact (r.inn h).1 hi rfl h1
    · exact n ((r.inn ie).2 h)
    · exact n ((r.inn il).2 h)
  refine ⟨G', sg, ⟨r.ext.g.trans sg, sH, fun b x e g t => ?_, r.ext.d, fun t => (r.ext.t t).mono sg fun b ps z => ?_⟩, fun {j e} hj => ?_, fun {j fs} hj => ?_, fun {j ks vs} hj => ?_, fun {j tg st es ls} hj => ?_, fun {j q} h => ?_, fun {j l s t q} q1 q2 p1 p2 q3 q4 => ?_, by simpa using r.len, r.tb⟩
  · obtain ⟨y1, y2⟩ := r.ext.k b x e g t
    exact ⟨y1, by rw [gN fun z => by rw [(g0 z).2.1] at e; cases e]; exact y2⟩
  · by_cases hb : b = p ∨ b = pe ∨ b = pl
    · rw [gA hb] at z; exact (g0 hb).2.2 ps z
    · rw [gN hb] at z; exact (r.ext.t t).1 b ps z
  · rcases set_at hj with ⟨z1, z2, _⟩ | ⟨n, q⟩
    · subst z1; cases z2
      refine ⟨.ref p, h1, .op (vs := [v, .ref pe, .ref pl]) (Γ.ob ⟨C, p, dx, v, .ref pe, .ref pl, c1, rfl, rfl, by rw [gA (.inl rfl)]; exact c2⟩) (.cons (h7.mono sg) (.cons (.lst (xs := us) (by rw [gA (.inr (.inl rfl))]; exact o2) (h8.mono sg)) (.one (.lst (xs := ws) (by rw [gA (.inr (.inr rfl))]; exact o3) (h9.mono sg)))))⟩
    · obtain ⟨v, x1, x2⟩ := r.val q
      exact ⟨v, x1, x2.mono sg⟩
  · rcases set_at hj with ⟨z1, z2, _⟩ | ⟨n, q⟩
    · cases z2
    · obtain ⟨q', vs', x1, x2, x3, x4, x5⟩ := r.own q
      exact ⟨q', vs', x1, x2, by rw [gN (ne n q rfl x1)]; exact x3, x4, x5.mono sg⟩
  · rcases set_at hj with ⟨z1, z2, _⟩ | ⟨n, q⟩
    · cases z2
    · obtain ⟨q', o, nks, kv, vv, x1, x2, x3, x4, x5, x6, x7, x8⟩ := r.dic q
      exact ⟨q', o, nks, kv, vv, x1, x2, by rw [gN (ne n q rfl x1)]; exact x3, x4, x5, x6, x7.mono sg, x8.mono sg⟩
  · rcases set_at hj with ⟨z1, z2, _⟩ | ⟨n, q⟩
    · cases z2
    · obtain ⟨p0, pe0, pl0, v0, us, ws, x1, x2, x3, x4, x5, ⟨⟨C0, dx0, c1, c2⟩, o2, o3, o4⟩, x7, x8, x9⟩ := r.obj q
      exact ⟨p0, pe0, pl0, v0, us, ws, x1, x2, ⟨x3.1, by rw [gN (ne n q rfl x1)]; exact x3.2⟩, ⟨x4.1, by rw [gN (n2 n ⟨_, _, _, _, p0, C0, dx0, v0, pe0, pl0, q, x1, c2, .inl rfl⟩)]; exact x4.2⟩, ⟨x5.1, by rw [gN (n2 n ⟨_, _, _, _, p0, C0, dx0, v0, pe0, pl0, q, x1, c2, .inr rfl⟩)]; exact x5.2⟩, ⟨⟨C0, dx0, c1, c2⟩, o2, o3, o4⟩, x7.mono sg, x8.mono sg, x9.mono sg⟩
  · have bk : ∀ {k : Nat}, Inn H σ (ρ.set i (some (.val (.op 3 [st, .lst es, .lst ls])))) k q → Inn H σ ρ k q := fun {k} ⟨tg, st, es, ls, p', C, dx, v, pe, pl, a1, a2, a3, a4⟩ => by
      rcases set_at a1 with ⟨_, z, _⟩ | ⟨n, z⟩
      · cases z
      · exact ⟨tg, st, es, ls, p', C, dx, v, pe, pl, z, a2, a3, a4⟩
    refine ⟨fun {k s} hk hp z => ?_, fun hk => (r.inn (bk h)).2 (bk hk)⟩
    rcases set_at hk with ⟨_, z2, _⟩ | ⟨_, o1⟩
    · cases z2; cases hp
    · exact (r.inn (bk h)).1 o1 hp z
  · rcases set_at q1 with ⟨_, z, _⟩ | ⟨_, o1⟩
    · cases z; cases p1
    rcases set_at q2 with ⟨_, z, _⟩ | ⟨_, o2⟩
    · cases z; cases p2
    exact r.inj o1 o2 p1 p2 q3 q4
theorem Rel.frz {Γ : Gam} {K : PySem.W.Frag} {B : Hp × Hp} {G H : Hp} {σ : L2.St} {ρ : En} (i : Nat) (r : Rel Γ K B G H σ ρ) : ∃ G', Same G G' ∧ Rel Γ K B G' H σ (VL.frz ρ i) := by
  unfold VL.frz
  split
  · rename_i ds hi
    obtain ⟨p, vs, h1, h2, h3, h4, h5⟩ := r.own hi
    exact r.frzPv hi rfl h1 h2 h3 h4 (.lst upd_same (h5.mono (same_upd h3)))
  · rename_i ks vs hi
    obtain ⟨p, o, nks, kv, vv, h1, h2, h3, h4, h5, h6, h7, h8⟩ := r.dic hi
    exact r.frzPv hi rfl h1 h2 h3 h4 (.dic upd_same h5 h6 (h7.mono (same_upd h3)) (h8.mono (same_upd h3)))
  · rename_i tg st es ls hi
    exact r.frzO hi
  · exact ⟨G, .refl _, r⟩
end VL
end
section
set_option Elab.async false
set_option linter.all false
set_option maxRecDepth 100000
set_option maxHeartbeats 2000000
set_option autoImplicit false
namespace VL
open PySem PySem.Spec PyProof.Rows L2
variable [TabN]

/-! ### what is wanted behind -/
def Post {α ν : Type} (Γ : Gam) (W : WX) (G H : Hp) (σ : L2.St) (rel : Hp → ν → α → Prop) (Q : ν → Hp → Prop) : R α → Prop
  | .ok a => ∀ G' H' v, Ext G H G' H' → rel G' v a → Q v H'
  | .exc c => ∀ G' H', Ext G H G' H' → W (Γ.cls c) none σ H'
  | .stuck => False
section
variable {α β ν μ : Type} {Γ : Gam} {W : WX} {G H G1 H1 : Hp} {σ : L2.St} {rel : Hp → ν → α → Prop} {Q : ν → Hp → Prop}
theorem Post.ext {x : R α} (p : Post Γ W G H σ rel Q x) (e : Ext G H G1 H1) : Post Γ W G1 H1 σ rel Q x := by
  cases x with
  | ok a => exact fun G' H' v e' r => p G' H' v (e.trans e') r
  | exc c => exact fun G' H' e' => p G' H' (e.trans e')
  | stuck => exact p
theorem Post.bind {rel1 : Hp → μ → β → Prop} {Q1 : μ → Hp → Prop} {x : R β} {f : β → R α} (p : Post Γ W G H σ rel Q (x.bind f))
    (k : ∀ G1 H1 v a, Ext G H G1 H1 → rel1 G1 v a → Post Γ W G1 H1 σ rel Q (f a) → Q1 v H1) : Post Γ W G H σ rel1 Q1 x := by
  cases x with
  | ok a => exact fun G' H' v e r => k G' H' v a e r (Post.ext (x := f a) p e)
  | exc c => exact p
  | stuck => exact p
/-- the answer here and now -/
theorem Post.here {a : α} {v : ν} (p : Post Γ W G H σ rel Q (.ok a)) (s : Same G H) (r : rel G v a) : Q v H := p G H v (.refl s) r
theorem Post.mono {rel1 : Hp → μ → α → Prop} {Q1 : μ → Hp → Prop} {x : R α} (p : Post Γ W G H σ rel Q x) (k : ∀ G1 H1 v a, Ext G H G1 H1 → rel1 G1 v a → (∀ u, rel G1 u a → Q u H1) → Q1 v H1) : Post Γ W G H σ rel1 Q1 x := by
  cases x with
  | ok a => exact fun G' H' v e r => k G' H' v a e r fun u q => p G' H' u e q
  | exc c => exact p
  | stuck => exact p
end

/-! ### the judgements -/
abbrev relB : Hp → Bool → Bool → Prop := fun _ b c => b = c
/-- the reading of a mirror -/
def tE (Γ : Gam) (K : PySem.W.Frag) (W : WX) (f : En → R D) : TE := fun σ H Q => ∃ B G ρ, Rel Γ K B G H σ ρ ∧ Post Γ W G H σ (Rp Γ K) Q (f ρ)
def tT (Γ : Gam) (K : PySem.W.Frag) (W : WX) (f : En → R Bool) : TT := fun σ H Q => ∃ B G ρ, Rel Γ K B G H σ ρ ∧ Post Γ W G H σ relB Q (f ρ)
def tA (Γ : Gam) (K : PySem.W.Frag) (W : WX) (f : En → R (List D)) : TA := fun σ H Q => ∃ B G ρ, Rel Γ K B G H σ ρ ∧ Post Γ W G H σ (RpA Γ K) Q (f ρ)
def SE (Γ : Gam) (X : Cx) (W : WX) (e : Expr) (f : En → R D) : Prop := PE X e (tE Γ X.K W f)
def ST (Γ : Gam) (X : Cx) (W : WX) (e : Expr) (f : En → R Bool) : Prop := PT X e (tT Γ X.K W f)
/-- a test whatever its whole -/
def SW (Γ : Gam) (X : Cx) (W : WX) (e : Expr) (f : En → R Bool) : Prop := PW X e (tT Γ X.K W f)
def SA (Γ : Gam) (X : Cx) (W : WX) (es : List Expr) (f : En → R (List D)) : Prop := PA X es (tA Γ X.K W f)
section
variable {Γ : Gam} {X : Cx} {W : WX} {e : Expr} {es : List Expr} {f : En → R D} {fb : En → R Bool} {fs : En → R (List D)}
abbrev UseE (Γ : Gam) (X : Cx) (W : WX) (f : En → R D) (t : TE) : Prop := ∀ {B : Hp × Hp} {G H : Hp} {σ : L2.St} {ρ : En} {Q : VK}, Rel Γ X.K B G H σ ρ → Post Γ W G H σ (Rp Γ X.K) Q (f ρ) → t σ H Q
abbrev UseT (Γ : Gam) (X : Cx) (W : WX) (f : En → R Bool) (t : TT) : Prop := ∀ {B : Hp × Hp} {G H : Hp} {σ : L2.St} {ρ : En} {Q : Bool → Hp → Prop}, Rel Γ X.K B G H σ ρ → Post Γ W G H σ relB Q (f ρ) → t σ H Q
abbrev UseA (Γ : Gam) (X : Cx) (W : WX) (f : En → R (List D)) (t : TA) : Prop := ∀ {B : Hp × Hp} {G H : Hp} {σ : L2.St} {ρ : En} {Q : List V → Hp → Prop}, Rel Γ X.K B G H σ ρ → Post Γ W G H σ (RpA Γ X.K) Q (f ρ) → t σ H Q
theorem SE.out (h : SE Γ X W e f) : ∃ t, PE X e t ∧ UseE Γ X W f t := ⟨_, h, fun {B G _ _ ρ _} r p => ⟨B, G, ρ, r, p⟩⟩
theorem ST.out (h : ST Γ X W e fb) : ∃ t, PT X e t ∧ UseT Γ X W fb t := ⟨_, h, fun {B G _ _ ρ _} r p => ⟨B, G, ρ, r, p⟩⟩
theorem SW.out (h : SW Γ X W e fb) : ∃ t, PW X e t ∧ UseT Γ X W fb t := ⟨_, h, fun {B G _ _ ρ _} r p => ⟨B, G, ρ, r, p⟩⟩
theorem SA.out (h : SA Γ X W es fs) : ∃ t, PA X es t ∧ UseA Γ X W fs t := ⟨_, h, fun {B G _ _ ρ _} r p => ⟨B, G, ρ, r, p⟩⟩
theorem SE.mk (h : ∃ t, PE X e t ∧ UseE Γ X W f t) : SE Γ X W e f := let ⟨_, p, q⟩ := h; ⟨fun pins s σ H Q I ⟨_, _, _, r, w⟩ => p.run pins s σ H Q I (q r w)⟩
theorem ST.mk (h : ∃ t, PT X e t ∧ UseT Γ X W fb t) : ST Γ X W e fb := let ⟨_, p, q⟩ := h; ⟨fun pins s σ H Q I ⟨_, _, _, r, w⟩ => p.run pins s σ H Q I (q r w)⟩
theorem SW.mk (h : ∃ t, PW X e t ∧ UseT Γ X W fb t) : SW Γ X W e fb := let ⟨_, p, q⟩ := h; ⟨fun wh pins s σ H Q I ⟨_, _, _, r, w⟩ => p.run wh pins s σ H Q I (q r w)⟩
theorem SA.mk (h : ∃ t, PA X es t ∧ UseA Γ X W fs t) : SA Γ X W es fs := let ⟨_, p, q⟩ := h; ⟨fun po pins s σ H Q I ⟨_, _, _, r, w⟩ => p.run po pins s σ H Q I (q r w)⟩
end
/-- an operator by values -/
def OpS (Γ : Gam) (K : PySem.W.Frag) (W : WX) (r : R2) (g : D → D → R D) : Prop :=
  ∀ {G H : Hp} {σ : L2.St} {x y : V} {d e : D} {Q : VK}, Same G H → Rp Γ K G x d → Rp Γ K G y e → Post Γ W G H σ (Rp Γ K) Q (g d e) → r x y H Q
def UnS (Γ : Gam) (K : PySem.W.Frag) (W : WX) (r : V → Hp → VK → Prop) (g : D → R D) : Prop :=
  ∀ {G H : Hp} {σ : L2.St} {x : V} {d : D} {Q : VK}, Same G H → Rp Γ K G x d → Post Γ W G H σ (Rp Γ K) Q (g d) → r x H Q
def CaS (Γ : Gam) (K : PySem.W.Frag) (W : WX) (r : List V → Hp → VK → Prop) (g : List D → R D) : Prop :=
  ∀ {G H : Hp} {σ : L2.St} {xs : List V} {ds : List D} {Q : VK}, Same G H → RpA Γ K G xs ds → Post Γ W G H σ (Rp Γ K) Q (g ds) → r xs H Q
def MtS (Γ : Gam) (K : PySem.W.Frag) (W : WX) (r : V → List V → Hp → VK → Prop) (g : D → List D → R D) : Prop :=
  ∀ {G H : Hp} {σ : L2.St} {x : V} {d : D} {xs : List V} {ds : List D} {Q : VK}, Same G H → Rp Γ K G x d → RpA Γ K G xs ds → Post Γ W G H σ (Rp Γ K) Q (g d ds) → r x xs H Q

section
variable {Γ : Gam} {X : Cx} {W : WX} {a b c e : Expr} {es : List Expr} {fa fb fc : En → R D} {pos p : Pos}

/-! ### names, constants -/
def var (i : Nat) : En → R D := fun ρ => match ρ[i]? with
  | some (some (.val d)) => .ok d
  | _ => .stuck
theorem se_var {i : Nat} {x : Str} (hN : X.N[i]? = some x) (hv : Vis X.env.scope x) (hd : (x == ("__debug__" : Str)) = false := by decide) (hcd : (x == ("__classdict__" : Str)) = false := by decide) : SE Γ X W (.Name x pos) (var i) := by
  refine .mk ⟨_, pe_var hN hv hd hcd, fun {B G H σ ρ Q} r p => ?_⟩
  unfold var at p
  split at p
  · rename_i d hi
    obtain ⟨v, h1, h2⟩ := r.val hi
    exact ⟨v, h1, p.here r.same h2⟩
  · exact p.elim
theorem sv (i : Nat) {x : Str} (hN : X.N[i]? = some x := by rfl) (hv : Vis X.env.scope x := by first | exact Or.inl rfl | exact Or.inr (Or.inl rfl) | exact Or.inr (Or.inr rfl)) (hd : (x == ("__debug__" : Str)) = false := by decide)
    (hcd : (x == ("__classdict__" : Str)) = false := by decide) : SE Γ X W (.Name x pos) (var i) := se_var hN hv hd hcd
theorem se_int {i j} : SE Γ X W (.Constant (.int i) j pos) (fun _ => .ok (.int i)) := .mk ⟨_, pe_int, fun r p => p.here r.same (.int i)⟩
theorem se_bl {i j} : SE Γ X W (.Constant (.bool i) j pos) (fun _ => .ok (.bl i)) := .mk ⟨_, pe_bl, fun r p => p.here r.same (.bl i)⟩
theorem se_non {j} : SE Γ X W (.Constant .none j pos) (fun _ => .ok .non) := .mk ⟨_, pe_non, fun r p => p.here r.same .non⟩
theorem se_str {i j} : SE Γ X W (.Constant (.str i) j pos) (fun _ => .ok (.str i)) := .mk ⟨_, pe_str, fun r p => p.here r.same (.str i)⟩
theorem se_gint {x : Str} {i : Int} {t : Tok} (hg : Gl X x) (hm : X.mg x = some (.int i t)) (hd : (x == ("__debug__" : Str)) = false := by decide) : SE Γ X W (.Name x pos) (fun _ => .ok (.int i)) :=
  .mk ⟨_, pe_glob hg hm (v := .int i) ⟨t, rfl⟩ hd, fun r p => p.here r.same (.int i)⟩
theorem se_gstr {x : Str} {i : Str} {t : Tok} (hg : Gl X x) (hm : X.mg x = some (.str i t)) (hd : (x == ("__debug__" : Str)) = false := by decide) : SE Γ X W (.Name x pos) (fun _ => .ok (.str i)) :=
  .mk ⟨_, pe_glob hg hm (v := .str i) ⟨t, rfl⟩ hd, fun r p => p.here r.same (.str i)⟩

/-! ### operators -/
theorem se_op {op : Operator} {r : R2} {g : D → D → R D} (ho : OpR X (binaryOp op) r) (hg : OpS Γ X.K W r g) (ha : SE Γ X W a fa) (hb : SE Γ X W b fb) :
    SE Γ X W (.BinOp a op b pos) (fun ρ => (fa ρ).bind fun x => (fb ρ).bind fun y => g x y) := by
  obtain ⟨ta, pa, qa⟩ := ha.out
  obtain ⟨tb, pb, qb⟩ := hb.out
  refine .mk ⟨_, pe_op ho pa pb, fun {B G H σ ρ Q} r p => ?_⟩
  refine qa r (p.bind fun G1 H1 v d e1 r1 p1 => ?_)
  refine qb (r.go e1) (p1.bind fun G2 H2 u e e2 r2 p2 => ?_)
  exact hg e2.s (r1.mono e2.g) r2 p2
theorem se_un {op : UnaryOp} {r : V → Hp → VK → Prop} {g : D → R D} (ho : UnR X (unaryOp op) r) (hg : UnS Γ X.K W r g) (ha : SE Γ X W a fa) :
    SE Γ X W (.UnaryOp op a pos) (fun ρ => (fa ρ).bind fun x => g x) := by
  obtain ⟨ta, pa, qa⟩ := ha.out
  refine .mk ⟨_, pe_un ho pa, fun {B G H σ ρ Q} r p => ?_⟩
  refine qa r (p.bind fun G1 H1 v d e1 r1 p1 => ?_)
  exact hg e1.s r1 p1
theorem se_cmp {op : CmpOp} {r : R2} {g : D → D → R D} (ho : OpR X (compareOp op) r) (hg : OpS Γ X.K W r g) (ha : SE Γ X W a fa) (hb : SE Γ X W b fb) (hm : behindInMarks op b = false := by first | exact nomark _ | rfl) :
    SE Γ X W (.Compare a [op] [b] pos) (fun ρ => (fa ρ).bind fun x => (fb ρ).bind fun y => g x y) := by
  obtain ⟨ta, pa, qa⟩ := ha.out
  obtain ⟨tb, pb, qb⟩ := hb.out
  refine .mk ⟨_, pe_cmpR ho pa pb hm, fun {B G H σ ρ Q} r p => ?_⟩
  refine qa r (p.bind fun G1 H1 v d e1 r1 p1 => ?_)
  refine qb (r.go e1) (p1.bind fun G2 H2 u e e2 r2 p2 => ?_)
  exact hg e2.s (r1.mono e2.g) r2 p2
/-- truth of a bool -/
def asB : D → R Bool
  | .bl b => .ok b
  | _ => .stuck
theorem asB_ok {d : D} {v : V} {K : PySem.W.Frag} {G H : Hp} {σ : L2.St} {Q : Bool → Hp → Prop} (s : Same G H) (r : Rp Γ K G v d) (p : Post Γ W G H σ relB Q (asB d)) : ∃ k, v = .bl k ∧ Q k H := by
  cases r <;> first | exact p.elim | skip
  exact ⟨_, rfl, p.here s rfl⟩
theorem st_cmp {op : CmpOp} {r : R2} {g : D → D → R D} (ho : OpR X (compareOp op) r) (hg : OpS Γ X.K W r g) (ha : SE Γ X W a fa) (hb : SE Γ X W b fb) (hm : behindInMarks op b = false := by first | exact nomark _ | rfl) :
    ST Γ X W (.Compare a [op] [b] pos) (fun ρ => ((fa ρ).bind fun x => (fb ρ).bind fun y => g x y).bind asB) := by
  obtain ⟨ta, pa, qa⟩ := ha.out
  obtain ⟨tb, pb, qb⟩ := hb.out
  refine .mk ⟨_, pt_cmpR ho pa pb hm, fun {B G H σ ρ Q} r p => ?_⟩
  have p0 : Post Γ W G H σ (Rp Γ X.K) (fun x H' => ∃ k, x = .bl k ∧ Q k H') ((fa ρ).bind fun x => (fb ρ).bind fun y => g x y) :=
    p.bind fun G1 H1 v d e1 r1 p1 => asB_ok e1.s r1 p1
  refine qa r (p0.bind fun G1 H1 v d e1 r1 p1 => ?_)
  refine qb (r.go e1) (p1.bind fun G2 H2 u e e2 r2 p2 => ?_)
  exact hg e2.s (r1.mono e2.g) r2 p2
/-- an expression that gives a bool, as a test -/
theorem st_val (ha : SE Γ X W a fa) (he : ∀ whole, isTrue a X.env whole = (do let v ← whole; standAt a.pos; holding [v] (truthy v)) := by intro _; rfl) : ST Γ X W a (fun ρ => (fa ρ).bind asB) := by
  obtain ⟨ta, pa, qa⟩ := ha.out
  refine .mk ⟨_, pt_val pa he, fun {B G H σ ρ Q} r p => ?_⟩
  exact qa r (p.bind fun G1 H1 v d e1 r1 p1 => asB_ok e1.s r1 p1)
theorem SW.st {f : En → R Bool} (h : SW Γ X W a f) : ST Γ X W a f := let ⟨t, p, q⟩ := h.out; .mk ⟨t, p.pt, q⟩
def andR (x : R Bool) (y : R Bool) : R Bool := x.bind fun c => if c then y else .ok false
def orR (x : R Bool) (y : R Bool) : R Bool := x.bind fun c => if c then .ok true else y
section
variable {f g : En → R Bool} {rest : List Expr}
theorem sw_and1 (ha : ST Γ X W a f) : SW Γ X W (.BoolOp .And [a] pos) f := let ⟨t, p, q⟩ := ha.out; .mk ⟨t, pw_and1 p, q⟩
theorem sw_or1 (ha : ST Γ X W a f) : SW Γ X W (.BoolOp .Or [a] pos) f := let ⟨t, p, q⟩ := ha.out; .mk ⟨t, pw_or1 p, q⟩
theorem sw_and (ha : ST Γ X W a f) (hb : SW Γ X W (.BoolOp .And (b :: rest) pos) g) : SW Γ X W (.BoolOp .And (a :: b :: rest) pos) (fun ρ => andR (f ρ) (g ρ)) := by
  obtain ⟨ta, pa, qa⟩ := ha.out
  obtain ⟨tb, pb, qb⟩ := hb.out
  refine .mk ⟨_, pw_and pa pb, fun {B G H σ ρ Q} r p => ?_⟩
  refine qa r (p.bind fun G1 H1 v d e1 r1 p1 => ?_)
  cases r1
  cases v with
  | true => exact iteT (qb (r.go e1) p1)
  | false => exact iteF (p1.here e1.s rfl)
theorem sw_or (ha : ST Γ X W a f) (hb : SW Γ X W (.BoolOp .Or (b :: rest) pos) g) : SW Γ X W (.BoolOp .Or (a :: b :: rest) pos) (fun ρ => orR (f ρ) (g ρ)) := by
  obtain ⟨ta, pa, qa⟩ := ha.out
  obtain ⟨tb, pb, qb⟩ := hb.out
  refine .mk ⟨_, pw_or pa pb, fun {B G H σ ρ Q} r p => ?_⟩
  refine qa r (p.bind fun G1 H1 v d e1 r1 p1 => ?_)
  cases r1
  cases v with
  | true => exact iteT (p1.here e1.s rfl)
  | false => exact iteF (qb (r.go e1) p1)
theorem st_not (ha : ST Γ X W a f) : ST Γ X W (.UnaryOp .Not a pos) (fun ρ => (f ρ).bind fun c => .ok (!c)) := by
  obtain ⟨ta, pa, qa⟩ := ha.out
  refine .mk ⟨_, pt_not pa, fun {B G H σ ρ Q} r p => ?_⟩
  refine qa r (p.bind fun G1 H1 v d e1 r1 p1 => ?_)
  cases r1
  exact p1.here e1.s rfl
end
/-- and, or, not as values (bools) -/
def andV (x y : R D) : R D := x.bind fun d => (asB d).bind fun c => if c then y else .ok (.bl false)
def orV (x y : R D) : R D := x.bind fun d => (asB d).bind fun c => if c then .ok (.bl true) else y
section
variable {rest : List Expr}
theorem se_one {op} (h : SE Γ X W a fa) : SE Γ X W (.BoolOp op [a] pos) fa := let ⟨t, p, q⟩ := h.out; .mk ⟨t, pe_one p, q⟩
theorem se_and (ha : SE Γ X W a fa) (hb : SE Γ X W (.BoolOp .And (b :: rest) pos) fb) : SE Γ X W (.BoolOp .And (a :: b :: rest) pos) (fun ρ => andV (fa ρ) (fb ρ)) := by
  obtain ⟨ta, pa, qa⟩ := ha.out
  obtain ⟨tb, pb, qb⟩ := hb.out
  refine .mk ⟨_, pe_and pa pb, fun {B G H σ ρ Q} r p => ?_⟩
  refine qa r (p.bind fun G1 H1 v d e1 r1 p1 => ?_)
  cases r1 <;> first | exact p1.elim | skip
  rename_i c
  refine ⟨c, rfl, ?_⟩
  cases c with
  | true => exact iteT (qb (r.go e1) p1)
  | false => exact iteF (p1.here e1.s (.bl false))
theorem se_or (ha : SE Γ X W a fa) (hb : SE Γ X W (.BoolOp .Or (b :: rest) pos) fb) : SE Γ X W (.BoolOp .Or (a :: b :: rest) pos) (fun ρ => orV (fa ρ) (fb ρ)) := by
  obtain ⟨ta, pa, qa⟩ := ha.out
  obtain ⟨tb, pb, qb⟩ := hb.out
  refine .mk ⟨_, pe_or pa pb, fun {B G H σ ρ Q} r p => ?_⟩
  refine qa r (p.bind fun G1 H1 v d e1 r1 p1 => ?_)
  cases r1 <;> first | exact p1.elim | skip
  rename_i c
  refine ⟨c, rfl, ?_⟩
  cases c with
  | true => exact iteT (p1.here e1.s (.bl true))
  | false => exact iteF (qb (r.go e1) p1)
def notV (x : R D) : R D := x.bind fun d => (asB d).bind fun c => .ok (.bl (!c))
theorem se_not (ha : SE Γ X W a fa) : SE Γ X W (.UnaryOp .Not a pos) (fun ρ => notV (fa ρ)) := by
  obtain ⟨ta, pa, qa⟩ := ha.out
  refine .mk ⟨_, pe_not pa, fun {B G H σ ρ Q} r p => ?_⟩
  refine qa r (p.bind fun G1 H1 v d e1 r1 p1 => ?_)
  cases r1 <;> first | exact p1.elim | skip
  exact ⟨_, rfl, p1.here e1.s (.bl _)⟩
end
/-- a if t else b -/
theorem se_if {f : En → R Bool} (hc : ST Γ X W c f) (ha : SE Γ X W a fa) (hb : SE Γ X W b fb) : SE Γ X W (.IfExp c a b pos) (fun ρ => (f ρ).bind fun k => if k then fa ρ else fb ρ) := by
  obtain ⟨tc, pc, qc⟩ := hc.out
  obtain ⟨ta, pa, qa⟩ := ha.out
  obtain ⟨tb, pb, qb⟩ := hb.out
  refine .mk ⟨_, pe_ifExp pc pa pb, fun {B G H σ ρ Q} r p => ?_⟩
  refine qc r (p.bind fun G1 H1 v d e1 r1 p1 => ?_)
  cases r1
  cases v with
  | true => exact iteT (qa (r.go e1) p1)
  | false => exact iteF (qb (r.go e1) p1)
/-- a < b < c -/
def chainD (g g' : D → D → R D) (x y : R D) (z : R D) : R D := x.bind fun x => y.bind fun y => (g x y).bind fun k => (asB k).bind fun k => if k then z.bind fun w => g' y w else .ok (.bl false)
theorem chain_sem {r r' : R2} {g g' : D → D → R D} {ta tb tc : TE} (hg : OpS Γ X.K W r g) (hg' : OpS Γ X.K W r' g')
    (qa : ∀ {B : Hp × Hp} {G H : Hp} {σ : L2.St} {ρ : En} {Q : VK}, Rel Γ X.K B G H σ ρ → Post Γ W G H σ (Rp Γ X.K) Q (fa ρ) → ta σ H Q)
    (qb : ∀ {B : Hp × Hp} {G H : Hp} {σ : L2.St} {ρ : En} {Q : VK}, Rel Γ X.K B G H σ ρ → Post Γ W G H σ (Rp Γ X.K) Q (fb ρ) → tb σ H Q)
    (qc : ∀ {B : Hp × Hp} {G H : Hp} {σ : L2.St} {ρ : En} {Q : VK}, Rel Γ X.K B G H σ ρ → Post Γ W G H σ (Rp Γ X.K) Q (fc ρ) → tc σ H Q)
    {B : Hp × Hp} {G H : Hp} {σ : L2.St} {ρ : En} {Q : VK} (r0 : Rel Γ X.K B G H σ ρ) (p : Post Γ W G H σ (Rp Γ X.K) Q (chainD g g' (fa ρ) (fb ρ) (fc ρ))) : tChain r r' ta tb tc σ H Q := by
  refine qa r0 (p.bind fun G1 H1 v d e1 r1 p1 => ?_)
  refine qb (r0.go e1) (p1.bind fun G2 H2 u e e2 r2 p2 => ?_)
  refine hg e2.s (r1.mono e2.g) r2 (p2.bind fun G3 H3 z dz e3 r3 p3 => ?_)
  cases r3 <;> first | exact p3.elim | skip
  rename_i k
  refine ⟨k, rfl, ?_⟩
  cases k with
  | true => exact iteT (qc (((r0.go e1).go e2).go e3) (Post.bind (f := fun w => g' e w) p3 fun G4 H4 w dw e4 r4 p4 => hg' e4.s ((r2.mono e3.g).mono e4.g) r4 p4))
  | false => exact iteF (p3.here e3.s (.bl false))
theorem se_chain {op op' : CmpOp} {r r' : R2} {g g' : D → D → R D} (ho : OpR X (compareOp op) r) (hg : OpS Γ X.K W r g) (ho' : OpR X (compareOp op') r') (hg' : OpS Γ X.K W r' g') (ha : SE Γ X W a fa) (hb : SE Γ X W b fb) (hc : SE Γ X W c fc)
    (hm : lastMarks [op, op'] [b, c] = false := by with_unfolding_all rfl) :
    SE Γ X W (.Compare a [op, op'] [b, c] pos) (fun ρ => chainD g g' (fa ρ) (fb ρ) (fc ρ)) := by
  obtain ⟨ta, pa, qa⟩ := ha.out
  obtain ⟨tb, pb, qb⟩ := hb.out
  obtain ⟨tc, pc, qc⟩ := hc.out
  exact .mk ⟨_, pe_chain ho ho' pa pb pc hm, fun {B G H σ ρ Q} r p => chain_sem hg hg' qa qb qc r p⟩
theorem st_chain {op op' : CmpOp} {r r' : R2} {g g' : D → D → R D} (ho : OpR X (compareOp op) r) (hg : OpS Γ X.K W r g) (ho' : OpR X (compareOp op') r') (hg' : OpS Γ X.K W r' g') (ha : SE Γ X W a fa) (hb : SE Γ X W b fb) (hc : SE Γ X W c fc)
    (hm : lastMarks [op, op'] [b, c] = false := by with_unfolding_all rfl) :
    ST Γ X W (.Compare a [op, op'] [b, c] pos) (fun ρ => (chainD g g' (fa ρ) (fb ρ) (fc ρ)).bind asB) := by
  obtain ⟨ta, pa, qa⟩ := ha.out
  obtain ⟨tb, pb, qb⟩ := hb.out
  obtain ⟨tc, pc, qc⟩ := hc.out
  refine .mk ⟨_, pt_chain ho ho' pa pb pc hm, fun {B G H σ ρ Q} r p => ?_⟩
  exact chain_sem hg hg' qa qb qc r (p.bind fun G1 H1 v d e1 r1 p1 => asB_ok e1.s r1 p1)
/-! ### displays, arguments -/
theorem sa_nil : SA Γ X W [] (fun _ => .ok []) := .mk ⟨_, pa_nil, fun r p => p.here r.same .nil⟩
theorem sa_cons {fs : En → R (List D)} (ha : SE Γ X W e fa) (hr : SA Γ X W es fs) (hs : starEach (e :: es) X.env = (false, eval e X.env) :: starEach es X.env := by rfl) :
    SA Γ X W (e :: es) (fun ρ => (fa ρ).bind fun d => (fs ρ).bind fun ds => .ok (d :: ds)) := by
  obtain ⟨ta, pa, qa⟩ := ha.out
  obtain ⟨tb, pb, qb⟩ := hr.out
  refine .mk ⟨_, pa_cons pa pb hs, fun {B G H σ ρ Q} r p => ?_⟩
  refine qa r (p.bind fun G1 H1 v d e1 r1 p1 => ?_)
  refine qb (r.go e1) (p1.bind fun G2 H2 u e e2 r2 p2 => ?_)
  exact p2.here e2.s (.cons (r1.mono e2.g) r2)
theorem line_of {n : Nat} (h : n ≤ 100000) : n ≤ sizeLine := by rw [sizeLine_eq]; omega
/-- a tuple display -/
def mkT (x : R (List D)) : R D := x.bind fun ds => if ds.length ≤ 100000 then .ok (.tup ds) else .stuck
def mkL (x : R (List D)) : R D := x.bind fun ds => if ds.length ≤ 100000 then .ok (.lst ds) else .stuck
theorem se_tup {k} {fs : En → R (List D)} (h : SA Γ X W es fs) : SE Γ X W (.Tuple es k pos) (fun ρ => mkT (fs ρ)) := by
  obtain ⟨ta, pa, qa⟩ := h.out
  refine .mk ⟨_, pe_tup pa, fun {B G H σ ρ Q} r p => ?_⟩
  refine qa r (p.bind fun G1 H1 v ds e1 r1 p1 => ?_)
  split at p1
  · rename_i hl
    refine ⟨by rw [r1.length]; exact line_of hl, fun q hq => ?_⟩
    exact p1 _ _ _ (.new e1.s hq) (.tup (.of upd_same) (r1.mono (same_upd (e1.s.none hq))))
  · exact p1.elim
theorem se_lst {fs : En → R (List D)} (h : SA Γ X W es fs) : SE Γ X W (.List es pos) (fun ρ => mkL (fs ρ)) := by
  obtain ⟨ta, pa, qa⟩ := h.out
  refine .mk ⟨_, pe_lst pa, fun {B G H σ ρ Q} r p => ?_⟩
  refine qa r (p.bind fun G1 H1 v ds e1 r1 p1 => ?_)
  split at p1
  · rename_i hl
    refine ⟨by rw [r1.length]; exact line_of hl, fun q hq => ?_⟩
    exact p1 _ _ _ (.new e1.s hq) (.lst upd_same (r1.mono (same_upd (e1.s.none hq))))
  · exact p1.elim
/-! ### calls of built-ins -/
theorem se_callB {x : Str} {id : String} {r : List V → Hp → VK → Prop} {g : List D → R D} {fs : En → R (List D)} (hc : CallR X (.builtin id) r) (hgs : CaS Γ X.K W r g) (hg : Gl X x) (hm : X.mg x = none) (hv : bootBuiltins x = some (.builtin id))
    (ha : SA Γ X W (e :: es) fs) (hn : x ≠ "__name__" := by decide) (hdb : (x == ("__debug__" : Str)) = false := by decide)
    (he : starEach (e :: es) X.env = (false, eval e X.env) :: starEach es X.env := by rfl) (hpl : (backTo pos (starEach es X.env)).any (·.1) = false := by rfl) :
    SE Γ X W (.Call (.Name x p) (e :: es) [] pos) (fun ρ => (fs ρ).bind fun ds => g ds) := by
  obtain ⟨ta, pa, qa⟩ := ha.out
  refine .mk ⟨_, pe_callB hc hg hm hv pa hn hdb he hpl, fun {B G H σ ρ Q} r p => ?_⟩
  exact qa r (p.bind fun G1 H1 v ds e1 r1 p1 => hgs e1.s r1 p1)
theorem se_callTy {x : Str} {T : String} {r : List V → Hp → VK → Prop} {g : List D → R D} {fs : En → R (List D)} (hc : CallR X (.type T) r) (hgs : CaS Γ X.K W r g) (hg : Gl X x) (hm : X.mg x = none) (hv : bootBuiltins x = some (.type T))
    (ha : SA Γ X W (e :: es) fs) (hn : x ≠ "__name__" := by decide) (hdb : (x == ("__debug__" : Str)) = false := by decide)
    (he : starEach (e :: es) X.env = (false, eval e X.env) :: starEach es X.env := by rfl) (hpl : (backTo pos (starEach es X.env)).any (·.1) = false := by rfl) :
    SE Γ X W (.Call (.Name x p) (e :: es) [] pos) (fun ρ => (fs ρ).bind fun ds => g ds) := by
  obtain ⟨ta, pa, qa⟩ := ha.out
  refine .mk ⟨_, pe_callTy hc hg hm hv pa hn hdb he hpl, fun {B G H σ ρ Q} r p => ?_⟩
  exact qa r (p.bind fun G1 H1 v ds e1 r1 p1 => hgs e1.s r1 p1)
/-! ### subscripts, slices -/
theorem se_ix {r : R2} {g : D → D → R D} (ho : IxR X r) (hg : OpS Γ X.K W r g) (ha : SE Γ X W a fa) (hb : SE Γ X W b fb) (hs : PlainIx b := by exact fun _ _ => rfl) :
    SE Γ X W (.Subscript a b pos) (fun ρ => (fa ρ).bind fun x => (fb ρ).bind fun y => g x y) := by
  obtain ⟨ta, pa, qa⟩ := ha.out
  obtain ⟨tb, pb, qb⟩ := hb.out
  refine .mk ⟨_, pe_ix ho pa pb hs, fun {B G H σ ρ Q} r p => ?_⟩
  refine qa r (p.bind fun G1 H1 v d e1 r1 p1 => ?_)
  refine qb (r.go e1) (p1.bind fun G2 H2 u e e2 r2 p2 => ?_)
  exact hg e2.s (r1.mono e2.g) r2 p2
end
end VL
end
section
set_option Elab.async false
set_option linter.all false
set_option maxRecDepth 100000
set_option maxHeartbeats 2000000
set_option autoImplicit false
namespace VL
open PySem PySem.Spec PyProof.Rows L2
variable [TabN]

/-! ### where one stands -/
structure Ct (X : Cx) (W : WX) (j : Nat) : Prop where
  tk : Takes X W
  hp : PassesOwn (model X.prog X.w) X.A X.env X.xe
  calm : X.calm = true
  nd : X.N.Nodup
  hr : Room j X.A
abbrev W0 : WX := fun _ _ _ _ => False
theorem Ct.blk {X : Cx} {W : WX} {j : Nat} (C : Ct X W j) {s : Shared} {H : Hp} {scope : Scope} {env : Env} {fp : List Addr} : Ct (X.blk s H scope env fp) W0 j :=
  ⟨takes0, PassesOwn.never, C.calm, C.nd, C.hr⟩

/-! ### a def and its mirror -/
def spM (Γ : Gam) (K : PySem.W.Frag) (n : Nat) (m : List D → R D) : Sp := fun vs H Q E => ∃ G ds, Same G H ∧ TabsOk G H ∧ RpA Γ K G vs ds ∧ ds.length = n ∧ Post Γ (fun cls d _ H' => E cls d H') G H [] (Rp Γ K) Q (m ds)
structure Cal (Γ : Gam) (P : Program) (w : World) (K : PySem.W.Frag) (mg : Str → Option Value) (base : Heap) (x : Str) (k : Nat) (ps : List Str) (m : List D → R D) : Prop where
  ex : ∃ f fd, FnOk P w K mg base (L2.CX P w) k f fd ps (spM Γ K ps.length m) ∧ mg x = some (.ref f) ∧ PySem.W.keepIn K (.ref f) = true ∧ Binds K fd ps []
  len : ∀ ds, ds.length ≠ ps.length → m ds = .stuck
section
variable {Γ : Gam} {X : Cx} {W : WX} {a b c e : Expr} {es : List Expr} {fa fb fc : En → R D} {pos p : Pos} {j : Nat}
theorem Post.toSp {K : PySem.W.Frag} {G H : Hp} {σ : L2.St} {Q : VK} {x : R D} (p : Post Γ W G H σ (Rp Γ K) Q x) : Post Γ (fun cls d _ H' => WE W σ cls d H') G H [] (Rp Γ K) Q x := by
  cases x with
  | ok a => exact p
  | exc c => exact p
  | stuck => exact p
theorem se_call {x : Str} {k : Nat} {ps : List Str} {m : List D → R D} {fs : En → R (List D)} (C : Ct X W j) (F : Cal Γ X.prog X.w X.K X.mg X.base x k ps m) (hg : Gl X x) (ha : SA Γ X W (e :: es) fs) (hk : k ≤ j := by decide)
    (hdb : (x == ("__debug__" : Str)) = false := by decide) (he : starEach (e :: es) X.env = (false, eval e X.env) :: starEach es X.env := by rfl) (hpl : (backTo pos (starEach es X.env)).any (·.1) = false := by rfl) :
    SE Γ X W (.Call (.Name x p) (e :: es) [] pos) (fun ρ => (fs ρ).bind m) := by
  obtain ⟨ta, pa, qa⟩ := ha.out
  obtain ⟨f, fd, F1, F2, F3, F4⟩ := F.ex
  refine .mk ⟨_, pe_callS (E := WE W) F1 (C.hr.mono hk) hg F2 F3 F4 (fun σ => passAt C.tk σ) pa hdb he hpl, fun {B G H σ ρ Q} r p => ?_⟩
  refine qa r (p.bind fun G1 H1 v ds e1 r1 p1 => ?_)
  refine ⟨G1, ds, e1.s, (r.go e1).tab, r1, ?_, p1.toSp⟩
  by_cases hl : ds.length = ps.length
  · exact hl
  · rw [F.len ds hl] at p1
    exact p1.elim

/-! ### slices -/
def asI : D → R Int
  | .int i => .ok i
  | _ => .stuck
def SO (Γ : Gam) (X : Cx) (W : WX) (e : Option Expr) (f : En → R (Option Int)) : Prop :=
  ∃ t, PO X e t ∧ ∀ {B : Hp × Hp} {G H : Hp} {σ : L2.St} {ρ : En} {Q : Option Int → Hp → Prop}, Rel Γ X.K B G H σ ρ → Post Γ W G H σ (fun _ i k => i = k) Q (f ρ) → t σ H Q
theorem so_none : SO Γ X W none (fun _ => .ok none) := ⟨_, po_none, fun r p => p.here r.same rfl⟩
theorem so_some (ha : SE Γ X W a fa) : SO Γ X W (some a) (fun ρ => (fa ρ).bind fun d => (asI d).bind fun i => .ok (some i)) := by
  obtain ⟨ta, pa, qa⟩ := ha.out
  refine ⟨_, po_some pa, fun {B G H σ ρ Q} r p => ?_⟩
  refine qa r (p.bind fun G1 H1 v d e1 r1 p1 => ?_)
  cases r1 <;> first | exact p1.elim | skip
  exact ⟨_, rfl, p1.here e1.s rfl⟩
def cutA {α : Type} (xs : List α) (lo hi : Option Int) : List α := (xs.drop (HT.sIx xs.length 0 lo)).take (HT.sIx xs.length xs.length hi - HT.sIx xs.length 0 lo)
def SlS (Γ : Gam) (K : PySem.W.Frag) (W : WX) (r : V → Option Int → Option Int → Hp → VK → Prop) (g : D → Option Int → Option Int → R D) : Prop :=
  ∀ {G H : Hp} {σ : L2.St} {x : V} {d : D} {lo hi : Option Int} {Q : VK}, Same G H → Rp Γ K G x d → Post Γ W G H σ (Rp Γ K) Q (g d lo hi) → r x lo hi H Q
theorem se_slice {r : V → Option Int → Option Int → Hp → VK → Prop} {g : D → Option Int → Option Int → R D} {lo hi : Option Expr} {fl fh : En → R (Option Int)} {p2 : Pos} (hr : SlR X r) (hg : SlS Γ X.K W r g) (ha : SE Γ X W a fa) (hl : SO Γ X W lo fl) (hh : SO Γ X W hi fh) :
    SE Γ X W (.Subscript a (.Slice lo hi none p2) pos) (fun ρ => (fa ρ).bind fun x => (fl ρ).bind fun l => (fh ρ).bind fun h => g x l h) := by
  obtain ⟨ta, pa, qa⟩ := ha.out
  obtain ⟨tl, pl, ql⟩ := hl
  obtain ⟨th, ph, qh⟩ := hh
  refine .mk ⟨_, pe_slice hr pa pl ph, fun {B G H σ ρ Q} r p => ?_⟩
  refine qa r (p.bind fun G1 H1 v d e1 r1 p1 => ?_)
  refine ql (r.go e1) (p1.bind fun G2 H2 l l' e2 r2 p2 => ?_)
  refine qh ((r.go e1).go e2) (p2.bind fun G3 H3 h h' e3 r3 p3 => ?_)
  cases r2
  cases r3
  exact hg e3.s ((r1.mono e2.g).mono e3.g) p3

/-! ### what is walked -/
/-- J walks the data ds while the frozen part at G stands -/
def ItOk (Γ : Gam) (K : PySem.W.Frag) (G : Hp) (J : It) (ds : List D) : Prop :=
  ∃ (Gd : Hp → Prop) (Y : Nat → Hp → V → Hp → Prop), Walk J ds.length Gd Y ∧ (∀ H, Same G H → Gd H) ∧
    ∀ i H x H' G1, i < ds.length → Y i H x H' → Same G G1 → Same G1 H → ∃ G2 d, Ext G1 H G2 H' ∧ ds[i]? = some d ∧ Rp Γ K G2 x d
def SI (Γ : Gam) (X : Cx) (W : WX) (tg e : Expr) (f : En → R (List D)) : Prop :=
  ∃ wi, PI X tg e wi ∧ ∀ {B : Hp × Hp} {G H : Hp} {σ : L2.St} {ρ : En} {Q : It → Hp → Prop}, Rel Γ X.K B G H σ ρ → Post Γ W G H σ (ItOk Γ X.K) Q (f ρ) → wi σ H Q
theorem ItOk.of_at {K : PySem.W.Frag} {G : Hp} {J : It} {xs : List V} {ds : List D} {Gd : Hp → Prop} (w : Walk J xs.length Gd (YAt xs)) (hG : ∀ H, Same G H → Gd H) (r : RpA Γ K G xs ds) : ItOk Γ K G J ds := by
  refine ⟨Gd, YAt xs, by rw [← r.length]; exact w, hG, fun i H x H' G1 hi y s1 s2 => ?_⟩
  obtain ⟨e, hx⟩ := y
  subst e
  obtain ⟨d, h1, h2⟩ := r.get' hx
  exact ⟨G1, d, .refl s2, h1, h2.mono s1⟩
/-- two ways to walk -/
theorem pi_or {tg : Expr} {w1 w2 : TI} (h1 : PI X tg e w1) (h2 : PI X tg e w2) : PI X tg e (fun σ H R => w1 σ H R ∨ w2 σ H R) := ⟨fun pins s σ H R I h => by
  rcases h with h | h
  · exact h1.run pins s σ H R I h
  · exact h2.run pins s σ H R I h⟩
def iterL : D → R (List D)
  | .lst ds => .ok ds
  | _ => .stuck
def iterT : D → R (List D)
  | .tup ds => .ok ds
  | _ => .stuck
theorem si_list {tg : Expr} (ha : SE Γ X W a fa) : SI Γ X W tg a (fun ρ => (fa ρ).bind iterL) := by
  obtain ⟨ta, pa, qa⟩ := ha.out
  refine ⟨_, pi_list pa, fun {B G H σ ρ Q} r p => ?_⟩
  refine qa r (p.bind fun G1 H1 v d e1 r1 p1 => ?_)
  cases r1 <;> first | exact p1.elim | skip
  rename_i l xs ds hs hr
  exact ⟨l, rfl, ⟨xs, .of (e1.s _ _ hs)⟩, p1.here e1.s (.of_at walk_list (fun H h => .of (h _ _ hs)) hr)⟩
theorem si_tup {tg : Expr} (ha : SE Γ X W a fa) : SI Γ X W tg a (fun ρ => (fa ρ).bind iterT) := by
  obtain ⟨ta, pa, qa⟩ := ha.out
  refine ⟨_, pi_tup pa, fun {B G H σ ρ Q} r p => ?_⟩
  refine qa r (p.bind fun G1 H1 v d e1 r1 p1 => ?_)
  cases r1 <;> first | exact p1.elim | skip
  rename_i l xs ds hs hr
  exact ⟨l, rfl, ⟨xs, e1.s.seqT hs⟩, p1.here e1.s (.of_at walk_tup (fun H h => h.seqT hs) hr)⟩
/-- range(a, b) -/
def rngD (lo hi : Int) : R (List D) := if lo.natAbs ≤ 1000000 ∧ hi.natAbs ≤ 1000000 then .ok ((List.range (hi - lo).toNat).map fun i => D.int (lo + (i : Nat))) else .stuck
theorem nab {n : Int} (h : n.natAbs ≤ 1000000) : -1000000 ≤ n ∧ n ≤ 1000000 := by omega
theorem rng_it {K : PySem.W.Frag} {G : Hp} (lo : Int) (n : Nat) : ItOk Γ K G (Itr lo n) ((List.range n).map fun i => D.int (lo + (i : Nat))) := by
  refine ⟨fun _ => True, YFn fun i => .int (lo + i), ?_, fun _ _ => trivial, fun i H x H' G1 hi y s1 s2 => ?_⟩
  · have e : ((List.range n).map fun i => D.int (lo + (i : Nat))).length = n := by simp
    rw [e]; exact walk_range
  · obtain ⟨e1, e2⟩ := y
    subst e1 e2
    refine ⟨G1, .int (lo + i), .refl s2, ?_, .int _⟩
    have hi' : i < n := by simpa using hi
    simp [hi']
def rng1 : List D → R (List D)
  | [.int n] => rngD 0 n
  | _ => .stuck
def rng2 : List D → R (List D)
  | [.int a, .int b] => rngD a b
  | _ => .stuck
theorem si_range1 {tg : Expr} {fs : En → R (List D)} (hg : Gl X "range") (hm : X.mg "range" = none) (ha : SA Γ X W [a] fs) (hs : starEach [a] X.env = [(false, eval a X.env)] := by rfl) : SI Γ X W tg (.Call (.Name "range" p) [a] [] pos) (fun ρ => (fs ρ).bind rng1) := by
  obtain ⟨ta, pa, qa⟩ := ha.out
  refine ⟨_, pi_range1 hg hm pa hs, fun {B G H σ ρ Q} r p => ?_⟩
  refine qa r (p.bind fun G1 H1 v d e1 r1 p1 => ?_)
  unfold rng1 at p1
  split at p1
  · cases r1 with
    | cons r1 r2 =>
      cases r1
      cases r2
      rename_i n
      unfold rngD at p1
      split at p1
      · rename_i hb
        have hb := nab hb.2
        refine ⟨n, rfl, by omega, by omega, ?_⟩
        have h := p1.here e1.s (rng_it 0 (n - 0).toNat)
        simpa using h
      · exact p1.elim
  · exact p1.elim
theorem si_range2 {tg : Expr} {fs : En → R (List D)} (hg : Gl X "range") (hm : X.mg "range" = none) (ha : SA Γ X W [a, b] fs) (hs : starEach [a, b] X.env = [(false, eval a X.env), (false, eval b X.env)] := by rfl) (hs2 : starEach [b] X.env = [(false, eval b X.env)] := by rfl) :
    SI Γ X W tg (.Call (.Name "range" p) [a, b] [] pos) (fun ρ => (fs ρ).bind rng2) := by
  obtain ⟨ta, pa, qa⟩ := ha.out
  refine ⟨_, pi_range2 hg hm pa hs hs2, fun {B G H σ ρ Q} r p => ?_⟩
  refine qa r (p.bind fun G1 H1 v d e1 r1 p1 => ?_)
  unfold rng2 at p1
  split at p1
  · cases r1 with
    | cons r1 r2 =>
      cases r2 with
      | cons r2 r3 =>
        cases r1
        cases r2
        cases r3
        rename_i lo n
        unfold rngD at p1
        split at p1
        · rename_i hb
          have hb1 := nab hb.1
          have hb2 := nab hb.2
          clear hb
          exact ⟨lo, n, rfl, by omega, p1.here e1.s (rng_it lo (n - lo).toNat)⟩
        · exact p1.elim
  · exact p1.elim

/-! ### targets -/
/-- only the slots js differ -/
def Only (js : List Nat) (σ σ' : L2.St) : Prop := σ'.length = σ.length ∧ ∀ i, i ∉ js → σ'[i]? = σ[i]?
theorem Only.trans {js ks : List Nat} {σ σ1 σ2 : L2.St} (a : Only js σ σ1) (b : Only ks σ1 σ2) : Only (js ++ ks) σ σ2 :=
  ⟨b.1.trans a.1, fun i hi => (b.2 i fun h => hi (List.mem_append_right _ h)).trans (a.2 i fun h => hi (List.mem_append_left _ h))⟩
theorem Only.refl {σ : L2.St} : Only [] σ σ := ⟨rfl, fun _ _ => rfl⟩
theorem Only.set {i : Nat} {x : Option V} {σ : L2.St} : Only [i] σ (σ.set i x) := ⟨by simp, fun j hj => List.getElem?_set_ne fun e => hj (by simp [e])⟩
def PostG (Γ : Gam) (K : PySem.W.Frag) (B : Hp × Hp) (G H : Hp) (σ : L2.St) (js : List Nat) (Q : L2.St → Hp → Prop) : Option En → Prop
  | some ρ => ∀ σ', Rel Γ K B G H σ' ρ → Only js σ σ' → Q σ' H
  | none => False
def tG (Γ : Gam) (K : PySem.W.Frag) (js : List Nat) (g : D → En → Option En) : TG := fun v σ H Q => ∃ B G ρ d, Rel Γ K B G H σ ρ ∧ Rp Γ K G v d ∧ PostG Γ K B G H σ js Q (g d ρ)
def SG (Γ : Gam) (X : Cx) (tg : Expr) (js : List Nat) (g : D → En → Option En) : Prop := PG X tg (tG Γ X.K js g)
def SGs (Γ : Gam) (X : Cx) (ts : List Expr) (js : List Nat) (g : List D → En → Option En) : Prop :=
  PGs X ts (fun vs σ H Q => ∃ B G ρ ds, Rel Γ X.K B G H σ ρ ∧ RpA Γ X.K G vs ds ∧ PostG Γ X.K B G H σ js Q (g ds ρ))
theorem PG.imp {tg : Expr} {t t' : TG} (h : PG X tg t) (q : ∀ v σ H Q, t' v σ H Q → t v σ H Q) : PG X tg t' := ⟨fun pins s σ H v u Q I r w => h.run pins s σ H v u Q I r (q _ _ _ _ w)⟩
theorem PGs.imp {tg : List Expr} {t t' : TGs} (h : PGs X tg t) (q : ∀ v σ H Q, t' v σ H Q → t v σ H Q) : PGs X tg t' := ⟨fun pins s σ H v u Q I r w => h.run pins s σ H v u Q I r (q _ _ _ _ w)⟩
def putN (i : Nat) : D → En → Option En := fun d ρ => some (ρ.set i (some (.val d)))
theorem sg_name (i : Nat) {x : Str} (hN : X.N.Nodup) (hi : X.N[i]? = some x := by rfl) (hx : Loc X.env.scope x := by first | exact .inl rfl | exact .inr rfl) (hf : X.fn x = true ∨ X.env.scope.names.lookup x = some .local := by first | exact .inl rfl | exact .inr rfl | assumption) : SG Γ X (.Name x pos) [i] (putN i) :=
  PG.imp (pg_name hN hi hx hf) fun v σ H Q ⟨B, G, ρ, d, r, rv, q⟩ => q _ (r.set rv) Only.set
def putAll (g : D → En → Option En) (gs : List D → En → Option En) : List D → En → Option En := fun ds ρ => match ds with
  | d :: ds => (g d ρ).bind fun ρ1 => gs ds ρ1
  | [] => none
def putNil : List D → En → Option En := fun ds ρ => match ds with
  | [] => some ρ
  | _ => none
theorem sgs_nil : SGs Γ X [] [] putNil := PGs.imp pgs_nil fun v σ H Q hh => by
  obtain ⟨B, G, ρ, ds, r, rv, q⟩ := hh
  cases rv with
  | nil => exact ⟨rfl, q _ r Only.refl⟩
  | cons _ _ => exact q.elim
theorem sgs_cons {js ks : List Nat} {g : D → En → Option En} {gs : List D → En → Option En} (h1 : SG Γ X e js g) (h2 : SGs Γ X es ks gs)
    (hs : (assignEach (e :: es) X.env).map (·.2) = assign e X.env :: (assignEach es X.env).map (·.2) := by rfl) : SGs Γ X (e :: es) (js ++ ks) (putAll g gs) :=
  PGs.imp (pgs_cons h1 h2 hs) fun v σ H Q hh => by
    obtain ⟨B, G, ρ, ds, r, rv, q⟩ := hh
    cases rv with
    | nil => exact q.elim
    | cons r1 r2 =>
      rename_i v vs d ds
      refine ⟨_, _, rfl, B, G, ρ, d, r, r1, ?_⟩
      have q' : PostG Γ X.K B G H σ (js ++ ks) Q ((g d ρ).bind fun ρ1 => gs ds ρ1) := q
      cases hg : g d ρ with
      | none => rw [hg] at q'; exact q'.elim
      | some ρ1 =>
        rw [hg] at q'
        refine fun σ1 rr o1 => ⟨B, G, ρ1, ds, rr, r2, ?_⟩
        have q2 : PostG Γ X.K B G H σ (js ++ ks) Q (gs ds ρ1) := q'
        cases hg2 : gs ds ρ1 with
        | none => rw [hg2] at q2; exact q2.elim
        | some ρ2 =>
          rw [hg2] at q2
          exact fun σ2 rr2 o2 => q2 σ2 rr2 (o1.trans o2)
def putT (gs : List D → En → Option En) : D → En → Option En := fun d ρ => match d with
  | .tup ds => gs ds ρ
  | _ => none
theorem sg_tup {k : Nat} {js : List Nat} {gs : List D → En → Option En} {n : Nat} (hc : X.calm = true) (h : SGs Γ X es js gs) (hl : ∀ ds ρ, gs ds ρ ≠ none → ds.length = n)
    (hn : (assignEach es X.env).length = n := by rfl) (hst : (assignEach es X.env).findIdx? (·.1) = none := by rfl) : SG Γ X (.Tuple es k pos) js (putT gs) :=
  PG.imp (pg_tup hc h hn hst) fun v σ H Q hh => by
    obtain ⟨B, G, ρ, d, r, rv, q⟩ := hh
    cases rv <;> first | exact q.elim | skip
    rename_i l xs ds hs hr
    have q' : PostG Γ X.K B G H σ js Q (gs ds ρ) := q
    refine ⟨l, xs, rfl, r.same.seqT hs, ?_, B, G, ρ, ds, r, hr, q'⟩
    rw [hr.length]
    refine hl ds ρ fun z => ?_
    rw [z] at q'
    exact q'.elim
theorem putNil_len : ∀ (ds : List D) (ρ : En), putNil ds ρ ≠ none → ds.length = 0
  | [], _, _ => rfl
  | _ :: _, _, h => absurd rfl h
theorem putAll_len {g : D → En → Option En} {gs : List D → En → Option En} {n : Nat} (h : ∀ ds ρ, gs ds ρ ≠ none → ds.length = n) : ∀ (ds : List D) (ρ : En), putAll g gs ds ρ ≠ none → ds.length = n + 1
  | [], _, q => absurd rfl q
  | d :: ds, ρ, q => by
    have q' : ((g d ρ).bind fun ρ1 => gs ds ρ1) ≠ none := q
    cases e : g d ρ with
    | none => rw [e] at q'; exact absurd rfl q'
    | some ρ1 =>
      rw [e] at q'
      exact congrArg (· + 1) (h ds ρ1 q')
end
end VL
end
section
set_option Elab.async false
set_option linter.all false
set_option maxRecDepth 100000
set_option maxHeartbeats 2000000
set_option autoImplicit false
namespace VL
open PySem PySem.Spec PyProof.Rows L2
variable [TabN]

/-! ### the block of a comprehension -/
def wipeE (ρ : En) : List Nat → En
  | [] => ρ
  | v :: vs => (wipeE ρ vs).set v none
theorem Rel.wipe {Γ : Gam} {K : PySem.W.Frag} {B : Hp × Hp} {G H : Hp} {σ : L2.St} {ρ : En} (r : Rel Γ K B G H σ ρ) : ∀ vs : List Nat, Rel Γ K B G H (wipe σ vs) (wipeE ρ vs)
  | [] => r
  | v :: vs => (Rel.wipe r vs).unset
theorem wipe_in {σ : L2.St} {i : Nat} : ∀ {vs : List Nat}, i ∈ vs → (wipe σ vs)[i]? = if i < σ.length then some none else none
  | [], h => by cases h
  | v :: vs, h => by
    unfold wipe
    by_cases hv : v = i
    · subst hv
      by_cases hl : v < σ.length
      · rw [if_pos hl, List.getElem?_set_self (by rw [wipe_length]; exact hl)]
      · rw [if_neg hl, List.getElem?_eq_none (by simpa [wipe_length] using hl)]
    · rw [List.getElem?_set_ne hv]
      exact wipe_in ((List.mem_cons.mp h).resolve_left fun e => hv e.symm)
theorem wipe_only {js vs : List Nat} {σ σ' : L2.St} (o : Only js (wipe σ vs) σ') (h : ∀ i ∈ js, i ∈ vs) : wipe σ' vs = wipe σ vs := by
  refine List.ext_getElem? fun i => ?_
  have hl : σ'.length = σ.length := by rw [o.1, wipe_length]
  by_cases hi : i ∈ vs
  · rw [wipe_in hi, wipe_in hi, hl]
  · rw [wipe_out hi, wipe_out hi, o.2 i fun z => hi (h i z), wipe_out hi]
/-- nothing is raised -/
def noX {α : Type} : R α → R α
  | .ok a => .ok a
  | _ => .stuck
def lcD (vs : List Nat) (g : D → En → Option En) (ft : En → R Bool) (fe : En → R D) (ρ : En) : List D → R (List D)
  | [] => .ok []
  | d :: ds => match g d (wipeE ρ vs) with
    | none => .stuck
    | some ρ1 => (noX (ft ρ1)).bind fun b => if b then (noX (fe ρ1)).bind fun y => (lcD vs g ft fe ρ ds).bind fun ys => .ok (y :: ys) else lcD vs g ft fe ρ ds
section
variable {Γ : Gam} {X : Cx} {W : WX} {a b c e : Expr} {es : List Expr} {fa fb fc : En → R D} {pos p : Pos} {j : Nat}
theorem Post.noX {α ν : Type} {W W' : WX} {G H : Hp} {σ σ' : L2.St} {rel : Hp → ν → α → Prop} {Q : ν → Hp → Prop} {x : R α} (p : Post Γ W G H σ rel Q (VL.noX x)) : Post Γ W' G H σ' rel Q x := by
  cases x with
  | ok a => exact p
  | exc c => exact p.elim
  | stuck => exact p.elim
def STs (Γ : Gam) (X : Cx) (W : WX) (ifs : List Expr) (f : En → R Bool) : Prop := PTs X ifs (tT Γ X.K W f)
theorem PTs.imp {ifs : List Expr} {t t' : TT} (h : PTs X ifs t) (q : ∀ σ H Q, t' σ H Q → t σ H Q) : PTs X ifs t' := ⟨fun pins s σ H Q I w => h.run pins s σ H Q I (q _ _ _ w)⟩
theorem sts_nil : STs Γ X W [] (fun _ => .ok true) := PTs.imp pts_nil fun σ H Q ⟨B, G, ρ, r, p⟩ => p.here r.same rfl
theorem sts_one {f : En → R Bool} (h : ST Γ X W c f) : STs Γ X W [c] f := pts_one h
theorem _root_.VL.Ext.mutNew {G H G1 H1 : Hp} {L : Addr} {o x0 : HO} (e : Ext G1 H1 G H) (n : H1 L = none) (g : G L = none) (hx : H L = some x0) (hnt : NoTab x0) : Ext G1 H1 G (upd H L o) :=
  ⟨e.g, fun b x h => by rw [upd_ne (ne_of_none h g)]; exact e.s _ _ h, fun b x h q t => by rw [upd_ne (ne_of_none h n)]; exact e.k b x h q t, fun b h => e.d b (upd_none h), fun h => (e.t h).upd hx hnt⟩
theorem _root_.VL.Ext.frzNew {G H G1 H1 : Hp} {L : Addr} {o : HO} (e : Ext G1 H1 G H) (n : H1 L = none) (g : G L = none) (h : H L = some o) (ho : NoTab o := by intro _ z; cases z) : Ext G1 H1 (upd G L o) H :=
  ⟨e.g.trans (same_upd g), fun b x hb => by
    by_cases hL : b = L
    · subst hL; rw [upd_same] at hb; rw [h]; exact hb
    · rw [upd_ne hL] at hb; exact e.s _ _ hb, fun b x hb q t => by rw [upd_ne (ne_of_none hb n)]; exact e.k b x hb q t, e.d, fun t => (e.t t).put g ho⟩
abbrev relL (Γ : Gam) (K : PySem.W.Frag) : Hp → V → List D → Prop := fun G1 v ds => ∃ p vs, v = V.ref p ∧ G1 p = some (.lst vs) ∧ RpA Γ K G1 vs ds
def lcM (own : List Nat) (g : D → En → Option En) (ft : En → R Bool) (fe : En → R D) (ρ : En) : List D → R (List D) := fun ds => if ds.length ≤ 100000 then lcD own g ft fe ρ ds else .stuck
/-- the walk of a comprehension; the new list stays private: what is wanted is told of it -/
theorem lc_sem {own : List Nat} {fi : En → R (List D)} {js : List Nat} {g : D → En → Option En} {ft : En → R Bool} {fe : En → R D} {wi : TI}
    (qi : ∀ {B : Hp × Hp} {G H : Hp} {σ : L2.St} {ρ : En} {Q : It → Hp → Prop}, Rel Γ X.K B G H σ ρ → Post Γ W G H σ (ItOk Γ X.K) Q (fi ρ) → wi σ H Q) (hjs : ∀ i ∈ js, i ∈ own)
    {B : Hp × Hp} {G H : Hp} {σ : L2.St} {ρ : En} {Q : VK} (r : Rel Γ X.K B G H σ ρ)
    (q : Post Γ W G H σ (ItOk Γ X.K) (fun _ _ => True) (fi ρ))
    (hq : ∀ ds G1 H1, fi ρ = .ok ds → Ext G H G1 H1 → ∃ ys, lcM own g ft fe ρ ds = .ok ys ∧ ∀ L G2 H2 acc, H1 L = none → Ext G1 H1 G2 H2 → G2 L = none → H2 L = some (.lst acc) → RpA Γ X.K G2 acc ys → Q (.ref L) H2) :
    tLc wi (tG Γ X.K js g) (tT Γ X.K W0 ft) (tE Γ X.K W0 fe) own σ H Q := by
  refine qi r ?_
  cases hfi : fi ρ with
  | exc c => rw [hfi] at q; exact q
  | stuck => rw [hfi] at q; exact q
  | ok ds =>
  intro G1 H1 J e1 it L hL
  obtain ⟨ys0, hlc, fin⟩ := hq ds G1 H1 hfi e1
  unfold lcM at hlc
  split at hlc
  case isFalse => cases hlc
  rename_i hds
  obtain ⟨Gd, Y, w, hG, hY⟩ := it
  refine lc_it (g := tG Γ X.K js g) (tt := tT Γ X.K W0 ft) (te := tE Γ X.K W0 fe) (vs := own) (σ := σ) (Qd := fun H => Q (.ref L) H) w (fun i H2 => ∃ G2 acc ys, Ext G1 H1 G2 H2 ∧ G2 L = none ∧ H2 L = some (.lst acc) ∧ RpA Γ X.K G2 acc ys ∧ ys.length ≤ i ∧
      ∃ zs, lcD own g ft fe ρ (ds.drop i) = .ok zs ∧ ys ++ zs = ys0) ?_ ?_ ?_ ?_
  · exact ⟨G1, [], [], .priv e1.s hL, e1.s.none hL, upd_same, .nil, Nat.le_refl _, ys0, hlc, rfl⟩
  · rintro i H2 hi ⟨G2, acc, ys, e2, _⟩
    exact hG H2 (e2.g.trans e2.s)
  · rintro i x H2 H3 hi ⟨G2, acc, ys, e2, gL, hL2, ra, hl, zs, hz, hzs⟩ hy
    obtain ⟨G3, d, e3, hd, rd⟩ := hY i H2 x H3 G2 hi hy e2.g e2.s
    have hdrop : ds.drop i = d :: ds.drop (i + 1) := by
      obtain ⟨h1, h2⟩ := List.getElem?_eq_some_iff.mp hd
      rw [List.drop_eq_getElem_cons h1, h2]
    rw [hdrop] at hz
    unfold lcD at hz
    have e13 := e2.trans e3
    obtain ⟨hL3, gL3⟩ := e3.k L _ hL2 gL fun _ z => nomatch z
    have rr : Rel Γ X.K B G3 H3 (wipe σ own) (wipeE ρ own) := ((r.go e1).go e13).wipe own
    refine ⟨B, G3, wipeE ρ own, d, rr, rd, ?_⟩
    cases hg : g d (wipeE ρ own) with
    | none => rw [hg] at hz; cases hz
    | some ρ1 =>
      rw [hg] at hz
      dsimp only at hz
      intro σ2 r2 o2
      refine ⟨wipe_only o2 hjs, B, G3, ρ1, r2, ?_⟩
      cases hft : ft ρ1 with
      | exc _ => rw [hft] at hz; cases hz
      | stuck => rw [hft] at hz; cases hz
      | ok bb =>
        rw [hft] at hz
        intro G4 H4 b4 e4 rb
        have rb' : b4 = bb := rb
        subst rb'
        obtain ⟨hL4, gL4⟩ := e4.k L _ hL3 gL3 fun _ z => nomatch z
        cases b4 with
        | false => exact iteF ⟨G4, acc, ys, e13.trans e4, gL4, hL4, (ra.mono e3.g).mono e4.g, by omega, zs, hz, hzs⟩
        | true =>
          refine iteT ⟨B, G4, ρ1, r2.go e4, ?_⟩
          have hz' : (VL.noX (fe ρ1)).bind (fun y => (lcD own g ft fe ρ (ds.drop (i + 1))).bind fun ys => R.ok (y :: ys)) = .ok zs := hz
          cases hfe : fe ρ1 with
          | exc _ => rw [hfe] at hz'; cases hz'
          | stuck => rw [hfe] at hz'; cases hz'
          | ok y =>
            rw [hfe] at hz'
            intro G5 H5 v e5 rv
            obtain ⟨hL5, gL5⟩ := e5.k L _ hL4 gL4 fun _ z => nomatch z
            have e15 := (e13.trans e4).trans e5
            refine ⟨acc, hL5, ?_, G5, acc ++ [v], ys ++ [y], e15.mutNew hL gL5 hL5 noTab_lst, gL5, upd_same, (((ra.mono e3.g).mono e4.g).mono e5.g).append (.one rv), ?_, ?_⟩
            · rw [ra.length, sizeLine_eq]; omega
            · simp; omega
            · cases hrest : lcD own g ft fe ρ (ds.drop (i + 1)) with
              | exc _ => rw [hrest] at hz'; cases hz'
              | stuck => rw [hrest] at hz'; cases hz'
              | ok ws =>
                rw [hrest] at hz'
                have : R.ok (y :: ws) = R.ok zs := hz'
                cases this
                exact ⟨ws, rfl, by rw [← hzs]; simp⟩
  · rintro H2 ⟨G2, acc, ys, e2, gL, hL2, ra, hl, zs, hz, hzs⟩
    rw [List.drop_length] at hz
    cases hz
    rw [List.append_nil] at hzs
    subst hzs
    exact fin L G2 H2 acc hL e2 gL hL2 ra

/-! ### a new list, private -/
def PostF (Γ : Gam) (K : PySem.W.Frag) (W : WX) (G H : Hp) (σ : L2.St) (Q : VK) : R (List D) → Prop
  | .ok ds => ∀ L G' H' acc, H L = none → Ext G H G' H' → G' L = none → H' L = some (.lst acc) → RpA Γ K G' acc ds → Q (.ref L) H'
  | .exc c => ∀ G' H', Ext G H G' H' → W (Γ.cls c) none σ H'
  | .stuck => False
def tF (Γ : Gam) (K : PySem.W.Frag) (W : WX) (f : En → R (List D)) : TE := fun σ H Q => ∃ B G ρ, Rel Γ K B G H σ ρ ∧ PostF Γ K W G H σ Q (f ρ)
def SF (Γ : Gam) (X : Cx) (W : WX) (e : Expr) (f : En → R (List D)) : Prop := PE X e (tF Γ X.K W f)
theorem PE.imp {t t' : TE} (h : PE X e t) (q : ∀ σ H Q, t' σ H Q → t σ H Q) : PE X e t' := ⟨fun pins s σ H Q I w => h.run pins s σ H Q I (q _ _ _ w)⟩
theorem PostF.ext {G H G1 H1 : Hp} {σ : L2.St} {K : PySem.W.Frag} {Q : VK} {x : R (List D)} (p : PostF Γ K W G H σ Q x) (e : Ext G H G1 H1) : PostF Γ K W G1 H1 σ Q x := by
  cases x with
  | ok a => exact fun L G' H' acc n e' => p L G' H' acc (e.d L n) (e.trans e')
  | exc c => exact fun G' H' e' => p G' H' (e.trans e')
  | stuck => exact p
def toL (x : R (List D)) : R D := x.bind fun ds => .ok (.lst ds)
theorem PostF.of {G H : Hp} {σ : L2.St} {K : PySem.W.Frag} {Q : VK} {x : R (List D)} (p : Post Γ W G H σ (Rp Γ K) Q (toL x)) : PostF Γ K W G H σ Q x := by
  cases x with
  | ok ds => exact fun L G' H' acc n e g h r => p _ _ _ (e.frzNew n g h) (.lst upd_same (r.mono (same_upd g)))
  | exc c => exact p
  | stuck => exact p
theorem SF.se {f : En → R (List D)} (h : SF Γ X W e f) : SE Γ X W e (fun ρ => toL (f ρ)) := PE.imp h fun σ H Q ⟨B, G, ρ, r, p⟩ => ⟨B, G, ρ, r, PostF.of p⟩
def lim (x : R (List D)) : R (List D) := x.bind fun ds => if ds.length ≤ 100000 then .ok ds else .stuck
theorem sf_lst {fs : En → R (List D)} (h : SA Γ X W es fs) : SF Γ X W (.List es pos) (fun ρ => lim (fs ρ)) := by
  obtain ⟨ta, pa, qa⟩ := h.out
  refine PE.imp (pe_lst pa) fun σ H Q hh => ?_
  obtain ⟨B, G, ρ, r, p⟩ := hh
  dsimp only at p
  refine qa r ?_
  cases hf : fs ρ with
  | exc c => rw [hf] at p; exact p
  | stuck => rw [hf] at p; exact p
  | ok ds =>
    rw [hf] at p
    unfold lim R.bind at p
    dsimp only at p
    intro G1 H1 v e1 r1
    split at p
    · rename_i hl
      refine ⟨by rw [r1.length]; exact line_of hl, fun q hq => ?_⟩
      exact p q G1 (upd H1 q (.lst v)) v (e1.d q hq) (e1.trans (.priv e1.s hq)) (e1.s.none hq) upd_same r1
    · exact p.elim
theorem lcD_noexc (own : List Nat) (g : D → En → Option En) (ft : En → R Bool) (fe : En → R D) (ρ : En) : ∀ (ds : List D) (c : Nat), lcD own g ft fe ρ ds ≠ .exc c
  | [], _ => fun h => by cases h
  | d :: ds, c => fun h => by
    have ih := lcD_noexc own g ft fe ρ ds
    unfold lcD at h
    split at h
    · cases h
    · rename_i ρ1 _
      cases hft : ft ρ1 with
      | exc _ => rw [hft] at h; cases h
      | stuck => rw [hft] at h; cases h
      | ok b =>
        rw [hft] at h
        cases b with
        | false => exact ih c h
        | true =>
          have h' : (VL.noX (fe ρ1)).bind (fun y => (lcD own g ft fe ρ ds).bind fun ys => R.ok (y :: ys)) = .exc c := h
          cases hfe : fe ρ1 with
          | exc _ => rw [hfe] at h'; cases h'
          | stuck => rw [hfe] at h'; cases h'
          | ok y =>
            rw [hfe] at h'
            cases hr : lcD own g ft fe ρ ds with
            | exc c' => exact ih c' hr
            | stuck => rw [hr] at h'; cases h'
            | ok _ => rw [hr] at h'; cases h'
theorem lcM_noexc (own : List Nat) (g : D → En → Option En) (ft : En → R Bool) (fe : En → R D) (ρ : En) (ds : List D) (c : Nat) : lcM own g ft fe ρ ds ≠ .exc c := by
  unfold lcM
  split
  · exact lcD_noexc own g ft fe ρ ds c
  · intro h; cases h
/-- .. used: from what is wanted of the mirror -/
theorem lc_use {own : List Nat} {fi : En → R (List D)} {js : List Nat} {g : D → En → Option En} {ft : En → R Bool} {fe : En → R D} {wi : TI}
    (qi : ∀ {B : Hp × Hp} {G H : Hp} {σ : L2.St} {ρ : En} {Q : It → Hp → Prop}, Rel Γ X.K B G H σ ρ → Post Γ W G H σ (ItOk Γ X.K) Q (fi ρ) → wi σ H Q) (hjs : ∀ i ∈ js, i ∈ own)
    {B : Hp × Hp} {G H : Hp} {σ : L2.St} {ρ : En} {Q : VK} (r : Rel Γ X.K B G H σ ρ) (p : PostF Γ X.K W G H σ Q ((fi ρ).bind fun ds => lcM own g ft fe ρ ds)) :
    tLc wi (tG Γ X.K js g) (tT Γ X.K W0 ft) (tE Γ X.K W0 fe) own σ H Q := by
  refine lc_sem qi hjs r ?_ fun ds G1 H1 hd e1 => ?_
  · cases hfi : fi ρ with
    | ok ds => exact fun _ _ _ _ _ => trivial
    | exc c => rw [hfi] at p; exact p
    | stuck => rw [hfi] at p; exact p
  · rw [hd] at p
    have p' : PostF Γ X.K W G H σ Q (lcM own g ft fe ρ ds) := p
    cases hl : lcM own g ft fe ρ ds with
    | exc c => exact absurd hl (lcM_noexc _ _ _ _ _ _ _)
    | stuck => rw [hl] at p'; exact p'.elim
    | ok ys =>
      rw [hl] at p'
      exact ⟨ys, rfl, fun L G2 H2 acc n e2 => p' L G2 H2 acc (e1.d L n) (e1.trans e2)⟩
/-- [e for ..] -/
theorem sf_lc {scope : Scope} {own : List (Str × Nat)} {elt tg iter : Expr} {ifs : List Expr} {fi : En → R (List D)} {js : List Nat} {g : D → En → Option En} {ft : En → R Bool} {fe : En → R D} (C : Ct X W j) (hi : SI Γ X W tg iter fi) (ok : BlkOk X.N X.env.scope scope own)
    (hg : ∀ (s : Shared) (H : Hp) (C : Addr) (cl : List (Str × Addr)) (fp : List Addr), SG Γ (X.blk s H scope (compEnvC scope cl C X.env) fp) tg js g)
    (ht : ∀ (s : Shared) (H : Hp) (C : Addr) (cl : List (Str × Addr)) (fp : List Addr), STs Γ (X.blk s H scope (compEnvC scope cl C X.env) fp) W0 ifs ft)
    (he : ∀ (s : Shared) (H : Hp) (C : Addr) (cl : List (Str × Addr)) (fp : List Addr), SE Γ (X.blk s H scope (compEnvC scope cl C X.env) fp) W0 elt fe)
    (hjs : ∀ i ∈ js, i ∈ own.map (·.2) := by decide) (hs : ∀ x, foldedSetIterable iter X.env x = pure x := by intro _; rfl) :
    SF Γ X W (.ListComp elt [⟨tg, iter, ifs, 0⟩] scope pos) (fun ρ => (fi ρ).bind fun ds => lcM (own.map (·.2)) g ft fe ρ ds) := by
  obtain ⟨wi, pi, qi⟩ := hi
  refine PE.imp (pe_lc (g := tG Γ X.K js g) (tt := tT Γ X.K W0 ft) (te := tE Γ X.K W0 fe) C.calm C.nd pi ok hg ht he hs) fun σ H Q ⟨B, G, ρ, r, p⟩ => ?_
  exact lc_use qi hjs r p
end
end VL
end
section
set_option Elab.async false
set_option linter.all false
set_option maxRecDepth 100000
set_option maxHeartbeats 2000000
set_option autoImplicit false
namespace VL
open PySem PySem.Spec PyProof.Rows L2
variable [TabN]

/-! ### statements -/
inductive RS where
  | next (ρ : En) | ret (d : D) | retE (d : D) (ρ : En) | retO (k : Nat) (ρ : En) | brk (ρ : En) | cont (ρ : En) | exc (c : Nat) (ρ : En) | stuck
/-- G0: what is frozen already -/
def PostS (Γ : Gam) (K : PySem.W.Frag) (W : WX) (B : Hp × Hp) (G0 : Hp) (E : Ends) : RS → Prop
  | .next ρ => ∀ G H σ, Same G0 G → Rel Γ K B G H σ ρ → E.nx σ H
  | .ret d => ∀ G H v, Ext B.1 B.2 G H → Rp Γ K G v d → E.rt v H
  | .retE d ρ => ∀ G H σ v, Same G0 G → Rel Γ K B G H σ ρ → Rp Γ K G v d → E.rt v H
  | .retO k ρ => ∀ G H σ v, Same G0 G → Rel Γ K B G H σ ρ → σ[k]? = some (some v) → E.rt v H
  | .brk ρ => ∀ G H σ, Same G0 G → Rel Γ K B G H σ ρ → E.bk σ H
  | .cont ρ => ∀ G H σ, Same G0 G → Rel Γ K B G H σ ρ → E.ct σ H
  | .exc c ρ => ∀ G H σ, Same G0 G → Rel Γ K B G H σ ρ → W (Γ.cls c) none σ H
  | .stuck => False
theorem PostS.up {Γ : Gam} {K : PySem.W.Frag} {W : WX} {B : Hp × Hp} {G0 G1 : Hp} {E : Ends} {x : RS} (p : PostS Γ K W B G0 E x) (s : Same G0 G1) : PostS Γ K W B G1 E x := by
  cases x with
  | next ρ => exact fun G H σ s' r => p G H σ (s.trans s') r
  | ret d => exact p
  | retE d ρ => exact fun G H σ v s' r rv => p G H σ v (s.trans s') r rv
  | retO k ρ => exact fun G H σ v s' r rv => p G H σ v (s.trans s') r rv
  | brk ρ => exact fun G H σ s' r => p G H σ (s.trans s') r
  | cont ρ => exact fun G H σ s' r => p G H σ (s.trans s') r
  | exc c ρ => exact fun G H σ s' r => p G H σ (s.trans s') r
  | stuck => exact p
def tS (Γ : Gam) (K : PySem.W.Frag) (W : WX) (f : En → RS) : TS := fun E σ H => ∃ B G ρ, Rel Γ K B G H σ ρ ∧ PostS Γ K W B G E (f ρ)
def SS (Γ : Gam) (X : Cx) (W : WX) (st : Stmt) (f : En → RS) : Prop := PS X st (tS Γ X.K W f)
def SSs (Γ : Gam) (X : Cx) (W : WX) (sts : List Stmt) (f : En → RS) : Prop := PSs X sts (tS Γ X.K W f)
def seqS (f g : En → RS) : En → RS := fun ρ => match f ρ with
  | .next ρ' => g ρ'
  | x => x
/-- an expression's answer, then a statement -/
def thenS {α : Type} (x : R α) (ρ : En) (k : α → RS) : RS := match x with
  | .ok a => k a
  | .exc c => .exc c ρ
  | .stuck => .stuck
section
variable {Γ : Gam} {X : Cx} {W : WX} {a b c e : Expr} {es : List Expr} {fa fb fc : En → R D} {pos p : Pos} {j : Nat} {st : Stmt} {sts : List Stmt} {f g : En → RS} {E : Ends} {B : Hp × Hp}
theorem PS.imp {t t' : TS} (h : PS X st t) (q : ∀ E σ H, t' E σ H → t E σ H) : PS X st t' := ⟨fun pins s σ H E I w => h.run pins s σ H E I (q _ _ _ w)⟩
theorem PSs.imp {t t' : TS} (h : PSs X sts t) (q : ∀ E σ H, t' E σ H → t E σ H) : PSs X sts t' := ⟨fun pins s σ H E I w => h.run pins s σ H E I (q _ _ _ w)⟩
theorem sss_nil : SSs Γ X W [] RS.next := PSs.imp pss_nil fun E σ H ⟨B, G, ρ, r, p⟩ => p G H σ (.refl _) r
theorem sss_cons (h1 : SS Γ X W st f) (h2 : SSs Γ X W sts g) : SSs Γ X W (st :: sts) (seqS f g) := PSs.imp (pss_cons h1 h2) fun E σ H hh => by
  obtain ⟨B, G, ρ, r, p⟩ := hh
  refine ⟨B, G, ρ, r, ?_⟩
  unfold seqS at p
  cases hf : f ρ with
  | next ρ1 => rw [hf] at p; exact fun G1 H1 σ1 s1 r1 => ⟨B, G1, ρ1, r1, PostS.up p s1⟩
  | ret d => rw [hf] at p; exact p
  | retE d ρ1 => rw [hf] at p; exact p
  | retO k ρ1 => rw [hf] at p; exact p
  | brk d => rw [hf] at p; exact p
  | cont d => rw [hf] at p; exact p
  | exc c d => rw [hf] at p; exact p
  | stuck => rw [hf] at p; exact p
theorem sss_one (h1 : SS Γ X W st f) : SSs Γ X W [st] f := pss_one h1
/-- an expression, then what follows at statement level -/
theorem PostS.use {α ν : Type} {K : PySem.W.Frag} {G H : Hp} {σ : L2.St} {ρ : En} {rel : Hp → ν → α → Prop} {Q : ν → Hp → Prop} {x : R α} {k : α → RS} (r : Rel Γ K B G H σ ρ) (p : PostS Γ K W B G E (thenS x ρ k))
    (h : ∀ G1 H1 v a, Ext G H G1 H1 → Rel Γ K B G1 H1 σ ρ → rel G1 v a → PostS Γ K W B G1 E (k a) → Q v H1) : Post Γ W G H σ rel Q x := by
  cases x with
  | ok a => exact fun G1 H1 v e1 rv => h G1 H1 v a e1 (r.go e1) rv (PostS.up p e1.g)
  | exc c => exact fun G1 H1 e1 => p G1 H1 σ e1.g (r.go e1)
  | stuck => exact p
def setS (i : Nat) (x : R D) (ρ : En) : RS := thenS x ρ fun d => .next (ρ.set i (some (.val d)))
theorem ss_set (i : Nat) {x : Str} {pos' : Pos} (C : Ct X W j) (he : SE Γ X W e fa) (hi : X.N[i]? = some x := by rfl) (hx : Loc X.env.scope x := by first | exact .inl rfl | exact .inr rfl) (hs : swapsWith e (some (.Name x pos')) pos.line X.env = pure false := by rfl)
    (hf : X.fn x = true ∨ X.env.scope.names.lookup x = some .local := by first | exact .inl rfl | exact .inr rfl | assumption) : SS Γ X W (.Assign [.Name x pos'] e pos) (fun ρ => setS i (fa ρ) ρ) := by
  obtain ⟨ta, pa, qa⟩ := he.out
  refine PS.imp (ps_set C.nd hi hx pa hs hf) fun E σ H hh => ?_
  obtain ⟨B, G, ρ, r, p⟩ := hh
  exact qa r (PostS.use r p fun G1 H1 v d _ r1 rv p1 => p1 _ _ _ (.refl _) (r1.set rv))
/-- target = e -/
theorem ss_asg {js : List Nat} {tg : Expr} {g : D → En → Option En} (he : SE Γ X W e fa) (hg : SG Γ X tg js g) (hs : swapsWithSole [tg] e pos.line X.env = pure false := by rfl) (hw : swappedStores [tg] e X.env = pure none := by rfl)
    (h1 : (assignEach [tg] X.env).map (·.2) = [assign tg X.env] := by rfl) : SS Γ X W (.Assign [tg] e pos) (fun ρ => thenS (fa ρ) ρ fun d => match g d ρ with | some ρ' => .next ρ' | none => .stuck) := by
  obtain ⟨ta, pa, qa⟩ := he.out
  refine PS.imp (ps_asg pa hg hs hw h1) fun E σ H hh => ?_
  obtain ⟨B, G, ρ, r, p⟩ := hh
  refine qa r (PostS.use r p fun G1 H1 v d _ r1 rv p1 => ?_)
  refine ⟨B, G1, ρ, d, r1, rv, ?_⟩
  cases hgd : g d ρ with
  | none => rw [hgd] at p1; exact p1.elim
  | some ρ1 => rw [hgd] at p1; exact fun σ2 r2 _ => p1 _ _ _ (.refl _) r2
theorem ss_expr (he : SE Γ X W e fa) (hs : swapsWith e none pos.line X.env = pure false := by rfl) : SS Γ X W (.Expr e pos) (fun ρ => thenS (fa ρ) ρ fun _ => .next ρ) := by
  obtain ⟨ta, pa, qa⟩ := he.out
  refine PS.imp (ps_expr pa hs) fun E σ H hh => ?_
  obtain ⟨B, G, ρ, r, p⟩ := hh
  exact qa r (PostS.use r p fun G1 H1 v d _ r1 rv p1 => p1 _ _ _ (.refl _) r1)
theorem ss_ret (he : SE Γ X W e fa) : SS Γ X W (.Return (some e) pos) (fun ρ => thenS (fa ρ) ρ fun d => .ret d) := by
  obtain ⟨ta, pa, qa⟩ := he.out
  refine PS.imp (ps_ret pa) fun E σ H hh => ?_
  obtain ⟨B, G, ρ, r, p⟩ := hh
  exact qa r (PostS.use r p fun G1 H1 v d _ r1 rv p1 => p1 _ _ _ r1.ext rv)
theorem ss_retN : SS Γ X W (.Return none pos) (fun _ => .ret .non) := PS.imp ps_retN fun E σ H ⟨B, G, ρ, r, p⟩ => p _ _ _ r.ext .non
theorem ss_pass : SS Γ X W (.Pass pos) RS.next := PS.imp ps_pass fun E σ H ⟨B, G, ρ, r, p⟩ => p _ _ _ (.refl _) r
theorem ss_if {ft : En → R Bool} {a b : List Stmt} (hc : ST Γ X W c ft) (ha : SSs Γ X W a f) (hb : SSs Γ X W b g) : SS Γ X W (.If c a b pos) (fun ρ => thenS (ft ρ) ρ fun k => if k then f ρ else g ρ) := by
  obtain ⟨ta, pa, qa⟩ := hc.out
  refine PS.imp (ps_if pa ha hb) fun E σ H hh => ?_
  obtain ⟨B, G, ρ, r, p⟩ := hh
  refine qa r (PostS.use r p fun G1 H1 v d _ r1 rv p1 => ?_)
  have e : v = d := rv
  subst e
  cases v with
  | true => exact iteT ⟨B, G1, ρ, r1, p1⟩
  | false => exact iteF ⟨B, G1, ρ, r1, p1⟩
/-- code that is never come to -/
theorem ss_never : SS Γ X W st (fun _ => .stuck) := PS.imp ps_never fun E σ H ⟨B, G, ρ, r, p⟩ => p
theorem sss_never : SSs Γ X W sts (fun _ => .stuck) := PSs.imp pss_never fun E σ H ⟨B, G, ρ, r, p⟩ => p
/-- a private list is frozen first -/
theorem SS.frz (i : Nat) (h : SS Γ X W st f) : SS Γ X W st (fun ρ => f (VL.frz ρ i)) := PS.imp h fun E σ H hh => by
  obtain ⟨B, G, ρ, r, p⟩ := hh
  obtain ⟨G', s', r'⟩ := r.frz i
  exact ⟨B, G', _, r', PostS.up p s'⟩
/-! ### loops -/
def forS (g : D → En → Option En) (fb : En → RS) : List D → En → RS
  | [], ρ => .next ρ
  | d :: ds, ρ => match g d ρ with
    | none => .stuck
    | some ρ1 => match fb ρ1 with
      | .next ρ2 => forS g fb ds ρ2
      | .cont ρ2 => forS g fb ds ρ2
      | .brk ρ2 => .next ρ2
      | x => x
theorem ss_for {js : List Nat} {tg iter : Expr} {fi : En → R (List D)} {g : D → En → Option En} {body : List Stmt} {fb : En → RS} (C : Ct X W j) (hi : SI Γ X W tg iter fi) (hg : SG Γ X tg js g) (hb : SSs Γ X W body fb) (hs : ∀ x, foldedSetIterable iter X.env x = pure x := by intro _; rfl) :
    SS Γ X W (.For tg iter body [] pos) (fun ρ => thenS (fi ρ) ρ fun ds => forS g fb ds ρ) := by
  obtain ⟨wi, pi, qi⟩ := hi
  refine PS.imp (ps_for C.hp C.calm pi hg hb hs) fun E σ H hh => ?_
  obtain ⟨B, G, ρ, r, p⟩ := hh
  refine qi r (PostS.use r p fun G1 H1 J ds _ r1 it p1 => ?_)
  obtain ⟨Gd, Y, w, hG, hY⟩ := it
  refine for_it (g := tG Γ X.K js g) (tb := tS Γ X.K W fb) (D := E) (σ := σ) (H := H1) w (fun i σ2 H2 => ∃ G2 ρ2, Rel Γ X.K B G2 H2 σ2 ρ2 ∧ Same G1 G2 ∧ PostS Γ X.K W B G2 E (forS g fb (ds.drop i) ρ2)) ⟨G1, ρ, r1, .refl _, p1⟩ ?_ ?_ ?_
  · rintro i σ2 H2 hi ⟨G2, ρ2, r2, s2, _⟩
    exact hG H2 (s2.trans r2.same)
  · rintro i x σ2 H2 H3 hi ⟨G2, ρ2, r2, s2, p2⟩ hy
    obtain ⟨G3, d, e3, hd, rd⟩ := hY i H2 x H3 G2 hi hy s2 r2.same
    have hdrop : ds.drop i = d :: ds.drop (i + 1) := by
      obtain ⟨h1, h2⟩ := List.getElem?_eq_some_iff.mp hd
      rw [List.drop_eq_getElem_cons h1, h2]
    rw [hdrop] at p2
    unfold forS at p2
    refine ⟨B, G3, ρ2, d, r2.go e3, rd, ?_⟩
    cases hgd : g d ρ2 with
    | none => rw [hgd] at p2; exact p2.elim
    | some ρ3 =>
      rw [hgd] at p2
      dsimp only at p2
      intro σ3 r3 _
      refine ⟨B, G3, ρ3, r3, ?_⟩
      have p3 := PostS.up p2 e3.g
      have s3 := s2.trans e3.g
      cases hfb : fb ρ3 with
      | next ρ4 => rw [hfb] at p3; exact fun G4 H4 σ4 s4 r4 => ⟨G4, ρ4, r4, s3.trans s4, PostS.up p3 s4⟩
      | cont ρ4 => rw [hfb] at p3; exact fun G4 H4 σ4 s4 r4 => ⟨G4, ρ4, r4, s3.trans s4, PostS.up p3 s4⟩
      | brk ρ4 => rw [hfb] at p3; exact p3
      | ret d => rw [hfb] at p3; exact p3
      | retE d ρ4 => rw [hfb] at p3; exact p3
      | retO k ρ4 => rw [hfb] at p3; exact p3
      | exc c d => rw [hfb] at p3; exact p3
      | stuck => rw [hfb] at p3; exact p3
  · rintro σ2 H2 ⟨G2, ρ2, r2, _, p2⟩
    rw [List.drop_length] at p2
    exact p2 _ _ _ (.refl _) r2
/-- while, at most n turns -/
def whileS (ft : En → R Bool) (fb : En → RS) : Nat → En → RS
  | 0, _ => .stuck
  | n + 1, ρ => thenS (ft ρ) ρ fun k => if k then (match fb ρ with
      | .next ρ2 => whileS ft fb n ρ2
      | .cont ρ2 => whileS ft fb n ρ2
      | .brk ρ2 => .next ρ2
      | x => x) else .next ρ
theorem ss_while (n : Nat) {ft : En → R Bool} {body : List Stmt} {fb : En → RS} (C : Ct X W j) (hc : ST Γ X W c ft) (hb : SSs Γ X W body fb) : SS Γ X W (.While c body [] pos) (whileS ft fb n) := by
  obtain ⟨ta, pa, qa⟩ := hc.out
  refine PS.imp (ps_while C.hp pa hb) fun E σ H hh => ?_
  obtain ⟨B, G, ρ, r, p⟩ := hh
  refine ⟨fun m σ H => ∃ G ρ, Rel Γ X.K B G H σ ρ ∧ PostS Γ X.K W B G E (whileS ft fb m ρ), ⟨n, G, ρ, r, p⟩, ?_⟩
  rintro m σ1 H1 ⟨G1, ρ1, r1, p1⟩
  cases m with
  | zero => exact p1.elim
  | succ m =>
    unfold whileS at p1
    refine qa r1 (PostS.use r1 p1 fun G2 H2 v d e2 r2 rv p2 => ?_)
    have e : v = d := rv
    subst e
    cases v with
    | false => exact iteF (p2 _ _ _ (.refl _) r2)
    | true =>
      refine iteT ⟨fun σ' H' => ∃ G ρ, Rel Γ X.K B G H' σ' ρ ∧ PostS Γ X.K W B G E (whileS ft fb m ρ), fun σ' H' h => ⟨m, Nat.lt_succ_self m, h⟩, B, G2, ρ1, r2, ?_⟩
      rw [if_pos rfl] at p2
      cases hfb : fb ρ1 with
      | next ρ4 => rw [hfb] at p2; exact fun G4 H4 σ4 s4 r4 => ⟨G4, ρ4, r4, PostS.up p2 s4⟩
      | cont ρ4 => rw [hfb] at p2; exact fun G4 H4 σ4 s4 r4 => ⟨G4, ρ4, r4, PostS.up p2 s4⟩
      | brk ρ4 => rw [hfb] at p2; exact p2
      | ret d => rw [hfb] at p2; exact p2
      | retE d ρ4 => rw [hfb] at p2; exact p2
      | retO k ρ4 => rw [hfb] at p2; exact p2
      | exc c d => rw [hfb] at p2; exact p2
      | stuck => rw [hfb] at p2; exact p2
/-- raise X('..') -/
theorem ss_raise {k : Nat} {t : L2.St → Hp → XK → Prop} (C : Ct X W j) (he : PMk X e t) (ht : ∀ σ H Q, Q (Γ.cls k) none H → t σ H Q) : SS Γ X W (.Raise (some e) none pos) (fun ρ => .exc k ρ) :=
  PS.imp (ps_raise C.calm C.tk he) fun E σ H ⟨B, G, ρ, r, p⟩ => ht σ H _ (p G H σ (.refl _) r)
/-! ### private lists -/
theorem ss_setOwn (i : Nat) {x : Str} {pos' : Pos} {fl : En → R (List D)} (C : Ct X W j) (he : SF Γ X W e fl) (hi : X.N[i]? = some x := by rfl) (hx : Loc X.env.scope x := by first | exact .inl rfl | exact .inr rfl) (hs : swapsWith e (some (.Name x pos')) pos.line X.env = pure false := by rfl)
    (hf : X.fn x = true ∨ X.env.scope.names.lookup x = some .local := by first | exact .inl rfl | exact .inr rfl | assumption) : SS Γ X W (.Assign [.Name x pos'] e pos) (fun ρ => thenS (fl ρ) ρ fun ds => .next (ρ.set i (some (.own ds)))) := by
  refine PS.imp (ps_set C.nd hi hx he hs hf) fun E σ H hh => ?_
  obtain ⟨B, G, ρ, r, p⟩ := hh
  refine ⟨B, G, ρ, r, ?_⟩
  dsimp only at p
  cases hfl : fl ρ with
  | exc c => rw [hfl] at p; exact fun G1 H1 e1 => p G1 H1 σ e1.g (r.go e1)
  | stuck => rw [hfl] at p; exact p
  | ok ds =>
    rw [hfl] at p
    intro L G1 H1 acc n e1 g1 h1 ra
    have r1 := r.go e1
    exact p _ _ _ e1.g (r1.setOwn (r.ext.d L n) g1 h1 ra (r.fresh n e1))
/-- y = [e for ..] on one line, y a local; kept as a value, or private -/
theorem lc_set {i : Nat} {y : Str} {py spos : Pos} {scope : Scope} {own : List (Str × Nat)} {elt tg iter : Expr} {ifs : List Expr} {fi : En → R (List D)} {js : List Nat} {g : D → En → Option En} {ft : En → R Bool} {fe : En → R D} (C : Ct X W j) (hy : X.N[i]? = some y) (hyl : X.env.scope.names.lookup y = some .local)
    (hsw : swapsWith (.ListComp elt [⟨tg, iter, ifs, 0⟩] scope pos) (some (.Name y py)) spos.line X.env = pure true) (hi : SI Γ X W tg iter fi) (ok : BlkOk X.N X.env.scope scope own)
    (hg : ∀ (s : Shared) (H : Hp) (C : Addr) (cl : List (Str × Addr)) (fp : List Addr), SG Γ (X.blk s H scope (compEnvC scope cl C X.env) fp) tg js g)
    (ht : ∀ (s : Shared) (H : Hp) (C : Addr) (cl : List (Str × Addr)) (fp : List Addr), STs Γ (X.blk s H scope (compEnvC scope cl C X.env) fp) W0 ifs ft)
    (he : ∀ (s : Shared) (H : Hp) (C : Addr) (cl : List (Str × Addr)) (fp : List Addr), SE Γ (X.blk s H scope (compEnvC scope cl C X.env) fp) W0 elt fe)
    (hjs : ∀ i ∈ js, i ∈ own.map (·.2)) (hs : ∀ x, foldedSetIterable iter X.env x = pure x) :
    PS X (.Assign [.Name y py] (.ListComp elt [⟨tg, iter, ifs, 0⟩] scope pos) spos) (tAsg (tF Γ X.K W fun ρ => (fi ρ).bind fun ds => lcM (own.map (·.2)) g ft fe ρ ds) (gName i)) := by
  obtain ⟨wi, pi, qi⟩ := hi
  refine PS.imp (ps_setLc (g := tG Γ X.K js g) (tt := tT Γ X.K W0 ft) (te := tE Γ X.K W0 fe) C.calm C.nd hy hyl hsw pi ok hg ht he hs) fun E σ H hh => ?_
  obtain ⟨B, G, ρ, r, p⟩ := hh
  exact lc_use qi hjs r p
theorem ss_setLc (i : Nat) {y : Str} {py spos : Pos} {scope : Scope} {own : List (Str × Nat)} {elt tg iter : Expr} {ifs : List Expr} {fi : En → R (List D)} {js : List Nat} {g : D → En → Option En} {ft : En → R Bool} {fe : En → R D} (C : Ct X W j) (hi : SI Γ X W tg iter fi) (ok : BlkOk X.N X.env.scope scope own)
    (hg : ∀ (s : Shared) (H : Hp) (C : Addr) (cl : List (Str × Addr)) (fp : List Addr), SG Γ (X.blk s H scope (compEnvC scope cl C X.env) fp) tg js g)
    (ht : ∀ (s : Shared) (H : Hp) (C : Addr) (cl : List (Str × Addr)) (fp : List Addr), STs Γ (X.blk s H scope (compEnvC scope cl C X.env) fp) W0 ifs ft)
    (he : ∀ (s : Shared) (H : Hp) (C : Addr) (cl : List (Str × Addr)) (fp : List Addr), SE Γ (X.blk s H scope (compEnvC scope cl C X.env) fp) W0 elt fe)
    (hy : X.N[i]? = some y := by rfl) (hyl : X.env.scope.names.lookup y = some .local := by rfl)
    (hsw : swapsWith (.ListComp elt [⟨tg, iter, ifs, 0⟩] scope pos) (some (.Name y py)) spos.line X.env = pure true := by exact sw_true rfl rfl rfl (by decide +kernel)) (hjs : ∀ i ∈ js, i ∈ own.map (·.2) := by decide) (hs : ∀ x, foldedSetIterable iter X.env x = pure x := by intro _; rfl) :
    SS Γ X W (.Assign [.Name y py] (.ListComp elt [⟨tg, iter, ifs, 0⟩] scope pos) spos) (fun ρ => setS i (toL ((fi ρ).bind fun ds => lcM (own.map (·.2)) g ft fe ρ ds)) ρ) :=
  PS.imp (lc_set C hy hyl hsw hi ok hg ht he hjs hs) fun E σ H hh => by
    obtain ⟨B, G, ρ, r, p⟩ := hh
    refine ⟨B, G, ρ, r, PostF.of (Q := fun v H1 => gName i v σ H1 E.nx) (PostS.use r p fun G1 H1 v d _ r1 rv p1 => p1 _ _ _ (.refl _) (r1.set rv))⟩
theorem ss_setLcOwn (i : Nat) {y : Str} {py spos : Pos} {scope : Scope} {own : List (Str × Nat)} {elt tg iter : Expr} {ifs : List Expr} {fi : En → R (List D)} {js : List Nat} {g : D → En → Option En} {ft : En → R Bool} {fe : En → R D} (C : Ct X W j) (hi : SI Γ X W tg iter fi) (ok : BlkOk X.N X.env.scope scope own)
    (hg : ∀ (s : Shared) (H : Hp) (C : Addr) (cl : List (Str × Addr)) (fp : List Addr), SG Γ (X.blk s H scope (compEnvC scope cl C X.env) fp) tg js g)
    (ht : ∀ (s : Shared) (H : Hp) (C : Addr) (cl : List (Str × Addr)) (fp : List Addr), STs Γ (X.blk s H scope (compEnvC scope cl C X.env) fp) W0 ifs ft)
    (he : ∀ (s : Shared) (H : Hp) (C : Addr) (cl : List (Str × Addr)) (fp : List Addr), SE Γ (X.blk s H scope (compEnvC scope cl C X.env) fp) W0 elt fe)
    (hy : X.N[i]? = some y := by rfl) (hyl : X.env.scope.names.lookup y = some .local := by rfl)
    (hsw : swapsWith (.ListComp elt [⟨tg, iter, ifs, 0⟩] scope pos) (some (.Name y py)) spos.line X.env = pure true := by exact sw_true rfl rfl rfl (by decide +kernel)) (hjs : ∀ i ∈ js, i ∈ own.map (·.2) := by decide) (hs : ∀ x, foldedSetIterable iter X.env x = pure x := by intro _; rfl) :
    SS Γ X W (.Assign [.Name y py] (.ListComp elt [⟨tg, iter, ifs, 0⟩] scope pos) spos) (fun ρ => thenS ((fi ρ).bind fun ds => lcM (own.map (·.2)) g ft fe ρ ds) ρ fun ds => .next (ρ.set i (some (.own ds)))) :=
  PS.imp (lc_set C hy hyl hsw hi ok hg ht he hjs hs) fun E σ H hh => by
    obtain ⟨B, G, ρ, r, p⟩ := hh
    refine ⟨B, G, ρ, r, ?_⟩
    dsimp only at p ⊢
    cases hfl : ((fi ρ).bind fun ds => lcM (own.map (·.2)) g ft fe ρ ds) with
    | exc c => rw [hfl] at p; exact fun G1 H1 e1 => p G1 H1 σ e1.g (r.go e1)
    | stuck => rw [hfl] at p; exact p
    | ok ds =>
      rw [hfl] at p
      intro L G1 H1 acc n e1 g1 h1 ra
      have r1 := r.go e1
      exact p _ _ _ e1.g (r1.setOwn (r.ext.d L n) g1 h1 ra (r.fresh n e1))
/-- x.append(e), x private -/
def ownS (i : Nat) (ρ : En) (k : List D → RS) : RS := match ρ[i]? with
  | some (some (.own ds)) => k ds
  | _ => .stuck
theorem ownS_use {K : PySem.W.Frag} {G H : Hp} {σ : L2.St} {ρ : En} {i : Nat} {k : List D → RS} (r : Rel Γ K B G H σ ρ) (p : PostS Γ K W B G E (ownS i ρ k)) :
    ∃ ds l vs, ρ[i]? = some (some (.own ds)) ∧ σ[i]? = some (some (.ref l)) ∧ B.2 l = none ∧ G l = none ∧ H l = some (.lst vs) ∧ RpA Γ K G vs ds ∧ PostS Γ K W B G E (k ds) := by
  unfold ownS at p
  split at p
  · rename_i ds hi
    obtain ⟨l, vs, h1, h2, h3, h4, h5⟩ := r.own hi
    exact ⟨ds, l, vs, hi, h1, h2, h3, h4, h5, p⟩
  · exact p.elim
def appS (i : Nat) (f : En → R D) (ρ : En) : RS := ownS i ρ fun ds => thenS (f ρ) ρ fun d => if ds.length < 100000 then .next (ρ.set i (some (.own (ds ++ [d])))) else .stuck
theorem ss_append (i : Nat) {x : Str} {p1 p2 p3 : Pos} (he : SE Γ X W e fa) (hN : X.N[i]? = some x := by rfl) (hv : Vis X.env.scope x := by first | exact Or.inl rfl | exact Or.inr (Or.inl rfl) | exact Or.inr (Or.inr rfl))
    (hd : (x == ("__debug__" : Str)) = false := by decide) (hcd : (x == ("__classdict__" : Str)) = false := by decide) (hs : swapsWith (.Call (.Attribute (.Name x p1) "append" p2) [e] [] p3) none pos.line X.env = pure false := by rfl)
    (hst : starEach [e] X.env = (false, eval e X.env) :: starEach [] X.env := by rfl)
    (hfew : ((backTo p3 (starEach [e] X.env)).all (fun x => !x.1) && (backToKw p3 (keywordEach [] X.env)).all (fun x => x.1.isSome) && decide ([e].length + ([] : List Keyword).length + (if ([] : List Keyword).isEmpty then 0 else 1) < 30)) = true := by rfl)
    (hline : (p2.endLine == p3.line) = true := by rfl) :
    SS Γ X W (.Expr (.Call (.Attribute (.Name x p1) "append" p2) [e] [] p3) pos) (appS i fa) := by
  obtain ⟨ta, pa, qa⟩ := he.out
  refine PS.imp (ps_expr (pe_bm PySem.F.plainAttrs_list PySem.F.slot_list_append PySem.F.type_list_append mt_append (pe_var hN hv hd hcd) (pa_cons pa pa_nil hst) rfl hfew hline hst rfl) hs) fun E σ H hh => ?_
  obtain ⟨B, G, ρ, r, p⟩ := hh
  obtain ⟨ds, l, vs, hi, hσ, hB, hG, hH, hr, p0⟩ := ownS_use r p
  refine ⟨.ref l, hσ, .inl ⟨rfl, vs, .of hH⟩, ?_⟩
  refine qa r (PostS.use r p0 fun G1 H1 v d e1 r1 rv p1 => ?_)
  obtain ⟨hH1, hG1⟩ := e1.k l _ hH hG fun _ z => nomatch z
  split at p1
  · rename_i hl
    refine ⟨l, vs, v, rfl, rfl, hH1, ?_, ?_⟩
    · rw [hr.length, sizeLine_eq]; omega
    · exact p1 _ _ _ (.refl _) (r1.mut hi hσ hB hG1 hH1 ((hr.mono e1.g).append (.one rv)))
  · exact p1.elim
/-- x.extend(e), x private, e a list -/
def extS (i : Nat) (f : En → R D) (ρ : En) : RS := ownS i ρ fun ds => thenS (f ρ) ρ fun d => match d with
  | .lst es => if ds.length + es.length ≤ 100000 then .next (ρ.set i (some (.own (ds ++ es)))) else .stuck
  | _ => .stuck
theorem ss_extend (i : Nat) {x : Str} {p1 p2 p3 : Pos} (he : SE Γ X W e fa) (hN : X.N[i]? = some x := by rfl) (hv : Vis X.env.scope x := by first | exact Or.inl rfl | exact Or.inr (Or.inl rfl) | exact Or.inr (Or.inr rfl))
    (hd : (x == ("__debug__" : Str)) = false := by decide) (hcd : (x == ("__classdict__" : Str)) = false := by decide) (hs : swapsWith (.Call (.Attribute (.Name x p1) "extend" p2) [e] [] p3) none pos.line X.env = pure false := by rfl)
    (hst : starEach [e] X.env = (false, eval e X.env) :: starEach [] X.env := by rfl)
    (hfew : ((backTo p3 (starEach [e] X.env)).all (fun x => !x.1) && (backToKw p3 (keywordEach [] X.env)).all (fun x => x.1.isSome) && decide ([e].length + ([] : List Keyword).length + (if ([] : List Keyword).isEmpty then 0 else 1) < 30)) = true := by rfl)
    (hline : (p2.endLine == p3.line) = true := by rfl) :
    SS Γ X W (.Expr (.Call (.Attribute (.Name x p1) "extend" p2) [e] [] p3) pos) (extS i fa) := by
  obtain ⟨ta, pa, qa⟩ := he.out
  refine PS.imp (ps_expr (pe_bm PySem.F.plainAttrs_list PySem.F.slot_list_extend PySem.F.type_list_extend mt_extend (pe_var hN hv hd hcd) (pa_cons pa pa_nil hst) rfl hfew hline hst rfl) hs) fun E σ H hh => ?_
  obtain ⟨B, G, ρ, r, p⟩ := hh
  obtain ⟨ds, l, vs, hi, hσ, hB, hG, hH, hr, p0⟩ := ownS_use r p
  refine ⟨.ref l, hσ, .inl ⟨rfl, vs, .of hH⟩, ?_⟩
  refine qa r (PostS.use r p0 fun G1 H1 v d e1 r1 rv p1 => ?_)
  obtain ⟨hH1, hG1⟩ := e1.k l _ hH hG fun _ z => nomatch z
  cases rv <;> first | exact p1.elim | skip
  rename_i a ws fs hs hw
  dsimp only at p1
  split at p1
  · rename_i hl
    refine ⟨l, a, vs, ws, rfl, rfl, hH1, e1.s _ _ hs, ?_, ?_⟩
    · rw [hr.length, hw.length, sizeLine_eq]; omega
    · exact p1 _ _ _ (.refl _) (r1.mut hi hσ hB hG1 hH1 ((hr.mono e1.g).append hw))
  · exact p1.elim
/-- x[k] = e, x private -/
def ixD (n : Nat) : D → Option Nat
  | .int k => ixN n k
  | _ => none
def putS (i : Nat) (fk f : En → R D) (ρ : En) : RS := thenS (f ρ) ρ fun d => ownS i ρ fun ds => thenS (fk ρ) ρ fun k => match ixD ds.length k with
  | some j => .next (ρ.set i (some (.own (ds.set j d))))
  | none => .stuck
theorem ss_put (i : Nat) {x : Str} {p1 p2 : Pos} {k : Expr} {fk : En → R D} (he : SE Γ X W e fa) (hk : SE Γ X W k fk) (hN : X.N[i]? = some x := by rfl) (hv : Vis X.env.scope x := by first | exact Or.inl rfl | exact Or.inr (Or.inl rfl) | exact Or.inr (Or.inr rfl))
    (hd : (x == ("__debug__" : Str)) = false := by decide) (hcd : (x == ("__classdict__" : Str)) = false := by decide)
    (ha : ∀ v, assign (.Subscript (.Name x p1) k p2) X.env v = (do
      let ov ← holding [v] (eval (.Name x p1) X.env)
      let iv ← holding [v, ov] (eval k X.env)
      standAt p2
      holding [v, ov, iv] (setItem ov iv v)
      release [v, ov, iv] []) := by intro _; rfl)
    (hs : swapsWithSole [.Subscript (.Name x p1) k p2] e pos.line X.env = pure false := by rfl) (hw : swappedStores [.Subscript (.Name x p1) k p2] e X.env = pure none := by rfl)
    (h1 : (assignEach [.Subscript (.Name x p1) k p2] X.env).map (·.2) = [assign (.Subscript (.Name x p1) k p2) X.env] := by rfl) :
    SS Γ X W (.Assign [.Subscript (.Name x p1) k p2] e pos) (putS i fk fa) := by
  obtain ⟨ta, pa, qa⟩ := he.out
  obtain ⟨tk, pk, qk⟩ := hk.out
  refine PS.imp (ps_asg pa (pg_sub (pe_var hN hv hd hcd) pk set_list ha) hs hw h1) fun E σ H hh => ?_
  obtain ⟨B, G, ρ, r, p⟩ := hh
  refine qa r (PostS.use r p fun G1 H1 v d e1 r1 rv p1 => ?_)
  obtain ⟨ds, l, vs, hi, hσ, hB, hG, hH, hr, p0⟩ := ownS_use r1 p1
  refine ⟨.ref l, hσ, ?_⟩
  refine qk r1 (PostS.use r1 p0 fun G2 H2 u kd e2 r2 ru p2 => ?_)
  obtain ⟨hH2, hG2⟩ := e2.k l _ hH hG fun _ z => nomatch z
  cases hj : ixD ds.length kd with
  | none => rw [hj] at p2; exact p2.elim
  | some jj =>
    rw [hj] at p2
    cases ru <;> first | (cases hj; done) | skip
    rename_i kk
    have hj' : ixN ds.length kk = some jj := hj
    refine ⟨l, vs, kk, jj, rfl, rfl, hH2, by rw [hr.length]; exact hj', ?_⟩
    exact p2 _ _ _ (.refl _) (r2.mut hi hσ hB hG2 hH2 ((hr.mono e2.g).set (rv.mono e2.g) jj))

/-! ### a def by its body -/
def bodyM (N n : Nat) (f : En → RS) : List D → R D := fun ds => if ds.length = n then
    (match f (ds.map (fun d => some (.val d)) ++ List.replicate (N - ds.length) none) with
    | .next _ => .ok .non
    | .ret d => .ok d
    | .exc c _ => .exc c
    | _ => .stuck) else .stuck
theorem start_rel {K : PySem.W.Frag} {G H : Hp} {vs : List V} {ds : List D} {N : List Str} (s : Same G H) (tb : TabsOk G H) (r : RpA Γ K G vs ds) : Rel Γ K (G, H) G H (start N vs) (ds.map (fun d => some (.val d)) ++ List.replicate (N.length - ds.length) none) := by
  have hl := r.length
  have val : ∀ {i : Nat} {s : SV}, (ds.map (fun d => some (SV.val d)) ++ List.replicate (N.length - ds.length) none)[i]? = some (some s) → ∃ d, s = .val d ∧ ds[i]? = some d := fun {i s} h => by
    by_cases hi : i < ds.length
    · rw [List.getElem?_append_left (by simpa using hi), List.getElem?_map] at h
      cases hd : ds[i]? with
      | none => rw [hd] at h; cases h
      | some d => rw [hd] at h; cases h; exact ⟨d, rfl, rfl⟩
    · rw [List.getElem?_append_right (by simpa using hi), List.getElem?_replicate] at h
      split at h <;> cases h
  refine ⟨.refl s, fun {i d} h => ?_, fun {i es} h => ?_, fun {i ks vs} h => ?_, fun {i tg st es ls} h => ?_, fun {i q} h => ?_, fun {i j s t p} h1 h2 p1 p2 h3 h4 => ?_, ?_, tb⟩
  · obtain ⟨d', e, h'⟩ := val h
    cases e
    obtain ⟨v, x1, x2⟩ := r.get h'
    refine ⟨v, ?_, x2⟩
    unfold L2.start
    rw [List.getElem?_append_left (by simpa using (List.getElem?_eq_some_iff.mp x1).1), List.getElem?_map, x1]
    rfl
  · obtain ⟨d', e, h'⟩ := val h
    cases e
  · obtain ⟨d', e, h'⟩ := val h
    cases e
  · obtain ⟨d', e, h'⟩ := val h
    cases e
  · obtain ⟨tg, st, es, ls, p, C, dx, v, pe, pl, h1, h2, h3, h4⟩ := h
    obtain ⟨d', e, h'⟩ := val h1
    cases e
  · obtain ⟨d', e, h'⟩ := val h1
    rw [e] at p1
    cases p1
  · unfold L2.start
    simp [hl]
theorem fn_mk {P : Program} {w : World} {K : PySem.W.Frag} {mg : Str → Option Value} {base : Heap} {x qual : Str} {st : Stmt} {f : Addr} {fd : FuncData} {N ps : List Str} {k : Nat} {fb : En → RS} (F : Fun K x qual st f fd) (S : FnScope N ps (defScope st))
    (hb : ∀ (cdv : Value) (A : Around) (outer : List Env) (s : Shared) (H : Hp) (EE : XK), Ct (cxOf (L2.CX P w) P w K mg base N qual (defScope st) f cdv A outer s H EE) (fun cls d _ H' => EE cls d H') k →
      SSs Γ (cxOf (L2.CX P w) P w K mg base N qual (defScope st) f cdv A outer s H EE) (fun cls d _ H' => EE cls d H') (defBody st) fb) :
    FnOk P w K mg base (L2.CX P w) (k + 1) f fd ps (spM Γ K ps.length (bodyM N.length ps.length fb)) := by
  refine F.okX S (fun vs H Q E h => ?_) (fun cdv A outer s H vs Q EE hr h => ?_)
  · obtain ⟨G, ds, _, _, r, hl, _⟩ := h
    rw [r.length]; exact hl
  · obtain ⟨G, ds, sm, tb, r, hl, p⟩ := h
    refine ⟨_, hb cdv A outer s H EE ⟨takes_of rfl rfl rfl rfl, passes_of rfl, rfl, S.nd, hr⟩, ?_⟩
    refine ⟨(G, H), G, _, start_rel sm tb r, ?_⟩
    unfold bodyM at p
    rw [if_pos hl] at p
    cases hf : fb (ds.map (fun d => some (.val d)) ++ List.replicate (N.length - ds.length) none) with
    | next ρ => rw [hf] at p; exact fun G1 H1 σ1 _ r1 => p G1 H1 .non r1.ext .non
    | ret d => rw [hf] at p; exact fun G1 H1 v e rv => p G1 H1 v e rv
    | retE d ρ => rw [hf] at p; exact p.elim
    | retO k ρ => rw [hf] at p; exact p.elim
    | brk ρ => rw [hf] at p; exact p.elim
    | cont ρ => rw [hf] at p; exact p.elim
    | exc c ρ => rw [hf] at p; exact fun G1 H1 σ1 _ r1 => p G1 H1 r1.ext
    | stuck => rw [hf] at p; exact p.elim
theorem cal_mk {P : Program} {w : World} {K : PySem.W.Frag} {mg : Str → Option Value} {base : Heap} {x qual : Str} {st : Stmt} {f : Addr} {fd : FuncData} {N ps : List Str} {k : Nat} {fb : En → RS} (F : Fun K x qual st f fd) (S : FnScope N ps (defScope st)) (hm : mg x = some (.ref f)) (hbd : Binds K fd ps [])
    (hb : ∀ (cdv : Value) (A : Around) (outer : List Env) (s : Shared) (H : Hp) (EE : XK), Ct (cxOf (L2.CX P w) P w K mg base N qual (defScope st) f cdv A outer s H EE) (fun cls d _ H' => EE cls d H') k →
      SSs Γ (cxOf (L2.CX P w) P w K mg base N qual (defScope st) f cdv A outer s H EE) (fun cls d _ H' => EE cls d H') (defBody st) fb) :
    Cal Γ P w K mg base x (k + 1) ps (bodyM N.length ps.length fb) :=
  ⟨⟨f, fd, fn_mk F S hb, hm, F.kp, hbd⟩, fun ds h => if_neg h⟩
end
end VL
end
section
set_option Elab.async false
set_option linter.all false
set_option maxRecDepth 100000
set_option maxHeartbeats 2000000
set_option autoImplicit false
namespace VL
open PySem PySem.Spec PyProof.Rows L2
variable [TabN]

/-! ### operations on data -/
def addD : D → D → R D
  | .int i, .int j => .ok (.int (i + j))
  | .str x, .str y => if x.length + y.length ≤ 100000 then .ok (.str (x ++ y)) else .stuck
  | .tup xs, .tup ys => if xs.length + ys.length ≤ 100000 then .ok (.tup (xs ++ ys)) else .stuck
  | .lst xs, .lst ys => if xs.length + ys.length ≤ 100000 then .ok (.lst (xs ++ ys)) else .stuck
  | _, _ => .stuck
def subD : D → D → R D
  | .int i, .int j => .ok (.int (i - j))
  | _, _ => .stuck
def mulD : D → D → R D
  | .int i, .int j => if (-(2 ^ 64) < i ∧ i < 2 ^ 64) ∨ (-(2 ^ 64) < j ∧ j < 2 ^ 64) then .ok (.int (i * j)) else .stuck
  | .tup xs, .int k => if 1 ≤ xs.length ∧ xs.length ≤ 1000 ∧ 2 ≤ k ∧ k ≤ 1000 then .ok (.tup (List.replicate k.toNat xs).flatten) else .stuck
  | .lst xs, .int k => if xs.length ≤ 1000 ∧ 0 ≤ k ∧ k ≤ 1000 then .ok (.lst (List.replicate k.toNat xs).flatten) else .stuck
  | _, _ => .stuck
def fdivD : D → D → R D
  | .int i, .int j => if 0 < j ∧ j < 2 ^ 64 then .ok (.int (i / j)) else .stuck
  | _, _ => .stuck
def modD : D → D → R D
  | .int i, .int j => if 0 < j then .ok (.int (i % j)) else .stuck
  | _, _ => .stuck
def powD : D → D → R D
  | .int i, .int j => if 0 ≤ j ∧ j ≤ 1000 ∧ -1000 ≤ i ∧ i ≤ 1000 then .ok (.int (i ^ j.toNat)) else .stuck
  | _, _ => .stuck
def negD : D → R D
  | .int i => .ok (.int (-i))
  | _ => .stuck
def ltD : D → D → R D
  | .int i, .int j => .ok (.bl (decide (i < j)))
  | _, _ => .stuck
def leD : D → D → R D
  | .int i, .int j => .ok (.bl (decide (i ≤ j)))
  | _, _ => .stuck
def gtD : D → D → R D
  | .int i, .int j => .ok (.bl (decide (j < i)))
  | _, _ => .stuck
def geD : D → D → R D
  | .int i, .int j => .ok (.bl (decide (j ≤ i)))
  | _, _ => .stuck
/-- is, is not: None and bools on the right -/
def isD : D → D → R D
  | .op _ _, _ => .stuck
  | .dic _ _, _ => .stuck
  | d, .non => .ok (.bl (match d with | .non => true | _ => false))
  | .bl a, .bl b => .ok (.bl (a == b))
  | _, _ => .stuck
def isNotD : D → D → R D
  | .op _ _, _ => .stuck
  | .dic _ _, _ => .stuck
  | d, .non => .ok (.bl (match d with | .non => false | _ => true))
  | .bl a, .bl b => .ok (.bl (!(a == b)))
  | _, _ => .stuck

/-! ### == -/
mutual
def toP : D → PyData
  | .non => .none
  | .bl b => .bool b
  | .int i => .int i
  | .str x => .str x
  | .tup xs => .tuple (toPs xs)
  | .lst xs => .list (toPs xs)
  | .scr xs => .list (toPs xs)
  | .op _ _ => .none
  | .dic _ _ => .none
def toPs : List D → List PyData
  | [] => []
  | d :: ds => toP d :: toPs ds
end
mutual
/-- plain data, at most n deep -/
def flat : Nat → D → Bool
  | _, .non => true
  | _, .bl _ => true
  | _, .int _ => true
  | _, .str x => PyData.strOk x
  | 0, _ => false
  | n + 1, .tup xs => flats n xs
  | n + 1, .lst xs => flats n xs
  | n + 1, .scr xs => flats n xs
  | _ + 1, .op _ _ => false
  | _ + 1, .dic _ _ => false
def flats : Nat → List D → Bool
  | _, [] => true
  | n, d :: ds => flat n d && flats n ds
end
mutual
def eqD : D → D → Bool
  | .non, .non => true
  | .bl a, .bl b => a == b
  | .bl a, .int j => (if a then 1 else 0) == j
  | .int i, .bl b => i == (if b then 1 else 0)
  | .int i, .int j => i == j
  | .str x, .str y => x == y
  | .tup xs, .tup ys => eqDs xs ys
  | .lst xs, .lst ys => eqDs xs ys
  | .lst xs, .scr ys => eqDs xs ys
  | .scr xs, .lst ys => eqDs xs ys
  | .scr xs, .scr ys => eqDs xs ys
  | _, _ => false
def eqDs : List D → List D → Bool
  | [], [] => true
  | x :: xs, y :: ys => eqD x y && eqDs xs ys
  | _, _ => false
end
mutual
theorem flat_shaped : ∀ (n : Nat) (d : D), flat n d = true → (toP d).canLay0 = true ∧ (toP d).depth ≤ n
  | n, .non, _ => ⟨rfl, Nat.zero_le _⟩
  | n, .bl _, _ => ⟨rfl, Nat.zero_le _⟩
  | n, .int _, _ => ⟨rfl, Nat.zero_le _⟩
  | n, .str x, h => ⟨by rw [toP, PyData.canLay0]; cases n <;> simpa [flat] using h, Nat.zero_le _⟩
  | 0, .tup _, h => by simp [flat] at h
  | 0, .lst _, h => by simp [flat] at h
  | 0, .scr _, h => by simp [flat] at h
  | 0, .op _ _, h => by simp [flat] at h
  | 0, .dic _ _, h => by simp [flat] at h
  | n + 1, .dic _ _, h => by simp [flat] at h
  | n + 1, .tup xs, h => by
    obtain ⟨h1, h2⟩ := flats_shaped n xs (by simpa [flat] using h)
    refine ⟨?_, ?_⟩
    · rw [toP]; unfold PyData.canLay0; exact h1
    · rw [toP]; unfold PyData.depth; omega
  | n + 1, .lst xs, h => by
    obtain ⟨h1, h2⟩ := flats_shaped n xs (by simpa [flat] using h)
    refine ⟨?_, ?_⟩
    · rw [toP]; unfold PyData.canLay0; exact h1
    · rw [toP]; unfold PyData.depth; omega
  | n + 1, .scr xs, h => by
    obtain ⟨h1, h2⟩ := flats_shaped n xs (by simpa [flat] using h)
    refine ⟨?_, ?_⟩
    · rw [toP]; unfold PyData.canLay0; exact h1
    · rw [toP]; unfold PyData.depth; omega
  | n + 1, .op _ _, h => by simp [flat] at h
theorem flats_shaped : ∀ (n : Nat) (ds : List D), flats n ds = true → PyData.canLayAll0 (toPs ds) = true ∧ PyData.depthAll (toPs ds) ≤ n
  | n, [], _ => ⟨rfl, Nat.zero_le _⟩
  | n, d :: ds, h => by
    have h' : flat n d = true ∧ flats n ds = true := by simpa [flats] using h
    obtain ⟨a1, a2⟩ := flat_shaped n d h'.1
    obtain ⟨b1, b2⟩ := flats_shaped n ds h'.2
    refine ⟨?_, ?_⟩
    · rw [toPs]; unfold PyData.canLayAll0; rw [a1, b1]; rfl
    · rw [toPs]; unfold PyData.depthAll; omega
end
mutual
theorem eqD_eqv : ∀ (n : Nat) (d e : D), flat n d = true → flat n e = true → eqD d e = PyData.eqv (toP d) (toP e)
  | n, .non, e, _, he => by cases e <;> first | rfl | (cases n <;> simp [flat] at he)
  | n, .bl a, e, _, he => by cases e <;> first | rfl | (cases n <;> simp [flat] at he)
  | n, .int i, e, _, he => by cases e <;> first | rfl | (cases n <;> simp [flat] at he)
  | n, .str x, e, _, he => by cases e <;> first | rfl | (cases n <;> simp [flat] at he)
  | 0, .tup _, _, h, _ => by simp [flat] at h
  | 0, .lst _, _, h, _ => by simp [flat] at h
  | 0, .scr _, _, h, _ => by simp [flat] at h
  | 0, .op _ _, _, h, _ => by simp [flat] at h
  | n + 1, .op _ _, _, h, _ => by simp [flat] at h
  | 0, .dic _ _, _, h, _ => by simp [flat] at h
  | n + 1, .dic _ _, _, h, _ => by simp [flat] at h
  | n + 1, .tup xs, e, h, he => by
    cases e with
    | tup ys => rw [eqD, toP, toP, PyData.eqv]; exact eqDs_eqv n xs ys (by simpa [flat] using h) (by simpa [flat] using he)
    | op _ _ => simp [flat] at he
    | dic _ _ => simp [flat] at he
    | _ => simp [eqD, toP, PyData.eqv]
  | n + 1, .lst xs, e, h, he => by
    cases e with
    | lst ys => rw [eqD, toP, toP, PyData.eqv]; exact eqDs_eqv n xs ys (by simpa [flat] using h) (by simpa [flat] using he)
    | scr ys => rw [eqD, toP, toP, PyData.eqv]; exact eqDs_eqv n xs ys (by simpa [flat] using h) (by simpa [flat] using he)
    | op _ _ => simp [flat] at he
    | dic _ _ => simp [flat] at he
    | _ => simp [eqD, toP, PyData.eqv]
  | n + 1, .scr xs, e, h, he => by
    cases e with
    | lst ys => rw [eqD, toP, toP, PyData.eqv]; exact eqDs_eqv n xs ys (by simpa [flat] using h) (by simpa [flat] using he)
    | scr ys => rw [eqD, toP, toP, PyData.eqv]; exact eqDs_eqv n xs ys (by simpa [flat] using h) (by simpa [flat] using he)
    | op _ _ => simp [flat] at he
    | dic _ _ => simp [flat] at he
    | _ => simp [eqD, toP, PyData.eqv]
theorem eqDs_eqv : ∀ (n : Nat) (ds es : List D), flats n ds = true → flats n es = true → eqDs ds es = PyData.eqvAll (toPs ds) (toPs es)
  | n, [], [], _, _ => rfl
  | n, [], _ :: _, _, _ => rfl
  | n, _ :: _, [], _, _ => rfl
  | n, d :: ds, e :: es, h, he => by
    have h' : flat n d = true ∧ flats n ds = true := by simpa [flats] using h
    have he' : flat n e = true ∧ flats n es = true := by simpa [flats] using he
    rw [eqDs, toPs, toPs, PyData.eqvAll, eqD_eqv n d e h'.1 he'.1, eqDs_eqv n ds es h'.2 he'.2]
end
section
variable {Γ : Gam} {K : PySem.W.Frag} {H : Hp}
mutual
theorem Rp.dp : ∀ {n : Nat} {v : V} {d : D}, Rp Γ K H v d → flat n d = true → Dp K H v (toP d)
  | _, _, _, .non, _ => .non
  | _, _, _, .bl b, _ => .bl b
  | _, _, _, .int i, _ => .int i
  | _, _, _, .str x, _ => .str x
  | 0, _, _, .tup _ _, f => by simp [flat] at f
  | 0, _, _, .lst _ _, f => by simp [flat] at f
  | 0, _, _, .scr _ _, f => by simp [flat] at f
  | n + 1, _, _, .tup h r, f => by rw [toP]; exact .tup h (RpA.dp (n := n) r (by simpa [flat] using f))
  | n + 1, _, _, .lst h r, f => by rw [toP]; exact .lst (.of h) (RpA.dp (n := n) r (by simpa [flat] using f))
  | n + 1, _, _, .scr h r, f => by rw [toP]; exact .lst h (RpA.dp (n := n) r (by simpa [flat] using f))
  | n, _, _, .op _ _, f => by cases n <;> simp [flat] at f
  | n, _, _, .dic _ _ _ _ _, f => by cases n <;> simp [flat] at f
theorem RpA.dp : ∀ {n : Nat} {vs : List V} {ds : List D}, RpA Γ K H vs ds → flats n ds = true → DpAll K H vs (toPs ds)
  | _, _, _, .nil, _ => .nil
  | n, _, _, .cons h r, f => by
    have h' := (show _ ∧ _ by simpa [flats] using f)
    rw [toPs]
    exact .cons (Rp.dp h h'.1) (RpA.dp r h'.2)
end
end
def eqO (d e : D) : R D := if flat 60 d && flat 60 e then .ok (.bl (eqD d e)) else .stuck
def neO (d e : D) : R D := if flat 60 d && flat 60 e then .ok (.bl (!eqD d e)) else .stuck
/-! ### in -/
def inD : D → D → R D
  | .str x, .str y => .ok (.bl (!(Builtin.Str.occurrences y x 0 y.length 1).isEmpty))
  | d, .lst ds => if flat 50 d && flats 50 ds then .ok (.bl (ds.any fun z => eqD z d)) else .stuck
  | d, .tup ds => if flat 0 d && flats 0 ds then .ok (.bl (ds.any fun z => eqD z d)) else .stuck
  | _, _ => .stuck
def notInD (d e : D) : R D := (inD d e).bind fun x => (asB x).bind fun k => .ok (.bl (!k))
section
variable {Γ : Gam} {X : Cx} {W : WX}
theorem Post.guard {α ν : Type} {G H : Hp} {σ : L2.St} {rel : Hp → ν → α → Prop} {Q : ν → Hp → Prop} (c : Prop) [Decidable c] {x : R α} (p : Post Γ W G H σ rel Q (if c then x else .stuck)) : c ∧ Post Γ W G H σ rel Q x := by
  by_cases h : c
  · rw [if_pos h] at p; exact ⟨h, p⟩
  · rw [if_neg h] at p; exact p.elim
abbrev rAddA (K : PySem.W.Frag) : R2 := fun x y H Q => (rI0 fun i j => V.int (i + j)) x y H Q ∨ (∃ i j, x = .str i ∧ y = .str j ∧ i.length + j.length ≤ sizeLine ∧ Q (.str (i ++ j)) H) ∨ rCatA K x y H Q ∨ rCat x y H Q
theorem opAdd : OpR X (binaryOp .Add) (rAddA X.K) := op_add.or (op_add_str.or (op_catA.or op_cat))
theorem osAdd : OpS Γ X.K W (rAddA X.K) addD := by
  intro G H σ x y d e Q s rx ry p
  cases rx <;> cases ry <;> first | exact p.elim | skip
  · exact .inl ⟨_, _, rfl, rfl, p.here s (.int _)⟩
  · rename_i x y
    obtain ⟨h, p⟩ := Post.guard (x.length + y.length ≤ 100000) p
    exact .inr (.inl ⟨_, _, rfl, rfl, line_of h, p.here s (.str _)⟩)
  · rename_i a xs ds ha ra b ys es hb rb
    obtain ⟨hl, p⟩ := Post.guard (ds.length + es.length ≤ 100000) p
    refine .inr (.inr (.inl ⟨a, b, xs, ys, rfl, rfl, s.seqT ha, s.seqT hb, line_of (by rw [ra.length, rb.length]; exact hl), fun e => ?_, fun _ e => ?_, fun _ _ q hq => ?_⟩))
    · subst e; cases ra; exact p.here s (.tup hb rb)
    · subst e; cases rb; rw [List.append_nil] at p; exact p.here s (.tup ha ra)
    · exact p _ _ _ (.new s hq) (.tup (.of upd_same) ((ra.append rb).mono (same_upd (s.none hq))))
  · rename_i a xs ds ha ra b ys es hb rb
    obtain ⟨hl, p⟩ := Post.guard (ds.length + es.length ≤ 100000) p
    refine .inr (.inr (.inr ⟨a, b, xs, ys, rfl, rfl, s _ _ ha, s _ _ hb, line_of (by rw [ra.length, rb.length]; exact hl), fun q hq => ?_⟩))
    exact p _ _ _ (.new s hq) (.lst upd_same ((ra.append rb).mono (same_upd (s.none hq))))
theorem osSub : OpS Γ X.K W (rI0 fun i j => .int (i - j)) subD := by
  intro G H σ x y d e Q s rx ry p
  cases rx <;> cases ry <;> first | exact p.elim | skip
  exact ⟨_, _, rfl, rfl, p.here s (.int _)⟩
theorem RpA.rep {K : PySem.W.Frag} {H : Hp} {vs : List V} {ds : List D} (r : RpA Γ K H vs ds) : ∀ n : Nat, RpA Γ K H (List.replicate n vs).flatten (List.replicate n ds).flatten
  | 0 => .nil
  | n + 1 => by rw [List.replicate_succ, List.replicate_succ, List.flatten_cons, List.flatten_cons]; exact r.append (RpA.rep r n)
abbrev rMulA (K : PySem.W.Frag) : R2 := fun x y H Q => (rI CMul fun i j => V.int (i * j)) x y H Q ∨ rRepT K x y H Q ∨ rRep x y H Q
theorem opMul : OpR X (binaryOp .Mult) (rMulA X.K) := op_mul.or (op_repT.or op_rep)
theorem osMul : OpS Γ X.K W (rMulA X.K) mulD := by
  intro G H σ x y d e Q s rx ry p
  cases rx <;> cases ry <;> first | exact p.elim | skip
  · rename_i i j
    obtain ⟨h, p⟩ := Post.guard ((-(2 ^ 64) < i ∧ i < 2 ^ 64) ∨ (-(2 ^ 64) < j ∧ j < 2 ^ 64)) p
    exact .inl ⟨_, _, rfl, rfl, h, p.here s (.int _)⟩
  · rename_i a xs ds ha ra k
    obtain ⟨hl, p⟩ := Post.guard (1 ≤ ds.length ∧ ds.length ≤ 1000 ∧ 2 ≤ k ∧ k ≤ 1000) p
    refine .inr (.inl ⟨a, k, xs, rfl, rfl, s.seqT ha, fun e => ?_, hl.2.2.1, hl.2.2.2, by rw [ra.length]; exact hl.2.1, fun q hq => ?_⟩)
    · have z := ra.length; rw [e] at z; simp at z; omega
    · exact p _ _ _ (.new s hq) (.tup (.of upd_same) ((ra.rep k.toNat).mono (same_upd (s.none hq))))
  · rename_i a xs ds ha ra k
    obtain ⟨hl, p⟩ := Post.guard (ds.length ≤ 1000 ∧ 0 ≤ k ∧ k ≤ 1000) p
    refine .inr (.inr ⟨a, k, xs, rfl, rfl, s _ _ ha, by omega, by omega, ?_, fun q hq => ?_⟩)
    · rw [ra.length, sizeLine_eq]
      have : ds.length * k.toNat ≤ 1000 * 1000 := Nat.mul_le_mul hl.1 (by omega)
      omega
    · exact p _ _ _ (.new s hq) (.lst upd_same ((ra.rep k.toNat).mono (same_upd (s.none hq))))
theorem osFdiv : OpS Γ X.K W (rI CDivW fun i j => .int (i / j)) fdivD := by
  intro G H σ x y d e Q s rx ry p
  cases rx <;> cases ry <;> first | exact p.elim | skip
  rename_i i j
  obtain ⟨h, p⟩ := Post.guard (0 < j ∧ j < 2 ^ 64) p
  refine ⟨_, _, rfl, rfl, wide_div h.1 (b := 64) ?_ (by decide) (by decide), p.here s (.int _)⟩
  omega
theorem osMod : OpS Γ X.K W (rI (fun _ j => 0 < j) fun i j => .int (i % j)) modD := by
  intro G H σ x y d e Q s rx ry p
  cases rx <;> cases ry <;> first | exact p.elim | skip
  rename_i i j
  obtain ⟨h, p⟩ := Post.guard (0 < j) p
  exact ⟨_, _, rfl, rfl, h, p.here s (.int _)⟩
theorem osPow : OpS Γ X.K W (rI CPow fun i j => .int (i ^ j.toNat)) powD := by
  intro G H σ x y d e Q s rx ry p
  cases rx <;> cases ry <;> first | exact p.elim | skip
  rename_i i j
  obtain ⟨h, p⟩ := Post.guard (0 ≤ j ∧ j ≤ 1000 ∧ -1000 ≤ i ∧ i ≤ 1000) p
  exact ⟨_, _, rfl, rfl, ⟨by omega, by omega, by omega⟩, p.here s (.int _)⟩
theorem usNeg : UnS Γ X.K W (rU fun i => .int (-i)) negD := by
  intro G H σ x d Q s rx p
  cases rx <;> first | exact p.elim | skip
  exact ⟨_, rfl, p.here s (.int _)⟩
theorem osLt : OpS Γ X.K W (rI0 fun i j => .bl (decide (i < j))) ltD := by
  intro G H σ x y d e Q s rx ry p
  cases rx <;> cases ry <;> first | exact p.elim | skip
  exact ⟨_, _, rfl, rfl, p.here s (.bl _)⟩
theorem osLe : OpS Γ X.K W (rI0 fun i j => .bl (decide (i ≤ j))) leD := by
  intro G H σ x y d e Q s rx ry p
  cases rx <;> cases ry <;> first | exact p.elim | skip
  exact ⟨_, _, rfl, rfl, p.here s (.bl _)⟩
theorem osGt : OpS Γ X.K W (rI0 fun i j => .bl (decide (j < i))) gtD := by
  intro G H σ x y d e Q s rx ry p
  cases rx <;> cases ry <;> first | exact p.elim | skip
  exact ⟨_, _, rfl, rfl, p.here s (.bl _)⟩
theorem osGe : OpS Γ X.K W (rI0 fun i j => .bl (decide (j ≤ i))) geD := by
  intro G H σ x y d e Q s rx ry p
  cases rx <;> cases ry <;> first | exact p.elim | skip
  exact ⟨_, _, rfl, rfl, p.here s (.bl _)⟩
abbrev rIsA : R2 := fun x y H Q => (y = .non ∧ Q (.bl (decide (x = .non))) H) ∨ rIsB x y H Q
abbrev rIsNA : R2 := fun x y H Q => (y = .non ∧ Q (.bl (!decide (x = .non))) H) ∨ rNotB x y H Q
theorem opIs : OpR X (compareOp .Is) rIsA := op_isN.or op_isBl
theorem opIsNot : OpR X (compareOp .IsNot) rIsNA := op_notN.or op_notBl
theorem osIs : OpS Γ X.K W rIsA isD := by
  intro G H σ x y d e Q s rx ry p
  cases ry <;> cases rx <;> first | exact p.elim | skip
  all_goals first
    | exact .inl ⟨rfl, p.here s (.bl _)⟩
    | exact .inr ⟨_, _, rfl, rfl, p.here s (.bl _)⟩
theorem osIsNot : OpS Γ X.K W rIsNA isNotD := by
  intro G H σ x y d e Q s rx ry p
  cases ry <;> cases rx <;> first | exact p.elim | skip
  all_goals first
    | exact .inl ⟨rfl, p.here s (.bl _)⟩
    | exact .inr ⟨_, _, rfl, rfl, p.here s (.bl _)⟩
theorem shaped60 {n : Nat} (hn : n ≤ 64) {d : D} (h : flat n d = true) : SeqAt.shaped (toP d) = true := by
  obtain ⟨h1, h2⟩ := flat_shaped n d h
  unfold SeqAt.shaped
  rw [h1, decide_eq_true (Nat.le_trans h2 hn)]
  rfl
theorem osEq : OpS Γ X.K W (rEqD X.K) eqO := by
  intro G H σ x y d e Q s rx ry p
  unfold eqO at p
  split at p
  · rename_i h
    rw [Bool.and_eq_true] at h
    refine ⟨toP d, toP e, (rx.mono s).dp h.1, (ry.mono s).dp h.2, shaped60 (by decide) h.1, shaped60 (by decide) h.2, ?_⟩
    rw [← eqD_eqv 60 d e h.1 h.2]
    exact p.here s (.bl _)
  · exact p.elim
theorem osNe : OpS Γ X.K W (rNeD X.K) neO := by
  intro G H σ x y d e Q s rx ry p
  unfold neO at p
  split at p
  · rename_i h
    rw [Bool.and_eq_true] at h
    refine ⟨toP d, toP e, (rx.mono s).dp h.1, (ry.mono s).dp h.2, shaped60 (by decide) h.1, shaped60 (by decide) h.2, ?_⟩
    rw [← eqD_eqv 60 d e h.1 h.2]
    exact p.here s (.bl _)
  · exact p.elim
end
end VL
end
section
set_option Elab.async false
set_option linter.all false
set_option maxRecDepth 100000
set_option maxHeartbeats 2000000
set_option autoImplicit false
namespace VL
open PySem PySem.Spec PyProof.Rows L2
variable [TabN]
/-! ### subscripts, slices, in -/
def ixO : D → D → R D
  | .lst ds, .int i => (match atI ds i with | some d => .ok d | none => .stuck)
  | .tup ds, .int i => (match atI ds i with | some d => .ok d | none => .stuck)
  | .scr ds, .int i => (match atI ds i with | some d => .ok d | none => .stuck)
  | .str z, .int i => if z.length ≤ 100000 then (match atI z.cps.toList i with | some c => .ok (.str ⟨#[c]⟩) | none => .stuck) else .stuck
  | _, _ => .stuck
def slO : D → Option Int → Option Int → R D
  | .lst ds, lo, hi => .ok (.lst (cutA ds lo hi))
  | .tup ds, lo, hi => .ok (.tup (cutA ds lo hi))
  | .str z, lo, hi => if z.length ≤ 100000 then .ok (.str (cutS z lo hi)) else .stuck
  | _, _, _ => .stuck
section
variable {Γ : Gam} {X : Cx} {W : WX}
theorem RpA.atI {K : PySem.W.Frag} {H : Hp} {vs : List V} {ds : List D} {i : Int} {d : D} (r : RpA Γ K H vs ds) (h : L2.atI ds i = some d) : ∃ v, L2.atI vs i = some v ∧ Rp Γ K H v d := by
  unfold L2.atI at h ⊢
  rw [r.length]
  cases e : ixN ds.length i with
  | none => rw [e] at h; cases h
  | some j => rw [e] at h; exact r.get h
theorem osIx : OpS Γ X.K W (rIx X.K) ixO := by
  intro G H σ x y d e Q s rx ry p
  cases rx <;> cases ry <;> first | exact p.elim | skip
  · rename_i z i
    obtain ⟨hl, p⟩ := Post.guard (z.length ≤ 100000) p
    cases hc : L2.atI z.cps.toList i with
    | none => rw [hc] at p; exact p.elim
    | some c =>
      rw [hc] at p
      exact .inr (.inr ⟨z, i, c, rfl, rfl, line_of hl, hc, p.here s (.str _)⟩)
  · rename_i a xs ds ha ra i
    have p' : Post Γ W G H σ (Rp Γ X.K) Q (match L2.atI ds i with | some d => .ok d | none => .stuck) := p
    cases hc : L2.atI ds i with
    | none => rw [hc] at p'; exact p'.elim
    | some c =>
      rw [hc] at p'
      obtain ⟨v, h1, h2⟩ := ra.atI hc
      exact .inr (.inl ⟨a, xs, i, v, rfl, rfl, s.seqT ha, h1, p'.here s h2⟩)
  · rename_i a xs ds ha ra i
    have p' : Post Γ W G H σ (Rp Γ X.K) Q (match L2.atI ds i with | some d => .ok d | none => .stuck) := p
    cases hc : L2.atI ds i with
    | none => rw [hc] at p'; exact p'.elim
    | some c =>
      rw [hc] at p'
      obtain ⟨v, h1, h2⟩ := ra.atI hc
      exact .inl ⟨a, xs, i, v, rfl, rfl, .of (s _ _ ha), h1, p'.here s h2⟩
  · rename_i a xs ds ha ra i
    have p' : Post Γ W G H σ (Rp Γ X.K) Q (match L2.atI ds i with | some d => .ok d | none => .stuck) := p
    cases hc : L2.atI ds i with
    | none => rw [hc] at p'; exact p'.elim
    | some c =>
      rw [hc] at p'
      obtain ⟨v, h1, h2⟩ := ra.atI hc
      exact .inl ⟨a, xs, i, v, rfl, rfl, s.seq ha, h1, p'.here s h2⟩
theorem RpA.cut {K : PySem.W.Frag} {H : Hp} {vs : List V} {ds : List D} (lo hi : Option Int) (r : RpA Γ K H vs ds) : RpA Γ K H (cutV vs lo hi) (cutA ds lo hi) := by
  unfold cutV cutA
  rw [r.length]
  exact (r.drop _).take _
abbrev rSlAll (K : PySem.W.Frag) : V → Option Int → Option Int → Hp → VK → Prop := fun x lo hi H Q => rSlA K x lo hi H Q ∨ rSlL K x lo hi H Q ∨ rSlS x lo hi H Q
theorem slAll : SlR X (rSlAll X.K) := sl_tupA.or (sl_list.or sl_str)
theorem ssSl : SlS Γ X.K W (rSlAll X.K) slO := by
  intro G H σ x d lo hi Q s rx p
  cases rx <;> first | exact p.elim | skip
  · rename_i z
    obtain ⟨hl, p⟩ := Post.guard (z.length ≤ 100000) p
    exact .inr (.inr ⟨z, rfl, line_of hl, p.here s (.str _)⟩)
  · rename_i a xs ds ha ra
    refine .inl ⟨a, xs, rfl, s.seqT ha, fun hw => ?_, fun _ q hq => ?_⟩
    · have e : cutA ds lo hi = ds := by
        unfold cutA
        rw [← ra.length, hw.1, hw.2, ra.length]
        simp
      have p' : Post Γ W G H σ (Rp Γ X.K) Q (.ok (.tup (cutA ds lo hi))) := p
      rw [e] at p'
      exact p'.here s (.tup ha ra)
    · exact p _ _ _ (.new s hq) (.tup (.of upd_same) ((ra.cut lo hi).mono (same_upd (s.none hq))))
  · rename_i a xs ds ha ra
    exact .inr (.inl ⟨a, xs, rfl, .of (s _ _ ha), fun q hq => p _ _ _ (.new s hq) (.lst upd_same ((ra.cut lo hi).mono (same_upd (s.none hq))))⟩)
theorem flat0_V {K : PySem.W.Frag} {H : Hp} {v : V} {d : D} (r : Rp Γ K H v d) (h : flat 0 d = true) : flatV v = true := by
  cases r <;> first | rfl | (simp [flat] at h)
theorem flats0_V {K : PySem.W.Frag} {H : Hp} : ∀ {vs : List V} {ds : List D}, RpA Γ K H vs ds → flats 0 ds = true → vs.all flatV = true
  | _, _, .nil, _ => rfl
  | _, _, .cons h r, f => by
    have f' := (show _ ∧ _ by simpa [flats] using f)
    rw [List.all_cons, flat0_V h f'.1, flats0_V r f'.2]; rfl
theorem eqV_D {K : PySem.W.Frag} {H : Hp} {v u : V} {d e : D} (r : Rp Γ K H v d) (q : Rp Γ K H u e) (h : flat 0 d = true) (h' : flat 0 e = true) : eqV v u = eqD d e := by
  cases r <;> cases q <;> first | rfl | (simp [flat] at h; done) | (simp [flat] at h'; done)
theorem inV_D {K : PySem.W.Frag} {H : Hp} {u : V} {e : D} (q : Rp Γ K H u e) (h' : flat 0 e = true) : ∀ {vs : List V} {ds : List D}, RpA Γ K H vs ds → flats 0 ds = true → (vs.any fun y => eqV y u) = ds.any fun z => eqD z e
  | _, _, .nil, _ => rfl
  | _, _, .cons h r, f => by
    have f' := (show _ ∧ _ by simpa [flats] using f)
    rw [List.any_cons, List.any_cons, eqV_D h q f'.1 h', inV_D q h' r f'.2]
theorem anyP {n : Nat} {d : D} (h : flat n d = true) : ∀ {ds : List D}, flats n ds = true → ((toPs ds).any fun z => PyData.eqv z (toP d)) = ds.any fun z => eqD z d
  | [], _ => rfl
  | e :: ds, f => by
    have f' := (show _ ∧ _ by simpa [flats] using f)
    rw [toPs, List.any_cons, List.any_cons, eqD_eqv n e d f'.1 h, anyP h f'.2]
abbrev rInA (K : PySem.W.Frag) : R2 := fun x y H Q => (∃ i j, x = .str i ∧ y = .str j ∧ Q (.bl (!(Builtin.Str.occurrences j i 0 j.length 1).isEmpty)) H) ∨ rInD K x y H Q ∨ rIn K false x y H Q
abbrev rNotInA (K : PySem.W.Frag) : R2 := fun x y H Q => (∃ i j, x = .str i ∧ y = .str j ∧ Q (.bl (!(!(Builtin.Str.occurrences j i 0 j.length 1).isEmpty))) H) ∨ rNotInD K x y H Q ∨ rIn K true x y H Q
theorem opIn (hu : X.A.units + 65 < cLine) : OpR X (compareOp .In) (rInA X.K) := op_in_str.or ((op_inD hu).or op_in_seq)
theorem opNotIn (hu : X.A.units + 65 < cLine) : OpR X (compareOp .NotIn) (rNotInA X.K) := op_notin_str.or ((op_notInD hu).or op_notIn_seq)
theorem in_sem {K : PySem.W.Frag} {G H : Hp} {σ : L2.St} {x y : V} {d e : D} {g : Bool → R D} {Q : VK} (s : Same G H) (rx : Rp Γ K G x d) (ry : Rp Γ K G y e) (p : Post Γ W G H σ (Rp Γ K) Q ((inD d e).bind fun z => (asB z).bind g)) :
    (∃ i j, x = .str i ∧ y = .str j ∧ Post Γ W G H σ (Rp Γ K) Q (g (!(Builtin.Str.occurrences j i 0 j.length 1).isEmpty))) ∨
    (∃ d ds, Dp K H x d ∧ Dp K H y (.list ds) ∧ SeqAt.shaped d = true ∧ SeqAt.shaped (.list ds) = true ∧ Post Γ W G H σ (Rp Γ K) Q (g (ds.any fun z => PyData.eqv z d))) ∨
    (∃ p xs, y = .ref p ∧ (SqL K H p xs ∨ SqT K H p xs) ∧ flatV x = true ∧ xs.all flatV = true ∧ Post Γ W G H σ (Rp Γ K) Q (g (inV x xs))) := by
  have lst : ∀ {a : Addr} {xs : List V} {ds : List D}, y = .ref a → e = .lst ds → G a = some (.lst xs) → RpA Γ K G xs ds → (∃ d ds, Dp K H x d ∧ Dp K H y (.list ds) ∧ SeqAt.shaped d = true ∧ SeqAt.shaped (.list ds) = true ∧ Post Γ W G H σ (Rp Γ K) Q (g (ds.any fun z => PyData.eqv z d))) := by
    intro a xs ds ey ee ha ra
    subst ey ee
    have p' : Post Γ W G H σ (Rp Γ K) Q ((if (flat 50 d && flats 50 ds) = true then R.ok (D.bl (ds.any fun z => eqD z d)) else R.stuck).bind fun z => (asB z).bind g) := by
      cases d <;> exact p
    by_cases hf : (flat 50 d && flats 50 ds) = true
    · rw [if_pos hf] at p'
      rw [Bool.and_eq_true] at hf
      have hl : flat 51 (.lst ds) = true := by simpa [flat] using hf.2
      have hl' : SeqAt.shaped (.list (toPs ds)) = true := by
        have := shaped60 (n := 51) (by decide) hl
        rwa [toP] at this
      refine ⟨toP d, toPs ds, (rx.mono s).dp hf.1, ?_, shaped60 (by decide) hf.1, hl', ?_⟩
      · have := (Rp.dp (n := 51) (Rp.mono s (Rp.lst ha ra)) hl)
        rwa [toP] at this
      · rw [anyP hf.1 hf.2]; exact p'
    · rw [if_neg hf] at p'; exact p'.elim
  have tup : ∀ {a : Addr} {xs : List V} {ds : List D}, y = .ref a → e = .tup ds → SqT K G a xs → RpA Γ K G xs ds → (∃ p xs, y = .ref p ∧ (SqL K H p xs ∨ SqT K H p xs) ∧ flatV x = true ∧ xs.all flatV = true ∧ Post Γ W G H σ (Rp Γ K) Q (g (inV x xs))) := by
    intro a xs ds ey ee ha ra
    subst ey ee
    have p' : Post Γ W G H σ (Rp Γ K) Q ((if (flat 0 d && flats 0 ds) = true then R.ok (D.bl (ds.any fun z => eqD z d)) else R.stuck).bind fun z => (asB z).bind g) := by
      cases d <;> exact p
    by_cases hf : (flat 0 d && flats 0 ds) = true
    · rw [if_pos hf] at p'
      rw [Bool.and_eq_true] at hf
      refine ⟨a, xs, rfl, .inr (s.seqT ha), flat0_V rx hf.1, flats0_V ra hf.2, ?_⟩
      unfold inV
      rw [inV_D rx hf.1 ra hf.2]
      exact p'
    · rw [if_neg hf] at p'; exact p'.elim
  cases ry with
  | str z =>
    cases rx <;> first | exact p.elim | skip
    exact .inl ⟨_, _, rfl, rfl, p⟩
  | tup ha ra => exact .inr (.inr (tup rfl rfl ha ra))
  | lst ha ra => exact .inr (.inl (lst rfl rfl ha ra))
  | _ => cases rx <;> exact p.elim
def inO (d e : D) : R D := (inD d e).bind fun x => (asB x).bind fun k => .ok (.bl k)
theorem osIn : OpS Γ X.K W (rInA X.K) inO := by
  intro G H σ x y d e Q s rx ry p
  rcases in_sem s rx ry p with ⟨i, j, h1, h2, q⟩ | ⟨d, ds, h1, h2, h3, h4, q⟩ | ⟨a, xs, h1, h2, h3, h4, q⟩
  · exact .inl ⟨i, j, h1, h2, q.here s (.bl _)⟩
  · exact .inr (.inl ⟨d, ds, h1, h2, h3, h4, q.here s (.bl _)⟩)
  · exact .inr (.inr ⟨a, xs, h1, h2, h3, h4, q.here s (.bl _)⟩)
theorem osNotIn : OpS Γ X.K W (rNotInA X.K) notInD := by
  intro G H σ x y d e Q s rx ry p
  rcases in_sem s rx ry p with ⟨i, j, h1, h2, q⟩ | ⟨d, ds, h1, h2, h3, h4, q⟩ | ⟨a, xs, h1, h2, h3, h4, q⟩
  · exact .inl ⟨i, j, h1, h2, q.here s (.bl _)⟩
  · exact .inr (.inl ⟨d, ds, h1, h2, h3, h4, q.here s (.bl _)⟩)
  · exact .inr (.inr ⟨a, xs, h1, h2, h3, h4, q.here s (.bl _)⟩)
/-! ### built-in functions -/
def lenO : List D → R D
  | [.lst ds] => .ok (.int ds.length)
  | [.tup ds] => .ok (.int ds.length)
  | [.scr ds] => .ok (.int ds.length)
  | [.str z] => if z.length ≤ 100000 then .ok (.int z.length) else .stuck
  | _ => .stuck
theorem RpA.inv1 {K : PySem.W.Frag} {H : Hp} {vs : List V} {d : D} (r : RpA Γ K H vs [d]) : ∃ v, vs = [v] ∧ Rp Γ K H v d := by
  cases r with
  | cons h r => cases r; exact ⟨_, rfl, h⟩
theorem RpA.inv2 {K : PySem.W.Frag} {H : Hp} {vs : List V} {d e : D} (r : RpA Γ K H vs [d, e]) : ∃ v u, vs = [v, u] ∧ Rp Γ K H v d ∧ Rp Γ K H u e := by
  cases r with
  | cons h r =>
    obtain ⟨u, rfl, h2⟩ := r.inv1
    exact ⟨_, u, rfl, h, h2⟩
theorem csLen : CaS Γ X.K W (fun xs H Q => ∃ x n, xs = [x] ∧ LenV X.K x H n ∧ Q (.int n) H) lenO := by
  intro G H σ xs ds Q s r p
  unfold lenO at p
  split at p
  · obtain ⟨v, rfl, h⟩ := r.inv1
    cases h with
    | lst ha ra => exact ⟨_, _, rfl, .inl ⟨_, .of (s _ _ ha), rfl⟩, by rw [ra.length]; exact p.here s (.int _)⟩
  · obtain ⟨v, rfl, h⟩ := r.inv1
    cases h with
    | tup ha ra => exact ⟨_, _, rfl, .inr ⟨_, s.seqT ha, rfl⟩, by rw [ra.length]; exact p.here s (.int _)⟩
  · obtain ⟨v, rfl, h⟩ := r.inv1
    cases h with
    | scr ha ra => exact ⟨_, _, rfl, .inl ⟨_, s.seq ha, rfl⟩, by rw [ra.length]; exact p.here s (.int _)⟩
  · obtain ⟨v, rfl, h⟩ := r.inv1
    rename_i z
    obtain ⟨hl, p⟩ := Post.guard (z.length ≤ 100000) p
    cases h
    exact ⟨_, _, rfl, ⟨line_of hl, rfl⟩, p.here s (.int _)⟩
  · exact p.elim
def absO : List D → R D
  | [.int i] => .ok (.int (if i < 0 then -i else i))
  | _ => .stuck
theorem csAbs : CaS Γ X.K W (fun xs H Q => ∃ i, xs = [.int i] ∧ Q (.int (if i < 0 then -i else i)) H) absO := by
  intro G H σ xs ds Q s r p
  unfold absO at p
  split at p
  · obtain ⟨v, rfl, h⟩ := r.inv1
    cases h
    exact ⟨_, rfl, p.here s (.int _)⟩
  · exact p.elim
def max2O : List D → R D
  | [.int i, .int j] => .ok (.int (if j > i then j else i))
  | _ => .stuck
def min2O : List D → R D
  | [.int i, .int j] => .ok (.int (if j < i then j else i))
  | _ => .stuck
theorem csMax2 : CaS Γ X.K W (fun xs H Q => ∃ i j, xs = [.int i, .int j] ∧ Q (.int (if j > i then j else i)) H) max2O := by
  intro G H σ xs ds Q s r p
  unfold max2O at p
  split at p
  · obtain ⟨v, u, rfl, h, h2⟩ := r.inv2
    cases h
    cases h2
    exact ⟨_, _, rfl, p.here s (.int _)⟩
  · exact p.elim
theorem csMin2 : CaS Γ X.K W (fun xs H Q => ∃ i j, xs = [.int i, .int j] ∧ Q (.int (if j < i then j else i)) H) min2O := by
  intro G H σ xs ds Q s r p
  unfold min2O at p
  split at p
  · obtain ⟨v, u, rfl, h, h2⟩ := r.inv2
    cases h
    cases h2
    exact ⟨_, _, rfl, p.here s (.int _)⟩
  · exact p.elim
/-- the bools of a list -/
def bools : List D → Option (List Bool)
  | [] => some []
  | .bl b :: ds => (bools ds).map (b :: ·)
  | _ => none
theorem bools_V {K : PySem.W.Frag} {H : Hp} : ∀ {vs : List V} {ds : List D} {bs : List Bool}, RpA Γ K H vs ds → bools ds = some bs → vs = bs.map V.bl
  | _, _, _, .nil, h => by cases h; rfl
  | _, _, bs, .cons h r, e => by
    cases h <;> first | (cases e; done) | skip
    rename_i vs ds b
    have e' : (bools ds).map (b :: ·) = some bs := e
    cases hb : bools ds with
    | none => rw [hb] at e'; cases e'
    | some cs =>
      rw [hb] at e'
      cases e'
      rw [bools_V r hb]
      rfl
def allO : List D → R D
  | [.lst ds] => (match bools ds with | some bs => .ok (.bl (bs.all id)) | none => .stuck)
  | _ => .stuck
def anyO : List D → R D
  | [.lst ds] => (match bools ds with | some bs => .ok (.bl (bs.any id)) | none => .stuck)
  | _ => .stuck
theorem csAll : CaS Γ X.K W (rAll X.K) allO := by
  intro G H σ xs ds Q s r p
  unfold allO at p
  split at p
  · rename_i ds
    obtain ⟨v, rfl, h⟩ := r.inv1
    cases h with
    | lst ha ra =>
      cases hb : bools ds with
      | none => rw [hb] at p; exact p.elim
      | some bs =>
        rw [hb] at p
        have e := bools_V ra hb
        subst e
        exact ⟨_, bs, rfl, .of (s _ _ ha), p.here s (.bl _)⟩
  · exact p.elim
theorem csAny : CaS Γ X.K W (rAny X.K) anyO := by
  intro G H σ xs ds Q s r p
  unfold anyO at p
  split at p
  · rename_i ds
    obtain ⟨v, rfl, h⟩ := r.inv1
    cases h with
    | lst ha ra =>
      cases hb : bools ds with
      | none => rw [hb] at p; exact p.elim
      | some bs =>
        rw [hb] at p
        have e := bools_V ra hb
        subst e
        exact ⟨_, bs, rfl, .of (s _ _ ha), p.here s (.bl _)⟩
  · exact p.elim
def tupO : List D → R D
  | [.lst ds] => .ok (.tup ds)
  | [.tup ds] => .ok (.tup ds)
  | _ => .stuck
theorem csTup : CaS Γ X.K W (fun xs H Q => ∃ p ys, xs = [.ref p] ∧ ((SqL X.K H p ys ∧ ∀ l, H l = none → Q (.ref l) (upd H l (.tup ys))) ∨ (SqT X.K H p ys ∧ Q (.ref p) H))) tupO := by
  intro G H σ xs ds Q s r p
  unfold tupO at p
  split at p
  · obtain ⟨v, rfl, h⟩ := r.inv1
    cases h with
    | lst ha ra => exact ⟨_, _, rfl, .inl ⟨.of (s _ _ ha), fun q hq => p _ _ _ (.new s hq) (.tup (.of upd_same) (ra.mono (same_upd (s.none hq))))⟩⟩
  · obtain ⟨v, rfl, h⟩ := r.inv1
    cases h with
    | tup ha ra => exact ⟨_, _, rfl, .inr ⟨s.seqT ha, p.here s (.tup ha ra)⟩⟩
  · exact p.elim
def listO : List D → R D
  | [.lst ds] => .ok (.lst ds)
  | [.tup ds] => .ok (.lst ds)
  | _ => .stuck
theorem csList : CaS Γ X.K W (fun xs H Q => ∃ p ys, xs = [.ref p] ∧ (SqL X.K H p ys ∨ SqT X.K H p ys) ∧ ∀ l, H l = none → Q (.ref l) (upd H l (.lst ys))) listO := by
  intro G H σ xs ds Q s r p
  unfold listO at p
  split at p
  · obtain ⟨v, rfl, h⟩ := r.inv1
    cases h with
    | lst ha ra => exact ⟨_, _, rfl, .inl (.of (s _ _ ha)), fun q hq => p _ _ _ (.new s hq) (.lst upd_same (ra.mono (same_upd (s.none hq))))⟩
  · obtain ⟨v, rfl, h⟩ := r.inv1
    cases h with
    | tup ha ra => exact ⟨_, _, rfl, .inr (s.seqT ha), fun q hq => p _ _ _ (.new s hq) (.lst upd_same (ra.mono (same_upd (s.none hq))))⟩
  · exact p.elim
end
end VL
end
section
set_option Elab.async false
set_option linter.all false
set_option maxRecDepth 100000
set_option maxHeartbeats 2000000
set_option autoImplicit false
namespace VL
open PySem PySem.Spec PyProof.Rows L2
variable [TabN]
/-! ### isinstance of data -/
inductive Ty where
  | int | bool | str | tuple | list
def Ty.name : Ty → String
  | .int => "int" | .bool => "bool" | .str => "str" | .tuple => "tuple" | .list => "list"
def tyD : D → Option String
  | .non => some "NoneType"
  | .bl _ => some "bool"
  | .int _ => some "int"
  | .str _ => some "str"
  | .tup _ => some "tuple"
  | .lst _ => some "list"
  | .scr _ => some "list"
  | .op _ _ => none
  | .dic _ _ => none
def isiB : Ty → D → Bool
  | .int, .int _ => true
  | .int, .bl _ => true
  | .bool, .bl _ => true
  | .str, .str _ => true
  | .tuple, .tup _ => true
  | .list, .lst _ => true
  | .list, .scr _ => true
  | _, _ => false
def isiO (T : Ty) : D → R D
  | .op _ _ => .stuck
  | .dic _ _ => .stuck
  | d => .ok (.bl (isiB T d))
def kitTab (T : Ty) (t : String) : Bool := kitB t T.name == some (t == T.name || (T.name == "int" && t == "bool"))
theorem kit_all : ∀ T : Ty, (kitTab T "NoneType" && kitTab T "bool" && kitTab T "int" && kitTab T "str" && kitTab T "tuple" && kitTab T "list") = true
  | .int => by decide +kernel
  | .bool => by decide +kernel
  | .str => by decide +kernel
  | .tuple => by decide +kernel
  | .list => by decide +kernel
theorem kit_tab (T : Ty) (d : D) (t : String) (h : tyD d = some t) : kitB t T.name = some (isiB T d) := by
  have a := kit_all T
  simp only [Bool.and_eq_true] at a
  obtain ⟨⟨⟨⟨⟨a1, a2⟩, a3⟩, a4⟩, a5⟩, a6⟩ := a
  unfold kitTab at a1 a2 a3 a4 a5 a6
  cases d with
  | non => cases h; rw [beq_iff_eq.mp a1]; cases T <;> rfl
  | bl b => cases h; rw [beq_iff_eq.mp a2]; cases T <;> rfl
  | int i => cases h; rw [beq_iff_eq.mp a3]; cases T <;> rfl
  | str x => cases h; rw [beq_iff_eq.mp a4]; cases T <;> rfl
  | tup xs => cases h; rw [beq_iff_eq.mp a5]; cases T <;> rfl
  | lst xs => cases h; rw [beq_iff_eq.mp a6]; cases T <;> rfl
  | scr xs => cases h; rw [beq_iff_eq.mp a6]; cases T <;> rfl
  | op _ _ => cases h
  | dic _ _ => cases h
section
variable {Γ : Gam} {X : Cx} {W : WX} {a b c e : Expr} {es : List Expr} {fa fb fc : En → R D} {pos p p2 : Pos} {j : Nat}
theorem Rp.ty {K : PySem.W.Frag} {H : Hp} {v : V} {d : D} {t : String} (r : Rp Γ K H v d) (h : tyD d = some t) : TyX K H v (.type t) := by
  cases r with
  | non => cases h; exact .base .non
  | bl b => cases h; exact .base (.bl b)
  | int i => cases h; exact .base (.int i)
  | str x => cases h; exact .base (.str x)
  | tup ha ra =>
    cases h
    rcases ha with (ha | ⟨o, ha⟩) | ⟨o, its, n, hk, hc, _⟩
    · exact .base (.tup ha)
    · exact .fTuple ha
    · exact .kTuple hk hc
  | lst ha ra => cases h; exact .base (.lst ha)
  | scr ha ra =>
    cases h
    rcases ha with (ha | ⟨o, ha⟩) | ⟨o, its, n, hk, hc, _⟩
    · exact .base (.lst ha)
    · exact .base (.frz ha)
    · exact .kList hk hc
  | op _ _ => cases h
  | dic _ _ _ _ _ => cases h
theorem se_isi (T : Ty) {x y : Str} (ha : SE Γ X W a fa) (hx : bootBuiltins x = some (.builtin "isinstance")) (hy : bootBuiltins y = some (.type T.name)) (hg : Gl X x) (hm : X.mg x = none) (hgT : Gl X y) (hmT : X.mg y = none)
    (hn : x ≠ "__name__" := by decide) (hdb : (x == ("__debug__" : Str)) = false := by decide) (hnT : y ≠ "__name__" := by decide) (hdT : (y == ("__debug__" : Str)) = false := by decide)
    (he : starEach [a, .Name y p2] X.env = (false, eval a X.env) :: starEach [.Name y p2] X.env := by rfl) (he2 : starEach [.Name y p2] X.env = (false, eval (.Name y p2) X.env) :: starEach [] X.env := by rfl) (hpl : (backTo pos (starEach [.Name y p2] X.env)).any (·.1) = false := by rfl) :
    SE Γ X W (.Call (.Name x p) [a, .Name y p2] [] pos) (fun ρ => (fa ρ).bind (isiO T)) := by
  obtain ⟨ta, pa, qa⟩ := ha.out
  refine .mk ⟨_, pe_callB call_isi hg hm hx (pa_cons pa (pa_cons (pe_bltn (v := .ty T.name) hgT hmT hy rfl hnT hdT) pa_nil he2) he) hn hdb he hpl, fun {B G H σ ρ Q} r p => ?_⟩
  refine qa r (p.bind fun G1 H1 v d e1 r1 p1 => ?_)
  cases ht : tyD d with
  | none => cases d <;> first | (cases ht; done) | exact p1.elim
  | some t =>
    refine ⟨v, .ty T.name, .type t, .type T.name, isiB T d, rfl, .ty _, (r1.mono e1.s).ty ht, kit_ty (kit_tab T d t ht), ?_⟩
    have p2 : Post Γ W G1 H1 σ (Rp Γ X.K) Q (.ok (.bl (isiB T d))) := by
      cases d <;> first | (cases ht; done) | exact p1
    exact p2.here e1.s (.bl _)
/-! ### raise -/
structure ExK (K : PySem.W.Frag) (mg : Str → Option Value) (x : Str) (C : Addr) : Prop where
  gC : mg x = some (.ref C)
  xC : PySem.W.excIn K C [.type "ValueError", .type "Exception", .type "BaseException", .type "object"] "ValueError.__new__" = true
  kC : PySem.W.keepIn K (.ref C) = true
  bC : PySem.W.subIn K (.ref C) (.type "BaseException") = some true
  tC : PySem.W.typeIn K (.ref C) = some (.type "type")
theorem ss_raiseX (k : Nat) {x m : Str} {Ca : Addr} {i : Nat} {p1 p2 p3 : Pos} (C : Ct X W j) (F : ExK X.K X.mg x Ca) (hk : Γ.cls k = .ref Ca) (hg : Gl X x) (hdb : (x == ("__debug__" : Str)) = false := by decide) :
    SS Γ X W (.Raise (some (.Call (.Name x p1) [.Constant (.str m) i p2] [] p3)) none pos) (fun ρ => .exc k ρ) :=
  ss_raise C (pmk_own PySem.F.excBase_ValueError F.xC F.gC F.kC (raises_own F.bC F.tC) hg hdb) fun σ H Q q => by rw [hk] at q; exact q

/-! ### try .. except X as e: the suite returns -/
def Gam.hot (Γ : Gam) (a : Addr) : Gam where
  O := fun K H v n vs => (n = 1 ∧ vs = [] ∧ v = .ref a) ∨ Γ.O K H v n vs
  ob := fun h => .inr (Γ.ob h)
  mono := fun s h => h.imp id (Γ.mono s)
  cls := Γ.cls
  P := Γ.P
  w := Γ.w
  self := Γ.self
mutual
theorem Rp.toHot {K : PySem.W.Frag} {H : Hp} {ad : Addr} : ∀ {v : V} {d : D}, Rp Γ K H v d → Rp (Γ.hot ad) K H v d
  | _, _, .non => .non
  | _, _, .bl b => .bl b
  | _, _, .int i => .int i
  | _, _, .str x => .str x
  | _, _, .tup h r => .tup h (RpA.toHot r)
  | _, _, .lst h r => .lst h (RpA.toHot r)
  | _, _, .scr h r => .scr h (RpA.toHot r)
  | _, _, .op h r => .op (.inr h) (RpA.toHot r)
  | _, _, .dic h x n r q => .dic h x n (RpA.toHot r) (RpA.toHot q)
theorem RpA.toHot {K : PySem.W.Frag} {H : Hp} {ad : Addr} : ∀ {vs : List V} {ds : List D}, RpA Γ K H vs ds → RpA (Γ.hot ad) K H vs ds
  | _, _, .nil => .nil
  | _, _, .cons h r => .cons (Rp.toHot h) (RpA.toHot r)
end
mutual
theorem Rp.ofHot {K : PySem.W.Frag} {H : Hp} {ad : Addr} : ∀ {n : Nat} {v : V} {d : D}, Rp (Γ.hot ad) K H v d → flat n d = true → Rp Γ K H v d
  | _, _, _, .non, _ => .non
  | _, _, _, .bl b, _ => .bl b
  | _, _, _, .int i, _ => .int i
  | _, _, _, .str x, _ => .str x
  | 0, _, _, .tup _ _, f => by simp [flat] at f
  | 0, _, _, .lst _ _, f => by simp [flat] at f
  | 0, _, _, .scr _ _, f => by simp [flat] at f
  | n + 1, _, _, .tup h r, f => .tup h (RpA.ofHot (n := n) r (by simpa [flat] using f))
  | n + 1, _, _, .lst h r, f => .lst h (RpA.ofHot (n := n) r (by simpa [flat] using f))
  | n + 1, _, _, .scr h r, f => .scr h (RpA.ofHot (n := n) r (by simpa [flat] using f))
  | n, _, _, .op _ _, f => by cases n <;> simp [flat] at f
  | n, _, _, .dic _ _ _ _ _, f => by cases n <;> simp [flat] at f
theorem RpA.ofHot {K : PySem.W.Frag} {H : Hp} {ad : Addr} : ∀ {n : Nat} {vs : List V} {ds : List D}, RpA (Γ.hot ad) K H vs ds → flats n ds = true → RpA Γ K H vs ds
  | _, _, _, .nil, _ => .nil
  | n, _, _, .cons h r, f => by
    have h' := (show _ ∧ _ by simpa [flats] using f)
    exact .cons (Rp.ofHot h h'.1) (RpA.ofHot r h'.2)
end
theorem Rel.toHot {K : PySem.W.Frag} {B : Hp × Hp} {G H : Hp} {σ : L2.St} {ρ : En} {ad : Addr} (r : Rel Γ K B G H σ ρ) : Rel (Γ.hot ad) K B G H σ ρ :=
  ⟨r.ext, fun h => let ⟨v, h1, h2⟩ := r.val h; ⟨v, h1, h2.toHot⟩, fun h => let ⟨p, vs, h1, h2, h3, h4, h5⟩ := r.own h; ⟨p, vs, h1, h2, h3, h4, h5.toHot⟩, fun h => let ⟨p, o, nks, kv, vv, h1, h2, h3, h4, h5, h6, h7, h8⟩ := r.dic h; ⟨p, o, nks, kv, vv, h1, h2, h3, h4, h5, h6, h7.toHot, h8.toHot⟩, fun h => let ⟨p, pe, pl, v, us, ws, h1, h2, h3, h4, h5, h6, h7, h8, h9⟩ := r.obj h; ⟨p, pe, pl, v, us, ws, h1, h2, h3, h4, h5, h6, h7.toHot, h8.toHot, h9.toHot⟩, r.inn, r.inj, r.len, r.tb⟩
def retS : RS → RS
  | .ret d => if flat 60 d then .ret d else .stuck
  | _ => .stuck
def tryS (i : Nat) (h : Nat → Option Bool) (fb : En → RS) (fs : Nat → En → RS) : En → RS := fun ρ => match fb ρ with
  | .exc c ρ1 => (match h c with
    | some true => retS (fs c (ρ1.set i (some (.val (.op 1 [])))))
    | some false => .exc c ρ1
    | none => .stuck)
  | x => x
theorem ss_try (i : Nat) {x n : Str} {Cc : Value} {np pos' : Pos} {h : Nat → Option Bool} {body suite : List Stmt} {b0 : Stmt} {fb : En → RS} {fs : Nat → En → RS} (C : Ct X W j) (hc : Names X x Cc) (hsub : ∀ c b, h c = some b → PySem.W.exmOne X.K (Γ.cls c) Cc = some b)
    (hb : ∀ (W' : WX) (pn : List (Addr × Obj)) (xe : Value → Shared → Prop), Ct (X.tr pn xe) W' j → SSs Γ (X.tr pn xe) W' body fb)
    (hsu : ∀ (c : Nat), h c = some true → ∀ (a : Addr) (oe : Obj) (pn : List (Addr × Obj)), Zc (Γ.cls c) none oe → (∃ vs, oe.data = .fields vs) → SSs (Γ.hot a) (X.suite a ((a, oe) :: pn)) W0 (b0 :: suite) (fs c))
    (hs : X.stack = X.env :: X.outer := by rfl) (hf : X.env.frame = some X.env.locals := by rfl) (hi : X.N[i]? = some n := by rfl) (hln : X.env.kindOf n = some .local := by rfl) :
    SS Γ X W (.Try body [.ExceptHandler (some (.Name x np)) (some n) (b0 :: suite) pos'] [] [] pos) (tryS i h fb fs) := by
  refine PS.imp (ps_try_as (tb := fun W' => tS Γ X.K W' fb) (ts := fun a cls d E σ H => ∃ c, cls = Γ.cls c ∧ d = none ∧ h c = some true ∧ tS (Γ.hot a) X.K W0 (fs c) E σ H) (Wout := W) hs hf C.nd hi hln hc C.tk
    (fun W' pn xe tk hp => hb W' pn xe ⟨tk, hp, C.calm, C.nd, C.hr⟩) (fun a oe cls d pn hz hfl => ?_)) fun E σ H hh => ?_
  · refine ⟨fun pins s σ H E I hh => ?_⟩
    obtain ⟨c, rfl, rfl, hct, q⟩ := hh
    exact (hsu c hct a oe pn hz hfl).run pins s σ H E I q
  · obtain ⟨B, G, ρ, r, p⟩ := hh
    refine ⟨B, G, ρ, r, ?_⟩
    unfold tryS at p
    cases hfb : fb ρ with
    | next ρ1 => rw [hfb] at p; exact p
    | ret d => rw [hfb] at p; exact p
    | retE d ρ1 => rw [hfb] at p; exact p
    | retO k ρ1 => rw [hfb] at p; exact p
    | brk ρ1 => rw [hfb] at p; exact p
    | cont ρ1 => rw [hfb] at p; exact p
    | stuck => rw [hfb] at p; exact p
    | exc c ρ1 =>
      rw [hfb] at p
      dsimp only at p
      intro G1 H1 σ1 s1 r1
      cases hh : h c with
      | none => rw [hh] at p; exact p.elim
      | some bb =>
        rw [hh] at p
        refine ⟨bb, hsub c bb hh, fun e a na => ?_, fun e => ?_⟩
        · subst e
          dsimp only at p
          refine ⟨c, rfl, rfl, hh, B, G1, ρ1.set i (some (.val (.op 1 []))), r1.toHot.set (.op (.inl ⟨rfl, rfl, rfl⟩) .nil), ?_⟩
          cases hfs : fs c (ρ1.set i (some (.val (.op 1 [])))) with
          | ret d =>
            rw [hfs] at p
            unfold retS at p
            dsimp only at p
            intro G2 H2 v e2 rv
            split at p
            · rename_i hfl
              exact p G2 H2 v e2 (rv.ofHot hfl)
            · exact p.elim
          | retE _ _ => rw [hfs] at p; exact p.elim
          | retO _ _ => rw [hfs] at p; exact p.elim
          | next _ => rw [hfs] at p; exact p.elim
          | brk _ => rw [hfs] at p; exact p.elim
          | cont _ => rw [hfs] at p; exact p.elim
          | exc _ _ => rw [hfs] at p; exact p.elim
          | stuck => rw [hfs] at p; exact p.elim
        · subst e
          exact p G1 H1 σ1 s1 r1
/-- isinstance(e, C) in the suite -/
def isE (i : Nat) (b : Bool) : En → R D := fun ρ => match ρ[i]? with
  | some (some (.val (.op 1 []))) => .ok (.bl b)
  | _ => .stuck
theorem se_isE (i : Nat) {ad Dc Cj : Addr} {oe : Obj} {pn : List (Addr × Obj)} {x n y : Str} {p1 : Pos} {bb : Bool} (h1 : ∀ K H v vs, ¬ Γ.O K H v 1 vs) (EC : ExcC X.K Dc) (hz : Zc (.ref Dc) none oe) (hf : ∃ vs, oe.data = .fields vs) (hk : PySem.W.kitOne X.K (.ref Dc) (.ref Cj) = some bb)
    (hx : bootBuiltins x = some (.builtin "isinstance")) (hg : Gl X x) (hm : X.mg x = none) (hgy : Gl X y) (hmy : X.mg y = some (.ref Cj)) (hN : X.N[i]? = some n := by rfl) (hv : Vis X.env.scope n := by first | exact Or.inl rfl | exact Or.inr (Or.inl rfl) | exact Or.inr (Or.inr rfl))
    (hn : x ≠ "__name__" := by decide) (hdb : (x == ("__debug__" : Str)) = false := by decide) (hdT : (y == ("__debug__" : Str)) = false := by decide) (hdn : (n == ("__debug__" : Str)) = false := by decide) (hcd : (n == ("__classdict__" : Str)) = false := by decide) :
    SE (Γ.hot ad) (X.suite ad ((ad, oe) :: pn)) W (.Call (.Name x p) [.Name n p1, .Name y p2] [] pos) (isE i bb) := by
  refine .mk ⟨_, pe_callB (X := X.suite ad ((ad, oe) :: pn)) (call_isE EC hz hf) hg hm hx (pa_cons (pe_var (X := X.suite ad ((ad, oe) :: pn)) hN hv hdn hcd) (pa_cons (pe_glob (X := X.suite ad ((ad, oe) :: pn)) (v := .ref Cj) hgy hmy rfl hdT) pa_nil)) hn hdb rfl rfl, fun {B G H σ ρ Q} r p => ?_⟩
  unfold isE at p
  split at p
  · rename_i hi
    obtain ⟨v, h3, h4⟩ := r.val hi
    cases h4 with
    | op ho hr =>
      cases hr
      rcases ho with ⟨_, _, e⟩ | ho
      · subst e
        exact ⟨_, h3, .ref Cj, .ref Cj, bb, rfl, fun u ru => ru, hk, p.here r.same (.bl _)⟩
      · exact absurd ho (h1 _ _ _ _)
  · exact p.elim
end
end VL
end
section
set_option Elab.async false
set_option linter.all false
set_option maxRecDepth 100000
set_option maxHeartbeats 2000000
set_option autoImplicit false
namespace VL
open PySem PySem.Spec PyProof.Rows L2
variable [TabN]
section
variable {Γ : Gam} {X : Cx} {W : WX} {a b c e : Expr} {es : List Expr} {fa fb fc : En → R D} {pos p p2 : Pos} {j : Nat}
theorem se_gintE {x : Str} {i : Int} (hm : ∃ t, X.mg x = some (.int i t)) (hg : Gl X x) (hd : (x == ("__debug__" : Str)) = false := by decide) : SE Γ X W (.Name x pos) (fun _ => .ok (.int i)) :=
  let ⟨_, h⟩ := hm; se_gint hg h hd
theorem se_gstrE {x : Str} {i : Str} (hm : ∃ t, X.mg x = some (.str i t)) (hg : Gl X x) (hd : (x == ("__debug__" : Str)) = false := by decide) : SE Γ X W (.Name x pos) (fun _ => .ok (.str i)) :=
  let ⟨_, h⟩ := hm; se_gstr hg h hd
theorem Ct.u64 (C : Ct X W j) : X.A.units + 64 < cLine := C.hr.units
theorem Ct.u65 (C : Ct X W j) : X.A.units + 65 < cLine := by have := C.hr.un; omega
/-- a list, a tuple or a text, walked -/
def iterO : D → R (List D)
  | .lst ds => .ok ds
  | .tup ds => .ok ds
  | .str z => .ok (z.cps.toList.map fun c => D.str ⟨#[c]⟩)
  | _ => .stuck
theorem str_it {K : PySem.W.Frag} {G : Hp} (z : Str) : ItOk Γ K G (Its z) (z.cps.toList.map fun c => D.str ⟨#[c]⟩) := by
  refine ⟨fun _ => True, fun i H v H' => H' = H ∧ ∃ c, z.cps[i]? = some c ∧ v = .str ⟨#[c]⟩, ?_, fun _ _ => trivial, fun i H x H' G1 hi y s1 s2 => ?_⟩
  · have e : (z.cps.toList.map fun c => D.str ⟨#[c]⟩).length = z.cps.size := by simp
    rw [e]; exact walk_str
  · obtain ⟨e1, c, hc, e2⟩ := y
    subst e1 e2
    refine ⟨G1, .str ⟨#[c]⟩, .refl s2, ?_, .str _⟩
    rw [List.getElem?_map, Array.getElem?_toList, hc]
    rfl
theorem si_seq {tg : Expr} (ha : SE Γ X W a fa) : SI Γ X W tg a (fun ρ => (fa ρ).bind iterO) := by
  obtain ⟨ta, pa, qa⟩ := ha.out
  refine ⟨_, pi_or (pi_list pa) (pi_or (pi_tup pa) (pi_str pa)), fun {B G H σ ρ Q} r p => ?_⟩
  dsimp only at p
  cases hf : fa ρ with
  | exc c =>
    rw [hf] at p
    exact .inl (qa r (by rw [hf]; exact p))
  | stuck => rw [hf] at p; exact p.elim
  | ok d =>
    rw [hf] at p
    cases d with
    | lst ds =>
      refine .inl (qa r ?_)
      rw [hf]
      intro G1 H1 v e1 r1
      cases r1 with
      | lst hs hr => exact ⟨_, rfl, ⟨_, .of (e1.s _ _ hs)⟩, p _ _ _ e1 (.of_at walk_list (fun H h => .of (h _ _ hs)) hr)⟩
    | tup ds =>
      refine .inr (.inl (qa r ?_))
      rw [hf]
      intro G1 H1 v e1 r1
      cases r1 with
      | tup hs hr => exact ⟨_, rfl, ⟨_, e1.s.seqT hs⟩, p _ _ _ e1 (.of_at walk_tup (fun H h => h.seqT hs) hr)⟩
    | str z =>
      refine .inr (.inr (qa r ?_))
      rw [hf]
      intro G1 H1 v e1 r1
      cases r1 with
      | str => exact ⟨_, rfl, p _ _ _ e1 (str_it z)⟩
    | _ => exact p.elim
/-- l.index(x) -/
def idxD (e : D) : List D → Option Nat
  | [] => none
  | d :: ds => if eqD d e then some 0 else (idxD e ds).map (· + 1)
def indexO (ds : List D) (e : D) : R D := if flat 0 e && flats 0 ds then (match idxD e ds with | some k => .ok (.int (k : Nat)) | none => .stuck) else .stuck
theorem idx_V {K : PySem.W.Frag} {H : Hp} {u : V} {e : D} (q : Rp Γ K H u e) (h' : flat 0 e = true) : ∀ {vs : List V} {ds : List D} {k : Nat}, RpA Γ K H vs ds → flats 0 ds = true → idxD e ds = some k →
    ∃ z, vs[k]? = some z ∧ eqV z u = true ∧ ∀ (m : Nat) (z' : V), m < k → vs[m]? = some z' → eqV z' u = false
  | _, _, _, .nil, _, h => by cases h
  | _, _, k, .cons (v := v) (vs := vs) (d := d) (ds := ds) h r, f, hk => by
    have f' := (show _ ∧ _ by simpa [flats] using f)
    have e1 := eqV_D h q f'.1 h'
    unfold idxD at hk
    split at hk
    · rename_i he
      cases hk
      exact ⟨v, rfl, by rw [e1]; exact he, fun m _ hm => absurd hm (Nat.not_lt_zero m)⟩
    · rename_i he
      cases hr : idxD e ds with
      | none => rw [hr] at hk; cases hk
      | some k' =>
        rw [hr] at hk
        cases hk
        obtain ⟨z, z1, z2, z3⟩ := idx_V q h' r f'.2 hr
        refine ⟨z, by simpa using z1, z2, fun m z' hm hz => ?_⟩
        cases m with
        | zero =>
          simp at hz
          subst hz
          rw [e1]
          simpa using he
        | succ m => exact z3 m z' (by have hm' : m + 1 < k' + 1 := hm; omega) (by simpa using hz)
theorem se_index {p1 p3 : Pos} (ho : SE Γ X W a fa) (he : SE Γ X W e fb) (hbase : attributeBase a "index" X.env (eval a X.env) = eval a X.env := by rfl)
    (hst : starEach [e] X.env = (false, eval e X.env) :: starEach [] X.env := by rfl)
    (hfew : ((backTo p3 (starEach [e] X.env)).all (fun x => !x.1) && (backToKw p3 (keywordEach [] X.env)).all (fun x => x.1.isSome) && decide ([e].length + ([] : List Keyword).length + (if ([] : List Keyword).isEmpty then 0 else 1) < 30)) = true := by rfl)
    (hline : (p1.endLine == p3.line) = true := by rfl) :
    SE Γ X W (.Call (.Attribute a "index" p1) [e] [] p3) (fun ρ => (fa ρ).bind fun d => (iterL d).bind fun ds => (fb ρ).bind fun x => indexO ds x) := by
  obtain ⟨ta, pa, qa⟩ := ho.out
  obtain ⟨tb, pb, qb⟩ := he.out
  refine .mk ⟨_, pe_bm PySem.F.plainAttrs_list PySem.F.slot_list_index PySem.F.type_list_index mt_index pa (pa_cons pb pa_nil hst) hbase hfew hline hst rfl, fun {B G H σ ρ Q} r p => ?_⟩
  refine qa r (p.bind fun G1 H1 v d e1 r1 p1 => ?_)
  cases r1 <;> first | exact p1.elim | skip
  · rename_i l xs ds ha ra
    have p1 : Post Γ W G1 H1 σ (Rp Γ X.K) Q ((fb ρ).bind fun x => indexO ds x) := p1
    refine ⟨.inl ⟨rfl, _, .of (e1.s _ _ ha)⟩, ?_⟩
    refine qb (r.go e1) (p1.bind fun G2 H2 u x e2 r2 p2 => ?_)
    have p2' : Post Γ W G2 H2 σ (Rp Γ X.K) Q (if (flat 0 x && flats 0 ds) = true then (match idxD x ds with | some k => .ok (.int (k : Nat)) | none => .stuck) else .stuck) := p2
    obtain ⟨hf, p3⟩ := Post.guard ((flat 0 x && flats 0 ds) = true) p2'
    rw [Bool.and_eq_true] at hf
    cases hk : idxD x ds with
    | none => rw [hk] at p3; exact p3.elim
    | some k =>
      rw [hk] at p3
      obtain ⟨z, z1, z2, z3⟩ := idx_V r2 hf.1 (ra.mono e2.g) hf.2 hk
      exact ⟨_, _, u, k, z, rfl, rfl, .of (e2.s _ _ (e2.g _ _ ha)), flat0_V r2 hf.1, flats0_V ra hf.2, z1, z2, z3, p3.here e2.s (.int _)⟩
/-- a, b = x, y (two locals) -/
def two (g : D → D → RS) : List D → RS
  | [x, y] => g x y
  | _ => .stuck
def three (g : D → D → D → RS) : List D → RS
  | [x, y, z] => g x y z
  | _ => .stuck
theorem ss_par (i k : Nat) {x y : Str} {px py pt : Pos} {kt k2 pt2} {fs : En → R (List D)} (C : Ct X W j) (ha : SA Γ X W [a, b] fs) (hik : i ≠ k := by decide) (hi : X.N[i]? = some x := by rfl) (hk : X.N[k]? = some y := by rfl)
    (hx : X.env.scope.names.lookup x = some .local := by rfl) (hy : X.env.scope.names.lookup y = some .local := by rfl)
    (hw : swappedStores [.Tuple [.Name x px, .Name y py] kt pt] (.Tuple [a, b] k2 pt2) X.env = pure (some [x, y]) := by rfl)
    (hs : swapsWithSole [.Tuple [.Name x px, .Name y py] kt pt] (.Tuple [a, b] k2 pt2) pos.line X.env = pure false := by rfl) :
    SS Γ X W (.Assign [.Tuple [.Name x px, .Name y py] kt pt] (.Tuple [a, b] k2 pt2) pos) (fun ρ => thenS (fs ρ) ρ (two fun d e => .next ((ρ.set i (some (.val d))).set k (some (.val e))))) := by
  obtain ⟨ta, pa, qa⟩ := ha.out
  refine PS.imp (ps_par C.calm C.nd hi hk hik hx hy pa hw hs) fun E σ H hh => ?_
  obtain ⟨B, G, ρ, r, p⟩ := hh
  refine qa r (PostS.use r p fun G1 H1 v ds e1 r1 rv p1 => ?_)
  unfold two at p1
  split at p1
  · obtain ⟨v1, v2, rfl, q1, q2⟩ := rv.inv2
    exact ⟨v1, v2, rfl, p1 _ _ _ (.refl _) ((r1.set q1).set q2)⟩
  · exact p1.elim
theorem ss_par3 (i k l : Nat) {x y z : Str} {px py pz pt : Pos} {kt k2 pt2} {fs : En → R (List D)} (C : Ct X W j) (ha : SA Γ X W [a, b, c] fs) (hik : i ≠ k := by decide) (hil : i ≠ l := by decide) (hkl : k ≠ l := by decide) (hi : X.N[i]? = some x := by rfl) (hk : X.N[k]? = some y := by rfl) (hl : X.N[l]? = some z := by rfl)
    (hx : X.env.scope.names.lookup x = some .local := by rfl) (hy : X.env.scope.names.lookup y = some .local := by rfl) (hz : X.env.scope.names.lookup z = some .local := by rfl)
    (hw : swappedStores [.Tuple [.Name x px, .Name y py, .Name z pz] kt pt] (.Tuple [a, b, c] k2 pt2) X.env = pure (some [x, y, z]) := by rfl)
    (hs : swapsWithSole [.Tuple [.Name x px, .Name y py, .Name z pz] kt pt] (.Tuple [a, b, c] k2 pt2) pos.line X.env = pure false := by rfl) :
    SS Γ X W (.Assign [.Tuple [.Name x px, .Name y py, .Name z pz] kt pt] (.Tuple [a, b, c] k2 pt2) pos) (fun ρ => thenS (fs ρ) ρ (three fun d e f => .next (((ρ.set i (some (.val d))).set k (some (.val e))).set l (some (.val f))))) := by
  obtain ⟨ta, pa, qa⟩ := ha.out
  refine PS.imp (ps_par3 C.calm C.nd hi hk hl hik hil hkl hx hy hz pa hw hs) fun E σ H hh => ?_
  obtain ⟨B, G, ρ, r, p⟩ := hh
  refine qa r (PostS.use r p fun G1 H1 v ds e1 r1 rv p1 => ?_)
  unfold three at p1
  split at p1
  · cases rv with
    | cons q1 rv =>
      obtain ⟨v2, v3, rfl, q2, q3⟩ := rv.inv2
      exact ⟨_, v2, v3, rfl, p1 _ _ _ (.refl _) (((r1.set q1).set q2).set q3)⟩
  · exact p1.elim
/-! ### one of several defs, called -/
def SFn (Γ : Gam) (X : Cx) (j : Nat) (es : List Expr) (ms : List (List D → R D)) : Prop :=
  ∃ fs : List Addr, PA X es (fun _ H Q => Q (fs.map V.ref) H) ∧ fs.length = ms.length ∧ ∀ (i : Nat) (f : Addr) (m : List D → R D), fs[i]? = some f → ms[i]? = some m →
    ∃ k fd ps, k ≤ j ∧ FnOk X.prog X.w X.K X.mg X.base (L2.CX X.prog X.w) k f fd ps (spM Γ X.K ps.length m) ∧ PySem.W.keepIn X.K (.ref f) = true ∧ Binds X.K fd ps [] ∧ ∀ ds, ds.length ≠ ps.length → m ds = .stuck
theorem PA.imp {t t' : TA} (h : PA X es t) (q : ∀ σ H Q, t' σ H Q → t σ H Q) : PA X es t' := ⟨fun po pins s σ H Q I w => h.run po pins s σ H Q I (q _ _ _ w)⟩
theorem sfn_nil : SFn Γ X j [] [] := ⟨[], pa_nil, rfl, fun _ _ _ h => by simp at h⟩
theorem sfn_cons {x : Str} {k : Nat} {ps : List Str} {m : List D → R D} {ms : List (List D → R D)} (F : Cal Γ X.prog X.w X.K X.mg X.base x k ps m) (h : SFn Γ X j es ms) (hg : Gl X x) (hk : k ≤ j := by decide) (hd : (x == ("__debug__" : Str)) = false := by decide)
    (hs : starEach (.Name x pos :: es) X.env = (false, eval (.Name x pos) X.env) :: starEach es X.env := by rfl) : SFn Γ X j (.Name x pos :: es) (m :: ms) := by
  obtain ⟨f, fd, F1, F2, F3, F4⟩ := F.ex
  obtain ⟨fs, h1, h2, h3⟩ := h
  refine ⟨f :: fs, PA.imp (pa_cons (pe_glob (v := .ref f) hg F2 rfl hd) h1 hs) fun _ _ _ w => w, by simp [h2], fun i g m' e1 e2 => ?_⟩
  cases i with
  | zero =>
    simp at e1 e2
    subst e1 e2
    exact ⟨k, fd, ps, hk, F1, F3, F4, F.len⟩
  | succ i => exact h3 i g m' (by simpa using e1) (by simpa using e2)
def selM (ms : List (List D → R D)) : D → Option (List D → R D)
  | .int i => if 0 ≤ i then ms[i.toNat]? else none
  | _ => none
def selO (ms : List (List D → R D)) (i : D) (x : R (List D)) : R D := match selM ms i with
  | some m => x.bind m
  | none => .stuck
theorem se_callSel {fl : List Expr} {w : Expr} {ms : List (List D → R D)} {fw : En → R D} {fs : En → R (List D)} {p1 p3 : Pos} (C : Ct X W j) (hf : SFn Γ X j fl ms) (hw : SE Γ X W w fw) (ha : SA Γ X W (e :: es) fs) (hl : ms.length ≤ 1000 := by decide) (hix : PlainIx w := by exact fun _ _ => rfl)
    (hev : eval (.Call (.Subscript (.List fl p1) w p3) (e :: es) [] pos) X.env = (do callWith pos (← eval (.Subscript (.List fl p1) w p3) X.env) [] (backTo pos (starEach (e :: es) X.env)) (backToKw pos (keywordEach [] X.env))) := by rfl)
    (he : starEach (e :: es) X.env = (false, eval e X.env) :: starEach es X.env := by rfl) (hpl : (backTo pos (starEach es X.env)).any (·.1) = false := by rfl) :
    SE Γ X W (.Call (.Subscript (.List fl p1) w p3) (e :: es) [] pos) (fun ρ => (fw ρ).bind fun i => selO ms i (fs ρ)) := by
  obtain ⟨fa, pf, lf, hfn⟩ := hf
  obtain ⟨tw, pw, qw⟩ := hw.out
  obtain ⟨ta, pa, qa⟩ := ha.out
  refine .mk ⟨fun σ H Q => (tOp (rIxL X.K) (tLst fun _ H Q => Q (fa.map V.ref) H) tw) σ H fun v H1 => ∃ (f : Addr) (i : Nat) (m : List D → R D), v = .ref f ∧ fa[i]? = some f ∧ ms[i]? = some m ∧ ta σ H1 fun vs H2 => spM Γ X.K vs.length m vs H2 Q (WE W σ),
    ⟨fun pins s σ H Q I h => ?_⟩, fun {B G H σ ρ Q} r p => ?_⟩
  · refine Call_ (thn ((pe_ix ix_list (pe_lst pf) pw hix).run pins s σ H _ I h) fun u s1 hh => ?_) hev
    obtain ⟨v, H1, I1, r1, f, i, m, rfl, h1, h2, q⟩ := hh
    cases r1
    obtain ⟨k, fd, ps, hk, F1, F3, F4, hlen⟩ := hfn i f m h1 h2
    refine PySem.W.callWith_K (h₀ := X.base) I.ok.mod.kin F3 (thn (pa.run pos pins s1 σ H1 _ I1 q) fun us s2 hh2 => ?_) he hpl
    obtain ⟨vs, H2, I2, r2, q2⟩ := hh2
    refine ⟨I2.kIn, run_fnS (E := WE W) F1 (C.hr.mono hk) F4 (passAt C.tk σ) I2 r2 ?_⟩
    obtain ⟨G, ds, g1, gt, g2, g3, g4⟩ := q2
    refine ⟨G, ds, g1, gt, g2, ?_, g4⟩
    by_cases hl : ds.length = ps.length
    · exact hl
    · rw [hlen ds hl] at g4; exact g4.elim
  · refine ⟨by rw [List.length_map, lf]; exact line_of (by omega), fun q hq => ?_⟩
    have e0 : Ext G H G (upd H q (.lst (fa.map V.ref))) := .priv r.same hq
    refine qw (r.go e0) ((p.ext e0).bind fun G1 H1 u d e1 r1 p1 => ?_)
    have hq1 := (e1.k q _ upd_same (r.same.none hq) fun _ z => nomatch z).1
    unfold selO at p1
    cases hs : selM ms d with
    | none => rw [hs] at p1; exact p1.elim
    | some m =>
      rw [hs] at p1
      dsimp only at p1
      cases r1 <;> first | (cases hs; done) | skip
      rename_i i
      unfold selM at hs
      dsimp only at hs
      split at hs
      · rename_i hi
        have hm : i.toNat < ms.length := (List.getElem?_eq_some_iff.mp hs).1
        obtain ⟨f, hf⟩ : ∃ f, fa[i.toNat]? = some f := ⟨fa[i.toNat]'(by omega), List.getElem?_eq_getElem (by omega)⟩
        refine ⟨q, fa.map V.ref, i, .ref f, rfl, rfl, .of hq1, ?_, f, i.toNat, m, rfl, hf, hs, ?_⟩
        · have := atI_nat (xs := fa.map V.ref) (j := i.toNat) (v := V.ref f) (by rw [List.getElem?_map, hf]; rfl)
          rwa [Int.toNat_of_nonneg hi] at this
        · refine qa ((r.go e0).go e1) (p1.bind fun G2 H2 vs ds e2 r2 p2 => ?_)
          exact ⟨G2, ds, e2.s, (((r.go e0).go e1).go e2).tab, r2, r2.length.symm, p2.toSp⟩
      · cases hs
end
/-! ### the end of a law -/
def spLaw (K : PySem.W.Frag) : Sp := fun vs H Q _ => ∃ (a : Addr) (ns : List Int), vs = [.ref a] ∧ SqL K H a (ns.map V.int) ∧ ns.length ≤ 63 ∧ (∃ G, Same G H ∧ SqL K G a (ns.map V.int) ∧ TabsOk G H) ∧ ∀ H', Q (.bl true) H'
/-- one object alone -/
def soloH (a : Addr) (u : HO) : Hp := fun b => if b = a then some u else none
theorem solo_at {a b : Addr} {u x : HO} (e : soloH a u b = some x) : b = a ∧ x = u := by
  unfold soloH at e
  by_cases hb : b = a
  · rw [if_pos hb] at e; exact ⟨hb, (Option.some.inj e).symm⟩
  · rw [if_neg hb] at e; cases e
theorem scr_only {K : PySem.W.Frag} {H : Hp} {a : Addr} {xs : List V} (h : SqL K H a xs) : ∃ G : Hp, Same G H ∧ SqL K G a xs ∧ (∀ b x, G b = some x → b = a) ∧ ∀ b ps, G b ≠ some (.tbl ps) := by
  rcases h with (h | ⟨o, h⟩) | h
  · refine ⟨soloH a (.lst xs), fun b x e => ?_, .inl (.inl (if_pos rfl)), fun b x e => (solo_at e).1, fun b ps e => nomatch (solo_at e).2⟩
    obtain ⟨rfl, rfl⟩ := solo_at e
    exact h
  · refine ⟨soloH a (.frz o (.lst xs)), fun b x e => ?_, .inl (.inr ⟨o, if_pos rfl⟩), fun b x e => (solo_at e).1, fun b ps e => nomatch (solo_at e).2⟩
    obtain ⟨rfl, rfl⟩ := solo_at e
    exact h
  · exact ⟨fun _ => none, (fun _ _ e => nomatch e), .inr h, (fun _ _ e => nomatch e), (fun _ _ e => nomatch e)⟩
theorem scr0 {K : PySem.W.Frag} {H : Hp} {a : Addr} {xs : List V} (h : SqL K H a xs) : ∃ G : Hp, Same G H ∧ SqL K G a xs ∧ @TabsOk tabN0 G H := by
  obtain ⟨G, a1, a2, _, a3⟩ := scr_only h
  exact ⟨G, a1, a2, a3, fun _ _ h => nomatch h⟩
theorem ints_rp {Γ : Gam} {K : PySem.W.Frag} {H : Hp} : ∀ ns : List Int, RpA Γ K H (ns.map V.int) (ns.map D.int)
  | [] => .nil
  | n :: ns => .cons (.int n) (ints_rp ns)
theorem law_of {Γ : Gam} {P : Program} {w : World} {K : PySem.W.Frag} {mg : Str → Option Value} {base : Heap} {x : Str} {k : Nat} {ps : List Str} {m : List D → R D} {f : Addr} {fd : FuncData} (F : FnOk P w K mg base (L2.CX P w) k f fd ps (spM Γ K ps.length m)) (hp : ps.length = 1)
    (h : ∀ ns : List Int, ns.length ≤ 63 → m [.scr (ns.map D.int)] = .ok (.bl true)) : FnOk P w K mg base (L2.CX P w) k f fd ps (spLaw K) :=
  F.imp fun vs H Q E hh => by
    obtain ⟨a, ns, rfl, hS0, hl, ⟨G, sG, hS, tb⟩, q⟩ := hh
    refine ⟨G, [.scr (ns.map D.int)], sG, tb, .one (.scr hS (ints_rp ns)), by rw [hp]; rfl, ?_⟩
    rw [h ns hl]
    intro G' H' v _ r
    cases r
    exact q H'
/-- no shut data -/
def gam (P : Program) (w : World) (C : Nat → Addr) : Gam where
  O := fun _ H v n vs => n = 3 ∧ WObj H v vs
  ob := fun h => ⟨rfl, h⟩
  mono := fun s h => ⟨h.1, h.2.mono s⟩
  cls := fun k => .ref (C k)
  P := P
  w := w
theorem gam1 {P : Program} {w : World} {C : Nat → Addr} : ∀ K H v vs, ¬ (gam P w C).O K H v 1 vs := fun _ _ _ _ h => nomatch h.1
end VL
end
section
set_option Elab.async false
set_option linter.all false
set_option maxRecDepth 100000
set_option maxHeartbeats 2000000
set_option autoImplicit false
namespace VL
open PySem PySem.Spec PyProof.Rows L2
variable [TabN]
/-! ### private lists read: frozen for the time of one expression -/
def frz1 : Option SV → Option SV
  | some (.own ds) => some (.val (.lst ds))
  | some (.dic ks vs) => some (.val (.dic ks vs))
  | some (.obj _ st es ls) => some (.val (.op 3 [st, .lst es, .lst ls]))
  | x => x
def frzAll (ρ : En) : En := ρ.map frz1
mutual
def pureD : D → Bool
  | .non => true
  | .bl _ => true
  | .int _ => true
  | .str _ => true
  | .tup xs => pureDs xs
  | .lst _ => false
  | .scr _ => false
  | .op _ _ => false
  | .dic _ _ => false
def pureDs : List D → Bool
  | [] => true
  | d :: ds => pureD d && pureDs ds
end
section
variable {Γ : Gam} {K : PySem.W.Frag}
mutual
theorem Rp.pure {G G1 : Hp} (h : ∀ b xs, G b = some (.tup xs) → G1 b = some (.tup xs)) (hz : ∀ b o xs, G b = some (.frz o (.tup xs)) → G1 b = some (.frz o (.tup xs))) : ∀ {v : V} {d : D}, Rp Γ K G v d → pureD d = true → Rp Γ K G1 v d
  | _, _, .non, _ => .non
  | _, _, .bl b, _ => .bl b
  | _, _, .int i, _ => .int i
  | _, _, .str x, _ => .str x
  | _, _, .tup hs r, f => by
    refine .tup ?_ (RpA.pure h hz r (by simpa [pureD] using f))
    rcases hs with (hs | ⟨o, hs⟩) | hs
    · exact .inl (.inl (h _ _ hs))
    · exact .inl (.inr ⟨o, hz _ _ _ hs⟩)
    · exact .inr hs
  | _, _, .lst _ _, f => by simp [pureD] at f
  | _, _, .scr _ _, f => by simp [pureD] at f
  | _, _, .op _ _, f => by simp [pureD] at f
  | _, _, .dic _ _ _ _ _, f => by simp [pureD] at f
theorem RpA.pure {G G1 : Hp} (h : ∀ b xs, G b = some (.tup xs) → G1 b = some (.tup xs)) (hz : ∀ b o xs, G b = some (.frz o (.tup xs)) → G1 b = some (.frz o (.tup xs))) : ∀ {vs : List V} {ds : List D}, RpA Γ K G vs ds → pureDs ds = true → RpA Γ K G1 vs ds
  | _, _, .nil, _ => .nil
  | _, _, .cons a r, f => by
    have f' := (show _ ∧ _ by simpa [pureDs] using f)
    exact .cons (Rp.pure h hz a f'.1) (RpA.pure h hz r f'.2)
end
def Owns (H : Hp) (σ : L2.St) (ρ : En) (b : Addr) : Prop := (∃ (i : Nat) (s : SV), ρ[i]? = some (some s) ∧ s.pv = true ∧ σ[i]? = some (some (.ref b))) ∨ ∃ i, Inn H σ ρ i b
def ownO (b : Addr) (u : HO) : Prop := (∃ vs, u = .lst vs) ∨ (∃ o, u = dO b o) ∨ ∃ C dx fs, u = .ins C dx fs
open Classical in
theorem Rel.view {B : Hp × Hp} {G H : Hp} {σ : L2.St} {ρ : En} (r : Rel Γ K B G H σ ρ) : ∃ Ge, Rel Γ K B Ge H σ (frzAll ρ) ∧
    ∀ G' H', Ext Ge H G' H' → ∃ G2, Ext G H G2 H' ∧ (∀ v d, Rp Γ K G' v d → pureD d = true → Rp Γ K G2 v d) ∧ ∀ b, G' b = none → G2 b = none := by
  have own : ∀ {b}, Owns H σ ρ b → ∃ u, H b = some u ∧ G b = none ∧ B.2 b = none ∧ ownO b u := fun {b} hb => by
    rcases hb with ⟨i, t, h1, hp, h2⟩ | ⟨i, hi⟩
    rotate_left
    · obtain ⟨us, y1, y2, y3⟩ := r.inner hi
      exact ⟨_, y1, y3, y2, .inl ⟨us, rfl⟩⟩
    cases t with
    | val d => cases hp
    | own ds =>
      obtain ⟨q, vs, x1, x2, x3, x4, x5⟩ := r.own h1
      rw [x1] at h2
      cases h2
      exact ⟨_, x4, x3, x2, .inl ⟨vs, rfl⟩⟩
    | dic ks vs =>
      obtain ⟨q, o, nks, kv, vv, x1, x2, x3, x4, x5⟩ := r.dic h1
      rw [x1] at h2
      cases h2
      exact ⟨_, x4, x3, x2, .inr (.inl ⟨o, rfl⟩)⟩
    | obj tg st es ls =>
      obtain ⟨p0, pe0, pl0, v0, us, ws, x1, x2, x3, x4, x5, ⟨⟨C0, dx0, c1, c2⟩, o2, o3, o4⟩, x7⟩ := r.obj h1
      rw [x1] at h2
      cases h2
      exact ⟨_, c2, x3.2, x3.1, .inr (.inr ⟨_, _, _, rfl⟩)⟩
  let Ge : Hp := fun b => if Owns H σ ρ b then H b else G b
  have geO : ∀ {b}, Owns H σ ρ b → Ge b = H b := fun h => if_pos h
  have geN : ∀ {b}, ¬ Owns H σ ρ b → Ge b = G b := fun h => if_neg h
  have sG : Same G Ge := fun b x e => by
    by_cases h : Owns H σ ρ b
    · obtain ⟨_, _, z, _⟩ := own h; rw [z] at e; cases e
    · rw [geN h]; exact e
  have geT : (∀ b ps, G b ≠ some (.tbl ps)) → ∀ b ps, Ge b ≠ some (.tbl ps) := fun n b ps z => by
    by_cases h : Owns H σ ρ b
    · rw [geO h] at z
      obtain ⟨u, e1, _, _, e2⟩ := own h
      rw [e1] at z
      cases z
      rcases e2 with ⟨_, z⟩ | ⟨_, z⟩ | ⟨_, _, _, z⟩ <;> cases z
    · rw [geN h] at z; exact n b ps z
  have sH : Same Ge H := fun b x e => by
    by_cases h : Owns H σ ρ b
    · rw [geO h] at e; exact e
    · rw [geN h] at e; exact r.same _ _ e
  have fz : ∀ {i : Nat} {s : SV}, (frzAll ρ)[i]? = some (some s) → (∃ ds, s = .val (.lst ds) ∧ ρ[i]? = some (some (.own ds))) ∨ (∃ ks vs, s = .val (.dic ks vs) ∧ ρ[i]? = some (some (.dic ks vs))) ∨ (∃ tg st es ls, s = .val (.op 3 [st, .lst es, .lst ls]) ∧ ρ[i]? = some (some (.obj tg st es ls))) ∨ (∃ d, s = .val d ∧ ρ[i]? = some (some (.val d))) := fun {i s} h => by
    unfold frzAll at h
    rw [List.getElem?_map] at h
    cases e : ρ[i]? with
    | none => rw [e] at h; cases h
    | some o =>
      rw [e] at h
      cases o with
      | none => cases h
      | some sv =>
        cases sv with
        | val d => cases h; exact .inr (.inr (.inr ⟨d, rfl, rfl⟩))
        | own ds => cases h; exact .inl ⟨ds, rfl, rfl⟩
        | dic ks vs => cases h; exact .inr (.inl ⟨ks, vs, rfl, rfl⟩)
        | obj tg st es ls => cases h; exact .inr (.inr (.inl ⟨tg, st, es, ls, rfl, rfl⟩))
  refine ⟨Ge, ⟨⟨r.ext.g.trans sG, sH, fun b o h1 h2 h3 => ?_, r.ext.d, fun t => (r.ext.t t).mono sG (geT (r.ext.t t).1)⟩, fun {i d} h => ?_, fun {i ds} h => ?_, fun {i ks vs} h => ?_, fun {i tg st es ls} h => ?_, fun {i q} h => ?_, fun {i j s t p} h1 h2 p1 => ?_, by unfold frzAll; simpa using r.len, r.tb⟩, fun G' H' e => ?_⟩
  · obtain ⟨q1, q2⟩ := r.ext.k b o h1 h2 h3
    refine ⟨q1, ?_⟩
    have n : ¬ Owns H σ ρ b := fun h => by
      obtain ⟨_, _, _, z, _⟩ := own h
      rw [z] at h1; cases h1
    rw [geN n]; exact q2
  · rcases fz h with ⟨ds, z, hd⟩ | ⟨ks, vs, z, hd⟩ | ⟨tg, st, es, ls, z, hd⟩ | ⟨d', z, hd⟩
    · cases z
      obtain ⟨p, vs, x1, x2, x3, x4, x5⟩ := r.own hd
      exact ⟨.ref p, x1, .lst (by rw [geO (.inl ⟨i, _, hd, rfl, x1⟩)]; exact x4) (x5.mono sG)⟩
    · cases z
      obtain ⟨p, o, nks, kv, vv, x1, x2, x3, x4, x5, x6, x7, x8⟩ := r.dic hd
      exact ⟨.ref p, x1, .dic (by rw [geO (.inl ⟨i, _, hd, rfl, x1⟩)]; exact x4) x5 x6 (x7.mono sG) (x8.mono sG)⟩
    · cases z
      obtain ⟨p0, pe0, pl0, v0, us, ws, x1, x2, x3, x4, x5, ⟨⟨C0, dx0, c1, c2⟩, o2, o3, o4⟩, x7, x8, x9⟩ := r.obj hd
      exact ⟨.ref p0, x1, .op (vs := [v0, .ref pe0, .ref pl0]) (Γ.ob ⟨C0, p0, dx0, v0, .ref pe0, .ref pl0, c1, rfl, rfl, by rw [geO (.inl ⟨i, _, hd, rfl, x1⟩)]; exact c2⟩) (.cons (x7.mono sG) (.cons (.lst (xs := us) (by rw [geO (.inr ⟨i, tg, st, es, ls, p0, C0, dx0, v0, pe0, pl0, hd, x1, c2, .inl rfl⟩)]; exact o2) (x8.mono sG)) (.one (.lst (xs := ws) (by rw [geO (.inr ⟨i, tg, st, es, ls, p0, C0, dx0, v0, pe0, pl0, hd, x1, c2, .inr rfl⟩)]; exact o3) (x9.mono sG)))))⟩
    · cases z
      obtain ⟨v, x1, x2⟩ := r.val hd
      exact ⟨v, x1, x2.mono sG⟩
  · rcases fz h with ⟨_, z, _⟩ | ⟨_, _, z, _⟩ | ⟨_, _, _, _, z, _⟩ | ⟨_, z, _⟩ <;> cases z
  · rcases fz h with ⟨_, z, _⟩ | ⟨_, _, z, _⟩ | ⟨_, _, _, _, z, _⟩ | ⟨_, z, _⟩ <;> cases z
  · rcases fz h with ⟨_, z, _⟩ | ⟨_, _, z, _⟩ | ⟨_, _, _, _, z, _⟩ | ⟨_, z, _⟩ <;> cases z
  · obtain ⟨_, _, _, _, _, _, _, _, _, _, h1, _⟩ := h
    rcases fz h1 with ⟨_, z, _⟩ | ⟨_, _, z, _⟩ | ⟨_, _, _, _, z, _⟩ | ⟨_, z, _⟩ <;> cases z
  · rcases fz h1 with ⟨_, z, _⟩ | ⟨_, _, z, _⟩ | ⟨_, _, _, _, z, _⟩ | ⟨_, z, _⟩ <;> (rw [z] at p1; cases p1)
  · let G2 : Hp := fun b => if Owns H σ ρ b then none else G' b
    have g2O : ∀ {b}, Owns H σ ρ b → G2 b = none := fun h => if_pos h
    have g2N : ∀ {b}, ¬ Owns H σ ρ b → G2 b = G' b := fun h => if_neg h
    have noT : ∀ {b : Addr} {u : HO}, G' b = some u → ¬ ownO b u → G2 b = some u := fun {b u} h hu => by
      have n : ¬ Owns H σ ρ b := fun ho => by
        obtain ⟨u2, z1, z2, z3, z5⟩ := own ho
        have z4 := e.g b _ (by rw [geO ho]; exact z1)
        rw [h] at z4
        cases z4
        exact hu z5
      rw [g2N n]; exact h
    refine ⟨G2, ⟨fun b x h => ?_, fun b x h => ?_, fun b o h1 h2 h3 => ?_, e.d, fun t => ⟨fun b ps z => ?_, fun P q h => ?_⟩⟩, fun v d rv hp => rv.pure (fun b xs h => noT h (by rintro (⟨_, z⟩ | ⟨_, z⟩ | ⟨_, _, _, z⟩) <;> cases z)) (fun b o xs h => noT h (by rintro (⟨_, z⟩ | ⟨_, z⟩ | ⟨_, _, _, z⟩) <;> cases z)) hp, fun b hb => ?_⟩
    · have n : ¬ Owns H σ ρ b := fun ho => by
        obtain ⟨_, _, z, _⟩ := own ho
        rw [z] at h; cases h
      rw [g2N n]
      exact e.g _ _ (sG _ _ h)
    · by_cases ho : Owns H σ ρ b
      · rw [g2O ho] at h; cases h
      · rw [g2N ho] at h; exact e.s _ _ h
    · by_cases ho : Owns H σ ρ b
      · refine ⟨?_, g2O ho⟩
        exact e.s _ _ (e.g b o (by rw [geO ho]; exact h1))
      · obtain ⟨q1, q2⟩ := e.k b o h1 (by rw [geN ho]; exact h2) h3
        exact ⟨q1, by rw [g2N ho]; exact q2⟩
    · by_cases ho : Owns H σ ρ b
      · rw [g2O ho] at z; cases z
      · rw [g2N ho] at z; exact (e.t (t.mono sG (geT t.1))).1 b ps z
    · obtain ⟨ps, h1, h2, h3⟩ := (e.t (t.mono sG (geT t.1))).2 P q h
      refine ⟨ps, h1, h2, fun pos cv hc => ?_⟩
      obtain ⟨c, a1, a2⟩ := h3 pos cv hc
      exact ⟨c, a1, noT a2 fun z => z.elim (fun ⟨_, z⟩ => nomatch z) fun z => z.elim (fun ⟨_, z⟩ => codeO_dO z) (fun ⟨_, _, _, z⟩ => nomatch z)⟩
    · by_cases ho : Owns H σ ρ b
      · exact g2O ho
      · rw [g2N ho]; exact hb
end
def viewR (x : R D) : R D := x.bind fun d => if pureD d then .ok d else .stuck
section
variable {Γ : Gam} {X : Cx} {W : WX} {a b c e : Expr} {es : List Expr} {fa fb fc : En → R D} {pos p p2 : Pos} {j : Nat}
theorem SE.view (h : SE Γ X W e fa) : SE Γ X W e (fun ρ => viewR (fa (frzAll ρ))) := by
  obtain ⟨t, pt, qt⟩ := h.out
  refine .mk ⟨t, pt, fun {B G H σ ρ Q} r p => ?_⟩
  obtain ⟨Ge, re, back⟩ := r.view
  refine qt re ?_
  dsimp only at p
  cases hf : fa (frzAll ρ) with
  | stuck => rw [hf] at p; exact p.elim
  | exc k =>
    rw [hf] at p
    intro G1 H1 e1
    obtain ⟨G2, e2, _, _⟩ := back G1 H1 e1
    exact p G2 H1 e2
  | ok d =>
    rw [hf] at p
    intro G1 H1 v e1 rv
    obtain ⟨G2, e2, hv, _⟩ := back G1 H1 e1
    obtain ⟨hp, p1⟩ := Post.guard (pureD d = true) p
    exact p1 G2 H1 v e2 (hv v d rv hp)
theorem ST.view {f : En → R Bool} (h : ST Γ X W e f) : ST Γ X W e (fun ρ => f (frzAll ρ)) := by
  obtain ⟨t, pt, qt⟩ := h.out
  refine .mk ⟨t, pt, fun {B G H σ ρ Q} r p => ?_⟩
  obtain ⟨Ge, re, back⟩ := r.view
  refine qt re ?_
  dsimp only at p
  cases hf : f (frzAll ρ) with
  | stuck => rw [hf] at p; exact p.elim
  | exc k =>
    rw [hf] at p
    intro G1 H1 e1
    obtain ⟨G2, e2, _, _⟩ := back G1 H1 e1
    exact p G2 H1 e2
  | ok d =>
    rw [hf] at p
    intro G1 H1 v e1 rv
    obtain ⟨G2, e2, _, _⟩ := back G1 H1 e1
    exact p G2 H1 v e2 rv
end
theorem kit_ref {K : PySem.W.Frag} {A C : Addr} {b : Bool} (h1 : PySem.W.subIn K (.ref C) (.type "BaseException") = some true) (hd : PySem.W.hasDictIn K C = true) (ht : PySem.W.typeIn K (.ref C) = some (.type "type")) (h4 : PySem.W.subIn K (.ref A) (.ref C) = some b) (hs : PySem.W.subIn K (.ref C) (.ref C) = some true) :
    PySem.W.kitOne K (.ref A) (.ref C) = some b := by
  have e := PySem.W.exm_ref h1 hd ht h4
  unfold PySem.W.exmOne at e
  rw [if_pos (by rw [h1]; rfl)] at e
  unfold PySem.W.kitOne
  split
  · rename_i z
    have z' : A = C := Value.ref.inj (beq_iff_eq.mp z)
    subst z'
    rw [h4] at hs
    exact hs.symm
  · exact e
end VL
end
section
set_option Elab.async false
set_option linter.all false
set_option maxRecDepth 100000
set_option maxHeartbeats 2000000
set_option autoImplicit false
namespace VL
open PySem PySem.Spec PyProof.Rows L2
/-! ### reckoning with mirrors -/
@[simp] theorem bind_ok {α β : Type} (a : α) (f : α → R β) : (R.ok a).bind f = f a := rfl
@[simp] theorem bind_exc {α β : Type} (c : Nat) (f : α → R β) : (R.exc c).bind f = .exc c := rfl
@[simp] theorem bind_stuck {α β : Type} (f : α → R β) : (R.stuck).bind f = .stuck := rfl
@[simp] theorem thenS_ok {α : Type} (a : α) (ρ : En) (k : α → RS) : thenS (.ok a) ρ k = k a := rfl
@[simp] theorem thenS_exc {α : Type} (c : Nat) (ρ : En) (k : α → RS) : thenS (.exc c) ρ k = .exc c ρ := rfl
def RS.thn (x : RS) (g : En → RS) : RS := match x with
  | .next ρ => g ρ
  | y => y
@[simp] theorem seqS_eq (f g : En → RS) (ρ : En) : seqS f g ρ = (f ρ).thn g := by
  unfold seqS RS.thn
  cases f ρ <;> rfl
@[simp] theorem thn_next (ρ : En) (g : En → RS) : (RS.next ρ).thn g = g ρ := rfl
@[simp] theorem thn_ret (d : D) (g : En → RS) : (RS.ret d).thn g = .ret d := rfl
@[simp] theorem thn_exc (c : Nat) (ρ : En) (g : En → RS) : (RS.exc c ρ).thn g = .exc c ρ := rfl
@[simp] theorem var_0 (d : D) (ρ : En) : var 0 (some (.val d) :: ρ) = .ok d := rfl
@[simp] theorem var_S (i : Nat) (s : Option SV) (ρ : En) : var (i + 1) (s :: ρ) = var i ρ := rfl
def RS.out : RS → R D
  | .next _ => .ok .non
  | .ret d => .ok d
  | .exc c _ => .exc c
  | _ => .stuck
theorem body_eq (N n : Nat) (f : En → RS) (ds : List D) (h : ds.length = n) : bodyM N n f ds = (f (ds.map (fun d => some (.val d)) ++ List.replicate (N - ds.length) none)).out := by
  unfold bodyM RS.out
  rw [if_pos h]
  all_goals (cases f (ds.map (fun d => some (.val d)) ++ List.replicate (N - ds.length) none) <;> rfl)
@[simp] theorem body_0 (N : Nat) (f : En → RS) : bodyM N 0 f [] = (f (List.replicate (N - 0) none)).out := body_eq _ _ _ _ rfl
@[simp] theorem body_1 (N : Nat) (f : En → RS) (a : D) : bodyM N 1 f [a] = (f (some (.val a) :: List.replicate (N - 1) none)).out := body_eq _ _ _ _ rfl
@[simp] theorem body_2 (N : Nat) (f : En → RS) (a b : D) : bodyM N 2 f [a, b] = (f (some (.val a) :: some (.val b) :: List.replicate (N - 2) none)).out := body_eq _ _ _ _ rfl
@[simp] theorem body_3 (N : Nat) (f : En → RS) (a b c : D) : bodyM N 3 f [a, b, c] = (f (some (.val a) :: some (.val b) :: some (.val c) :: List.replicate (N - 3) none)).out := body_eq _ _ _ _ rfl
@[simp] theorem body_4 (N : Nat) (f : En → RS) (a b c d : D) : bodyM N 4 f [a, b, c, d] = (f (some (.val a) :: some (.val b) :: some (.val c) :: some (.val d) :: List.replicate (N - 4) none)).out := body_eq _ _ _ _ rfl
@[simp] theorem body_5 (N : Nat) (f : En → RS) (a b c d e : D) : bodyM N 5 f [a, b, c, d, e] = (f (some (.val a) :: some (.val b) :: some (.val c) :: some (.val d) :: some (.val e) :: List.replicate (N - 5) none)).out := body_eq _ _ _ _ rfl
@[simp] theorem out_ret (d : D) : (RS.ret d).out = .ok d := rfl
@[simp] theorem out_next (ρ : En) : (RS.next ρ).out = .ok .non := rfl
@[simp] theorem out_exc (c : Nat) (ρ : En) : (RS.exc c ρ).out = .exc c := rfl
@[simp] theorem noX_ok {α : Type} (a : α) : noX (.ok a) = .ok a := rfl
@[simp] theorem toL_ok (ds : List D) : toL (.ok ds) = .ok (.lst ds) := rfl
/-! comprehensions -/
theorem lcD_map {α : Type} (enc : α → D) {vs : List Nat} {g : D → En → Option En} {ft : En → R Bool} {fe : En → R D} {ρ : En} (c : α → Bool) (φ : α → D) : ∀ (xs : List α), (∀ x ∈ xs, ∃ ρ1, g (enc x) (wipeE ρ vs) = some ρ1 ∧ ft ρ1 = .ok (c x) ∧ (c x = true → fe ρ1 = .ok (φ x))) →
    lcD vs g ft fe ρ (xs.map enc) = .ok ((xs.filter c).map φ)
  | [], _ => rfl
  | x :: xs, h => by
    obtain ⟨ρ1, h1, h2, h3⟩ := h x List.mem_cons_self
    have ih := lcD_map enc (vs := vs) (g := g) (ft := ft) (fe := fe) (ρ := ρ) c φ xs fun y hy => h y (List.mem_cons_of_mem _ hy)
    rw [List.map_cons]
    unfold lcD
    rw [h1]
    dsimp only
    rw [h2, noX_ok, bind_ok]
    cases hc : c x with
    | false => rw [if_neg Bool.false_ne_true, List.filter_cons_of_neg (by simp [hc]), ih]
    | true => rw [if_pos rfl, h3 hc, noX_ok, bind_ok, ih, bind_ok, List.filter_cons_of_pos hc, List.map_cons]
theorem lcM_map {α : Type} (enc : α → D) {vs : List Nat} {g : D → En → Option En} {ft : En → R Bool} {fe : En → R D} {ρ : En} (c : α → Bool) (φ : α → D) (xs : List α) (hl : xs.length ≤ 100000) (h : ∀ x ∈ xs, ∃ ρ1, g (enc x) (wipeE ρ vs) = some ρ1 ∧ ft ρ1 = .ok (c x) ∧ (c x = true → fe ρ1 = .ok (φ x))) :
    lcM vs g ft fe ρ (xs.map enc) = .ok ((xs.filter c).map φ) := by
  unfold lcM
  rw [if_pos (by rw [List.length_map]; exact hl)]
  exact lcD_map enc c φ xs h
theorem lcM_all {α : Type} (enc : α → D) {vs : List Nat} {g : D → En → Option En} {ft : En → R Bool} {fe : En → R D} {ρ : En} (φ : α → D) (xs : List α) (hl : xs.length ≤ 100000) (h : ∀ x ∈ xs, ∃ ρ1, g (enc x) (wipeE ρ vs) = some ρ1 ∧ ft ρ1 = .ok true ∧ fe ρ1 = .ok (φ x)) :
    lcM vs g ft fe ρ (xs.map enc) = .ok (xs.map φ) := by
  have := lcM_map enc (c := fun _ => true) φ xs hl fun x hx => let ⟨r, a, b, d⟩ := h x hx; ⟨r, a, b, fun _ => d⟩
  rw [List.filter_eq_self.mpr (fun _ _ => rfl)] at this
  exact this
theorem bools_map {α : Type} (p : α → Bool) : ∀ xs : List α, bools (xs.map fun x => D.bl (p x)) = some (xs.map p)
  | [] => rfl
  | x :: xs => by
    rw [List.map_cons, List.map_cons]
    show (bools (xs.map fun x => D.bl (p x))).map (p x :: ·) = _
    rw [bools_map p xs]; rfl
theorem allO_map {α : Type} (p : α → Bool) (xs : List α) : allO [.lst (xs.map fun x => D.bl (p x))] = .ok (.bl (xs.all p)) := by
  unfold allO
  dsimp only
  rw [bools_map]
  dsimp only
  rw [List.all_map]; rfl
theorem anyO_map {α : Type} (p : α → Bool) (xs : List α) : anyO [.lst (xs.map fun x => D.bl (p x))] = .ok (.bl (xs.any p)) := by
  unfold anyO
  dsimp only
  rw [bools_map]
  dsimp only
  rw [List.any_map]; rfl
/-! loops -/
@[simp] theorem forS_nil (g : D → En → Option En) (fb : En → RS) (ρ : En) : forS g fb [] ρ = .next ρ := rfl
/-- a loop that only goes on: an invariant over what was taken -/
theorem forS_inv {α : Type} (enc : α → D) {g : D → En → Option En} {fb : En → RS} (I : List α → En → Prop) : ∀ (xs pre : List α) (ρ : En), I pre ρ →
    (∀ pre x post ρ, pre ++ x :: post = pre ++ x :: post → I pre ρ → x ∈ xs → ∃ ρ1 ρ2, g (enc x) ρ = some ρ1 ∧ (fb ρ1 = .next ρ2 ∨ fb ρ1 = .cont ρ2) ∧ I (pre ++ [x]) ρ2) → ∃ ρ', forS g fb (xs.map enc) ρ = .next ρ' ∧ I (pre ++ xs) ρ'
  | [], pre, ρ, h, _ => ⟨ρ, rfl, by rw [List.append_nil]; exact h⟩
  | x :: xs, pre, ρ, h, st => by
    obtain ⟨ρ1, ρ2, h1, h2, h3⟩ := st pre x xs ρ rfl h List.mem_cons_self
    obtain ⟨ρ', q1, q2⟩ := forS_inv enc I xs (pre ++ [x]) ρ2 h3 fun pre y post ρ e i hy => st pre y post ρ e i (List.mem_cons_of_mem _ hy)
    refine ⟨ρ', ?_, by rw [List.append_assoc] at q2; exact q2⟩
    rw [List.map_cons]
    unfold forS
    rw [h1]
    dsimp only
    rcases h2 with h2 | h2 <;> (rw [h2]; exact q1)
/-! data of lines -/
abbrev tp (f : List Str) : D := .tup (f.map D.str)
theorem eqDs_str : ∀ f g : List Str, eqDs (f.map D.str) (g.map D.str) = decide (f = g)
  | [], [] => rfl
  | [], _ :: _ => by simp [eqDs]
  | _ :: _, [] => by simp [eqDs]
  | x :: f, y :: g => by
    rw [List.map_cons, List.map_cons, eqDs, eqDs_str f g, eqD]
    by_cases h : x = y
    · subst h
      by_cases h2 : f = g <;> simp [h2]
    · have : (x == y) = false := beq_eq_false_iff_ne.mpr h
      rw [this]; simp [h]
theorem eqD_tp (f g : List Str) : eqD (tp f) (tp g) = decide (f = g) := by rw [eqD]; exact eqDs_str f g
theorem flats_str {n : Nat} : ∀ f : List Str, flats n (f.map D.str) = f.all PyData.strOk
  | [] => rfl
  | x :: f => by
    rw [List.map_cons, flats, flats_str f, List.all_cons]
    cases n <;> rfl
theorem flat_tp {n : Nat} (f : List Str) : flat (n + 1) (tp f) = f.all PyData.strOk := by rw [flat]; exact flats_str f
/-! operations on ints -/
@[simp] theorem addD_int (i j : Int) : addD (.int i) (.int j) = .ok (.int (i + j)) := rfl
@[simp] theorem subD_int (i j : Int) : subD (.int i) (.int j) = .ok (.int (i - j)) := rfl
@[simp] theorem mulD_int (i j : Int) (h : (-(2 ^ 64) < i ∧ i < 2 ^ 64) ∨ (-(2 ^ 64) < j ∧ j < 2 ^ 64)) : mulD (.int i) (.int j) = .ok (.int (i * j)) := if_pos h
@[simp] theorem fdivD_int (i j : Int) (h : 0 < j ∧ j < 2 ^ 64) : fdivD (.int i) (.int j) = .ok (.int (i / j)) := if_pos h
@[simp] theorem modD_int (i j : Int) (h : 0 < j) : modD (.int i) (.int j) = .ok (.int (i % j)) := if_pos h
@[simp] theorem negD_int (i : Int) : negD (.int i) = .ok (.int (-i)) := rfl
@[simp] theorem ltD_int (i j : Int) : ltD (.int i) (.int j) = .ok (.bl (decide (i < j))) := rfl
@[simp] theorem leD_int (i j : Int) : leD (.int i) (.int j) = .ok (.bl (decide (i ≤ j))) := rfl
@[simp] theorem gtD_int (i j : Int) : gtD (.int i) (.int j) = .ok (.bl (decide (j < i))) := rfl
@[simp] theorem geD_int (i j : Int) : geD (.int i) (.int j) = .ok (.bl (decide (j ≤ i))) := rfl
@[simp] theorem asB_bl (b : Bool) : asB (.bl b) = .ok b := rfl
@[simp] theorem asI_int (i : Int) : asI (.int i) = .ok i := rfl
@[simp] theorem andR_t (y : R Bool) : andR (.ok true) y = y := rfl
@[simp] theorem andR_f (y : R Bool) : andR (.ok false) y = .ok false := rfl
@[simp] theorem orR_t (y : R Bool) : orR (.ok true) y = .ok true := rfl
@[simp] theorem orR_f (y : R Bool) : orR (.ok false) y = y := rfl
theorem andR_ok (b c : Bool) : andR (.ok b) (.ok c) = .ok (b && c) := by cases b <;> rfl
theorem orR_ok (b c : Bool) : orR (.ok b) (.ok c) = .ok (b || c) := by cases b <;> rfl
@[simp] theorem andV_t (y : R D) : andV (.ok (.bl true)) y = y := rfl
@[simp] theorem andV_f (y : R D) : andV (.ok (.bl false)) y = .ok (.bl false) := rfl
@[simp] theorem orV_t (y : R D) : orV (.ok (.bl true)) y = .ok (.bl true) := rfl
@[simp] theorem orV_f (y : R D) : orV (.ok (.bl false)) y = y := rfl
@[simp] theorem notV_ok (b : Bool) : notV (.ok (.bl b)) = .ok (.bl (!b)) := rfl
@[simp] theorem setS_ok (i : Nat) (d : D) (ρ : En) : setS i (.ok d) ρ = .next (ρ.set i (some (.val d))) := rfl
@[simp] theorem mkL_ok (ds : List D) : mkL (.ok ds) = if ds.length ≤ 100000 then .ok (.lst ds) else .stuck := rfl
@[simp] theorem mkT_ok (ds : List D) : mkT (.ok ds) = if ds.length ≤ 100000 then .ok (.tup ds) else .stuck := rfl
@[simp] theorem lim_ok (ds : List D) : lim (.ok ds) = if ds.length ≤ 100000 then .ok ds else .stuck := rfl
@[simp] theorem len_lst (ds : List D) : lenO [.lst ds] = .ok (.int ds.length) := rfl
@[simp] theorem len_tup (ds : List D) : lenO [.tup ds] = .ok (.int ds.length) := rfl
@[simp] theorem len_scr (ds : List D) : lenO [.scr ds] = .ok (.int ds.length) := rfl
theorem powD_int (i j : Int) (h : 0 ≤ j ∧ j ≤ 1000 ∧ -1000 ≤ i ∧ i ≤ 1000) : powD (.int i) (.int j) = .ok (.int (i ^ j.toNat)) := if_pos h
@[simp] theorem pow_18 : powD (.int 10) (.int 18) = .ok (.int 1000000000000000000) := rfl
theorem ixO_of {xs : List D} {i : Int} {d : D} (h : L2.atI xs i = some d) : ixO (.lst xs) (.int i) = .ok d ∧ ixO (.tup xs) (.int i) = .ok d ∧ ixO (.scr xs) (.int i) = .ok d := by
  refine ⟨?_, ?_, ?_⟩ <;> (unfold ixO; dsimp only; rw [h])
theorem atI_at {α : Type} {xs : List α} {i : Int} (h0 : 0 ≤ i) (h1 : i.toNat < xs.length) : L2.atI xs i = some xs[i.toNat] := by
  have := L2.atI_nat (xs := xs) (j := i.toNat) (v := xs[i.toNat]) (List.getElem?_eq_getElem h1)
  rwa [Int.toNat_of_nonneg h0] at this
theorem flats_int {n : Nat} : ∀ ns : List Int, flats n (ns.map D.int) = true
  | [] => rfl
  | i :: ns => by rw [List.map_cons, flats, flats_int ns]; cases n <;> rfl
@[simp] theorem ne_scr_nil (ns : List Int) : neO (.scr (ns.map D.int)) (.lst []) = .ok (.bl (!ns.isEmpty)) := by
  unfold neO
  rw [if_pos (by simp [flat, flats, flats_int]), eqD]
  cases ns <;> rfl
/-! concrete runs, by the kernel -/
mutual
def beqD : D → D → Bool
  | .non, .non => true
  | .bl a, .bl b => a == b
  | .int a, .int b => a == b
  | .str a, .str b => a == b
  | .tup xs, .tup ys => beqDs xs ys
  | .lst xs, .lst ys => beqDs xs ys
  | .scr xs, .scr ys => beqDs xs ys
  | .op m xs, .op n ys => m == n && beqDs xs ys
  | _, _ => false
def beqDs : List D → List D → Bool
  | [], [] => true
  | x :: xs, y :: ys => beqD x y && beqDs xs ys
  | _, _ => false
end
mutual
theorem beqD_eq : ∀ (d e : D), beqD d e = true → d = e
  | .non, e, h => by cases e <;> simp [beqD] at h ⊢
  | .bl a, e, h => by cases e <;> simp [beqD] at h ⊢; exact h
  | .int a, e, h => by cases e <;> simp [beqD] at h ⊢; exact h
  | .str a, e, h => by cases e <;> simp [beqD] at h ⊢; exact h
  | .tup xs, e, h => by
    cases e <;> simp only [beqD] at h <;> first | (cases h; done) | skip
    rw [beqDs_eq _ _ h]
  | .lst xs, e, h => by
    cases e <;> simp only [beqD] at h <;> first | (cases h; done) | skip
    rw [beqDs_eq _ _ h]
  | .scr xs, e, h => by
    cases e <;> simp only [beqD] at h <;> first | (cases h; done) | skip
    rw [beqDs_eq _ _ h]
  | .op m xs, e, h => by
    cases e <;> simp only [beqD, Bool.and_eq_true] at h <;> first | (cases h; done) | skip
    rw [beqDs_eq _ _ h.2, beq_iff_eq.mp h.1]
  | .dic _ _, e, h => by cases e <;> simp [beqD] at h
theorem beqDs_eq : ∀ (ds es : List D), beqDs ds es = true → ds = es
  | [], [], _ => rfl
  | [], _ :: _, h => by simp [beqDs] at h
  | _ :: _, [], h => by simp [beqDs] at h
  | d :: ds, e :: es, h => by
    simp only [beqDs, Bool.and_eq_true] at h
    rw [beqD_eq d e h.1, beqDs_eq ds es h.2]
end
def beqR : R D → R D → Bool
  | .ok a, .ok b => beqD a b
  | .exc a, .exc b => a == b
  | _, _ => false
theorem of_beqR {x y : R D} (h : beqR x y = true) : x = y := by
  cases x <;> cases y <;> simp only [beqR] at h <;> first | (cases h; done) | skip
  · rw [beqD_eq _ _ h]
  · rw [beq_iff_eq.mp h]
/-! tuples of lines -/
theorem addD_tup (f g : List D) (h : f.length + g.length ≤ 100000) : addD (.tup f) (.tup g) = .ok (.tup (f ++ g)) := if_pos h
theorem addD_lst (f g : List D) (h : f.length + g.length ≤ 100000) : addD (.lst f) (.lst g) = .ok (.lst (f ++ g)) := if_pos h
@[simp] theorem addD_tp (f g : List Str) (h : f.length + g.length ≤ 100000) : addD (.tup (f.map D.str)) (.tup (g.map D.str)) = .ok (.tup ((f ++ g).map D.str)) := by
  rw [addD_tup _ _ (by simpa using h), List.map_append]
theorem eqO_of {d e : D} (h : flat 60 d = true) (h' : flat 60 e = true) : eqO d e = .ok (.bl (eqD d e)) := by
  unfold eqO; rw [h, h']; rfl
theorem neO_of {d e : D} (h : flat 60 d = true) (h' : flat 60 e = true) : neO d e = .ok (.bl (!eqD d e)) := by
  unfold neO; rw [h, h']; rfl
@[simp] theorem isi_tup (ds : List D) : isiO .tuple (.tup ds) = .ok (.bl true) := rfl
@[simp] theorem isi_int (i : Int) : isiO .int (.int i) = .ok (.bl true) := rfl
@[simp] theorem isi_boolint (i : Int) : isiO .bool (.int i) = .ok (.bl false) := rfl
@[simp] theorem isi_str (x : Str) : isiO .str (.str x) = .ok (.bl true) := rfl
@[simp] theorem iterO_tup (ds : List D) : iterO (.tup ds) = .ok ds := rfl
@[simp] theorem iterO_lst (ds : List D) : iterO (.lst ds) = .ok ds := rfl
@[simp] theorem tupO_lst (ds : List D) : tupO [.lst ds] = .ok (.tup ds) := rfl
@[simp] theorem tupO_tup (ds : List D) : tupO [.tup ds] = .ok (.tup ds) := rfl
@[simp] theorem chain_le (g' : D → D → R D) (i j : Int) (z : R D) : chainD leD g' (.ok (.int i)) (.ok (.int j)) z = if i ≤ j then z.bind fun w => g' (.int j) w else .ok (.bl false) := by
  show (if decide (i ≤ j) = true then _ else _) = _
  by_cases h : i ≤ j <;> simp [h]
theorem rng1_nat (n : Int) (h0 : 0 ≤ n) (h1 : n ≤ 1000000) : rng1 [.int n] = .ok ((List.range n.toNat).map fun i => D.int ((i : Nat) : Int)) := by
  show rngD 0 n = _
  unfold rngD
  rw [if_pos (by omega)]
  simp
@[simp] theorem eq_int (i j : Int) : eqO (.int i) (.int j) = .ok (.bl (decide (i = j))) := by
  rw [eqO_of rfl rfl, eqD, Bool.beq_eq_decide_eq]
@[simp] theorem ne_int (i j : Int) : neO (.int i) (.int j) = .ok (.bl (!decide (i = j))) := by
  rw [neO_of rfl rfl, eqD, Bool.beq_eq_decide_eq]
@[simp] theorem ix_tup0 (a : D) (r : List D) : ixO (.tup (a :: r)) (.int 0) = .ok a := (ixO_of (L2.atI_nat (j := 0) rfl)).2.1
@[simp] theorem ix_lst0 (a : D) (r : List D) : ixO (.lst (a :: r)) (.int 0) = .ok a := (ixO_of (L2.atI_nat (j := 0) rfl)).1
@[simp] theorem ix_tup1 (a b : D) (r : List D) : ixO (.tup (a :: b :: r)) (.int 1) = .ok b := (ixO_of (L2.atI_nat (j := 1) rfl)).2.1
@[simp] theorem ix_lst1 (a b : D) (r : List D) : ixO (.lst (a :: b :: r)) (.int 1) = .ok b := (ixO_of (L2.atI_nat (j := 1) rfl)).1
@[simp] theorem ix_tup2 (a b c : D) (r : List D) : ixO (.tup (a :: b :: c :: r)) (.int 2) = .ok c := (ixO_of (L2.atI_nat (j := 2) rfl)).2.1
@[simp] theorem ix_lst2 (a b c : D) (r : List D) : ixO (.lst (a :: b :: c :: r)) (.int 2) = .ok c := (ixO_of (L2.atI_nat (j := 2) rfl)).1
@[simp] theorem ix_tup3 (a b c d : D) (r : List D) : ixO (.tup (a :: b :: c :: d :: r)) (.int 3) = .ok d := (ixO_of (L2.atI_nat (j := 3) rfl)).2.1
@[simp] theorem ix_lst3 (a b c d : D) (r : List D) : ixO (.lst (a :: b :: c :: d :: r)) (.int 3) = .ok d := (ixO_of (L2.atI_nat (j := 3) rfl)).1
@[simp] theorem ix_tup4 (a b c d e : D) (r : List D) : ixO (.tup (a :: b :: c :: d :: e :: r)) (.int 4) = .ok e := (ixO_of (L2.atI_nat (j := 4) rfl)).2.1
@[simp] theorem ix_lst4 (a b c d e : D) (r : List D) : ixO (.lst (a :: b :: c :: d :: e :: r)) (.int 4) = .ok e := (ixO_of (L2.atI_nat (j := 4) rfl)).1
@[simp] theorem ix_tup5 (a b c d e f : D) (r : List D) : ixO (.tup (a :: b :: c :: d :: e :: f :: r)) (.int 5) = .ok f := (ixO_of (L2.atI_nat (j := 5) rfl)).2.1
@[simp] theorem ix_lst5 (a b c d e f : D) (r : List D) : ixO (.lst (a :: b :: c :: d :: e :: f :: r)) (.int 5) = .ok f := (ixO_of (L2.atI_nat (j := 5) rfl)).1
@[simp] theorem ix_tup6 (a b c d e f g : D) (r : List D) : ixO (.tup (a :: b :: c :: d :: e :: f :: g :: r)) (.int 6) = .ok g := (ixO_of (L2.atI_nat (j := 6) rfl)).2.1
@[simp] theorem ix_lst6 (a b c d e f g : D) (r : List D) : ixO (.lst (a :: b :: c :: d :: e :: f :: g :: r)) (.int 6) = .ok g := (ixO_of (L2.atI_nat (j := 6) rfl)).1
/-! slices -/
theorem sIx_nn (n d : Nat) (i : Int) (h : 0 ≤ i) : HT.sIx n d (some i) = min i.toNat n := by
  obtain ⟨k, rfl⟩ := Int.eq_ofNat_of_zero_le h
  exact HT.sIx_nat n d k
theorem cut_lo {α : Type} (xs : List α) (lo : Int) (h : 0 ≤ lo) : cutA xs (some lo) none = xs.drop lo.toNat := by
  unfold cutA
  rw [sIx_nn _ _ _ h, HT.sIx_none]
  by_cases hl : lo.toNat ≤ xs.length
  · rw [Nat.min_eq_left hl]
    exact List.take_of_length_le (by simp)
  · rw [Nat.min_eq_right (by omega), List.drop_of_length_le (by omega), List.drop_of_length_le (by omega)]
    simp
theorem cut_hi {α : Type} (xs : List α) (hi : Int) (h : 0 ≤ hi) : cutA xs none (some hi) = xs.take hi.toNat := by
  unfold cutA
  rw [sIx_nn _ _ _ h, HT.sIx_none]
  simp only [List.drop_zero, Nat.sub_zero]
  by_cases hl : hi.toNat ≤ xs.length
  · rw [Nat.min_eq_left hl]
  · rw [Nat.min_eq_right (by omega), List.take_of_length_le (by omega), List.take_of_length_le (by omega)]
theorem cut_lh {α : Type} (xs : List α) (lo hi : Int) (h : 0 ≤ lo) (h' : 0 ≤ hi) : cutA xs (some lo) (some hi) = (xs.drop lo.toNat).take (hi.toNat - lo.toNat) := by
  unfold cutA
  rw [sIx_nn _ _ _ h, sIx_nn _ _ _ h']
  generalize lo.toNat = l
  generalize hi.toNat = u
  by_cases hl : l ≤ xs.length
  · rw [Nat.min_eq_left hl]
    by_cases hh : u ≤ xs.length
    · rw [Nat.min_eq_left hh]
    · have e : min u xs.length = xs.length := Nat.min_eq_right (by omega)
      rw [e, List.take_of_length_le (by rw [List.length_drop]; omega), List.take_of_length_le (by rw [List.length_drop]; omega)]
  · have e : min l xs.length = xs.length := Nat.min_eq_right (by omega)
    have e1 : xs.drop l = [] := List.drop_of_length_le (by omega)
    rw [e, e1, List.drop_length, List.take_nil, List.take_nil]
theorem cutA_map {α β : Type} (f : α → β) (xs : List α) (lo hi : Option Int) : cutA (xs.map f) lo hi = (cutA xs lo hi).map f := by
  unfold cutA
  rw [List.length_map, List.map_take, List.map_drop]
@[simp] theorem sl_tup (ds : List D) (lo hi : Option Int) : slO (.tup ds) lo hi = .ok (.tup (cutA ds lo hi)) := rfl
@[simp] theorem sl_lst (ds : List D) (lo hi : Option Int) : slO (.lst ds) lo hi = .ok (.lst (cutA ds lo hi)) := rfl
@[simp] theorem cut_1 {α : Type} (xs : List α) : cutA xs (some 1) none = xs.drop 1 := cut_lo xs 1 (by decide)
@[simp] theorem eq_nil : eqO (.tup []) (.tup []) = .ok (.bl true) := of_beqR (by decide +kernel)
@[simp] theorem ne_nil : neO (.tup []) (.tup []) = .ok (.bl false) := of_beqR (by decide +kernel)
@[simp] theorem retS_bl (b : Bool) : retS (.ret (.bl b)) = .ret (.bl b) := rfl
theorem pureDs_str : ∀ f : List Str, pureDs (f.map D.str) = true
  | [] => rfl
  | x :: f => by rw [List.map_cons, pureDs, pureDs_str f]; rfl
@[simp] theorem pure_tp (f : List Str) : pureD (.tup (f.map D.str)) = true := by rw [pureD]; exact pureDs_str f
@[simp] theorem pure_int (i : Int) : pureD (.int i) = true := rfl
@[simp] theorem pure_bl (i : Bool) : pureD (.bl i) = true := rfl
@[simp] theorem pure_non : pureD .non = true := rfl
@[simp] theorem pure_str (i : Str) : pureD (.str i) = true := rfl
@[simp] theorem pure_tup (xs : List D) : pureD (.tup xs) = pureDs xs := by rw [pureD]
@[simp] theorem pure_nil : pureDs [] = true := rfl
@[simp] theorem pure_cons (x : D) (xs : List D) : pureDs (x :: xs) = (pureD x && pureDs xs) := by rw [pureDs]
@[simp] theorem pure_strs (f : List Str) : pureDs (f.map D.str) = true := pureDs_str f
@[simp] theorem viewR_ok (d : D) : viewR (.ok d) = if pureD d = true then .ok d else .stuck := rfl
@[simp] theorem ix_lst7 (x0 x1 x2 x3 x4 x5 x6 x7 : D) (r : List D) : ixO (.lst (x0 :: x1 :: x2 :: x3 :: x4 :: x5 :: x6 :: x7 :: r)) (.int 7) = .ok x7 := (ixO_of (L2.atI_nat (j := 7) rfl)).1
@[simp] theorem ix_lst8 (x0 x1 x2 x3 x4 x5 x6 x7 x8 : D) (r : List D) : ixO (.lst (x0 :: x1 :: x2 :: x3 :: x4 :: x5 :: x6 :: x7 :: x8 :: r)) (.int 8) = .ok x8 := (ixO_of (L2.atI_nat (j := 8) rfl)).1
@[simp] theorem ix_lst9 (x0 x1 x2 x3 x4 x5 x6 x7 x8 x9 : D) (r : List D) : ixO (.lst (x0 :: x1 :: x2 :: x3 :: x4 :: x5 :: x6 :: x7 :: x8 :: x9 :: r)) (.int 9) = .ok x9 := (ixO_of (L2.atI_nat (j := 9) rfl)).1
@[simp] theorem ix_lst10 (x0 x1 x2 x3 x4 x5 x6 x7 x8 x9 x10 : D) (r : List D) : ixO (.lst (x0 :: x1 :: x2 :: x3 :: x4 :: x5 :: x6 :: x7 :: x8 :: x9 :: x10 :: r)) (.int 10) = .ok x10 := (ixO_of (L2.atI_nat (j := 10) rfl)).1
@[simp] theorem ix_lst11 (x0 x1 x2 x3 x4 x5 x6 x7 x8 x9 x10 x11 : D) (r : List D) : ixO (.lst (x0 :: x1 :: x2 :: x3 :: x4 :: x5 :: x6 :: x7 :: x8 :: x9 :: x10 :: x11 :: r)) (.int 11) = .ok x11 := (ixO_of (L2.atI_nat (j := 11) rfl)).1
@[simp] theorem ix_lst12 (x0 x1 x2 x3 x4 x5 x6 x7 x8 x9 x10 x11 x12 : D) (r : List D) : ixO (.lst (x0 :: x1 :: x2 :: x3 :: x4 :: x5 :: x6 :: x7 :: x8 :: x9 :: x10 :: x11 :: x12 :: r)) (.int 12) = .ok x12 := (ixO_of (L2.atI_nat (j := 12) rfl)).1
@[simp] theorem ix_lst13 (x0 x1 x2 x3 x4 x5 x6 x7 x8 x9 x10 x11 x12 x13 : D) (r : List D) : ixO (.lst (x0 :: x1 :: x2 :: x3 :: x4 :: x5 :: x6 :: x7 :: x8 :: x9 :: x10 :: x11 :: x12 :: x13 :: r)) (.int 13) = .ok x13 := (ixO_of (L2.atI_nat (j := 13) rfl)).1
theorem ix_mem {xs : List D} {i : Int} (h0 : 0 ≤ i) (h1 : i < xs.length) : ∃ d ∈ xs, ixO (.lst xs) (.int i) = .ok d :=
  ⟨xs[i.toNat]'(by omega), List.getElem_mem _, (ixO_of (atI_at h0 (by omega))).1⟩
theorem mulD_tup (xs : List D) (k : Int) (h : 1 ≤ xs.length ∧ xs.length ≤ 1000 ∧ 2 ≤ k ∧ k ≤ 1000) : mulD (.tup xs) (.int k) = .ok (.tup (List.replicate k.toNat xs).flatten) := if_pos h
theorem run_all {α : Type} (xs : List α) (p : α → Bool) (h : xs.all p = true) : ∀ x ∈ xs, p x = true := List.all_eq_true.mp h
mutual
theorem eqD_refl : ∀ (n : Nat) (d : D), flat n d = true → eqD d d = true
  | n, .non, _ => rfl
  | n, .bl b, _ => by simp [eqD]
  | n, .int i, _ => by simp [eqD]
  | n, .str x, _ => by simp [eqD]
  | 0, .tup _, h => by simp [flat] at h
  | 0, .lst _, h => by simp [flat] at h
  | 0, .scr _, h => by simp [flat] at h
  | n + 1, .tup xs, h => by rw [eqD]; exact eqDs_refl n xs (by simpa [flat] using h)
  | n + 1, .lst xs, h => by rw [eqD]; exact eqDs_refl n xs (by simpa [flat] using h)
  | n + 1, .scr xs, h => by rw [eqD]; exact eqDs_refl n xs (by simpa [flat] using h)
  | n, .op _ _, h => by cases n <;> simp [flat] at h
  | n, .dic _ _, h => by cases n <;> simp [flat] at h
theorem eqDs_refl : ∀ (n : Nat) (ds : List D), flats n ds = true → eqDs ds ds = true
  | n, [], _ => rfl
  | n, d :: ds, h => by
    have h' := (show _ ∧ _ by simpa [flats] using h)
    rw [eqDs, eqD_refl n d h'.1, eqDs_refl n ds h'.2]; rfl
end
theorem eq_self {d : D} (h : flat 60 d = true) : eqO d d = .ok (.bl true) := by rw [eqO_of h h, eqD_refl 60 d h]
theorem ne_self {d : D} (h : flat 60 d = true) : neO d d = .ok (.bl false) := by rw [neO_of h h, eqD_refl 60 d h]; rfl
@[simp] theorem ne_bl_self (b : Bool) : neO (.bl b) (.bl b) = .ok (.bl false) := ne_self rfl
@[simp] theorem isNot_bl (a b : Bool) : isNotD (.bl a) (.bl b) = .ok (.bl (!(a == b))) := rfl
@[simp] theorem is_bl (a b : Bool) : isD (.bl a) (.bl b) = .ok (.bl (a == b)) := rfl
theorem addD_tcons (x : D) (f g : List D) : addD (.tup (x :: f)) (.tup g) = if (x :: f).length + g.length ≤ 100000 then .ok (.tup (x :: f ++ g)) else .stuck := rfl
theorem addD_lstE (f g : List D) : addD (.lst f) (.lst g) = if f.length + g.length ≤ 100000 then .ok (.lst (f ++ g)) else .stuck := rfl
theorem mulD_lstE (f : List D) (k : Int) : mulD (.lst f) (.int k) = if f.length ≤ 1000 ∧ 0 ≤ k ∧ k ≤ 1000 then .ok (.lst (List.replicate k.toNat f).flatten) else .stuck := rfl
theorem mulD_tupE (f : List D) (k : Int) : mulD (.tup f) (.int k) = if 1 ≤ f.length ∧ f.length ≤ 1000 ∧ 2 ≤ k ∧ k ≤ 1000 then .ok (.tup (List.replicate k.toNat f).flatten) else .stuck := rfl
end VL
end
section
set_option Elab.async false
set_option linter.all false
set_option maxRecDepth 100000
set_option maxHeartbeats 2000000
set_option autoImplicit false
namespace VL
open PySem PySem.Spec PyProof.Rows L2
variable [TabN]
section
variable {Γ : Gam} {X : Cx} {W : WX} {a b c e : Expr} {es : List Expr} {fa fb fc : En → R D} {pos p p2 : Pos} {j : Nat}
/-! ### zip -/
def pairs2 : List D → List D → List D
  | x :: xs, y :: ys => .tup [x, y] :: pairs2 xs ys
  | _, _ => []
def zipO : List D → R (List D)
  | [.tup xs, .tup ys] => .ok (pairs2 xs ys)
  | [.lst xs, .lst ys] => .ok (pairs2 xs ys)
  | _ => .stuck
theorem pairs2_len : ∀ xs ys : List D, (pairs2 xs ys).length = min xs.length ys.length
  | [], _ => by simp [pairs2]
  | _ :: _, [] => by simp [pairs2]
  | x :: xs, y :: ys => by simp [pairs2, pairs2_len xs ys]
theorem pairs2_at : ∀ (xs ys : List D) (i : Nat) (x y : D), xs[i]? = some x → ys[i]? = some y → (pairs2 xs ys)[i]? = some (.tup [x, y])
  | [], _, _, _, _, h, _ => by simp at h
  | _ :: _, [], _, _, _, _, h => by simp at h
  | x :: xs, y :: ys, 0, _, _, h1, h2 => by simp at h1 h2; simp [pairs2, h1, h2]
  | x :: xs, y :: ys, i + 1, _, _, h1, h2 => by simp at h1 h2; simp [pairs2]; exact pairs2_at xs ys i _ _ h1 h2
theorem walk_zipT {K : PySem.W.Frag} {a b : Addr} {xs ys : List V} {n : Nat} (hn : n = min xs.length ys.length) : Walk (RZ.ItzT K a b) n (fun H => SqT K H a xs ∧ SqT K H b ys) (YPair (fun i => xs[i]?) (fun i => ys[i]?)) := by
  subst hn
  refine ⟨fun i _ hi q => ?_, fun _ q => ⟨xs, ys, q.1, q.2, by omega⟩, fun i H v H' _ q y => ?_⟩
  · have h1 : i < xs.length := by omega
    have h2 : i < ys.length := by omega
    exact ⟨xs, ys, xs[i], ys[i], q.1, q.2, by simp [h1], by simp [h2]⟩
  · obtain ⟨T, x, z, h1, h2, h3, h4, h5⟩ := y
    exact ⟨T, x, z, h1, h2, h3, h4 xs q.1, h5 ys q.2⟩
theorem zip_it {K : PySem.W.Frag} {G : Hp} {J : It} {xs ys : List V} {ds es : List D} {Gd : Hp → Prop} (w : Walk J (min xs.length ys.length) Gd (YPair (fun i => xs[i]?) (fun i => ys[i]?))) (hG : ∀ H, Same G H → Gd H) (r : RpA Γ K G xs ds) (q : RpA Γ K G ys es) : ItOk Γ K G J (pairs2 ds es) := by
  refine ⟨Gd, _, by rw [pairs2_len, ← r.length, ← q.length]; exact w, hG, fun i H x H' G1 hi y s1 s2 => ?_⟩
  obtain ⟨T, u, v, e1, hn, e2, hu, hv⟩ := y
  subst e1 e2
  obtain ⟨d, d1, d2⟩ := r.get' hu
  obtain ⟨e, e1, e2⟩ := q.get' hv
  refine ⟨upd G1 T (.tup [u, v]), .tup [d, e], .new s2 hn, pairs2_at _ _ _ _ _ d1 e1, ?_⟩
  exact .tup (.of upd_same) (.cons ((d2.mono s1).mono (same_upd (s2.none hn))) (.one ((e2.mono s1).mono (same_upd (s2.none hn)))))
theorem si_zip {elts : List Expr} {kk : Nat} {tpos : Pos} {fs : En → R (List D)} (hg : Gl X "zip") (hm : X.mg "zip" = none) (ha : SA Γ X W [a, b] fs)
    (hs : starEach [a, b] X.env = (false, eval a X.env) :: starEach [b] X.env := by rfl) (hpl : (backTo pos (starEach [b] X.env)).any (·.1) = false := by rfl) :
    SI Γ X W (.Tuple elts kk tpos) (.Call (.Name "zip" p) [a, b] [] pos) (fun ρ => (fs ρ).bind zipO) := by
  obtain ⟨ta, pa, qa⟩ := ha.out
  refine ⟨_, RZ.pi_zipA hg hm pa hs hpl, fun {B G H σ ρ Q} r p => ?_⟩
  refine qa r (p.bind fun G1 H1 v d e1 r1 p1 => ?_)
  unfold zipO at p1
  split at p1
  · obtain ⟨v, u, rfl, h, h2⟩ := r1.inv2
    cases h with
    | tup ha ra =>
      cases h2 with
      | tup hb rb => exact ⟨_, _, _, _, rfl, .inr ⟨e1.s.seqT ha, e1.s.seqT hb, p1.here e1.s (zip_it (walk_zipT rfl) (fun H s => ⟨s.seqT ha, s.seqT hb⟩) ra rb)⟩⟩
  · obtain ⟨v, u, rfl, h, h2⟩ := r1.inv2
    cases h with
    | lst ha ra =>
      cases h2 with
      | lst hb rb => exact ⟨_, _, _, _, rfl, .inl ⟨.of (e1.s _ _ ha), .of (e1.s _ _ hb), p1.here e1.s (zip_it (walk_zip rfl) (fun H s => ⟨.of (s _ _ ha), .of (s _ _ hb)⟩) ra rb)⟩⟩
  · exact p1.elim
/-! ### t[::-1] -/
def revO : D → D → R D
  | .tup ds, .int k => if k = -1 then .ok (.tup ds.reverse) else .stuck
  | _, _ => .stuck
theorem RpA.rev {K : PySem.W.Frag} {H : Hp} : ∀ {vs : List V} {ds : List D}, RpA Γ K H vs ds → RpA Γ K H vs.reverse ds.reverse
  | _, _, .nil => .nil
  | _, _, .cons h r => by rw [List.reverse_cons, List.reverse_cons]; exact (RpA.rev r).append (.one h)
theorem vals_app : ∀ {xs ys : List V} {us ws : List Value}, Vals xs us → Vals ys ws → Vals (xs ++ ys) (us ++ ws)
  | _, _, _, _, .nil, h => h
  | _, _, _, _, .cons h r, q => .cons h (vals_app r q)
theorem vals_rev : ∀ {xs : List V} {us : List Value}, Vals xs us → Vals xs.reverse us.reverse
  | _, _, .nil => .nil
  | _, _, .cons h r => by rw [List.reverse_cons, List.reverse_cons]; exact vals_app (vals_rev r) (.cons h .nil)
theorem rev_adjust (n : Nat) : Builtin.Slice.sliceAdjust none none (-1) (n : Int) = ((n : Int) - 1, -1) := rfl
theorem rev_places (n : Nat) : Builtin.Slice.slicePlaces ((n : Int) - 1) (-1) (-1) = n := by
  unfold Builtin.Slice.slicePlaces
  rw [if_neg (by decide)]
  by_cases h : (n : Int) - 1 > -1
  · rw [if_pos h, show (-(-1 : Int)) = 1 by decide, Int.ediv_one]; omega
  · rw [if_neg h]; omega
theorem rev_pick (xs : Array Value) : ((List.range xs.size).filterMap fun (m : Nat) => xs[(((xs.size : Int) - 1) + (m : Int) * (-1)).toNat]?).toArray = xs.toList.reverse.toArray := by
  have e : ((List.range xs.size).filterMap fun (m : Nat) => xs[(((xs.size : Int) - 1) + (m : Int) * (-1)).toNat]?) = (((List.range xs.size).map fun k => xs.size - 1 - k)).filterMap (xs[·]?) := by
    rw [List.filterMap_map]
    congr 1
    funext m
    have : (((xs.size : Int) - 1) + (m : Int) * (-1)).toNat = xs.size - 1 - m := by omega
    rw [this]; rfl
  rw [e, PySem.W.krv_range, List.filterMap_reverse, PySem.W.krv_all]
theorem sliceApplied_rev {prog : Program} {w : World} {A : Around} {E : Value → Shared → Prop} {s : Shared} {sl : Addr} {t : Tok} {n : Nat} {Q : Int × Int × Nat → Shared → Prop} (hs : s.heap.IsSliceOf sl .none .none (.int (-1) t))
    (h : Q ((n : Int) - 1, -1, n) s) : wpAny (model prog w) A (Builtin.Slice.sliceApplied (.ref sl) (pure (n : Int))) Q E s := by
  obtain ⟨os, hos, hcs, hds⟩ := id hs
  unfold Builtin.Slice.sliceApplied Builtin.Slice.sliceFields
  refine wpAny_bind (wpAny_bind (wpAny_field hos hds (x := .none) rfl (wpAny_bind (wpAny_field hos hds (x := .none) rfl (wpAny_bind (wpAny_field hos hds (x := .int (-1) t) rfl (wpAny_pure ?_)))))))
  refine wpAny_bind (slicePart_int ?_)
  show wpAny _ _ (if ((-1 : Int) == 0) = true then _ else _) _ _ s
  rw [if_neg (by decide)]
  refine wpAny_bind (slicePart_none (wpAny_bind (slicePart_none (wpAny_bind (wpAny_pure ?_)))))
  show wpAny _ _ (match Builtin.Slice.sliceAdjust none none (-1) (n : Int) with | (lo, hi) => pure (lo, (-1 : Int), Builtin.Slice.slicePlaces lo hi (-1))) _ _ s
  rw [rev_adjust n]
  show wpAny _ _ (pure (((n : Int) - 1), (-1 : Int), Builtin.Slice.slicePlaces ((n : Int) - 1) (-1) (-1))) _ _ s
  rw [rev_places]
  exact wpAny_pure h
theorem getItem_tuple_rev {prog : Program} {w : World} {A : Around} {E : Value → Shared → Prop} {s : Shared} {t sl : Addr} {items : Array Value} {tk : Tok} {Q : Value → Shared → Prop} (ht : IsTup s.heap t items) (hs : s.heap.IsSliceOf sl .none .none (.int (-1) tk))
    (h : Q (.ref s.heap.objs.size) { s with heap := s.heap.push { cls := .type "tuple", data := .seq items.toList.reverse.toArray } })
    (hsz : items.size ≤ sizeLine) : wpAny (model prog w) A (getItem (.ref t) (.ref sl)) Q E s := by
  have htake : sizeOk (.seq items.toList.reverse.toArray) := by
    show items.toList.reverse.toArray.size ≤ sizeLine
    rw [List.size_toArray, List.length_reverse, Array.length_toList]
    exact hsz
  obtain ⟨os, hos, hcs, hds⟩ := id hs
  have hTs : s.TypeIs (.ref sl) "slice" := ⟨os, hos, hcs⟩
  unfold getItem
  try with_reducible refine wpAny_holding ?_
  first | refine wpAny_bind (wpAny_pure ?_) | skip
  refine wpAny_bind (wpAny_sequenceKey ht.typeIs (by decide) ?_)
  refine wpAny_bind (wpAny_callSpecial?_slot (name := Str.ofString "__getitem__") ht.typeIs PyProof.Rows.slot_tuple_getitem
    (wpAny_call_entry PyProof.Rows.slot_tuple_getitem ht.typeIs PyProof.Rows.entry_tuple_getitem ?_ (PyProof.Rows.args_tuple_getitem _ _)))
  show wpAny _ _ (Builtin.Tuple.tupleItemsOf (.ref t) >>= _) _ _ s
  refine wpAny_bind (PyProof.Rows.tupleItemsOf_ ht ?_)
  refine wpAny_bind (wpAny_typeOf hTs ?_)
  rw [if_pos (by decide)]
  refine wpAny_bind (sliceApplied_rev hs ?_)
  have hno : ¬ ((((items.size : Int) - 1) == 0 && (-1 : Int) == 1 && items.size == items.size) = true) := by simp
  show wpAny _ _ (if ((((items.size : Int) - 1) == 0 && (-1 : Int) == 1 && items.size == items.size) = true) then _ else _) _ _ s
  rw [if_neg hno, rev_pick]
  first
    | exact wpAny_bind (m := Builtin.Tuple.tupleExact _) (wpAny_newObj_type (wpAny_pure ⟨_, rfl, wpAny_pure h⟩) htake)
    | exact wpAny_bind (m := Builtin.Tuple.tupleExact _) (wpAny_newObj_type (wpAny_bind (wpAny_pure (wpAny_pure ⟨_, rfl, wpAny_pure h⟩))) htake)
    | exact wpAny_bind (wpAny_bind (m := Builtin.Tuple.tupleExact _) (wpAny_newObj_type (wpAny_pure (wpAny_pure ⟨_, rfl, wpAny_pure h⟩)) htake))
    | exact wpAny_bind (wpAny_bind (m := Builtin.Tuple.tupleExact _) (wpAny_newObj_type (wpAny_pure ⟨_, rfl, wpAny_pure h⟩) htake))
/-- any slice's third part -/
theorem se_rev {st : Expr} {p3 : Pos} (ha : SE Γ X W a fa) (hst : SE Γ X W st fb) : SE Γ X W (.Subscript a (.Slice none none (some st) p3) pos) (fun ρ => (fa ρ).bind fun d => (fb ρ).bind fun k => revO d k) := by
  obtain ⟨ta, pa, qa⟩ := ha.out
  obtain ⟨tb, pb, qb⟩ := hst.out
  refine .mk ⟨fun σ H Q => ta σ H fun x H1 => tb σ H1 fun k H2 => ∃ a xs, x = .ref a ∧ k = .int (-1) ∧ SqT X.K H2 a xs ∧ ∀ p, H2 p = none → Q (.ref p) (upd H2 p (.tup xs.reverse)), ?_, fun {B G H σ ρ Q} r p => ?_⟩
  · refine ⟨fun pins s σ H Q I h => ?_⟩
    refine Subscript_ (thn (pa.run pins s σ H _ I h) fun v s1 ⟨x, H1, I1, r1, q1⟩ => ?_)
    refine wpAny_Slice ?_
    rw [evalPart_none]
    refine wpAny_pure ?_
    refine wpAny_pure ?_
    rw [evalPart_some]
    refine thn (pb.run pins s1 σ H1 _ I1 q1) fun vk s2 ⟨k, H2, I2, r2, q2⟩ => ?_
    obtain ⟨a, xs, rfl, rfl, hx, q⟩ := q2
    cases r1
    obtain ⟨tk, rfl⟩ := r2
    have I4 : Inv X pins σ H2 { s2 with heap := s2.heap.push { cls := .type "slice", data := .fields #[.none, .none, .int (-1) tk] } } := I2.kept (t' := s2.toks) fun b ob q => Heap.get?_push_of_some _ q
    obtain ⟨its, r, ht, hz⟩ := I4.tuple hx
    show wpAny (model X.prog X.w) X.A (subscriptTail _ (.Slice none none (some st) p3) (.ref a) (.ref s2.heap.objs.size)) (EP X pins σ Q) X.xe { s2 with heap := s2.heap.push { cls := .type "slice", data := .fields #[.none, .none, .int (-1) tk] } }
    refine tail_any (ops := [.ref a, .ref s2.heap.objs.size]) ht.typeIs PyProof.Rows.slot_tuple_getitem.lookup ?_ (by with_unfolding_all rfl)
    refine getItem_tuple_rev ht (Heap.IsSliceOf.new ..) ?_ (by rw [List.size_toArray, ← r.length]; exact hz)
    refine ⟨.ref _, _, I4.laid (t' := s2.toks) (o := .tup xs.reverse) (fun b ob q => Heap.get?_push_of_some _ q) (Nat.le_refl _) ?_, rfl, q _ (I4.hok.fresh (Nat.le_refl _))⟩
    exact ⟨by rw [List.length_reverse]; exact hz, _, vals_rev r, IsTup.new _ _⟩
  · refine qa r (p.bind fun G1 H1 v d e1 r1 p1 => ?_)
    refine qb (r.go e1) (p1.bind fun G2 H2 u k e2 r2 p2 => ?_)
    unfold revO at p2
    split at p2
    · cases r1 with
      | tup ha ra =>
        cases r2
        obtain ⟨hl, p2⟩ := Post.guard _ p2
        subst hl
        exact ⟨_, _, rfl, rfl, e2.s.seqT (e2.g.seqT ha), fun q hq => p2 _ _ _ (.new e2.s hq) (.tup (.of upd_same) (((ra.mono e2.g).rev).mono (same_upd (e2.s.none hq))))⟩
    · exact p2.elim
/-! ### min, max of PySem.W.alike data -/
def ltDD (d e : D) : Bool := PySem.W.dataLt (toP d) (toP e)
def okOrd : D → Bool
  | .non => false
  | .op _ _ => false
  | .dic _ _ => false
  | _ => true
def alikes (ds : List D) : Bool := ds.all fun x => okOrd x && ds.all fun y => PySem.W.alike (toP x) (toP y)
def minO : List D → R D
  | [.lst (d :: ds)] => if flats 20 (d :: ds) && alikes (d :: ds) then .ok (ds.foldl (fun a y => if ltDD y a then y else a) d) else .stuck
  | _ => .stuck
def maxO : List D → R D
  | [.lst (d :: ds)] => if flats 20 (d :: ds) && alikes (d :: ds) then .ok (ds.foldl (fun a y => if ltDD a y then y else a) d) else .stuck
  | _ => .stuck
theorem toPs_map : ∀ ds : List D, toPs ds = ds.map toP
  | [] => rfl
  | d :: ds => by rw [toPs, toPs_map ds, List.map_cons]
theorem alikes_all {ds : List D} (h : alikes ds = true) : PySem.W.AlikeAll (toPs ds) := by
  unfold alikes at h
  rw [List.all_eq_true] at h
  rw [toPs_map]
  refine ⟨fun x hx y hy => ?_, fun x hx => ?_⟩
  · obtain ⟨d, hd, rfl⟩ := List.mem_map.mp hx
    obtain ⟨e, he, rfl⟩ := List.mem_map.mp hy
    have := h d hd
    rw [Bool.and_eq_true, List.all_eq_true] at this
    exact this.2 e he
  · obtain ⟨d, hd, rfl⟩ := List.mem_map.mp hx
    have := h d hd
    rw [Bool.and_eq_true] at this
    have h1 := this.1
    cases d <;> simp [okOrd] at h1 <;> simp [toP]
def rMinP (K : PySem.W.Frag) (f : PyData → PyData → Bool) : List V → Hp → VK → Prop := fun vs H Q => ∃ (a : Addr) (xs : List V) (p : PyData) (ps : List PyData), vs = [V.ref a] ∧ SqL K H a xs ∧ DpAll K H xs (p :: ps) ∧ PySem.W.AlikeAll (p :: ps) ∧ PyData.depthAll (p :: ps) ≤ 60 ∧
  ∀ v, xs[argBest (fun i j => f ((p :: ps).getD i .none) ((p :: ps).getD j .none)) ps.length]? = some v → Q v H
theorem vals_get' : ∀ {xs : List V} {us : List Value} {i : Nat} {u : Value}, Vals xs us → us[i]? = some u → ∃ x, xs[i]? = some x ∧ RelV x u
  | _, _, _, _, .nil, e => by simp at e
  | _, _, 0, _, .cons h _, e => by simp at e; subst e; exact ⟨_, rfl, h⟩
  | _, _, i + 1, _, .cons _ r, e => by
    obtain ⟨v, h1, h2⟩ := vals_get' (i := i) r (by simpa using e)
    exact ⟨v, by simpa using h1, h2⟩
theorem call_minP (hc : X.calm = true) (hu : X.A.units + 64 < cLine) : CallR X (.builtin "min") (rMinP X.K PySem.W.dataLt) := by
  intro pins s σ H vs us Q I r h
  obtain ⟨a, xs, p, ps, rfl, hs, hd, hal, hdp, q⟩ := h
  obtain ⟨its, rv, hl, _⟩ := I.list hs
  rw [Vals.ref1 r]
  obtain ⟨as, hr⟩ := Dp.readsAll I _ _ _ hd rv
  have hn : its.toArray.size = ps.length + 1 := PySem.W.readsAll_len (vs := its.toArray) hr
  refine call_min_walkH (PySem.W.iter_listW (A := X.A.in1) (I.ok.hd hc) hl.isList fun s₂ e W st hfp hw hk => ?_)
  refine ⟨_, _, _, _, _, _, _, s.heap, _, rfl, W, st, hfp, by omega, hw, hk, PySem.W.cmpIn_lt (A := X.A.in1) (vs := its.toArray) hr hal (by show X.A.units + 1 + _ < _; omega), fun v s' hP m => ?_⟩
  obtain ⟨h', tk, rfl, hk'⟩ := PySem.W.moved_old e rfl m
  have e1 : its.toArray.size - 1 = ps.length := by omega
  rw [e1] at hP
  obtain ⟨x, hx, rx⟩ := vals_get' rv (by simpa using hP)
  exact ⟨x, H, I.kept hk', rx, q x hx⟩
theorem call_maxP (hc : X.calm = true) (hu : X.A.units + 64 < cLine) : CallR X (.builtin "max") (rMinP X.K fun a b => PySem.W.dataLt b a) := by
  intro pins s σ H vs us Q I r h
  obtain ⟨a, xs, p, ps, rfl, hs, hd, hal, hdp, q⟩ := h
  obtain ⟨its, rv, hl, _⟩ := I.list hs
  rw [Vals.ref1 r]
  obtain ⟨as, hr⟩ := Dp.readsAll I _ _ _ hd rv
  have hn : its.toArray.size = ps.length + 1 := PySem.W.readsAll_len (vs := its.toArray) hr
  refine call_max_walkH (PySem.W.iter_listW (A := X.A.in1) (I.ok.hd hc) hl.isList fun s₂ e W st hfp hw hk => ?_)
  refine ⟨_, _, _, _, _, _, _, s.heap, _, rfl, W, st, hfp, by omega, hw, hk, PySem.W.cmpIn_gt (A := X.A.in1) (vs := its.toArray) hr hal (by show X.A.units + 1 + _ < _; omega), fun v s' hP m => ?_⟩
  obtain ⟨h', tk, rfl, hk'⟩ := PySem.W.moved_old e rfl m
  have e1 : its.toArray.size - 1 = ps.length := by omega
  rw [e1] at hP
  obtain ⟨x, hx, rx⟩ := vals_get' rv (by simpa using hP)
  exact ⟨x, H, I.kept hk', rx, q x hx⟩
theorem best_D (f : PyData → PyData → Bool) (d : D) (ds : List D) : (d :: ds)[argBest (fun i j => f ((toPs (d :: ds)).getD i .none) ((toPs (d :: ds)).getD j .none)) ds.length]? = some (ds.foldl (fun a y => if f (toP y) (toP a) then y else a) d) := by
  have e : (fun i j => f ((toPs (d :: ds)).getD i .none) ((toPs (d :: ds)).getD j .none)) = fun i j => (fun x y => f (toP x) (toP y)) ((d :: ds).getD i .non) ((d :: ds).getD j .non) := by
    funext i j
    have h : ∀ k, (toPs (d :: ds)).getD k .none = toP ((d :: ds).getD k .non) := by
      intro k
      rw [toPs_map, List.getD_eq_getElem?_getD, List.getD_eq_getElem?_getD, List.getElem?_map]
      cases (d :: ds)[k]? <;> rfl
    rw [h i, h j]
  rw [e]
  obtain ⟨h1, h2⟩ := PySem.W.argBest_fold (fun x y => f (toP x) (toP y)) D.non d ds ds.length (Nat.le_refl _)
  rw [List.take_length] at h2
  rw [List.getD_eq_getElem?_getD] at h2
  cases hx : (d :: ds)[argBest (fun i j => (fun x y => f (toP x) (toP y)) ((d :: ds).getD i .non) ((d :: ds).getD j .non)) ds.length]? with
  | none =>
    rw [List.getElem?_eq_none_iff] at hx
    rw [List.length_cons] at hx
    exact absurd (Nat.lt_of_lt_of_le (Nat.lt_succ_of_le h1) hx) (Nat.lt_irrefl _)
  | some z => rw [hx] at h2; rw [← h2]; rfl
theorem minP_sem {f : PyData → PyData → Bool} {G H : Hp} {σ : L2.St} {xs : List V} {d : D} {ds : List D} {Q : VK} (s : Same G H) (r : RpA Γ X.K G xs [.lst (d :: ds)])
    (p : Post Γ W G H σ (Rp Γ X.K) Q (if (flats 20 (d :: ds) && alikes (d :: ds)) = true then .ok (ds.foldl (fun a y => if f (toP y) (toP a) then y else a) d) else .stuck)) : rMinP X.K f xs H Q := by
  obtain ⟨v, rfl, h⟩ := r.inv1
  obtain ⟨hf, p⟩ := Post.guard _ p
  rw [Bool.and_eq_true] at hf
  cases h with
  | lst ha ra =>
    have hd := (ra.mono s).dp hf.1
    have hal := alikes_all hf.2
    have hdp := (flats_shaped 20 _ hf.1).2
    rename_i l xs
    refine ⟨l, xs, toP d, toPs ds, rfl, .of (s _ _ ha), hd, hal, Nat.le_trans hdp (by decide), fun v hv => ?_⟩
    have e : (toPs ds).length = ds.length := by rw [toPs_map]; simp
    rw [e] at hv
    have b := best_D f d ds
    rw [toPs] at b
    obtain ⟨v', h1, h2⟩ := ra.get b
    have : v = v' := by
      have := hv.symm.trans h1
      exact Option.some.inj this
    subst this
    exact p.here s h2
theorem csMin : CaS Γ X.K W (rMinP X.K PySem.W.dataLt) minO := by
  intro G H σ xs ds Q s r p
  unfold minO at p
  split at p
  · exact minP_sem s r p
  · exact p.elim
theorem csMax : CaS Γ X.K W (rMinP X.K fun a b => PySem.W.dataLt b a) maxO := by
  intro G H σ xs ds Q s r p
  unfold maxO at p
  split at p
  · exact minP_sem (f := fun a b => PySem.W.dataLt b a) s r p
  · exact p.elim
/-! ### a, b = [..], e and a, b = e, [..], the list private -/
def parO (f1 : En → R (List D)) (f2 : En → R D) (k : List D → D → En → RS) (ρ : En) : RS := thenS (f1 ρ) ρ fun ds => thenS (f2 ρ) ρ fun d => k ds d ρ
def parP (f1 : En → R D) (f2 : En → R (List D)) (k : D → List D → En → RS) (ρ : En) : RS := thenS (f1 ρ) ρ fun d => thenS (f2 ρ) ρ fun ds => k d ds ρ
theorem ss_parOV (i k : Nat) {x y : Str} {px py pt : Pos} {kt k2 pt2} {fl : En → R (List D)} (C : Ct X W j) (ha : SF Γ X W a fl) (hb : SE Γ X W b fb) (hik : i ≠ k := by decide) (hi : X.N[i]? = some x := by rfl) (hk : X.N[k]? = some y := by rfl)
    (hx : X.env.scope.names.lookup x = some .local := by rfl) (hy : X.env.scope.names.lookup y = some .local := by rfl)
    (hw : swappedStores [.Tuple [.Name x px, .Name y py] kt pt] (.Tuple [a, b] k2 pt2) X.env = pure (some [x, y]) := by rfl)
    (hs : swapsWithSole [.Tuple [.Name x px, .Name y py] kt pt] (.Tuple [a, b] k2 pt2) pos.line X.env = pure false := by rfl)
    (hs1 : starEach [a, b] X.env = (false, eval a X.env) :: starEach [b] X.env := by rfl) (hs2 : starEach [b] X.env = (false, eval b X.env) :: starEach [] X.env := by rfl) :
    SS Γ X W (.Assign [.Tuple [.Name x px, .Name y py] kt pt] (.Tuple [a, b] k2 pt2) pos) (parO fl fb fun ds d ρ => .next ((ρ.set i (some (.own ds))).set k (some (.val d)))) := by
  obtain ⟨tb, pb, qb⟩ := hb.out
  refine PS.imp (ps_par C.calm C.nd hi hk hik hx hy (pa_cons ha (pa_cons pb pa_nil hs2) hs1) hw hs) fun E σ H hh => ?_
  obtain ⟨B, G, ρ, r, p⟩ := hh
  refine ⟨B, G, ρ, r, ?_⟩
  unfold parO at p
  cases hfl : fl ρ with
  | exc c => rw [hfl] at p; exact fun G1 H1 e1 => p G1 H1 σ e1.g (r.go e1)
  | stuck => rw [hfl] at p; exact p
  | ok ds =>
    rw [hfl] at p
    intro L G1 H1 acc n e1 g1 h1 ra
    have r1 := r.go e1
    have p' : PostS Γ X.K W B G1 E (thenS (fb ρ) ρ fun d => .next ((ρ.set i (some (.own ds))).set k (some (.val d)))) := PostS.up p e1.g
    refine qb r1 (PostS.use r1 p' fun G2 H2 v d e2 r2 rv p2 => ?_)
    obtain ⟨h2, g2⟩ := e2.k L _ h1 g1 fun _ z => nomatch z
    exact ⟨_, _, rfl, p2 _ _ _ (.refl _) ((r2.setOwn (r.ext.d L n) g2 h2 (ra.mono e2.g) (r.fresh n (e1.trans e2))).set rv)⟩
theorem ss_parVO (i k : Nat) {x y : Str} {px py pt : Pos} {kt k2 pt2} {fl : En → R (List D)} (C : Ct X W j) (ha : SE Γ X W a fa) (hb : SF Γ X W b fl) (hik : i ≠ k := by decide) (hi : X.N[i]? = some x := by rfl) (hk : X.N[k]? = some y := by rfl)
    (hx : X.env.scope.names.lookup x = some .local := by rfl) (hy : X.env.scope.names.lookup y = some .local := by rfl)
    (hw : swappedStores [.Tuple [.Name x px, .Name y py] kt pt] (.Tuple [a, b] k2 pt2) X.env = pure (some [x, y]) := by rfl)
    (hs : swapsWithSole [.Tuple [.Name x px, .Name y py] kt pt] (.Tuple [a, b] k2 pt2) pos.line X.env = pure false := by rfl)
    (hs1 : starEach [a, b] X.env = (false, eval a X.env) :: starEach [b] X.env := by rfl) (hs2 : starEach [b] X.env = (false, eval b X.env) :: starEach [] X.env := by rfl) :
    SS Γ X W (.Assign [.Tuple [.Name x px, .Name y py] kt pt] (.Tuple [a, b] k2 pt2) pos) (parP fa fl fun d ds ρ => .next ((ρ.set i (some (.val d))).set k (some (.own ds)))) := by
  obtain ⟨ta, pa, qa⟩ := ha.out
  refine PS.imp (ps_par C.calm C.nd hi hk hik hx hy (pa_cons pa (pa_cons hb pa_nil hs2) hs1) hw hs) fun E σ H hh => ?_
  obtain ⟨B, G, ρ, r, p⟩ := hh
  refine qa r (PostS.use r p fun G1 H1 v d e1 r1 rv p1 => ?_)
  refine ⟨B, G1, ρ, r1, ?_⟩
  cases hfl : fl ρ with
  | exc c => rw [hfl] at p1; exact fun G2 H2 e2 => p1 G2 H2 σ e2.g (r1.go e2)
  | stuck => rw [hfl] at p1; exact p1
  | ok ds =>
    rw [hfl] at p1
    intro L G2 H2 acc n e2 g2 h2 ra
    have r2 := (r1.go e2).set (i := i) (rv.mono e2.g)
    exact ⟨_, _, rfl, p1 _ _ _ e2.g (r2.setOwn (r1.ext.d L n) g2 h2 ra ((r1.set (i := i) rv).fresh n e2))⟩
theorem ss_setN (i : Nat) {x : Str} {pos' : Pos} (nd : X.N.Nodup) (he : SE Γ X W e fa) (hi : X.N[i]? = some x := by rfl) (hx : Loc X.env.scope x := by first | exact .inl rfl | exact .inr rfl) (hs : swapsWith e (some (.Name x pos')) pos.line X.env = pure false := by rfl)
    (hf : X.fn x = true ∨ X.env.scope.names.lookup x = some .local := by first | exact .inl rfl | exact .inr rfl | assumption) : SS Γ X W (.Assign [.Name x pos'] e pos) (fun ρ => setS i (fa ρ) ρ) := by
  obtain ⟨ta, pa, qa⟩ := he.out
  refine PS.imp (ps_set nd hi hx pa hs hf) fun E σ H ⟨B, G, ρ, r, p⟩ => ?_
  exact qa r (PostS.use r p fun G1 H1 v d _ r1 rv p1 => p1 _ _ _ (.refl _) (r1.set rv))
end
/-- a loop that only goes on, with what stands behind it -/
theorem forS_to {α : Type} (enc : α → D) {g : D → En → Option En} {fb : En → RS} {K : En → RS} {P : RS → Prop} (I : List α → En → Prop) (xs : List α) {ρ : En} (h0 : I [] ρ)
    (step : ∀ pre x ρ, x ∈ xs → I pre ρ → ∃ ρ1 ρ2, g (enc x) ρ = some ρ1 ∧ (fb ρ1 = .next ρ2 ∨ fb ρ1 = .cont ρ2) ∧ I (pre ++ [x]) ρ2) (fin : ∀ ρ', I xs ρ' → P (K ρ')) : P ((forS g fb (xs.map enc) ρ).thn K) := by
  obtain ⟨ρ', h1, h2⟩ := forS_inv enc (g := g) (fb := fb) I xs [] ρ h0 fun pre x post ρ _ i hx => step pre x ρ hx i
  rw [h1]
  exact fin ρ' h2
/-- a loop that returns at the first x with p x -/
theorem forS_find {α : Type} (enc : α → D) {g : D → En → Option En} {fb : En → RS} {K : En → RS} {P : RS → Prop} (I : En → Prop) (p : α → Bool) (out : α → D) : ∀ (xs : List α) {ρ : En}, I ρ →
    (∀ x ρ, x ∈ xs → I ρ → ∃ ρ1, g (enc x) ρ = some ρ1 ∧ ((p x = true ∧ fb ρ1 = .ret (out x)) ∨ (p x = false ∧ ∃ ρ2, (fb ρ1 = .next ρ2 ∨ fb ρ1 = .cont ρ2) ∧ I ρ2))) →
    (∀ x, xs.find? p = some x → P (.ret (out x))) → (xs.find? p = none → ∀ ρ', I ρ' → P (K ρ')) → P ((forS g fb (xs.map enc) ρ).thn K)
  | [], ρ, h0, _, _, h2 => h2 rfl ρ h0
  | x :: xs, ρ, h0, st, h1, h2 => by
    obtain ⟨ρ1, e1, q⟩ := st x ρ List.mem_cons_self h0
    rw [List.map_cons]
    unfold forS
    rw [e1]
    dsimp only
    rcases q with ⟨q1, q2⟩ | ⟨q1, ρ2, q2, q3⟩
    · rw [q2]
      exact h1 x (by rw [List.find?_cons_of_pos q1])
    · have ih := forS_find enc (g := g) (fb := fb) (K := K) (P := P) I p out xs (ρ := ρ2) q3 (fun y ρ hy => st y ρ (List.mem_cons_of_mem _ hy)) (fun y hy => h1 y (by rw [List.find?_cons_of_neg (by simp [q1])]; exact hy)) (fun hn => h2 (by rw [List.find?_cons_of_neg (by simp [q1])]; exact hn))
      rcases q2 with q2 | q2 <;> (rw [q2]; exact ih)
@[simp] theorem setS_exc (i c : Nat) (ρ : En) : setS i (.exc c) ρ = .exc c ρ := rfl
@[simp] theorem mkT_exc (c : Nat) : mkT (.exc c) = .exc c := rfl
@[simp] theorem mkL_exc (c : Nat) : mkL (.exc c) = .exc c := rfl
@[simp] theorem viewR_exc (c : Nat) : viewR (.exc c) = .exc c := rfl
theorem thn_to {x : RS} {ρ : En} {K : En → RS} {P : RS → Prop} (h : x = .next ρ) (k : P (K ρ)) : P (x.thn K) := by rw [h]; exact k
@[simp] theorem isD_non : isD .non .non = .ok (.bl true) := rfl
@[simp] theorem isD_int (i : Int) : isD (.int i) .non = .ok (.bl false) := rfl
@[simp] theorem isD_tup (xs : List D) : isD (.tup xs) .non = .ok (.bl false) := rfl
@[simp] theorem isD_lst (xs : List D) : isD (.lst xs) .non = .ok (.bl false) := rfl
@[simp] theorem isD_blN (b : Bool) : isD (.bl b) .non = .ok (.bl false) := rfl
@[simp] theorem isNotD_non : isNotD .non .non = .ok (.bl false) := rfl
@[simp] theorem isNotD_int (i : Int) : isNotD (.int i) .non = .ok (.bl true) := rfl
@[simp] theorem isNotD_tup (xs : List D) : isNotD (.tup xs) .non = .ok (.bl true) := rfl
@[simp] theorem isNotD_lst (xs : List D) : isNotD (.lst xs) .non = .ok (.bl true) := rfl
@[simp] theorem isNotD_blN (b : Bool) : isNotD (.bl b) .non = .ok (.bl true) := rfl
theorem nest {A : En → Prop} {B : En → En → Prop} {C : En → Prop} (h : ∃ ρ1, A ρ1 ∧ ∃ ρ2, B ρ1 ρ2 ∧ C ρ2) : ∃ ρ1 ρ2, A ρ1 ∧ B ρ1 ρ2 ∧ C ρ2 := let ⟨a, b, c, d, e⟩ := h; ⟨a, c, b, d, e⟩
theorem forS_in {α : Type} (enc : α → D) {g : D → En → Option En} {fb : En → RS} {C : En → Prop} (I : List α → En → Prop) (xs : List α) {ρ : En} (h0 : I [] ρ)
    (step : ∀ pre x ρ, x ∈ xs → I pre ρ → ∃ ρ1 ρ2, g (enc x) ρ = some ρ1 ∧ (fb ρ1 = .next ρ2 ∨ fb ρ1 = .cont ρ2) ∧ I (pre ++ [x]) ρ2) (fin : ∀ ρ', I xs ρ' → C ρ') : ∃ ρ2, (forS g fb (xs.map enc) ρ = .next ρ2 ∨ forS g fb (xs.map enc) ρ = .cont ρ2) ∧ C ρ2 := by
  obtain ⟨ρ', h1, h2⟩ := forS_inv enc (g := g) (fb := fb) I xs [] ρ h0 fun pre x post ρ _ i hx => step pre x ρ hx i
  exact ⟨ρ', .inl h1, fin ρ' h2⟩
theorem forS_pre {α : Type} (enc : α → D) {g : D → En → Option En} {fb : En → RS} (I : List α → En → Prop) (xs : List α) (st : ∀ pre x post ρ, pre ++ x :: post = xs → I pre ρ → ∃ ρ1 ρ2, g (enc x) ρ = some ρ1 ∧ (fb ρ1 = .next ρ2 ∨ fb ρ1 = .cont ρ2) ∧ I (pre ++ [x]) ρ2) :
    ∀ (post pre : List α) (ρ : En), pre ++ post = xs → I pre ρ → ∃ ρ', forS g fb (post.map enc) ρ = .next ρ' ∧ I xs ρ'
  | [], pre, ρ, e, h => ⟨ρ, rfl, by rw [List.append_nil] at e; rw [← e]; exact h⟩
  | x :: post, pre, ρ, e, h => by
    obtain ⟨ρ1, ρ2, h1, h2, h3⟩ := st pre x post ρ e h
    obtain ⟨ρ', q1, q2⟩ := forS_pre enc I xs st post (pre ++ [x]) ρ2 (by rw [← e, List.append_assoc]; rfl) h3
    refine ⟨ρ', ?_, q2⟩
    rw [List.map_cons]
    unfold forS
    rw [h1]
    dsimp only
    rcases h2 with h2 | h2 <;> (rw [h2]; exact q1)
/-- the same, the step told what went before and what follows -/
theorem forS_toP {α : Type} (enc : α → D) {g : D → En → Option En} {fb : En → RS} {K : En → RS} {P : RS → Prop} (I : List α → En → Prop) (xs : List α) {ρ : En} (h0 : I [] ρ)
    (step : ∀ pre x post ρ, pre ++ x :: post = xs → I pre ρ → ∃ ρ1 ρ2, g (enc x) ρ = some ρ1 ∧ (fb ρ1 = .next ρ2 ∨ fb ρ1 = .cont ρ2) ∧ I (pre ++ [x]) ρ2) (fin : ∀ ρ', I xs ρ' → P (K ρ')) : P ((forS g fb (xs.map enc) ρ).thn K) := by
  obtain ⟨ρ', h1, h2⟩ := forS_pre enc (g := g) (fb := fb) I xs step xs [] ρ rfl h0
  rw [h1]
  exact fin ρ' h2
end VL
end
section
set_option Elab.async false
set_option linter.all false
set_option maxRecDepth 100000
set_option maxHeartbeats 2000000
set_option autoImplicit false
namespace VL
open PySem PySem.Spec PyProof.Rows L2
/-! ### min(xs, key=len), xs a list of tuples -/
section
variable {prog : Program} {w : World} {A : Around} {E : Value → Shared → Prop} {s : Shared}
def Kp (s s' : Shared) : Prop := ∃ h' tk, s' = { s with heap := h', toks := tk } ∧ ∀ b o, s.heap.get? b = some o → h'.get? b = some o
def btL (lens : List Nat) (i j : Nat) : Bool := PySem.W.dataLt (.int (lens.getD i 0 : Nat)) (.int (lens.getD j 0 : Nat))
theorem min_len_raw {l : Addr} {its : List Value} {lens : List Nat} {Q : Value → Shared → Prop} (hh : A.handled = none) (hl : s.heap.IsList l its.toArray) (hn : 0 < its.length)
    (ht : ∀ (i : Nat) v, its[i]? = some v → ∃ (t : Addr) (items : Array Value), v = .ref t ∧ IsTup s.heap t items ∧ items.size = lens.getD i 0 ∧ items.size ≤ sizeLine) (hu : A.units + 2 < cLine)
    (h : ∀ v s', its[argBest (btL lens) (its.length - 1)]? = some v → Kp s s' → Q v s') : wpAny (model prog w) A (call (.builtin "min") [.ref l] [(Str.ofString "key", .builtin "len")]) Q E s := by
  refine call_min_walkKB (PySem.W.iter_listW (A := A.in1) hh hl fun s₂ e W st hfp hw hk => ?_)
  refine ⟨_, _, _, _, _, _, _, Kp s, fun i k _ => ∃ t, k = .int (lens.getD i 0 : Nat) t, btL lens, rfl, W, st, hfp, by simpa using hn, ⟨?_, ?_, ?_, ?_⟩, ⟨s₂.heap, s₂.toks, by rw [e], hk⟩, fun v s' hP hJ => h v s' (by simpa using hP) hJ⟩
  · rintro s1 s2 ⟨h', tk, rfl, q⟩ m
    refine ⟨s2.heap, s2.toks, ?_, fun b o eb => m.heap b o ?_ (q b o eb)⟩
    · obtain ⟨hp, g, d, tk, os⟩ := s2
      have h1 : g = s.gens := m.gens
      have h2 : d = s.drawn := m.drawn
      have h3 : os = s.os := m.os
      subst h1 h2 h3
      rfl
    · intro hb
      have hlt := Heap.lt_size eb
      rcases List.mem_cons.mp hb with rfl | hb
      · have h2 : s₂.heap.objs.size = s.heap.objs.size + 1 := by rw [e]; exact Heap.size_push _ _
        rw [h2] at hlt
        exact absurd (Nat.lt_of_succ_lt hlt) (Nat.lt_irrefl _)
      · exact absurd hlt ((List.mem_singleton.mp hb) ▸ Nat.lt_irrefl _)
  · exact fun _ _ _ _ h _ => h
  · intro i v s1 o Q' E' hi hP hJ hst hS hQ
    obtain ⟨t, items, rfl, hT, hs, hz⟩ := ht i v (by simpa using hP)
    obtain ⟨h', tk, rfl, q⟩ := hJ
    have hT' : IsTup h' t items := hT.keeps q
    have hz63 : (items.size : Int) < 2 ^ 63 := by
      have hn := line63
      omega
    refine PyProof.Rows.len_tuple (s := { s with heap := h', toks := tk }) hT' hz63 (hQ _ _ ⟨h', _, rfl, q⟩ hst hS ⟨_, by rw [hs]⟩ fun _ _ h => h)
  · intro i j ki kj s1 Q' E' _ hi hj hq
    obtain ⟨t1, rfl⟩ := hi
    obtain ⟨t2, rfl⟩ := hj
    exact PySem.W.rcLt_alike _ _ A.in1 s1 _ _ [] [] (.int _ _) (.int _ _) rfl (by simp) (by show A.units + 1 + 0 < _; omega) prog w E' Q' hq
end
/-! ### loops, step by step -/
theorem forS_next {g : D → En → Option En} {fb : En → RS} {d : D} {ds : List D} {ρ ρ1 ρ2 : En} (h1 : g d ρ = some ρ1) (h2 : fb ρ1 = .next ρ2 ∨ fb ρ1 = .cont ρ2) : forS g fb (d :: ds) ρ = forS g fb ds ρ2 := by
  rw [forS, h1]
  rcases h2 with h2 | h2 <;> simp [h2]
theorem forS_ret {g : D → En → Option En} {fb : En → RS} {d r : D} {ds : List D} {ρ ρ1 : En} (h1 : g d ρ = some ρ1) (h2 : fb ρ1 = .ret r) : forS g fb (d :: ds) ρ = .ret r := by
  rw [forS, h1]
  simp [h2]
theorem forS_brk {g : D → En → Option En} {fb : En → RS} {d : D} {ds : List D} {ρ ρ1 ρ2 : En} (h1 : g d ρ = some ρ1) (h2 : fb ρ1 = .brk ρ2) : forS g fb (d :: ds) ρ = .next ρ2 := by
  rw [forS, h1]
  simp [h2]
end VL
end
section
set_option Elab.async false
set_option linter.all false
set_option maxRecDepth 100000
set_option maxHeartbeats 2000000
set_option autoImplicit false
namespace VL
open PySem PySem.Spec PyProof.Rows L2
variable [TabN]
section
variable {Γ : Gam} {X : Cx} {W : WX} {a b c e : Expr} {es : List Expr} {fa fb fc : En → R D} {pos p p2 : Pos} {j : Nat}
/-! ### f(e, key=g), f and g built-in -/
def CallKy (X : Cx) (id id2 : String) (r : V → Hp → VK → Prop) : Prop :=
  ∀ (pins : List (Addr × Obj)) (s : Shared) (σ : L2.St) (H : Hp) (x : V) (u : Value) (Q : VK), Inv X pins σ H s → RelV x u → r x H Q → wpAny (model X.prog X.w) X.A (call (.builtin id) [u] [(Str.ofString "key", .builtin id2)]) (EP X pins σ Q) X.xe s
def KyS (Γ : Gam) (K : PySem.W.Frag) (W : WX) (r : V → Hp → VK → Prop) (g : D → R D) : Prop :=
  ∀ {G H : Hp} {σ : L2.St} {x : V} {d : D} {Q : VK}, Same G H → Rp Γ K G x d → Post Γ W G H σ (Rp Γ K) Q (g d) → r x H Q
theorem se_callKy {x y : Str} {id id2 : String} {r : V → Hp → VK → Prop} {g : D → R D} {kp : Pos} (hc : CallKy X id id2 r) (hgs : KyS Γ X.K W r g) (ha : SE Γ X W e fa) (hg : Gl X x) (hm : X.mg x = none) (hv : bootBuiltins x = some (.builtin id)) (hg2 : Gl X y) (hm2 : X.mg y = none) (hv2 : bootBuiltins y = some (.builtin id2))
    (hn : x ≠ "__name__" := by decide) (hdb : (x == ("__debug__" : Str)) = false := by decide) (hn2 : y ≠ "__name__" := by decide) (hdb2 : (y == ("__debug__" : Str)) = false := by decide)
    (he1 : starEach [e] X.env = (false, eval e X.env) :: starEach [] X.env := by rfl)
    (he : backTo pos (starEach [e] X.env) = (false, eval e X.env) :: backTo pos (starEach [] X.env) := by rfl) (hpl : (backTo pos (starEach [e] X.env)).any (·.1) = false := by rfl)
    (hall : (backToKw pos (keywordEach [⟨some (Str.ofString "key"), .Name y p2, kp⟩] X.env)).all (·.1.isSome) = true := by rfl) (hnone : (backToKw pos (keywordEach [⟨some (Str.ofString "key"), .Name y p2, kp⟩] X.env)).any (·.1.isNone) = false := by rfl)
    (hks : (backToKw pos (keywordEach [⟨some (Str.ofString "key"), .Name y p2, kp⟩] X.env)).filterMap (·.1) = [Str.ofString "key"] := by rfl) :
    SE Γ X W (.Call (.Name x p) [e] [⟨some (Str.ofString "key"), .Name y p2, kp⟩] pos) (fun ρ => (fa ρ).bind g) := by
  obtain ⟨ta, pa, qa⟩ := ha.out
  refine .mk ⟨fun σ H Q => ta σ H fun x H1 => r x H1 Q, ⟨fun pins s σ H Q I h => ?_⟩, fun {B G H σ ρ Q} r p => qa r (p.bind fun G1 H1 v d e1 r1 p1 => hgs e1.s r1 p1)⟩
  refine wpAny_Call_Name_kw (ld_blt I hg hm hv ?_ hn hdb)
  refine PyProof.Rows.callWith_kw (thn ((pa_cons pa pa_nil he1).run pos pins s σ H (fun vs H1 => match vs with | [x] => r x H1 Q | _ => False) I h) fun us s1 hh => ?_) he hpl hall hnone
  obtain ⟨vs, H1, I1, r1, q1⟩ := hh
  refine PyProof.Rows.kws_cons (ld_blt I1 hg2 hm2 hv2 (PyProof.Rows.kws_nil ?_) hn2 hdb2)
  rw [hks]
  match vs, r1, q1 with
  | [x], .cons r1 .nil, q1 => exact hc pins s1 σ H1 x _ Q I1 r1 q1
/-! ### min(xs, key=len) -/
def tupLen : D → Nat
  | .tup ds => ds.length
  | _ => 0
def isTupB : D → Bool
  | .tup _ => true
  | _ => false
/-- the first of the shortest -/
def minLenO : D → R D
  | .lst (d :: ds) => if (d :: ds).all isTupB && ((d :: ds).all fun x => decide (tupLen x ≤ 100000)) then .ok (ds.foldl (fun a y => if decide (tupLen y < tupLen a) then y else a) d) else .stuck
  | _ => .stuck
def rMinLen (K : PySem.W.Frag) : V → Hp → VK → Prop := fun v H Q => ∃ (a : Addr) (xs : List V) (lens : List Nat), v = .ref a ∧ SqL K H a xs ∧ 0 < xs.length ∧ (∀ (i : Nat) x, xs[i]? = some x → ∃ t ys, x = .ref t ∧ SqT K H t ys ∧ ys.length = lens.getD i 0 ∧ ys.length ≤ 100000) ∧
  ∀ x, xs[argBest (btL lens) (xs.length - 1)]? = some x → Q x H
theorem ky_minLen (hc : X.calm = true) (hu : X.A.units + 64 < cLine) : CallKy X "min" "len" (rMinLen X.K) := by
  intro pins s σ H v u Q I r h
  obtain ⟨a, xs, lens, rfl, hs, hn, ht, q⟩ := h
  obtain ⟨its, rv, hl, _⟩ := I.list hs
  cases r
  have hlen := rv.length
  refine min_len_raw (its := its) (lens := lens) (I.ok.hd hc) hl.isList (by omega) (fun i v hv => ?_) (by omega) fun v s' hP hK => ?_
  · obtain ⟨x, hx, rx⟩ := vals_get' rv hv
    obtain ⟨t, ys, rfl, hT, h1, h2⟩ := ht i x hx
    cases rx
    obtain ⟨its2, r2, hI, hz⟩ := I.tuple hT
    refine ⟨t, its2.toArray, rfl, hI, ?_, ?_⟩
    · rw [List.size_toArray, ← r2.length]; exact h1
    · rw [List.size_toArray, ← r2.length]; exact hz
  · rw [← hlen] at hP
    obtain ⟨x, hx, rx⟩ := vals_get' rv hP
    obtain ⟨h', tk, rfl, k⟩ := hK
    exact ⟨x, H, I.kept k, rx, q x hx⟩
theorem btL_D (ds : List D) (i j : Nat) : btL (ds.map tupLen) i j = decide (tupLen (ds.getD i .non) < tupLen (ds.getD j .non)) := by
  unfold btL
  have e : ∀ k : Nat, (ds.map tupLen).getD k 0 = tupLen (ds.getD k .non) := fun k => by
    rw [List.getD_eq_getElem?_getD, List.getD_eq_getElem?_getD, List.getElem?_map]
    cases ds[k]? <;> rfl
  rw [e, e]
  have := PySem.W.dataLt_int
  simp [this]
theorem best_gen (f : D → D → Bool) (d : D) (ds : List D) : (d :: ds)[argBest (fun i j => f ((d :: ds).getD i .non) ((d :: ds).getD j .non)) ds.length]? = some (ds.foldl (fun a y => if f y a then y else a) d) := by
  obtain ⟨h1, h2⟩ := PySem.W.argBest_fold f D.non d ds ds.length (Nat.le_refl _)
  rw [List.take_length] at h2
  rw [List.getD_eq_getElem?_getD] at h2
  cases hx : (d :: ds)[argBest (fun i j => f ((d :: ds).getD i .non) ((d :: ds).getD j .non)) ds.length]? with
  | none =>
    rw [List.getElem?_eq_none_iff] at hx
    rw [List.length_cons] at hx
    exact absurd (Nat.lt_of_lt_of_le (Nat.lt_succ_of_le h1) hx) (Nat.lt_irrefl _)
  | some z => rw [hx] at h2; rw [← h2]; rfl
theorem ksMinLen : KyS Γ X.K W (rMinLen X.K) minLenO := by
  intro G H σ x d Q s r p
  unfold minLenO at p
  split at p
  · rename_i d ds
    obtain ⟨hf, p⟩ := Post.guard _ p
    rw [Bool.and_eq_true, List.all_eq_true, List.all_eq_true] at hf
    cases r with
    | lst ha ra =>
      rename_i l xs
      have hl := ra.length
      refine ⟨l, xs, (d :: ds).map tupLen, rfl, .of (s _ _ ha), by rw [hl]; simp, fun i x hx => ?_, fun x hx => ?_⟩
      · obtain ⟨y, h1, h2⟩ := ra.get' hx
        have hy := List.mem_of_getElem? h1
        have t1 := hf.1 y hy
        have t2 := of_decide_eq_true (hf.2 y hy)
        cases h2 with
        | tup hT rT =>
          refine ⟨_, _, rfl, s.seqT hT, ?_, ?_⟩
          · rw [rT.length, List.getD_eq_getElem?_getD, List.getElem?_map, h1]; rfl
          · rw [rT.length]; exact t2
        | _ => simp [isTupB] at t1
      · have e : btL ((d :: ds).map tupLen) = fun i j => (fun x y => decide (tupLen x < tupLen y)) ((d :: ds).getD i .non) ((d :: ds).getD j .non) := by
          funext i j; exact btL_D _ i j
        have hn : xs.length - 1 = ds.length := by rw [hl]; simp
        rw [e, hn] at hx
        obtain ⟨v', h1, h2⟩ := ra.get (best_gen (fun x y => decide (tupLen x < tupLen y)) d ds)
        have : x = v' := Option.some.inj (hx.symm.trans h1)
        subst this
        exact p.here s h2
  · exact p.elim
/-! ### sorted(xs), xs a list of PySem.W.alike data -/
def isNeTup : D → Bool
  | .tup (_ :: _) => true
  | _ => false
def isOrdO : D → Bool
  | .bl _ => true
  | .int _ => true
  | .str _ => true
  | .lst _ => true
  | _ => false
def sortD (ds : List D) : List D := ds.mergeSort (PySem.W.dataLe false toP)
def sortedO : List D → R D
  | [.lst ds] => if flats 20 ds && alikes ds && (ds.all isNeTup || ds.all isOrdO) && decide (ds.length ≤ 100000) then .ok (.lst (sortD ds)) else .stuck
  | _ => .stuck
theorem sortable_D {ds : List D} (h : (ds.all isNeTup || ds.all isOrdO) = true) : PySem.W.Sortable (toPs ds) := by
  rw [toPs_map]
  rw [Bool.or_eq_true, List.all_eq_true, List.all_eq_true] at h
  rcases h with h | h
  · refine .inl fun d hd => ?_
    obtain ⟨x, hx, rfl⟩ := List.mem_map.mp hd
    have := h x hx
    cases x with
    | tup xs =>
      cases xs with
      | nil => simp [isNeTup] at this
      | cons y ys => exact ⟨_, _, by rw [toP, toPs]⟩
    | _ => simp [isNeTup] at this
  · refine .inr fun d hd => ?_
    obtain ⟨x, hx, rfl⟩ := List.mem_map.mp hd
    have := h x hx
    cases x <;> simp [isOrdO] at this <;> simp [toP]
def rSorted (K : PySem.W.Frag) : List V → Hp → VK → Prop := fun vs H Q => ∃ (a : Addr) (bs : List (V × D)), vs = [V.ref a] ∧ SqL K H a (bs.map (·.1)) ∧ (∀ b ∈ bs, Dp K H b.1 (toP b.2)) ∧ PySem.W.AllAlike (bs.map fun b => toP b.2) ∧ PySem.W.Sortable (bs.map fun b => toP b.2) ∧ (∀ b ∈ bs, (toP b.2).depth ≤ 60) ∧ bs.length ≤ 100000 ∧
  ∀ q, H q = none → Q (.ref q) (upd H q (.lst ((bs.mergeSort (PySem.W.dataLe false fun b => toP b.2)).map (·.1))))
theorem vals_each : ∀ {bs : List (V × D)} {us : List Value}, Vals (bs.map (·.1)) us → PySem.W.EachIs (fun u (b : V × D) => RelV b.1 u) us bs
  | [], _, .nil => .nil
  | _ :: _, _, .cons h r => .cons h (vals_each r)
theorem each_vals : ∀ {bs : List (V × D)} {us : List Value}, PySem.W.EachIs (fun u (b : V × D) => RelV b.1 u) us bs → Vals (bs.map (·.1)) us
  | _, _, .nil => .nil
  | _, _, .cons h r => .cons h (each_vals r)
theorem each_reads {pins : List (Addr × Obj)} {s : Shared} {σ : L2.St} {H : Hp} (I : Inv X pins σ H s) : ∀ {bs : List (V × D)} {us : List Value}, Vals (bs.map (·.1)) us → (∀ b ∈ bs, Dp X.K H b.1 (toP b.2)) → PySem.W.EachIs (fun u (b : V × D) => ∃ as, Reads s.heap u (toP b.2) as) us bs
  | [], _, .nil, _ => .nil
  | b :: bs, _, .cons h r, q => .cons (Dp.reads I _ _ _ (q b List.mem_cons_self) h) (each_reads I r fun x hx => q x (List.mem_cons_of_mem _ hx))
theorem call_sorted (hu : X.A.units + 64 < cLine) : CallR X (.builtin "sorted") (rSorted X.K) := by
  intro pins s σ H vs us Q I r h
  obtain ⟨a, bs, rfl, hs, hd, hal, hsr, hdp, hlen, q⟩ := h
  obtain ⟨its, rv, hl, _⟩ := I.list hs
  rw [Vals.ref1 r]
  refine PySem.W.sorted_data (enc := fun b : V × D => toP b.2) hl.isList (vals_each rv) (each_reads I rv hd) hal hsr (line_of hlen) (fun b hb => by have := hdp b hb; omega) fun out ho he => ?_
  have hv := each_vals he
  obtain ⟨n, new⟩ := sortedAll_at s.heap its out.toArray
  refine ⟨.ref _, _, I.laid (t' := s.toks) (fun b o hb => sortedAll_old hb) (Nat.le_succ _) ?_, rfl, q _ (I.hok.fresh (Nat.le_succ _))⟩
  refine ⟨?_, out, n, hv, new⟩
  rw [List.length_map, List.length_mergeSort]
  exact line_of hlen
theorem RpA.pairs {K : PySem.W.Frag} {H : Hp} : ∀ {vs : List V} {ds : List D}, RpA Γ K H vs ds → (vs.zip ds).map (·.1) = vs ∧ (vs.zip ds).map (·.2) = ds ∧ ∀ b ∈ vs.zip ds, Rp Γ K H b.1 b.2
  | _, _, .nil => ⟨rfl, rfl, fun _ h => by cases h⟩
  | _, _, .cons h r => by
    obtain ⟨h1, h2, h3⟩ := RpA.pairs r
    refine ⟨by simp [h1], by simp [h2], fun b hb => ?_⟩
    rw [List.zip_cons_cons] at hb
    rcases List.mem_cons.mp hb with rfl | hb
    · exact h
    · exact h3 b hb
theorem RpA.of_pairs {K : PySem.W.Frag} {H : Hp} : ∀ {bs : List (V × D)}, (∀ b ∈ bs, Rp Γ K H b.1 b.2) → RpA Γ K H (bs.map (·.1)) (bs.map (·.2))
  | [], _ => .nil
  | b :: bs, h => .cons (h b List.mem_cons_self) (RpA.of_pairs fun x hx => h x (List.mem_cons_of_mem _ hx))
theorem flat_mem {n : Nat} : ∀ {ds : List D}, flats n ds = true → ∀ d ∈ ds, flat n d = true
  | [], _, _, h => by cases h
  | e :: ds, f, d, h => by
    have f' := (show _ ∧ _ by simpa [flats] using f)
    rcases List.mem_cons.mp h with rfl | h
    · exact f'.1
    · exact flat_mem f'.2 d h
theorem sort_pairs (bs : List (V × D)) : (bs.mergeSort (PySem.W.dataLe false fun b => toP b.2)).map (·.2) = sortD (bs.map (·.2)) := by
  unfold sortD
  exact List.map_mergeSort fun a _ b _ => rfl
theorem csSorted : CaS Γ X.K W (rSorted X.K) sortedO := by
  intro G H σ xs ds Q s r p
  unfold sortedO at p
  split at p
  · rename_i ds
    obtain ⟨v, rfl, h⟩ := r.inv1
    obtain ⟨hf, p⟩ := Post.guard _ p
    simp only [Bool.and_eq_true] at hf
    obtain ⟨⟨⟨f1, f2⟩, f3⟩, f4⟩ := hf
    cases h with
    | lst ha ra =>
      rename_i l vs
      obtain ⟨z1, z2, z3⟩ := ra.pairs
      have e : (vs.zip ds).map (fun b => toP b.2) = toPs ds := by
        have z := congrArg (List.map toP) z2
        rw [List.map_map] at z
        rw [toPs_map]
        exact z
      have hal := alikes_all f2
      have hd : ∀ b ∈ vs.zip ds, flat 20 b.2 = true := fun b hb => flat_mem f1 b.2 (by rw [← z2]; exact List.mem_map.mpr ⟨b, hb, rfl⟩)
      refine ⟨l, vs.zip ds, rfl, by rw [z1]; exact .of (s _ _ ha), fun b hb => ((z3 b hb).mono s).dp (hd b hb), by rw [e]; exact hal.1, by rw [e]; exact sortable_D f3, fun b hb => ?_, ?_, fun q hq => ?_⟩
      · have := (flat_shaped 20 b.2 (hd b hb)).2
        omega
      · rw [List.length_zip]
        have := of_decide_eq_true f4
        omega
      · have rr := RpA.of_pairs (Γ := Γ) (K := X.K) (H := G) (bs := (vs.zip ds).mergeSort (PySem.W.dataLe false fun b => toP b.2)) fun b hb => z3 b (List.mem_mergeSort.mp hb)
        rw [sort_pairs, z2] at rr
        exact p _ _ _ (.new s hq) (.lst upd_same (rr.mono (same_upd (s.none hq))))
  · exact p.elim
end
end VL
end
section
set_option Elab.async false
set_option linter.all false
set_option maxRecDepth 100000
set_option maxHeartbeats 2000000
set_option autoImplicit false
namespace VL
open PySem PySem.Spec PyProof.Rows L2
variable [TabN]
/-! ### sum of a tuple of intsD -/
section
variable {prog : Program} {w : World} {A : Around} {E : Value → Shared → Prop} {s : Shared}
theorem abs_sum (ns : List Int) (B : Nat) (hb : ∀ n ∈ ns, n.natAbs ≤ B) : ns.sum.natAbs ≤ ns.length * B := by
  induction ns with
  | nil => simp
  | cons n ns ih =>
    have h1 := hb n List.mem_cons_self
    have h2 := ih fun x hx => hb x (List.mem_cons_of_mem _ hx)
    rw [List.sum_cons, List.length_cons, Nat.succ_mul]
    omega
theorem sum_tup_raw {t : Addr} {its : List Value} {ns : List Int} {Q : Value → Shared → Prop} (hh : A.handled = none) (hT : s.heap.IsTuple t its.toArray) (hi : Vals (ns.map V.int) its) (hb : ∀ n ∈ ns, n.natAbs ≤ 1000) (hl : ns.length ≤ 1000)
    (h : ∀ h' tk t', (∀ b o, s.heap.get? b = some o → h'.get? b = some o) → Q (.int ns.sum t') { s with heap := h', toks := tk }) : wpAny (model prog w) A (call (.builtin "sum") [.ref t]) Q E s := by
  have hlen : its.length = ns.length := by rw [← hi.length]; simp
  have hlt : t < s.heap.objs.size := by
    obtain ⟨o, ho, _⟩ := hT
    exact Heap.lt_size ho
  refine call_sum_walk (wpAny_pyIter_tuple hT ?_)
  refine ⟨s.heap.objs.size, _, _, _, _, _, fun i => ns.getD i 0, rfl, Walks.tuple (A := A.in1) hh _ t (Nat.ne_of_lt hlt) its.toArray, ⟨⟨_, Heap.get?_push_size _ rfl, rfl, rfl⟩, ?_⟩, fun b hb => ?_, fun i v hv => ?_, fun j hj => ?_, fun h' tk t' hk => ?_⟩
  · obtain ⟨o, ho, r⟩ := hT
    exact ⟨o, Heap.get?_push_of_some _ ho, r⟩
  · show b < (s.heap.push _).objs.size
    rw [Heap.size_push]
    simp at hb
    rcases hb with rfl | rfl
    · exact Nat.lt_succ_self _
    · exact Nat.lt_succ_of_lt hlt
  · obtain ⟨x, hx, rx⟩ := vals_get' hi (by simpa using hv)
    rw [List.getElem?_map] at hx
    cases hn : ns[i]? with
    | none => rw [hn] at hx; cases hx
    | some n =>
      rw [hn] at hx
      cases hx
      obtain ⟨t', rfl⟩ := rx
      exact ⟨t', by show _ = Value.int (ns.getD i 0) t'; rw [List.getD_eq_getElem?_getD, hn]; rfl⟩
  · rw [preSum_getD]
    have h1 := abs_sum (ns.take (j + 1)) 1000 fun n hn => hb n (List.mem_of_mem_take hn)
    have h2 : (ns.take (j + 1)).length * 1000 ≤ 1000 * 1000 := Nat.mul_le_mul_right _ (by rw [List.length_take]; omega)
    have h3 : (ns.getD j 0).natAbs ≤ 1000 := by
      rw [List.getD_eq_getElem?_getD]
      cases hn : ns[j]? with
      | none => simp
      | some n => exact hb n (List.mem_of_getElem? hn)
    unfold InLong
    show (_ ≤ ns.getD j 0 ∧ ns.getD j 0 < _) ∧ _
    refine ⟨⟨?_, ?_⟩, ?_, ?_⟩ <;> omega
  · have hs : its.toArray.size = ns.length := by rw [List.size_toArray, hlen]
    rw [hs, preSum_getD, List.take_length]
    refine h h' tk t' fun b o hb => hk b o ?_ (Heap.get?_push_of_some _ hb)
    intro hm
    have := Heap.lt_size hb
    rw [List.mem_singleton.mp hm] at this
    exact absurd this (Nat.lt_irrefl _)
end
section
variable {Γ : Gam} {X : Cx} {W : WX} {a b c e : Expr} {es : List Expr} {fa fb fc : En → R D} {pos p p2 : Pos} {j : Nat}
def intsD : List D → Option (List Int)
  | [] => some []
  | .int i :: ds => (intsD ds).map (i :: ·)
  | _ => none
theorem ints_V {K : PySem.W.Frag} {H : Hp} : ∀ {vs : List V} {ds : List D} {ns : List Int}, RpA Γ K H vs ds → intsD ds = some ns → vs = ns.map V.int
  | _, _, _, .nil, h => by cases h; rfl
  | _, _, ns, .cons h r, e => by
    cases h <;> first | (cases e; done) | skip
    rename_i vs ds i
    have e' : (intsD ds).map (i :: ·) = some ns := e
    cases hb : intsD ds with
    | none => rw [hb] at e'; cases e'
    | some cs =>
      rw [hb] at e'
      cases e'
      rw [ints_V r hb]
      rfl
def okInts (ns : List Int) : Bool := (ns.all fun n => decide (n.natAbs ≤ 1000)) && decide (ns.length ≤ 1000)
def sumO : List D → R D
  | [.tup ds] => (match intsD ds with | some ns => if okInts ns then .ok (.int ns.sum) else .stuck | none => .stuck)
  | _ => .stuck
def rSumT (K : PySem.W.Frag) : List V → Hp → VK → Prop := fun vs H Q => ∃ (a : Addr) (ns : List Int), vs = [V.ref a] ∧ SqT K H a (ns.map V.int) ∧ okInts ns = true ∧ Q (.int ns.sum) H
theorem okInts_out {ns : List Int} (h : okInts ns = true) : (∀ n ∈ ns, n.natAbs ≤ 1000) ∧ ns.length ≤ 1000 := by
  unfold okInts at h
  rw [Bool.and_eq_true, List.all_eq_true] at h
  exact ⟨fun n hn => of_decide_eq_true (h.1 n hn), of_decide_eq_true h.2⟩
theorem call_sumT (hc : X.calm = true) : CallR X (.builtin "sum") (rSumT X.K) := by
  intro pins s σ H vs us Q I r h
  obtain ⟨a, ns, rfl, hs, ok, q⟩ := h
  obtain ⟨its, rv, hl, _⟩ := I.tuple hs
  obtain ⟨o1, o2⟩ := okInts_out ok
  rw [Vals.ref1 r]
  exact sum_tup_raw (I.ok.hd hc) hl rv o1 o2 fun h' tk t' hk => ⟨.int _, H, I.kept hk, ⟨_, rfl⟩, q⟩
theorem csSum : CaS Γ X.K W (rSumT X.K) sumO := by
  intro G H σ xs ds Q s r p
  unfold sumO at p
  split at p
  · rename_i ds
    obtain ⟨v, rfl, h⟩ := r.inv1
    cases h with
    | tup ha ra =>
      cases hb : intsD ds with
      | none => rw [hb] at p; exact p.elim
      | some ns =>
        rw [hb] at p
        dsimp only at p
        obtain ⟨ok, p⟩ := Post.guard _ p
        have e := ints_V ra hb
        subst e
        exact ⟨_, ns, rfl, s.seqT ha, ok, p.here s (.int _)⟩
  · exact p.elim
/-! ### sorted(xs, key=sum), xs a list of tuples of intsD -/
def rowsI : List D → Option (List (List Int))
  | [] => some []
  | .tup ds :: rs => (match intsD ds, rowsI rs with | some ns, some nss => some (ns :: nss) | _, _ => none)
  | _ => none
def sumOf : D → Int
  | .tup ds => ((intsD ds).getD []).sum
  | _ => 0
def sortSumO : D → R D
  | .lst ds => if (ds.all fun d => match d with | .tup es => (match intsD es with | some ns => okInts ns | none => false) | _ => false) && decide (ds.length ≤ 100000) then .ok (.lst (ds.mergeSort (PySem.W.dataLe false fun d => .int (sumOf d)))) else .stuck
  | _ => .stuck
def rSortSum (K : PySem.W.Frag) : V → Hp → VK → Prop := fun v H Q => ∃ (a : Addr) (bs : List (V × D)), v = V.ref a ∧ SqL K H a (bs.map (·.1)) ∧ (∀ b ∈ bs, ∃ t ns, b.1 = .ref t ∧ SqT K H t (ns.map V.int) ∧ okInts ns = true ∧ sumOf b.2 = ns.sum) ∧ bs.length ≤ 100000 ∧
  ∀ q, H q = none → Q (.ref q) (upd H q (.lst ((bs.mergeSort (PySem.W.dataLe false fun b => .int (sumOf b.2))).map (·.1))))
theorem ky_sortSum (hc : X.calm = true) (hu : X.A.units + 64 < cLine) : CallKy X "sorted" "sum" (rSortSum X.K) := by
  intro pins s σ H v u Q I r h
  obtain ⟨a, bs, rfl, hs, hd, hlen, q⟩ := h
  obtain ⟨its, rv, hl, _⟩ := I.list hs
  cases r
  have key : PySem.W.EachIs (fun u (b : V × D) => RelV b.1 u) its bs := vals_each rv
  refine PySem.W.sorted_key_data (b := false) (fun b : V × D => .int (sumOf b.2)) hl.isList key ?_ ?_ (line_of hlen) (fun b hb => ?_) (PyProof.Rows.ksk_s1 _ _) (fun x => ?_) (fun x => PyProof.Rows.ksk_t4 "sum" x) (fun u b hR hb h tk kp => ?_) fun out c h' tk kp fr new ho he => ?_
  · exact PySem.W.AllAlike.of fun _ _ => rfl
  · exact PySem.W.Sortable.others fun _ => ⟨fun z => (nomatch z), fun _ z => (nomatch z)⟩
  · have : (PyData.int (sumOf b.2)).depth = 0 := rfl
    omega
  · exact PyProof.Rows.ksk_l1 _ _
  · obtain ⟨t, ns, e1, hT, ok, hsum⟩ := hd b hb
    rw [e1] at hR
    cases hR
    obtain ⟨its2, r2, hI, hz⟩ := I.tuple hT
    obtain ⟨o1, o2⟩ := okInts_out ok
    have hI' : (h : Heap).IsTuple t its2.toArray := by
      obtain ⟨o, ho, rr⟩ := hI
      exact ⟨o, kp _ _ ho, rr⟩
    refine sum_tup_raw (s := { s with heap := h, toks := tk }) (A := X.A.in1.in1) (I.ok.hd hc) hI' r2 o1 o2 fun h2 tk2 t2 hk => ⟨h2, tk2, rfl, hk, ?_⟩
    rw [hsum]
    exact .int _ _
  · have hv := each_vals he
    refine ⟨.ref _, _, I.laid (t' := tk) kp (Nat.le_succ _) ?_, rfl, q _ (I.hok.fresh (Nat.le_succ _))⟩
    refine ⟨?_, out, c, hv, new⟩
    rw [List.length_map, List.length_mergeSort]
    exact line_of hlen
theorem ksSortSum : KyS Γ X.K W (rSortSum X.K) sortSumO := by
  intro G H σ x d Q s r p
  unfold sortSumO at p
  split at p
  · rename_i ds
    obtain ⟨hf, p⟩ := Post.guard _ p
    rw [Bool.and_eq_true, List.all_eq_true] at hf
    cases r with
    | lst ha ra =>
      rename_i l vs
      obtain ⟨z1, z2, z3⟩ := ra.pairs
      refine ⟨l, vs.zip ds, rfl, by rw [z1]; exact .of (s _ _ ha), fun b hb => ?_, ?_, fun q hq => ?_⟩
      · have hm : b.2 ∈ ds := by rw [← z2]; exact List.mem_map.mpr ⟨b, hb, rfl⟩
        have h1 := hf.1 b.2 hm
        have h2 := z3 b hb
        obtain ⟨v, d⟩ := b
        dsimp only at h1 h2 ⊢
        cases h2 with
        | tup hT rT =>
          rename_i t ys es
          dsimp only at h1
          cases hi : intsD es with
          | none => rw [hi] at h1; cases h1
          | some ns =>
            rw [hi] at h1
            have e := ints_V rT hi
            subst e
            exact ⟨_, ns, rfl, s.seqT hT, h1, by show ((intsD es).getD []).sum = _; rw [hi]; rfl⟩
        | _ => cases h1
      · rw [List.length_zip]
        have := of_decide_eq_true hf.2
        omega
      · have rr := RpA.of_pairs (Γ := Γ) (K := X.K) (H := G) (bs := (vs.zip ds).mergeSort (PySem.W.dataLe false fun b => .int (sumOf b.2))) fun b hb => z3 b (List.mem_mergeSort.mp hb)
        have e : ((vs.zip ds).mergeSort (PySem.W.dataLe false fun b => .int (sumOf b.2))).map (·.2) = ((vs.zip ds).map (·.2)).mergeSort (PySem.W.dataLe false fun d => .int (sumOf d)) := List.map_mergeSort fun a _ b _ => rfl
        rw [e, z2] at rr
        exact p _ _ _ (.new s hq) (.lst upd_same (rr.mono (same_upd (s.none hq))))
  · exact p.elim
end
end VL
end
section
set_option Elab.async false
set_option linter.all false
set_option maxRecDepth 100000
set_option maxHeartbeats 2000000
set_option autoImplicit false
namespace VL
open PySem PySem.Spec PyProof.Rows L2
variable [TabN]
section
variable {Γ : Gam} {X : Cx} {W : WX} {a b c e : Expr} {es : List Expr} {fa fb fc : En → R D} {pos p p2 pos2 : Pos} {j : Nat}
/-! ### list(range(n)) -/
def lrO : List D → R D
  | [.int n] => if n.natAbs ≤ 100000 then .ok (.lst ((List.range n.toNat).map fun i => D.int ((i : Nat) : Int))) else .stuck
  | _ => .stuck
theorem vals_of_get : ∀ (xs : List V) (us : List Value), xs.length = us.length → (∀ (i : Nat) (x : V) (u : Value), xs[i]? = some x → us[i]? = some u → RelV x u) → Vals xs us
  | [], [], _, _ => .nil
  | x :: xs, u :: us, h, q => .cons (q 0 x u rfl rfl) (vals_of_get xs us (by simpa using h) fun i y v hy hv => q (i + 1) y v (by simpa using hy) (by simpa using hv))
  | [], _ :: _, h, _ => by simp at h
  | _ :: _, [], h, _ => by simp at h
theorem items_vals {acc : Array Value} {n : Nat} (h : ItemsOf (fun i v => ∃ t, v = Value.int (0 + (i : Int) * 1) t) acc n) : Vals ((List.range n).map fun i => V.int ((i : Nat) : Int)) acc.toList := by
  refine vals_of_get _ _ (by simp [h.1]) fun i x u hx hu => ?_
  rw [List.getElem?_map] at hx
  obtain ⟨t, rfl⟩ := h.2 i u (by simpa using hu)
  cases hr : (List.range n)[i]? with
  | none => rw [hr] at hx; cases hx
  | some k =>
    rw [hr] at hx
    cases hx
    have hk : k = i := by
      obtain ⟨h1, h2⟩ := List.getElem?_eq_some_iff.mp hr
      rw [List.getElem_range] at h2
      exact h2.symm
    subst hk
    exact ⟨t, by simp⟩
theorem se_listRange {fs : En → R (List D)} {p3 : Pos} (C : Ct X W j) (hg0 : Gl X "list") (hm0 : X.mg "list" = none) (hv0 : bootBuiltins "list" = some (.type "list")) (hg : Gl X "range") (hm : X.mg "range" = none) (ha : SA Γ X W [a] fs)
    (hs : starEach [a] X.env = [(false, eval a X.env)] := by rfl) (hs2 : starEach [.Call (.Name "range" p) [a] [] pos] X.env = [(false, eval (.Call (.Name "range" p) [a] [] pos) X.env)] := by rfl) :
    SE Γ X W (.Call (.Name "list" p3) [.Call (.Name "range" p) [a] [] pos] [] pos2) (fun ρ => (fs ρ).bind lrO) := by
  obtain ⟨ta, pa, qa⟩ := ha.out
  refine .mk ⟨fun σ H Q => ta σ H fun vs H1 => ∃ n : Int, vs = [.int n] ∧ n.natAbs ≤ 100000 ∧ ∀ q, H1 q = none → Q (.ref q) (upd H1 q (.lst ((List.range n.toNat).map fun i => V.int ((i : Nat) : Int)))), ⟨fun pins s σ H Q I h => ?_⟩, fun {B G H σ ρ Q} r p => ?_⟩
  · refine Call_ (ld_blt I hg0 hm0 hv0 (PyProof.Rows.callWith_type1 ?_ hs2 rfl))
    rw [hs2]
    refine Calls.spliced_cons (Call_ (ld_blt I hg hm boot_range (PyProof.Rows.callWith_type1 (thn (pa.run pos pins s σ H _ I h) fun us s1 hh => ?_) hs rfl)))
    obtain ⟨vs, H1, I1, r1, n, rfl, hn, q⟩ := hh
    cases r1 with
    | cons r rr =>
    cases rr
    obtain ⟨t, rfl⟩ := r
    refine call_range_1 ?_
    refine Calls.spliced_nil ?_
    refine call_list_range (I1.ok.hd C.calm) (IsRange.new ..) (small_one (by omega) (by omega) (by omega) (by omega)) (n := n.toNat) (by rw [rangeSize_one]; split <;> omega) (by omega) fun h' tk acc' c' hk hS' hacc => ?_
    have hv := items_vals hacc
    refine ⟨.ref _, _, I1.laid (t' := tk) (fun b o hb => hk b o (Heap.get?_push_of_some _ hb)) (by show s1.heap.objs.size ≤ (s1.heap.push _).objs.size; rw [Heap.size_push]; omega) (show ObjOk X.prog X.w _ h' _ (.lst _) from ⟨?_, acc'.toList, c', hv, by simpa using hS'⟩), rfl, q _ ?_⟩
    · rw [List.length_map, List.length_range]
      exact line_of (by omega)
    · exact I1.hok.fresh (by show s1.heap.objs.size ≤ (s1.heap.push _).objs.size; rw [Heap.size_push]; omega)
  · refine qa r (p.bind fun G1 H1 v ds e1 r1 p1 => ?_)
    unfold lrO at p1
    split at p1
    · obtain ⟨v, rfl, h⟩ := r1.inv1
      cases h
      rename_i n
      obtain ⟨hl, p1⟩ := Post.guard _ p1
      refine ⟨n, rfl, hl, fun q hq => p1 _ _ _ (.new e1.s hq) (.lst upd_same ?_)⟩
      have : ∀ xs : List Nat, RpA Γ X.K (upd G1 q (.lst ((List.range n.toNat).map fun i => V.int ((i : Nat) : Int)))) (xs.map fun i => V.int ((i : Nat) : Int)) (xs.map fun i => D.int ((i : Nat) : Int)) := fun xs => by
        induction xs with
        | nil => exact .nil
        | cons x xs ih => exact .cons (.int _) ih
      exact this _
    · exact p1.elim

/-! ### [e for .. for ..] -/
def tI (Γ : Gam) (K : PySem.W.Frag) (W : WX) (f : En → R (List D)) : TI := fun σ H Q => ∃ B G ρ, Rel Γ K B G H σ ρ ∧ Post Γ W G H σ (ItOk Γ K) Q (f ρ)
theorem SI.pi {tg : Expr} {f : En → R (List D)} (h : SI Γ X W tg e f) : PI X tg e (tI Γ X.K W f) := by
  obtain ⟨wi, p, q⟩ := h
  exact ⟨fun pins s σ H R I ⟨B, G, ρ, r, w⟩ => p.run pins s σ H R I (q r w)⟩
def lc2D (vs vs1 : List Nat) (g : D → En → Option En) (ft : En → R Bool) (fi1 : En → R (List D)) (g1 : D → En → Option En) (ft1 : En → R Bool) (fe : En → R D) (ρ : En) : List D → R (List D)
  | [] => .ok []
  | d :: ds => match g d (wipeE ρ vs) with
    | none => .stuck
    | some ρ1 => (noX (ft ρ1)).bind fun b => if b then (noX (fi1 ρ1)).bind fun es => (noX (lcD vs1 g1 ft1 fe ρ1 es)).bind fun ys => (lc2D vs vs1 g ft fi1 g1 ft1 fe ρ ds).bind fun zs => .ok (ys ++ zs) else lc2D vs vs1 g ft fi1 g1 ft1 fe ρ ds
def clr1 : Option SV → Option SV
  | some (.own _) => none
  | some (.dic _ _) => none
  | some (.obj _ _ _ _) => none
  | x => x
/-- without what is private -/
def clr (ρ : En) : En := ρ.map clr1
theorem clr_at {ρ : En} {i : Nat} {s : SV} (h : (clr ρ)[i]? = some (some s)) : ∃ d, s = .val d ∧ ρ[i]? = some (some (.val d)) := by
  unfold clr at h
  rw [List.getElem?_map] at h
  cases e : ρ[i]? with
  | none => rw [e] at h; cases h
  | some o =>
    rw [e] at h
    cases o with
    | none => cases h
    | some sv =>
      cases sv with
      | val d => cases h; exact ⟨d, rfl, rfl⟩
      | own ds => cases h
      | dic ks vs => cases h
      | obj tg st es ls => cases h
def lc2M (vs vs1 : List Nat) (g : D → En → Option En) (ft : En → R Bool) (fi1 : En → R (List D)) (g1 : D → En → Option En) (ft1 : En → R Bool) (fe : En → R D) (ρ : En) (ds : List D) : R (List D) :=
  match lc2D vs vs1 g ft fi1 g1 ft1 fe (clr ρ) ds with
  | .ok ys => if ys.length ≤ 100000 then .ok ys else .stuck
  | _ => .stuck
theorem Rel.clr {K : PySem.W.Frag} {B : Hp × Hp} {G H : Hp} {σ : L2.St} {ρ : En} (r : Rel Γ K B G H σ ρ) : Rel Γ K (G, H) G H σ (VL.clr ρ) := by
  refine ⟨.refl r.same, fun {i d} h => ?_, fun {i ds} h => ?_, fun {i ks vs} h => ?_, fun {i tg st es ls} h => ?_, fun {i q} ⟨tg, st, es, ls, p, C, dx, v, pe, pl, h1, h2, h3, h4⟩ => ?_, fun {i j s t p} h _ p1 => ?_, by unfold VL.clr; simpa using r.len, r.tab⟩
  · obtain ⟨d', e, hd⟩ := clr_at h
    cases e
    exact r.val hd
  · obtain ⟨_, e, _⟩ := clr_at h
    cases e
  · obtain ⟨_, e, _⟩ := clr_at h
    cases e
  · obtain ⟨_, e, _⟩ := clr_at h
    cases e
  · obtain ⟨_, e, _⟩ := clr_at h1
    cases e
  · obtain ⟨_, e, _⟩ := clr_at h
    rw [e] at p1
    cases p1
theorem Rel.root {K : PySem.W.Frag} {G H G1 H1 : Hp} {σ : L2.St} {ρ : En} (r : Rel Γ K (G, H) G H σ ρ) (s1 : Same G G1) (s2 : Same G1 H1) (tb : TabsOk G1 H1) : Rel Γ K (G1, H1) G1 H1 σ ρ := by
  have no : ∀ {i : Nat} {t : SV}, ρ[i]? = some (some t) → t.pv = true → False := fun {i t} h hp => by
    cases t with
    | val d => cases hp
    | own ds =>
      obtain ⟨p, vs, h1, h2, h3, h4, h5⟩ := r.own h
      have h2 : H p = none := h2
      rw [h2] at h4
      cases h4
    | dic ks vs =>
      obtain ⟨p, o, nks, kv, vv, h1, h2, h3, h4, h5⟩ := r.dic h
      have h2 : H p = none := h2
      rw [h2] at h4
      cases h4
    | obj tg st es ls =>
      obtain ⟨p0, pe0, pl0, v0, us, ws, x1, x2, x3, x4, x5, ⟨⟨C0, dx0, c1, c2⟩, o2, o3, o4⟩, x7⟩ := r.obj h
      have h2 : H p0 = none := x3.1
      rw [h2] at c2
      cases c2
  refine ⟨.refl s2, fun {i d} h => ?_, fun {i ds} h => (no h rfl).elim, fun {i ks vs} h => (no h rfl).elim, fun {i tg st es ls} h => (no h rfl).elim, fun {i q} ⟨tg, st, es, ls, p, C, dx, v, pe, pl, h1, h2, h3, h4⟩ => (no h1 rfl).elim, fun {i j s t p} h _ p1 => (no h p1).elim, r.len, tb⟩
  obtain ⟨v, h1, h2⟩ := r.val h
  exact ⟨v, h1, h2.mono s1⟩
theorem noX_inv {α : Type} {x : R α} {a : α} (h : noX x = .ok a) : x = .ok a := by
  cases x with
  | ok b => exact h
  | exc c => cases h
  | stuck => cases h
theorem bind_inv {α β : Type} {x : R α} {f : α → R β} {b : β} (h : x.bind f = .ok b) : ∃ a, x = .ok a ∧ f a = .ok b := by
  cases x with
  | ok a => exact ⟨a, rfl, h⟩
  | exc c => cases h
  | stuck => cases h
theorem drop_at {α : Type} {ds : List α} {i : Nat} {d : α} (hd : ds[i]? = some d) : ds.drop i = d :: ds.drop (i + 1) := by
  obtain ⟨h1, h2⟩ := List.getElem?_eq_some_iff.mp hd
  rw [List.drop_eq_getElem_cons h1, h2]
theorem lc2_use {own vs1 : List Nat} {fi : En → R (List D)} {js js1 : List Nat} {g g1 : D → En → Option En} {ft ft1 : En → R Bool} {fi1 : En → R (List D)} {fe : En → R D} (hjs : ∀ i ∈ js, i ∈ own) (hjs1 : ∀ i ∈ js1, i ∈ vs1)
    {B : Hp × Hp} {G H : Hp} {σ : L2.St} {ρ : En} {Q : VK} (r : Rel Γ X.K B G H σ ρ) (p : PostF Γ X.K W G H σ Q ((fi ρ).bind fun ds => lc2M own vs1 g ft fi1 g1 ft1 fe ρ ds)) :
    tLc2 (tI Γ X.K W fi) (tG Γ X.K js g) (tT Γ X.K W0 ft) (tI Γ X.K W0 fi1) (tG Γ X.K js1 g1) (tT Γ X.K W0 ft1) (tE Γ X.K W0 fe) own vs1 σ H Q := by
  refine ⟨B, G, ρ, r, ?_⟩
  cases hfi : fi ρ with
  | exc c => rw [hfi] at p; exact p
  | stuck => rw [hfi] at p; exact p
  | ok ds =>
  rw [hfi] at p
  have p' : PostF Γ X.K W G H σ Q (lc2M own vs1 g ft fi1 g1 ft1 fe ρ ds) := p
  unfold lc2M at p'
  cases hlc : lc2D own vs1 g ft fi1 g1 ft1 fe (clr ρ) ds with
  | exc c => rw [hlc] at p'; exact p'.elim
  | stuck => rw [hlc] at p'; exact p'.elim
  | ok ys0 =>
  rw [hlc] at p'
  dsimp only at p'
  by_cases hlen : ys0.length ≤ 100000
  case neg => rw [if_neg hlen] at p'; exact p'.elim
  rw [if_pos hlen] at p'
  intro G1 H1 J e1 it L hL
  have fin : ∀ G2 H2 acc, Ext G1 H1 G2 H2 → G2 L = none → H2 L = some (.lst acc) → RpA Γ X.K G2 acc ys0 → Q (.ref L) H2 := fun G2 H2 acc e2 => p' L G2 H2 acc (e1.d L hL) (e1.trans e2)
  obtain ⟨Gd, Y, w, hG, hY⟩ := it
  let Pv : Nat → Hp → Prop := fun i H2 => ∃ G2 acc ys, Ext G1 H1 G2 H2 ∧ G2 L = none ∧ H2 L = some (.lst acc) ∧ RpA Γ X.K G2 acc ys ∧ ∃ zs, lc2D own vs1 g ft fi1 g1 ft1 fe (clr ρ) (ds.drop i) = .ok zs ∧ ys ++ zs = ys0
  refine ⟨fun i m H2 => m = ds.length - i ∧ i ≤ ds.length ∧ Pv i H2, ⟨ds.length, by simp, Nat.zero_le _, G1, [], [], .priv e1.s hL, e1.s.none hL, upd_same, .nil, ys0, hlc, rfl⟩, ?_⟩
  rintro i m H2 ⟨rfl, hi, hPv⟩
  obtain ⟨G2, acc, ys, e2, gL, hL2, ra, zs, hz, hzs⟩ := hPv
  have hGd := hG H2 (e2.g.trans e2.s)
  by_cases hlt : i < ds.length
  case neg =>
    have e : i = ds.length := by omega
    subst e
    rw [List.drop_length] at hz
    cases hz
    rw [List.append_nil] at hzs
    subst hzs
    exact .inl ⟨w.stops H2 hGd, fin G2 H2 acc e2 gL hL2 ra⟩
  refine .inr ⟨w.goes i H2 hlt hGd, Pv (i + 1), fun H' p' => ⟨ds.length - (i + 1), by omega, rfl, hlt, p'⟩, fun x H3 hy => ?_⟩
  obtain ⟨G3, d, e3, hd, rd⟩ := hY i H2 x H3 G2 hlt (w.yields i H2 x H3 hlt hGd hy) e2.g e2.s
  rw [drop_at hd] at hz
  unfold lc2D at hz
  have e13 := e2.trans e3
  obtain ⟨hL3, gL3⟩ := e3.k L _ hL2 gL fun _ z => nomatch z
  have rr : Rel Γ X.K (G3, H3) G3 H3 (wipe σ own) (wipeE (clr ρ) own) := ((r.go e1).go e13).clr.wipe own
  refine ⟨(G3, H3), G3, wipeE (clr ρ) own, d, rr, rd, ?_⟩
  cases hg : g d (wipeE (clr ρ) own) with
  | none => rw [hg] at hz; cases hz
  | some ρ1 =>
  rw [hg] at hz
  dsimp only at hz
  intro σ2 r2 o2
  refine ⟨wipe_only o2 hjs, (G3, H3), G3, ρ1, r2, ?_⟩
  obtain ⟨bb, hb0, hz⟩ := bind_inv hz
  have hft := noX_inv hb0
  rw [hft]
  intro G4 H4 b4 e4 rb
  have rb' : b4 = bb := rb
  subst rb'
  obtain ⟨hL4, gL4⟩ := e4.k L _ hL3 gL3 fun _ z => nomatch z
  have ra4 := (ra.mono e3.g).mono e4.g
  cases b4 with
  | false => exact iteF ⟨G4, acc, ys, e13.trans e4, gL4, hL4, ra4, zs, hz, hzs⟩
  | true =>
  rw [if_pos rfl] at hz
  obtain ⟨es, hes, hz⟩ := bind_inv hz
  have hfi1 := noX_inv hes
  obtain ⟨ws0, hws, hz⟩ := bind_inv hz
  have hlc1 := noX_inv hws
  obtain ⟨zs1, hzs1, hz⟩ := bind_inv hz
  cases hz
  refine iteT ⟨(G3, H3), G4, ρ1, r2.go e4, ?_⟩
  rw [hfi1]
  intro G5 H5 J1 e5 it1
  obtain ⟨hL5, gL5⟩ := e5.k L _ hL4 gL4 fun _ z => nomatch z
  obtain ⟨Gd1, Y1, w1, hG1, hY1⟩ := it1
  let Pv1 : Nat → Hp → Prop := fun k H6 => ∃ G6 acc ys, Ext G1 H1 G6 H6 ∧ Same G5 G6 ∧ G6 L = none ∧ H6 L = some (.lst acc) ∧ RpA Γ X.K G6 acc ys ∧ ∃ ws, lcD vs1 g1 ft1 fe ρ1 (es.drop k) = .ok ws ∧ ys ++ (ws ++ zs1) = ys0
  refine ⟨fun k m H6 => m = es.length - k ∧ k ≤ es.length ∧ Pv1 k H6, ⟨es.length, by simp, Nat.zero_le _, G5, acc, ys, (e13.trans e4).trans e5, .refl _, gL5, hL5, ra4.mono e5.g, ws0, hlc1, hzs⟩, ?_⟩
  rintro k m H6 ⟨rfl, hk, G6, acc6, ys6, e16, s56, gL6, hL6, ra6, ws, hw, hws6⟩
  have hGd1 := hG1 H6 (s56.trans e16.s)
  by_cases hlt1 : k < es.length
  case neg =>
    have e : k = es.length := by omega
    subst e
    rw [List.drop_length] at hw
    cases hw
    exact .inl ⟨w1.stops H6 hGd1, G6, acc6, ys6, e16, gL6, hL6, ra6, zs1, hzs1, hws6⟩
  refine .inr ⟨w1.goes k H6 hlt1 hGd1, Pv1 (k + 1), fun H' p' => ⟨es.length - (k + 1), by omega, rfl, hlt1, p'⟩, fun x1 H7 hy1 => ?_⟩
  obtain ⟨G7, d1, e7, hd1, rd1⟩ := hY1 k H6 x1 H7 G6 hlt1 (w1.yields k H6 x1 H7 hlt1 hGd1 hy1) s56 e16.s
  rw [drop_at hd1] at hw
  unfold lcD at hw
  have e17 := e16.trans e7
  have s57 := s56.trans e7.g
  obtain ⟨hL7, gL7⟩ := e7.k L _ hL6 gL6 fun _ z => nomatch z
  have rr1 : Rel Γ X.K (G7, H7) G7 H7 (wipe σ2 vs1) (wipeE ρ1 vs1) := (r2.root (((e4.g.trans e5.g)).trans s57) e7.s (e17.t (r.go e1).tab)).wipe vs1
  refine ⟨(G7, H7), G7, wipeE ρ1 vs1, d1, rr1, rd1, ?_⟩
  cases hg1 : g1 d1 (wipeE ρ1 vs1) with
  | none => rw [hg1] at hw; cases hw
  | some ρ2 =>
  rw [hg1] at hw
  dsimp only at hw
  intro σ3 r3 o3
  refine ⟨wipe_only o3 hjs1, (G7, H7), G7, ρ2, r3, ?_⟩
  obtain ⟨b1, hb1, hw⟩ := bind_inv hw
  have hft1 := noX_inv hb1
  rw [hft1]
  intro G8 H8 b8 e8 rb8
  have rb8' : b8 = b1 := rb8
  subst rb8'
  obtain ⟨hL8, gL8⟩ := e8.k L _ hL7 gL7 fun _ z => nomatch z
  have ra8 := (ra6.mono e7.g).mono e8.g
  cases b8 with
  | false => exact iteF ⟨G8, acc6, ys6, e17.trans e8, s57.trans e8.g, gL8, hL8, ra8, ws, hw, hws6⟩
  | true =>
  rw [if_pos rfl] at hw
  obtain ⟨y, hy0, hw⟩ := bind_inv hw
  have hfe := noX_inv hy0
  obtain ⟨ws1, hws1, hw⟩ := bind_inv hw
  cases hw
  refine iteT ⟨(G7, H7), G8, ρ2, r3.go e8, ?_⟩
  rw [hfe]
  intro G9 H9 v e9 rv
  obtain ⟨hL9, gL9⟩ := e9.k L _ hL8 gL8 fun _ z => nomatch z
  have e19 := (e17.trans e8).trans e9
  refine ⟨acc6, hL9, ?_, G9, acc6 ++ [v], ys6 ++ [y], e19.mutNew hL gL9 hL9 noTab_lst, (s57.trans e8.g).trans e9.g, gL9, upd_same, (ra8.mono e9.g).append (.one rv), ws1, hws1, ?_⟩
  · have h1 := congrArg List.length hws6
    rw [ra6.length, sizeLine_eq]
    simp at h1
    omega
  · rw [← hws6]; simp
/-- [e for .. for ..] -/
theorem sf_lc2 {scope : Scope} {own : List (Str × Nat)} (vs1 : List Nat) {elt tg iter tg1 iter1 : Expr} {ifs ifs1 : List Expr} {fi fi1 : En → R (List D)} {js js1 : List Nat} {g g1 : D → En → Option En} {ft ft1 : En → R Bool} {fe : En → R D} (C : Ct X W j) (hi : SI Γ X W tg iter fi) (ok : BlkOk X.N X.env.scope scope own)
    (hg : ∀ (s : Shared) (H : Hp) (C : Addr) (cl : List (Str × Addr)) (fp : List Addr), SG Γ (X.blk s H scope (compEnvC scope cl C X.env) fp) tg js g)
    (ht : ∀ (s : Shared) (H : Hp) (C : Addr) (cl : List (Str × Addr)) (fp : List Addr), STs Γ (X.blk s H scope (compEnvC scope cl C X.env) fp) W0 ifs ft)
    (hi1 : ∀ (s : Shared) (H : Hp) (C : Addr) (cl : List (Str × Addr)) (fp : List Addr), SI Γ (X.blk s H scope (compEnvC scope cl C X.env) fp) W0 tg1 iter1 fi1)
    (hg1 : ∀ (s : Shared) (H : Hp) (C : Addr) (cl : List (Str × Addr)) (fp : List Addr), SG Γ (X.blk s H scope (compEnvC scope cl C X.env) fp) tg1 js1 g1)
    (ht1 : ∀ (s : Shared) (H : Hp) (C : Addr) (cl : List (Str × Addr)) (fp : List Addr), STs Γ (X.blk s H scope (compEnvC scope cl C X.env) fp) W0 ifs1 ft1)
    (he : ∀ (s : Shared) (H : Hp) (C : Addr) (cl : List (Str × Addr)) (fp : List Addr), SE Γ (X.blk s H scope (compEnvC scope cl C X.env) fp) W0 elt fe)
    (hv : ∀ i ∈ vs1, i ∈ own.map (·.2) := by decide) (hjs : ∀ i ∈ js, i ∈ own.map (·.2) := by decide) (hjs1 : ∀ i ∈ js1, i ∈ vs1 := by decide) (hs : ∀ x, foldedSetIterable iter X.env x = pure x := by intro _; rfl) (hs1 : ∀ env x, foldedSetIterable iter1 env x = pure x := by intro _ _; rfl) :
    SF Γ X W (.ListComp elt [⟨tg, iter, ifs, 0⟩, ⟨tg1, iter1, ifs1, 0⟩] scope pos) (fun ρ => (fi ρ).bind fun ds => lc2M (own.map (·.2)) vs1 g ft fi1 g1 ft1 fe ρ ds) := by
  refine PE.imp (pe_lc2 (g := tG Γ X.K js g) (tt := tT Γ X.K W0 ft) (te := tE Γ X.K W0 fe) (wi1 := tI Γ X.K W0 fi1) (g1 := tG Γ X.K js1 g1) (tt1 := tT Γ X.K W0 ft1) C.calm C.nd hi.pi ok hv hg ht (fun s H C cl fp => (hi1 s H C cl fp).pi) hg1 ht1 he hs hs1) fun σ H Q hh => ?_
  obtain ⟨B, G, ρ, r, p⟩ := hh
  exact lc2_use hjs hjs1 r p
theorem ss_setLc2 (i : Nat) {y : Str} {py spos : Pos} {scope : Scope} {own : List (Str × Nat)} (vs1 : List Nat) {elt tg iter tg1 iter1 : Expr} {ifs ifs1 : List Expr} {fi fi1 : En → R (List D)} {js js1 : List Nat} {g g1 : D → En → Option En} {ft ft1 : En → R Bool} {fe : En → R D} (C : Ct X W j) (hi : SI Γ X W tg iter fi) (ok : BlkOk X.N X.env.scope scope own)
    (hg : ∀ (s : Shared) (H : Hp) (C : Addr) (cl : List (Str × Addr)) (fp : List Addr), SG Γ (X.blk s H scope (compEnvC scope cl C X.env) fp) tg js g)
    (ht : ∀ (s : Shared) (H : Hp) (C : Addr) (cl : List (Str × Addr)) (fp : List Addr), STs Γ (X.blk s H scope (compEnvC scope cl C X.env) fp) W0 ifs ft)
    (hi1 : ∀ (s : Shared) (H : Hp) (C : Addr) (cl : List (Str × Addr)) (fp : List Addr), SI Γ (X.blk s H scope (compEnvC scope cl C X.env) fp) W0 tg1 iter1 fi1)
    (hg1 : ∀ (s : Shared) (H : Hp) (C : Addr) (cl : List (Str × Addr)) (fp : List Addr), SG Γ (X.blk s H scope (compEnvC scope cl C X.env) fp) tg1 js1 g1)
    (ht1 : ∀ (s : Shared) (H : Hp) (C : Addr) (cl : List (Str × Addr)) (fp : List Addr), STs Γ (X.blk s H scope (compEnvC scope cl C X.env) fp) W0 ifs1 ft1)
    (he : ∀ (s : Shared) (H : Hp) (C : Addr) (cl : List (Str × Addr)) (fp : List Addr), SE Γ (X.blk s H scope (compEnvC scope cl C X.env) fp) W0 elt fe)
    (hy : X.N[i]? = some y := by rfl) (hyl : X.env.scope.names.lookup y = some .local := by rfl)
    (hsw : swapsWith (.ListComp elt [⟨tg, iter, ifs, 0⟩, ⟨tg1, iter1, ifs1, 0⟩] scope pos) (some (.Name y py)) spos.line X.env = pure true := by exact sw_true rfl rfl rfl (by decide +kernel))
    (hv : ∀ i ∈ vs1, i ∈ own.map (·.2) := by decide) (hjs : ∀ i ∈ js, i ∈ own.map (·.2) := by decide) (hjs1 : ∀ i ∈ js1, i ∈ vs1 := by decide) (hs : ∀ x, foldedSetIterable iter X.env x = pure x := by intro _; rfl) (hs1 : ∀ env x, foldedSetIterable iter1 env x = pure x := by intro _ _; rfl) :
    SS Γ X W (.Assign [.Name y py] (.ListComp elt [⟨tg, iter, ifs, 0⟩, ⟨tg1, iter1, ifs1, 0⟩] scope pos) spos) (fun ρ => setS i (toL ((fi ρ).bind fun ds => lc2M (own.map (·.2)) vs1 g ft fi1 g1 ft1 fe ρ ds)) ρ) := by
  refine PS.imp (ps_setLc2 (g := tG Γ X.K js g) (tt := tT Γ X.K W0 ft) (te := tE Γ X.K W0 fe) (wi1 := tI Γ X.K W0 fi1) (g1 := tG Γ X.K js1 g1) (tt1 := tT Γ X.K W0 ft1) C.calm C.nd hy hyl hsw hi.pi ok hv hg ht (fun s H C cl fp => (hi1 s H C cl fp).pi) hg1 ht1 he hs hs1) fun E σ H hh => ?_
  obtain ⟨B, G, ρ, r, p⟩ := hh
  exact lc2_use hjs hjs1 r (PostF.of (Q := fun v H1 => gName i v σ H1 E.nx) (PostS.use r p fun G1 H1 v d _ r1 rv p1 => p1 _ _ _ (.refl _) (r1.set rv)))
end
end VL
end
section
set_option Elab.async false
set_option linter.all false
set_option maxRecDepth 100000
set_option maxHeartbeats 4000000
set_option autoImplicit false
namespace VL
open PySem PySem.Spec PyProof.Rows L2
variable [TabN]
/-! ### enumerate(xs), xs a list or a tuple -/
def enO : Obj → Addr → Obj := fun _ a => { cls := .type "enumerate", data := .fields #[.none, .bool false, .ref a, rawInt 0, .none, .none] }
theorem enum_new1 {v : Value} {o : Obj} {Hh : Heap → Prop} (Bg : Begins v o Hh) :
    Meets (Builtin.«enumerate.__new__» ⟨[.type "enumerate", v], []⟩) (fun _ Rr sh => Hh sh.heap ∧ Rr (.ok (.ret (.ref (sh.heap.push o).objs.size))) { sh with heap := (sh.heap.push o).push (enO o sh.heap.objs.size) }) :=
  .of_wp fun pr wo Ar Rr sh hyp => by
    obtain ⟨hp, ge, dr, tk, os⟩ := sh
    obtain ⟨hb, hyp⟩ := hyp
    have sub1 := sub_enumerate
    have it1 : ∀ {Ar2 : Around} {Ex : Value → Shared → Prop} {Qq : Value → Shared → Prop}, Qq (.ref hp.objs.size) ⟨hp.push o, ge, dr, tk, os⟩ → wpAny (model pr wo) Ar2 (pyIter v) Qq Ex ⟨hp, ge, dr, tk, os⟩ := fun qq => Bg.iter pr wo _ _ ⟨hp, ge, dr, tk, os⟩ _ hb qq
    wp_walk using it1
    refine wpAny_stack_any fun stk => wpAny_pure ?_
    split
    · rename_i cc _ _ _ _ _
      cases (cc == Value.type "enumerate")
      · wp_walk using it1
        exact ⟨_, rfl, hyp⟩
      · wp_walk using it1
        exact ⟨_, rfl, hyp⟩
    · wp_walk using it1
      exact ⟨_, rfl, hyp⟩
theorem enum_call1 {prog : Program} {w : World} {A : Around} {E : Value → Shared → Prop} {s : Shared} {v : Value} {o : Obj} {Hh : Heap → Prop} {Q : Value → Shared → Prop} (Bg : Begins v o Hh) (h0 : Hh s.heap)
    (h : ∀ h2, IsEnum h2 (s.heap.objs.size + 1) s.heap.objs.size 0 .none → h2.get? s.heap.objs.size = some o → (∀ b u, s.heap.get? b = some u → h2.get? b = some u) → Q (.ref (s.heap.objs.size + 1)) { s with heap := h2 }) :
    wpAny (model prog w) A (call (.type "enumerate") [v]) Q E s := by
  refine callType_new F.called_enumerate (by decide) (F.typeCall_enumerate_1 _) (F.newCall_enumerate_1 _) (fun ob => F.args_object_init_2 ob _) F.entry_enumerate_new (enum_new1 Bg) ⟨h0, ?_⟩
  have z1 : (s.heap.push o).objs.size = s.heap.objs.size + 1 := Heap.size_push ..
  show _ ∧ _
  rw [z1]
  have ie : IsEnum ((s.heap.push o).push (enO o s.heap.objs.size)) (s.heap.objs.size + 1) s.heap.objs.size 0 .none := by
    have q := Heap.get?_push_size (s.heap.push o) (o := enO o s.heap.objs.size) rfl
    rw [z1] at q
    exact q
  exact ⟨⟨_, ie, rfl⟩, h _ ie (Heap.get?_push_of_some _ (Heap.get?_push_size _ Bg.free)) fun b u q => Heap.get?_push_of_some _ (Heap.get?_push_of_some _ q)⟩
/-- the tuple at a as it stands at each turn, each item in a new pair -/
def IteT (K : PySem.W.Frag) (a : Addr) : It :=
  ⟨fun i H => ∃ (xs : List V) (x : V), SqT K H a xs ∧ xs[i]? = some x, fun i H v H2 => ∃ T x, v = .ref T ∧ H T = none ∧ H2 = upd H T (.tup [.int (i : Nat), x]) ∧ ∀ xs, SqT K H a xs → xs[i]? = some x, fun i H => ∃ xs : List V, SqT K H a xs ∧ xs.length = i⟩
theorem walk_enumT {K : PySem.W.Frag} {a : Addr} {xs : List V} : Walk (IteT K a) xs.length (fun H => SqT K H a xs) (YPair (fun i => some (.int (i : Nat))) (fun i => xs[i]?)) := by
  refine ⟨fun i _ hi q => ⟨xs, xs[i], q, by simp [hi]⟩, fun _ q => ⟨xs, q, rfl⟩, fun i H v H2 _ q y => ?_⟩
  obtain ⟨T, x, y1, y2, y3, y4⟩ := y
  exact ⟨T, .int (i : Nat), x, y1, y2, y3, rfl, y4 xs q⟩
theorem tup_ne_iter {h : Heap} {a it : Addr} {i : Nat} {xs : Array Value} (h1 : h.IsTuple a xs) (h2 : h.IsTupleIter it a i) : a ≠ it := fun z => by
  subst z
  obtain ⟨o1, q1, c1, _⟩ := h1
  obtain ⟨o2, q2, c2, _⟩ := h2
  rw [q1] at q2
  cases q2
  rw [c1] at c2
  injection c2 with c2
  exact absurd c2 (by decide)
theorem tup_ne_enum {h : Heap} {a e it : Addr} {k : Int} {old : Value} {xs : Array Value} (h1 : h.IsTuple a xs) (h2 : IsEnum h e it k old) : e ≠ a := fun z => by
  subst z
  obtain ⟨o1, q1, c1, _⟩ := h1
  have h2 : h.get? e = some _ := h2
  rw [q1] at h2
  cases h2
  injection c1 with c1
  exact absurd c1 (by decide)
theorem turn_enumT {P : Program} {w : World} {K : PySem.W.Frag} {elts : List Expr} {kk : Nat} {tpos : Pos} (a e it : Addr) :
    Turn P w K (.Tuple elts kk tpos) (IteT K a) [e, it] e (fun i h => ((∃ old, IsEnum h e it ((i : Nat) : Int) old) ∧ e ≠ it) ∧ h.IsTupleIter it a i) where
  mem := List.mem_cons_self
  obj := fun i h st b hb => by
    obtain ⟨⟨⟨old, en⟩, _⟩, o, ho, hc, hd⟩ := st
    rcases List.mem_cons.mp hb with rfl | hb
    · exact ⟨_, en, fun v q => nomatch q⟩
    · rw [List.mem_singleton.mp hb]
      exact ⟨o, ho, fun v q => by rw [hd] at q; cases q⟩
  keep := fun i h h2 st kp => ⟨⟨st.1.1.imp fun _ en => kp e List.mem_cons_self _ en, st.1.2⟩, st.2.at fun o q => kp it (List.mem_cons_of_mem _ List.mem_cons_self) o q⟩
  item := by
    intro X e1 e2 e3 calm i pins s σ H E Iv fpo st go
    subst e1 e2 e3
    obtain ⟨⟨⟨old, en⟩, ne⟩, itr⟩ := st
    obtain ⟨xs, x, hq, hx⟩ := go
    obtain ⟨us, rv, tp, _⟩ := Iv.tuple hq
    obtain ⟨u, hu, ru⟩ := rv.get hx
    have lte : e < s.heap.objs.size := Heap.lt_size en
    have lti : it < s.heap.objs.size := by
      obtain ⟨_, q, _⟩ := itr
      exact Heap.lt_size q
    have nit := tup_ne_iter (h := s.heap) tp itr
    have nea := tup_ne_enum (h := s.heap) tp en
    have Dr := Draws.tuple (prog := X.prog) (w := X.w) (A := X.A.in1) (Iv.ok.hd calm) it a nit us.toArray
    refine wpAny_pyNext_enum_itemC Dr en ⟨itr, tp⟩ (i := i) (by simpa using (List.getElem?_eq_some_iff.mp hu).1) ne (by simp [ne, nea]) fun y h2 tk hy out st2 tup sz kp => ?_
    have ey : y = u := by
      have hy : us.toArray[i]? = some y := hy
      rw [show us.toArray[i]? = us[i]? by simp, hu] at hy
      exact (Option.some.inj hy).symm
    subst ey
    refine ⟨_, rfl, wpAny_letOwnedTupleGo_enum (s := { s with heap := h2, toks := tk + 1 }) out fun h3 en3 sb => ?_⟩
    have tup3 : h3.get? s.heap.objs.size = some { cls := .type "tuple", data := .seq #[.int i tk, y] } := (sb.2 _ (Nat.ne_of_gt lte)).trans tup
    have ob : ObjOk X.prog X.w (upd H s.heap.objs.size (.tup [.int (i : Nat), x])) h3 s.heap.objs.size (.tup [.int (i : Nat), x]) := ⟨line_of (show 2 ≤ 100000 by decide), [.int i tk, y], .cons ⟨_, rfl⟩ (.cons ru .nil), ⟨_, tup3, rfl, _, rfl⟩⟩
    have I3 : Inv X pins σ (upd H s.heap.objs.size (.tup [.int (i : Nat), x])) { s with heap := h3, toks := tk + 1 } :=
      Iv.turnedNew (ch := [e, it]) (fun b o hb q => (sb.2 b fun z => hb (z ▸ List.mem_cons_self)).trans (kp b o (fun z => hb (z ▸ List.mem_cons_self)) (fun z => hb (z ▸ List.mem_cons_of_mem _ List.mem_cons_self)) q)) fpo (Nat.le_refl _) ob
    refine ⟨.ref s.heap.objs.size, _, I3, rfl, ⟨_, x, rfl, Iv.hok.fresh (Nat.le_refl _), rfl, fun ys hys => by rw [Iv.tuple_inj hys hq]; exact hx⟩, ⟨⟨⟨y, ?_⟩, ne⟩, st2.1.at fun o q => (sb.2 it fun z => ne z.symm).trans q⟩, fun b hb => ?_⟩
    · rw [show ((i + 1 : Nat) : Int) = (i : Int) + 1 by omega]
      exact en3
    · have ltb : b < s.heap.objs.size := by
        rcases List.mem_cons.mp hb with rfl | hb
        · exact lte
        · rw [List.mem_singleton.mp hb]; exact lti
      rw [upd_ne (Nat.ne_of_lt ltb)]
      exact (fpo b hb).1
  done := by
    intro X e1 e2 e3 calm i pins s σ H E Iv fpo st go
    subst e1 e2 e3
    obtain ⟨⟨⟨old, en⟩, ne⟩, itr⟩ := st
    obtain ⟨xs, hq, hx⟩ := go
    obtain ⟨us, rv, tp, _⟩ := Iv.tuple hq
    have nit := tup_ne_iter (h := s.heap) tp itr
    have Dr := Draws.tuple (prog := X.prog) (w := X.w) (A := X.A.in1) (Iv.ok.hd calm) it a nit us.toArray
    have el : us.toArray.size = i := by rw [List.size_toArray, ← rv.length]; exact hx
    obtain ⟨f0, f1, f2, f3, f4, f5⟩ := fpo it (List.mem_cons_of_mem _ List.mem_cons_self)
    exact wpAny_pyNext_enum_endD Dr en ⟨by rw [el]; exact itr, tp⟩ fun h2 eb => ⟨rfl, Iv.turned (t' := s.toks) (fun b o hb q => eb b o hb q) f0 f1 f3 f4 f5⟩
  self := fun Ar i s Q E st h => let ⟨⟨⟨_, en⟩, _⟩, _⟩ := st; wpAny_pyIter_enum en h
section
variable {Γ : Gam} {X : Cx} {W : WX} {a b c e : Expr} {es : List Expr} {fa fb fc : En → R D} {pos p p2 pos2 : Pos} {j : Nat}
def iEnumT (K : PySem.W.Frag) (ta : TA) : TI := fun σ H R => ta σ H fun vs H1 => ∃ t xs, vs = [.ref t] ∧ SqT K H1 t xs ∧ R (IteT K t) H1
theorem pi_enumT {ta : TA} {tpos : Pos} {elts : List Expr} {kk : Nat} (hg : Gl X "enumerate") (hm : X.mg "enumerate" = none) (ha : PA X [e] ta) (hs : starEach [e] X.env = [(false, eval e X.env)] := by rfl) : PI X (.Tuple elts kk tpos) (.Call (.Name "enumerate" p) [e] [] pos) (iEnumT X.K ta) := by
  refine ⟨fun pins s σ H Rr Iv h => ?_⟩
  refine Call_ (ld_blt Iv hg hm boot_enumerate (PyProof.Rows.callWith_type1 (thn (ha.run pos pins s σ H _ Iv h) fun us s1 hh => ?_) hs rfl))
  obtain ⟨vs, H1, I1, r1, t, xs, rfl, hq, q⟩ := hh
  cases r1 with
  | cons r0 rr =>
    cases rr
    cases r0
    obtain ⟨its, rv, tp, _⟩ := I1.tuple hq
    refine enum_call1 (begins_tuple t its.toArray) tp fun h2 en ho kp => wpAny_pyIter_enum en ?_
    refine ⟨s1.heap.objs.size + 1, [s1.heap.objs.size + 1, s1.heap.objs.size], _, _, H1, rfl, I1.kept (t' := s1.toks) kp, turn_enumT t (s1.heap.objs.size + 1) s1.heap.objs.size, ⟨⟨⟨.none, en⟩, Nat.succ_ne_self _⟩, ⟨_, ho, rfl, rfl⟩⟩, fun b hb => ?_, q⟩
    have le : s1.heap.objs.size ≤ b := by
      rcases List.mem_cons.mp hb with rfl | hb
      · exact Nat.le_succ _
      · rw [List.mem_singleton.mp hb]; exact Nat.le_refl _
    exact I1.fpOk le (I1.hok.fresh le)
def numb (i : Nat) : List D → List D
  | [] => []
  | d :: ds => .tup [.int (i : Nat), d] :: numb (i + 1) ds
theorem numb_len : ∀ (i : Nat) (ds : List D), (numb i ds).length = ds.length
  | _, [] => rfl
  | i, d :: ds => by rw [numb, List.length_cons, numb_len (i + 1) ds, List.length_cons]
theorem numb_at : ∀ (k : Nat) (ds : List D) (i : Nat) (d : D), ds[i]? = some d → (numb k ds)[i]? = some (.tup [.int ((k + i : Nat) : Int), d])
  | _, [], _, _, h => by simp at h
  | k, x :: xs, 0, _, h => by simp at h; simp [numb, h]
  | k, x :: xs, i + 1, d, h => by
    simp at h
    have := numb_at (k + 1) xs i d h
    rw [numb, List.getElem?_cons_succ, this]
    congr 4
    omega
theorem enum_it {K : PySem.W.Frag} {G : Hp} {J : It} {xs : List V} {ds : List D} {Gd : Hp → Prop} (w : Walk J xs.length Gd (YPair (fun i => some (.int (i : Nat))) (fun i => xs[i]?))) (hG : ∀ H, Same G H → Gd H) (r : RpA Γ K G xs ds) : ItOk Γ K G J (numb 0 ds) := by
  refine ⟨Gd, _, by rw [numb_len, ← r.length]; exact w, hG, fun i H x H2 G1 hi y s1 s2 => ?_⟩
  obtain ⟨T, u, v, e1, hn, e2, hu, hv⟩ := y
  subst e1 e2
  cases hu
  obtain ⟨d, d1, d2⟩ := r.get' hv
  refine ⟨upd G1 T (.tup [.int (i : Nat), v]), .tup [.int (i : Nat), d], .new s2 hn, ?_, ?_⟩
  · have := numb_at 0 ds i d d1
    rwa [Nat.zero_add] at this
  · exact .tup (.of upd_same) (.cons (.int _) (.one ((d2.mono s1).mono (same_upd (s2.none hn)))))
def enumD : List D → R (List D)
  | [.tup ds] => .ok (numb 0 ds)
  | [.lst ds] => .ok (numb 0 ds)
  | _ => .stuck
theorem si_enumerate {elts : List Expr} {kk : Nat} {tpos : Pos} {fs : En → R (List D)} (hg : Gl X "enumerate") (hm : X.mg "enumerate" = none) (ha : SA Γ X W [a] fs) (hs : starEach [a] X.env = [(false, eval a X.env)] := by rfl) :
    SI Γ X W (.Tuple elts kk tpos) (.Call (.Name "enumerate" p) [a] [] pos) (fun ρ => (fs ρ).bind enumD) := by
  obtain ⟨ta, pa, qa⟩ := ha.out
  refine ⟨_, pi_or (pi_enum hg hm pa hs) (pi_enumT hg hm pa hs), fun {B G H σ ρ Q} r p => ?_⟩
  dsimp only at p
  cases hf : fs ρ with
  | exc c => rw [hf] at p; exact .inl (qa r (by rw [hf]; exact p))
  | stuck => rw [hf] at p; exact p.elim
  | ok ds =>
    rw [hf] at p
    have p : Post Γ W G H σ (ItOk Γ X.K) Q (enumD ds) := p
    unfold enumD at p
    split at p
    · refine .inr (qa r ?_)
      rw [hf]
      intro G1 H1 v e1 r1
      obtain ⟨v, rfl, h⟩ := r1.inv1
      cases h with
      | tup ht rt => exact ⟨_, _, rfl, e1.s.seqT ht, p _ _ _ e1 (enum_it walk_enumT (fun H s => s.seqT ht) rt)⟩
    · refine .inl (qa r ?_)
      rw [hf]
      intro G1 H1 v e1 r1
      obtain ⟨v, rfl, h⟩ := r1.inv1
      cases h with
      | lst ht rt => exact ⟨_, _, rfl, .of (e1.s _ _ ht), p _ _ _ e1 (enum_it walk_enum (fun H s => .of (s _ _ ht)) rt)⟩
    · exact p.elim
end
end VL
end
section
set_option Elab.async false
set_option linter.all false
set_option maxRecDepth 100000
set_option maxHeartbeats 4000000
set_option autoImplicit false
namespace VL
open PySem PySem.Spec PyProof.Rows L2
variable [TabN]
section
variable {Γ : Gam} {X : Cx} {W : WX} {a b c e : Expr} {es : List Expr} {fa fb fc : En → R D} {pos p p2 pos2 : Pos} {j : Nat}
section
variable {pins : List (Addr × Obj)} {s : Shared} {σ : L2.St} {H G : Hp}
mutual
theorem Rp.nk (I : Inv X pins σ H s) (sm : Same G H) : ∀ {v : V} {d : D} {k : NestedKey} {u : Value}, Rp Γ X.K G v d → nkD d = some k → RelV v u → NestedIs s.heap k u
  | _, _, _, _, .non, h, r => by
    rw [nkD] at h
    cases h
    cases r
    exact .none
  | _, _, _, _, .bl b, h, r => by
    rw [nkD] at h
    cases h
    cases r
    exact .bool rfl
  | _, _, _, _, .int i, h, r => by
    rw [nkD] at h
    cases h
    obtain ⟨t, rfl⟩ := r
    exact .int _ _
  | _, _, _, _, .str x, h, r => by
    rw [nkD] at h
    cases h
    obtain ⟨t, rfl⟩ := r
    exact .text _ _
  | _, _, _, _, .tup (ds := ds) hs q, h, r => by
    rw [nkD] at h
    cases hk : nkDs ds with
    | none => rw [hk] at h; cases h
    | some ks =>
      rw [hk] at h
      cases h
      cases r
      obtain ⟨its, rv, ⟨o, ho, hc, n, hd⟩, _⟩ := I.tuple (sm.seqT hs)
      refine .tup ho hc hd ?_
      exact RpA.nk I sm q hk rv
  | _, _, _, _, .lst _ _, h, _ => by rw [nkD] at h; cases h
  | _, _, _, _, .scr _ _, h, _ => by rw [nkD] at h; cases h
  | _, _, _, _, .op _ _, h, _ => by rw [nkD] at h; cases h
  | _, _, _, _, .dic _ _ _ _ _, h, _ => by rw [nkD] at h; cases h
theorem RpA.nk (I : Inv X pins σ H s) (sm : Same G H) : ∀ {vs : List V} {ds : List D} {ks : List NestedKey} {us : List Value}, RpA Γ X.K G vs ds → nkDs ds = some ks → Vals vs us → NestedAll s.heap ks us
  | _, _, _, _, .nil, h, r => by
    rw [nkDs] at h
    cases h
    cases r
    exact .nil
  | _, _, _, _, .cons (d := d) (ds := ds) q qs, h, r => by
    rw [nkDs] at h
    cases hk : nkD d with
    | none => rw [hk] at h; cases h
    | some k =>
      cases hks : nkDs ds with
      | none => rw [hk, hks] at h; cases h
      | some ks =>
        rw [hk, hks] at h
        cases h
        cases r with
        | cons r0 rr => exact .cons (Rp.nk I sm q hk r0) (RpA.nk I sm qs hks rr)
end
end
/-! what is at a key -/
def dget : List D → List D → NestedKey → Option D
  | k :: ks, v :: vs, x => if nkD k = some x then some v else dget ks vs x
  | _, _, _ => none
def dputV (ks vs : List D) (n : NestedKey) (d : D) : List D := List.zipWith (fun k w => if nkD k = some n then d else w) ks vs
def vputV (nks : List NestedKey) (vv : List V) (n : NestedKey) (v : V) : List V := List.zipWith (fun k w => if k = n then v else w) nks vv
/-- the entries by their lists -/
theorem at_dget {K : PySem.W.Frag} {G : Hp} : ∀ {xs : List (NestedKey × Addr × Value)} {vv : List V} {ks vs : List D} {nk : NestedKey}, nkDs ks = some (xs.map (·.1)) → RpA Γ K G vv vs → Vals vv (xs.map (·.2.2)) →
    (match dget ks vs nk with
      | some d => ∃ p v, atKey xs nk = some p ∧ RelV v p.2 ∧ Rp Γ K G v d
      | none => atKey xs nk = none)
  | [], vv, ks, vs, nk, hn, r, q => by
    cases ks with
    | nil => simp [dget, atKey]
    | cons k ks =>
      rw [nkDs] at hn
      cases hk : nkD k with
      | none => rw [hk] at hn; cases hn
      | some z =>
        cases hks : nkDs ks with
        | none => rw [hk, hks] at hn; cases hn
        | some zs => rw [hk, hks] at hn; cases hn
  | x :: xs, vv, ks, vs, nk, hn, r, q => by
    cases ks with
    | nil => rw [nkDs] at hn; cases hn
    | cons k ks =>
      rw [nkDs] at hn
      cases hk : nkD k with
      | none => rw [hk] at hn; cases hn
      | some z =>
        cases hks : nkDs ks with
        | none => rw [hk, hks] at hn; cases hn
        | some zs =>
          rw [hk, hks] at hn
          have hn' : some (z :: zs) = some (x.1 :: xs.map (·.1)) := hn
          injection hn' with hn'
          injection hn' with e1 e2
          rw [List.map_cons] at q
          cases q with
          | cons q0 qs =>
            cases r with
            | cons r0 rs =>
              rw [dget, hk, e1]
              by_cases hx : x.1 = nk
              · rw [if_pos (by rw [hx])]
                refine ⟨x.2, _, ?_, q0, r0⟩
                unfold atKey
                rw [List.find?_cons_of_pos (by simpa using hx)]
                rfl
              · rw [if_neg (fun z => hx (Option.some.inj z))]
                have ih := at_dget (xs := xs) (nk := nk) (by rw [hks, e2]) rs qs
                have e : atKey (x :: xs) nk = atKey xs nk := by
                  unfold atKey
                  rw [List.find?_cons_of_neg (by simpa using hx)]
                rw [e]
                exact ih
/-- a dict by its object -/
theorem dict_at {pins : List (Addr × Obj)} {s : Shared} {σ : L2.St} {H G : Hp} {d : Addr} {o : Obj} {nks : List NestedKey} {kv vv : List V} {ks : List D} (I : Inv X pins σ H s) (sm : Same G H) (hH : H d = some (dO d o)) (x : DictX X.prog X.w d o nks kv vv) (hn : nkDs ks = some nks) (rk : RpA Γ X.K G kv ks) :
    ∃ xs, s.heap.DictOfH (nestedKind X.prog X.w) d xs ∧ nks = xs.map (·.1) ∧ kv = xs.map (fun x => V.ref x.2.1) ∧ Vals vv (xs.map (·.2.2)) ∧ (d == sysModules) = false ∧ kv.length ≤ 100000 ∧ ∀ k ∈ nks, k.depth ≤ 8 := by
  obtain ⟨x0, x00, es, ep, xs, x1, x2, x3, x4, x5, x6, x7, x8⟩ := x
  have ok := I.hok d _ hH
  obtain ⟨ho, _, _⟩ := (show (s.heap.get? d = some o) ∧ _ ∧ _ from ok)
  refine ⟨xs, ⟨o, es, ep, ho, x1, x2, x3, fun z hz => ?_, x4⟩, x5, x7, x8, x0, x00, x6⟩
  have hv : Vals kv (xs.map fun x => Value.ref x.2.1) := by
    rw [x7]
    have : ∀ l : List (NestedKey × Addr × Value), Vals (l.map fun x => V.ref x.2.1) (l.map fun x => Value.ref x.2.1) := fun l => by
      induction l with
      | nil => exact .nil
      | cons a l ih => exact .cons rfl ih
    exact this xs
  have na := RpA.nk I sm rk hn hv
  rw [x5] at na
  have get : ∀ l : List (NestedKey × Addr × Value), NestedAll s.heap (l.map (·.1)) (l.map fun x => Value.ref x.2.1) → z ∈ l → NestedIs s.heap z.1 (.ref z.2.1) := fun l => by
    induction l with
    | nil => intro _ hm; cases hm
    | cons a l ih =>
      intro hA hm
      rw [List.map_cons, List.map_cons] at hA
      cases hA with
      | cons h1 h2 =>
        rcases List.mem_cons.mp hm with rfl | hm
        · exact h1
        · exact ih h2 hm
  exact ⟨get xs na hz, x6 _ (by rw [x5]; exact List.mem_map.mpr ⟨z, hz, rfl⟩)⟩
/-! ### d[k] -/
def isTupD : D → Bool
  | .tup _ => true
  | _ => false
def okKey (k : D) : Option NestedKey := if isTupD k then (match nkD k with | some n => if n.depth ≤ 8 then some n else none | none => none) else none
def dixO : D → D → R D
  | .dic ks vs, k => (match okKey k with | some n => (match dget ks vs n with | some v => .ok v | none => .stuck) | none => .stuck)
  | _, _ => .stuck
theorem okKey_out {k : D} {n : NestedKey} (h : okKey k = some n) : (∃ ds, k = .tup ds) ∧ nkD k = some n ∧ n.depth ≤ 8 := by
  unfold okKey at h
  split at h
  · rename_i ht
    refine ⟨?_, ?_⟩
    · cases k <;> simp [isTupD] at ht
      exact ⟨_, rfl⟩
    · cases hk : nkD k with
      | none => rw [hk] at h; cases h
      | some m =>
        rw [hk] at h
        dsimp only at h
        split at h
        · cases h; exact ⟨rfl, by assumption⟩
        · cases h
  · cases h
def rDix (Γ : Gam) (K : PySem.W.Frag) : R2 := fun x y H Q => ∃ G ks vs k n d, Same G H ∧ Rp Γ K G x (.dic ks vs) ∧ Rp Γ K G y k ∧ okKey k = some n ∧ dget ks vs n = some d ∧ ∀ v, Rp Γ K G v d → Q v H
theorem room_of (hu : X.A.units + 64 < cLine) : (nestedKind X.prog X.w).room X.A.in1 := by show X.A.units + 1 + 8 < cLine; omega
theorem ix_dict (hΓ : Γ.P = X.prog) (hΓ2 : Γ.w = X.w) (hu : X.A.units + 64 < cLine) : IxR X (rDix Γ X.K) := by
  intro value slice pins s σ H x y v u Q I rx ry h hs
  obtain ⟨G, ks, vs, k, n, d, sm, hx, hy, hk, hd, q⟩ := h
  obtain ⟨⟨ds, rfl⟩, hn, hdp⟩ := okKey_out hk
  have nis := Rp.nk I sm hy hn ry
  cases hx with
  | dic h1 h2 h3 h4 h5 =>
    rw [hΓ, hΓ2] at h2
    cases rx
    cases hy with
    | tup hs' hr =>
      cases ry
      obtain ⟨xs, D1, D2, D3, D4, _⟩ := dict_at I sm (sm _ _ h1) h2 h3 h4
      have key := at_dget (nk := n) (by rw [h3, D2]) h5 D4
      rw [hd] at key
      obtain ⟨p, w, a1, a2, a3⟩ := key
      refine tail_any (ops := [_, _]) D1.typeIs PySem.F.slot_dict_getitem.lookup ?_ hs
      exact wpAny_getItem_heap (room_of hu) ⟨nis, hdp⟩ D1 a1 ⟨w, H, I.kept (fun _ _ q => q), a2, q w a3⟩
theorem osDix : OpS Γ X.K W (rDix Γ X.K) dixO := by
  intro G H σ x y d e Q s rx ry p
  cases d with
  | dic ks vs =>
    unfold dixO at p
    dsimp only at p
    cases hk : okKey e with
    | none => rw [hk] at p; exact p.elim
    | some n =>
      rw [hk] at p
      dsimp only at p
      cases hg : dget ks vs n with
      | none => rw [hg] at p; exact p.elim
      | some w =>
        rw [hg] at p
        exact ⟨G, ks, vs, e, n, w, s, rx, ry, hk, hg, fun v rv => p.here s rv⟩
  | _ => exact p.elim
/-! ### k in d -/
def rDin (Γ : Gam) (K : PySem.W.Frag) (neg : Bool) : R2 := fun x y H Q => ∃ G ks vs k n, Same G H ∧ Rp Γ K G y (.dic ks vs) ∧ Rp Γ K G x k ∧ okKey k = some n ∧ Q (.bl (xor neg (dget ks vs n).isSome)) H
def dinO (neg : Bool) : D → D → R D
  | k, .dic ks vs => (match okKey k with | some n => .ok (.bl (xor neg (dget ks vs n).isSome)) | none => .stuck)
  | _, _ => .stuck
theorem din_core (hΓ : Γ.P = X.prog) (hΓ2 : Γ.w = X.w) {pins : List (Addr × Obj)} {s : Shared} {σ : L2.St} {H G : Hp} {x y : V} {v u : Value} {ks vs : List D} {k : D} {n : NestedKey} (I : Inv X pins σ H s) (sm : Same G H) (hy : Rp Γ X.K G y (.dic ks vs)) (hx : Rp Γ X.K G x k) (hk : okKey k = some n) (rx : RelV x v) (ry : RelV y u) :
    ∃ b d xs, v = .ref b ∧ u = .ref d ∧ (nestedKind X.prog X.w).is s.heap n b ∧ (d == sysModules) = false ∧ s.heap.DictKeyed (nestedKind X.prog X.w) d (pairsH xs) ∧ (valueAt (pairsH xs) n).isSome = (dget ks vs n).isSome := by
  obtain ⟨⟨ds, rfl⟩, hn, hdp⟩ := okKey_out hk
  have nis := Rp.nk I sm hx hn rx
  cases hy with
  | dic h1 h2 h3 h4 h5 =>
    rw [hΓ, hΓ2] at h2
    cases ry
    cases hx with
    | tup hs' hr =>
      cases rx
      obtain ⟨xs, D1, D2, D3, D4, D5, _⟩ := dict_at I sm (sm _ _ h1) h2 h3 h4
      refine ⟨_, _, xs, rfl, rfl, ⟨nis, hdp⟩, D5, ⟨xs, D1, rfl⟩, ?_⟩
      have key := at_dget (nk := n) (by rw [h3, D2]) h5 D4
      rw [valueAt_pairsH]
      cases hg : dget ks vs n with
      | none => rw [hg] at key; rw [key]; rfl
      | some d =>
        rw [hg] at key
        obtain ⟨p, w, a1, a2, a3⟩ := key
        rw [a1]; rfl
theorem op_din (hΓ : Γ.P = X.prog) (hΓ2 : Γ.w = X.w) (hu : X.A.units + 64 < cLine) : OpR X (compareOp .In) (rDin Γ X.K false) := by
  intro pins s σ H x y v u Q I rx ry h
  obtain ⟨G, ks, vs, k, n, sm, hy, hx, hk, q⟩ := h
  obtain ⟨b, d, xs, rfl, rfl, h1, h2, h3, h4⟩ := din_core hΓ hΓ2 I sm hy hx hk rx ry
  refine in_keyed (room_of hu) h1 h2 h3 ⟨.bl _, H, I.kept (fun _ _ q => q), rfl, ?_⟩
  rw [h4]
  simpa using q
theorem op_dnotin (hΓ : Γ.P = X.prog) (hΓ2 : Γ.w = X.w) (hu : X.A.units + 64 < cLine) : OpR X (compareOp .NotIn) (rDin Γ X.K true) := by
  intro pins s σ H x y v u Q I rx ry h
  obtain ⟨G, ks, vs, k, n, sm, hy, hx, hk, q⟩ := h
  obtain ⟨b, d, xs, rfl, rfl, h1, h2, h3, h4⟩ := din_core hΓ hΓ2 I sm hy hx hk rx ry
  refine notIn_keyed (room_of hu) h1 h2 h3 ⟨.bl _, H, I.kept (fun _ _ q => q), rfl, ?_⟩
  rw [h4]
  simpa using q
theorem osDin {neg : Bool} : OpS Γ X.K W (rDin Γ X.K neg) (dinO neg) := by
  intro G H σ x y d e Q s rx ry p
  cases e with
  | dic ks vs =>
    unfold dinO at p
    dsimp only at p
    cases hk : okKey d with
    | none => rw [hk] at p; exact p.elim
    | some n =>
      rw [hk] at p
      exact ⟨G, ks, vs, d, n, s, ry, rx, hk, p.here s (.bl _)⟩
  | _ => exact p.elim
/-! ### d[k] = v -/
theorem vput_vals {n : NestedKey} {v : V} {u : Value} (rv : RelV v u) : ∀ {xs : List (NestedKey × Addr × Value)} {vv : List V}, Vals vv (xs.map (·.2.2)) → Vals (vputV (xs.map (·.1)) vv n v) ((xs.map (putAt n u)).map (·.2.2))
  | [], _, .nil => .nil
  | x :: xs, _, .cons h r => by
    have ih := vput_vals (n := n) rv r
    unfold vputV at ih ⊢
    rw [List.map_cons, List.map_cons, List.map_cons, List.zipWith_cons_cons]
    refine .cons ?_ ih
    unfold putAt
    by_cases hx : x.1 = n
    · rw [if_pos hx, if_pos hx]; exact rv
    · rw [if_neg hx, if_neg hx]; exact h
theorem vput_rp {K : PySem.W.Frag} {G : Hp} {n : NestedKey} {v : V} {d : D} (rv : Rp Γ K G v d) : ∀ {ks vs : List D} {nks : List NestedKey} {vv : List V}, nkDs ks = some nks → RpA Γ K G vv vs → RpA Γ K G (vputV nks vv n v) (dputV ks vs n d)
  | [], vs, nks, vv, hn, r => by
    rw [nkDs] at hn
    cases hn
    unfold vputV dputV
    rw [List.zipWith_nil_left, List.zipWith_nil_left]
    exact .nil
  | k :: ks, vs, nks, vv, hn, r => by
    rw [nkDs] at hn
    cases hk : nkD k with
    | none => rw [hk] at hn; cases hn
    | some z =>
      cases hks : nkDs ks with
      | none => rw [hk, hks] at hn; cases hn
      | some zs =>
        rw [hk, hks] at hn
        cases hn
        cases r with
        | nil =>
          unfold vputV dputV
          rw [List.zipWith_nil_right, List.zipWith_nil_right]
          exact .nil
        | cons r0 rs =>
          have ih := vput_rp (n := n) rv hks rs
          unfold vputV dputV at ih ⊢
          rw [List.zipWith_cons_cons, List.zipWith_cons_cons]
          refine .cons ?_ ih
          rw [hk]
          by_cases hz : z = n
          · rw [if_pos hz, if_pos (by rw [hz])]; exact rv
          · rw [if_neg hz, if_neg (fun q => hz (Option.some.inj q))]; exact r0
theorem nkDs_snoc {k : D} {n : NestedKey} (hk : nkD k = some n) : ∀ {ks : List D} {nks : List NestedKey}, nkDs ks = some nks → nkDs (ks ++ [k]) = some (nks ++ [n])
  | [], _, h => by
    rw [nkDs] at h
    cases h
    show nkDs [k] = _
    rw [nkDs, hk, nkDs]
    rfl
  | x :: ks, nks, h => by
    rw [nkDs] at h
    cases hx : nkD x with
    | none => rw [hx] at h; cases h
    | some z =>
      cases hks : nkDs ks with
      | none => rw [hx, hks] at h; cases h
      | some zs =>
        rw [hx, hks] at h
        cases h
        rw [List.cons_append, nkDs, hx, nkDs_snoc hk hks]
        rfl
theorem put_keys (xs : List (NestedKey × Addr × Value)) (n : NestedKey) (u : Value) : (xs.map (putAt n u)).map (·.1) = xs.map (·.1) ∧ (xs.map (putAt n u)).map (fun x => V.ref x.2.1) = xs.map (fun x => V.ref x.2.1) := by
  rw [List.map_map, List.map_map]
  constructor
  · refine List.map_congr_left fun x _ => ?_
    show (putAt n u x).1 = x.1
    unfold putAt
    split <;> rfl
  · refine List.map_congr_left fun x _ => ?_
    show V.ref (putAt n u x).2.1 = V.ref x.2.1
    unfold putAt
    split <;> rfl
/-- the dict behind a store -/
def storeK (ks vs : List D) (n : NestedKey) (k : D) : List D := if (dget ks vs n).isSome then ks else ks ++ [k]
def storeV (ks vs : List D) (n : NestedKey) (d : D) : List D := if (dget ks vs n).isSome then dputV ks vs n d else vs ++ [d]
def rSetDic (Γ : Gam) (K : PySem.W.Frag) : V → V → V → Hp → (Hp → Prop) → Prop := fun o i v H Q => ∃ G a ob nks kv vv ks vs k n d, o = .ref a ∧ Same G H ∧ H a = some (dO a ob) ∧ DictX Γ.P Γ.w a ob nks kv vv ∧ nkDs ks = some nks ∧ RpA Γ K G kv ks ∧ RpA Γ K G vv vs ∧ Rp Γ K G i k ∧ Rp Γ K G v d ∧ okKey k = some n ∧ kv.length < 100000 ∧
  ∀ ob2 nks2 kv2 vv2, DictX Γ.P Γ.w a ob2 nks2 kv2 vv2 → nkDs (storeK ks vs n k) = some nks2 → RpA Γ K G kv2 (storeK ks vs n k) → RpA Γ K G vv2 (storeV ks vs n d) → Q (upd H a (dO a ob2))
theorem set_dict (hΓ : Γ.P = X.prog) (hΓ2 : Γ.w = X.w) (hu : X.A.units + 64 < cLine) : PSet X (rSetDic Γ X.K) := by
  intro pins s σ H o i v ov iv u Q I ro ri rv h
  obtain ⟨G, a, ob, nks, kv, vv, ks, vs, k, n, d, rfl, sm, hH, x, hn, rk, rvv, hi, hv, hk, hl, q⟩ := h
  obtain ⟨⟨ds, rfl⟩, hnk, hdp⟩ := okKey_out hk
  have nis := Rp.nk I sm hi hnk ri
  cases ro
  rw [hΓ, hΓ2] at x q
  have hi' := hi
  cases hi with
  | tup hs' hr =>
  cases ri
  rename_i b xs0
  obtain ⟨xs, D1, D2, D3, D4, D5, D6, D7⟩ := dict_at I sm hH x hn rk
  have hlen : xs.length = kv.length := by rw [D3, List.length_map]
  have key := at_dget (nk := n) (by rw [hn, D2]) rvv D4
  refine wpAny_setItem_heap (room_of hu) ⟨nis, hdp⟩ D1 (fun h2 m2 sb => ?_) (by rw [hlen]; exact line_of D6)
  obtain ⟨o2, es, ep, ho, ex, hd, he, hal, nd⟩ := id m2
  refine ⟨upd H a (dO a o2), ?_, ?_⟩
  · refine I.write (x := a) (e := a) (by rw [hH]; exact True.intro) (.inl rfl) (fun b u hb q => (sb.2 b hb).trans q) ⟨o2, ho⟩ ?_
    exact ⟨ho, ⟨o2, ho⟩, fun h1 h2 e1 k1 => k1 _ e1⟩
  · cases hg : dget ks vs n with
    | some w =>
      rw [hg] at key
      obtain ⟨p, w', a1, a2, a3⟩ := key
      rw [storedH_old a1] at he nd
      obtain ⟨pk1, pk2⟩ := put_keys xs n u
      refine q o2 nks kv (vputV nks vv n v) ⟨D5, D6, es, ep, xs.map (putAt n u), ex, hd, he, nd, ?_, D7, ?_, ?_⟩ ?_ ?_ ?_
      · rw [pk1]; exact D2
      · rw [pk2]; exact D3
      · rw [D2]; exact vput_vals rv D4
      · unfold storeK; rw [hg]; exact hn
      · unfold storeK; rw [hg]; exact rk
      · unfold storeV; rw [hg]; exact vput_rp hv hn rvv
    | none =>
      rw [hg] at key
      rw [storedH_new key] at he nd
      refine q o2 (nks ++ [n]) (kv ++ [.ref b]) (vv ++ [v]) ⟨D5, by simp; omega, es, ep, xs ++ [(n, b, u)], ex, hd, he, nd, ?_, ?_, ?_, ?_⟩ ?_ ?_ ?_
      · rw [List.map_append, D2]; rfl
      · intro z hz
        rcases List.mem_append.mp hz with hz | hz
        · exact D7 z hz
        · rw [List.mem_singleton.mp hz]; exact hdp
      · rw [List.map_append, D3]; rfl
      · rw [List.map_append]
        exact vals_app D4 (.cons rv .nil)
      · unfold storeK; rw [hg]; exact nkDs_snoc hnk hn
      · unfold storeK; rw [hg]; exact rk.append (.one hi')
      · unfold storeV; rw [hg]; exact rvv.append (.one hv)
def dicS (i : Nat) (ρ : En) (k : List D → List D → RS) : RS := match ρ[i]? with
  | some (some (.dic ks vs)) => k ks vs
  | _ => .stuck
def dputS (i : Nat) (fk f : En → R D) (ρ : En) : RS := thenS (f ρ) ρ fun d => dicS i ρ fun ks vs => thenS (fk ρ) ρ fun k => match okKey k with
  | some n => if ks.length < 100000 then .next (ρ.set i (some (.dic (storeK ks vs n k) (storeV ks vs n d)))) else .stuck
  | none => .stuck
theorem ss_dput (i : Nat) {x : Str} {p1 p2 : Pos} {k : Expr} {fk : En → R D} (C : Ct X W j) (hΓ : Γ.P = X.prog) (hΓ2 : Γ.w = X.w) (he : SE Γ X W e fa) (hk : SE Γ X W k fk) (hN : X.N[i]? = some x := by rfl) (hv : Vis X.env.scope x := by first | exact Or.inl rfl | exact Or.inr (Or.inl rfl) | exact Or.inr (Or.inr rfl))
    (hd : (x == ("__debug__" : Str)) = false := by decide) (hcd : (x == ("__classdict__" : Str)) = false := by decide)
    (ha : ∀ v, assign (.Subscript (.Name x p1) k p2) X.env v = (do
      let ov ← holding [v] (eval (.Name x p1) X.env)
      let iv ← holding [v, ov] (eval k X.env)
      standAt p2
      holding [v, ov, iv] (setItem ov iv v)
      release [v, ov, iv] []) := by intro _; rfl)
    (hs : swapsWithSole [.Subscript (.Name x p1) k p2] e pos.line X.env = pure false := by rfl) (hw : swappedStores [.Subscript (.Name x p1) k p2] e X.env = pure none := by rfl)
    (h1 : (assignEach [.Subscript (.Name x p1) k p2] X.env).map (·.2) = [assign (.Subscript (.Name x p1) k p2) X.env] := by rfl) :
    SS Γ X W (.Assign [.Subscript (.Name x p1) k p2] e pos) (dputS i fk fa) := by
  obtain ⟨ta, pa, qa⟩ := he.out
  obtain ⟨tk, pk, qk⟩ := hk.out
  refine PS.imp (ps_asg pa (pg_sub (pe_var hN hv hd hcd) pk (set_dict hΓ hΓ2 C.u64) ha) hs hw h1) fun E σ H hh => ?_
  obtain ⟨B, G, ρ, r, p⟩ := hh
  refine qa r (PostS.use r p fun G1 H1 v d e1 r1 rv p1 => ?_)
  unfold dicS at p1
  split at p1
  · rename_i ks vs hi
    obtain ⟨l, o, nks, kv, vv, hσ, hB, hG, hH, x1, x2, x3, x4⟩ := r1.dic hi
    refine ⟨.ref l, hσ, ?_⟩
    refine qk r1 (PostS.use r1 p1 fun G2 H2 u kd e2 r2 ru p2 => ?_)
    obtain ⟨hH2, hG2⟩ := e2.k l _ hH hG fun _ z => nomatch z
    cases hok : okKey kd with
    | none => rw [hok] at p2; exact p2.elim
    | some n =>
      rw [hok] at p2
      dsimp only at p2
      split at p2
      · rename_i hlen
        refine ⟨G2, l, o, nks, kv, vv, ks, vs, kd, n, d, rfl, e2.s, hH2, x1, x2, x3.mono e2.g, x4.mono e2.g, ru, rv.mono e2.g, hok, by rw [x3.length]; exact hlen, fun ob2 nks2 kv2 vv2 y1 y2 y3 y4 => ?_⟩
        exact p2 _ _ _ (.refl _) (r2.mutPv hi rfl hσ hB hG2 hH2 noTab_dO rfl (fun _ z => nomatch z) (fun _ _ z => by cases z; exact ⟨ob2, nks2, kv2, vv2, rfl, y1, y2, y3, y4⟩))
      · exact p2.elim
  · exact p1.elim
/-! ### {} -/
def newDictO : Obj := { cls := .type "dict", data := .dict #[] }
theorem dict_empty {h : Heap} (hb : sysModules < h.objs.size) : DictX X.prog X.w h.objs.size newDictO [] [] [] :=
  ⟨beq_eq_false_iff_ne.mpr (Ne.symm (Nat.ne_of_lt hb)), Nat.zero_le _, #[], 0, [], ⟨rfl, rfl, rfl⟩, rfl, rfl, List.nodup_nil, rfl, (fun _ h => nomatch h), rfl, .nil⟩
def tNewDic (X : Cx) : TE := fun _ H Q => ∀ q o, H q = none → DictX X.prog X.w q o [] [] [] → Q (.ref q) (upd H q (dO q o))
theorem pe_newDic : PE X (.Dict [] [] pos) (tNewDic X) := ⟨fun pins s σ H Q I h => wpAny_Dict_empty ⟨.ref s.heap.objs.size, _, I.laid (a := s.heap.objs.size) (o := dO s.heap.objs.size newDictO) (t' := s.toks) (fun _ _ q => Heap.get?_push_of_some _ q) (Nat.le_refl _)
  ⟨Heap.get?_push_size _ rfl, ⟨_, Heap.get?_push_size _ rfl⟩, fun _ _ e k => k _ e⟩, rfl, h _ _ (I.hok.fresh (Nat.le_refl _)) (dict_empty I.big)⟩⟩
theorem ss_newDic (i : Nat) {x : Str} {pos' : Pos} (C : Ct X W j) (hΓ : Γ.P = X.prog) (hΓ2 : Γ.w = X.w) (hi : X.N[i]? = some x := by rfl) (hx : Loc X.env.scope x := by first | exact .inl rfl | exact .inr rfl) (hs : swapsWith (.Dict [] [] p) (some (.Name x pos')) pos.line X.env = pure false := by rfl)
    (hf : X.fn x = true ∨ X.env.scope.names.lookup x = some .local := by first | exact .inl rfl | exact .inr rfl | assumption) : SS Γ X W (.Assign [.Name x pos'] (.Dict [] [] p) pos) (fun ρ => .next (ρ.set i (some (.dic [] [])))) := by
  refine PS.imp (ps_set C.nd hi hx pe_newDic hs hf) fun E σ H hh => ?_
  obtain ⟨B, G, ρ, r, p⟩ := hh
  intro q o hq hx
  rw [← hΓ, ← hΓ2] at hx
  have e1 : Ext G H G (upd H q (dO q o)) := .priv r.same hq
  exact p _ _ _ (.refl _) ((r.go e1).setDic (r.ext.d q hq) (r.same.none hq) upd_same hx rfl .nil .nil (r.fresh hq e1))
/-- a, b, c = x, y, {} -/
def parD (f1 f2 : En → R D) (k : D → D → En → RS) (ρ : En) : RS := thenS (f1 ρ) ρ fun d => thenS (f2 ρ) ρ fun e => k d e ρ
theorem ss_par3D (i k l : Nat) {x y z : Str} {px py pz pt pd : Pos} {kt k2 pt2} (C : Ct X W j) (hΓ : Γ.P = X.prog) (hΓ2 : Γ.w = X.w) (ha : SE Γ X W a fa) (hb : SE Γ X W b fb) (hik : i ≠ k := by decide) (hil : i ≠ l := by decide) (hkl : k ≠ l := by decide) (hi : X.N[i]? = some x := by rfl) (hk : X.N[k]? = some y := by rfl) (hl : X.N[l]? = some z := by rfl)
    (hx : X.env.scope.names.lookup x = some .local := by rfl) (hy : X.env.scope.names.lookup y = some .local := by rfl) (hz : X.env.scope.names.lookup z = some .local := by rfl)
    (hw : swappedStores [.Tuple [.Name x px, .Name y py, .Name z pz] kt pt] (.Tuple [a, b, .Dict [] [] pd] k2 pt2) X.env = pure (some [x, y, z]) := by rfl)
    (hs : swapsWithSole [.Tuple [.Name x px, .Name y py, .Name z pz] kt pt] (.Tuple [a, b, .Dict [] [] pd] k2 pt2) pos.line X.env = pure false := by rfl)
    (hs1 : starEach [a, b, .Dict [] [] pd] X.env = (false, eval a X.env) :: starEach [b, .Dict [] [] pd] X.env := by rfl) (hs2 : starEach [b, .Dict [] [] pd] X.env = (false, eval b X.env) :: starEach [.Dict [] [] pd] X.env := by rfl) (hs3 : starEach [.Dict [] [] pd] X.env = (false, eval (.Dict [] [] pd) X.env) :: starEach [] X.env := by rfl) :
    SS Γ X W (.Assign [.Tuple [.Name x px, .Name y py, .Name z pz] kt pt] (.Tuple [a, b, .Dict [] [] pd] k2 pt2) pos) (parD fa fb fun d e ρ => .next (((ρ.set i (some (.val d))).set k (some (.val e))).set l (some (.dic [] [])))) := by
  obtain ⟨ta, pa, qa⟩ := ha.out
  obtain ⟨tb, pb, qb⟩ := hb.out
  refine PS.imp (ps_par3 C.calm C.nd hi hk hl hik hil hkl hx hy hz (pa_cons pa (pa_cons pb (pa_cons pe_newDic pa_nil hs3) hs2) hs1) hw hs) fun E σ H hh => ?_
  obtain ⟨B, G, ρ, r, p⟩ := hh
  refine qa r (PostS.use r p fun G1 H1 v d e1 r1 rv p1 => ?_)
  refine qb r1 (PostS.use r1 p1 fun G2 H2 u d2 e2 r2 ru p2 => ?_)
  intro q o hq hx
  rw [← hΓ, ← hΓ2] at hx
  have e3 : Ext G2 H2 G2 (upd H2 q (dO q o)) := .priv r2.same hq
  have r3 := ((r2.set (i := i) (rv.mono e2.g)).set (i := k) ru)
  exact ⟨_, _, _, rfl, p2 _ _ _ (.refl _) ((r3.go e3).setDic (r2.ext.d q hq) (r2.same.none hq) upd_same hx rfl .nil .nil (r3.fresh hq e3))⟩
end
end VL
end
section
set_option Elab.async false
set_option linter.all false
set_option maxRecDepth 100000
set_option maxHeartbeats 4000000
set_option autoImplicit false
/-! Closures: cells that are tracked for a while. -/
namespace VL
open PySem PySem.Spec PyProof.Rows L2
/-! ### some cells, taken out of the heap or put back -/
def rmv (H : Hp) (cs : List Addr) : Hp := fun b => if b ∈ cs then none else H b
def readd (H H' : Hp) (cs : List Addr) : Hp := fun b => if b ∈ cs then H b else H' b
def CsOk (H : Hp) (cs : List Addr) : Prop := ∀ c ∈ cs, ∃ o v, H c = some (dO c o) ∧ o.data = .cell v
section
variable {P : Program} {w : World} {H H' Ha : Hp} {h h' B : Heap} {cs fs : List Addr} {b : Addr}
theorem rmv_in (hb : b ∈ cs) : rmv H cs b = none := if_pos hb
theorem rmv_out (hb : b ∉ cs) : rmv H cs b = H b := if_neg hb
theorem readd_in (hb : b ∈ cs) : readd H H' cs b = H b := if_pos hb
theorem readd_out (hb : b ∉ cs) : readd H H' cs b = H' b := if_neg hb
theorem CsOk.not {x : HO} (k : CsOk H cs) (e : H b = some x) (hx : ∀ o, x ≠ dO b o) : b ∉ cs := fun z => by
  obtain ⟨o, v, e1, _⟩ := k b z
  rw [e1] at e
  exact hx o (Option.some.inj e).symm
theorem rmv_sub {x : HO} (e : rmv H cs b = some x) : H b = some x ∧ b ∉ cs := by
  by_cases hb : b ∈ cs
  · rw [rmv_in hb] at e; cases e
  · rw [rmv_out hb] at e; exact ⟨e, hb⟩
theorem rmv_hok (k : CsOk H cs) (hk : HOk P w H h) : HOk P w (rmv H cs) h := fun a o e => by
  obtain ⟨e1, _⟩ := rmv_sub e
  refine (hk a o e1).stay (fun _ _ _ q => q) (fun d q => ?_) fun d xs q => ?_
  · rw [rmv_out (k.not q fun _ z => nomatch z)]; exact q
  · rw [rmv_out (k.not q fun _ z => nomatch z)]; exact q
/-- put back, if they stand as they stood -/
theorem readd_hok (k : CsOk H cs) (hn : ∀ c ∈ cs, H' c = none) (hc : ∀ c ∈ cs, ∀ o, H c = some (dO c o) → h.get? c = some o) (hk : HOk P w H' h) : HOk P w (readd H H' cs) h := fun a o e => by
  by_cases ha : a ∈ cs
  · rw [readd_in ha] at e
    obtain ⟨o', v, e1, e2⟩ := k a ha
    rw [e1] at e
    cases e
    have q := hc a ha o' e1
    exact ⟨q, ⟨o', q⟩, fun h1 h2 e1 k1 => k1 _ e1⟩
  · rw [readd_out ha] at e
    refine (hk a o e).stay (fun _ _ _ q => q) (fun d q => ?_) fun d xs q => ?_
    · rw [readd_out (fun z => by rw [hn d z] at q; cases q)]; exact q
    · rw [readd_out (fun z => by rw [hn d z] at q; cases q)]; exact q
theorem readd_un (k : CsOk H cs) (hs : ∀ c ∈ cs, ∀ o, H c = some (dO c o) → h.get? c = some o) (hf : ∀ c ∈ cs, c ∉ fs) (u : Un fs [] (rmv H cs) H' h h') :
    (∀ c ∈ cs, H' c = none) ∧ (∀ c ∈ cs, ∀ o, H c = some (dO c o) → h'.get? c = some o) ∧ Un fs [] H (readd H H' cs) h h' := by
  have a1 : ∀ c ∈ cs, H' c = none := fun c hc => by
    obtain ⟨o, v, e1, e2⟩ := k c hc
    exact u.free c o (hs c hc o e1) (rmv_in hc) (by simp)
  have a2 : ∀ c ∈ cs, ∀ o, H c = some (dO c o) → h'.get? c = some o := fun c hc o e1 => u.keep c o (hs c hc o e1) (rmv_in hc) (hf c hc) (by simp)
  have nin : ∀ {b : Addr}, H b = none → b ∉ cs := fun {b} e z => by
    obtain ⟨o, v, e1, _⟩ := k b z
    rw [e1] at e; cases e
  refine ⟨a1, a2, ⟨fun b o q n => ?_, fun b o q n => ?_, fun b o q n hx => ?_, u.there, fun b xs q => ?_, fun b o x q => ?_, fun b ps q => ?_⟩⟩
  · exact u.keep b o q (by rw [rmv_out (nin n)]; exact n)
  · exact u.slot b o q (by rw [rmv_out (nin n)]; exact n)
  · rw [readd_out (nin n)]
    exact u.free b o q (by rw [rmv_out (nin n)]; exact n) hx
  · have z := k.not q fun _ z => nomatch z
    rw [readd_out z]
    exact u.tups b xs (by rw [rmv_out z]; exact q)
  · have z := k.not q fun _ z => nomatch z
    rw [readd_out z]
    exact u.frzs b o x (by rw [rmv_out z]; exact q)
  · have z := k.not q fun _ z => nomatch z
    rw [readd_out z]
    exact u.tbls b ps (by rw [rmv_out z]; exact q)
theorem readd_ub (k : CsOk H cs) (hs : ∀ c ∈ cs, ∀ o, H c = some (dO c o) → h.get? c = some o) (hf : ∀ c ∈ cs, c ∉ fs) (u : UB fs (rmv H cs) H' h B h') :
    (∀ c ∈ cs, H' c = none) ∧ (∀ c ∈ cs, ∀ o, H c = some (dO c o) → B.get? c = some o) ∧ UB fs H (readd H H' cs) h B h' := by
  have a1 : ∀ c ∈ cs, H' c = none := fun c hc => by
    obtain ⟨o, v, e1, e2⟩ := k c hc
    exact u.free c o (hs c hc o e1) (rmv_in hc)
  have a2 : ∀ c ∈ cs, ∀ o, H c = some (dO c o) → B.get? c = some o := fun c hc o e1 => u.keep c o (hs c hc o e1) (rmv_in hc) (hf c hc)
  have nin : ∀ {b : Addr}, H b = none → b ∉ cs := fun {b} e z => by
    obtain ⟨o, v, e1, _⟩ := k b z
    rw [e1] at e; cases e
  refine ⟨a1, a2, ⟨fun b o q n => ?_, u.slot, fun b o q n => ?_, u.there, fun b xs q => ?_, fun b o x q => ?_, fun b ps q => ?_⟩⟩
  · exact u.keep b o q (by rw [rmv_out (nin n)]; exact n)
  · rw [readd_out (nin n)]
    exact u.free b o q (by rw [rmv_out (nin n)]; exact n)
  · have z := k.not q fun _ z => nomatch z
    rw [readd_out z]
    exact u.tups b xs (by rw [rmv_out z]; exact q)
  · have z := k.not q fun _ z => nomatch z
    rw [readd_out z]
    exact u.frzs b o x (by rw [rmv_out z]; exact q)
  · have z := k.not q fun _ z => nomatch z
    rw [readd_out z]
    exact u.tbls b ps (by rw [rmv_out z]; exact q)
/-- taken out again behind a call -/
theorem rmv_un (k : CsOk Ha cs) (hn : ∀ c ∈ cs, H c = none) (ha : ∀ b, b ∉ cs → Ha b = H b) (hs : ∀ c ∈ cs, ∀ o, Ha c = some (dO c o) → h.get? c = some o) (hk : ∀ c ∈ cs, ∀ o, Ha c = some (dO c o) → h'.get? c = some o) (hf : ∀ c ∈ cs, c ∉ fs) (u : Un fs [] Ha H' h h') :
    Un fs [] H (rmv H' cs) h h' := by
  have out : ∀ {b : Addr} {x : HO}, H b = some x → b ∉ cs := fun {b x} e z => by rw [hn b z] at e; cases e
  refine ⟨fun b o q n f x => ?_, fun b o q n f x => ?_, fun b o q n x => ?_, u.there, fun b xs q => ?_, fun b o x q => ?_, fun b ps q => ?_⟩
  · by_cases hb : b ∈ cs
    · obtain ⟨o', v, e1, e2⟩ := k b hb
      have := hs b hb o' e1
      rw [q] at this
      cases this
      exact hk b hb o e1
    · exact u.keep b o q (by rw [ha b hb]; exact n) f x
  · by_cases hb : b ∈ cs
    · exact absurd f (hf b hb)
    · exact u.slot b o q (by rw [ha b hb]; exact n) f x
  · by_cases hb : b ∈ cs
    · exact rmv_in hb
    · rw [rmv_out hb]
      exact u.free b o q (by rw [ha b hb]; exact n) x
  · have hb := out q
    rw [rmv_out hb]
    exact u.tups b xs (by rw [ha b hb]; exact q)
  · have hb := out q
    rw [rmv_out hb]
    exact u.frzs b o x (by rw [ha b hb]; exact q)
  · have hb := out q
    rw [rmv_out hb]
    exact u.tbls b ps (by rw [ha b hb]; exact q)
end
section
variable [TabN] {H H' G G' : Hp} {cs : List Addr}
theorem TabsOk.rmv (t : TabsOk G H) (k : CsOk G cs) (s : Same G H) : TabsOk (rmv G cs) (rmv H cs) := ⟨fun b ps z => t.1 b ps (rmv_sub z).1, fun P q h => by
  have kH : CsOk H cs := fun c hc => let ⟨o, v, e1, e2⟩ := k c hc; ⟨o, v, s _ _ e1, e2⟩
  obtain ⟨ps, h1, h2, h3⟩ := t.2 P q h
  refine ⟨ps, by rw [rmv_out (kH.not h1 fun _ z => nomatch z)]; exact h1, h2, fun pos cv hc => ?_⟩
  obtain ⟨c, a1, a2⟩ := h3 pos cv hc
  exact ⟨c, a1, by rw [rmv_out (k.not a2 fun o z => codeO_dO z)]; exact a2⟩⟩
theorem TabsOk.readd (t : TabsOk G' H') (hn : ∀ c ∈ cs, H' c = none) (s : Same G' H') (nt : ∀ b ps, G b ≠ some (.tbl ps)) : TabsOk (readd G G' cs) (readd H H' cs) := by
  refine ⟨fun b ps z => ?_, fun P q h => ?_⟩
  · by_cases hb : b ∈ cs
    · rw [readd_in hb] at z; exact nt b ps z
    · rw [readd_out hb] at z; exact t.1 b ps z
  · obtain ⟨ps, h1, h2, h3⟩ := t.2 P q h
    refine ⟨ps, by rw [readd_out (fun z => by rw [hn P z] at h1; cases h1)]; exact h1, h2, fun pos cv hc => ?_⟩
    obtain ⟨c, a1, a2⟩ := h3 pos cv hc
    exact ⟨c, a1, by rw [readd_out (fun z => by rw [s.none (hn c z)] at a2; cases a2)]; exact a2⟩
/-- what grew while they were out -/
theorem Ext.readd (k : CsOk G cs) (s : Same G H) (hn : ∀ c ∈ cs, H' c = none) (e : Ext (rmv G cs) (rmv H cs) G' H') : Ext G H (readd G G' cs) (readd H H' cs) := by
  have kH : CsOk H cs := fun c hc => let ⟨o, v, e1, e2⟩ := k c hc; ⟨o, v, s _ _ e1, e2⟩
  have gn : ∀ c ∈ cs, G' c = none := fun c hc => e.s.none (hn c hc)
  refine ⟨fun b x h => ?_, fun b x h => ?_, fun b x h n t => ?_, fun b h => ?_, fun t => ?_⟩
  · by_cases hb : b ∈ cs
    · rw [readd_in hb]; exact h
    · rw [readd_out hb]; exact e.g b x (by rw [rmv_out hb]; exact h)
  · by_cases hb : b ∈ cs
    · rw [readd_in hb] at h ⊢; exact s _ _ h
    · rw [readd_out hb] at h ⊢; exact e.s _ _ h
  · have hb : b ∉ cs := fun z => by
      obtain ⟨o, v, e1, _⟩ := k b z
      rw [e1] at n; cases n
    rw [readd_out hb, readd_out hb]
    exact e.k b x (by rw [rmv_out hb]; exact h) (by rw [rmv_out hb]; exact n) t
  · by_cases hb : b ∈ cs
    · rw [readd_in hb] at h; exact h
    · rw [readd_out hb] at h
      have := e.d b h
      rw [rmv_out hb] at this
      exact this
  · exact (e.t (t.rmv k s)).readd hn e.s t.1
/-- cells, put in as they stand in h -/
def addH (H : Hp) (cs : List Addr) (h : Heap) : Hp := fun b => if b ∈ cs then (h.get? b).map (dO b) else H b
section
variable {h : Heap}
theorem addH_in {b : Addr} {o : Obj} (hb : b ∈ cs) (ho : h.get? b = some o) : addH H cs h b = some (dO b o) := by unfold addH; rw [if_pos hb, ho]; rfl
theorem addH_out {b : Addr} (hb : b ∉ cs) : addH H cs h b = H b := if_neg hb
def CellsAt (cs : List Addr) (h : Heap) : Prop := ∀ c ∈ cs, ∃ o v, h.get? c = some o ∧ o.data = .cell v
theorem addH_cs (k : CellsAt cs h) : CsOk (addH H cs h) cs := fun c hc => by
  obtain ⟨o, v, e1, e2⟩ := k c hc
  exact ⟨o, v, addH_in hc e1, e2⟩
theorem addH_get (k : CellsAt cs h) {c : Addr} (hc : c ∈ cs) {o : Obj} (e : addH H cs h c = some (dO c o)) : h.get? c = some o := by
  obtain ⟨o', v, e1, e2⟩ := k c hc
  rw [addH_in hc e1] at e
  have hf : o'.isFreed = false := by
    obtain ⟨cl, d, da, sl⟩ := o'
    dsimp only at e2
    subst e2
    rfl
  rw [← dO_inj hf (Option.some.inj e)]
  exact e1
theorem addH_same (hn : ∀ c ∈ cs, H c = none) : Same H (addH H cs h) := fun b x e => by
  rw [addH_out (fun z => by rw [hn b z] at e; cases e)]; exact e
theorem addH_both (s : Same G H) : Same (addH G cs h) (addH H cs h) := fun b x e => by
  by_cases hb : b ∈ cs
  · unfold addH at e ⊢
    rw [if_pos hb] at e ⊢
    exact e
  · rw [addH_out hb] at e ⊢; exact s _ _ e
theorem addH_hok {P : Program} {w : World} (k : CellsAt cs h) (hn : ∀ c ∈ cs, H c = none) (hk : HOk P w H h) : HOk P w (addH H cs h) h := fun a x e => by
  by_cases ha : a ∈ cs
  · obtain ⟨o, v, e1, e2⟩ := k a ha
    rw [addH_in ha e1] at e
    cases e
    exact ⟨e1, ⟨o, e1⟩, fun h1 h2 e1 k1 => k1 _ e1⟩
  · rw [addH_out ha] at e
    exact (hk a x e).stay (fun _ _ _ q => q) (fun d q => addH_same hn _ _ q) fun d xs q => addH_same hn _ _ q
theorem addH_tabs (k : CellsAt cs h) (t : TabsOk G H) (hn : ∀ c ∈ cs, H c = none) (s : Same G H) : TabsOk (addH G cs h) (addH H cs h) := by
  have gn : ∀ c ∈ cs, G c = none := fun c hc => s.none (hn c hc)
  refine (t.ext (addH_same hn)).mono (addH_same gn) fun b ps z => ?_
  by_cases hb : b ∈ cs
  · obtain ⟨o, v, e1, e2⟩ := k b hb
    rw [addH_in hb e1] at z
    cases z
  · rw [addH_out hb] at z; exact t.1 b ps z
theorem Ext.unadd (k : CellsAt cs h) (hn : ∀ c ∈ cs, H c = none) (s : Same G H) (e : Ext (addH G cs h) (addH H cs h) G' H') : Ext G H (rmv G' cs) (rmv H' cs) := by
  have gn : ∀ c ∈ cs, G c = none := fun c hc => s.none (hn c hc)
  have kG : CsOk G' cs := fun c hc => let ⟨o, v, e1, e2⟩ := addH_cs (H := G) k c hc; ⟨o, v, e.g _ _ e1, e2⟩
  refine ⟨fun b x q => ?_, fun b x q => ?_, fun b x q n t => ?_, fun b q => ?_, fun t => ?_⟩
  · have hb : b ∉ cs := fun z => by rw [gn b z] at q; cases q
    rw [rmv_out hb]; exact e.g b x (by rw [addH_out hb]; exact q)
  · obtain ⟨q1, q2⟩ := rmv_sub q
    rw [rmv_out q2]; exact e.s _ _ q1
  · have hb : b ∉ cs := fun z => by rw [hn b z] at q; cases q
    rw [rmv_out hb, rmv_out hb]
    exact e.k b x (by rw [addH_out hb]; exact q) (by rw [addH_out hb]; exact n) t
  · by_cases hb : b ∈ cs
    · exact hn b hb
    · rw [rmv_out hb] at q
      have := e.d b q
      rw [addH_out hb] at this
      exact this
  · exact (e.t (addH_tabs k t hn s)).rmv kG e.s
end
theorem same_rmv (s : Same G H) (k : CsOk G cs) : Same (rmv G cs) (rmv H cs) := fun b x h => by
  obtain ⟨h1, h2⟩ := rmv_sub h
  rw [rmv_out h2]
  exact s _ _ h1
theorem same_readd (hn : ∀ c ∈ cs, G' c = none) : Same G' (readd G G' cs) := fun b x h => by
  rw [readd_out (fun z => by rw [hn b z] at h; cases h)]
  exact h
end
/-! ### data without anything shut -/
mutual
def dataD : D → Bool
  | .op _ _ => false
  | .tup xs => dataDs xs
  | .lst xs => dataDs xs
  | .scr xs => dataDs xs
  | .dic ks vs => dataDs ks && dataDs vs
  | .non => true
  | .bl _ => true
  | .int _ => true
  | .str _ => true
def dataDs : List D → Bool
  | [] => true
  | d :: ds => dataD d && dataDs ds
end
section
variable [TabN] {Γ Γ' : Gam} {K : PySem.W.Frag} {G G' : Hp}
/-- what is kept of a heap for such data -/
structure Keeps (G G' : Hp) : Prop where
  tup : ∀ b xs, G b = some (.tup xs) → G' b = some (.tup xs)
  lst : ∀ b xs, G b = some (.lst xs) → G' b = some (.lst xs)
  frz : ∀ b o u, G b = some (.frz o u) → G' b = some (.frz o u)
  dic : ∀ b o es ep, o.data = .dict es ep → G b = some (dO b o) → G' b = some (dO b o)
  ins : ∀ b C dx fs, G b = some (.ins C dx fs) → G' b = some (.ins C dx fs)
theorem keeps_same (s : Same G G') : Keeps G G' := ⟨fun b _ h => s _ _ h, fun b _ h => s _ _ h, fun b _ _ h => s _ _ h, fun b _ _ _ _ h => s _ _ h, fun b _ _ _ h => s _ _ h⟩
theorem keeps_rmv {cs : List Addr} (k : CsOk G cs) : Keeps G (rmv G cs) := by
  refine ⟨fun b xs h => ?_, fun b xs h => ?_, fun b o u h => ?_, fun b o es ep hd h => ?_, fun b C dx fs h => ?_⟩
  · rw [rmv_out (k.not h fun _ z => nomatch z)]; exact h
  · rw [rmv_out (k.not h fun _ z => nomatch z)]; exact h
  · rw [rmv_out (k.not h fun _ z => nomatch z)]; exact h
  · rw [rmv_out fun z => ?_]
    · exact h
    · obtain ⟨o', v, e1, e2⟩ := k b z
      rw [e1] at h
      have hf : o'.isFreed = false := by
        obtain ⟨cl, d, da, sl⟩ := o'
        dsimp only at e2
        subst e2
        rfl
      have := dO_inj hf (Option.some.inj h)
      rw [← this, e2] at hd
      cases hd
  · rw [rmv_out (k.not h fun _ z => nomatch z)]; exact h
mutual
theorem Rp.conv (hP : Γ'.P = Γ.P) (hw : Γ'.w = Γ.w) (kp : Keeps G G') : ∀ {v : V} {d : D}, Rp Γ K G v d → dataD d = true → Rp Γ' K G' v d
  | _, _, .non, _ => .non
  | _, _, .bl b, _ => .bl b
  | _, _, .int i, _ => .int i
  | _, _, .str x, _ => .str x
  | _, _, .tup h r, f => .tup (h.imp (fun h => h.imp (kp.tup _ _) fun ⟨o, h⟩ => ⟨o, kp.frz _ _ _ h⟩) id) (RpA.conv hP hw kp r (by simpa [dataD] using f))
  | _, _, .lst h r, f => .lst (kp.lst _ _ h) (RpA.conv hP hw kp r (by simpa [dataD] using f))
  | _, _, .scr h r, f => .scr (h.imp (fun h => h.imp (kp.lst _ _) fun ⟨o, h⟩ => ⟨o, kp.frz _ _ _ h⟩) id) (RpA.conv hP hw kp r (by simpa [dataD] using f))
  | _, _, .op _ _, f => by simp [dataD] at f
  | _, _, .dic h x n r q, f => by
    have f' := (show _ ∧ _ by simpa [dataD] using f)
    obtain ⟨_, _, es, ep, xs, _, hd, _⟩ := id x
    exact .dic (kp.dic _ _ _ _ hd h) (by rw [hP, hw]; exact x) n (RpA.conv hP hw kp r f'.1) (RpA.conv hP hw kp q f'.2)
theorem RpA.conv (hP : Γ'.P = Γ.P) (hw : Γ'.w = Γ.w) (kp : Keeps G G') : ∀ {vs : List V} {ds : List D}, RpA Γ K G vs ds → dataDs ds = true → RpA Γ' K G' vs ds
  | _, _, .nil, _ => .nil
  | _, _, .cons h r, f => by
    have f' := (show _ ∧ _ by simpa [dataDs] using f)
    exact .cons (Rp.conv hP hw kp h f'.1) (RpA.conv hP hw kp r f'.2)
end
end
end VL
end
section
set_option Elab.async false
set_option linter.all false
set_option maxRecDepth 100000
set_option maxHeartbeats 4000000
set_option autoImplicit false
/-! Closures: the lambda's own frame. -/
namespace VL
open PySem PySem.Spec PyProof.Rows L2
variable [TabN]
/-- a lambda of the text: its code's name, the names that it captures -/
structure Lm where
  params : Arguments
  body : Expr
  scope : Scope
  q : Str
  caps : List Str
structure LmOk (L : Lm) : Prop where
  kind : L.scope.kind = .function
  co : L.scope.isCoroutine = false
  gen : L.scope.isGenerator = false
  own : ∀ y ∈ L.scope.names, y.2 ≠ .local ∧ y.2 ≠ .cell
  free : ∀ y, L.scope.names.lookup y = some .free → y ∈ L.caps
  nd : L.caps.Nodup
  bind : ∀ (cl : List (Str × Addr)) (pm cv ctv : Value), bindArgs (PySem.W.kla_fn "<lambda>" L.q L.params L.body L.scope cl pm cv ctv) ⟨[], []⟩ = pure []
def lamObj (L : Lm) (cl : List (Str × Addr)) (pm : Value) (c' : Addr) (ctv : Value) : Obj := PySem.W.kla_obj "<lambda>" L.q L.params L.body L.scope cl pm c' ctv
/-- a closure: its cells cs hold the values us -/
structure CloC (H : Hp) (L : Lm) (f c' : Addr) (pm ctv : Value) (cl : List (Str × Addr)) (cs : List Addr) (us : List Value) : Prop where
  obj : H f = some (dO f (lamObj L cl pm c' ctv))
  code : H c' = some (LamX.CodeO c' L.q)
  len : cs.length = L.caps.length ∧ us.length = L.caps.length
  to : ∀ (i : Nat) (y : Str), L.caps[i]? = some y → ∃ c, cs[i]? = some c ∧ cl.lookup y = some c
  of : ∀ (y : Str) (c : Addr), cl.lookup y = some c → ∃ i : Nat, L.caps[i]? = some y ∧ cs[i]? = some c
  inj : ∀ (y z : Str) (c : Addr), cl.lookup y = some c → cl.lookup z = some c → y = z
  cell : ∀ (i : Nat) (c : Addr) (u : Value), cs[i]? = some c → us[i]? = some u → ∃ o, H c = some (dO c o) ∧ o.data = .cell (some u)
def CloAt (H : Hp) (L : Lm) (f : Addr) (vs : List V) : Prop := ∃ c' pm ctv cl cs us, CloC H L f c' pm ctv cl cs us ∧ Vals vs us
theorem CloAt.mono {H H' : Hp} {L : Lm} {f : Addr} {vs : List V} (s : Same H H') (h : CloAt H L f vs) : CloAt H' L f vs := by
  obtain ⟨c', pm, ctv, cl, cs, us, k, r⟩ := h
  exact ⟨c', pm, ctv, cl, cs, us, ⟨s _ _ k.obj, s _ _ k.code, k.len, k.to, k.of, k.inj, fun i c u a b => let ⟨o, e1, e2⟩ := k.cell i c u a b; ⟨o, s _ _ e1, e2⟩⟩, r⟩
theorem CloC.csOk {H : Hp} {L : Lm} {f c' : Addr} {pm ctv : Value} {cl : List (Str × Addr)} {cs : List Addr} {us : List Value} (k : CloC H L f c' pm ctv cl cs us) : CsOk H cs := fun c hc => by
  obtain ⟨i, hi, e⟩ := List.mem_iff_getElem.mp hc
  have hl := k.len
  obtain ⟨o, e1, e2⟩ := k.cell i c (us[i]'(by omega)) (by rw [List.getElem?_eq_getElem hi, e]) (List.getElem?_eq_getElem (by omega))
  exact ⟨o, _, e1, e2⟩
/-- the lambda's frame -/
abbrev cloEnv (L : Lm) (s : Shared) (f c' : Addr) (cl : List (Str × Addr)) : Env := PySem.W.envX L.q L.scope s.heap.objs.size f (.ref c') cl
def cloCx (P : Program) (w : World) (K : PySem.W.Frag) (mg : Str → Option Value) (base : Heap) (L : Lm) (A : Around) (outer : List Env) (s : Shared) (H : Hp) (E : XK) (f c' : Addr) (cl : List (Str × Addr)) : Cx where
  prog := P
  w := w
  K := K
  mg := mg
  base := base
  A := A.deeper (cloEnv L s f c' cl)
  N := L.caps
  s_0 := s
  H_0 := H
  env := cloEnv L s f c' cl
  outer := outer
  stack := cloEnv L s f c' cl :: outer
  ex := []
  fn := fun _ => false
  calm := true
  pn := []
  xe := fun e s' => wpAny (model P w) (A.deeper (cloEnv L s f c' cl)) (leaving (cloEnv L s f c' cl) e) (fun _ s'' => L2.CX P w outer H s E e s'') (fun e' s'' => L2.CX P w outer H s E e' s'') s'
section
variable {P : Program} {w : World} {K : PySem.W.Frag} {mg : Str → Option Value} {base : Heap} {L : Lm} {A : Around} {outer : List Env} {s : Shared} {H : Hp} {E : XK} {f c' : Addr} {pm ctv : Value} {cl : List (Str × Addr)} {cs : List Addr} {us : List Value} {vs : List V}
theorem clo_start {h₁ : Heap} {tk : Nat} (ok : LmOk L) (k : CloC H L f c' pm ctv cl cs us) (r : Vals vs us) (e0 : Env0 P w K mg base A outer s H) (hd : A.handled = none)
    (hns : h₁.Ns s.heap.objs.size fun y => ([] : List (Str × Value)).reverse.lookup y) (kp : ∀ b o, s.heap.get? b = some o → h₁.get? b = some o) :
    Inv (cloCx P w K mg base L A outer s (rmv H cs) E f c' cl) [] (vs.map some) (rmv H cs) { s with heap := h₁, toks := tk } := by
  have kc := k.csOk
  have hk0 : HOk P w (rmv H cs) s.heap := rmv_hok kc e0.hok
  have look : ∀ {y : Str} {c : Addr}, cl.lookup y = some c → c ∈ cs ∧ ∃ (i : Nat) (u : Value), L.caps[i]? = some y ∧ us[i]? = some u ∧ h₁.IsCell c (some u) := fun {y c} e => by
    obtain ⟨i, h1, h2⟩ := k.of y c e
    have hl := k.len
    have hi : i < us.length := by have := (List.getElem?_eq_some_iff.mp h1).1; omega
    obtain ⟨o, e1, e2⟩ := k.cell i c us[i] h2 (List.getElem?_eq_getElem hi)
    obtain ⟨g, _⟩ := (show (s.heap.get? c = some o) ∧ _ from e0.hok c _ e1)
    exact ⟨List.mem_of_getElem? h2, i, us[i], h1, List.getElem?_eq_getElem hi, o, kp _ _ g, e2⟩
  have noA : ∀ b : Addr, b ∉ (cloCx P w K mg base L A outer s (rmv H cs) E f c' cl).ex := fun b z => nomatch (show b ∈ ([] : List Addr) from z)
  have rn : ∀ {b : Addr}, H b = none → rmv H cs b = none := fun {b} hb => by
    by_cases q : b ∈ cs
    · exact rmv_in q
    · rw [rmv_out q]; exact hb
  refine ⟨⟨e0.mod, ok.kind, rfl, rfl, Nat.le_refl _, fun y z c e1 e2 => k.inj y z c e1 e2, fun y hy => ?_, fun y c z _ => ?_, fun _ => hd, Around.frames_deeper e0.frames, .inr ⟨rfl, rfl⟩, fun b z => absurd z (noA b), fun b o e => ⟨(e0.bs b o e).1, ?_⟩, e0.bsz, fun b _ _ => noA b, fun b z => absurd z (noA b), e0.funs, fun b hb => ?_⟩,
    rfl, e0.bare, Un.kept kp, ⟨_, hns, fun i y v e1 e2 e3 => ?_⟩, fun y c e => ?_, hk0.fresh (Nat.le_refl _), fun y c e => rmv_in (look e).1, (fun q hq => nomatch (show q ∈ ([] : List (Addr × Obj)) ++ [] from hq)), hk0.kept kp, ?_⟩
  · have hy : L.scope.names.lookup y = some .cell ∨ L.scope.names.lookup y = some .free := hy
    rcases hy with hy | hy
    · exact absurd rfl (ok.own _ (PySem.mem_of_lookup hy)).2
    · obtain ⟨i, hi, e⟩ := List.mem_iff_getElem.mp (ok.free y hy)
      obtain ⟨c, _, h2⟩ := k.to i y (by rw [List.getElem?_eq_getElem hi, e])
      exact ⟨c, h2⟩
  · have z : false = true := z
    cases z
  · exact rn (e0.bs b o e).2
  · exact rn (e0.frf b hb)
  · have e3 : Vis L.scope y := e3
    have e1 : L.caps[i]? = some y := e1
    rcases e3 with q | q | q
    · exact absurd rfl (ok.own _ (PySem.mem_of_lookup q)).1
    · exact absurd rfl (ok.own _ (PySem.mem_of_lookup q)).2
    · have e4 : vs[i]? = some v := by
        rw [List.getElem?_map] at e2
        cases hv : vs[i]? with
        | none => rw [hv] at e2; cases e2
        | some z => rw [hv] at e2; cases e2; rfl
      obtain ⟨u, hu, rv⟩ := r.get e4
      obtain ⟨c, h1, h2⟩ := k.to i y e1
      obtain ⟨o, a1, a2⟩ := k.cell i c u h1 hu
      obtain ⟨g, _⟩ := (show (s.heap.get? c = some o) ∧ _ from e0.hok c _ a1)
      exact ⟨u, rv, .inr ⟨.inr q, c, h2, o, kp _ _ g, a2⟩⟩
  · obtain ⟨_, i, u, _, _, z⟩ := look e
    exact ⟨_, z⟩
  · show (vs.map some).length = L.caps.length
    rw [List.length_map, r.length]
    exact k.len.2
/-- an exception that left while the cells were out -/
theorem cx_readd {u : Value} {s' : Shared} {E' : XK} (k : CsOk H cs) (hs : ∀ c ∈ cs, ∀ o, H c = some (dO c o) → s.heap.get? c = some o) (hf : ∀ c ∈ cs, c ∉ frs outer) (h : L2.CX P w outer (rmv H cs) s E' u s')
    (hE : ∀ cls d H', (∀ c ∈ cs, H' c = none) → E' cls d H' → E cls d (readd H H' cs)) : L2.CX P w outer H s E u s' := by
  obtain ⟨a, B, H', cls, d, rfl, fl, hok, ub, na, os, ag, hE'⟩ := h
  obtain ⟨n, kB, ub'⟩ := readd_ub k hs hf ub
  refine ⟨a, B, readd H H' cs, cls, d, rfl, fl, readd_hok k n kB hok, ub', ?_, os, ag, hE cls d H' n hE'⟩
  by_cases ha : a ∈ cs
  · obtain ⟨o, v, e1, e2⟩ := k a ha
    have := kB a ha o e1
    rw [fl.2.1] at this
    cases this
  · rw [readd_out ha]; exact na
end
end VL
end
section
set_option Elab.async false
set_option linter.all false
set_option maxRecDepth 100000
set_option maxHeartbeats 4000000
set_option autoImplicit false
/-! Closures: the call of one. -/
namespace VL
open PySem PySem.Spec PyProof.Rows L2
variable [TabN]
structure GamOk (Γ : Gam) (P : Program) (w : World) (Ca : Nat → Addr) : Prop where
  P : Γ.P = P
  w : Γ.w = w
  cls : ∀ k, Γ.cls k = .ref (Ca k)
  no1 : ∀ K H v vs, ¬ Γ.O K H v 1 vs
  obj : ∀ K H v vs, Γ.O K H v 3 vs ↔ WObj H v vs
  hdl : ∀ K H v vs, Γ.O K H v 5 vs ↔ ∃ p : Addr, v = .ref p ∧ vs = [.int p]
/-- what a closure may capture: data, an instance of data, the address of one -/
def capD : D → Bool
  | .op n ds => (n == 3 || n == 5) && dataDs ds
  | .non => true
  | .bl _ => true
  | .int _ => true
  | .str _ => true
  | .tup xs => dataDs xs
  | .lst xs => dataDs xs
  | .scr xs => dataDs xs
  | .dic ks vs => dataDs ks && dataDs vs
def capDs : List D → Bool
  | [] => true
  | d :: ds => capD d && capDs ds
theorem WObj.keeps {G G' : Hp} {v : V} {vs : List V} (k : Keeps G G') (h : WObj G v vs) : WObj G' v vs :=
  let ⟨C, a, dx, s, e, l, h1, h2, h3, h4⟩ := h
  ⟨C, a, dx, s, e, l, h1, h2, h3, k.ins _ _ _ _ h4⟩
theorem Rp.convC {Γ Γ' : Gam} {P : Program} {w : World} {Ca Ca' : Nat → Addr} {K : PySem.W.Frag} {G G' : Hp} (gO : GamOk Γ P w Ca) (gO' : GamOk Γ' P w Ca') (kp : Keeps G G') : ∀ {v : V} {d : D}, Rp Γ K G v d → capD d = true → Rp Γ' K G' v d := fun {v d} r h => by
  have eP : Γ'.P = Γ.P := gO'.P.trans gO.P.symm
  have ew : Γ'.w = Γ.w := gO'.w.trans gO.w.symm
  cases r with
  | op hO hA =>
    rename_i n vs ds
    have hn : (n = 3 ∨ n = 5) ∧ dataDs ds = true := by simpa [capD] using h
    obtain ⟨rfl | rfl, hd⟩ := hn
    · exact .op ((gO'.obj _ _ _ _).mpr (((gO.obj _ _ _ _).mp hO).keeps kp)) (RpA.conv eP ew kp hA hd)
    · exact .op ((gO'.hdl _ _ _ _).mpr ((gO.hdl _ _ _ _).mp hO)) (RpA.conv eP ew kp hA hd)
  | non => exact .non
  | bl b => exact .bl b
  | int i => exact .int i
  | str x => exact .str x
  | tup a b => exact Rp.conv eP ew kp (.tup a b) (by simpa [capD, dataD] using h)
  | lst a b => exact Rp.conv eP ew kp (.lst a b) (by simpa [capD, dataD] using h)
  | scr a b => exact Rp.conv eP ew kp (.scr a b) (by simpa [capD, dataD] using h)
  | dic a b c d e => exact Rp.conv eP ew kp (.dic a b c d e) (by simpa [capD, dataD] using h)
theorem RpA.convC {Γ Γ' : Gam} {P : Program} {w : World} {Ca Ca' : Nat → Addr} {K : PySem.W.Frag} {G G' : Hp} (gO : GamOk Γ P w Ca) (gO' : GamOk Γ' P w Ca') (kp : Keeps G G') : ∀ {vs : List V} {ds : List D}, RpA Γ K G vs ds → capDs ds = true → RpA Γ' K G' vs ds
  | _, _, .nil, _ => .nil
  | _, _, .cons h r, f => by
    have f' := (show _ ∧ _ by simpa [capDs] using f)
    exact .cons (Rp.convC gO gO' kp h f'.1) (RpA.convC gO gO' kp r f'.2)
/-- even numbers from 10 on are closures -/
def CloG (Γ : Gam) (LT : Nat → Option Lm) : Prop := ∀ K H v k vs, Γ.O K H v (2 * k + 10) vs ↔ ∃ L f, LT k = some L ∧ v = .ref f ∧ CloAt H L f vs
structure LamB (Γ : Gam) (P : Program) (w : World) (K : PySem.W.Frag) (mg : Str → Option Value) (base : Heap) (LT : Nat → Option Lm) (j : Nat) (fL : Nat → En → R D) : Prop where
  ok : ∀ k L, LT k = some L → LmOk L
  body : ∀ k L, LT k = some L → ∀ (A : Around) (outer : List Env) (s : Shared) (H : Hp) (E : XK) (f c' : Addr) (cl : List (Str × Addr)), Ct (cloCx P w K mg base L A outer s H E f c' cl) (fun cls d _ H' => E cls d H') j →
    SE Γ (cloCx P w K mg base L A outer s H E f c' cl) (fun cls d _ H' => E cls d H') L.body (fL k)
def cloM (fL : Nat → En → R D) : D → R D
  | .op n ds => if n % 2 = 0 ∧ 10 ≤ n ∧ capDs ds = true then fL ((n - 10) / 2) (ds.map fun d => some (.val d)) else .stuck
  | _ => .stuck
section
variable {Γ : Gam} {X : Cx} {W : WX} {LT : Nat → Option Lm} {fL : Nat → En → R D} {j : Nat} {p1 p2 : Pos}
theorem pass_here (C : Ct X W j) {σ : L2.St} {H : Hp} {s s' : Shared} {pins : List (Addr × Obj)} {e : Value} (I : Inv X pins σ H s) (h : L2.CX X.prog X.w X.stack H s (WE W σ) e s') : X.xe e s' := passAt C.tk σ pins H s e s' I h
theorem se_clo (i : Nat) {x : Str} {Ca : Nat → Addr} (C : Ct X W (j + 1)) (gO : GamOk Γ X.prog X.w Ca) (hC : CloG Γ LT) (LB : LamB Γ X.prog X.w X.K X.mg X.base LT j fL) (hN : X.N[i]? = some x := by rfl) (hv : Vis X.env.scope x := by first | exact Or.inl rfl | exact Or.inr (Or.inl rfl) | exact Or.inr (Or.inr rfl))
    (hd : (x == ("__debug__" : Str)) = false := by decide) (hcd : (x == ("__classdict__" : Str)) = false := by decide) :
    SE Γ X W (.Call (.Name x p1) [] [] p2) (fun ρ => (var i ρ).bind (cloM fL)) := ⟨fun pins s σ H Q I hh => by
  obtain ⟨B, G, ρ, r, p⟩ := hh
  dsimp only at p
  unfold var at p
  split at p
  case h_2 => exact p.elim
  rename_i d hi
  obtain ⟨v, hσ, rv⟩ := r.val hi
  replace p : Post Γ W G H σ (Rp Γ X.K) Q (cloM fL d) := p
  cases d with
  | op n ds =>
    obtain ⟨⟨n1, n2, n3⟩, p⟩ := Post.guard (n % 2 = 0 ∧ 10 ≤ n ∧ capDs ds = true) p
    obtain ⟨k, rfl⟩ : ∃ k, n = 2 * k + 10 := ⟨(n - 10) / 2, by omega⟩
    have ek : (2 * k + 10 - 10) / 2 = k := by omega
    rw [ek] at p
    cases rv with
    | op hO hA =>
    rename_i vs
    obtain ⟨L, f, hL, rfl, c', pm, ctv, cl, cs, us, cG, rvs⟩ := (hC _ _ _ _ _).mp hO
    have sGH := r.same
    have kG := cG.csOk
    have kH : CsOk H cs := fun c hc => let ⟨o, v, e1, e2⟩ := kG c hc; ⟨o, v, sGH _ _ e1, e2⟩
    have cH : CloC H L f c' pm ctv cl cs us := ⟨sGH _ _ cG.obj, sGH _ _ cG.code, cG.len, cG.to, cG.of, cG.inj, fun i c u a b => let ⟨o, e1, e2⟩ := cG.cell i c u a b; ⟨o, sGH _ _ e1, e2⟩⟩
    have lok := LB.ok k L hL
    refine wpAny_Call_Name_kw (thn ((pe_var (pos := p1) (i := i) hN hv hd hcd).run pins s σ H (fun v' H1 => v' = .ref f ∧ H1 = H) I ⟨.ref f, hσ, rfl, rfl⟩) fun u s1 hu => ?_)
    obtain ⟨v', H1, I1, r1, ev, eH⟩ := hu
    subst ev
    rw [eH] at I1
    obtain rfl : u = Value.ref f := r1
    have of1 : s1.heap.get? f = some (lamObj L cl pm c' ctv) := (show (s1.heap.get? f = some (lamObj L cl pm c' ctv)) ∧ _ from I1.hok f _ cH.obj).1
    have hs1 : ∀ c ∈ cs, ∀ o, H c = some (dO c o) → s1.heap.get? c = some o := fun c _ o e => (show (s1.heap.get? c = some o) ∧ _ from I1.hok c _ e).1
    have hfr : ∀ c ∈ cs, c ∉ frs X.stack := fun c hc z => by
      obtain ⟨o, v, e1, _⟩ := kH c hc
      have := I1.env0.frf c z
      rw [e1] at this
      cases this
    refine PySem.W.callWith_F0 ⟨_, _, _, _, of1⟩ ?_
    obtain ⟨⟨oc, vc, t, hoc, hdc, hvc⟩, _, _⟩ := I1.hok c' _ cH.code
    have rc : codeAny (model X.prog X.w) X.A (.call (.ref f) ⟨[], []⟩) (CR (L2.CX X.prog X.w) X.stack X.prog X.w H s1 Q (WE W σ)) s1 := by
      refine PySem.W.kla_callFunE C.hr.depth of1 rfl lok.co lok.gen rfl ⟨c', oc, vc, t, rfl, hoc, hdc, hvc⟩ ?_
      rw [lok.bind]
      refine wpAny_pure (wpAny_newFunctionEnv (fun y hy => (lok.own y hy).2) (fun y hy => absurd hy (by simp)) (fun h₁ hns hsb => ⟨I1.nolimit.fresh _ hsb, ?_⟩) lok.kind)
      show codeAny _ _ (.expr L.body (cloEnv L s1 f c' cl)) _ _
      have kp : ∀ b o, s1.heap.get? b = some o → h₁.get? b = some o := fun b o e => hsb.extBut b o (Nat.ne_of_lt (Heap.lt_size e)) (Heap.get?_push_of_some _ e)
      let Em : XK := fun cls d H'' => (∀ c ∈ cs, H'' c = none) → W cls d σ (readd H H'' cs)
      let Qm : VK := fun v H'' => (∀ c ∈ cs, H'' c = none) → Q v (readd H H'' cs)
      have J : Inv (cloCx X.prog X.w X.K X.mg X.base L X.A X.stack s1 (rmv H cs) Em f c' cl) [] (vs.map some) (rmv H cs) { s1 with heap := h₁, toks := s1.toks + ([] : List (Str × Value)).length } := clo_start lok cH rvs I1.env0 C.hr.hd hns kp
      have hlen : vs.length = L.caps.length := by rw [rvs.length]; exact cH.len.2
      have rA : RpA Γ X.K (rmv G cs) vs ds := RpA.convC gO gO (keeps_rmv kG) hA n3
      have rel : Rel Γ X.K (rmv G cs, rmv H cs) (rmv G cs) (rmv H cs) (vs.map some) (ds.map fun d => some (.val d)) := by
        have q := start_rel (N := L.caps) (same_rmv sGH kG) (r.tab.rmv kG sGH) rA
        have e1 : L2.start L.caps vs = vs.map some := by unfold L2.start; simp [hlen]
        have e2 : L.caps.length - ds.length = 0 := by rw [← rA.length]; omega
        rw [e1, e2, List.replicate_zero, List.append_nil] at q
        exact q
      have post : Post Γ (fun cls d _ H' => Em cls d H') (rmv G cs) (rmv H cs) (vs.map some) (Rp Γ X.K) Qm (fL k (ds.map fun d => some (.val d))) := by
        cases hf : fL k (ds.map fun d => some (.val d)) with
        | ok d =>
          rw [hf] at p
          intro G2 H2 v e2 rv hn
          exact p _ _ _ (Ext.readd kG sGH hn e2) (rv.mono (same_readd fun c hc => e2.s.none (hn c hc)))
        | exc c =>
          rw [hf] at p
          intro G2 H2 e2 hn
          exact p _ _ (Ext.readd kG sGH hn e2)
        | stuck => rw [hf] at p; exact p.elim
      have ct : Ct (cloCx X.prog X.w X.K X.mg X.base L X.A X.stack s1 (rmv H cs) Em f c' cl) (fun cls d _ H' => Em cls d H') j := ⟨takes_of rfl rfl rfl rfl, passes_of rfl, rfl, lok.nd, C.hr.deeper _⟩
      refine PySem.W.kla_codeExpr (wpAny_mono ((LB.body k L hL X.A X.stack s1 (rmv H cs) Em f c' cl ct).run [] _ _ (rmv H cs) Qm J ⟨_, _, _, rel, post⟩) (fun v s' hq => ?_) fun e s' hq => ?_)
      · obtain ⟨w', H2, J2, rv, q⟩ := hq
        obtain ⟨a1, a2, a3⟩ := readd_un kH hs1 hfr J2.base
        exact ⟨w', readd H H2 cs, J2.os, J2.bare, a3, readd_hok kH a1 a2 J2.hok, rv, q a1⟩
      · exact wpAny_mono hq (fun _ s'' z => cx_readd kH hs1 hfr z fun cls d H' hn z => z hn) fun e'' s'' z => cx_readd kH hs1 hfr z fun cls d H' hn z => z hn
    refine wpAny_call (codeAny_mono rc fun r s' hq => ?_)
    cases r with
    | error e => exact pass_here C I1 hq
    | ok fl =>
      cases fl with
      | ret u => exact I1.after hq
      | next => exact False.elim hq
      | brk => exact False.elim hq
      | cont => exact False.elim hq
  | _ => exact p.elim⟩
end
end VL
end
section
set_option Elab.async false
set_option linter.all false
set_option maxRecDepth 100000
set_option maxHeartbeats 4000000
set_option autoImplicit false
/-! Closures: how one is made, and handed to a def. -/
namespace VL
open PySem PySem.Spec PyProof.Rows L2
variable [TabN]
/-- closures (even numbers), and those of the frame with these cells (odd numbers) -/
def gamL (P : Program) (w : World) (C : Nat → Addr) (LT : Nat → Option Lm) (cells : List (Str × Addr)) : Gam where
  O := fun _ H v n vs => (∃ k L f, n = 2 * k + 10 ∧ LT k = some L ∧ v = .ref f ∧ CloAt H L f vs) ∨
    (∃ k L f c' pm ctv, n = 2 * k + 11 ∧ LT k = some L ∧ vs = [] ∧ v = .ref f ∧ H f = some (dO f (lamObj L (cloFrom cells L.scope.names []) pm c' ctv)) ∧ H c' = some (LamX.CodeO c' L.q)) ∨ (n = 3 ∧ WObj H v vs) ∨ (n = 5 ∧ ∃ p : Addr, v = .ref p ∧ vs = [.int p])
  ob := fun h => .inr (.inr (.inl ⟨rfl, h⟩))
  mono := fun {K H H' v n vs} s h => by
    rcases h with ⟨k, L, f, a, b, c, d⟩ | ⟨k, L, f, c', pm, ctv, a, b, c, d, e, g⟩ | ⟨a, b⟩ | h
    · exact .inl ⟨k, L, f, a, b, c, d.mono s⟩
    · exact .inr (.inl ⟨k, L, f, c', pm, ctv, a, b, c, d, s _ _ e, s _ _ g⟩)
    · exact .inr (.inr (.inl ⟨a, b.mono s⟩))
    · exact .inr (.inr (.inr h))
  cls := fun k => .ref (C k)
  P := P
  w := w
section
variable {P : Program} {w : World} {Ca : Nat → Addr} {LT : Nat → Option Lm} {cells : List (Str × Addr)}
theorem gamL_ok : GamOk (gamL P w Ca LT cells) P w Ca := ⟨rfl, rfl, fun _ => rfl, fun K H v vs h => by
  rcases h with ⟨k, L, f, a, _⟩ | ⟨k, L, f, c', pm, ctv, a, _⟩ | ⟨a, _⟩ | ⟨a, _⟩ <;> omega, fun K H v vs => ⟨fun h => by
    rcases h with ⟨k, L, f, a, _⟩ | ⟨k, L, f, c', pm, ctv, a, _⟩ | ⟨_, a⟩ | ⟨a, _⟩
    · omega
    · omega
    · exact a
    · omega, fun h => .inr (.inr (.inl ⟨rfl, h⟩))⟩, fun K H v vs => ⟨fun h => by
    rcases h with ⟨k, L, f, a, _⟩ | ⟨k, L, f, c', pm, ctv, a, _⟩ | ⟨a, _⟩ | ⟨_, a⟩
    · omega
    · omega
    · omega
    · exact a, fun h => .inr (.inr (.inr ⟨rfl, h⟩))⟩⟩
theorem gamL_clo : CloG (gamL P w Ca LT cells) LT := fun K H v k vs => ⟨fun h => by
  rcases h with ⟨k', L, f, a, b, c, d⟩ | ⟨k', L, f, c', pm, ctv, a, _⟩ | ⟨a, _⟩ | ⟨a, _⟩
  · obtain rfl : k' = k := by omega
    exact ⟨L, f, b, c, d⟩
  · omega
  · omega
  · omega, fun ⟨L, f, b, c, d⟩ => .inl ⟨k, L, f, rfl, b, c, d⟩⟩
end
section
variable {X : Cx} {W : WX} {Ca : Nat → Addr} {LT : Nat → Option Lm} {j : Nat} {pos p : Pos}
/-- lambda: body -/
theorem se_lam (k : Nat) {params : Arguments} {body : Expr} {scope : Scope} {caps : List Str} {c P : Addr} (hL : LT k = some ⟨params, body, scope, X.env.qual ++ "<lambda>", caps⟩) (TB : LamX.TabB X.base X.mg c P) (hcode : X.env.code = .ref c) (hnm : TabN.nm P = some (X.env.qual ++ "<lambda>"))
    (L : LamX.LamS X.env.scope scope) (hdef : defaultsOf params X.env = ([], []) := by rfl) : SE (gamL X.prog X.w Ca LT X.env.cells) X W (.Lambda params body scope pos) (fun _ => .ok (.op (2 * k + 11) [])) := ⟨fun pins s σ H Q I hh => by
  obtain ⟨B, G, ρ, r, post⟩ := hh
  dsimp only at post
  obtain ⟨ps, hP, ht, ha⟩ := r.tab.2 P _ hnm
  have sGH := r.same
  have ntG := r.tab.1
  have atP : s.heap.get? P = some { cls := .none, data := .fields ps } := I.hok P _ hP
  have bltP : s.heap.BuiltinsAt X.mg P := TB.bm.keeps I.bk
  have cells : ∀ y ∈ scope.names, y.2 = .free → ∃ c, X.env.cells.lookup y.1 = some c := L.has I.ok
  have gP : G P = none := by
    cases e : G P with
    | none => rfl
    | some x =>
      have := sGH _ _ e
      rw [hP] at this
      cases this
      exact absurd e (ntG P ps)
  refine PySem.W.kla_eval hdef ?_
  cases hc : codeAmong pos ps.toList with
  | none =>
    refine PySem.W.kla_makeFunction (mg := X.mg) (c := c) (P := P) (ps := ps) (closure_ok cells) I.ok.glob (I.mod.glob.keeps I.bk) hcode
      (TB.code.keeps I.bk) atP ht hc TB.gP bltP fun c' ctv hp tks hx hge hlt hrec htb => ?_
    obtain ⟨c2, oc, vc, t, e2, hoc, hdc, hvc⟩ := hrec
    cases e2
    have nC : H c' = none := I.hok.fresh hge
    have nPc : P ≠ c' := ne_of_none hP nC
    have I1 := LamX.inv_table (t' := tks) (more := #[rawInt pos.line, rawInt pos.col, .ref c']) (h' := hp) I hP hx htb hge ⟨oc, vc, t, hoc, hdc, hvc⟩
    have hsz : s.heap.objs.size ≤ hp.objs.size := Nat.le_trans hge (Nat.le_of_lt hlt)
    have nF : upd (upd H P (.tbl (ps ++ #[rawInt pos.line, rawInt pos.col, .ref c']))) c' (LamX.CodeO c' (X.env.qual ++ "<lambda>")) hp.objs.size = none := I1.hok.fresh (Nat.le_refl _)
    have nFc : hp.objs.size ≠ c' := Nat.ne_of_gt hlt
    have nFP : hp.objs.size ≠ P := Nat.ne_of_gt (Nat.lt_of_lt_of_le (Heap.lt_size atP) hsz)
    have nFH : H hp.objs.size = none := by rw [upd_ne nFc, upd_ne nFP] at nF; exact nF
    have I2 := I1.laid (a := hp.objs.size) (o := dO hp.objs.size (lamObj ⟨params, body, scope, X.env.qual ++ "<lambda>", caps⟩ (cloFrom X.env.cells scope.names []) ((X.mg "__name__").getD .none) c' ctv)) (t' := tks) (h' := hp.push (lamObj ⟨params, body, scope, X.env.qual ++ "<lambda>", caps⟩ (cloFrom X.env.cells scope.names []) ((X.mg "__name__").getD .none) c' ctv))
      (fun _ _ q => Heap.get?_push_of_some _ q) (Nat.le_refl _) ⟨Heap.get?_push_size _ rfl, ⟨_, Heap.get?_push_size _ rfl⟩, fun _ _ e k => k _ e⟩
    refine ⟨.ref hp.objs.size, _, I2, rfl, ?_⟩
    have eL : (ps ++ #[rawInt pos.line, rawInt pos.col, .ref c']).toList = ps.toList ++ [rawInt pos.line, rawInt pos.col, .ref c'] := by simp
    have gc : G c' = none := sGH.none nC
    have gf : G hp.objs.size = none := sGH.none nFH
    refine post (upd (upd G c' (LamX.CodeO c' (X.env.qual ++ "<lambda>"))) hp.objs.size (dO hp.objs.size (lamObj ⟨params, body, scope, X.env.qual ++ "<lambda>", caps⟩ (cloFrom X.env.cells scope.names []) ((X.mg "__name__").getD .none) c' ctv))) _ _ ?_ ?_
    · refine ⟨fun b x e => ?_, fun b x e => ?_, fun b x e n nt => ?_, fun b e => ?_, fun t => ⟨fun b qs z => ?_, fun P2 q2 h2 => ?_⟩⟩
      · rw [upd_ne (ne_of_none e gf), upd_ne (ne_of_none e gc)]; exact e
      · by_cases h1 : b = hp.objs.size
        · subst h1; rw [upd_same] at e ⊢; exact e
        · rw [upd_ne h1] at e ⊢
          by_cases h2 : b = c'
          · subst h2; rw [upd_same] at e ⊢; exact e
          · rw [upd_ne h2] at e ⊢
            rw [upd_ne (ne_of_none e gP)]
            exact sGH _ _ e
      · have h1 : b ≠ hp.objs.size := ne_of_none e nFH
        have h2 : b ≠ c' := ne_of_none e nC
        have h3 : b ≠ P := fun z => by subst z; rw [hP] at e; exact nt ps (Option.some.inj e).symm
        rw [upd_ne h1, upd_ne h2, upd_ne h3, upd_ne h1, upd_ne h2]
        exact ⟨e, n⟩
      · have e := upd_none (upd_none e)
        by_cases h3 : b = P
        · subst h3; rw [upd_same] at e; cases e
        · rw [upd_ne h3] at e; exact e
      · by_cases h1 : b = hp.objs.size
        · subst h1; rw [upd_same] at z; cases z
        · rw [upd_ne h1] at z
          by_cases h2 : b = c'
          · subst h2; rw [upd_same] at z; cases z
          · rw [upd_ne h2] at z; exact t.1 b qs z
      · have up : ∀ {c3 : Addr} {x : HO}, G c3 = some x → upd (upd G c' (LamX.CodeO c' (X.env.qual ++ "<lambda>"))) hp.objs.size (dO hp.objs.size (lamObj ⟨params, body, scope, X.env.qual ++ "<lambda>", caps⟩ (cloFrom X.env.cells scope.names []) ((X.mg "__name__").getD .none) c' ctv)) c3 = some x := fun {c3 x} e => by
          rw [upd_ne (ne_of_none e gf), upd_ne (ne_of_none e gc)]; exact e
        obtain ⟨ps2, b1, b2, b3⟩ := t.2 P2 q2 h2
        by_cases hPP : P2 = P
        · subst hPP
          rw [hP] at b1
          cases b1
          obtain rfl : q2 = X.env.qual ++ "<lambda>" := by rw [hnm] at h2; exact (Option.some.inj h2).symm
          refine ⟨ps ++ #[rawInt pos.line, rawInt pos.col, .ref c'], by rw [upd_ne (Ne.symm nFP), upd_ne nPc, upd_same], by rw [eL]; exact PySem.TriplesOk_snoc _ _ _ _ b2, fun p' cv hcv => ?_⟩
          rw [eL] at hcv
          rcases LamX.among_app _ b2 hcv with z | z
          · obtain ⟨c0, e1, e2⟩ := b3 p' cv z
            exact ⟨c0, e1, up e2⟩
          · exact ⟨c', z, by rw [upd_ne (Ne.symm nFc), upd_same]⟩
        · refine ⟨ps2, by rw [upd_ne (ne_of_none b1 nFH), upd_ne (ne_of_none b1 nC), upd_ne hPP]; exact b1, b2, fun p' cv hcv => ?_⟩
          obtain ⟨c0, e1, e2⟩ := b3 p' cv hcv
          exact ⟨c0, e1, up e2⟩
    · exact .op (vs := []) (.inr (.inl ⟨k, _, hp.objs.size, c', _, ctv, rfl, hL, rfl, rfl, upd_same, by rw [upd_ne (Ne.symm nFc), upd_same]⟩)) .nil
  | some cv =>
    obtain ⟨c', e, hco⟩ := ha pos cv hc
    subst e
    refine PySem.W.kla_makeFunctionHit (mg := X.mg) (c := c) (P := P) (ps := ps) (closure_ok cells) I.ok.glob (I.mod.glob.keeps I.bk) hcode
      (TB.code.keeps I.bk) atP ht hc bltP fun ctv hp tks hx hsz => ?_
    have I1 : Inv X pins σ H { s with heap := hp, toks := tks } := I.kept hx
    have nFH : H hp.objs.size = none := I1.hok.fresh (Nat.le_refl _)
    have I2 := I1.laid (a := hp.objs.size) (o := dO hp.objs.size (lamObj ⟨params, body, scope, X.env.qual ++ "<lambda>", caps⟩ (cloFrom X.env.cells scope.names []) ((X.mg "__name__").getD .none) c' ctv)) (t' := tks) (h' := hp.push (lamObj ⟨params, body, scope, X.env.qual ++ "<lambda>", caps⟩ (cloFrom X.env.cells scope.names []) ((X.mg "__name__").getD .none) c' ctv))
      (fun _ _ q => Heap.get?_push_of_some _ q) (Nat.le_refl _) ⟨Heap.get?_push_size _ rfl, ⟨_, Heap.get?_push_size _ rfl⟩, fun _ _ e k => k _ e⟩
    refine ⟨.ref hp.objs.size, _, I2, rfl, ?_⟩
    have gf : G hp.objs.size = none := sGH.none nFH
    refine post _ _ _ (Ext.new sGH nFH) (.op (vs := []) (.inr (.inl ⟨k, _, hp.objs.size, c', _, ctv, rfl, hL, rfl, rfl, upd_same, ?_⟩)) .nil)
    rw [upd_ne (ne_of_none hco gf)]
    exact hco⟩
end
end VL
end
section
set_option Elab.async false
set_option linter.all false
set_option maxRecDepth 100000
set_option maxHeartbeats 4000000
set_option autoImplicit false
/-! Closures: handed to a def while the frame that made them stands. -/
namespace VL
open PySem PySem.Spec PyProof.Rows L2
variable [TabN]
/-- the values of some slots, plain data -/
def valsR (ρ : En) : List Nat → R (List D)
  | [] => .ok []
  | i :: is => (var i ρ).bind fun d => if capD d = true then (valsR ρ is).bind fun ds => .ok (d :: ds) else .stuck
/-- a closure of this frame, with what it captures now -/
def close1 (cv : Nat → Option (List Nat)) (ρ : En) : D → R D
  | .op n [] => if n % 2 = 1 ∧ 11 ≤ n then (match cv ((n - 11) / 2) with
      | some is => (valsR ρ is).bind fun ds => .ok (.op (n - 1) ds)
      | none => .stuck) else .stuck
  | .op _ (_ :: _) => .stuck
  | d => if dataD d = true then .ok d else .stuck
def closes (cv : Nat → Option (List Nat)) (ρ : En) : List D → R (List D)
  | [] => .ok []
  | d :: ds => (close1 cv ρ d).bind fun e => (closes cv ρ ds).bind fun es => .ok (e :: es)
def closeA (cv : Nat → Option (List Nat)) (ρ : En) : D → R D
  | .lst ds => (closes cv ρ ds).bind fun es => .ok (.lst es)
  | d => close1 cv ρ d
def closeAs (cv : Nat → Option (List Nat)) (ρ : En) : List D → R (List D)
  | [] => .ok []
  | d :: ds => (closeA cv ρ d).bind fun e => (closeAs cv ρ ds).bind fun es => .ok (e :: es)
def chkR : R D → R D
  | .ok d => if dataD d = true then .ok d else .stuck
  | _ => .stuck
theorem bind_out {α β : Type} {x : R α} {g : α → R β} {b : β} (h : x.bind g = .ok b) : ∃ a, x = .ok a ∧ g a = .ok b := by
  cases x with
  | ok a => exact ⟨a, rfl, h⟩
  | exc c => cases h
  | stuck => cases h
theorem guard_inv {α : Type} {c : Prop} [Decidable c] {x : R α} {b : α} (h : (if c then x else .stuck) = .ok b) : c ∧ x = .ok b := by
  by_cases hc : c
  · rw [if_pos hc] at h; exact ⟨hc, h⟩
  · rw [if_neg hc] at h; cases h
section
variable {X : Cx} {W : WX} {Ca : Nat → Addr} {LT : Nat → Option Lm} {j : Nat} {pos p : Pos} {e : Expr} {es : List Expr}
def cellOf (X : Cx) (y : Str) : Addr := (X.env.cells.lookup y).getD 0
def uOf (h : Heap) (c : Addr) : Value := match h.get? c with
  | some o => (match o.data with | .cell (some u) => u | _ => .none)
  | none => .none
def vOf (σ : L2.St) (i : Nat) : V := match σ[i]? with
  | some (some v) => v
  | _ => .non
/-- what stands in the cells of the names in cp -/
structure CpAt (X : Cx) (σ : L2.St) (h : Heap) (q : Str × Nat) : Prop where
  look : X.env.cells.lookup q.1 = some (cellOf X q.1)
  cell : h.IsCell (cellOf X q.1) (some (uOf h (cellOf X q.1)))
  rel : RelV (vOf σ q.2) (uOf h (cellOf X q.1))
theorem cp_at {Γ : Gam} {B : Hp × Hp} {G H : Hp} {σ : L2.St} {ρ : En} {pins : List (Addr × Obj)} {s : Shared} {q : Str × Nat} {d : D} (I : Inv X pins σ H s) (r : Rel Γ X.K B G H σ ρ) (hN : X.N[q.2]? = some q.1) (hc : X.env.scope.names.lookup q.1 = some .cell) (hv : var q.2 ρ = .ok d) :
    CpAt X σ s.heap q ∧ Rp Γ X.K G (vOf σ q.2) d := by
  unfold var at hv
  split at hv
  case h_2 => cases hv
  rename_i d' hi
  cases hv
  obtain ⟨v, hσ, rv⟩ := r.val hi
  have ev : vOf σ q.2 = v := by unfold vOf; rw [hσ]
  obtain ⟨m, _, hl⟩ := I.loc
  obtain ⟨u, ru, q1⟩ := hl q.2 q.1 v hN hσ (.inr (.inl hc))
  rcases q1 with ⟨k, _⟩ | ⟨_, c, h1, h2⟩
  · have k : X.env.scope.names.lookup q.1 = some .local := k
    rw [hc] at k
    cases k
  · have ec : cellOf X q.1 = c := by unfold cellOf; rw [h1]; rfl
    obtain ⟨o, ho, hd⟩ := id h2
    have eu : uOf s.heap c = u := by unfold uOf; rw [ho]; simp only [hd]
    rw [ev]
    exact ⟨⟨by rw [ec]; exact h1, by rw [ec, eu]; exact h2, by rw [ev, ec, eu]; exact ru⟩, rv⟩
theorem vals_at {Γ : Gam} {B : Hp × Hp} {G H : Hp} {σ : L2.St} {ρ : En} {pins : List (Addr × Obj)} {s : Shared} (I : Inv X pins σ H s) (r : Rel Γ X.K B G H σ ρ) : ∀ {cp : List (Str × Nat)} {ds : List D}, (∀ q ∈ cp, X.N[q.2]? = some q.1 ∧ X.env.scope.names.lookup q.1 = some .cell) → valsR ρ (cp.map (·.2)) = .ok ds →
    (∀ q ∈ cp, CpAt X σ s.heap q) ∧ RpA Γ X.K G (cp.map fun q => vOf σ q.2) ds ∧ capDs ds = true
  | [], ds, _, h => by
    cases h
    exact ⟨(fun _ z => nomatch z), .nil, rfl⟩
  | q :: cp, ds, hq, h => by
    obtain ⟨d, h1, h2⟩ := bind_out h
    obtain ⟨h3, h2⟩ := guard_inv h2
    obtain ⟨ds', h4, h5⟩ := bind_out h2
    cases h5
    obtain ⟨n1, n2⟩ := hq q List.mem_cons_self
    obtain ⟨a1, a2⟩ := cp_at I r n1 n2 h1
    obtain ⟨b1, b2, b3⟩ := vals_at I r (cp := cp) (fun q' hq' => hq q' (List.mem_cons_of_mem _ hq')) h4
    refine ⟨fun q' hq' => ?_, .cons a2 b2, by rw [capDs, h3, b3]; rfl⟩
    rcases List.mem_cons.mp hq' with z | z
    · rw [z]; exact a1
    · exact b1 q' z
/-- what the frame's lambdas capture: names and their slots -/
structure CapK (X : Cx) (LT : Nat → Option Lm) (cp : List (Str × Nat)) (k : Nat) (is : List Nat) : Prop where
  ex : ∃ (L : Lm) (cq : List (Str × Nat)), LT k = some L ∧ cq.map (·.1) = L.caps ∧ cq.map (·.2) = is ∧ (∀ q ∈ cq, q ∈ cp) ∧ (∀ y, y ∈ L.caps ↔ (y, NameKind.free) ∈ L.scope.names)
theorem clo_lookup {cells : List (Str × Addr)} {names : List (Str × NameKind)} {y : Str} (h : (y, NameKind.free) ∈ names) {c : Addr} (hc : cells.lookup y = some c) (hall : ∀ z, (z, NameKind.free) ∈ names → ∃ c, cells.lookup z = some c) : (cloFrom cells names []).lookup y = some c := by
  obtain ⟨c2, h2⟩ := mem_lookup (cloFrom_has (cells := cells) (acc := []) h)
  rcases cloFrom_mem (PySem.mem_of_lookup h2) with hm | ⟨_, h4⟩
  · cases hm
  · obtain ⟨c1, hc1⟩ := hall y h
    have e : c2 = c1 := by rw [h4, hc1] <;> rfl
    rw [hc] at hc1
    cases hc1
    rw [h2, e]
theorem clo_of {cells : List (Str × Addr)} {names : List (Str × NameKind)} {y : Str} {c : Addr} (h : (cloFrom cells names []).lookup y = some c) (hall : ∀ z, (z, NameKind.free) ∈ names → ∃ c, cells.lookup z = some c) : (y, NameKind.free) ∈ names ∧ cells.lookup y = some c := by
  rcases cloFrom_mem (PySem.mem_of_lookup h) with hm | ⟨h1, h2⟩
  · cases hm
  · obtain ⟨c1, hc1⟩ := hall y h1
    have e : c = c1 := by rw [h2, hc1] <;> rfl
    rw [e]
    exact ⟨h1, hc1⟩
/-- the cells of the names in cp -/
def csOf (X : Cx) (cp : List (Str × Nat)) : List Addr := cp.map fun q => cellOf X q.1
section
variable {Γ : Gam} {B : Hp × Hp} {G H : Hp} {σ : L2.St} {ρ : En} {pins : List (Addr × Obj)} {s : Shared} {cp : List (Str × Nat)} {cv : Nat → Option (List Nat)}
theorem cs_cells (hc : ∀ q ∈ cp, CpAt X σ s.heap q) : CellsAt (csOf X cp) s.heap := fun c h => by
  obtain ⟨q, hq, rfl⟩ := List.mem_map.mp h
  obtain ⟨o, e1, e2⟩ := (hc q hq).cell
  exact ⟨o, _, e1, e2⟩
theorem cs_free (I : Inv X pins σ H s) (hc : ∀ q ∈ cp, CpAt X σ s.heap q) : ∀ c ∈ csOf X cp, H c = none := fun c h => by
  obtain ⟨q, hq, rfl⟩ := List.mem_map.mp h
  exact I.freeC _ _ (hc q hq).look
theorem cs_frs (I : Inv X pins σ H s) (hfn : ∀ y, X.fn y = true) (hc : ∀ q ∈ cp, CpAt X σ s.heap q) : ∀ c ∈ csOf X cp, c ∉ frs X.stack := fun c h z => by
  obtain ⟨q, hq, rfl⟩ := List.mem_map.mp h
  have hq := hc q hq
  rcases List.mem_cons.mp (I.stkSub _ z) with e | e
  · obtain ⟨m, ⟨o, es, ep, e1, e2, _⟩, _⟩ := I.loc
    obtain ⟨o2, e3, e4⟩ := hq.cell
    rw [e, e1] at e3
    cases e3
    rw [e2] at e4
    cases e4
  · obtain ⟨_, o, e1, _⟩ := I.ok.funs.mem e
    have h1 := Heap.lt_size e1
    have h2 := I.ok.cab _ _ (hfn q.1) hq.look
    exact Nat.lt_irrefl _ (Nat.lt_of_lt_of_le h1 h2)
theorem cs_base (I : Inv X pins σ H s) (hfn : ∀ y, X.fn y = true) (hc : ∀ q ∈ cp, CpAt X σ s.heap q) {b : Addr} {o : Obj} (e : X.base.get? b = some o) : b ∉ csOf X cp := fun h => by
  obtain ⟨q, hq, rfl⟩ := List.mem_map.mp h
  have h1 := Heap.lt_size e
  have h2 := I.ok.cab _ _ (hfn q.1) (hc q hq).look
  have h3 := I.ok.bsz
  exact Nat.lt_irrefl _ (Nat.lt_of_lt_of_le h1 (Nat.le_trans h3 h2))
theorem vals_map {α : Type} (a : α → V) (b : α → Value) : ∀ {xs : List α}, (∀ x ∈ xs, RelV (a x) (b x)) → Vals (xs.map a) (xs.map b)
  | [], _ => .nil
  | x :: xs, h => .cons (h x List.mem_cons_self) (vals_map a b fun y hy => h y (List.mem_cons_of_mem _ hy))
theorem close1_ok (I : Inv X pins σ H s) (r : Rel (gamL X.prog X.w Ca LT X.env.cells) X.K B G H σ ρ) (hp : ∀ q ∈ cp, X.N[q.2]? = some q.1 ∧ X.env.scope.names.lookup q.1 = some .cell) (hc : ∀ q ∈ cp, CpAt X σ s.heap q) (hcv : ∀ k is, cv k = some is → CapK X LT cp k is)
    {G1 : Hp} (sG : Same G G1) (nG : ∀ c ∈ csOf X cp, G1 c = none) {v : V} {d e : D} (rv : Rp (gamL X.prog X.w Ca LT X.env.cells) X.K G1 v d) (h : close1 cv ρ d = .ok e) : Rp (gamL X.prog X.w Ca LT X.env.cells) X.K (addH G1 (csOf X cp) s.heap) v e := by
  have plain : ∀ {d : D}, Rp (gamL X.prog X.w Ca LT X.env.cells) X.K G1 v d → (if dataD d = true then R.ok d else .stuck) = .ok e → Rp (gamL X.prog X.w Ca LT X.env.cells) X.K (addH G1 (csOf X cp) s.heap) v e := fun rv h => by
    obtain ⟨_, h⟩ := guard_inv h
    cases h
    exact rv.mono (addH_same nG)
  cases rv with
  | op hO hA =>
    rename_i n vs ds
    cases hA with
    | cons _ _ => cases h
    | nil =>
      obtain ⟨⟨n1, n2⟩, h⟩ := guard_inv h
      rcases hO with ⟨k, L, f, a, _⟩ | ⟨k, L, f, c', pm, ctv, rfl, hL, _, rfl, hf, hcd⟩ | ⟨a, _⟩ | ⟨a, _⟩
      rotate_right
      · omega
      · omega
      rotate_left
      · omega
      · have ek : (2 * k + 11 - 11) / 2 = k := by omega
        rw [ek] at h
        cases hk : cv k with
        | none => rw [hk] at h; cases h
        | some is =>
          rw [hk] at h
          obtain ⟨ds, h1, h2⟩ := bind_out h
          cases h2
          obtain ⟨L', cq, g1, g2, g3, g4, g5⟩ := (hcv k is hk).ex
          rw [hL] at g1
          cases g1
          rw [← g3] at h1
          obtain ⟨a1, a2, a3⟩ := vals_at I r (fun q hq => hp q (g4 q hq)) h1
          have hall : ∀ z, (z, NameKind.free) ∈ L.scope.names → ∃ c, X.env.cells.lookup z = some c := fun z hz => by
            have := (g5 z).mpr hz
            rw [← g2] at this
            obtain ⟨q, hq, rfl⟩ := List.mem_map.mp this
            exact ⟨_, (a1 q hq).look⟩
          have en : 2 * k + 11 - 1 = 2 * k + 10 := by omega
          rw [en]
          have inC : ∀ q ∈ cq, cellOf X q.1 ∈ csOf X cp := fun q hq => List.mem_map.mpr ⟨q, g4 q hq, rfl⟩
          have out : ∀ {b : Addr} {x : HO}, G1 b = some x → b ∉ csOf X cp := fun {b x} e z => by rw [nG b z] at e; cases e
          refine .op (vs := cq.map fun q => vOf σ q.2) (.inl ⟨k, L, f, rfl, hL, rfl, c', pm, ctv, cloFrom X.env.cells L.scope.names [], cq.map fun q => cellOf X q.1, cq.map fun q => uOf s.heap (cellOf X q.1), ⟨by rw [addH_out (out hf)]; exact hf, by rw [addH_out (out hcd)]; exact hcd, ⟨?_, ?_⟩, fun i y hy => ?_, fun y c hy => ?_, fun y z c e1 e2 => ?_, fun i c u e1 e2 => ?_⟩, ?_⟩) ((a2.mono sG).mono (addH_same nG))
          · rw [List.length_map, ← g2, List.length_map]
          · rw [List.length_map, ← g2, List.length_map]
          · rw [← g2, List.getElem?_map] at hy
            cases hq : cq[i]? with
            | none => rw [hq] at hy; cases hy
            | some q =>
              rw [hq] at hy
              cases hy
              have hm := List.mem_of_getElem? hq
              refine ⟨cellOf X q.1, by rw [List.getElem?_map, hq]; rfl, clo_lookup ((g5 _).mp (by rw [← g2]; exact List.mem_map.mpr ⟨q, hm, rfl⟩)) (a1 q hm).look hall⟩
          · obtain ⟨e1, e2⟩ := clo_of hy hall
            have hm := (g5 y).mpr e1
            rw [← g2] at hm
            obtain ⟨i, hi, e3⟩ := List.mem_iff_getElem.mp hm
            rw [List.length_map] at hi
            rw [List.getElem_map] at e3
            refine ⟨i, by rw [← g2, List.getElem?_map, List.getElem?_eq_getElem hi]; simp [e3], ?_⟩
            have := (a1 cq[i] (List.getElem_mem hi)).look
            rw [e3, e2] at this
            rw [List.getElem?_map, List.getElem?_eq_getElem hi]
            show some (cellOf X cq[i].1) = some c
            rw [e3]
            exact this.symm
          · exact I.ok.inj y z c (clo_of e1 hall).2 (clo_of e2 hall).2
          · rw [List.getElem?_map] at e1 e2
            cases hq : cq[i]? with
            | none => rw [hq] at e1; cases e1
            | some q =>
              rw [hq] at e1 e2
              cases e1
              cases e2
              have hm := List.mem_of_getElem? hq
              obtain ⟨o, b1, b2⟩ := (a1 q hm).cell
              exact ⟨o, addH_in (inC q hm) b1, b2⟩
          · exact vals_map _ _ fun q hq => (a1 q hq).rel
  | non => exact plain .non h
  | bl b => exact plain (.bl b) h
  | int i => exact plain (.int i) h
  | str x => exact plain (.str x) h
  | tup a b => exact plain (.tup a b) h
  | lst a b => exact plain (.lst a b) h
  | scr a b => exact plain (.scr a b) h
  | dic a b c d e => exact plain (.dic a b c d e) h
theorem closes_ok (I : Inv X pins σ H s) (r : Rel (gamL X.prog X.w Ca LT X.env.cells) X.K B G H σ ρ) (hp : ∀ q ∈ cp, X.N[q.2]? = some q.1 ∧ X.env.scope.names.lookup q.1 = some .cell) (hc : ∀ q ∈ cp, CpAt X σ s.heap q) (hcv : ∀ k is, cv k = some is → CapK X LT cp k is)
    (nG : ∀ c ∈ csOf X cp, G c = none) : ∀ {vs : List V} {ds es : List D}, RpA (gamL X.prog X.w Ca LT X.env.cells) X.K G vs ds → closes cv ρ ds = .ok es → RpA (gamL X.prog X.w Ca LT X.env.cells) X.K (addH G (csOf X cp) s.heap) vs es
  | _, _, _, .nil, h => by cases h; exact .nil
  | _, _, _, .cons a b, h => by
    obtain ⟨e, h1, h2⟩ := bind_out h
    obtain ⟨es', h3, h4⟩ := bind_out h2
    cases h4
    exact .cons (close1_ok I r hp hc hcv (.refl _) nG a h1) (closes_ok I r hp hc hcv nG b h3)
theorem closeA_ok (I : Inv X pins σ H s) (r : Rel (gamL X.prog X.w Ca LT X.env.cells) X.K B G H σ ρ) (hp : ∀ q ∈ cp, X.N[q.2]? = some q.1 ∧ X.env.scope.names.lookup q.1 = some .cell) (hc : ∀ q ∈ cp, CpAt X σ s.heap q) (hcv : ∀ k is, cv k = some is → CapK X LT cp k is)
    (nG : ∀ c ∈ csOf X cp, G c = none) {v : V} {d e : D} (rv : Rp (gamL X.prog X.w Ca LT X.env.cells) X.K G v d) (h : closeA cv ρ d = .ok e) : Rp (gamL X.prog X.w Ca LT X.env.cells) X.K (addH G (csOf X cp) s.heap) v e := by
  cases rv with
  | lst a b =>
    obtain ⟨es, h1, h2⟩ := bind_out h
    cases h2
    exact .lst (addH_same nG _ _ a) (closes_ok I r hp hc hcv nG b h1)
  | op a b => exact close1_ok I r hp hc hcv (.refl _) nG (.op a b) h
  | non => exact close1_ok I r hp hc hcv (.refl _) nG .non h
  | bl b => exact close1_ok I r hp hc hcv (.refl _) nG (.bl b) h
  | int i => exact close1_ok I r hp hc hcv (.refl _) nG (.int i) h
  | str x => exact close1_ok I r hp hc hcv (.refl _) nG (.str x) h
  | tup a b => exact close1_ok I r hp hc hcv (.refl _) nG (.tup a b) h
  | scr a b => exact close1_ok I r hp hc hcv (.refl _) nG (.scr a b) h
  | dic a b c d e => exact close1_ok I r hp hc hcv (.refl _) nG (.dic a b c d e) h
theorem closeAs_ok (I : Inv X pins σ H s) (r : Rel (gamL X.prog X.w Ca LT X.env.cells) X.K B G H σ ρ) (hp : ∀ q ∈ cp, X.N[q.2]? = some q.1 ∧ X.env.scope.names.lookup q.1 = some .cell) (hc : ∀ q ∈ cp, CpAt X σ s.heap q) (hcv : ∀ k is, cv k = some is → CapK X LT cp k is)
    (nG : ∀ c ∈ csOf X cp, G c = none) : ∀ {vs : List V} {ds es : List D}, RpA (gamL X.prog X.w Ca LT X.env.cells) X.K G vs ds → closeAs cv ρ ds = .ok es → RpA (gamL X.prog X.w Ca LT X.env.cells) X.K (addH G (csOf X cp) s.heap) vs es
  | _, _, _, .nil, h => by cases h; exact .nil
  | _, _, _, .cons a b, h => by
    obtain ⟨e, h1, h2⟩ := bind_out h
    obtain ⟨es', h3, h4⟩ := bind_out h2
    cases h4
    exact .cons (closeA_ok I r hp hc hcv nG a h1) (closeAs_ok I r hp hc hcv nG b h3)
end
theorem noX_out {α : Type} {x : R α} {β ν : Type} {Γ : Gam} {G H : Hp} {σ : L2.St} {rel : Hp → ν → β → Prop} {Q : ν → Hp → Prop} {g : α → R β} (p : Post Γ W G H σ rel Q ((noX x).bind g)) : ∃ a, x = .ok a ∧ Post Γ W G H σ rel Q (g a) := by
  cases x with
  | ok a => exact ⟨a, rfl, p⟩
  | exc c => exact p.elim
  | stuck => exact p.elim
theorem cx_false {P : Program} {w : World} {outer : List Env} {H : Hp} {s s' : Shared} {u : Value} (h : L2.CX P w outer H s (fun _ _ _ => False) u s') : False := by
  obtain ⟨_, _, _, _, _, _, _, _, _, _, _, _, z⟩ := h
  exact z
/-- g(..), closures of this frame among the arguments -/
theorem se_callL (cp : List (Str × Nat)) (cv : Nat → Option (List Nat)) {x : Str} {k : Nat} {ps : List Str} {m : List D → R D} {fs : En → R (List D)} (C : Ct X W j) (F : Cal (gamL X.prog X.w Ca LT X.env.cells) X.prog X.w X.K X.mg X.base x k ps m) (hg : Gl X x)
    (ha : SA (gamL X.prog X.w Ca LT X.env.cells) X W (e :: es) fs) (hp : ∀ q ∈ cp, X.N[q.2]? = some q.1 ∧ X.env.scope.names.lookup q.1 = some .cell) (hcv : ∀ k is, cv k = some is → CapK X LT cp k is) (hfn : ∀ y, X.fn y = true) (hk : k ≤ j := by decide)
    (hdb : (x == ("__debug__" : Str)) = false := by decide) (he : starEach (e :: es) X.env = (false, eval e X.env) :: starEach es X.env := by rfl) (hpl : (backTo pos (starEach es X.env)).any (·.1) = false := by rfl) :
    SE (gamL X.prog X.w Ca LT X.env.cells) X W (.Call (.Name x p) (e :: es) [] pos) (fun ρ => (fs ρ).bind fun ds => (noX (valsR ρ (cp.map (·.2)))).bind fun _ => (noX (closeAs cv ρ ds)).bind fun es => chkR (m es)) := ⟨fun pins s σ H Q I hh => by
  obtain ⟨B, G, ρ, r, post⟩ := hh
  dsimp only at post
  obtain ⟨ta, pa, qa⟩ := ha.out
  obtain ⟨f, fd, F1, F2, F3, F4⟩ := F.ex
  refine wpAny_Call_Name_kw (ld_glob I hg F2 ?_ hdb)
  refine PySem.W.callWith_K (h₀ := X.base) I.ok.mod.kin F3 (thn (pa.run pos pins s σ H (fun vs H1 => ∃ G1 ds, Ext G H G1 H1 ∧ RpA (gamL X.prog X.w Ca LT X.env.cells) X.K G1 vs ds ∧ Post (gamL X.prog X.w Ca LT X.env.cells) W G1 H1 σ (Rp (gamL X.prog X.w Ca LT X.env.cells) X.K) Q ((noX (valsR ρ (cp.map (·.2)))).bind fun _ => (noX (closeAs cv ρ ds)).bind fun es => chkR (m es))) I
    (qa r (post.bind fun G1 H1 vs ds e1 r1 p1 => ⟨G1, ds, e1, r1, p1⟩))) fun us s1 hus => ?_) he hpl
  obtain ⟨vs, H1, I1, rv, G1, ds, e1, rA, p1⟩ := hus
  refine ⟨I1.kIn, ?_⟩
  obtain ⟨cps, hcps, p2⟩ := noX_out p1
  obtain ⟨es', hes, p3⟩ := noX_out p2
  have r' := r.go e1
  obtain ⟨hc, _, _⟩ := vals_at I1 r' hp hcps
  have kC := cs_cells hc
  have nH := cs_free I1 hc
  have nG : ∀ c ∈ csOf X cp, G1 c = none := fun c h => e1.s.none (nH c h)
  have hfr := cs_frs I1 hfn hc
  have rA' := closeAs_ok I1 r' hp hc hcv nG rA hes
  have hl : es'.length = ps.length := by
    by_cases hl : es'.length = ps.length
    · exact hl
    · rw [F.len es' hl] at p3
      exact p3.elim
  obtain ⟨d, hd, hdd, p4⟩ : ∃ d, m es' = .ok d ∧ dataD d = true ∧ Post (gamL X.prog X.w Ca LT X.env.cells) W G1 H1 σ (Rp (gamL X.prog X.w Ca LT X.env.cells) X.K) Q (.ok d) := by
    cases hm : m es' with
    | exc c => rw [hm] at p3; exact p3.elim
    | stuck => rw [hm] at p3; exact p3.elim
    | ok d =>
      rw [hm] at p3
      obtain ⟨h1, h2⟩ := Post.guard (dataD d = true) p3
      exact ⟨d, rfl, h1, h2⟩
  have e0 := I1.env0
  have env : Env0 X.prog X.w X.K X.mg X.base X.A X.stack s1 (addH H1 (csOf X cp) s1.heap) := ⟨e0.frames, e0.mod, fun b o e => ⟨(e0.bs b o e).1, by rw [addH_out (cs_base I1 hfn hc e)]; exact (e0.bs b o e).2⟩, e0.bsz, e0.funs, fun b hb => by rw [addH_out fun z => hfr b z hb]; exact e0.frf b hb, addH_hok kC nH e0.hok, e0.bare⟩
  have b := F4 s1 us I1.kIn (by rw [List.append_nil, ← rv.length, rA'.length]; exact hl)
  rw [List.append_nil] at b
  let Q' : VK := fun v H' => (∀ c ∈ csOf X cp, H' c = addH H1 (csOf X cp) s1.heap c) ∧ Q v (rmv H' (csOf X cp))
  have sp : spM (gamL X.prog X.w Ca LT X.env.cells) X.K ps.length m vs (addH H1 (csOf X cp) s1.heap) Q' (fun _ _ _ => False) := by
    refine ⟨addH G1 (csOf X cp) s1.heap, es', addH_both e1.s, addH_tabs kC r'.tab nH e1.s, rA', hl, ?_⟩
    rw [hd]
    intro G2 H2 v e2 rv2
    have kG2 : CsOk G2 (csOf X cp) := fun c hc => let ⟨o, w, a1, a2⟩ := addH_cs (H := G1) kC c hc; ⟨o, w, e2.g _ _ a1, a2⟩
    refine ⟨fun c hcc => ?_, p4 _ _ _ (Ext.unadd kC nH e1.s e2) (Rp.conv rfl rfl (keeps_rmv kG2) rv2 hdd)⟩
    obtain ⟨o, w, a1, a2⟩ := addH_cs (H := G1) kC c hcc
    rw [e2.s _ _ (e2.g _ _ a1), addH_both e1.s _ _ a1]
  refine wpAny_call (codeAny_mono (F1.run X.A X.stack s1 (addH H1 (csOf X cp) s1.heap) ⟨us, []⟩ us vs Q' (fun _ _ _ => False) (C.hr.mono hk) env b rv sp) fun r2 s2 hq => ?_)
  cases r2 with
  | error e => exact (cx_false hq).elim
  | ok fl =>
    cases fl with
    | next => exact False.elim hq
    | brk => exact False.elim hq
    | cont => exact False.elim hq
    | ret u =>
      obtain ⟨v, H2, os, bare, un, hok, ru, hQ1, hQ2⟩ := hq
      have kH2 : CsOk H2 (csOf X cp) := fun c hc => by
        rw [hQ1 c hc]
        exact addH_cs kC c hc
      have g2 : ∀ c ∈ csOf X cp, ∀ o, addH H1 (csOf X cp) s1.heap c = some (dO c o) → s2.heap.get? c = some o := fun c hc o e => by
        rw [← hQ1 c hc] at e
        exact (show (s2.heap.get? c = some o) ∧ _ from hok c _ e).1
      exact I1.after ⟨v, rmv H2 (csOf X cp), os, bare, rmv_un (addH_cs kC) nH (fun b hb => addH_out hb) (fun c hc o e => addH_get kC hc e) g2 hfr un, rmv_hok kH2 hok, ru, hQ2⟩⟩
end
end VL
end
section
set_option Elab.async false
set_option linter.all false
set_option maxRecDepth 100000
set_option maxHeartbeats 4000000
set_option autoImplicit false
/-! xs.count(b); defs called within an except suite; defs that make closures. -/
namespace VL
open PySem PySem.Spec PyProof.Rows L2
variable [TabN]
section
variable {Γ : Gam} {X : Cx} {W : WX} {a e : Expr} {fa fb : En → R D}
theorem vals_bools : ∀ {bs : List Bool} {us : List Value}, Vals (bs.map V.bl) us → us = bs.map Value.bool
  | [], _, h => by cases h; rfl
  | b :: bs, _, h => by
    cases h with
    | cons h r =>
      rw [vals_bools r]
      have : _ = Value.bool b := h
      rw [this]
      rfl
def rCntB (K : PySem.W.Frag) : V → List V → Hp → VK → Prop := fun x xs H Q => ∃ (p : Addr) (bs : List Bool) (k : Bool), x = .ref p ∧ xs = [.bl k] ∧ SqL K H p (bs.map V.bl) ∧ Q (.int (bs.count k : Nat)) H
theorem mt_countB : MtR X "list.count" (rCntB X.K) := by
  intro pins s σ H x xs v us Q I rx rxs h
  obtain ⟨p, bs, k, rfl, rfl, hs, q⟩ := h
  cases rx
  obtain ⟨u, rfl, ru⟩ := rxs.one
  have ru : u = Value.bool k := ru
  subst ru
  obtain ⟨its, rv, ⟨⟨cls, dd, data, sl⟩, n, ho, hc, hdn, hd⟩, hlen⟩ := I.list hs
  simp only at hc hd
  subst hc hd
  have hi := vals_bools rv
  subst hi
  have ec : (bs.map Value.bool).countP (isBoolOf k) = bs.count k := by
    rw [List.countP_map, List.count]
    rfl
  refine call_meets PySem.F.slot_list_count ⟨_, ho, rfl⟩ PySem.F.entry_list_count (PySem.F.args_list_count_2 _ _)
    (SeqAt.list_countAt p (bs.map Value.bool).toArray n dd sl (.bool k) (isBoolOf k)) ⟨ho, fun y hy => ?_, ?_⟩
  · obtain ⟨b, _, rfl⟩ := List.mem_map.mp (show y ∈ bs.map Value.bool by simpa using hy)
    exact SeqAt.EqAt.bool_bool b k
  · refine ⟨.int (bs.count k : Nat), H, I.tok _, ⟨s.toks, ?_⟩, q⟩
    show Value.int (((bs.map Value.bool).countP (isBoolOf k) : Nat) : Int) s.toks = Value.int ((bs.count k : Nat) : Int) s.toks
    rw [ec]
def cntO (ds : List D) (e : D) : R D := match bools ds, e with
  | some bs, .bl k => .ok (.int (bs.count k : Nat))
  | _, _ => .stuck
theorem se_count {p1 p3 : Pos} (ho : SE Γ X W a fa) (he : SE Γ X W e fb) (hbase : attributeBase a "count" X.env (eval a X.env) = eval a X.env := by rfl)
    (hst : starEach [e] X.env = (false, eval e X.env) :: starEach [] X.env := by rfl)
    (hfew : ((backTo p3 (starEach [e] X.env)).all (fun x => !x.1) && (backToKw p3 (keywordEach [] X.env)).all (fun x => x.1.isSome) && decide ([e].length + ([] : List Keyword).length + (if ([] : List Keyword).isEmpty then 0 else 1) < 30)) = true := by rfl)
    (hline : (p1.endLine == p3.line) = true := by rfl) :
    SE Γ X W (.Call (.Attribute a "count" p1) [e] [] p3) (fun ρ => (fa ρ).bind fun d => (iterL d).bind fun ds => (fb ρ).bind fun x => cntO ds x) := by
  obtain ⟨ta, pa, qa⟩ := ho.out
  obtain ⟨tb, pb, qb⟩ := he.out
  refine .mk ⟨_, pe_bm PySem.F.plainAttrs_list PySem.F.slot_list_count PySem.F.type_list_count mt_countB pa (pa_cons pb pa_nil hst) hbase hfew hline hst rfl, fun {B G H σ ρ Q} r p => ?_⟩
  refine qa r (p.bind fun G1 H1 v d e1 r1 p1 => ?_)
  cases r1 <;> first | exact p1.elim | skip
  rename_i l xs ds ha ra
  replace p1 : Post Γ W G1 H1 σ (Rp Γ X.K) Q ((fb ρ).bind fun x => cntO ds x) := p1
  refine ⟨.inl ⟨rfl, _, .of (e1.s _ _ ha)⟩, ?_⟩
  refine qb (r.go e1) (p1.bind fun G2 H2 u x e2 r2 p2 => ?_)
  unfold cntO at p2
  split at p2
  · rename_i bs k hb
    cases r2
    have e := bools_V ra hb
    subst e
    exact ⟨l, bs, k, rfl, rfl, .of (e2.s _ _ (e2.g _ _ ha)), p2.here e2.s (.int _)⟩
  · exact p2.elim
end
/-! ### within a suite: isinstance, a def -/
section
variable {Γ : Gam} {X : Cx} {W : WX}
theorem call_isP {ad Dc : Addr} {oe : Obj} (hp : (ad, oe) ∈ X.pn) (C : ExcC X.K Dc) (hz : Zc (.ref Dc) none oe) (hf : ∃ vs, oe.data = .fields vs) : CallR X (.builtin "isinstance") (rIsE X.K Dc ad) := fun pins s σ H xs us Q I r h => by
  obtain ⟨c, cw, b, rfl, hcv, hb, q⟩ := h
  obtain ⟨v1, v2, rfl, rx, rt⟩ : ∃ v1 v2, us = [v1, v2] ∧ RelV (.ref ad) v1 ∧ RelV c v2 := by
    cases r with
    | cons r1 r2 =>
      cases r2 with
      | cons r2 r3 => cases r3; exact ⟨_, _, rfl, r1, r2⟩
  cases rx
  obtain rfl := hcv _ rt
  obtain ⟨here, _⟩ := I.pin (ad, oe) (List.mem_append_left _ hp)
  obtain ⟨fields, hv⟩ := hf
  have J : PySem.W.InstAt s.heap ad oe Dc none := by
    obtain ⟨c1, c2, c3, c4⟩ := oe
    obtain ⟨z1, z2⟩ := hz
    dsimp only at z1 z2 hv
    subst z1 z2 hv
    exact ⟨here, rfl, rfl, trivial⟩
  refine PySem.W.kia_one (PySem.W.handS_kitx_exc C.hg C.hk C.hs C.hd C.ha C.hn C.ht C.hm) I.kIn J hb (fun z => nomatch z) fun tk => ?_
  exact ⟨.bl b, H, I.kept (t' := tk) fun _ _ z => z, rfl, q⟩
/-- isinstance(e, C), e the exception that is handled; C an own class or a builtin one -/
theorem se_isH (i : Nat) {ad Dc : Addr} {oe : Obj} {x n y : Str} {p p1 p2 pos : Pos} {cw : Value} {bb : Bool} (hp : (ad, oe) ∈ X.pn) (h1 : ∀ K H v vs, ¬ Γ.O K H v 1 vs) (EC : ExcC X.K Dc) (hz : Zc (.ref Dc) none oe) (hf : ∃ vs, oe.data = .fields vs) (hk : PySem.W.kitOne X.K (.ref Dc) cw = some bb)
    (hx : bootBuiltins x = some (.builtin "isinstance")) (hg : Gl X x) (hm : X.mg x = none) (hy : ∃ v : V, (∀ u, RelV v u → u = cw) ∧ PE X (.Name y p2) (fun _ H Q => Q v H)) (hN : X.N[i]? = some n := by rfl) (hv : Vis X.env.scope n := by first | exact Or.inl rfl | exact Or.inr (Or.inl rfl) | exact Or.inr (Or.inr rfl))
    (hn : x ≠ "__name__" := by decide) (hdb : (x == ("__debug__" : Str)) = false := by decide) (hdn : (n == ("__debug__" : Str)) = false := by decide) (hcd : (n == ("__classdict__" : Str)) = false := by decide) :
    SE (Γ.hot ad) X W (.Call (.Name x p) [.Name n p1, .Name y p2] [] pos) (isE i bb) := by
  obtain ⟨vy, hvy, py⟩ := hy
  refine .mk ⟨_, pe_callB (call_isP hp EC hz hf) hg hm hx (pa_cons (pe_var hN hv hdn hcd) (pa_cons py pa_nil)) hn hdb rfl rfl, fun {B G H σ ρ Q} r p => ?_⟩
  unfold isE at p
  split at p
  · rename_i hi
    obtain ⟨v, h3, h4⟩ := r.val hi
    cases h4 with
    | op ho hr =>
      cases hr
      rcases ho with ⟨_, _, e⟩ | ho
      · subst e
        exact ⟨_, h3, vy, cw, bb, rfl, hvy, hk, p.here r.same (.bl _)⟩
      · exact absurd ho (h1 _ _ _ _)
  · exact p.elim
end
/-- where a def's body stands that is called within a suite -/
structure Ch (X : Cx) (j : Nat) : Prop where
  nd : X.N.Nodup
  hr : L2H.RoomH j X.A
theorem Ch.u64 {X : Cx} {j : Nat} (C : Ch X j) : X.A.units + 64 < cLine := by have := C.hr.un; omega
theorem Ch.u65 {X : Cx} {j : Nat} (C : Ch X j) : X.A.units + 65 < cLine := by have := C.hr.un; omega
/-- a def that may be called while the exception (ad, oe) is handled; it raises nothing -/
structure CalH (Γ : Gam) (P : Program) (w : World) (K : PySem.W.Frag) (mg : Str → Option Value) (base : Heap) (x : Str) (k : Nat) (ps : List Str) (ad : Addr) (oe : Obj) (m : List D → R D) : Prop where
  ex : ∃ f fd, mg x = some (.ref f) ∧ PySem.W.keepIn K (.ref f) = true ∧ Binds K fd ps [] ∧ ∀ (A : Around) (outer : List Env) (s : Shared) (H : Hp) (args : Args) (us : List Value) (vs : List V) (Q : VK), L2H.RoomH k A → L2H.PinOk outer H s (ad, oe) → Env0 P w K mg base A outer s H → BindsTo s fd args (ps.zip us) → Vals vs us →
    spM (Γ.hot ad) K ps.length m vs H Q (fun _ _ _ => False) → codeAny (model P w) A (.call (.ref f) args) (CR (L2.CX P w) outer P w H s Q fun _ _ _ => False) s
  len : ∀ ds, ds.length ≠ ps.length → m ds = .stuck
section
variable {Γ : Gam} {P : Program} {w : World} {K : PySem.W.Frag} {mg : Str → Option Value} {base : Heap} {x : Str} {st : Stmt} {f : Addr} {fd : FuncData} {N ps : List Str} {k : Nat} {fb : En → RS} {ad : Addr} {oe : Obj}
theorem cal_mkH (F : Fun K x x st f fd) (S : FnScope N ps (defScope st)) (hm : mg x = some (.ref f)) (hbd : Binds K fd ps [])
    (hb : ∀ (cdv : Value) (A : Around) (outer : List Env) (s : Shared) (H : Hp) (EE : XK), Ch (L2H.cxH (L2.CX P w) P w K mg base N x (defScope st) f cdv A outer s H EE (ad, oe)) k → SSs (Γ.hot ad) (L2H.cxH (L2.CX P w) P w K mg base N x (defScope st) f cdv A outer s H EE (ad, oe)) W0 (defBody st) fb) :
    CalH Γ P w K mg base x (k + 1) ps ad oe (bodyM N.length ps.length fb) := by
  refine ⟨⟨f, fd, hm, F.kp, hbd, fun A outer s H args us vs Q hr hpin e0 hbind rv hsp => ?_⟩, fun ds h => if_neg h⟩
  obtain ⟨oc, od, kV, doc, pm, an, cdv, ct, osl, rfl, lk, hcd⟩ := F.ex
  obtain ⟨G, ds, sm, tb, rA, hl, post⟩ := hsp
  have hlv : vs.length = ps.length := by rw [rA.length]; exact hl
  have kIn : K.In s.heap := e0.mod.kin.keeps fun b o e => (e0.bs b o e).1
  have noLim : s.heap.NoLimit := e0.mod.nolimit.keeps fun b o e => (e0.bs b o e).1
  have kinds : ∀ y ∈ ps.zip us, (defScope st).names.lookup y.1 = some .local ∨ ((defScope st).names.lookup y.1 = some .cell ∧ ((cellsFrom (s.heap.objs.size + 1) (defScope st).names []).lookup y.1).isSome = true) := fun y hy =>
    (S.par y.1 (List.of_mem_zip hy).1).imp id fun q => ⟨q, PySem.W.cellsFrom_some _ _ _ (.inl q)⟩
  refine codeAny_call_function hr.depth (kIn _ _ lk) rfl S.co S.gen rfl (PySem.W.codeRec_of kIn hcd) (hbind _ _ _ _ (wpAny_newFunctionEnv_cells S.kind kinds fun env he s1 xs => ?_))
  subst he
  refine ⟨noLim.keeps xs.toInCall.keep, codeAny_func ?_⟩
  have J := L2H.inv_startH (CX := L2.CX P w) (E := fun _ _ _ => False) S hpin e0 hlv rv xs
  have body := hb cdv A outer s H (fun _ _ _ => False) ⟨S.nd, hr.deeper _⟩
  have done : ∀ {σ' : L2.St} {H' : Hp} {v : V} {u : Value} {s' : Shared}, Inv (L2H.cxH (L2.CX P w) P w K mg base N x (defScope st) f cdv A outer s H (fun _ _ _ => False) (ad, oe)) [] σ' H' s' → L2.RelV v u → Q v H' → CE outer P w H s Q u s' :=
    fun {σ' H' v u s'} J' r' q' => ⟨v, H', J'.os, J'.bare, J'.base, J'.hok, r', q'⟩
  refine wpAny_mono (body.run [] s1 _ H { nx := fun _ H' => Q .non H', rt := Q } J ⟨(G, H), G, _, start_rel sm tb rA, ?_⟩) (fun fl s' hs => ?_) fun e s' hs => hs
  · unfold bodyM at post
    rw [if_pos hl] at post
    cases hf : fb (ds.map (fun d => some (.val d)) ++ List.replicate (N.length - ds.length) none) with
    | next ρ => rw [hf] at post; exact fun G1 H1 σ1 _ r1 => post G1 H1 .non r1.ext .non
    | ret d => rw [hf] at post; exact fun G1 H1 v e rv => post G1 H1 v e rv
    | retE d ρ => rw [hf] at post; exact post.elim
    | retO k ρ => rw [hf] at post; exact post.elim
    | brk ρ => rw [hf] at post; exact post.elim
    | cont ρ => rw [hf] at post; exact post.elim
    | exc c ρ => rw [hf] at post; exact fun G1 H1 σ1 _ r1 => post G1 H1 r1.ext
    | stuck => rw [hf] at post; exact post.elim
  · cases fl with
    | ret u =>
      obtain ⟨v, σ', H', J', r', q'⟩ := hs
      exact done J' r' q'
    | next =>
      obtain ⟨σ', H', J', q'⟩ := hs
      exact done (v := V.non) (u := Value.none) J' rfl q'
    | brk => exact hs.elim fun _ z => z.elim fun _ z => z.2.elim
    | cont => exact hs.elim fun _ z => z.elim fun _ z => z.2.elim
end
section
variable {Γ : Gam} {X : Cx} {e : Expr} {es : List Expr} {pos p : Pos} {j : Nat}
/-- g(..) in the suite -/
theorem se_callHot {W : WX} {x : Str} {k : Nat} {ps : List Str} {ad : Addr} {oe : Obj} {pn : List (Addr × Obj)} {m : List D → R D} {fs : En → R (List D)} (C : Ct X W j) (F : CalH Γ X.prog X.w X.K X.mg X.base x k ps ad oe m) (hg : Gl X x) (ha : SA (Γ.hot ad) (X.suite ad ((ad, oe) :: pn)) W0 (e :: es) fs) (hk : k ≤ j := by decide)
    (hdb : (x == ("__debug__" : Str)) = false := by decide) (he : starEach (e :: es) X.env = (false, eval e X.env) :: starEach es X.env := by rfl) (hpl : (backTo pos (starEach es X.env)).any (·.1) = false := by rfl) :
    SE (Γ.hot ad) (X.suite ad ((ad, oe) :: pn)) W0 (.Call (.Name x p) (e :: es) [] pos) (fun ρ => (fs ρ).bind fun ds => noX (m ds)) := by
  obtain ⟨ta, pa, qa⟩ := ha.out
  obtain ⟨f, fd, F2, F3, F4, run⟩ := F.ex
  refine .mk ⟨fun σ H Q => ta σ H fun vs H1 => spM (Γ.hot ad) X.K ps.length m vs H1 Q (fun _ _ _ => False), ⟨fun pins s σ H Q I h => ?_⟩, fun {B G H σ ρ Q} r p => ?_⟩
  · refine wpAny_Call_Name_kw (ld_glob (X := X.suite ad ((ad, oe) :: pn)) I hg F2 ?_ hdb)
    refine PySem.W.callWith_K (h₀ := X.base) I.ok.mod.kin F3 (thn (pa.run pos pins s σ H _ I h) fun us s1 hus => ?_) he hpl
    obtain ⟨vs, H1, I1, rv, q⟩ := hus
    refine ⟨I1.kIn, ?_⟩
    obtain ⟨G, ds, z1, z2, z3, z4, z5⟩ := id q
    have b := F4 s1 us I1.kIn (by rw [List.append_nil, ← rv.length, z3.length]; exact z4)
    rw [List.append_nil] at b
    obtain ⟨q1, q2, q3, q4, q5⟩ := I1.pin (ad, oe) (List.mem_append_left _ List.mem_cons_self)
    have pin : L2H.PinOk X.stack H1 s1 (ad, oe) := ⟨q1, q2, fun hm => (List.mem_cons.mp (I1.stkSub ad hm)).elim q3 q4, q5⟩
    refine wpAny_call (codeAny_mono (run (X.A.mark (some (.ref ad))) X.stack s1 H1 ⟨us, []⟩ us vs Q ⟨(L2H.roomH_of (C.hr.mono hk)).dp, (L2H.roomH_of (C.hr.mono hk)).un⟩ pin I1.env0 b rv q) fun r2 s2 hq => ?_)
    cases r2 with
    | error e => exact (cx_false hq).elim
    | ok fl =>
      cases fl with
      | ret u => exact I1.after hq
      | next => exact False.elim hq
      | brk => exact False.elim hq
      | cont => exact False.elim hq
  · refine qa r (p.bind fun G1 H1 v ds e1 r1 p1 => ?_)
    have hl : ds.length = ps.length := by
      by_cases hl : ds.length = ps.length
      · exact hl
      · rw [F.len ds hl] at p1; exact p1.elim
    exact ⟨G1, ds, e1.s, (r.go e1).tab, r1, hl, p1.noX⟩
end
/-! ### a def that makes closures -/
def bodyD (N n : Nat) (f : En → RS) : List D → R D := fun ds => if dataDs ds = true then (match bodyM N n f ds with
  | .ok d => if dataD d = true then .ok d else .stuck
  | x => x) else .stuck
theorem fn_mkM {Γ : Gam} {P : Program} {w : World} {K : PySem.W.Frag} {mg : Str → Option Value} {base : Heap} {Ca : Nat → Addr} {LT : Nat → Option Lm} {x : Str} {st : Stmt} {f c : Addr} {oc kV doc pm ct : Value} {od an : Option Addr} {osl : Array (Option Value)} {N ps : List Str} {k : Nat} {fb : En → RS} (gO : GamOk Γ P w Ca)
    (lk : K.lookup f = some ⟨oc, od, .func (PySem.W.fnOf x x (defArgs st) (defBody st) (defScope st) .none kV doc pm an (.ref c) ct), osl⟩) (hcd : PySem.W.codeIn K (.ref c) x = true) (S : FnScope N ps (defScope st))
    (hb : ∀ (A : Around) (outer : List Env) (s : Shared) (H : Hp) (EE : XK), Ct (cxOf (L2.CX P w) P w K mg base N x (defScope st) f (.ref c) A outer s H EE) (fun cls d _ H' => EE cls d H') k →
      SSs (gamL P w Ca LT (cxOf (L2.CX P w) P w K mg base N x (defScope st) f (.ref c) A outer s H EE).env.cells) (cxOf (L2.CX P w) P w K mg base N x (defScope st) f (.ref c) A outer s H EE) (fun cls d _ H' => EE cls d H') (defBody st) fb) :
    FnOk P w K mg base (L2.CX P w) (k + 1) f (PySem.W.fnOf x x (defArgs st) (defBody st) (defScope st) .none kV doc pm an (.ref c) ct) ps (spM Γ K ps.length (bodyD N.length ps.length fb)) := by
  refine fn_of lk hcd S (fun vs H Q E h => ?_) (fun A outer s H vs Q EE hr h => ?_)
  · obtain ⟨G, ds, _, _, r, hl, _⟩ := h
    rw [r.length]; exact hl
  · obtain ⟨G, ds, sm, tb, r, hl, p⟩ := h
    unfold bodyD at p
    obtain ⟨hdd, p⟩ := Post.guard (dataDs ds = true) p
    refine ⟨_, hb A outer s H EE ⟨takes_of rfl rfl rfl rfl, passes_of rfl, rfl, S.nd, hr⟩, ?_⟩
    refine ⟨(G, H), G, _, start_rel sm tb (RpA.conv gO.P.symm gO.w.symm (keeps_same (.refl _)) r hdd), ?_⟩
    unfold bodyM at p
    rw [if_pos hl] at p
    cases hf : fb (ds.map (fun d => some (.val d)) ++ List.replicate (N.length - ds.length) none) with
    | next ρ => rw [hf] at p; exact fun G1 H1 σ1 _ r1 => p G1 H1 .non r1.ext .non
    | ret d =>
      rw [hf] at p
      dsimp only at p
      obtain ⟨hd, p⟩ := Post.guard (dataD d = true) p
      exact fun G1 H1 v e rv => p G1 H1 v e (Rp.conv gO.P gO.w (keeps_same (.refl _)) rv hd)
    | retE d ρ => rw [hf] at p; exact p.elim
    | retO k ρ => rw [hf] at p; exact p.elim
    | brk ρ => rw [hf] at p; exact p.elim
    | cont ρ => rw [hf] at p; exact p.elim
    | exc c ρ =>
      rw [hf] at p
      refine fun G1 H1 σ1 _ r1 => ?_
      have z := p G1 H1 r1.ext
      rw [gO.cls] at z
      exact z
    | stuck => rw [hf] at p; exact p.elim
theorem cal_mkM {Γ : Gam} {P : Program} {w : World} {K : PySem.W.Frag} {mg : Str → Option Value} {base : Heap} {Ca : Nat → Addr} {LT : Nat → Option Lm} {x : Str} {st : Stmt} {f c : Addr} {oc kV doc pm ct : Value} {od an : Option Addr} {osl : Array (Option Value)} {N ps : List Str} {k : Nat} {fb : En → RS} (gO : GamOk Γ P w Ca)
    (lk : K.lookup f = some ⟨oc, od, .func (PySem.W.fnOf x x (defArgs st) (defBody st) (defScope st) .none kV doc pm an (.ref c) ct), osl⟩) (hcd : PySem.W.codeIn K (.ref c) x = true) (kp : PySem.W.keepIn K (.ref f) = true) (S : FnScope N ps (defScope st)) (hm : mg x = some (.ref f)) (hbd : Binds K (PySem.W.fnOf x x (defArgs st) (defBody st) (defScope st) .none kV doc pm an (.ref c) ct) ps [])
    (hb : ∀ (A : Around) (outer : List Env) (s : Shared) (H : Hp) (EE : XK), Ct (cxOf (L2.CX P w) P w K mg base N x (defScope st) f (.ref c) A outer s H EE) (fun cls d _ H' => EE cls d H') k →
      SSs (gamL P w Ca LT (cxOf (L2.CX P w) P w K mg base N x (defScope st) f (.ref c) A outer s H EE).env.cells) (cxOf (L2.CX P w) P w K mg base N x (defScope st) f (.ref c) A outer s H EE) (fun cls d _ H' => EE cls d H') (defBody st) fb) :
    Cal Γ P w K mg base x (k + 1) ps (bodyD N.length ps.length fb) := by
  refine ⟨⟨f, _, fn_mkM gO lk hcd S hb, hm, kp, hbd⟩, fun ds h => ?_⟩
  · unfold bodyD
    have : bodyM N.length ps.length fb ds = .stuck := if_neg h
    rw [this]
    split <;> rfl
end VL
end
section
set_option Elab.async false
set_option linter.all false
set_option maxRecDepth 100000
set_option maxHeartbeats 4000000
set_option autoImplicit false
/-! What the printed derivations of a law with lambdas lean on. -/
namespace VL
open PySem PySem.Spec PyProof.Rows L2
/-! ### ways into a statement -/
def noE : Expr := .Constant .none 0 ⟨0, 0, 0, 0⟩
def stAt (b : List Stmt) (i : Nat) : Stmt := b.getD i (.Pass ⟨0, 0, 0, 0⟩)
def sBody : Stmt → List Stmt
  | .For _ _ b _ _ => b
  | .If _ b _ _ => b
  | .While _ b _ _ => b
  | _ => []
def sElse : Stmt → List Stmt
  | .If _ _ e _ => e
  | _ => []
def sExpr : Stmt → Expr
  | .If t _ _ _ => t
  | .Return (some e) _ => e
  | .Expr e _ => e
  | .Assign _ v _ => v
  | _ => noE
def eAt (i : Nat) : Expr → Expr
  | .Call _ a _ _ => a.getD i noE
  | .BoolOp _ vs _ => vs.getD i noE
  | .List es _ => es.getD i noE
  | .Tuple es _ _ => es.getD i noE
  | _ => noE
def eIn : Expr → Expr
  | .Compare l _ _ _ => l
  | .UnaryOp _ o _ => o
  | _ => noE
def lamA (st : Stmt) : Expr → Arguments
  | .Lambda a _ _ _ => a
  | _ => defArgs st
def lamB : Expr → Expr
  | .Lambda _ b _ _ => b
  | e => e
def lamS (st : Stmt) : Expr → Scope
  | .Lambda _ _ s _ => s
  | _ => defScope st
/-! ### checks -/
def lmOkB (L : Lm) : Bool :=
  decide (L.scope.kind = .function) && !L.scope.isCoroutine && !L.scope.isGenerator && (L.scope.names.all fun y => !decide (y.2 = .local) && !decide (y.2 = .cell)) && (L.scope.names.all fun y => !decide (y.2 = .free) || decide (y.1 ∈ L.caps)) && decide L.caps.Nodup
theorem lmOk_by {L : Lm} (h : lmOkB L = true) (hb : ∀ (cl : List (Str × Addr)) (pm cv ctv : Value), bindArgs (PySem.W.kla_fn "<lambda>" L.q L.params L.body L.scope cl pm cv ctv) ⟨[], []⟩ = pure []) : LmOk L := by
  unfold lmOkB at h
  simp only [Bool.and_eq_true, Bool.or_eq_true, Bool.not_eq_true', decide_eq_true_eq, decide_eq_false_iff_not, List.all_eq_true] at h
  obtain ⟨⟨⟨⟨⟨h1, h2⟩, h3⟩, h4⟩, h5⟩, h6⟩ := h
  refine ⟨h1, h2, h3, fun y hy => h4 y hy, fun y hy => ?_, h6, hb⟩
  exact (h5 _ (PySem.mem_of_lookup hy)).resolve_left fun z => z rfl
section
variable {X : Cx} {LT : Nat → Option Lm} {cp : List (Str × Nat)}
theorem cp_by {N : List Str} {sc : Scope} (hN : X.N = N) (hs : X.env.scope = sc) (h : (cp.all fun q => decide (N[q.2]? = some q.1) && decide (sc.names.lookup q.1 = some .cell)) = true) : ∀ q ∈ cp, X.N[q.2]? = some q.1 ∧ X.env.scope.names.lookup q.1 = some .cell := fun q hq => by
  have := List.all_eq_true.mp h q hq
  rw [Bool.and_eq_true, decide_eq_true_eq, decide_eq_true_eq] at this
  rw [hN, hs]
  exact this
def cvOf (l : List (Nat × List Nat)) : Nat → Option (List Nat) := fun k => l.lookup k
def capB (LT : Nat → Option Lm) (cp : List (Str × Nat)) (q : Nat × List Nat) : Bool := match LT q.1 with
  | some L => decide (L.caps.length = q.2.length) && ((L.caps.zip q.2).all fun z => decide (z ∈ cp)) && (L.caps.all fun y => decide ((y, NameKind.free) ∈ L.scope.names)) && (L.scope.names.all fun z => !decide (z.2 = .free) || decide (z.1 ∈ L.caps))
  | none => false
theorem lookup_mem {α β : Type} [BEq α] [LawfulBEq α] : ∀ {l : List (α × β)} {a : α} {b : β}, l.lookup a = some b → (a, b) ∈ l
  | [], _, _, h => by cases h
  | (x, y) :: l, a, b, h => by
    rw [List.lookup_cons] at h
    cases e : a == x with
    | true =>
      rw [e] at h
      cases h
      rw [eq_of_beq e]
      exact List.mem_cons_self
    | false =>
      rw [e] at h
      exact List.mem_cons_of_mem _ (lookup_mem h)
theorem capK_by {l : List (Nat × List Nat)} (h : l.all (capB LT cp) = true) : ∀ k is, cvOf l k = some is → CapK X LT cp k is := fun k is hk => by
  have := List.all_eq_true.mp h _ (lookup_mem hk)
  unfold capB at this
  dsimp only at this
  cases hL : LT k with
  | none => rw [hL] at this; cases this
  | some L =>
    rw [hL] at this
    simp only [Bool.and_eq_true, Bool.or_eq_true, Bool.not_eq_true', decide_eq_true_eq, decide_eq_false_iff_not, List.all_eq_true] at this
    obtain ⟨⟨⟨h1, h2⟩, h3⟩, h4⟩ := this
    refine ⟨L, L.caps.zip is, hL, List.map_fst_zip (by omega), List.map_snd_zip (by omega), h2, fun y => ⟨h3 y, fun hy => (h4 _ hy).resolve_left fun z => z rfl⟩⟩
end
/-! ### where the tables are empty -/
theorem tabs_start [TabN] {G H : Hp} (n : ∀ b ps, G b ≠ some (.tbl ps)) (h : ∀ P q, TabN.nm P = some q → H P = some (.tbl #[])) : TabsOk G H := ⟨n, fun P q hq => ⟨#[], h P q hq, True.intro, fun pos cv hc => by
  have z : codeAmong pos [] = some cv := hc
  simp [codeAmong] at z⟩⟩
theorem GamOk.exm [TabN] {Γ : Gam} {P : Program} {w : World} {Ca : Nat → Addr} (g : GamOk Γ P w Ca) {K : PySem.W.Frag} {hP : Nat → Option Bool} {C : Value} (h : ∀ c b, hP c = some b → PySem.W.exmOne K (.ref (Ca c)) C = some b) : ∀ c b, hP c = some b → PySem.W.exmOne K (Γ.cls c) C = some b := fun c b hb => by
  rw [g.cls]; exact h c b hb
theorem GamOk.z [TabN] {Γ : Gam} {P : Program} {w : World} {Ca : Nat → Addr} (g : GamOk Γ P w Ca) {c : Nat} {oe : Obj} (h : Zc (Γ.cls c) none oe) : Zc (.ref (Ca c)) none oe := by rw [← g.cls]; exact h
section
variable [TabN] {Γ : Gam} {X : Cx} {W : WX} {e : Expr} {pos : Pos}
/-- x = [..], x private, wherever -/
theorem ss_setOwnN (i : Nat) {x : Str} {pos' : Pos} {fl : En → R (List D)} (nd : X.N.Nodup) (he : SF Γ X W e fl) (hi : X.N[i]? = some x := by rfl) (hx : Loc X.env.scope x := by first | exact .inl rfl | exact .inr rfl) (hs : swapsWith e (some (.Name x pos')) pos.line X.env = pure false := by rfl)
    (hf : X.fn x = true ∨ X.env.scope.names.lookup x = some .local := by first | exact .inl rfl | exact .inr rfl | assumption) : SS Γ X W (.Assign [.Name x pos'] e pos) (fun ρ => thenS (fl ρ) ρ fun ds => .next (ρ.set i (some (.own ds)))) := by
  refine PS.imp (ps_set nd hi hx he hs hf) fun E σ H hh => ?_
  obtain ⟨B, G, ρ, r, p⟩ := hh
  refine ⟨B, G, ρ, r, ?_⟩
  dsimp only at p
  cases hfl : fl ρ with
  | exc c => rw [hfl] at p; exact fun G1 H1 e1 => p G1 H1 σ e1.g (r.go e1)
  | stuck => rw [hfl] at p; exact p
  | ok ds =>
    rw [hfl] at p
    intro L G1 H1 acc n e1 g1 h1 ra
    have r1 := r.go e1
    exact p _ _ _ e1.g (r1.setOwn (r.ext.d L n) g1 h1 ra (r.fresh n e1))
/-- isinstance(e, C) in a def that is called within a suite -/
theorem is_own {y : Str} {C : Addr} {p2 : Pos} (hg : Gl X y) (hm : X.mg y = some (.ref C)) (hd : (y == ("__debug__" : Str)) = false := by decide) : ∃ v : V, (∀ u, RelV v u → u = Value.ref C) ∧ PE X (.Name y p2) (fun _ H Q => Q v H) := ⟨.ref C, fun _ h => h, pe_glob (v := .ref C) hg hm rfl hd⟩
theorem is_blt {y : Str} {T : String} {p2 : Pos} (hg : Gl X y) (hm : X.mg y = none) (hb : bootBuiltins y = some (.type T)) (hn : y ≠ "__name__" := by decide) (hd : (y == ("__debug__" : Str)) = false := by decide) : ∃ v : V, (∀ u, RelV v u → u = Value.type T) ∧ PE X (.Name y p2) (fun _ H Q => Q v H) := ⟨.ty T, fun _ h => h, pe_bltn (v := .ty T) hg hm hb rfl hn hd⟩
end
section
variable [TabN] {Γ : Gam} {X : Cx} {W : WX} {j : Nat} {pos p : Pos}
/-- g() -/
theorem se_call0 {x : Str} {k : Nat} {m : List D → R D} (C : Ct X W j) (F : Cal Γ X.prog X.w X.K X.mg X.base x k [] m) (hg : Gl X x) (hk : k ≤ j := by decide) (hdb : (x == ("__debug__" : Str)) = false := by decide) :
    SE Γ X W (.Call (.Name x p) [] [] pos) (fun _ => m []) := by
  obtain ⟨f, fd, F1, F2, F3, F4⟩ := F.ex
  refine .mk ⟨fun σ H Q => spM Γ X.K 0 m [] H Q (WE W σ), ⟨fun pins s σ H Q I h => ?_⟩, fun {B G H σ ρ Q} r p => ⟨G, [], r.same, r.tab, .nil, rfl, p.toSp⟩⟩
  refine wpAny_Call_Name_kw (ld_glob I hg F2 ?_ hdb)
  refine PySem.W.callWith_K0 I.kIn F3 ?_
  exact run_fnS (E := WE W) (us := []) F1 (C.hr.mono hk) F4 (passAt C.tk σ) I .nil h
end
end VL
end
section
set_option Elab.async false
set_option linter.all false
set_option maxRecDepth 100000
set_option maxHeartbeats 4000000
set_option autoImplicit false
/-! sorted(xs), xs a tuple too. -/
namespace VL
open PySem PySem.Spec PyProof.Rows L2
section
variable {P : Program} {w : World} {A : Around} {E : Value → Shared → Prop} {s : Shared}
theorem gatherT {t : Addr} {us : List Value} {Q : List Value → Shared → Prop} (ht : s.heap.IsTuple t us.toArray) (fit : us.length ≤ sizeLine)
    (fin : Q us { s with heap := (s.heap.push (seqObj "list" #[] 0)).update s.heap.objs.size (Obj.mapSeq (· ++ us.toArray)) }) :
    wpAny (model P w) A (collect (.ref t)) Q E s := by
  obtain ⟨ob, oh, oc, c, od⟩ := id ht
  unfold collect
  refine wpAny_bind (wpAny_runValue (codeAny_builtin entry_proto_collect' (id ?_)))
  show wpAny _ _ (do again (.builtin "list.__iadd__" ⟨[← newList [], .ref t], []⟩)) _ _ s
  refine wpAny_bind (wpAny_newList (wpAny_pure ⟨Code.quiet_builtin _ (by decide +kernel), codeAny_builtin entry_list_iadd' (id ?_)⟩))
  show wpAny _ _ (Builtin.List.listExtendWith (.ref s.heap.objs.size) (.ref t) (.ref s.heap.objs.size)) _ _ { s with heap := s.heap.push (seqObj "list" #[] 0) }
  rw [Builtin.List.listExtendWith]
  have oh2 := Heap.get?_push_of_some (seqObj "list" #[] 0) oh
  refine wpAny_bind (wpAny_typeOf (T := "tuple") ⟨ob, oh2, oc⟩ ?_)
  have tt : (Value.type "tuple" == Value.type "tuple") = true := by rfl
  rw [if_pos (by rw [tt]; simp)]
  refine wpAny_bind (listItems_at oh2 od ?_)
  refine wpAny_bind (listItems_at (n := 0) (xs := #[]) (Heap.get?_push_size _ rfl) rfl ?_)
  rw [if_neg (by simp)]
  refine wpAny_bind (listUpdate_at (n := 0) (xs := #[]) (Heap.get?_push_size _ rfl) rfl ?_ (Nat.zero_le _) (by show (#[] ++ us.toArray).size ≤ sizeLine + 1; simp only [Array.size_append, List.size_toArray, List.length_nil]; omega))
  refine wpAny_pure ?_
  show wpAny (model P w) A (do
      let ob ← load s.heap.objs.size
      match ob.data with
      | .seq ys _ => pure ys.toList
      | _ => unsupported "internal:collect") Q E { s  with heap := (s.heap.push (seqObj "list" #[] 0)).update s.heap.objs.size (Obj.mapSeq (· ++ us.toArray)) }
  refine wpAny_bind (wpAny_load (get?_update_seq (Heap.get?_push_size _ rfl) _) (id ?_))
  show wpAny _ _ (pure ((#[] : Array Value) ++ us.toArray).toList) Q E _
  rw [show ((#[] : Array Value) ++ us.toArray).toList = us by simp]
  exact wpAny_pure fin
theorem sortT {κ : KeyKind} {t : Addr} {us : List Value} {Q : Value → Shared → Prop} (ht : s.heap.IsTuple t us.toArray) (fit : us.length ≤ sizeLine)
    (S : PySem.W.SortsAt P w A.in1.in1 { s with heap := PySem.W.sortingHeap (PySem.W.copyHeap s.heap us) (s.heap.objs.size + 1) us } κ us)
    (fin : Q (.ref (s.heap.objs.size + 1)) { s with heap := sortedAll s.heap us (PySem.W.sortVals κ false us us).toArray }) : wpAny (model P w) A (call (.builtin "sorted") [.ref t]) Q E s := by
  refine Calls.call_function_entry kind_sorted plain_sorted entry_sorted (args_sorted1 _) (id ?_)
  unfold Builtin.«sorted»
  refine wpAny_bind (m := checkCount "sorted" 1 1 _) (wpAny_pure (id ?_))
  refine wpAny_bind (gatherT ht fit ?_)
  refine wpAny_bind (wpAny_newList ?_ fit)
  have z : ((s.heap.push (seqObj "list" #[] 0)).update s.heap.objs.size (Obj.mapSeq (· ++ us.toArray))).objs.size = s.heap.objs.size + 1 := by
    rw [Heap.size_update, PyProof.Rows.size_push']
  show wpAny _ _ _ _ _ { s with heap := PySem.W.copyHeap s.heap us }
  rw [z]
  refine wpAny_bind (wpAny_holding (wpAny_call_entry slot_list_sort ⟨_, PySem.W.copyHeap_at s.heap us, rfl⟩ entry_list_sort ?_ (args_list_sort _)))
  exact PySem.W.list_sort_vals (s := { s with heap := PySem.W.copyHeap s.heap us }) (PySem.W.copyHeap_at s.heap us) S fit ⟨.none, rfl, wpAny_pure ⟨_, rfl, fin⟩⟩
end
variable [TabN]
section
variable {Γ : Gam} {X : Cx} {W : WX} {a b c e : Expr} {es : List Expr} {fa fb fc : En → R D} {pos p p2 pos2 : Pos} {j : Nat}
def sortedA : List D → R D
  | [.tup ds] => sortedO [.lst ds]
  | xs => sortedO xs
def rSortedA (K : PySem.W.Frag) : List V → Hp → VK → Prop := fun vs H Q => rSorted K vs H Q ∨ ∃ (a : Addr) (bs : List (V × D)), vs = [V.ref a] ∧ SqT K H a (bs.map (·.1)) ∧ (∀ b ∈ bs, Dp K H b.1 (toP b.2)) ∧ PySem.W.AllAlike (bs.map fun b => toP b.2) ∧ PySem.W.Sortable (bs.map fun b => toP b.2) ∧ (∀ b ∈ bs, (toP b.2).depth ≤ 60) ∧ bs.length ≤ 100000 ∧
  ∀ q, H q = none → Q (.ref q) (upd H q (.lst ((bs.mergeSort (PySem.W.dataLe false fun b => toP b.2)).map (·.1))))
theorem call_sortedA (hu : X.A.units + 64 < cLine) : CallR X (.builtin "sorted") (rSortedA X.K) := by
  intro pins s σ H vs us Q I r h
  rcases h with h | h
  · exact call_sorted hu _ _ _ _ _ _ _ I r h
  obtain ⟨a, bs, rfl, hs, hd, hal, hsr, hdp, hlen, q⟩ := h
  obtain ⟨its, rv, hl, _⟩ := I.tuple hs
  rw [Vals.ref1 r]
  have er := (each_reads I rv hd).mono (R' := fun v (b : V × D) => ∃ as, Reads (PySem.W.sortingHeap (PySem.W.copyHeap s.heap its) (s.heap.objs.size + 1) its) v (toP b.2) as) fun _ _ ⟨as, z⟩ => ⟨as, PyProof.Rows.Reads.keeps (fun _ _ => PySem.W.sorting_copy_old) z⟩
  have er2 := PySem.W.each_map (R := fun v d => ∃ as, Reads (PySem.W.sortingHeap (PySem.W.copyHeap s.heap its) (s.heap.objs.size + 1) its) v d as) (fun b : V × D => toP b.2) er
  have hb : ∀ d, d ∈ bs.map (fun b => toP b.2) → X.A.in1.in1.units + d.depth < cLine := fun d hd => by
    obtain ⟨b, hbm, rfl⟩ := List.mem_map.mp hd
    have := hdp b hbm
    simp only [Around.in1_units]
    omega
  have lz : its.length ≤ sizeLine := by rw [er.length]; exact line_of hlen
  refine sortT hl lz (PySem.W.SortsAt.data (s := { s with heap := _ }) er2 hal hsr hb) ?_
  have he := PySem.W.sortVals_data false (vals_each rv) er hal
  generalize PySem.W.sortVals _ false its its = out at he ⊢
  have hv := each_vals he
  obtain ⟨n, new⟩ := sortedAll_at s.heap its out.toArray
  refine ⟨.ref _, _, I.laid (t' := s.toks) (fun b o hb => sortedAll_old hb) (Nat.le_succ _) ?_, rfl, q _ (I.hok.fresh (Nat.le_succ _))⟩
  refine ⟨?_, out, n, hv, new⟩
  rw [List.length_map, List.length_mergeSort]
  exact line_of hlen
theorem csSortedA : CaS Γ X.K W (rSortedA X.K) sortedA := by
  intro G H σ xs ds Q s r p
  unfold sortedA at p
  split at p
  · rename_i ds
    obtain ⟨v, rfl, h⟩ := r.inv1
    unfold sortedO at p
    obtain ⟨hf, p⟩ := Post.guard _ p
    simp only [Bool.and_eq_true] at hf
    obtain ⟨⟨⟨f1, f2⟩, f3⟩, f4⟩ := hf
    cases h with
    | tup ha ra =>
      rename_i l vs
      obtain ⟨z1, z2, z3⟩ := ra.pairs
      have e : (vs.zip ds).map (fun b => toP b.2) = toPs ds := by
        have z := congrArg (List.map toP) z2
        rw [List.map_map] at z
        rw [toPs_map]
        exact z
      have hal := alikes_all f2
      have hd : ∀ b ∈ vs.zip ds, flat 20 b.2 = true := fun b hb => flat_mem f1 b.2 (by rw [← z2]; exact List.mem_map.mpr ⟨b, hb, rfl⟩)
      refine .inr ⟨l, vs.zip ds, rfl, by rw [z1]; exact s.seqT ha, fun b hb => ((z3 b hb).mono s).dp (hd b hb), by rw [e]; exact hal.1, by rw [e]; exact sortable_D f3, fun b hb => ?_, ?_, fun q hq => ?_⟩
      · have := (flat_shaped 20 b.2 (hd b hb)).2
        omega
      · rw [List.length_zip]
        have := of_decide_eq_true f4
        omega
      · have rr := RpA.of_pairs (Γ := Γ) (K := X.K) (H := G) (bs := (vs.zip ds).mergeSort (PySem.W.dataLe false fun b => toP b.2)) fun b hb => z3 b (List.mem_mergeSort.mp hb)
        rw [sort_pairs, z2] at rr
        exact p _ _ _ (.new s hq) (.lst upd_same (rr.mono (same_upd (s.none hq))))
  · exact .inl (csSorted s r p)
end
/-! ### for the end of a law with lambdas -/
theorem kit_ve {K : PySem.W.Frag} {c : Addr} (h : PySem.W.subIn K (.ref c) (.type "ValueError") = some true) : PySem.W.kitOne K (.ref c) (.type "ValueError") = some true := by
  have m : PySem.W.kitMeta "ValueError" = true := by decide +kernel
  have n : ((Value.ref c) == Value.type "ValueError") = false := rfl
  unfold PySem.W.kitOne PySem.W.kitCls
  rw [n]
  simp only [m, if_true]
  exact h
theorem lk_in {P : Addr} {q : Str} : ∀ {qs : List (Addr × Str)}, qs.lookup P = some q → P ∈ qs.map (·.1)
  | [], h => nomatch h
  | (a, b) :: qs, h => by
    rw [List.lookup_cons] at h
    split at h
    · rename_i z
      rw [beq_iff_eq.mp z]
      exact List.mem_cons_self
    · exact List.mem_cons_of_mem _ (lk_in h)
theorem tab_all {H : Hp} {cs : List (Addr × Addr)} {qs : List (Addr × Str)} (e : qs.map (·.1) = cs.map (·.2)) (hH : ∀ p ∈ cs, H p.2 = some (.tbl #[])) {P : Addr} {q : Str} (h : qs.lookup P = some q) : H P = some (.tbl #[]) := by
  have m := lk_in h
  rw [e] at m
  obtain ⟨p, hp, rfl⟩ := List.mem_map.mp m
  exact hH p hp
theorem law_sp [TabN] {K : PySem.W.Frag} {H : Hp} {a : Addr} {ns : List Int} {cs : List (Addr × Addr)} {qs : List (Addr × Str)} (hn : ∀ P, TabN.nm P = qs.lookup P) (e : qs.map (·.1) = cs.map (·.2)) (hl : ns.length ≤ 63) (hH : ∀ p ∈ cs, H p.2 = some (.tbl #[])) (hS : SqL K H a (ns.map V.int)) :
    spLaw K [.ref a] H (fun v _ => v = .bl true) fun _ _ _ => False := by
  obtain ⟨G, a1, a2, _, a3⟩ := scr_only hS
  exact ⟨a, ns, rfl, hS, hl, ⟨G, a1, a2, tabs_start a3 fun P q hq => tab_all e hH (by rw [← hn]; exact hq)⟩, fun _ => rfl⟩
end VL
end
section
set_option Elab.async false
set_option linter.all false
set_option maxRecDepth 100000
set_option maxHeartbeats 4000000
set_option autoImplicit false
/-! x, y = [..], v where y is kept in a cell -/
namespace VL
open PySem PySem.Spec PyProof.Rows L2
variable [TabN]
section
variable {Γ : Gam} {X : Cx} {W : WX} {a b c e : Expr} {es : List Expr} {fa fb fc : En → R D} {pos p p2 pos2 : Pos} {j : Nat}
theorem ss_asgOV (i k : Nat) {x y : Str} {px py pt : Pos} {kt k2 pt2} {fl : En → R (List D)} (C : Ct X W j) (ha : SF Γ X W a fl) (hb : SE Γ X W b fb) (hik : i ≠ k := by decide) (hi : X.N[i]? = some x := by rfl) (hk : X.N[k]? = some y := by rfl)
    (hx : Loc X.env.scope x := by first | exact .inl rfl | exact .inr rfl) (hy : Loc X.env.scope y := by first | exact .inl rfl | exact .inr rfl)
    (hfx : X.fn x = true ∨ X.env.scope.names.lookup x = some .local := by first | exact .inl rfl | exact .inr rfl | assumption) (hfy : X.fn y = true ∨ X.env.scope.names.lookup y = some .local := by first | exact .inl rfl | exact .inr rfl | assumption)
    (hw : swappedStores [.Tuple [.Name x px, .Name y py] kt pt] (.Tuple [a, b] k2 pt2) X.env = pure none := by rfl)
    (hs : swapsWithSole [.Tuple [.Name x px, .Name y py] kt pt] (.Tuple [a, b] k2 pt2) pos.line X.env = pure false := by rfl)
    (h1 : (assignEach [.Tuple [.Name x px, .Name y py] kt pt] X.env).map (·.2) = [assign (.Tuple [.Name x px, .Name y py] kt pt) X.env] := by rfl)
    (hn : (assignEach [.Name x px, .Name y py] X.env).length = 2 := by rfl) (hst : (assignEach [.Name x px, .Name y py] X.env).findIdx? (·.1) = none := by rfl)
    (hs1 : starEach [a, b] X.env = (false, eval a X.env) :: starEach [b] X.env := by rfl) (hs2 : starEach [b] X.env = (false, eval b X.env) :: starEach [] X.env := by rfl) :
    SS Γ X W (.Assign [.Tuple [.Name x px, .Name y py] kt pt] (.Tuple [a, b] k2 pt2) pos) (parO fl fb fun ds d ρ => .next ((ρ.set i (some (.own ds))).set k (some (.val d)))) := by
  obtain ⟨tb, pb, qb⟩ := hb.out
  refine PS.imp (ps_asg (pe_tup (pa_cons ha (pa_cons pb pa_nil hs2) hs1)) (pg_tup C.calm (pgs_cons (pg_name C.nd hi hx hfx) (pgs_cons (pg_name C.nd hk hy hfy) pgs_nil)) hn hst) hs hw h1) fun E σ H hh => ?_
  obtain ⟨B, G, ρ, r, p⟩ := hh
  refine ⟨B, G, ρ, r, ?_⟩
  unfold parO at p
  cases hfl : fl ρ with
  | exc c => rw [hfl] at p; exact fun G1 H1 e1 => p G1 H1 σ e1.g (r.go e1)
  | stuck => rw [hfl] at p; exact p
  | ok ds =>
    rw [hfl] at p
    intro L G1 H1 acc n e1 g1 h1 ra
    have r1 := r.go e1
    have p' : PostS Γ X.K W B G1 E (thenS (fb ρ) ρ fun d => .next ((ρ.set i (some (.own ds))).set k (some (.val d)))) := PostS.up p e1.g
    refine qb r1 (PostS.use r1 p' fun G2 H2 v d e2 r2 rv p2 => ?_)
    obtain ⟨h2, g2⟩ := e2.k L _ h1 g1 fun _ z => nomatch z
    refine ⟨by rw [sizeLine_eq]; simp, fun q hq => ?_⟩
    have en : Ext G2 H2 (upd G2 q (.tup [.ref L, v])) (upd H2 q (.tup [.ref L, v])) := .new r2.same hq
    obtain ⟨h3, g3⟩ := en.k L _ h2 g2 fun _ z => nomatch z
    refine ⟨q, [.ref L, v], rfl, .of upd_same, rfl, _, _, rfl, _, _, rfl, rfl, ?_⟩
    exact p2 _ _ _ en.g ((((r2.go en)).setOwn (r.ext.d L n) g3 h3 ((ra.mono e2.g).mono en.g) (r.fresh n ((e1.trans e2).trans en))).set (rv.mono en.g))
end
section
variable {prog : Program} {w : World} {A : Around} {E : Value → Shared → Prop} {s : Shared}
theorem sum_lst_raw {t : Addr} {its : List Value} {ns : List Int} {Q : Value → Shared → Prop} (hh : A.handled = none) (hT : s.heap.IsList t its.toArray) (hi : Vals (ns.map V.int) its) (hb : ∀ n ∈ ns, n.natAbs ≤ 1000) (hl : ns.length ≤ 1000)
    (h : ∀ h' tk t', (∀ b o, s.heap.get? b = some o → h'.get? b = some o) → Q (.int ns.sum t') { s with heap := h', toks := tk }) : wpAny (model prog w) A (call (.builtin "sum") [.ref t]) Q E s := by
  have hlen : its.length = ns.length := by rw [← hi.length]; simp
  have hlt : t < s.heap.objs.size := by
    obtain ⟨o, ho, _⟩ := hT
    exact Heap.lt_size ho
  refine call_sum_walk (wpAny_pyIter_list hT ?_)
  refine ⟨s.heap.objs.size, _, _, _, _, _, fun i => ns.getD i 0, rfl, Walks.list (A := A.in1) hh _ t (Nat.ne_of_lt hlt) its.toArray, ⟨⟨_, Heap.get?_push_size _ rfl, rfl, rfl⟩, ?_⟩, fun b hb => ?_, fun i v hv => ?_, fun j hj => ?_, fun h' tk t' hk => ?_⟩
  · obtain ⟨o, ho, r⟩ := hT
    exact ⟨o, Heap.get?_push_of_some _ ho, r⟩
  · show b < (s.heap.push _).objs.size
    rw [Heap.size_push]
    simp at hb
    rcases hb with rfl | rfl
    · exact Nat.lt_succ_self _
    · exact Nat.lt_succ_of_lt hlt
  · obtain ⟨x, hx, rx⟩ := vals_get' hi (by simpa using hv)
    rw [List.getElem?_map] at hx
    cases hn : ns[i]? with
    | none => rw [hn] at hx; cases hx
    | some n =>
      rw [hn] at hx
      cases hx
      obtain ⟨t', rfl⟩ := rx
      exact ⟨t', by show _ = Value.int (ns.getD i 0) t'; rw [List.getD_eq_getElem?_getD, hn]; rfl⟩
  · rw [preSum_getD]
    have h1 := abs_sum (ns.take (j + 1)) 1000 fun n hn => hb n (List.mem_of_mem_take hn)
    have h2 : (ns.take (j + 1)).length * 1000 ≤ 1000 * 1000 := Nat.mul_le_mul_right _ (by rw [List.length_take]; omega)
    have h3 : (ns.getD j 0).natAbs ≤ 1000 := by
      rw [List.getD_eq_getElem?_getD]
      cases hn : ns[j]? with
      | none => simp
      | some n => exact hb n (List.mem_of_getElem? hn)
    unfold InLong
    show (_ ≤ ns.getD j 0 ∧ ns.getD j 0 < _) ∧ _
    refine ⟨⟨?_, ?_⟩, ?_, ?_⟩ <;> omega
  · have hs : its.toArray.size = ns.length := by rw [List.size_toArray, hlen]
    rw [hs, preSum_getD, List.take_length]
    refine h h' tk t' fun b o hb => hk b o ?_ (Heap.get?_push_of_some _ hb)
    intro hm
    have := Heap.lt_size hb
    rw [List.mem_singleton.mp hm] at this
    exact absurd this (Nat.lt_irrefl _)
end
section
variable {Γ : Gam} {X : Cx} {W : WX}
def sumA : List D → R D
  | [.lst ds] => sumO [.tup ds]
  | xs => sumO xs
def rSumA (K : PySem.W.Frag) : List V → Hp → VK → Prop := fun vs H Q => rSumT K vs H Q ∨ ∃ (a : Addr) (ns : List Int), vs = [V.ref a] ∧ SqL K H a (ns.map V.int) ∧ okInts ns = true ∧ Q (.int ns.sum) H
theorem call_sumA (hc : X.calm = true) : CallR X (.builtin "sum") (rSumA X.K) := by
  intro pins s σ H vs us Q I r h
  rcases h with h | h
  · exact call_sumT hc _ _ _ _ _ _ _ I r h
  obtain ⟨a, ns, rfl, hs, ok, q⟩ := h
  obtain ⟨its, rv, hl, _⟩ := I.list hs
  obtain ⟨o1, o2⟩ := okInts_out ok
  rw [Vals.ref1 r]
  exact sum_lst_raw (I.ok.hd hc) hl.isList rv o1 o2 fun h' tk t' hk => ⟨.int _, H, I.kept hk, ⟨_, rfl⟩, q⟩
theorem csSumA : CaS Γ X.K W (rSumA X.K) sumA := by
  intro G H σ xs ds Q s r p
  unfold sumA at p
  split at p
  · rename_i ds
    obtain ⟨v, rfl, h⟩ := r.inv1
    unfold sumO at p
    dsimp only at p
    cases h with
    | lst ha ra =>
      cases hb : intsD ds with
      | none => rw [hb] at p; exact p.elim
      | some ns =>
        rw [hb] at p
        dsimp only at p
        obtain ⟨ok, p⟩ := Post.guard _ p
        have e := ints_V ra hb
        subst e
        exact .inr ⟨_, ns, rfl, .of (s _ _ ha), ok, p.here s (.int _)⟩
  · exact .inl (csSum s r p)
end
end VL
end
section
set_option Elab.async false
set_option linter.all false
set_option maxRecDepth 100000
set_option maxHeartbeats 4000000
set_option autoImplicit false
/-! Closures that leave their frame: a def that returns a list of its lambdas. -/
namespace VL
open PySem PySem.Spec PyProof.Rows L2
variable [TabN]
/-- the statements before the last one, which is done by hand -/
def SSe (Γ : Gam) (X : Cx) (W : WX) (last : Stmt) (sts : List Stmt) (f : En → RS) : Prop := ∀ (pins : List (Addr × Obj)) (s : Shared) (σ : L2.St) (H : Hp) (N : L2.St → Hp → Prop) (Pf : Flow → Shared → Prop), Inv X pins σ H s → tS Γ X.K W f { nx := N, rt := fun _ _ => False } σ H →
  (∀ σ' H' s', Inv X pins σ' H' s' → N σ' H' → wpAny (model X.prog X.w) X.A (exec last X.env) Pf X.xe s') → wpAny (model X.prog X.w) X.A (execs sts X.env) Pf X.xe s
section
variable {Γ : Gam} {X : Cx} {W : WX} {st last : Stmt} {sts : List Stmt} {f g : En → RS}
theorem sse_last : SSe Γ X W last [last] RS.next := fun pins s σ H N Pf I h k => by
  obtain ⟨B, G, ρ, r, p⟩ := h
  refine wpAny_execs_cons (thn (k σ H s I (p G H σ (.refl _) r)) fun fl s1 q => ?_)
  cases fl with
  | next => exact wpAny_execs_nil q
  | ret v => exact q
  | brk => exact q
  | cont => exact q
theorem sse_cons (h1 : SS Γ X W st f) (h2 : SSe Γ X W last sts g) : SSe Γ X W last (st :: sts) (seqS f g) := fun pins s σ H N Pf I h k => by
  obtain ⟨B, G, ρ, r, p⟩ := h
  have w : tS Γ X.K W f { nx := tS Γ X.K W g { nx := N, rt := fun _ _ => False }, rt := fun _ _ => False } σ H := by
    refine ⟨B, G, ρ, r, ?_⟩
    unfold seqS at p
    cases hf : f ρ with
    | next ρ1 => rw [hf] at p; exact fun G1 H1 σ1 s1 r1 => ⟨B, G1, ρ1, r1, PostS.up p s1⟩
    | ret d => rw [hf] at p; exact p
    | retE d ρ1 => rw [hf] at p; exact p
    | retO k ρ1 => rw [hf] at p; exact p
    | brk d => rw [hf] at p; exact p
    | cont d => rw [hf] at p; exact p
    | exc c d => rw [hf] at p; exact p
    | stuck => rw [hf] at p; exact p
  refine wpAny_execs_cons (thn (h1.run pins s σ H _ I w) fun fl s1 q => ?_)
  cases fl with
  | next =>
    obtain ⟨σ', H', I', q⟩ := q
    exact h2 pins s1 σ' H' N Pf I' q k
  | ret v => exact (q.elim fun _ z => z.elim fun _ z => z.elim fun _ z => z.2.2).elim
  | brk => exact (q.elim fun _ z => z.elim fun _ z => z.2).elim
  | cont => exact (q.elim fun _ z => z.elim fun _ z => z.2).elim
end
/-- closures as they leave their frame, or data -/
def cloD : D → Bool
  | .op n ds => n % 2 == 0 && decide (10 ≤ n) && capDs ds
  | d => dataD d
def cloDs : List D → Bool
  | [] => true
  | d :: ds => cloD d && cloDs ds
theorem Rp.convL {Γ Γ' : Gam} {P : Program} {w : World} {Ca Ca' : Nat → Addr} {K : PySem.W.Frag} {G : Hp} {LT : Nat → Option Lm} (gO : GamOk Γ P w Ca) (gO' : GamOk Γ' P w Ca') (hC : CloG Γ LT) (hC' : CloG Γ' LT) {v : V} {d : D} (r : Rp Γ K G v d) (h : cloD d = true) : Rp Γ' K G v d := by
  have eP : Γ'.P = Γ.P := gO'.P.trans gO.P.symm
  have ew : Γ'.w = Γ.w := gO'.w.trans gO.w.symm
  cases r with
  | op hO hA =>
    rename_i n vs ds
    have hn : (n % 2 = 0 ∧ 10 ≤ n) ∧ capDs ds = true := by simpa [cloD] using h
    obtain ⟨⟨h1, h2⟩, hd⟩ := hn
    obtain ⟨k, rfl⟩ : ∃ k, n = 2 * k + 10 := ⟨(n - 10) / 2, by omega⟩
    exact .op ((hC' _ _ _ _ _).mpr ((hC _ _ _ _ _).mp hO)) (RpA.convC gO gO' (keeps_same (.refl _)) hA hd)
  | non => exact .non
  | bl b => exact .bl b
  | int i => exact .int i
  | str x => exact .str x
  | tup a b => exact Rp.conv eP ew (keeps_same (.refl _)) (.tup a b) h
  | lst a b => exact Rp.conv eP ew (keeps_same (.refl _)) (.lst a b) h
  | scr a b => exact Rp.conv eP ew (keeps_same (.refl _)) (.scr a b) h
  | dic a b c d e => exact Rp.conv eP ew (keeps_same (.refl _)) (.dic a b c d e) h
theorem RpA.convL {Γ Γ' : Gam} {P : Program} {w : World} {Ca Ca' : Nat → Addr} {K : PySem.W.Frag} {G : Hp} {LT : Nat → Option Lm} (gO : GamOk Γ P w Ca) (gO' : GamOk Γ' P w Ca') (hC : CloG Γ LT) (hC' : CloG Γ' LT) : ∀ {vs : List V} {ds : List D}, RpA Γ K G vs ds → cloDs ds = true → RpA Γ' K G vs ds
  | _, _, .nil, _ => .nil
  | _, _, .cons h r, f => by
    have f' := (show _ ∧ _ by simpa [cloDs] using f)
    exact .cons (Rp.convL gO gO' hC hC' h f'.1) (RpA.convL gO gO' hC hC' r f'.2)
theorem valsR_cap {ρ : En} : ∀ {is : List Nat} {ds : List D}, valsR ρ is = .ok ds → capDs ds = true
  | [], _, h => by cases h; rfl
  | i :: is, _, h => by
    obtain ⟨d, h1, h2⟩ := bind_out h
    obtain ⟨h3, h2⟩ := guard_inv h2
    obtain ⟨ds', h4, h5⟩ := bind_out h2
    cases h5
    rw [capDs, h3, valsR_cap h4]; rfl
theorem close1_clo {cv : Nat → Option (List Nat)} {ρ : En} {d e : D} (h : close1 cv ρ d = .ok e) : cloD e = true := by
  have plain : ∀ {d : D}, close1 cv ρ d = (if dataD d = true then R.ok d else .stuck) → close1 cv ρ d = .ok e → dataD d = true ∧ d = e := fun {d} h1 h => by
    rw [h1] at h
    obtain ⟨a, b⟩ := guard_inv h
    cases b
    exact ⟨a, rfl⟩
  cases d with
  | op n ds =>
    cases ds with
    | cons _ _ => cases h
    | nil =>
      obtain ⟨⟨n1, n2⟩, h⟩ := guard_inv h
      cases hk : cv ((n - 11) / 2) with
      | none => rw [hk] at h; cases h
      | some is =>
        rw [hk] at h
        obtain ⟨ds, h1, h2⟩ := bind_out h
        cases h2
        have e1 : (n - 1) % 2 = 0 := by omega
        have e2 : 10 ≤ n - 1 := by omega
        simp [cloD, valsR_cap h1, e1, e2]
  | non => cases h; rfl
  | bl b => cases h; rfl
  | int i => cases h; rfl
  | str x => cases h; rfl
  | tup a => obtain ⟨a, b⟩ := plain rfl h; rw [← b]; exact a
  | lst a => obtain ⟨a, b⟩ := plain rfl h; rw [← b]; exact a
  | scr a => obtain ⟨a, b⟩ := plain rfl h; rw [← b]; exact a
  | dic a b => obtain ⟨a, b⟩ := plain rfl h; rw [← b]; exact a
theorem closes_clo {cv : Nat → Option (List Nat)} {ρ : En} : ∀ {ds es : List D}, closes cv ρ ds = .ok es → cloDs es = true
  | [], _, h => by cases h; rfl
  | d :: ds, _, h => by
    obtain ⟨e, h1, h2⟩ := bind_out h
    obtain ⟨es', h3, h4⟩ := bind_out h2
    cases h4
    rw [cloDs, close1_clo h1, closes_clo h3]; rfl
/-- the private list in slot i leaves -/
def retE (is : List Nat) (cv : Nat → Option (List Nat)) (i : Nat) (ρ : En) : R D := match ρ[i]? with
  | some (some (.own ds)) => (noX (valsR ρ is)).bind fun _ => (noX (closes cv ρ ds)).bind fun es => .ok (.lst es)
  | _ => .stuck
def bodyE (N n : Nat) (is : List Nat) (cv : Nat → Option (List Nat)) (i : Nat) (f : En → RS) : List D → R D := fun ds => if ds.length = n ∧ capDs ds = true then (match f (ds.map (fun d => some (.val d)) ++ List.replicate (N - ds.length) none) with
  | .next ρ => retE is cv i ρ
  | _ => .stuck) else .stuck
theorem un_add {fs cs : List Addr} {H H' : Hp} {h h' h2 : Heap} (nH : ∀ c ∈ cs, H' c = none) (hn : ∀ c ∈ cs, h.get? c = none) (u : Un fs [] H H' h h') : Un fs [] H (addH H' cs h2) h h' := by
  have out : ∀ {b : Addr} {x : HO}, H' b = some x → b ∉ cs := fun {b x} e z => by rw [nH b z] at e; cases e
  refine ⟨u.keep, u.slot, fun b o q n hx => ?_, u.there, fun b xs q => ?_, fun b o x q => ?_, fun b ps q => ?_⟩
  · rw [addH_out fun z => by rw [hn b z] at q; cases q]
    exact u.free b o q n hx
  · have z := u.tups b xs q
    rw [addH_out (out z)]; exact z
  · have z := u.frzs b o x q
    rw [addH_out (out z)]; exact z
  · obtain ⟨ps', z⟩ := u.tbls b ps q
    exact ⟨ps', by rw [addH_out (out z)]; exact z⟩
section
variable {Γ : Gam} {P : Program} {w : World} {K : PySem.W.Frag} {mg : Str → Option Value} {base : Heap} {Ca : Nat → Addr} {LT : Nat → Option Lm} {x y : Str} {st : Stmt} {f c : Addr} {oc kV doc pm ct : Value} {od an : Option Addr} {osl : Array (Option Value)} {N ps : List Str} {k : Nat} {fb : En → RS} {p1 p2 : Pos}
theorem cal_mkE (cp : List (Str × Nat)) (cv : Nat → Option (List Nat)) (i : Nat) (gO : GamOk Γ P w Ca) (hC : CloG Γ LT)
    (lk : K.lookup f = some ⟨oc, od, .func (PySem.W.fnOf x x (defArgs st) (defBody st) (defScope st) .none kV doc pm an (.ref c) ct), osl⟩) (hcd : PySem.W.codeIn K (.ref c) x = true) (kp : PySem.W.keepIn K (.ref f) = true) (S : FnScope N ps (defScope st)) (hm : mg x = some (.ref f)) (hbd : Binds K (PySem.W.fnOf x x (defArgs st) (defBody st) (defScope st) .none kV doc pm an (.ref c) ct) ps [])
    (hb : ∀ (A : Around) (outer : List Env) (s : Shared) (H : Hp) (EE : XK), Ct (cxOf (L2.CX P w) P w K mg base N x (defScope st) f (.ref c) A outer s H EE) (fun cls d _ H' => EE cls d H') k →
      SSe (gamL P w Ca LT (cxOf (L2.CX P w) P w K mg base N x (defScope st) f (.ref c) A outer s H EE).env.cells) (cxOf (L2.CX P w) P w K mg base N x (defScope st) f (.ref c) A outer s H EE) (fun cls d _ H' => EE cls d H') (.Return (some (.Name y p1)) p2) (defBody st) fb)
    (hp : ∀ q ∈ cp, N[q.2]? = some q.1 ∧ (defScope st).names.lookup q.1 = some .cell) (hcv : ∀ (X : Cx) k is, cv k = some is → CapK X LT cp k is)
    (hN : N[i]? = some y := by rfl) (hv : Vis (defScope st) y := by first | exact Or.inl rfl | exact Or.inr (Or.inl rfl) | exact Or.inr (Or.inr rfl))
    (hd : (y == ("__debug__" : Str)) = false := by decide) (hcd2 : (y == ("__classdict__" : Str)) = false := by decide) :
    Cal Γ P w K mg base x (k + 1) ps (bodyE N.length ps.length (cp.map (·.2)) cv i fb) := by
  refine ⟨⟨f, _, ⟨fun vs H Q E h => ?_, fun A outer s H args us vs Q E hr e0 hbind rv hsp => ?_⟩, hm, kp, hbd⟩, fun ds h => if_neg fun z => h z.1⟩
  · obtain ⟨G, ds, _, _, r, hl, _⟩ := h
    rw [r.length]; exact hl
  obtain ⟨G, ds, sm, tb, rA, hl, post⟩ := hsp
  have hlv : vs.length = ps.length := by rw [rA.length]; exact hl
  unfold bodyE at post
  obtain ⟨⟨_, hcap⟩, post⟩ := Post.guard _ post
  have kIn : K.In s.heap := e0.mod.kin.keeps fun b o e => (e0.bs b o e).1
  have noLim : s.heap.NoLimit := e0.mod.nolimit.keeps fun b o e => (e0.bs b o e).1
  have kinds : ∀ y ∈ ps.zip us, (defScope st).names.lookup y.1 = some .local ∨ ((defScope st).names.lookup y.1 = some .cell ∧ ((cellsFrom (s.heap.objs.size + 1) (defScope st).names []).lookup y.1).isSome = true) := fun y hy =>
    (S.par y.1 (List.of_mem_zip hy).1).imp id fun q => ⟨q, PySem.W.cellsFrom_some _ _ _ (.inl q)⟩
  refine codeAny_call_function hr.depth (kIn _ _ lk) rfl S.co S.gen rfl (PySem.W.codeRec_of kIn hcd) (hbind _ _ _ _ (wpAny_newFunctionEnv_cells S.kind kinds fun env he s1 xs => ?_))
  subst he
  refine ⟨noLim.keeps xs.toInCall.keep, codeAny_func ?_⟩
  have J : Inv (cxOf (L2.CX P w) P w K mg base N x (defScope st) f (.ref c) A outer s H E) [] (L2.start N vs) H s1 := inv_start S hr.hd e0 hlv rv xs
  have body := hb A outer s H E ⟨takes_of rfl rfl rfl rfl, passes_of rfl, rfl, S.nd, hr.deeper _⟩
  cases hf : fb (ds.map (fun d => some (.val d)) ++ List.replicate (N.length - ds.length) none) with
  | ret d => rw [hf] at post; exact post.elim
  | retE d ρ => rw [hf] at post; exact post.elim
  | retO k ρ => rw [hf] at post; exact post.elim
  | brk ρ => rw [hf] at post; exact post.elim
  | cont ρ => rw [hf] at post; exact post.elim
  | exc c ρ => rw [hf] at post; exact post.elim
  | stuck => rw [hf] at post; exact post.elim
  | next ρ =>
  rw [hf] at post
  replace post : Post Γ (fun cls d _ H' => E cls d H') G H [] (Rp Γ K) Q (retE (cp.map (·.2)) cv i ρ) := post
  unfold retE at post
  split at post
  case h_2 => exact post.elim
  rename_i es hi
  obtain ⟨cps, hcps, post⟩ := noX_out post
  obtain ⟨es', hes, post⟩ := noX_out post
  refine body [] s1 _ H (fun σ' H' => ∃ G', Rel (gamL P w Ca LT (cxOf (L2.CX P w) P w K mg base N x (defScope st) f (.ref c) A outer s H E).env.cells) K (G, H) G' H' σ' ρ) _ J ⟨(G, H), G, _, start_rel sm tb (RpA.convC gO gamL_ok (keeps_same (.refl _)) rA hcap), ?_⟩ fun σ' H' s' I' hN' => ?_
  · rw [hf]; exact fun G1 H1 σ1 _ r1 => ⟨G1, r1⟩
  obtain ⟨G', r'⟩ := hN'
  obtain ⟨p, ws, hσ, hB, hG, hH, rws⟩ := r'.own hi
  refine wpAny_Return_some (thn ((pe_var (X := cxOf (L2.CX P w) P w K mg base N x (defScope st) f (.ref c) A outer s H E) (pos := p1) (i := i) hN hv hd hcd2).run [] s' σ' H' (fun v H1 => v = .ref p ∧ H1 = H') I' ⟨.ref p, hσ, rfl, rfl⟩) fun u s2 hu => ?_)
  obtain ⟨v', H1, I2, rp, ev, eH⟩ := hu
  subst ev
  rw [eH] at I2
  obtain rfl : u = Value.ref p := rp
  obtain ⟨hc, _, _⟩ := vals_at I2 r' hp hcps
  have kC := cs_cells hc
  have nH := cs_free I2 hc
  have nG := fun c h => r'.same.none (nH c h)
  have rE := RpA.convL gamL_ok gO gamL_clo hC (closes_ok I2 r' hp hc (hcv _) nG rws hes) (closes_clo hes)
  have sH : Same (upd G' p (.lst ws)) H' := fun b z e => by
    by_cases hb : b = p
    · subst hb; rw [upd_same] at e; rw [hH]; exact e
    · rw [upd_ne hb] at e; exact r'.same _ _ e
  have nG2 := fun c h => sH.none (nH c h)
  have out : ∀ {b : Addr} {z : HO}, H' b = some z → b ∉ csOf (cxOf (L2.CX P w) P w K mg base N x (defScope st) f (.ref c) A outer s H E) cp := fun {b z} e m => by rw [nH b m] at e; cases e
  have old : ∀ c' ∈ csOf (cxOf (L2.CX P w) P w K mg base N x (defScope st) f (.ref c) A outer s H E) cp, s.heap.get? c' = none := fun c' h => by
    obtain ⟨q, hq, rfl⟩ := List.mem_map.mp h
    have h2 := I2.ok.cab _ _ rfl (hc q hq).look
    cases e : s.heap.get? (cellOf (cxOf (L2.CX P w) P w K mg base N x (defScope st) f (.ref c) A outer s H E) q.1) with
    | none => rfl
    | some o => exact absurd (Nat.lt_of_lt_of_le (Heap.lt_size e) h2) (Nat.lt_irrefl _)
  have ext : Ext G H (addH (upd G' p (.lst ws)) (csOf (cxOf (L2.CX P w) P w K mg base N x (defScope st) f (.ref c) A outer s H E) cp) s2.heap) (addH H' (csOf (cxOf (L2.CX P w) P w K mg base N x (defScope st) f (.ref c) A outer s H E) cp) s2.heap) := by
    refine ⟨(r'.ext.g.trans (same_upd hG)).trans (addH_same nG2), addH_both sH, fun b o e1 e2 e3 => ?_, fun b e => ?_, fun t => addH_tabs kC ((r'.ext.t t).put hG noTab_lst) nH sH⟩
    · obtain ⟨z1, z2⟩ := r'.ext.k b o e1 e2 e3
      have hb : b ≠ p := fun z => by subst z; have hB : H b = none := hB; rw [hB] at e1; cases e1
      rw [addH_out (out z1), addH_out (out z1), upd_ne hb]
      exact ⟨z1, z2⟩
    · by_cases hb : b ∈ csOf (cxOf (L2.CX P w) P w K mg base N x (defScope st) f (.ref c) A outer s H E) cp
      · exact r'.ext.d b (nH b hb)
      · rw [addH_out hb] at e; exact r'.ext.d b e
  exact ⟨.ref p, addH H' (csOf (cxOf (L2.CX P w) P w K mg base N x (defScope st) f (.ref c) A outer s H E) cp) s2.heap, I2.os, I2.bare, un_add nH old I2.base, addH_hok kC nH I2.hok, rfl, post _ _ _ ext (.lst (by rw [addH_out (out hH), upd_same]) (rE.mono (addH_both (same_upd hG))))⟩
end
end VL
end
section
set_option Elab.async false
set_option linter.all false
set_option maxRecDepth 100000
set_option maxHeartbeats 4000000
set_option autoImplicit false
/-! Instances of the class that is known, as they stand: their attributes, their methods, how one is made. -/
namespace VL
open PySem PySem.Spec PyProof.Rows L2
variable [TabN]
section
variable {Γ : Gam} {X : Cx} {W : WX} {e o : Expr} {es : List Expr} {fe fo : En → R D} {pos p apos : Pos} {j : Nat} {st : Stmt}
def attrO (i : Nat) : D → R D
  | .op n ds => if n = 3 then (match ds[i]? with | some d => .ok d | none => .stuck) else .stuck
  | _ => .stuck
/-- no name of the class is in the way -/
structure Atr (K : PySem.W.Frag) (f : Str) : Prop where
  ex : ∃ C, TabN.wc = some C ∧ Cls K C ∧ NoAttr K C f
theorem se_attr (i : Nat) {f : Str} {Ca : Nat → Addr} (gO : GamOk Γ X.prog X.w Ca) (ho : SE Γ X W o fo) (h : Atr X.K f) (hf : ∀ s e l : V, List.lookup f [(("state" : Str), s), ("earlier", e), ("later", l)] = [s, e, l][i]? := by intro s e l; rfl) (hb : attributeBase o f X.env (eval o X.env) = eval o X.env := by rfl) :
    SE Γ X W (.Attribute o f pos) (fun ρ => (fo ρ).bind (attrO i)) := by
  obtain ⟨ta, pa, qa⟩ := ho.out
  obtain ⟨C, h1, h2, h3⟩ := h.ex
  refine .mk ⟨_, pe_fld pa hb, fun {B G H σ ρ Q} r p => ?_⟩
  refine qa r (p.bind fun G1 H1 v d e1 r1 p1 => ?_)
  unfold attrO at p1
  split at p1
  case h_2 => exact p1.elim
  rename_i n ds
  by_cases hn : n = 3
  case neg => rw [if_neg hn] at p1; exact p1.elim
  rw [if_pos hn] at p1
  subst hn
  cases hd : ds[i]? with
  | none => rw [hd] at p1; exact p1.elim
  | some d =>
  rw [hd] at p1
  cases r1 with
  | op hO hA =>
    obtain ⟨C', a, dx, s, e, l, w1, rfl, rfl, w2⟩ := (gO.obj _ _ _ _).mp hO
    rw [h1] at w1
    cases w1
    obtain ⟨v, hv, rv⟩ := hA.get hd
    exact ⟨a, C, dx, _, v, rfl, e1.s _ _ w2, h2, h3, (hf s e l).trans hv, p1.here e1.s rv⟩
/-- a method and its mirror -/
structure CalM (Γ : Gam) (P : Program) (w : World) (K : PySem.W.Frag) (mg : Str → Option Value) (base : Heap) (m : Str) (k : Nat) (ps : List Str) (mm : List D → R D) : Prop where
  ex : ∃ C f fd, TabN.wc = some C ∧ Cls K C ∧ Meth K C m f ∧ FnOk P w K mg base (L2.CX P w) k f fd ps (spM Γ K ps.length mm) ∧ Binds K fd ps []
  len : ∀ ds, ds.length ≠ ps.length → mm ds = .stuck
def self3 : D → R D
  | .op n ds => if n = 3 then .ok (.op 3 ds) else .stuck
  | _ => .stuck
def tMethA (C : Addr) (m : Str) (sp : Sp) (E : L2.St → XK) (ta : TE) (t : TA) : TE := fun σ H Q => ta σ H fun x H1 => ∃ a dx fs, x = .ref a ∧ H1 a = some (.ins C dx fs) ∧ fs.lookup m = none ∧ t σ H1 fun vs H2 => sp (x :: vs) H2 Q (E σ)
theorem pe_methA {C f : Addr} {m : Str} {k : Nat} {fd : FuncData} {ps : List Str} {sp : Sp} {E : L2.St → XK} {ta : TE} {t : TA} {pl : Sem Bool} (he : PE X o ta) (c : Cls X.K C) (hm : Meth X.K C m f) (F : FnOk X.prog X.w X.K X.mg X.base (L2.CX X.prog X.w) k f fd ps sp) (hr : Room k X.A) (hb : Binds X.K fd ps []) (hx : ∀ σ, PassesAt (L2.CX X.prog X.w) X σ (E σ)) (ha : PA X (e :: es) t)
    (hst : starEach (e :: es) X.env = (false, eval e X.env) :: starEach es X.env) (hpl : (backTo pos (starEach es X.env)).any (·.1) = false)
    (ht : eval (.Call (.Attribute o m apos) (e :: es) [] pos) X.env = (do let ov ← eval o X.env; standAt apos.atName; let (f, first) ← holding [ov] (getMethod ov m pl); callWith pos f first (backTo pos (starEach (e :: es) X.env)) (backToKw pos (keywordEach [] X.env)))) :
    PE X (.Call (.Attribute o m apos) (e :: es) [] pos) (tMethA C m sp E ta t) := by
  refine ⟨fun pins s σ H Q I h => PySem.W.methodCall_KW (pl := pl) (thn (he.run pins s σ H _ I h) fun u s1 hu => ?_) ht⟩
  obtain ⟨x, H1, I1, rx, a, dx, fs, ex, ea, l, q⟩ := hu
  subst ex
  obtain rfl : u = Value.ref a := rx
  refine getmeth_ok I1 ea c hm l (PySem.W.callWith_K (first := [.ref a]) (h₀ := X.base) I.ok.mod.kin hm.kp (thn (ha.run pos pins s1 σ H1 _ I1 q) fun us s2 hu => ?_) hst hpl)
  obtain ⟨vs, H2, I2, r, q2⟩ := hu
  exact ⟨I2.kIn, run_fnS (us := .ref a :: us) (vs := .ref a :: vs) F hr hb (hx σ) I2 (.cons rfl r) q2⟩
theorem pe_methA0 {C f : Addr} {m : Str} {k : Nat} {fd : FuncData} {ps : List Str} {sp : Sp} {E : L2.St → XK} {ta : TE} {pl : Sem Bool} (he : PE X o ta) (c : Cls X.K C) (hm : Meth X.K C m f) (F : FnOk X.prog X.w X.K X.mg X.base (L2.CX X.prog X.w) k f fd ps sp) (hr : Room k X.A) (hb : Binds X.K fd ps []) (hx : ∀ σ, PassesAt (L2.CX X.prog X.w) X σ (E σ))
    (ht : eval (.Call (.Attribute o m apos) [] [] pos) X.env = (do let ov ← eval o X.env; standAt apos.atName; let (f, first) ← holding [ov] (getMethod ov m pl); callWith pos f first (backTo pos (starEach [] X.env)) (backToKw pos (keywordEach [] X.env)))) :
    PE X (.Call (.Attribute o m apos) [] [] pos) (tMethA C m sp E ta tNil) := by
  refine ⟨fun pins s σ H Q I h => PySem.W.methodCall_KW (pl := pl) (thn (he.run pins s σ H _ I h) fun u s1 hu => ?_) ht⟩
  obtain ⟨x, H1, I1, rx, a, dx, fs, ex, ea, l, q⟩ := hu
  subst ex
  obtain rfl : u = Value.ref a := rx
  exact getmeth_ok I1 ea c hm l (PySem.W.callWith_K0 (first := [.ref a]) I1.kIn hm.kp (run_fnS (us := [.ref a]) (vs := [.ref a]) F hr hb (hx σ) I1 (.cons rfl .nil) q))
/-- o.m(e, ..) -/
theorem se_meth {m : Str} {k : Nat} {ps : List Str} {mm : List D → R D} {fs : En → R (List D)} {Ca : Nat → Addr} {pl : Sem Bool} (C : Ct X W j) (gO : GamOk Γ X.prog X.w Ca) (F : CalM Γ X.prog X.w X.K X.mg X.base m k ps mm) (ho : SE Γ X W o fo) (ha : SA Γ X W (e :: es) fs) (hk : k ≤ j := by decide)
    (hl : ∀ s e l : V, List.lookup m [(("state" : Str), s), ("earlier", e), ("later", l)] = none := by intro s e l; rfl) (hst : starEach (e :: es) X.env = (false, eval e X.env) :: starEach es X.env := by rfl) (hpl : (backTo pos (starEach es X.env)).any (·.1) = false := by rfl)
    (ht : eval (.Call (.Attribute o m apos) (e :: es) [] pos) X.env = (do let ov ← eval o X.env; standAt apos.atName; let (f, first) ← holding [ov] (getMethod ov m pl); callWith pos f first (backTo pos (starEach (e :: es) X.env)) (backToKw pos (keywordEach [] X.env))) := by rfl) :
    SE Γ X W (.Call (.Attribute o m apos) (e :: es) [] pos) (fun ρ => (fo ρ).bind fun d => (self3 d).bind fun d => (fs ρ).bind fun ds => mm (d :: ds)) := by
  obtain ⟨ta, pa, qa⟩ := ho.out
  obtain ⟨tb, pb, qb⟩ := ha.out
  obtain ⟨c, f, fd, F1, F2, F3, F4, F5⟩ := F.ex
  refine .mk ⟨_, pe_methA (E := WE W) (pl := pl) pa F2 F3 F4 (C.hr.mono hk) F5 (fun σ => passAt C.tk σ) pb hst hpl ht, fun {B G H σ ρ Q} r p => ?_⟩
  refine qa r (p.bind fun G1 H1 v d e1 r1 p1 => ?_)
  unfold self3 at p1
  split at p1
  case h_2 => exact p1.elim
  rename_i n ds
  by_cases hn : n = 3
  case neg => rw [if_neg hn] at p1; exact p1.elim
  rw [if_pos hn] at p1
  subst hn
  replace p1 : Post Γ W G1 H1 σ (Rp Γ X.K) Q ((fs ρ).bind fun es => mm (.op 3 ds :: es)) := p1
  cases r1 with
  | op hO hA =>
    obtain ⟨C', a, dx, s, e, l, w1, rfl, rfl, w2⟩ := (gO.obj _ _ _ _).mp hO
    rw [F1] at w1
    cases w1
    refine ⟨a, dx, _, rfl, e1.s _ _ w2, hl s e l, ?_⟩
    refine qb (r.go e1) (p1.bind fun G2 H2 us es e2 r2 p2 => ?_)
    refine ⟨G2, .op 3 ds :: es, e2.s, ((r.go e1).go e2).tab, .cons ((Rp.op hO hA).mono e2.g) r2, ?_, p2.toSp⟩
    by_cases hl : (D.op 3 ds :: es).length = ps.length
    · exact hl
    · rw [F.len _ hl] at p2
      exact p2.elim
/-- o.m() -/
theorem se_meth0 {m : Str} {k : Nat} {ps : List Str} {mm : List D → R D} {Ca : Nat → Addr} {pl : Sem Bool} (C : Ct X W j) (gO : GamOk Γ X.prog X.w Ca) (F : CalM Γ X.prog X.w X.K X.mg X.base m k ps mm) (ho : SE Γ X W o fo) (hk : k ≤ j := by decide)
    (hl : ∀ s e l : V, List.lookup m [(("state" : Str), s), ("earlier", e), ("later", l)] = none := by intro s e l; rfl)
    (ht : eval (.Call (.Attribute o m apos) [] [] pos) X.env = (do let ov ← eval o X.env; standAt apos.atName; let (f, first) ← holding [ov] (getMethod ov m pl); callWith pos f first (backTo pos (starEach [] X.env)) (backToKw pos (keywordEach [] X.env))) := by rfl) :
    SE Γ X W (.Call (.Attribute o m apos) [] [] pos) (fun ρ => (fo ρ).bind fun d => (self3 d).bind fun d => mm [d]) := by
  obtain ⟨ta, pa, qa⟩ := ho.out
  obtain ⟨c, f, fd, F1, F2, F3, F4, F5⟩ := F.ex
  refine .mk ⟨_, pe_methA0 (E := WE W) (pl := pl) pa F2 F3 F4 (C.hr.mono hk) F5 (fun σ => passAt C.tk σ) ht, fun {B G H σ ρ Q} r p => ?_⟩
  refine qa r (p.bind fun G1 H1 v d e1 r1 p1 => ?_)
  unfold self3 at p1
  split at p1
  case h_2 => exact p1.elim
  rename_i n ds
  by_cases hn : n = 3
  case neg => rw [if_neg hn] at p1; exact p1.elim
  rw [if_pos hn] at p1
  subst hn
  replace p1 : Post Γ W G1 H1 σ (Rp Γ X.K) Q (mm [.op 3 ds]) := p1
  cases r1 with
  | op hO hA =>
    obtain ⟨C', a, dx, s, e, l, w1, rfl, rfl, w2⟩ := (gO.obj _ _ _ _).mp hO
    rw [F1] at w1
    cases w1
    refine ⟨a, dx, _, rfl, e1.s _ _ w2, hl s e l, ?_⟩
    refine ⟨G1, [.op 3 ds], e1.s, (r.go e1).tab, .one (.op hO hA), ?_, p1.toSp⟩
    by_cases hl : ([D.op 3 ds] : List D).length = ps.length
    · exact hl
    · rw [F.len _ hl] at p1
      exact p1.elim
end
theorem calM_mk {Γ : Gam} {P : Program} {w : World} {K : PySem.W.Frag} {mg : Str → Option Value} {base : Heap} {x qual : Str} {st : Stmt} {C f : Addr} {fd : FuncData} {N ps : List Str} {k : Nat} {fb : En → RS} (hw : TabN.wc = some C) (c : Cls K C) (M : Meth K C x f) (F : Fun K x qual st f fd) (S : FnScope N ps (defScope st)) (hbd : Binds K fd ps [])
    (hb : ∀ (cdv : Value) (A : Around) (outer : List Env) (s : Shared) (H : Hp) (EE : XK), Ct (cxOf (L2.CX P w) P w K mg base N qual (defScope st) f cdv A outer s H EE) (fun cls d _ H' => EE cls d H') k →
      SSs Γ (cxOf (L2.CX P w) P w K mg base N qual (defScope st) f cdv A outer s H EE) (fun cls d _ H' => EE cls d H') (defBody st) fb) :
    CalM Γ P w K mg base x (k + 1) ps (bodyM N.length ps.length fb) :=
  ⟨⟨C, f, fd, hw, c, M, fn_mk F S hb, hbd⟩, fun ds h => if_neg h⟩
end VL
end
section
set_option Elab.async false
set_option linter.all false
set_option maxRecDepth 100000
set_option maxHeartbeats 4000000
set_option autoImplicit false
/-! How an instance is made. -/
namespace VL
open PySem PySem.Spec PyProof.Rows L2
variable [TabN]
/-- the text of a class -/
def clsBody (s : Stmt) : List Stmt := match s with
  | .ClassDef _ _ _ b _ _ _ _ _ _ _ => b
  | _ => []
/-- the check, then the state -/
def initM (g1 g2 : En → R D) : D → R D := fun d => (g1 [none, some (.val d)]).bind fun _ => g2 [none, some (.val d)]
/-- what __init__ does: x is the new instance -/
def spI (Γ : Gam) (K : PySem.W.Frag) (C : Addr) (m : D → R D) : Sp := fun vs H Q E => ∃ x dx v G d, vs = [.ref x, v] ∧ H x = some (.ins C dx []) ∧ G x = none ∧ Same G H ∧ TabsOk G H ∧ Rp Γ K G v d ∧
  (match m d with
    | .ok d' => ∀ G1 H1 vt p q, Ext G H G1 H1 → Rp Γ K G1 vt d' → H1 p = none → H1 q = none → p ≠ q → Q .non (upd (upd (upd H1 p (.lst [])) q (.lst [])) x (.ins C dx [("state", vt), ("earlier", .ref p), ("later", .ref q)]))
    | .exc c => ∀ G1 H1, Ext G H G1 H1 → E (Γ.cls c) none H1
    | .stuck => False)
section
variable {Γ : Gam} {P : Program} {w : World} {K : PySem.W.Frag} {mg : Str → Option Value} {base : Heap} {x qual : Str} {st : Stmt} {C f : Addr} {fd : FuncData} {k : Nat} {g1 g2 : En → R D} {e1 e2 : Expr} {a1 a2 a3 a4 b1 b2 b3 b4 c1 c2 c3 c4 : Pos}
theorem upd5 {H : Hp} {x p q : Addr} {i1 i2 i3 l1 l2 : HO} (h1 : p ≠ x) (h2 : q ≠ x) (h3 : q ≠ p) : upd (upd (upd (upd (upd H x i1) p l1) x i2) q l2) x i3 = upd (upd (upd H p l1) q l2) x i3 := by
  funext b
  by_cases hx : b = x
  · subst hx; rw [upd_same, upd_same]
  · rw [upd_ne hx, upd_ne hx]
    by_cases hq : b = q
    · subst hq; rw [upd_same, upd_same]
    · rw [upd_ne hq, upd_ne hq, upd_ne hx]
      by_cases hp : b = p
      · subst hp; rw [upd_same, upd_same]
      · rw [upd_ne hp, upd_ne hp, upd_ne hx]
theorem fn_init (hc : Cls K C) (n1 : NoAttr K C "state") (n2 : NoAttr K C "earlier") (n3 : NoAttr K C "later") (F : Fun K x qual st f fd) (S : FnScope ["self", "file"] ["self", "file"] (defScope st))
    (hbody : defBody st = [.Expr e1 a1, .Assign [.Attribute (.Name "self" a2) "state" a3] e2 a4, .Assign [.Attribute (.Name "self" b1) "earlier" b2] (.List [] b3) b4, .Assign [.Attribute (.Name "self" c1) "later" c2] (.List [] c3) c4])
    (hloc : (defScope st).names.lookup ("self" : Str) = some NameKind.local)
    (h1 : ∀ (cdv : Value) (A : Around) (outer : List Env) (s : Shared) (H : Hp) (EE : XK), Ct (cxOf (L2.CX P w) P w K mg base ["self", "file"] qual (defScope st) f cdv A outer s H EE) (fun cls d _ H' => EE cls d H') k →
      SE Γ (cxOf (L2.CX P w) P w K mg base ["self", "file"] qual (defScope st) f cdv A outer s H EE) (fun cls d _ H' => EE cls d H') e1 g1 ∧ SE Γ (cxOf (L2.CX P w) P w K mg base ["self", "file"] qual (defScope st) f cdv A outer s H EE) (fun cls d _ H' => EE cls d H') e2 g2)
    (hs : ∀ env, swapsWith e1 none a1.line env = pure false) (hs2 : ∀ env, swapsWith e2 (some (.Attribute (.Name "self" a2) "state" a3)) a4.line env = pure false) (hs3 : ∀ env, swapsWith (.List [] b3) (some (.Attribute (.Name "self" b1) "earlier" b2)) b4.line env = pure false) (hs4 : ∀ env, swapsWith (.List [] c3) (some (.Attribute (.Name "self" c1) "later" c2)) c4.line env = pure false) :
    FnOk P w K mg base (L2.CX P w) (k + 1) f fd ["self", "file"] (spI Γ K C (initM g1 g2)) := by
  refine F.okX S (fun vs H Q E h => ?_) (fun cdv A outer s H vs Q EE hr h => ?_)
  · obtain ⟨x, dx, v, G, d, rfl, _⟩ := h
    rfl
  · obtain ⟨x, dx, v, G, d, rfl, hx, gx, sm, tb, rd, post⟩ := h
    obtain ⟨hE1, hE2⟩ := h1 cdv A outer s H EE ⟨takes_of rfl rfl rfl rfl, passes_of rfl, rfl, S.nd, hr⟩
    obtain ⟨t1, p1, q1⟩ := hE1.out
    obtain ⟨t2, p2, q2⟩ := hE2.out
    rw [hbody]
    have self : ∀ p0, PE (cxOf (L2.CX P w) P w K mg base ["self", "file"] qual (defScope st) f cdv A outer s H EE) (.Name "self" p0) _ := fun p0 => pe_var (pos := p0) (i := 0) rfl (.inl hloc) (by decide) (by decide)
    refine ⟨_, pss_cons (ps_expr p1 (hs _)) (pss_cons (ps_fld (self a2) p2 (hs2 _)) (pss_cons (ps_fld (self b1) (pe_lst pa_nil) (hs3 _)) (pss_one (ps_fld (self c1) (pe_lst pa_nil) (hs4 _))))), ?_⟩
    have r0 : Rel Γ K (G, H) G H [some (.ref x), some v] [none, some (.val d)] := by
      have z := start_rel (N := ["self", "file"]) sm tb (RpA.cons Rp.non (.one rd))
      exact z.unset (i := 0) (x := some (.ref x))
    unfold initM at post
    refine q1 r0 ?_
    cases hg1 : g1 [none, some (.val d)] with
    | stuck => rw [hg1] at post; exact post.elim
    | exc c => rw [hg1] at post; exact fun G1 H1 e1 => post G1 H1 e1
    | ok d1 =>
    rw [hg1] at post
    intro G1 H1 v1 x1 _
    refine q2 (r0.go x1) ?_
    replace post : (match g2 [none, some (.val d)] with
      | .ok d' => ∀ G1 H1 vt p q, Ext G H G1 H1 → Rp Γ K G1 vt d' → H1 p = none → H1 q = none → p ≠ q → Q .non (upd (upd (upd H1 p (.lst [])) q (.lst [])) x (.ins C dx [("state", vt), ("earlier", .ref p), ("later", .ref q)]))
      | .exc c => ∀ G1 H1, Ext G H G1 H1 → EE (Γ.cls c) none H1
      | .stuck => False) := post
    cases hg2 : g2 [none, some (.val d)] with
    | stuck => rw [hg2] at post; exact post.elim
    | exc c => rw [hg2] at post; exact fun G2 H2 x2 => post G2 H2 (x1.trans x2)
    | ok d2 =>
    rw [hg2] at post
    intro G2 H2 vt x2 rt
    obtain ⟨hx2, gx2⟩ := (x1.trans x2).k x _ hx gx (fun _ z => nomatch z)
    refine ⟨.ref x, rfl, x, C, dx, [], rfl, hx2, hc, n1, by decide, ?_⟩
    refine ⟨Nat.zero_le _, fun p hp => ⟨.ref x, rfl, x, C, dx, [("state", vt)], rfl, ?_, hc, n2, (by decide : 1 < 1000), ?_⟩⟩
    · have : x ≠ p := fun z => by subst z; rw [upd_same] at hp; cases hp
      rw [upd_ne this, upd_same]; rfl
    refine ⟨Nat.zero_le _, fun q hq => ⟨.ref x, rfl, x, C, dx, [("state", vt), ("earlier", .ref p)], rfl, ?_, hc, n3, (by decide : 2 < 1000), ?_⟩⟩
    · have : x ≠ q := fun z => by subst z; rw [upd_same] at hq; cases hq
      rw [upd_ne this, upd_same]; rfl
    have hpx : p ≠ x := fun z => by subst z; rw [upd_same] at hp; cases hp
    have hqx : q ≠ x := fun z => by subst z; rw [upd_same] at hq; cases hq
    have hq1 := upd_none hq
    have hqp : q ≠ p := fun z => by subst z; rw [upd_same] at hq1; cases hq1
    have fin := post G2 H2 vt p q (x1.trans x2) rt (upd_none hp) (upd_none (upd_none hq1)) (Ne.symm hqp)
    rw [← upd5 (i1 := .ins C dx [("state", vt)]) (i2 := .ins C dx [("state", vt), ("earlier", .ref p)]) hpx hqx hqp] at fin
    exact fin
/-- the class and its __init__ -/
structure CalI (Γ : Gam) (P : Program) (w : World) (K : PySem.W.Frag) (mg : Str → Option Value) (base : Heap) (x : Str) (k : Nat) (m : D → R D) : Prop where
  ex : ∃ C f fd, TabN.wc = some C ∧ mg x = some (.ref C) ∧ Mk K C f ∧ FnOk P w K mg base (L2.CX P w) k f fd ["self", "file"] (spI Γ K C m) ∧ Binds K fd ["self", "file"] []
end
section
variable {Γ : Gam} {X : Cx} {W : WX} {e : Expr} {fe : En → R D} {pos p : Pos} {j k : Nat} {C f : Addr} {fd : FuncData} {ps : List Str} {sp : Sp} {t : TA} {x : Str}
theorem run_makeS {E : XK} {pins : List (Addr × Obj)} {σ : L2.St} {H : Hp} {s : Shared} {Q : VK} {us : List Value} {vs : List V} (M : Mk X.K C f) (F : FnOk X.prog X.w X.K X.mg X.base (L2.CX X.prog X.w) k f fd ps sp) (hr : Room (k + 1) X.A) (hb : Binds X.K fd ps []) (hx : PassesAt (L2.CX X.prog X.w) X σ E) (I : Inv X pins σ H s) (r : Vals vs us)
    (h : ∀ x dx, H x = none → H dx = none → dx ≠ x → sp (.ref x :: vs) (upd (upd H dx (.own x)) x (.ins C dx [])) (fun v H2 => v = .non ∧ Q (.ref x) H2) E) :
    wpAny (model X.prog X.w) X.A (call (.ref C) us) (EP X pins σ Q) X.xe s := by
  have hq := h (s.heap.objs.size + 1) s.heap.objs.size (I.hok.fresh (Nat.le_succ _)) (I.hok.fresh (Nat.le_refl _)) (Nat.ne_of_lt (Nat.lt_succ_self _))
  have I2 := Inv.made (C := C) I
  have r2 : Vals (V.ref (s.heap.objs.size + 1) :: vs) (Value.ref (s.heap.objs.size + 1) :: us) := .cons rfl r
  have hl : (Value.ref (s.heap.objs.size + 1) :: us).length = ps.length := by rw [← r2.length]; exact F.len _ _ _ _ hq
  have b := hb _ (Value.ref (s.heap.objs.size + 1) :: us) I2.kIn (by rw [List.append_nil]; exact hl)
  rw [List.append_nil] at b
  refine wpAny_call (make_map (f := f) I.kIn M.makes M.init (beq_iff_eq.mp M.fn) (codeAny_mono (F.run _ X.stack _ _ ⟨Value.ref (s.heap.objs.size + 1) :: us, []⟩ (Value.ref (s.heap.objs.size + 1) :: us) _ _ E (hr.make C us []) (I2.env0.make C us []) b r2 hq) fun r s' hq' => ?_))
  cases r with
  | error e => exact hx pins _ _ e s' I2 hq'
  | ok fl =>
    cases fl with
    | ret u =>
      obtain ⟨v, H', I3, rv, ev, q3⟩ := I2.after hq'
      subst ev
      exact ⟨rv, .ref (s.heap.objs.size + 1), H', I3, rfl, q3⟩
    | next => exact False.elim hq'
    | brk => exact False.elim hq'
    | cont => exact False.elim hq'
def tMakeS (C : Addr) (sp : Sp) (E : L2.St → XK) (t : TA) : TE := fun σ H Q => t σ H fun vs H1 => ∀ x dx, H1 x = none → H1 dx = none → dx ≠ x → sp (.ref x :: vs) (upd (upd H1 dx (.own x)) x (.ins C dx [])) (fun v H2 => v = .non ∧ Q (.ref x) H2) (E σ)
theorem pe_makeS {E : L2.St → XK} {es : List Expr} (M : Mk X.K C f) (F : FnOk X.prog X.w X.K X.mg X.base (L2.CX X.prog X.w) k f fd ps sp) (hr : Room (k + 1) X.A) (hg : Gl X x) (hm : X.mg x = some (.ref C)) (hb : Binds X.K fd ps []) (hx : ∀ σ, PassesAt (L2.CX X.prog X.w) X σ (E σ))
    (ha : PA X (e :: es) t) (hdb : (x == ("__debug__" : Str)) = false) (he : starEach (e :: es) X.env = (false, eval e X.env) :: starEach es X.env) (hpl : (backTo pos (starEach es X.env)).any (·.1) = false) :
    PE X (.Call (.Name x p) (e :: es) [] pos) (tMakeS C sp E t) := by
  refine ⟨fun pins s σ H Q I h => wpAny_Call_Name_kw (ld_glob I hg hm ?_ hdb)⟩
  refine PySem.W.callWith_K (h₀ := X.base) I.ok.mod.kin M.kp (thn (ha.run pos pins s σ H _ I h) fun us s1 hu => ?_) he hpl
  obtain ⟨vs, H1, I1, r, q⟩ := hu
  exact ⟨I1.kIn, run_makeS M F hr hb (hx σ) I1 r q⟩
/-- a private thing is changed and kept -/
theorem Ext.fin {G H G1 H1 : Hp} {x : Addr} {i0 i3 : HO} (e : Ext G H G1 H1) (hx : H x = none) (h1 : H1 x = some i0) (g1 : G1 x = none) (n0 : NoTab i0) (n3 : NoTab i3) : Ext G H (upd G1 x i3) (upd H1 x i3) := by
  refine ⟨e.g.trans (same_upd g1), e.s.upd2, fun b o q n t => ?_, fun b q => e.d b (upd_none q), fun t => ((e.t t).upd h1 n0).put g1 n3⟩
  have hb : b ≠ x := ne_of_none q hx
  rw [upd_ne hb, upd_ne hb]
  exact e.k b o q n t
/-- C(e) -/
theorem se_make {m : D → R D} {Ca : Nat → Addr} (cT : Ct X W j) (gO : GamOk Γ X.prog X.w Ca) (F : CalI Γ X.prog X.w X.K X.mg X.base x k m) (hg : Gl X x) (he : SE Γ X W e fe) (hk : k + 1 ≤ j := by decide) (hdb : (x == ("__debug__" : Str)) = false := by decide)
    (hst : starEach [e] X.env = (false, eval e X.env) :: starEach [] X.env := by rfl) (hpl : (backTo pos (starEach [] X.env)).any (·.1) = false := by rfl) :
    SE Γ X W (.Call (.Name x p) [e] [] pos) (fun ρ => (fe ρ).bind fun d => (m d).bind fun s => .ok (.op 3 [s, .lst [], .lst []])) := by
  obtain ⟨ta, pa, qa⟩ := he.out
  obtain ⟨c, f, fd, F1, F2, F3, F4, F5⟩ := F.ex
  refine .mk ⟨_, pe_makeS (E := WE W) F3 F4 (cT.hr.mono hk) hg F2 F5 (fun σ => passAt cT.tk σ) (pa_cons pa pa_nil hst) hdb hst hpl, fun {B G H σ ρ Q} r p => ?_⟩
  refine qa r (p.bind fun G1 H1 v d e1 r1 p1 => ?_)
  intro x dx hx hdx hne
  have hx' : upd H1 dx (.own x) x = none := by rw [upd_ne (Ne.symm hne)]; exact hx
  have ex0 : Ext G1 H1 G1 (upd (upd H1 dx (.own x)) x (.ins c dx [])) := (Ext.priv e1.s hdx).trans (.priv (e1.s.trans (same_upd hdx)) hx')
  refine ⟨x, dx, v, G1, d, rfl, upd_same, e1.s.none hx, ex0.s, ex0.t (r.go e1).tab, r1, ?_⟩
  cases hm : m d with
  | stuck => rw [hm] at p1; exact p1.elim
  | exc n => rw [hm] at p1; exact fun G2 H2 e2 => p1 G2 H2 (ex0.trans e2)
  | ok d' =>
    rw [hm] at p1
    intro G2 H2 vt p q e2 rt hp hq hpq
    have ex2 := ex0.trans e2
    obtain ⟨hx2, gx2⟩ := e2.k x _ upd_same (e1.s.none hx) (fun _ z => nomatch z)
    have hpx : x ≠ p := ne_of_none hx2 hp
    have hqx : x ≠ q := ne_of_none hx2 hq
    have hq' : upd H2 p (.lst []) q = none := by rw [upd_ne (Ne.symm hpq)]; exact hq
    have e3 : Ext G2 H2 (upd G2 p (.lst [])) (upd H2 p (.lst [])) := .new e2.s hp
    have e4 : Ext (upd G2 p (.lst [])) (upd H2 p (.lst [])) (upd (upd G2 p (.lst [])) q (.lst [])) (upd (upd H2 p (.lst [])) q (.lst [])) := .new e3.s hq'
    have hx4 : upd (upd H2 p (.lst [])) q (.lst []) x = some (.ins c dx []) := by rw [upd_ne hqx, upd_ne hpx]; exact hx2
    have gx4 : upd (upd G2 p (.lst [])) q (.lst []) x = none := by rw [upd_ne hqx, upd_ne hpx]; exact gx2
    have e5 := ((ex2.trans e3).trans e4).fin (i3 := .ins c dx [("state", vt), ("earlier", .ref p), ("later", .ref q)]) hx hx4 gx4 (fun _ z => nomatch z) (fun _ z => nomatch z)
    have s5 : Same G2 (upd (upd (upd G2 p (.lst [])) q (.lst [])) x (.ins c dx [("state", vt), ("earlier", .ref p), ("later", .ref q)])) := (e3.g.trans e4.g).trans (same_upd gx4)
    refine ⟨rfl, p1 _ _ _ e5 (.op ((gO.obj _ _ _ _).mpr ⟨c, x, dx, vt, .ref p, .ref q, F1, rfl, rfl, upd_same⟩) (.cons (rt.mono s5) (.cons (.lst (xs := []) ?_ .nil) (.one (.lst (xs := []) ?_ .nil)))))⟩
    · rw [upd_ne (Ne.symm hpx), upd_ne hpq, upd_same]
    · rw [upd_ne (Ne.symm hqx), upd_same]
end
end VL
end
section
set_option Elab.async false
set_option linter.all false
set_option maxRecDepth 100000
set_option maxHeartbeats 4000000
set_option autoImplicit false
/-! Private instances: they are put in a slot, they are changed. -/
namespace VL
open PySem PySem.Spec PyProof.Rows L2
variable [TabN]
/-- the frozen part grows; what F tells may change -/
structure ExtF (F : Addr → Prop) (G H G' H' : Hp) : Prop where
  g : Same G G'
  s : Same G' H'
  k : ∀ b o, ¬ F b → H b = some o → G b = none → (∀ ps, o ≠ .tbl ps) → H' b = some o ∧ G' b = none
  d : ∀ b, ¬ F b → H' b = none → H b = none
  t : TabsOk G H → TabsOk G' H'
/-- what is private in slot i -/
def Foot (H : Hp) (σ : L2.St) (ρ : En) (i : Nat) (b : Addr) : Prop := (∃ s : SV, ρ[i]? = some (some s) ∧ s.pv = true ∧ σ[i]? = some (some (.ref b))) ∨ Inn H σ ρ i b
section
variable {Γ : Gam} {K : PySem.W.Frag} {B : Hp × Hp} {G H G' H' G1 H1 : Hp} {σ : L2.St} {ρ : En} {F : Addr → Prop}
theorem Ext.f (e : Ext G H G' H') : ExtF F G H G' H' := ⟨e.g, e.s, fun b o _ => e.k b o, fun b _ => e.d b, e.t⟩
theorem ExtF.trans (e : ExtF F G H G1 H1) (e2 : Ext G1 H1 G' H') : ExtF F G H G' H' :=
  ⟨e.g.trans e2.g, e2.s, fun b o n h1 h2 h3 => let ⟨x, y⟩ := e.k b o n h1 h2 h3; e2.k b o x y h3, fun b n h => e.d b n (e2.d b h), fun t => e2.t (e.t t)⟩
theorem ExtF.pre (e : Ext G H G1 H1) (e2 : ExtF F G1 H1 G' H') : ExtF F G H G' H' :=
  ⟨e.g.trans e2.g, e2.s, fun b o n h1 h2 h3 => let ⟨x, y⟩ := e.k b o h1 h2 h3; e2.k b o n x y h3, fun b n h => e.d b (e2.d b n h), fun t => e2.t (e.t t)⟩
theorem Rel.outer {j : Nat} {s : SV} {b : Addr} (r : Rel Γ K B G H σ ρ) (h1 : ρ[j]? = some (some s)) (hp : s.pv = true) (h2 : σ[j]? = some (some (.ref b))) : ∃ u, H b = some u ∧ B.2 b = none ∧ G b = none ∧ NoTab u := by
  cases s with
  | val d => cases hp
  | own ds =>
    obtain ⟨q, vs, x1, x2, x3, x4, x5⟩ := r.own h1
    rw [x1] at h2; cases h2
    exact ⟨_, x4, x2, x3, noTab_lst⟩
  | dic ks vs =>
    obtain ⟨q, o, nks, kv, vv, x1, x2, x3, x4, x5⟩ := r.dic h1
    rw [x1] at h2; cases h2
    exact ⟨_, x4, x2, x3, noTab_dO⟩
  | obj tg st es ls =>
    obtain ⟨p0, pe0, pl0, v0, us, ws, x1, x2, x3, x4, x5, ⟨⟨C0, dx0, c1, c2⟩, o2, o3, o4⟩, x7⟩ := r.obj h1
    rw [x1] at h2; cases h2
    exact ⟨_, c2, x3.1, x3.2, fun _ z => nomatch z⟩
theorem Rel.foot {i : Nat} {b : Addr} (r : Rel Γ K B G H σ ρ) (h : Foot H σ ρ i b) : ∃ u, H b = some u ∧ B.2 b = none ∧ G b = none ∧ NoTab u := by
  rcases h with ⟨s, h1, h2, h3⟩ | h
  · exact r.outer h1 h2 h3
  · obtain ⟨us, h1, h2, h3⟩ := r.inner h
    exact ⟨_, h1, h2, h3, noTab_lst⟩
theorem Rel.foot_ne {i j : Nat} {b : Addr} (r : Rel Γ K B G H σ ρ) (n : i ≠ j) (h : Foot H σ ρ i b) (h' : Foot H σ ρ j b) : False := by
  rcases h with ⟨s, h1, h2, h3⟩ | h
  · rcases h' with ⟨s', h1', h2', h3'⟩ | h'
    · exact n (r.inj h1 h1' h2 h2' h3 h3')
    · exact (r.inn h').1 h1 h2 h3
  · rcases h' with ⟨s', h1', h2', h3'⟩ | h'
    · exact (r.inn h).1 h1' h2' h3'
    · exact n ((r.inn h).2 h')
/-- a slot holds an instance now: a new one, or its own, changed -/
theorem Rel.putObj {i : Nat} {p pe pl : Addr} {tg : Bool} {st : D} {es ls : List D} {v : V} {us ws : List V} (r : Rel Γ K B G H σ ρ) (e : ExtF F G H G' H') (hF : ∀ b, F b → Foot H σ ρ i b)
    (hp : (F p ∨ H p = none) ∧ G' p = none) (he : (F pe ∨ H pe = none) ∧ G' pe = none) (hl : (F pl ∨ H pl = none) ∧ G' pl = none) (ht : tg = true → Γ.self = some p) (o : ObjX H' p pe pl v us ws) (h1 : Rp Γ K G' v st) (h2 : RpA Γ K G' us es) (h3 : RpA Γ K G' ws ls) :
    Rel Γ K B G' H' (σ.set i (some (.ref p))) (ρ.set i (some (.obj tg st es ls))) := by
  have nB : ∀ {b}, (F b ∨ H b = none) → B.2 b = none := fun {b} h => by
    rcases h with h | h
    · obtain ⟨u, _, z, _⟩ := r.foot (hF b h); exact z
    · exact r.ext.d b h
  have far : ∀ {j b}, i ≠ j → Foot H σ ρ j b → ¬ F b ∧ b ≠ p ∧ b ≠ pe ∧ b ≠ pl := fun {j b} n h => by
    have z : ∀ q, (F q ∨ H q = none) → b ≠ q := fun q hq z => by
      subst z
      rcases hq with hq | hq
      · exact r.foot_ne n (hF b hq) h
      · obtain ⟨u, z, _⟩ := r.foot h; rw [hq] at z; cases z
    exact ⟨fun hb => r.foot_ne n (hF b hb) h, z p hp.1, z pe he.1, z pl hl.1⟩
  have kp : ∀ {j b u}, i ≠ j → Foot H σ ρ j b → H b = some u → H' b = some u ∧ G' b = none := fun {j b u} n h hb => by
    obtain ⟨u', z1, z2, z3, z4⟩ := r.foot h
    rw [hb] at z1; cases z1
    exact e.k b u (far n h).1 hb z3 z4
  obtain ⟨⟨C, dx, c1, c2⟩, o2, o3, o4⟩ := o
  have npe : p ≠ pe := fun z => by subst z; rw [c2] at o2; cases o2
  have npl : p ≠ pl := fun z => by subst z; rw [c2] at o3; cases o3
  have inn' : ∀ {j q}, Inn H' (σ.set i (some (.ref p))) (ρ.set i (some (.obj tg st es ls))) j q → (i = j ∧ (q = pe ∨ q = pl)) ∨ (i ≠ j ∧ Inn H σ ρ j q) := fun {j q} h => by
    obtain ⟨tg', st', es', ls', p', C', dx', v', pe', pl', a1, a2, a3, a4⟩ := h
    rcases set_at a1 with ⟨z1, z2, z3⟩ | ⟨n, z⟩
    · subst z1
      rw [List.getElem?_set_self (by rw [← r.len]; exact z3)] at a2
      cases a2
      rw [c2] at a3
      cases a3
      exact .inl ⟨rfl, a4⟩
    · rw [List.getElem?_set_ne n] at a2
      obtain ⟨p0, pe0, pl0, v0, us0, ws0, x1, x2, x3, x4, x5, ⟨⟨C0, dx0, y1, y2⟩, y3, y4, y5⟩, x7⟩ := r.obj z
      rw [x1] at a2; cases a2
      have w := (kp n (.inl ⟨_, z, rfl, x1⟩) y2).1
      rw [w] at a3; cases a3
      exact .inr ⟨n, tg', st', es', ls', p', C', dx', v', pe', pl', z, x1, y2, a4⟩
  have out' : ∀ {j s b}, (ρ.set i (some (.obj tg st es ls)))[j]? = some (some s) → s.pv = true → (σ.set i (some (.ref p)))[j]? = some (some (.ref b)) → (i = j ∧ b = p) ∨ (i ≠ j ∧ Foot H σ ρ j b ∧ ρ[j]? = some (some s) ∧ σ[j]? = some (some (.ref b))) := fun {j s b} a1 a2 a3 => by
    rcases set_at a1 with ⟨z1, z2, z3⟩ | ⟨n, z⟩
    · subst z1
      rw [List.getElem?_set_self (by rw [← r.len]; exact z3)] at a3
      cases a3
      exact .inl ⟨rfl, rfl⟩
    · rw [List.getElem?_set_ne n] at a3
      exact .inr ⟨n, .inl ⟨s, z, a2, a3⟩, z, a3⟩
  refine ⟨⟨r.ext.g.trans e.g, e.s, fun b x q n t => ?_, fun b q => ?_, fun t => e.t (r.ext.t t)⟩, fun {j d} hj => ?_, fun {j ds} hj => ?_, fun {j ks vs} hj => ?_, fun {j tg' st' es' ls'} hj => ?_, fun {j q} h => ⟨fun {k s} hk hs z => ?_, fun {k} hk => ?_⟩, fun {j k s t b} a1 a2 a3 a4 a5 a6 => ?_, by simpa using r.len, r.tb⟩
  · obtain ⟨y1, y2⟩ := r.ext.k b x q n t
    refine e.k b x (fun z => ?_) y1 y2 t
    obtain ⟨u, _, z2, _⟩ := r.foot (hF b z)
    rw [z2] at q; cases q
  · exact Classical.byCases (fun hb : F b => (r.foot (hF b hb)).elim fun u z => z.2.1) fun hb => r.ext.d b (e.d b hb q)
  · rcases set_at hj with ⟨_, z, _⟩ | ⟨n, q⟩
    · cases z
    · obtain ⟨v, x1, x2⟩ := r.val q
      exact ⟨v, by rw [List.getElem?_set_ne n]; exact x1, x2.mono e.g⟩
  · rcases set_at hj with ⟨_, z, _⟩ | ⟨n, q⟩
    · cases z
    · obtain ⟨q', vs, x1, x2, x3, x4, x5⟩ := r.own q
      obtain ⟨y1, y2⟩ := kp n (.inl ⟨_, q, rfl, x1⟩) x4
      exact ⟨q', vs, by rw [List.getElem?_set_ne n]; exact x1, x2, y2, y1, x5.mono e.g⟩
  · rcases set_at hj with ⟨_, z, _⟩ | ⟨n, q⟩
    · cases z
    · obtain ⟨q', o, nks, kv, vv, x1, x2, x3, x4, x5, x6, x7, x8⟩ := r.dic q
      obtain ⟨y1, y2⟩ := kp n (.inl ⟨_, q, rfl, x1⟩) x4
      exact ⟨q', o, nks, kv, vv, by rw [List.getElem?_set_ne n]; exact x1, x2, y2, y1, x5, x6, x7.mono e.g, x8.mono e.g⟩
  · rcases set_at hj with ⟨z1, z, hl'⟩ | ⟨n, q⟩
    · subst z1
      cases z
      exact ⟨p, pe, pl, v, us, ws, List.getElem?_set_self (by rw [← r.len]; exact hl'), ht, ⟨nB hp.1, hp.2⟩, ⟨nB he.1, he.2⟩, ⟨nB hl.1, hl.2⟩, ⟨⟨C, dx, c1, c2⟩, o2, o3, o4⟩, h1, h2, h3⟩
    · obtain ⟨p0, pe0, pl0, v0, us0, ws0, x1, x2, x3, x4, x5, ⟨⟨C0, dx0, y1, y2⟩, y3, y4, y5⟩, x7, x8, x9⟩ := r.obj q
      obtain ⟨w1, w2⟩ := kp n (.inl ⟨_, q, rfl, x1⟩) y2
      obtain ⟨w3, w4⟩ := kp n (.inr ⟨tg', st', es', ls', p0, C0, dx0, v0, pe0, pl0, q, x1, y2, .inl rfl⟩) y3
      obtain ⟨w5, w6⟩ := kp n (.inr ⟨tg', st', es', ls', p0, C0, dx0, v0, pe0, pl0, q, x1, y2, .inr rfl⟩) y4
      exact ⟨p0, pe0, pl0, v0, us0, ws0, by rw [List.getElem?_set_ne n]; exact x1, x2, ⟨x3.1, w2⟩, ⟨x4.1, w4⟩, ⟨x5.1, w6⟩, ⟨⟨C0, dx0, y1, w1⟩, w3, w5, y5⟩, x7.mono e.g, x8.mono e.g, x9.mono e.g⟩
  · rcases inn' h with ⟨rfl, hq⟩ | ⟨n, hq⟩
    · rcases out' hk hs z with ⟨rfl, rfl⟩ | ⟨n, hf, _⟩
      · rcases hq with hq | hq
        · exact npe hq
        · exact npl hq
      · obtain ⟨_, f1, f2, f3⟩ := far n hf
        rcases hq with hq | hq
        · exact f2 hq
        · exact f3 hq
    · rcases out' hk hs z with ⟨rfl, rfl⟩ | ⟨n', hf, z1, z2⟩
      · exact (far n (.inr hq)).2.1 rfl
      · exact (r.inn hq).1 z1 hs z2
  · rcases inn' h with ⟨rfl, hq⟩ | ⟨n, hq⟩
    · rcases inn' hk with ⟨rfl, hq'⟩ | ⟨n, hq'⟩
      · rfl
      · obtain ⟨_, f1, f2, f3⟩ := far n (.inr hq')
        rcases hq with hq | hq
        · exact absurd hq f2
        · exact absurd hq f3
    · rcases inn' hk with ⟨rfl, hq'⟩ | ⟨n', hq'⟩
      · obtain ⟨_, f1, f2, f3⟩ := far n (.inr hq)
        rcases hq' with hq' | hq'
        · exact absurd hq' f2
        · exact absurd hq' f3
      · exact (r.inn hq).2 hq'
  · rcases out' a1 a3 a5 with ⟨rfl, rfl⟩ | ⟨n, hf, z1, z2⟩
    · rcases out' a2 a4 a6 with ⟨rfl, _⟩ | ⟨n', hf', _⟩
      · rfl
      · exact absurd rfl (far n' hf').2.1
    · rcases out' a2 a4 a6 with ⟨rfl, rfl⟩ | ⟨n', hf', z1', z2'⟩
      · exact absurd rfl (far n hf).2.1
      · exact r.inj z1 z1' a3 a4 z2 z2'
end
end VL
end
section
set_option Elab.async false
set_option linter.all false
set_option maxRecDepth 100000
set_option maxHeartbeats 4000000
set_option autoImplicit false
/-! Private instances: statements that make and change them. -/
namespace VL
open PySem PySem.Spec PyProof.Rows L2
variable [TabN]
section
variable {Γ : Gam} {K : PySem.W.Frag} {B : Hp × Hp} {G H G' H' G1 H1 : Hp} {σ : L2.St} {ρ : En} {F : Addr → Prop}
theorem ExtF.upd {q : Addr} {u x0 : HO} (s : Same G H) (g : G q = none) (hx : H q = some x0) (n : NoTab x0) : ExtF (· = q) G H G (upd H q u) :=
  ⟨.refl _, fun b x e => by rw [upd_ne (ne_of_none e g)]; exact s _ _ e, fun b o n h1 h2 h3 => by rw [upd_ne n]; exact ⟨h1, h2⟩, fun b _ h => upd_none h, fun t => t.upd hx n⟩
theorem set_same {α : Type} {xs : List α} {i : Nat} {x : α} (h : xs[i]? = some x) : xs.set i x = xs := by
  refine List.ext_getElem? fun j => ?_
  by_cases hj : i = j
  · subst hj
    rw [List.getElem?_set_self (List.getElem?_eq_some_iff.mp h).1, h]
  · rw [List.getElem?_set_ne hj]
/-- the instance in a slot, changed -/
theorem Rel.mutObj {i : Nat} {p pe pl : Addr} {tg tg0 : Bool} {st st0 : D} {es ls es0 ls0 : List D} {v : V} {us ws : List V} (r : Rel Γ K B G H σ ρ) (hi : ρ[i]? = some (some (.obj tg0 st0 es0 ls0))) (hσ : σ[i]? = some (some (.ref p))) (e : ExtF F G H G' H') (hF : ∀ b, F b → Foot H σ ρ i b)
    (hp : (F p ∨ H p = none) ∧ G' p = none) (he : (F pe ∨ H pe = none) ∧ G' pe = none) (hl : (F pl ∨ H pl = none) ∧ G' pl = none) (ht : tg = true → Γ.self = some p) (o : ObjX H' p pe pl v us ws) (h1 : Rp Γ K G' v st) (h2 : RpA Γ K G' us es) (h3 : RpA Γ K G' ws ls) :
    Rel Γ K B G' H' σ (ρ.set i (some (.obj tg st es ls))) := by
  have z := r.putObj e hF hp he hl ht o h1 h2 h3
  rw [set_same hσ] at z
  exact z
end
/-- the three addresses of an instance -/
def F3 (p pe pl : Addr) : Addr → Prop := fun b => b = p ∨ b = pe ∨ b = pl
section
variable {Γ : Gam} {X : Cx} {W : WX} {a b c e o : Expr} {es : List Expr} {fa fb fc : En → R D} {pos p : Pos} {j : Nat} {st : Stmt} {sts : List Stmt} {f g : En → RS} {E : Ends} {B : Hp × Hp}
def objS (i : Nat) (ρ : En) (k : Bool → D → List D → List D → RS) : RS := match ρ[i]? with
  | some (some (.obj tg st es ls)) => k tg st es ls
  | _ => .stuck
/-- what a slot with an instance tells -/
structure ObjAt (Γ : Gam) (K : PySem.W.Frag) (B : Hp × Hp) (G H : Hp) (σ : L2.St) (ρ : En) (i : Nat) (tg : Bool) (st : D) (es ls : List D) (p pe pl : Addr) (v : V) (us ws : List V) : Prop where
  hi : ρ[i]? = some (some (.obj tg st es ls))
  hσ : σ[i]? = some (some (.ref p))
  me : tg = true → Γ.self = some p
  gp : G p = none
  ge : G pe = none
  gl : G pl = none
  ob : ObjX H p pe pl v us ws
  rv : Rp Γ K G v st
  re : RpA Γ K G us es
  rl : RpA Γ K G ws ls
theorem Rel.objAt {K : PySem.W.Frag} {G H : Hp} {σ : L2.St} {ρ : En} {i : Nat} {tg : Bool} {st : D} {es ls : List D} (r : Rel Γ K B G H σ ρ) (hi : ρ[i]? = some (some (.obj tg st es ls))) : ∃ p pe pl v us ws, ObjAt Γ K B G H σ ρ i tg st es ls p pe pl v us ws := by
  obtain ⟨p0, pe0, pl0, v0, us, ws, x1, x2, x3, x4, x5, x6, x7, x8, x9⟩ := r.obj hi
  exact ⟨p0, pe0, pl0, v0, us, ws, hi, x1, x2, x3.2, x4.2, x5.2, x6, x7, x8, x9⟩
theorem ObjAt.go {K : PySem.W.Frag} {G H G1 H1 : Hp} {σ : L2.St} {ρ : En} {i : Nat} {tg : Bool} {st : D} {es ls : List D} {p pe pl : Addr} {v : V} {us ws : List V} (x : ObjAt Γ K B G H σ ρ i tg st es ls p pe pl v us ws) (e : Ext G H G1 H1) : ObjAt Γ K B G1 H1 σ ρ i tg st es ls p pe pl v us ws := by
  obtain ⟨y1, y2, y3, y4⟩ := x.ob.ext e x.gp x.ge x.gl
  exact ⟨x.hi, x.hσ, x.me, y2, y3, y4, y1, x.rv.mono e.g, x.re.mono e.g, x.rl.mono e.g⟩
theorem ObjAt.foot {K : PySem.W.Frag} {G H : Hp} {σ : L2.St} {ρ : En} {i : Nat} {tg : Bool} {st : D} {es ls : List D} {p pe pl : Addr} {v : V} {us ws : List V} (x : ObjAt Γ K B G H σ ρ i tg st es ls p pe pl v us ws) : ∀ b, F3 p pe pl b → Foot H σ ρ i b := fun b h => by
  obtain ⟨⟨C, dx, c1, c2⟩, o2, o3, o4⟩ := x.ob
  rcases h with rfl | rfl | rfl
  · exact .inl ⟨_, x.hi, rfl, x.hσ⟩
  · exact .inr ⟨tg, st, es, ls, p, C, dx, v, b, pl, x.hi, x.hσ, c2, .inl rfl⟩
  · exact .inr ⟨tg, st, es, ls, p, C, dx, v, pe, b, x.hi, x.hσ, c2, .inr rfl⟩
theorem objS_use {K : PySem.W.Frag} {G H : Hp} {σ : L2.St} {ρ : En} {i : Nat} {k : Bool → D → List D → List D → RS} (r : Rel Γ K B G H σ ρ) (q : PostS Γ K W B G E (objS i ρ k)) :
    ∃ tg st es ls p pe pl v us ws, ObjAt Γ K B G H σ ρ i tg st es ls p pe pl v us ws ∧ PostS Γ K W B G E (k tg st es ls) := by
  unfold objS at q
  split at q
  · rename_i tg st es ls hi
    obtain ⟨p0, pe0, pl0, v0, us, ws, x⟩ := r.objAt hi
    exact ⟨tg, st, es, ls, p0, pe0, pl0, v0, us, ws, x, q⟩
  · exact q.elim
theorem ExtF.mono {F F' : Addr → Prop} {G H G' H' : Hp} (e : ExtF F G H G' H') (h : ∀ b, F b → F' b) : ExtF F' G H G' H' := ⟨e.g, e.s, fun b o n => e.k b o fun z => n (h b z), fun b n => e.d b fun z => n (h b z), e.t⟩
theorem Rel.chg {K : PySem.W.Frag} {G H G' H' : Hp} {σ : L2.St} {ρ : En} {i : Nat} {tg : Bool} {st st' : D} {es ls es' ls' : List D} {p pe pl pe' pl' : Addr} {v v' : V} {us ws us' ws' : List V} (r : Rel Γ K B G H σ ρ) (x : ObjAt Γ K B G H σ ρ i tg st es ls p pe pl v us ws) (e : ExtF (F3 p pe pl) G H G' H') (gp : G' p = none)
    (he : (F3 p pe pl pe' ∨ H pe' = none) ∧ G' pe' = none) (hl : (F3 p pe pl pl' ∨ H pl' = none) ∧ G' pl' = none) (o : ObjX H' p pe' pl' v' us' ws') (h1 : Rp Γ K G' v' st') (h2 : RpA Γ K G' us' es') (h3 : RpA Γ K G' ws' ls') : Rel Γ K B G' H' σ (ρ.set i (some (.obj tg st' es' ls'))) :=
  r.mutObj x.hi x.hσ e x.foot ⟨.inl (.inl rfl), gp⟩ he hl x.me o h1 h2 h3
theorem ObjX.ne {H : Hp} {p pe pl : Addr} {v : V} {us ws : List V} (o : ObjX H p pe pl v us ws) : p ≠ pe ∧ p ≠ pl := by
  obtain ⟨⟨C, dx, c1, c2⟩, o2, o3, o4⟩ := o
  refine ⟨fun z => ?_, fun z => ?_⟩
  · subst z; rw [c2] at o2; cases o2
  · subst z; rw [c2] at o3; cases o3
/-- x.state -/
def ostate (i : Nat) : En → R D := fun ρ => match ρ[i]? with
  | some (some (.obj _ st _ _)) => .ok st
  | _ => .stuck
theorem se_ostate (i : Nat) {x : Str} {p1 : Pos} (A : Atr X.K "state") (hN : X.N[i]? = some x := by rfl) (hv : Vis X.env.scope x := by first | exact Or.inl rfl | exact Or.inr (Or.inl rfl) | exact Or.inr (Or.inr rfl))
    (hd : (x == ("__debug__" : Str)) = false := by decide) (hcd : (x == ("__classdict__" : Str)) = false := by decide) (hb : attributeBase (.Name x p1) "state" X.env (eval (.Name x p1) X.env) = eval (.Name x p1) X.env := by rfl) :
    SE Γ X W (.Attribute (.Name x p1) "state" pos) (ostate i) := by
  obtain ⟨C, h1, h2, h3⟩ := A.ex
  refine .mk ⟨_, pe_fld (pe_var hN hv hd hcd) hb, fun {B G H σ ρ Q} r p => ?_⟩
  unfold ostate at p
  split at p
  · rename_i tg st es ls hi
    obtain ⟨p0, pe0, pl0, v0, us, ws, x⟩ := r.objAt hi
    obtain ⟨⟨C', dx, c1, c2⟩, o2, o3, o4⟩ := x.ob
    rw [h1] at c1; cases c1
    exact ⟨.ref p0, x.hσ, p0, C, dx, _, v0, rfl, c2, h2, h3, rfl, p.here r.same x.rv⟩
  · exact p.elim
/-- which of the two lists -/
def lsG (w : Bool) (es ls : List D) : List D := if w then ls else es
def lsP (w : Bool) (tg : Bool) (st : D) (es ls ds : List D) : SV := if w then .obj tg st es ds else .obj tg st ds ls
def lsN (w : Bool) : Str := if w then "later" else "earlier"
/-- x.earlier.append(e), x.later.append(e) -/
def oappS (i : Nat) (w : Bool) (f : En → R D) (ρ : En) : RS := objS i ρ fun tg st es ls => thenS (f ρ) ρ fun d => if (lsG w es ls).length < 100000 then .next (ρ.set i (some (lsP w tg st es ls (lsG w es ls ++ [d])))) else .stuck
theorem ss_oapp (i : Nat) (w : Bool) {x m : Str} {p1 p2 p3 p4 : Pos} (A : Atr X.K (lsN w)) (he : SE Γ X W e fa) (hm : m = lsN w := by rfl) (hN : X.N[i]? = some x := by rfl) (hv : Vis X.env.scope x := by first | exact Or.inl rfl | exact Or.inr (Or.inl rfl) | exact Or.inr (Or.inr rfl))
    (hd : (x == ("__debug__" : Str)) = false := by decide) (hcd : (x == ("__classdict__" : Str)) = false := by decide) (hb : attributeBase (.Name x p1) m X.env (eval (.Name x p1) X.env) = eval (.Name x p1) X.env := by rfl)
    (hb2 : attributeBase (.Attribute (.Name x p1) m p4) "append" X.env (eval (.Attribute (.Name x p1) m p4) X.env) = eval (.Attribute (.Name x p1) m p4) X.env := by rfl)
    (hs : swapsWith (.Call (.Attribute (.Attribute (.Name x p1) m p4) "append" p2) [e] [] p3) none pos.line X.env = pure false := by rfl)
    (hst : starEach [e] X.env = (false, eval e X.env) :: starEach [] X.env := by rfl)
    (hfew : ((backTo p3 (starEach [e] X.env)).all (fun x => !x.1) && (backToKw p3 (keywordEach [] X.env)).all (fun x => x.1.isSome) && decide ([e].length + ([] : List Keyword).length + (if ([] : List Keyword).isEmpty then 0 else 1) < 30)) = true := by rfl)
    (hline : (p2.endLine == p3.line) = true := by rfl) :
    SS Γ X W (.Expr (.Call (.Attribute (.Attribute (.Name x p1) m p4) "append" p2) [e] [] p3) pos) (oappS i w fa) := by
  subst hm
  obtain ⟨ta, pa, qa⟩ := he.out
  obtain ⟨C, h1, h2, h3⟩ := A.ex
  refine PS.imp (ps_expr (pe_bm PySem.F.plainAttrs_list PySem.F.slot_list_append PySem.F.type_list_append mt_append (pe_fld (pe_var hN hv hd hcd) hb) (pa_cons pa pa_nil hst) hb2 hfew hline hst rfl) hs) fun E σ H hh => ?_
  obtain ⟨B, G, ρ, r, p⟩ := hh
  obtain ⟨tg, st, es, ls, q, qe, ql, v, us, ws, x, p0⟩ := objS_use r p
  obtain ⟨⟨C', dx, c1, c2⟩, o2, o3, o4⟩ := x.ob
  rw [h1] at c1; cases c1
  cases w with
  | false =>
    refine ⟨.ref q, x.hσ, q, C, dx, _, .ref qe, rfl, c2, h2, h3, rfl, .inl ⟨rfl, us, .of o2⟩, ?_⟩
    refine qa r (PostS.use r p0 fun G1 H1 u d e1 r1 rv p1 => ?_)
    have y := x.go e1
    obtain ⟨n1, n2⟩ := y.ob.ne
    obtain ⟨⟨C', dx', d1, d2⟩, z2, z3, z4⟩ := y.ob
    split at p1
    · rename_i hl
      have hl : es.length < 100000 := hl
      refine ⟨qe, us, u, rfl, rfl, z2, ?_, p1 _ _ _ (.refl _) (r1.chg y ((ExtF.upd r1.same y.ge z2 noTab_lst).mono fun b hb => .inr (.inl hb)) y.gp ⟨.inl (.inr (.inl rfl)), y.ge⟩ ⟨.inl (.inr (.inr rfl)), y.gl⟩ ⟨⟨C', dx', d1, ?_⟩, upd_same, ?_, z4⟩ y.rv (y.re.append (.one rv)) y.rl)⟩
      · rw [x.re.length, sizeLine_eq]; omega
      · rw [upd_ne n1]; exact d2
      · rw [upd_ne (Ne.symm z4)]; exact z3
    · exact p1.elim
  | true =>
    refine ⟨.ref q, x.hσ, q, C, dx, _, .ref ql, rfl, c2, h2, h3, rfl, .inl ⟨rfl, ws, .of o3⟩, ?_⟩
    refine qa r (PostS.use r p0 fun G1 H1 u d e1 r1 rv p1 => ?_)
    have y := x.go e1
    obtain ⟨n1, n2⟩ := y.ob.ne
    obtain ⟨⟨C', dx', d1, d2⟩, z2, z3, z4⟩ := y.ob
    split at p1
    · rename_i hl
      have hl : ls.length < 100000 := hl
      refine ⟨ql, ws, u, rfl, rfl, z3, ?_, p1 _ _ _ (.refl _) (r1.chg y ((ExtF.upd r1.same y.gl z3 noTab_lst).mono fun b hb => .inr (.inr hb)) y.gp ⟨.inl (.inr (.inl rfl)), y.ge⟩ ⟨.inl (.inr (.inr rfl)), y.gl⟩ ⟨⟨C', dx', d1, ?_⟩, ?_, upd_same, z4⟩ y.rv y.re (y.rl.append (.one rv)))⟩
      · rw [x.rl.length, sizeLine_eq]; omega
      · rw [upd_ne n2]; exact d2
      · rw [upd_ne z4]; exact z2
    · exact p1.elim
/-- x.state = e -/
def osetS (i : Nat) (f : En → R D) (ρ : En) : RS := thenS (f ρ) ρ fun d => objS i ρ fun tg _ es ls => .next (ρ.set i (some (.obj tg d es ls)))
theorem ss_oset (i : Nat) {x : Str} {p1 p2 : Pos} (A : Atr X.K "state") (he : SE Γ X W e fa) (hN : X.N[i]? = some x := by rfl) (hv : Vis X.env.scope x := by first | exact Or.inl rfl | exact Or.inr (Or.inl rfl) | exact Or.inr (Or.inr rfl))
    (hd : (x == ("__debug__" : Str)) = false := by decide) (hcd : (x == ("__classdict__" : Str)) = false := by decide) (hs : swapsWith e (some (.Attribute (.Name x p1) "state" p2)) pos.line X.env = pure false := by rfl) :
    SS Γ X W (.Assign [.Attribute (.Name x p1) "state" p2] e pos) (osetS i fa) := by
  obtain ⟨ta, pa, qa⟩ := he.out
  obtain ⟨C, h1, h2, h3⟩ := A.ex
  refine PS.imp (ps_fld (pe_var hN hv hd hcd) pa hs) fun E σ H hh => ?_
  obtain ⟨B, G, ρ, r, p⟩ := hh
  refine qa r (PostS.use r p fun G1 H1 u d e1 r1 rv p1 => ?_)
  obtain ⟨tg, st, es, ls, q, qe, ql, v, us, ws, x, p0⟩ := objS_use r1 p1
  obtain ⟨n1, n2⟩ := x.ob.ne
  obtain ⟨⟨C', dx, c1, c2⟩, o2, o3, o4⟩ := x.ob
  rw [h1] at c1; cases c1
  refine ⟨.ref q, x.hσ, q, C, dx, _, rfl, c2, h2, h3, (by decide : 3 < 1000), p0 _ _ _ (.refl _) (r1.chg x ((ExtF.upd r1.same x.gp c2 (fun _ z => nomatch z)).mono fun b hb => .inl hb) x.gp ⟨.inl (.inr (.inl rfl)), x.ge⟩ ⟨.inl (.inr (.inr rfl)), x.gl⟩ ⟨⟨C, dx, h1, upd_same⟩, ?_, ?_, o4⟩ rv x.re x.rl)⟩
  · rw [upd_ne (Ne.symm n1)]; exact o2
  · rw [upd_ne (Ne.symm n2)]; exact o3
/-- x.earlier = a new list, x.later = a new list -/
def olstS (i : Nat) (w : Bool) (f : En → R (List D)) (ρ : En) : RS := thenS (f ρ) ρ fun ds => objS i ρ fun tg st es ls => .next (ρ.set i (some (lsP w tg st es ls ds)))
theorem ss_olst (i : Nat) (w : Bool) {x m : Str} {p1 p2 : Pos} {fl : En → R (List D)} (A : Atr X.K (lsN w)) (he : SF Γ X W e fl) (hm : m = lsN w := by rfl) (hN : X.N[i]? = some x := by rfl) (hv : Vis X.env.scope x := by first | exact Or.inl rfl | exact Or.inr (Or.inl rfl) | exact Or.inr (Or.inr rfl))
    (hd : (x == ("__debug__" : Str)) = false := by decide) (hcd : (x == ("__classdict__" : Str)) = false := by decide) (hs : swapsWith e (some (.Attribute (.Name x p1) m p2)) pos.line X.env = pure false := by rfl) :
    SS Γ X W (.Assign [.Attribute (.Name x p1) m p2] e pos) (olstS i w fl) := by
  subst hm
  obtain ⟨C, h1, h2, h3⟩ := A.ex
  refine PS.imp (ps_fld (pe_var hN hv hd hcd) he hs) fun E σ H hh => ?_
  obtain ⟨B, G, ρ, r, p⟩ := hh
  refine ⟨B, G, ρ, r, ?_⟩
  unfold olstS at p
  cases hfl : fl ρ with
  | exc c => rw [hfl] at p; exact fun G1 H1 e1 => p G1 H1 σ e1.g (r.go e1)
  | stuck => rw [hfl] at p; exact p
  | ok ds =>
    rw [hfl] at p
    replace p : PostS Γ X.K W B G E (objS i ρ fun tg st es ls => .next (ρ.set i (some (lsP w tg st es ls ds)))) := p
    intro L G1 H1 acc n e1 g1 hL ra
    obtain ⟨tg, st, es, ls, q, qe, ql, v, us, ws, x, p0⟩ := objS_use r p
    have y := x.go e1
    obtain ⟨n1, n2⟩ := y.ob.ne
    obtain ⟨⟨C', dx, c1, c2⟩, o2, o3, o4⟩ := y.ob
    rw [h1] at c1; cases c1
    have nq : q ≠ L := fun z => by subst z; rw [c2] at hL; cases hL
    have nF : ¬ F3 q qe ql L := fun z => by
      obtain ⟨u, z1, _⟩ := r.foot (x.foot L z)
      rw [n] at z1; cases z1
    have eF : ExtF (F3 q qe ql) G H G1 (upd H1 q (.ins C dx (putF (lsN w) (.ref L) [("state", v), ("earlier", .ref qe), ("later", .ref ql)]))) := ExtF.pre e1 ((ExtF.upd e1.s y.gp c2 (fun _ z => nomatch z)).mono fun b hb => .inl hb)
    refine ⟨.ref q, x.hσ, q, C, dx, _, rfl, c2, h2, h3, (by decide : 3 < 1000), p0 _ _ _ e1.g ?_⟩
    cases w with
    | false =>
      refine r.chg x eF y.gp ⟨.inr n, g1⟩ ⟨.inl (.inr (.inr rfl)), y.gl⟩ ⟨⟨C, dx, h1, upd_same⟩, ?_, ?_, fun z => nF (.inr (.inr z))⟩ y.rv ra y.rl
      · rw [upd_ne (Ne.symm nq)]; exact hL
      · rw [upd_ne (Ne.symm n2)]; exact o3
    | true =>
      refine r.chg x eF y.gp ⟨.inl (.inr (.inl rfl)), y.ge⟩ ⟨.inr n, g1⟩ ⟨⟨C, dx, h1, upd_same⟩, ?_, ?_, fun z => nF (.inr (.inl z.symm))⟩ y.rv y.re ra
      · rw [upd_ne (Ne.symm n1)]; exact o2
      · rw [upd_ne (Ne.symm nq)]; exact hL
/-- x.state = x.earlier.pop(), x.state = x.later.pop() -/
def opopS (i : Nat) (w : Bool) (ρ : En) : RS := objS i ρ fun tg _ es ls => match (lsG w es ls)[(lsG w es ls).length - 1]? with
  | some d => .next (ρ.set i (some (lsP w tg d es ls (lsG w es ls).dropLast)))
  | none => .stuck
theorem RpA.dropLast {K : PySem.W.Frag} {H : Hp} {vs : List V} {ds : List D} (r : RpA Γ K H vs ds) : RpA Γ K H vs.dropLast ds.dropLast := by
  rw [List.dropLast_eq_take, List.dropLast_eq_take, r.length]
  exact r.take _
theorem ss_opop (i : Nat) (w : Bool) {x m : Str} {p1 p2 p3 p4 p5 p6 : Pos} (A0 : Atr X.K "state") (A : Atr X.K (lsN w)) (hm : m = lsN w := by rfl) (hN : X.N[i]? = some x := by rfl) (hv : Vis X.env.scope x := by first | exact Or.inl rfl | exact Or.inr (Or.inl rfl) | exact Or.inr (Or.inr rfl))
    (hd : (x == ("__debug__" : Str)) = false := by decide) (hcd : (x == ("__classdict__" : Str)) = false := by decide) (hb : attributeBase (.Name x p3) m X.env (eval (.Name x p3) X.env) = eval (.Name x p3) X.env := by rfl)
    (hb2 : attributeBase (.Attribute (.Name x p3) m p4) "pop" X.env (eval (.Attribute (.Name x p3) m p4) X.env) = eval (.Attribute (.Name x p3) m p4) X.env := by rfl)
    (hs : swapsWith (.Call (.Attribute (.Attribute (.Name x p3) m p4) "pop" p5) [] [] p6) (some (.Attribute (.Name x p1) "state" p2)) pos.line X.env = pure false := by rfl)
    (hline : (p5.endLine == p6.line) = true := by rfl) :
    SS Γ X W (.Assign [.Attribute (.Name x p1) "state" p2] (.Call (.Attribute (.Attribute (.Name x p3) m p4) "pop" p5) [] [] p6) pos) (opopS i w) := by
  subst hm
  obtain ⟨C, h1, h2, h3⟩ := A.ex
  obtain ⟨C', h1', _, h3'⟩ := A0.ex
  rw [h1] at h1'; cases h1'
  refine PS.imp (ps_fld (pe_var hN hv hd hcd) (pe_bm0 PySem.F.plainAttrs_list PySem.F.slot_list_pop PySem.F.type_list_pop mt_pop (pe_fld (pe_var hN hv hd hcd) hb) hb2 hline) hs) fun E σ H hh => ?_
  obtain ⟨B, G, ρ, r, p⟩ := hh
  obtain ⟨tg, st, es, ls, q, qe, ql, v, us, ws, x, p0⟩ := objS_use r p
  obtain ⟨n1, n2⟩ := x.ob.ne
  obtain ⟨⟨C', dx, c1, c2⟩, o2, o3, o4⟩ := x.ob
  rw [h1] at c1; cases c1
  cases w with
  | false =>
    replace p0 : PostS Γ X.K W B G E (match es[es.length - 1]? with | some d => .next (ρ.set i (some (.obj tg d es.dropLast ls))) | none => .stuck) := p0
    cases hd : es[es.length - 1]? with
    | none => rw [hd] at p0; exact p0.elim
    | some d =>
    rw [hd] at p0
    obtain ⟨u, hu, ru⟩ := x.re.get hd
    rw [← x.re.length] at hu
    refine ⟨.ref q, x.hσ, q, C, dx, _, .ref qe, rfl, c2, h2, h3, rfl, .inl ⟨rfl, us, .of o2⟩, qe, us, u, rfl, rfl, o2, hu, .ref q, x.hσ, q, C, dx, [("state", v), ("earlier", .ref qe), ("later", .ref ql)], rfl, by rw [upd_ne n1]; exact c2, h2, h3', (by decide : 3 < 1000), p0 _ _ _ (.refl _) ?_⟩
    have e1 : ExtF (F3 q qe ql) G H G (upd (upd H qe (.lst us.dropLast)) q (.ins C dx (putF "state" u [("state", v), ("earlier", .ref qe), ("later", .ref ql)]))) := by
      have a1 := (ExtF.upd (u := .lst us.dropLast) r.same x.ge o2 noTab_lst)
      have a2 := ExtF.upd (q := q) (u := .ins C dx (putF "state" u [("state", v), ("earlier", .ref qe), ("later", .ref ql)])) a1.s x.gp (by rw [upd_ne n1]; exact c2) (by intro _ z; cases z)
      refine ⟨.refl _, a2.s, fun b o n k1 k2 k3 => ?_, fun b n k => upd_none (upd_none k), fun t => a2.t (a1.t t)⟩
      obtain ⟨y1, y2⟩ := a1.k b o (fun z => n (.inr (.inl z))) k1 k2 k3
      exact a2.k b o (fun z => n (.inl z)) y1 y2 k3
    refine r.chg x e1 x.gp ⟨.inl (.inr (.inl rfl)), x.ge⟩ ⟨.inl (.inr (.inr rfl)), x.gl⟩ ⟨⟨C, dx, h1, upd_same⟩, ?_, ?_, o4⟩ ru x.re.dropLast x.rl
    · rw [upd_ne (Ne.symm n1), upd_same]
    · rw [upd_ne (Ne.symm n2), upd_ne (Ne.symm o4)]; exact o3
  | true =>
    replace p0 : PostS Γ X.K W B G E (match ls[ls.length - 1]? with | some d => .next (ρ.set i (some (.obj tg d es ls.dropLast))) | none => .stuck) := p0
    cases hd : ls[ls.length - 1]? with
    | none => rw [hd] at p0; exact p0.elim
    | some d =>
    rw [hd] at p0
    obtain ⟨u, hu, ru⟩ := x.rl.get hd
    rw [← x.rl.length] at hu
    refine ⟨.ref q, x.hσ, q, C, dx, _, .ref ql, rfl, c2, h2, h3, rfl, .inl ⟨rfl, ws, .of o3⟩, ql, ws, u, rfl, rfl, o3, hu, .ref q, x.hσ, q, C, dx, [("state", v), ("earlier", .ref qe), ("later", .ref ql)], rfl, by rw [upd_ne n2]; exact c2, h2, h3', (by decide : 3 < 1000), p0 _ _ _ (.refl _) ?_⟩
    have e1 : ExtF (F3 q qe ql) G H G (upd (upd H ql (.lst ws.dropLast)) q (.ins C dx (putF "state" u [("state", v), ("earlier", .ref qe), ("later", .ref ql)]))) := by
      have a1 := (ExtF.upd (u := .lst ws.dropLast) r.same x.gl o3 noTab_lst)
      have a2 := ExtF.upd (q := q) (u := .ins C dx (putF "state" u [("state", v), ("earlier", .ref qe), ("later", .ref ql)])) a1.s x.gp (by rw [upd_ne n2]; exact c2) (by intro _ z; cases z)
      refine ⟨.refl _, a2.s, fun b o n k1 k2 k3 => ?_, fun b n k => upd_none (upd_none k), fun t => a2.t (a1.t t)⟩
      obtain ⟨y1, y2⟩ := a1.k b o (fun z => n (.inr (.inr z))) k1 k2 k3
      exact a2.k b o (fun z => n (.inl z)) y1 y2 k3
    refine r.chg x e1 x.gp ⟨.inl (.inr (.inl rfl)), x.ge⟩ ⟨.inl (.inr (.inr rfl)), x.gl⟩ ⟨⟨C, dx, h1, upd_same⟩, ?_, ?_, o4⟩ ru x.re x.rl.dropLast
    · rw [upd_ne (Ne.symm n1), upd_ne o4]; exact o2
    · rw [upd_ne (Ne.symm n2), upd_same]
/-- returns that keep the slots -/
theorem ss_retE (he : SE Γ X W e fa) : SS Γ X W (.Return (some e) pos) (fun ρ => thenS (fa ρ) ρ fun d => .retE d ρ) := by
  obtain ⟨ta, pa, qa⟩ := he.out
  refine PS.imp (ps_ret pa) fun E σ H hh => ?_
  obtain ⟨B, G, ρ, r, p⟩ := hh
  exact qa r (PostS.use r p fun G1 H1 v d _ r1 rv p1 => p1 _ _ _ _ (.refl _) r1 rv)
/-- return x, private -/
theorem ss_retO (i : Nat) {x : Str} {p1 : Pos} (hN : X.N[i]? = some x := by rfl) (hv : Vis X.env.scope x := by first | exact Or.inl rfl | exact Or.inr (Or.inl rfl) | exact Or.inr (Or.inr rfl))
    (hd : (x == ("__debug__" : Str)) = false := by decide) (hcd : (x == ("__classdict__" : Str)) = false := by decide) : SS Γ X W (.Return (some (.Name x p1)) pos) (fun ρ => objS i ρ fun _ _ _ _ => .retO i ρ) := by
  refine PS.imp (ps_ret (pe_var hN hv hd hcd)) fun E σ H hh => ?_
  obtain ⟨B, G, ρ, r, p⟩ := hh
  obtain ⟨tg, st, es, ls, q, qe, ql, v, us, ws, x, p0⟩ := objS_use r p
  exact ⟨.ref q, x.hσ, p0 _ _ _ _ (.refl _) r x.hσ⟩
/-- list(e), private -/
def listL : D → R (List D)
  | .lst ds => .ok ds
  | .tup ds => .ok ds
  | _ => .stuck
theorem sf_listOf {x : Str} (hg : Gl X x) (hm : X.mg x = none) (hv : bootBuiltins x = some (.type "list")) (ha : SE Γ X W a fa) (hn : x ≠ "__name__" := by decide) (hdb : (x == ("__debug__" : Str)) = false := by decide)
    (he : starEach [a] X.env = (false, eval a X.env) :: starEach [] X.env := by rfl) (hpl : (backTo pos (starEach [] X.env)).any (·.1) = false := by rfl) :
    SF Γ X W (.Call (.Name x p) [a] [] pos) (fun ρ => (fa ρ).bind listL) := by
  obtain ⟨ta, pa, qa⟩ := ha.out
  refine PE.imp (pe_callTy call_list_of hg hm hv (pa_cons pa pa_nil he) hn hdb he hpl) fun σ H Q hh => ?_
  obtain ⟨B, G, ρ, r, p⟩ := hh
  dsimp only at p
  refine qa r ?_
  cases hf : fa ρ with
  | exc c => rw [hf] at p; exact p
  | stuck => rw [hf] at p; exact p
  | ok d =>
    rw [hf] at p
    replace p : PostF Γ X.K W G H σ Q (listL d) := p
    intro G1 H1 v e1 r1
    cases r1 <;> first | exact p.elim | skip
    · rename_i q xs ds hs hr
      exact ⟨q, xs, rfl, .inr (e1.s.seqT hs), fun l hl => p l G1 _ xs (e1.d l hl) (e1.trans (.priv e1.s hl)) (e1.s.none hl) upd_same hr⟩
    · rename_i q xs ds hs hr
      exact ⟨q, xs, rfl, .inl (.of (e1.s _ _ hs)), fun l hl => p l G1 _ xs (e1.d l hl) (e1.trans (.priv e1.s hl)) (e1.s.none hl) upd_same hr⟩
end
end VL
end
section
set_option Elab.async false
set_option linter.all false
set_option maxRecDepth 100000
set_option maxHeartbeats 4000000
set_option autoImplicit false
/-! Methods that change their instance; how one is made in a slot, and copied. -/
namespace VL
open PySem PySem.Spec PyProof.Rows L2
variable [TabN]
/-- the frame of a method of the instance at p -/
def Gam.at (Γ : Gam) (p : Addr) : Gam where
  O := Γ.O
  ob := Γ.ob
  mono := Γ.mono
  cls := Γ.cls
  P := Γ.P
  w := Γ.w
  self := some p
section
variable {Γ : Gam} {K : PySem.W.Frag} {H : Hp} {p : Addr}
mutual
theorem Rp.toAt : ∀ {v : V} {d : D}, Rp Γ K H v d → Rp (Γ.at p) K H v d
  | _, _, .non => .non
  | _, _, .bl b => .bl b
  | _, _, .int i => .int i
  | _, _, .str x => .str x
  | _, _, .tup h r => .tup h (RpA.toAt r)
  | _, _, .lst h r => .lst h (RpA.toAt r)
  | _, _, .scr h r => .scr h (RpA.toAt r)
  | _, _, .op h r => .op h (RpA.toAt r)
  | _, _, .dic h x n r q => .dic h x n (RpA.toAt r) (RpA.toAt q)
theorem RpA.toAt : ∀ {vs : List V} {ds : List D}, RpA Γ K H vs ds → RpA (Γ.at p) K H vs ds
  | _, _, .nil => .nil
  | _, _, .cons h r => .cons (Rp.toAt h) (RpA.toAt r)
end
mutual
theorem Rp.ofAt : ∀ {v : V} {d : D}, Rp (Γ.at p) K H v d → Rp Γ K H v d
  | _, _, .non => .non
  | _, _, .bl b => .bl b
  | _, _, .int i => .int i
  | _, _, .str x => .str x
  | _, _, .tup h r => .tup h (RpA.ofAt r)
  | _, _, .lst h r => .lst h (RpA.ofAt r)
  | _, _, .scr h r => .scr h (RpA.ofAt r)
  | _, _, .op h r => .op h (RpA.ofAt r)
  | _, _, .dic h x n r q => .dic h x n (RpA.ofAt r) (RpA.ofAt q)
theorem RpA.ofAt : ∀ {vs : List V} {ds : List D}, RpA (Γ.at p) K H vs ds → RpA Γ K H vs ds
  | _, _, .nil => .nil
  | _, _, .cons h r => .cons (Rp.ofAt h) (RpA.ofAt r)
end
theorem GamOk.at {P : Program} {w : World} {Ca : Nat → Addr} (gO : GamOk Γ P w Ca) : GamOk (Γ.at p) P w Ca := ⟨gO.P, gO.w, gO.cls, gO.no1, gO.obj, gO.hdl⟩
theorem CloG.at {LT : Nat → Option Lm} (h : CloG Γ LT) : CloG (Γ.at p) LT := h
end
abbrev MO := D → List D → List D → List D → Option (D × D × List D × List D)
def PostO (Γ : Gam) (K : PySem.W.Frag) (G H : Hp) (p pe pl : Addr) (Q : VK) : Option (D × D × List D × List D) → Prop
  | none => False
  | some (d, st, es, ls) => ∀ G' H' r pe' pl' v us ws, ExtF (F3 p pe pl) G H G' H' → G' p = none → (F3 p pe pl pe' ∨ H pe' = none) ∧ G' pe' = none → (F3 p pe pl pl' ∨ H pl' = none) ∧ G' pl' = none → ObjX H' p pe' pl' v us ws → Rp Γ K G' v st → RpA Γ K G' us es → RpA Γ K G' ws ls → Rp Γ K G' r d → Q r H'
def spO (Γ : Gam) (K : PySem.W.Frag) (n : Nat) (m : MO) : Sp := fun vs H Q _ => ∃ G p rest ds pe pl v us ws st es ls, vs = .ref p :: rest ∧ Same G H ∧ TabsOk G H ∧ G p = none ∧ G pe = none ∧ G pl = none ∧ ObjX H p pe pl v us ws ∧ Rp Γ K G v st ∧ RpA Γ K G us es ∧ RpA Γ K G ws ls ∧ RpA Γ K G rest ds ∧ ds.length + 1 = n ∧ PostO Γ K G H p pe pl Q (m st es ls ds)
def finO (d : D) (ρ : En) : Option (D × D × List D × List D) := match (ρ[(0 : Nat)]? : Option (Option SV)) with
  | some (some (.obj true st es ls)) => some (d, st, es, ls)
  | _ => none
def bodyO (N n : Nat) (f : En → RS) : MO := fun st es ls ds => if ds.length + 1 = n then
    (match f (some (.obj true st es ls) :: (ds.map (fun d => some (.val d)) ++ List.replicate (N - (ds.length + 1)) none)) with
    | .next ρ => finO .non ρ
    | .retE d ρ => finO d ρ
    | _ => none) else none
def rm3 (H : Hp) (p pe pl : Addr) : Hp := fun b => if b = p ∨ b = pe ∨ b = pl then none else H b
section
variable {H : Hp} {p pe pl : Addr}
theorem rm3_in {b : Addr} (h : F3 p pe pl b) : rm3 H p pe pl b = none := if_pos h
theorem rm3_out {b : Addr} (h : ¬ F3 p pe pl b) : rm3 H p pe pl b = H b := if_neg h
theorem rm3_some {b : Addr} {x : HO} (h : rm3 H p pe pl b = some x) : H b = some x ∧ ¬ F3 p pe pl b := by
  by_cases hb : F3 p pe pl b
  · rw [rm3_in hb] at h; cases h
  · rw [rm3_out hb] at h; exact ⟨h, hb⟩
theorem rm3_none {b : Addr} (h : rm3 H p pe pl b = none) : F3 p pe pl b ∨ H b = none := by
  by_cases hb : F3 p pe pl b
  · exact .inl hb
  · rw [rm3_out hb] at h; exact .inr h
theorem ObjX.noTab {v : V} {us ws : List V} (o : ObjX H p pe pl v us ws) {b : Addr} (h : F3 p pe pl b) : ∃ u, H b = some u ∧ NoTab u := by
  obtain ⟨⟨C, dx, c1, c2⟩, o2, o3, o4⟩ := o
  rcases h with rfl | rfl | rfl
  · exact ⟨_, c2, fun _ z => nomatch z⟩
  · exact ⟨_, o2, noTab_lst⟩
  · exact ⟨_, o3, noTab_lst⟩
theorem rm3_tabs {G : Hp} {v : V} {us ws : List V} (o : ObjX H p pe pl v us ws) (t : TabsOk G H) : TabsOk G (rm3 H p pe pl) := ⟨t.1, fun P q h => by
  obtain ⟨ps, h1, h2, h3⟩ := t.2 P q h
  refine ⟨ps, ?_, h2, h3⟩
  rw [rm3_out fun z => ?_]
  · exact h1
  · obtain ⟨u, z1, z2⟩ := o.noTab z
    rw [h1] at z1
    exact z2 ps (Option.some.inj z1).symm⟩
end
section
variable {Γ : Gam} {P : Program} {w : World} {K : PySem.W.Frag} {mg : Str → Option Value} {base : Heap} {x qual : Str} {st : Stmt} {C f : Addr} {fd : FuncData} {N ps : List Str} {k : Nat} {fb : En → RS}
theorem fn_mkO (F : Fun K x qual st f fd) (S : FnScope N ps (defScope st))
    (hb : ∀ (p : Addr) (cdv : Value) (A : Around) (outer : List Env) (s : Shared) (H : Hp) (EE : XK), Ct (cxOf (L2.CX P w) P w K mg base N qual (defScope st) f cdv A outer s H EE) (fun cls d _ H' => EE cls d H') k →
      SSs (Γ.at p) (cxOf (L2.CX P w) P w K mg base N qual (defScope st) f cdv A outer s H EE) (fun cls d _ H' => EE cls d H') (defBody st) fb) :
    FnOk P w K mg base (L2.CX P w) (k + 1) f fd ps (spO Γ K ps.length (bodyO N.length ps.length fb)) := by
  refine F.okX S (fun vs H Q E h => ?_) (fun cdv A outer s H vs Q EE hr h => ?_)
  · obtain ⟨G, p, rest, ds, pe, pl, v, us, ws, st, es, ls, rfl, _, _, _, _, _, _, _, _, _, r, hl, _⟩ := h
    rw [List.length_cons, r.length]; exact hl
  · obtain ⟨G, p, rest, ds, pe, pl, v, us, ws, sd, es, ls, rfl, sm, tb, gp, ge, gl, ob, rv, re, rl, rA, hl, post⟩ := h
    refine ⟨_, hb p cdv A outer s H EE ⟨takes_of rfl rfl rfl rfl, passes_of rfl, rfl, S.nd, hr⟩, ?_⟩
    have sm2 : Same G (rm3 H p pe pl) := fun b y e => by
      rw [rm3_out fun z => ?_]
      · exact sm _ _ e
      · rcases z with rfl | rfl | rfl
        · rw [gp] at e; cases e
        · rw [ge] at e; cases e
        · rw [gl] at e; cases e
    have r0 : Rel (Γ.at p) K (G, rm3 H p pe pl) G (rm3 H p pe pl) (L2.start N (.non :: rest)) ((.non :: ds).map (fun d => some (.val d)) ++ List.replicate (N.length - (ds.length + 1)) none) := start_rel (N := N) sm2 (rm3_tabs ob tb) (RpA.cons Rp.non rA.toAt)
    have e0 : ExtF (fun _ => False) G (rm3 H p pe pl) G H := ⟨.refl _, sm, fun b o _ h1 h2 _ => ⟨(rm3_some h1).1, h2⟩, fun b _ hb => by
      by_cases hb' : F3 p pe pl b
      · exact rm3_in hb'
      · rw [rm3_out hb']; exact hb, fun t => t.ext fun b y h => (rm3_some h).1⟩
    have r1 := r0.putObj (i := 0) (tg := true) e0 (fun _ z => z.elim) ⟨.inr (rm3_in (.inl rfl)), gp⟩ ⟨.inr (rm3_in (.inr (.inl rfl))), ge⟩ ⟨.inr (rm3_in (.inr (.inr rfl))), gl⟩ (fun _ => rfl) ob rv.toAt re.toAt rl.toAt
    refine ⟨(G, rm3 H p pe pl), G, _, r1, ?_⟩
    unfold bodyO at post
    rw [if_pos hl] at post
    have fin : ∀ {d : D} {ρ : En} {G1 H1 : Hp} {σ1 : L2.St} {u : V}, Rel (Γ.at p) K (G, rm3 H p pe pl) G1 H1 σ1 ρ → Rp (Γ.at p) K G1 u d → PostO Γ K G H p pe pl Q (finO d ρ) → Q u H1 := fun {d ρ G1 H1 σ1 u} r ru post => by
      unfold finO at post
      split at post
      · rename_i st' es' ls' hi
        obtain ⟨p0, pe0, pl0, v0, us0, ws0, y1, y2, y3, y4, y5, y6, y7, y8, y9⟩ := r.obj hi
        have e : p = p0 := Option.some.inj (y2 rfl)
        subst e
        refine post G1 H1 u pe0 pl0 v0 us0 ws0 ⟨r.ext.g, r.ext.s, fun b o n h1 h2 h3 => r.ext.k b o (by show rm3 H p pe pl b = some o; rw [rm3_out n]; exact h1) h2 h3, fun b n h => ?_, fun t => r.ext.t (rm3_tabs ob t)⟩ y3.2 ⟨rm3_none y4.1, y4.2⟩ ⟨rm3_none y5.1, y5.2⟩ y6 y7.ofAt y8.ofAt y9.ofAt ru.ofAt
        have z := r.ext.d b h
        have z : rm3 H p pe pl b = none := z
        rw [rm3_out n] at z
        exact z
      · exact post.elim
    show PostS (Γ.at p) K _ _ _ _ (fb (some (.obj true sd es ls) :: (ds.map (fun d => some (.val d)) ++ List.replicate (N.length - (ds.length + 1)) none)))
    cases hf : fb (some (.obj true sd es ls) :: (ds.map (fun d => some (.val d)) ++ List.replicate (N.length - (ds.length + 1)) none)) with
    | next ρ => rw [hf] at post; exact fun G1 H1 σ1 _ r1 => fin r1 .non post
    | retE d ρ => rw [hf] at post; exact fun G1 H1 σ1 u _ r1 ru => fin r1 ru post
    | ret d => rw [hf] at post; exact post.elim
    | retO k ρ => rw [hf] at post; exact post.elim
    | brk ρ => rw [hf] at post; exact post.elim
    | cont ρ => rw [hf] at post; exact post.elim
    | exc c ρ => rw [hf] at post; exact post.elim
    | stuck => rw [hf] at post; exact post.elim
/-- a method that changes its instance, and its mirror -/
structure CalO (Γ : Gam) (P : Program) (w : World) (K : PySem.W.Frag) (mg : Str → Option Value) (base : Heap) (m : Str) (k : Nat) (ps : List Str) (mm : MO) : Prop where
  ex : ∃ C f fd, TabN.wc = some C ∧ Cls K C ∧ Meth K C m f ∧ FnOk P w K mg base (L2.CX P w) k f fd ps (spO Γ K ps.length mm) ∧ Binds K fd ps []
  len : ∀ st es ls ds, ds.length + 1 ≠ ps.length → mm st es ls ds = none
theorem calO_mk (hw : TabN.wc = some C) (c : Cls K C) (M : Meth K C x f) (F : Fun K x qual st f fd) (S : FnScope N ps (defScope st)) (hbd : Binds K fd ps [])
    (hb : ∀ (p : Addr) (cdv : Value) (A : Around) (outer : List Env) (s : Shared) (H : Hp) (EE : XK), Ct (cxOf (L2.CX P w) P w K mg base N qual (defScope st) f cdv A outer s H EE) (fun cls d _ H' => EE cls d H') k →
      SSs (Γ.at p) (cxOf (L2.CX P w) P w K mg base N qual (defScope st) f cdv A outer s H EE) (fun cls d _ H' => EE cls d H') (defBody st) fb) :
    CalO Γ P w K mg base x (k + 1) ps (bodyO N.length ps.length fb) :=
  ⟨⟨C, f, fd, hw, c, M, fn_mkO F S hb, hbd⟩, fun st es ls ds h => if_neg h⟩
end
end VL
end
section
set_option Elab.async false
set_option linter.all false
set_option maxRecDepth 100000
set_option maxHeartbeats 4000000
set_option autoImplicit false
/-! Expressions that change an instance; instances made in a slot, copied. -/
namespace VL
open PySem PySem.Spec PyProof.Rows L2
variable [TabN]
def PostX (Γ : Gam) (K : PySem.W.Frag) (B : Hp × Hp) (G : Hp) (σ : L2.St) (Q : VK) : Option (D × En) → Prop
  | none => False
  | some (d, ρ) => ∀ G' H' v, Same G G' → Rel Γ K B G' H' σ ρ → Rp Γ K G' v d → Q v H'
def SX (Γ : Gam) (X : Cx) (e : Expr) (f : En → Option (D × En)) : Prop := ∃ t, PE X e t ∧ ∀ {B : Hp × Hp} {G H : Hp} {σ : L2.St} {ρ : En} {Q : VK}, Rel Γ X.K B G H σ ρ → PostX Γ X.K B G σ Q (f ρ) → t σ H Q
/-- the instance in slot i, changed by m -/
def xm (i : Nat) (mm : MO) (fs : En → R (List D)) : En → Option (D × En) := fun ρ => match ρ[i]? with
  | some (some (.obj tg st es ls)) => (match fs ρ with
    | .ok ds => (match mm st es ls ds with
      | some (d, st', es', ls') => some (d, ρ.set i (some (.obj tg st' es' ls')))
      | none => none)
    | _ => none)
  | _ => none
section
variable {Γ : Gam} {X : Cx} {W : WX} {a b c e o : Expr} {es : List Expr} {fa fb fc : En → R D} {pos p p1 apos : Pos} {j k : Nat} {x m : Str} {ps : List Str} {mm : MO} {fs : En → R (List D)} {pl : Sem Bool}
theorem xm_use {K : PySem.W.Frag} {B : Hp × Hp} {G H : Hp} {σ : L2.St} {ρ : En} {Q : VK} {i : Nat} (r : Rel Γ K B G H σ ρ) (q : PostX Γ K B G σ Q (xm i mm fs ρ)) (hlen : ∀ st es ls ds, ds.length + 1 ≠ ps.length → mm st es ls ds = none) :
    ∃ tg st es ls p pe pl v us ws ds, ObjAt Γ K B G H σ ρ i tg st es ls p pe pl v us ws ∧ fs ρ = .ok ds ∧ ∀ G1 H1 vs E, Ext G H G1 H1 → RpA Γ K G1 vs ds → spO Γ K ps.length mm (.ref p :: vs) H1 Q E := by
  unfold xm at q
  split at q
  case h_2 => exact q.elim
  rename_i tg st es ls hi
  obtain ⟨p0, pe0, pl0, v0, us, ws, x⟩ := r.objAt hi
  cases hf : fs ρ with
  | exc c => rw [hf] at q; exact q.elim
  | stuck => rw [hf] at q; exact q.elim
  | ok ds =>
    rw [hf] at q
    refine ⟨tg, st, es, ls, p0, pe0, pl0, v0, us, ws, ds, x, rfl, fun G1 H1 vs E e1 ra => ?_⟩
    have y := x.go e1
    refine ⟨G1, p0, vs, ds, pe0, pl0, v0, us, ws, st, es, ls, rfl, e1.s, (r.go e1).tab, y.gp, y.ge, y.gl, y.ob, y.rv, y.re, y.rl, ra, ?_, ?_⟩
    · apply Classical.byContradiction
      intro hl
      dsimp only at q
      rw [hlen st es ls ds hl] at q
      exact q
    · dsimp only at q
      cases hm : mm st es ls ds with
      | none => rw [hm] at q; exact q
      | some z =>
        obtain ⟨d, st', es', ls'⟩ := z
        rw [hm] at q
        intro G' H' u pe' pl' v' us' ws' eF g1 g2 g3 ob' rv' re' rl' ru
        exact q G' H' u (e1.g.trans eF.g) ((r.go e1).chg y eF g1 g2 g3 ob' rv' re' rl') ru
/-- x.m(e, ..) -/
theorem sx_meth (i : Nat) (C : Ct X W j) (F : CalO Γ X.prog X.w X.K X.mg X.base m k ps mm) (ha : SA Γ X W (e :: es) fs) (hk : k ≤ j := by decide)
    (hl : ∀ s e l : V, List.lookup m [(("state" : Str), s), ("earlier", e), ("later", l)] = none := by intro s e l; rfl) (hN : X.N[i]? = some x := by rfl) (hv : Vis X.env.scope x := by first | exact Or.inl rfl | exact Or.inr (Or.inl rfl) | exact Or.inr (Or.inr rfl))
    (hd : (x == ("__debug__" : Str)) = false := by decide) (hcd : (x == ("__classdict__" : Str)) = false := by decide) (hst : starEach (e :: es) X.env = (false, eval e X.env) :: starEach es X.env := by rfl) (hpl : (backTo pos (starEach es X.env)).any (·.1) = false := by rfl)
    (ht : eval (.Call (.Attribute (.Name x p1) m apos) (e :: es) [] pos) X.env = (do let ov ← eval (.Name x p1) X.env; standAt apos.atName; let (f, first) ← holding [ov] (getMethod ov m pl); callWith pos f first (backTo pos (starEach (e :: es) X.env)) (backToKw pos (keywordEach [] X.env))) := by rfl) :
    SX Γ X (.Call (.Attribute (.Name x p1) m apos) (e :: es) [] pos) (xm i mm fs) := by
  obtain ⟨tb, pb, qb⟩ := ha.out
  obtain ⟨c, f, fd, F1, F2, F3, F4, F5⟩ := F.ex
  refine ⟨_, pe_methA (E := WE W) (pl := pl) (pe_var hN hv hd hcd) F2 F3 F4 (C.hr.mono hk) F5 (fun σ => passAt C.tk σ) pb hst hpl ht, fun {B G H σ ρ Q} r q => ?_⟩
  obtain ⟨tg, st, es', ls, p0, pe0, pl0, v0, us, ws, ds, x, hf, go⟩ := xm_use r q F.len
  obtain ⟨⟨C', dx, c1, c2⟩, o2, o3, o4⟩ := x.ob
  rw [F1] at c1; cases c1
  refine ⟨.ref p0, x.hσ, p0, dx, _, rfl, c2, hl _ _ _, qb r ?_⟩
  rw [hf]
  exact fun G1 H1 vs e1 r1 => go G1 H1 vs _ e1 r1
/-- x.m() -/
theorem sx_meth0 (i : Nat) (C : Ct X W j) (F : CalO Γ X.prog X.w X.K X.mg X.base m k ps mm) (hk : k ≤ j := by decide)
    (hl : ∀ s e l : V, List.lookup m [(("state" : Str), s), ("earlier", e), ("later", l)] = none := by intro s e l; rfl) (hN : X.N[i]? = some x := by rfl) (hv : Vis X.env.scope x := by first | exact Or.inl rfl | exact Or.inr (Or.inl rfl) | exact Or.inr (Or.inr rfl))
    (hd : (x == ("__debug__" : Str)) = false := by decide) (hcd : (x == ("__classdict__" : Str)) = false := by decide)
    (ht : eval (.Call (.Attribute (.Name x p1) m apos) [] [] pos) X.env = (do let ov ← eval (.Name x p1) X.env; standAt apos.atName; let (f, first) ← holding [ov] (getMethod ov m pl); callWith pos f first (backTo pos (starEach [] X.env)) (backToKw pos (keywordEach [] X.env))) := by rfl) :
    SX Γ X (.Call (.Attribute (.Name x p1) m apos) [] [] pos) (xm i mm fun _ => .ok []) := by
  obtain ⟨c, f, fd, F1, F2, F3, F4, F5⟩ := F.ex
  refine ⟨_, pe_methA0 (E := WE W) (pl := pl) (pe_var hN hv hd hcd) F2 F3 F4 (C.hr.mono hk) F5 (fun σ => passAt C.tk σ) ht, fun {B G H σ ρ Q} r q => ?_⟩
  obtain ⟨tg, st, es', ls, p0, pe0, pl0, v0, us, ws, ds, x, hf, go⟩ := xm_use r q F.len
  cases hf
  obtain ⟨⟨C', dx, c1, c2⟩, o2, o3, o4⟩ := x.ob
  rw [F1] at c1; cases c1
  exact ⟨.ref p0, x.hσ, p0, dx, _, rfl, c2, hl _ _ _, go G H [] (WE W σ) (.refl r.same) .nil⟩
def exprX (f : En → Option (D × En)) (ρ : En) : RS := match f ρ with
  | some (_, ρ') => .next ρ'
  | none => .stuck
theorem ss_exprX {f : En → Option (D × En)} (h : SX Γ X e f) (hs : swapsWith e none pos.line X.env = pure false := by rfl) : SS Γ X W (.Expr e pos) (exprX f) := by
  obtain ⟨t, pt, qt⟩ := h
  refine PS.imp (ps_expr pt hs) fun E σ H hh => ?_
  obtain ⟨B, G, ρ, r, p⟩ := hh
  refine qt r ?_
  unfold exprX at p
  cases hf : f ρ with
  | none => rw [hf] at p; exact p
  | some z =>
    obtain ⟨d, ρ'⟩ := z
    rw [hf] at p
    exact fun G' H' v s' r' _ => p G' H' σ s' r'
/-! ### instances made in a slot -/
/-- C(e), private -/
def PostN (Γ : Gam) (K : PySem.W.Frag) (W : WX) (G H : Hp) (σ : L2.St) (Q : VK) : R (D × List D × List D) → Prop
  | .ok (st, es, ls) => ∀ G' H' p pe pl v us ws, Ext G H G' H' → H p = none ∧ G' p = none → H pe = none ∧ G' pe = none → H pl = none ∧ G' pl = none → ObjX H' p pe pl v us ws → Rp Γ K G' v st → RpA Γ K G' us es → RpA Γ K G' ws ls → Q (.ref p) H'
  | .exc c => ∀ G' H', Ext G H G' H' → W (Γ.cls c) none σ H'
  | .stuck => False
def SN (Γ : Gam) (X : Cx) (W : WX) (e : Expr) (f : En → R (D × List D × List D)) : Prop := ∃ t, PE X e t ∧ ∀ {B : Hp × Hp} {G H : Hp} {σ : L2.St} {ρ : En} {Q : VK}, Rel Γ X.K B G H σ ρ → PostN Γ X.K W G H σ Q (f ρ) → t σ H Q
theorem sn_make {m : D → R D} (cT : Ct X W j) (F : CalI Γ X.prog X.w X.K X.mg X.base x k m) (hg : Gl X x) (he : SE Γ X W e fa) (hk : k + 1 ≤ j := by decide) (hdb : (x == ("__debug__" : Str)) = false := by decide)
    (hst : starEach [e] X.env = (false, eval e X.env) :: starEach [] X.env := by rfl) (hpl : (backTo pos (starEach [] X.env)).any (·.1) = false := by rfl) :
    SN Γ X W (.Call (.Name x p) [e] [] pos) (fun ρ => (fa ρ).bind fun d => (m d).bind fun s => .ok (s, [], [])) := by
  obtain ⟨ta, pa, qa⟩ := he.out
  obtain ⟨c, f, fd, F1, F2, F3, F4, F5⟩ := F.ex
  refine ⟨_, pe_makeS (E := WE W) F3 F4 (cT.hr.mono hk) hg F2 F5 (fun σ => passAt cT.tk σ) (pa_cons pa pa_nil hst) hdb hst hpl, fun {B G H σ ρ Q} r p => ?_⟩
  refine qa r ?_
  dsimp only at p
  cases hf : fa ρ with
  | stuck => rw [hf] at p; exact p.elim
  | exc c => rw [hf] at p; exact p
  | ok d =>
  rw [hf] at p
  replace p : PostN Γ X.K W G H σ Q ((m d).bind fun s => .ok (s, [], [])) := p
  intro G1 H1 v e1 r1 x dx hx hdx hne
  have hx' : upd H1 dx (.own x) x = none := by rw [upd_ne (Ne.symm hne)]; exact hx
  have ex0 : Ext G1 H1 G1 (upd (upd H1 dx (.own x)) x (.ins c dx [])) := (Ext.priv e1.s hdx).trans (.priv (e1.s.trans (same_upd hdx)) hx')
  refine ⟨x, dx, v, G1, d, rfl, upd_same, e1.s.none hx, ex0.s, ex0.t (r.go e1).tab, r1, ?_⟩
  cases hm : m d with
  | stuck => rw [hm] at p; exact p.elim
  | exc n => rw [hm] at p; exact fun G2 H2 e2 => p G2 H2 ((e1.trans ex0).trans e2)
  | ok d' =>
    rw [hm] at p
    replace p : PostN Γ X.K W G H σ Q (.ok (d', [], [])) := p
    intro G2 H2 vt q q' e2 rt hq hq' hqq
    have ex2 := (e1.trans ex0).trans e2
    obtain ⟨hx2, gx2⟩ := e2.k x _ upd_same (e1.s.none hx) (fun _ z => nomatch z)
    have hpx : x ≠ q := ne_of_none hx2 hq
    have hqx : x ≠ q' := ne_of_none hx2 hq'
    have hq2 : upd H2 q (.lst []) q' = none := by rw [upd_ne (Ne.symm hqq)]; exact hq'
    have e3 : Ext G2 H2 G2 (upd H2 q (.lst [])) := .priv e2.s hq
    have e4 : Ext G2 (upd H2 q (.lst [])) G2 (upd (upd H2 q (.lst [])) q' (.lst [])) := .priv e3.s hq2
    have hx4 : upd (upd H2 q (.lst [])) q' (.lst []) x = some (.ins c dx []) := by rw [upd_ne hqx, upd_ne hpx]; exact hx2
    have e5 := ((ex2.trans e3).trans e4).mutNew (o := .ins c dx [("state", vt), ("earlier", .ref q), ("later", .ref q')]) (e1.d x hx) gx2 hx4 (fun _ z => nomatch z)
    refine ⟨rfl, p _ _ x q q' vt [] [] e5 ⟨e1.d x hx, gx2⟩ ⟨ex2.d q hq, e2.s.none hq⟩ ⟨ex2.d q' hq', e2.s.none hq'⟩ ⟨⟨c, dx, F1, upd_same⟩, ?_, ?_, hqq⟩ rt .nil .nil⟩
    · rw [upd_ne (Ne.symm hpx), upd_ne hqq, upd_same]
    · rw [upd_ne (Ne.symm hqx), upd_same]
def newS (i : Nat) (f : En → R (D × List D × List D)) (ρ : En) : RS := thenS (f ρ) ρ fun z => .next (ρ.set i (some (.obj false z.1 z.2.1 z.2.2)))
theorem Rel.newObj {K : PySem.W.Frag} {B : Hp × Hp} {G H G' H' : Hp} {σ : L2.St} {ρ : En} {i : Nat} {p pe pl : Addr} {v : V} {us ws : List V} {st : D} {es ls : List D} (r : Rel Γ K B G H σ ρ) (e : Ext G H G' H') (h1 : H p = none ∧ G' p = none) (h2 : H pe = none ∧ G' pe = none) (h3 : H pl = none ∧ G' pl = none) (o : ObjX H' p pe pl v us ws) (rv : Rp Γ K G' v st) (re : RpA Γ K G' us es) (rl : RpA Γ K G' ws ls) :
    Rel Γ K B G' H' (σ.set i (some (.ref p))) (ρ.set i (some (.obj false st es ls))) :=
  r.putObj (F := fun _ => False) e.f (fun _ z => z.elim) ⟨.inr h1.1, h1.2⟩ ⟨.inr h2.1, h2.2⟩ ⟨.inr h3.1, h3.2⟩ (fun z => nomatch z) o rv re rl
/-- x = C(e), x = y.copy() -/
theorem ss_newO (i : Nat) {pos' : Pos} {f : En → R (D × List D × List D)} (C : Ct X W j) (he : SN Γ X W e f) (hi : X.N[i]? = some x := by rfl) (hx : Loc X.env.scope x := by first | exact .inl rfl | exact .inr rfl) (hs : swapsWith e (some (.Name x pos')) pos.line X.env = pure false := by rfl)
    (hf : X.fn x = true ∨ X.env.scope.names.lookup x = some .local := by first | exact .inl rfl | exact .inr rfl | assumption) : SS Γ X W (.Assign [.Name x pos'] e pos) (newS i f) := by
  obtain ⟨t, pt, qt⟩ := he
  refine PS.imp (ps_set C.nd hi hx pt hs hf) fun E σ H hh => ?_
  obtain ⟨B, G, ρ, r, p⟩ := hh
  refine qt r ?_
  unfold newS at p
  cases hfl : f ρ with
  | exc c => rw [hfl] at p; exact fun G1 H1 e1 => p G1 H1 σ e1.g (r.go e1)
  | stuck => rw [hfl] at p; exact p
  | ok z =>
    obtain ⟨st, es, ls⟩ := z
    rw [hfl] at p
    intro G1 H1 q qe ql v us ws e1 h1 h2 h3 ob rv re rl
    exact p _ _ _ e1.g (r.newObj e1 h1 h2 h3 ob rv re rl)
/-! ### a method that gives a new instance -/
def spN (Γ : Gam) (K : PySem.W.Frag) (n : Nat) (m : List D → R (D × List D × List D)) : Sp := fun vs H Q E => ∃ G ds, Same G H ∧ TabsOk G H ∧ RpA Γ K G vs ds ∧ ds.length = n ∧ PostN Γ K (fun cls d _ H' => E cls d H') G H [] Q (m ds)
def finN (k : Nat) (ρ : En) : R (D × List D × List D) := match ρ[k]? with
  | some (some (.obj _ st es ls)) => .ok (st, es, ls)
  | _ => .stuck
def bodyN (N n : Nat) (f : En → RS) : List D → R (D × List D × List D) := fun ds => if ds.length = n then
    (match f (ds.map (fun d => some (.val d)) ++ List.replicate (N - ds.length) none) with
    | .retO k ρ => finN k ρ
    | .exc c _ => .exc c
    | _ => .stuck) else .stuck
section
variable {P : Program} {w : World} {K : PySem.W.Frag} {mg : Str → Option Value} {base : Heap} {qual : Str} {st : Stmt} {C f : Addr} {fd : FuncData} {N : List Str} {fb : En → RS}
theorem fn_mkN (F : Fun K x qual st f fd) (S : FnScope N ps (defScope st))
    (hb : ∀ (cdv : Value) (A : Around) (outer : List Env) (s : Shared) (H : Hp) (EE : XK), Ct (cxOf (L2.CX P w) P w K mg base N qual (defScope st) f cdv A outer s H EE) (fun cls d _ H' => EE cls d H') k →
      SSs Γ (cxOf (L2.CX P w) P w K mg base N qual (defScope st) f cdv A outer s H EE) (fun cls d _ H' => EE cls d H') (defBody st) fb) :
    FnOk P w K mg base (L2.CX P w) (k + 1) f fd ps (spN Γ K ps.length (bodyN N.length ps.length fb)) := by
  refine F.okX S (fun vs H Q E h => ?_) (fun cdv A outer s H vs Q EE hr h => ?_)
  · obtain ⟨G, ds, _, _, r, hl, _⟩ := h
    rw [r.length]; exact hl
  · obtain ⟨G, ds, sm, tb, r, hl, p⟩ := h
    refine ⟨_, hb cdv A outer s H EE ⟨takes_of rfl rfl rfl rfl, passes_of rfl, rfl, S.nd, hr⟩, ?_⟩
    refine ⟨(G, H), G, _, start_rel sm tb r, ?_⟩
    unfold bodyN at p
    rw [if_pos hl] at p
    cases hf : fb (ds.map (fun d => some (.val d)) ++ List.replicate (N.length - ds.length) none) with
    | retO k ρ =>
      rw [hf] at p
      intro G1 H1 σ1 v _ r1 hv
      replace p : PostN Γ K (fun cls d _ H' => EE cls d H') G H [] Q (finN k ρ) := p
      unfold finN at p
      split at p
      · rename_i tg st' es' ls' hi
        obtain ⟨p0, pe0, pl0, v0, us0, ws0, y1, y2, y3, y4, y5, y6, y7, y8, y9⟩ := r1.obj hi
        rw [y1] at hv
        cases hv
        exact p G1 H1 p0 pe0 pl0 v0 us0 ws0 r1.ext y3 y4 y5 y6 y7 y8 y9
      · exact p.elim
    | next ρ => rw [hf] at p; exact p.elim
    | ret d => rw [hf] at p; exact p.elim
    | retE d ρ => rw [hf] at p; exact p.elim
    | brk ρ => rw [hf] at p; exact p.elim
    | cont ρ => rw [hf] at p; exact p.elim
    | exc c ρ => rw [hf] at p; exact fun G1 H1 σ1 _ r1 => p G1 H1 r1.ext
    | stuck => rw [hf] at p; exact p.elim
structure CalN (Γ : Gam) (P : Program) (w : World) (K : PySem.W.Frag) (mg : Str → Option Value) (base : Heap) (m : Str) (k : Nat) (mm : List D → R (D × List D × List D)) : Prop where
  ex : ∃ C f fd, TabN.wc = some C ∧ Cls K C ∧ Meth K C m f ∧ FnOk P w K mg base (L2.CX P w) k f fd ["self"] (spN Γ K 1 mm) ∧ Binds K fd ["self"] []
theorem calN_mk (hw : TabN.wc = some C) (c : Cls K C) (M : Meth K C x f) (F : Fun K x qual st f fd) (S : FnScope N ["self"] (defScope st)) (hbd : Binds K fd ["self"] [])
    (hb : ∀ (cdv : Value) (A : Around) (outer : List Env) (s : Shared) (H : Hp) (EE : XK), Ct (cxOf (L2.CX P w) P w K mg base N qual (defScope st) f cdv A outer s H EE) (fun cls d _ H' => EE cls d H') k →
      SSs Γ (cxOf (L2.CX P w) P w K mg base N qual (defScope st) f cdv A outer s H EE) (fun cls d _ H' => EE cls d H') (defBody st) fb) :
    CalN Γ P w K mg base x (k + 1) (bodyN N.length 1 fb) :=
  ⟨⟨C, f, fd, hw, c, M, fn_mkN F S hb, hbd⟩⟩
end
def copyM (i : Nat) (mm : List D → R (D × List D × List D)) : En → R (D × List D × List D) := fun ρ => match ρ[i]? with
  | some (some (.obj _ st es ls)) => (match mm [.op 3 [st, .lst es, .lst ls]] with
    | .ok z => if pureD z.1 && pureDs z.2.1 && pureDs z.2.2 then .ok z else .stuck
    | _ => .stuck)
  | _ => .stuck
theorem RpA.map {K : PySem.W.Frag} {G G2 : Hp} (h : ∀ v d, Rp Γ K G v d → pureD d = true → Rp Γ K G2 v d) : ∀ {vs : List V} {ds : List D}, RpA Γ K G vs ds → pureDs ds = true → RpA Γ K G2 vs ds
  | _, _, .nil, _ => .nil
  | _, _, .cons a r, f => by
    have f' := (show _ ∧ _ by simpa [pureDs] using f)
    exact .cons (h _ _ a f'.1) (RpA.map h r f'.2)
theorem sn_copy (i : Nat) {mm : List D → R (D × List D × List D)} (C : Ct X W j) (F : CalN Γ X.prog X.w X.K X.mg X.base m k mm) (hk : k ≤ j := by decide)
    (hl : ∀ s e l : V, List.lookup m [(("state" : Str), s), ("earlier", e), ("later", l)] = none := by intro s e l; rfl) (hN : X.N[i]? = some x := by rfl) (hv : Vis X.env.scope x := by first | exact Or.inl rfl | exact Or.inr (Or.inl rfl) | exact Or.inr (Or.inr rfl))
    (hd : (x == ("__debug__" : Str)) = false := by decide) (hcd : (x == ("__classdict__" : Str)) = false := by decide)
    (ht : eval (.Call (.Attribute (.Name x p1) m apos) [] [] pos) X.env = (do let ov ← eval (.Name x p1) X.env; standAt apos.atName; let (f, first) ← holding [ov] (getMethod ov m pl); callWith pos f first (backTo pos (starEach [] X.env)) (backToKw pos (keywordEach [] X.env))) := by rfl) :
    SN Γ X W (.Call (.Attribute (.Name x p1) m apos) [] [] pos) (copyM i mm) := by
  obtain ⟨c, f, fd, F1, F2, F3, F4, F5⟩ := F.ex
  refine ⟨_, pe_methA0 (E := WE W) (pl := pl) (pe_var hN hv hd hcd) F2 F3 F4 (C.hr.mono hk) F5 (fun σ => passAt C.tk σ) ht, fun {B G H σ ρ Q} r q => ?_⟩
  unfold copyM at q
  split at q
  case h_2 => exact q.elim
  rename_i tg st es ls hi
  obtain ⟨p0, pe0, pl0, v0, us, ws, y⟩ := r.objAt hi
  obtain ⟨⟨C', dx, c1, c2⟩, o2, o3, o4⟩ := y.ob
  rw [F1] at c1; cases c1
  obtain ⟨Ge, re, back⟩ := r.view
  have hi2 : (frzAll ρ)[i]? = some (some (.val (.op 3 [st, .lst es, .lst ls]))) := by
    unfold frzAll
    rw [List.getElem?_map, hi]; rfl
  obtain ⟨v, hσ, rv⟩ := re.val hi2
  rw [y.hσ] at hσ
  cases hσ
  refine ⟨.ref p0, y.hσ, p0, dx, _, rfl, c2, hl _ _ _, Ge, [.op 3 [st, .lst es, .lst ls]], re.same, re.tab, .one rv, rfl, ?_⟩
  cases hm : mm [.op 3 [st, .lst es, .lst ls]] with
  | stuck => rw [hm] at q; exact q.elim
  | exc c => rw [hm] at q; exact q.elim
  | ok z =>
    obtain ⟨st', es', ls'⟩ := z
    rw [hm] at q
    dsimp only at q
    split at q
    · rename_i hp
      have hp : (pureD st' = true ∧ pureDs es' = true) ∧ pureDs ls' = true := by simpa using hp
      intro G' H' q0 qe ql v us ws e1 h1 h2 h3 ob rv re rl
      obtain ⟨G2, e2, tr, nn⟩ := back G' H' e1
      exact q G2 H' q0 qe ql v us ws e2 ⟨h1.1, nn _ h1.2⟩ ⟨h2.1, nn _ h2.2⟩ ⟨h3.1, nn _ h3.2⟩ ob (tr _ _ rv hp.1.1) (RpA.map tr re hp.1.2) (RpA.map tr rl hp.2)
    · exact q.elim
end
end VL
end
section
set_option Elab.async false
set_option linter.all false
set_option maxRecDepth 100000
set_option maxHeartbeats 4000000
set_option autoImplicit false
/-! Closures that change an instance which they captured. -/
namespace VL
open PySem PySem.Spec PyProof.Rows L2
variable [TabN]
def finX (i : Nat) (d : D) (ρ : En) : Option (D × D × List D × List D) := match ρ[i]? with
  | some (some (.obj true st es ls)) => some (d, st, es, ls)
  | _ => none
/-- lambda k with the data pre and an instance captured, called -/
def cloX (fX : Nat → En → Option (D × En)) (k : Nat) (pre : List D) : D → List D → List D → Option (D × D × List D × List D) := fun st es ls => if ((dataDs pre && dataD st) && (dataDs es && dataDs ls)) = true then (match fX k (pre.map (fun d => some (.val d)) ++ [some (.obj true st es ls)]) with
  | some (d, ρ) => finX pre.length d ρ
  | none => none) else none
structure LamO (Γ : Gam) (P : Program) (w : World) (K : PySem.W.Frag) (mg : Str → Option Value) (base : Heap) (LT : Nat → Option Lm) (j : Nat) (fX : Nat → En → Option (D × En)) : Prop where
  ok : ∀ k L, LT k = some L → LmOk L
  body : ∀ k L, LT k = some L → ∀ (p : Addr) (A : Around) (outer : List Env) (s : Shared) (H : Hp) (E : XK) (f c' : Addr) (cl : List (Str × Addr)), Ct (cloCx P w K mg base L A outer s H E f c' cl) (fun cls d _ H' => E cls d H') j →
    SX (Γ.at p) (cloCx P w K mg base L A outer s H E f c' cl) L.body (fX k)
def spClo (Γ : Gam) (K : PySem.W.Frag) (LT : Nat → Option Lm) (fX : Nat → En → Option (D × En)) (f : Addr) (H : Hp) (Q : VK) : Prop := ∃ G k pre p pe pl v us ws st es ls, Same G H ∧ TabsOk G H ∧ Rp Γ K G (.ref f) (.op (2 * k + 10) (pre ++ [.op 5 [.int (p : Addr)]])) ∧ G p = none ∧ G pe = none ∧ G pl = none ∧ ObjX H p pe pl v us ws ∧ Rp Γ K G v st ∧ RpA Γ K G us es ∧ RpA Γ K G ws ls ∧ PostO Γ K G H p pe pl Q (cloX fX k pre st es ls)
theorem RpA.snoc_inv {Γ : Gam} {K : PySem.W.Frag} {G : Hp} : ∀ {vs : List V} {ds : List D} {d : D}, RpA Γ K G vs (ds ++ [d]) → ∃ ws u, vs = ws ++ [u] ∧ RpA Γ K G ws ds ∧ Rp Γ K G u d
  | _, [], d, h => by
    have h' : RpA Γ K G _ [d] := h
    obtain ⟨v, hv, h2⟩ := RpA.inv1 h'
    exact ⟨[], v, hv, .nil, h2⟩
  | _, e :: ds, d, h => by
    cases h with
    | cons a r =>
      obtain ⟨ws, u, rfl, h1, h2⟩ := RpA.snoc_inv r
      exact ⟨_ :: ws, u, rfl, .cons a h1, h2⟩
theorem dataDs_cap : ∀ {ds : List D}, dataDs ds = true → capDs ds = true
  | [], _ => rfl
  | d :: ds, h => by
    have h' := (show _ ∧ _ by simpa [dataDs] using h)
    rw [capDs, dataDs_cap h'.2, Bool.and_true]
    cases d <;> first | rfl | (simpa [dataD, capD] using h'.1)
section
variable {Γ : Gam} {X : Cx} {W : WX} {LT : Nat → Option Lm} {fX : Nat → En → Option (D × En)} {j : Nat} {p1 p2 : Pos}
theorem pe_cloX (i : Nat) {x : Str} {Ca : Nat → Addr} (C : Ct X W (j + 1)) (gO : GamOk Γ X.prog X.w Ca) (hC : CloG Γ LT) (LB : LamO Γ X.prog X.w X.K X.mg X.base LT j fX) (hN : X.N[i]? = some x := by rfl) (hv : Vis X.env.scope x := by first | exact Or.inl rfl | exact Or.inr (Or.inl rfl) | exact Or.inr (Or.inr rfl))
    (hd : (x == ("__debug__" : Str)) = false := by decide) (hcd : (x == ("__classdict__" : Str)) = false := by decide) :
    PE X (.Call (.Name x p1) [] [] p2) (fun σ H Q => ∃ f : Addr, σ[i]? = some (some (.ref f)) ∧ spClo Γ X.K LT fX f H Q) := ⟨fun pins s σ H Q I hh => by
  obtain ⟨f, hσ, G, k, pre, p, pe, pl, v, us0, ws0, sd, es, ls, sGH, tab, rf, gp, ge, gl, ob, rvs, res, rls, post⟩ := hh
  unfold cloX at post
  by_cases hall : ((dataDs pre && dataD sd) && (dataDs es && dataDs ls)) = true
  case neg => rw [if_neg hall] at post; exact post.elim
  rw [if_pos hall] at post
  obtain ⟨⟨hdp, hds⟩, hde, hdl⟩ : (dataDs pre = true ∧ dataD sd = true) ∧ dataDs es = true ∧ dataDs ls = true := by simpa using hall
  cases rf with
  | op hO hA =>
  rename_i vs
  obtain ⟨vpre, u, rfl, hpre, hu⟩ := RpA.snoc_inv hA
  have eu : u = .ref p := by
    cases hu with
    | op hO5 hA5 =>
      obtain ⟨w, rfl, hw⟩ := RpA.inv1 hA5
      cases hw
      obtain ⟨p', h1, h2⟩ := (gO.hdl _ _ _ _).mp hO5
      have h3 : (p : Int) = (p' : Int) := V.int.inj (List.cons.inj h2).1
      have h4 : p = p' := Int.ofNat.inj h3
      rw [h1, h4]
  subst eu
  obtain ⟨L, f', hL, hf', c', pm, ctv, cl, cs, us, cG, rvs0⟩ := (hC _ _ _ _ _).mp hO
  cases hf'
  have kG := cG.csOk
  have kH : CsOk H cs := fun c hc => let ⟨o, v, e1, e2⟩ := kG c hc; ⟨o, v, sGH _ _ e1, e2⟩
  have cH : CloC H L f c' pm ctv cl cs us := ⟨sGH _ _ cG.obj, sGH _ _ cG.code, cG.len, cG.to, cG.of, cG.inj, fun i c u a b => let ⟨o, e1, e2⟩ := cG.cell i c u a b; ⟨o, sGH _ _ e1, e2⟩⟩
  have lok := LB.ok k L hL
  refine wpAny_Call_Name_kw (thn ((pe_var (pos := p1) (i := i) hN hv hd hcd).run pins s σ H (fun v' H1 => v' = .ref f ∧ H1 = H) I ⟨.ref f, hσ, rfl, rfl⟩) fun u s1 hu => ?_)
  obtain ⟨v', H1, I1, r1, ev, eH⟩ := hu
  subst ev
  rw [eH] at I1
  obtain rfl : u = Value.ref f := r1
  have of1 : s1.heap.get? f = some (lamObj L cl pm c' ctv) := (show (s1.heap.get? f = some (lamObj L cl pm c' ctv)) ∧ _ from I1.hok f _ cH.obj).1
  have hs1 : ∀ c ∈ cs, ∀ o, H c = some (dO c o) → s1.heap.get? c = some o := fun c _ o e => (show (s1.heap.get? c = some o) ∧ _ from I1.hok c _ e).1
  have hfr : ∀ c ∈ cs, c ∉ frs X.stack := fun c hc z => by
    obtain ⟨o, v, e1, _⟩ := kH c hc
    have := I1.env0.frf c z
    rw [e1] at this
    cases this
  refine PySem.W.callWith_F0 ⟨_, _, _, _, of1⟩ ?_
  obtain ⟨⟨oc, vc, t, hoc, hdc, hvc⟩, _, _⟩ := I1.hok c' _ cH.code
  have rc : codeAny (model X.prog X.w) X.A (.call (.ref f) ⟨[], []⟩) (CR (L2.CX X.prog X.w) X.stack X.prog X.w H s1 Q (WE W σ)) s1 := by
    refine PySem.W.kla_callFunE C.hr.depth of1 rfl lok.co lok.gen rfl ⟨c', oc, vc, t, rfl, hoc, hdc, hvc⟩ ?_
    rw [lok.bind]
    refine wpAny_pure (wpAny_newFunctionEnv (fun y hy => (lok.own y hy).2) (fun y hy => absurd hy (by simp)) (fun h₁ hns hsb => ⟨I1.nolimit.fresh _ hsb, ?_⟩) lok.kind)
    show codeAny _ _ (.expr L.body (cloEnv L s1 f c' cl)) _ _
    have kp : ∀ b o, s1.heap.get? b = some o → h₁.get? b = some o := fun b o e => hsb.extBut b o (Nat.ne_of_lt (Heap.lt_size e)) (Heap.get?_push_of_some _ e)
    let Em : XK := fun cls d H'' => (∀ c ∈ cs, H'' c = none) → W cls d σ (readd H H'' cs)
    let Qm : VK := fun v H'' => (∀ c ∈ cs, H'' c = none) → Q v (readd H H'' cs)
    have J : Inv (cloCx X.prog X.w X.K X.mg X.base L X.A X.stack s1 (rmv H cs) Em f c' cl) [] ((vpre ++ [V.ref p]).map some) (rmv H cs) { s1 with heap := h₁, toks := s1.toks + ([] : List (Str × Value)).length } := clo_start lok cH rvs0 I1.env0 C.hr.hd hns kp
    have hlen : (vpre ++ [V.ref p]).length = L.caps.length := by rw [rvs0.length]; exact cH.len.2
    have hlp : vpre.length + 1 = L.caps.length := by simpa using hlen
    have rA : RpA Γ X.K (rmv G cs) vpre pre := RpA.convC gO gO (keeps_rmv kG) hpre (dataDs_cap hdp)
    -- the instance without the cells
    have out : ∀ {b : Addr} {y : HO}, H b = some y → (∀ o, y ≠ dO b o) → b ∉ cs := fun e h => kH.not e h
    obtain ⟨⟨Cw, dx, w1, w2⟩, o2, o3, o4⟩ := id ob
    have np : p ∉ cs := out w2 (fun _ z => nomatch z)
    have ne : pe ∉ cs := out o2 (fun _ z => nomatch z)
    have nl : pl ∉ cs := out o3 (fun _ z => nomatch z)
    have obc : ObjX (rmv H cs) p pe pl v us0 ws0 := ⟨⟨Cw, dx, w1, by rw [rmv_out np]; exact w2⟩, by rw [rmv_out ne]; exact o2, by rw [rmv_out nl]; exact o3, o4⟩
    have gz : ∀ {b : Addr}, G b = none → rmv G cs b = none := fun {b} h => by
      by_cases hb : b ∈ cs
      · exact rmv_in hb
      · rw [rmv_out hb]; exact h
    have sc : Same (rmv G cs) (rmv H cs) := same_rmv sGH kG
    have sm2 : Same (rmv G cs) (rm3 (rmv H cs) p pe pl) := fun b y e => by
      rw [rm3_out fun z => ?_]
      · exact sc _ _ e
      · rcases z with rfl | rfl | rfl
        · rw [gz gp] at e; cases e
        · rw [gz ge] at e; cases e
        · rw [gz gl] at e; cases e
    have tbc : TabsOk (rmv G cs) (rmv H cs) := tab.rmv kG sGH
    have r0 := start_rel (N := L.caps) sm2 (rm3_tabs obc tbc) (RpA.append (RpA.toAt (p := p) rA) (RpA.one Rp.non))
    have e0 : ExtF (fun _ => False) (rmv G cs) (rm3 (rmv H cs) p pe pl) (rmv G cs) (rmv H cs) := ⟨.refl _, sc, fun b o _ h1 h2 _ => ⟨(rm3_some h1).1, h2⟩, fun b _ hb => by
      by_cases hb' : F3 p pe pl b
      · exact rm3_in hb'
      · rw [rm3_out hb']; exact hb, fun t => t.ext fun b y h => (rm3_some h).1⟩
    have r1 := r0.putObj (i := pre.length) (tg := true) e0 (fun _ z => z.elim) ⟨.inr (rm3_in (.inl rfl)), gz gp⟩ ⟨.inr (rm3_in (.inr (.inl rfl))), gz ge⟩ ⟨.inr (rm3_in (.inr (.inr rfl))), gz gl⟩ (fun _ => rfl) obc (Rp.toAt (Rp.conv rfl rfl (keeps_rmv kG) rvs hds)) (RpA.toAt (RpA.conv rfl rfl (keeps_rmv kG) res hde)) (RpA.toAt (RpA.conv rfl rfl (keeps_rmv kG) rls hdl))
    have lp : vpre.length = pre.length := hpre.length
    have eσ : (L2.start L.caps (vpre ++ [V.non])).set pre.length (some (.ref p)) = (vpre ++ [V.ref p]).map some := by
      unfold L2.start
      rw [show L.caps.length - (vpre ++ [V.non]).length = 0 by simp; omega, List.replicate_zero, List.append_nil, List.map_append, ← lp, List.set_append_right _ _ (by simp)]
      simp
    have eρ : ((pre ++ [D.non]).map (fun d => some (SV.val d)) ++ List.replicate (L.caps.length - (pre ++ [D.non]).length) none).set pre.length (some (.obj true sd es ls)) = pre.map (fun d => some (.val d)) ++ [some (.obj true sd es ls)] := by
      rw [show L.caps.length - (pre ++ [D.non]).length = 0 by simp; omega, List.replicate_zero, List.append_nil, List.map_append, List.set_append_right _ _ (by simp)]
      simp
    rw [eσ, eρ] at r1
    have ct : Ct (cloCx X.prog X.w X.K X.mg X.base L X.A X.stack s1 (rmv H cs) Em f c' cl) (fun cls d _ H' => Em cls d H') j := ⟨takes_of rfl rfl rfl rfl, passes_of rfl, rfl, lok.nd, C.hr.deeper _⟩
    obtain ⟨tb, pb, qb⟩ := LB.body k L hL p X.A X.stack s1 (rmv H cs) Em f c' cl ct
    have px : PostX (Γ.at p) X.K (rmv G cs, rm3 (rmv H cs) p pe pl) (rmv G cs) ((vpre ++ [V.ref p]).map some) Qm (fX k (pre.map (fun d => some (.val d)) ++ [some (.obj true sd es ls)])) := by
      cases hf : fX k (pre.map (fun d => some (.val d)) ++ [some (.obj true sd es ls)]) with
      | none => rw [hf] at post; exact post
      | some z =>
        obtain ⟨d, ρ'⟩ := z
        rw [hf] at post
        replace post : PostO Γ X.K G H p pe pl Q (finX pre.length d ρ') := post
        intro G' H' u sG' r' ru hn
        unfold finX at post
        split at post
        case h_2 => exact post.elim
        rename_i st' es' ls' hi
        obtain ⟨p0, pe0, pl0, v0, us1, ws1, y1, y2, y3, y4, y5, y6, y7, y8, y9⟩ := r'.obj hi
        have e : p = p0 := Option.some.inj (y2 rfl)
        subst e
        have gn : ∀ c ∈ cs, G' c = none := fun c hc => r'.same.none (hn c hc)
        have inH : ∀ {b : Addr} {y : HO}, H' b = some y → b ∉ cs := fun e z => by rw [hn _ z] at e; cases e
        obtain ⟨⟨Cw', dx', x1, x2⟩, x3, x4, x5⟩ := y6
        have mp := inH x2
        have me := inH x3
        have ml := inH x4
        have bk : ∀ {b : Addr}, b ∉ cs → rm3 (rmv H cs) p pe pl b = none → F3 p pe pl b ∨ H b = none := fun {b} n h => by
          rcases rm3_none h with h | h
          · exact .inl h
          · rw [rmv_out n] at h; exact .inr h
        refine post (readd G G' cs) (readd H H' cs) u pe0 pl0 v0 us1 ws1 ⟨fun b x h => ?_, fun b x h => ?_, fun b o n h1 h2 h3 => ?_, fun b n h => ?_, fun t => ?_⟩ (by rw [readd_out mp]; exact y3.2) ⟨bk me y4.1, by rw [readd_out me]; exact y4.2⟩ ⟨bk ml y5.1, by rw [readd_out ml]; exact y5.2⟩ ⟨⟨Cw', dx', x1, by rw [readd_out mp]; exact x2⟩, by rw [readd_out me]; exact x3, by rw [readd_out ml]; exact x4, x5⟩ (y7.ofAt.mono (same_readd gn)) (y8.ofAt.mono (same_readd gn)) (y9.ofAt.mono (same_readd gn)) (ru.ofAt.mono (same_readd gn))
        · by_cases hb : b ∈ cs
          · rw [readd_in hb]; exact h
          · rw [readd_out hb]; exact sG' b x (by rw [rmv_out hb]; exact h)
        · by_cases hb : b ∈ cs
          · rw [readd_in hb] at h ⊢; exact sGH _ _ h
          · rw [readd_out hb] at h ⊢; exact r'.same _ _ h
        · have hb : b ∉ cs := fun z => by
            obtain ⟨o, v, e1, _⟩ := kG b z
            rw [e1] at h2; cases h2
          rw [readd_out hb, readd_out hb]
          exact r'.ext.k b o (by show rm3 (rmv H cs) p pe pl b = some o; rw [rm3_out n, rmv_out hb]; exact h1) (gz h2) h3
        · by_cases hb : b ∈ cs
          · rw [readd_in hb] at h; exact h
          · rw [readd_out hb] at h
            have z : rm3 (rmv H cs) p pe pl b = none := r'.ext.d b h
            rw [rm3_out n, rmv_out hb] at z
            exact z
        · exact (r'.ext.t (rm3_tabs obc (t.rmv kG sGH))).readd hn r'.same t.1
    refine PySem.W.kla_codeExpr (wpAny_mono (pb.run [] _ _ (rmv H cs) Qm J (qb r1 px)) (fun v s' hq => ?_) fun e s' hq => ?_)
    · obtain ⟨w', H2, J2, rv, q⟩ := hq
      obtain ⟨a1, a2, a3⟩ := readd_un kH hs1 hfr J2.base
      exact ⟨w', readd H H2 cs, J2.os, J2.bare, a3, readd_hok kH a1 a2 J2.hok, rv, q a1⟩
    · exact wpAny_mono hq (fun _ s'' z => cx_readd kH hs1 hfr z fun cls d H' hn z => z hn) fun e'' s'' z => cx_readd kH hs1 hfr z fun cls d H' hn z => z hn
  refine wpAny_call (codeAny_mono rc fun r s' hq => ?_)
  cases r with
  | error e => exact pass_here C I1 hq
  | ok fl =>
    cases fl with
    | ret u => exact I1.after hq
    | next => exact False.elim hq
    | brk => exact False.elim hq
    | cont => exact False.elim hq⟩
end
end VL
end
section
set_option Elab.async false
set_option linter.all false
set_option maxRecDepth 100000
set_option maxHeartbeats 4000000
set_option autoImplicit false
/-! A def that calls a closure within a try; the test that changes an instance through it. -/
namespace VL
open PySem PySem.Spec PyProof.Rows L2
variable [TabN]
def spR (Γ : Gam) (K : PySem.W.Frag) (LT : Nat → Option Lm) (fX : Nat → En → Option (D × En)) : Sp := fun vs H Q _ => ∃ f : Addr, vs = [.ref f] ∧ spClo Γ K LT fX f H Q
section
variable {Γ : Gam} {P : Program} {w : World} {K : PySem.W.Frag} {mg : Str → Option Value} {base : Heap} {x qual n y z : Str} {st b0 : Stmt} {suite : List Stmt} {f : Addr} {fd : FuncData} {k : Nat} {LT : Nat → Option Lm} {fX : Nat → En → Option (D × En)} {Ca : Nat → Addr} {a1 a2 a3 b1 b2 b3 : Pos} {Cc : Value}
theorem fn_resX (F : Fun K z qual st f fd) (S : FnScope [y, n] [y] (defScope st)) (gO : GamOk Γ P w Ca) (hC : CloG Γ LT) (LB : LamO Γ P w K mg base LT k fX)
    (hbody : defBody st = [.Try [.Return (some (.Call (.Name y a1) [] [] a2)) a3] [.ExceptHandler (some (.Name x b1)) (some n) (b0 :: suite) b2] [] [] b3])
    (hc : ∀ (cdv : Value) (A : Around) (outer : List Env) (s : Shared) (H : Hp) (EE : XK), Names (cxOf (L2.CX P w) P w K mg base [y, n] qual (defScope st) f cdv A outer s H EE) x Cc)
    (hl1 : (defScope st).names.lookup y = some .local) (hl2 : ∀ (cdv : Value) (A : Around) (outer : List Env) (s : Shared) (H : Hp) (EE : XK), (cxOf (L2.CX P w) P w K mg base [y, n] qual (defScope st) f cdv A outer s H EE).env.kindOf n = some .local)
    (hd : (y == ("__debug__" : Str)) = false := by decide) (hcd : (y == ("__classdict__" : Str)) = false := by decide) :
    FnOk P w K mg base (L2.CX P w) (k + 2) f fd [y] (spR Γ K LT fX) := by
  refine F.okX S (fun vs H Q E h => ?_) (fun cdv A outer s H vs Q EE hr h => ?_)
  · obtain ⟨f, rfl, _⟩ := h
    rfl
  · obtain ⟨fa, rfl, h⟩ := h
    rw [hbody]
    have tk : Takes (cxOf (L2.CX P w) P w K mg base [y, n] qual (defScope st) f cdv A outer s H EE) (fun cls d _ H' => EE cls d H') := takes_of rfl rfl rfl rfl
    refine ⟨_, pss_one (ps_try_as (i := 1) (tb := fun _ E σ H => ∃ f : Addr, σ[0]? = some (some (.ref f)) ∧ spClo Γ K LT fX f H E.rt) (ts := fun _ _ _ => tNever) rfl rfl S.nd rfl (hl2 cdv A outer s H EE) (hc cdv A outer s H EE) tk (fun W pn xe tk2 hp => ?_) (fun _ _ _ _ _ _ _ => pss_never)), ?_⟩
    · have C2 : Ct ((cxOf (L2.CX P w) P w K mg base [y, n] qual (defScope st) f cdv A outer s H EE).tr pn xe) W (k + 1) := ⟨tk2, hp, rfl, S.nd, hr⟩
      exact pss_one (PS.imp (ps_ret (pe_cloX (X := (cxOf (L2.CX P w) P w K mg base [y, n] qual (defScope st) f cdv A outer s H EE).tr pn xe) 0 C2 gO hC LB rfl (.inl hl1) hd hcd)) fun E σ H h => h)
    · exact ⟨fa, rfl, h⟩
end
/-- two ways to see a statement -/
def orS (f g : En → RS) (ρ : En) : RS := match f ρ with
  | .stuck => g ρ
  | x => x
section
variable {Γ : Gam} {X : Cx} {W : WX} {a b c e : Expr} {es : List Expr} {fa fb fc : En → R D} {pos p : Pos} {j : Nat} {st : Stmt} {f g : En → RS}
theorem ss_or (h1 : SS Γ X W st f) (h2 : SS Γ X W st g) : SS Γ X W st (orS f g) := ⟨fun pins s σ H E I hh => by
  obtain ⟨B, G, ρ, r, q⟩ := hh
  unfold orS at q
  cases hf : f ρ with
  | stuck => rw [hf] at q; exact h2.run pins s σ H E I ⟨B, G, ρ, r, q⟩
  | next ρ' => rw [hf] at q; exact h1.run pins s σ H E I ⟨B, G, ρ, r, by rw [hf]; exact q⟩
  | ret d => rw [hf] at q; exact h1.run pins s σ H E I ⟨B, G, ρ, r, by rw [hf]; exact q⟩
  | retE d ρ' => rw [hf] at q; exact h1.run pins s σ H E I ⟨B, G, ρ, r, by rw [hf]; exact q⟩
  | retO d ρ' => rw [hf] at q; exact h1.run pins s σ H E I ⟨B, G, ρ, r, by rw [hf]; exact q⟩
  | brk ρ' => rw [hf] at q; exact h1.run pins s σ H E I ⟨B, G, ρ, r, by rw [hf]; exact q⟩
  | cont ρ' => rw [hf] at q; exact h1.run pins s σ H E I ⟨B, G, ρ, r, by rw [hf]; exact q⟩
  | exc c ρ' => rw [hf] at q; exact h1.run pins s σ H E I ⟨B, G, ρ, r, by rw [hf]; exact q⟩⟩
/-- x, y, z = a new instance, e, e -/
def par3N (i k l : Nat) (f : En → R (D × List D × List D)) (fb fc : En → R D) (ρ : En) : RS := thenS (f ρ) ρ fun z => thenS (fb ρ) ρ fun d => thenS (fc ρ) ρ fun e => .next (((ρ.set i (some (.obj false z.1 z.2.1 z.2.2))).set k (some (.val d))).set l (some (.val e)))
theorem ss_par3N (i k l : Nat) {x y z : Str} {px py pz pt : Pos} {kt k2 pt2} {fn : En → R (D × List D × List D)} (C : Ct X W j) (ha : SN Γ X W a fn) (hb : SE Γ X W b fb) (hc : SE Γ X W c fc) (hik : i ≠ k := by decide) (hil : i ≠ l := by decide) (hkl : k ≠ l := by decide) (hi : X.N[i]? = some x := by rfl) (hk : X.N[k]? = some y := by rfl) (hl : X.N[l]? = some z := by rfl)
    (hx : X.env.scope.names.lookup x = some .local := by rfl) (hy : X.env.scope.names.lookup y = some .local := by rfl) (hz : X.env.scope.names.lookup z = some .local := by rfl)
    (h1 : starEach [a, b, c] X.env = (false, eval a X.env) :: starEach [b, c] X.env := by rfl) (h2 : starEach [b, c] X.env = (false, eval b X.env) :: starEach [c] X.env := by rfl) (h3 : starEach [c] X.env = (false, eval c X.env) :: starEach [] X.env := by rfl)
    (hw : swappedStores [.Tuple [.Name x px, .Name y py, .Name z pz] kt pt] (.Tuple [a, b, c] k2 pt2) X.env = pure (some [x, y, z]) := by rfl)
    (hs : swapsWithSole [.Tuple [.Name x px, .Name y py, .Name z pz] kt pt] (.Tuple [a, b, c] k2 pt2) pos.line X.env = pure false := by rfl) :
    SS Γ X W (.Assign [.Tuple [.Name x px, .Name y py, .Name z pz] kt pt] (.Tuple [a, b, c] k2 pt2) pos) (par3N i k l fn fb fc) := by
  obtain ⟨ta, pa, qa⟩ := ha
  obtain ⟨tb, pb, qb⟩ := hb.out
  obtain ⟨tc, pc, qc⟩ := hc.out
  refine PS.imp (ps_par3 C.calm C.nd hi hk hl hik hil hkl hx hy hz (pa_cons pa (pa_cons pb (pa_cons pc pa_nil h3) h2) h1) hw hs) fun E σ H hh => ?_
  obtain ⟨B, G, ρ, r, p⟩ := hh
  refine qa r ?_
  unfold par3N at p
  cases hfl : fn ρ with
  | exc c => rw [hfl] at p; exact fun G1 H1 e1 => p G1 H1 σ e1.g (r.go e1)
  | stuck => rw [hfl] at p; exact p
  | ok z =>
    obtain ⟨sd, es, ls⟩ := z
    rw [hfl] at p
    replace p : PostS Γ X.K W B G E (thenS (fb ρ) ρ fun d => thenS (fc ρ) ρ fun e => .next (((ρ.set i (some (.obj false sd es ls))).set k (some (.val d))).set l (some (.val e)))) := p
    intro G1 H1 q qe ql v us ws e1 g1 g2 g3 ob rv re rl
    have r1 := r.go e1
    refine qb r1 (PostS.use r1 (PostS.up p e1.g) fun G2 H2 v2 d2 e2 r2 rv2 p2 => ?_)
    refine qc r2 (PostS.use r2 p2 fun G3 H3 v3 d3 e3 r3 rv3 p3 => ?_)
    obtain ⟨ob2, o1, o2, o3⟩ := ob.ext (e2.trans e3) g1.2 g2.2 g3.2
    have e23 := e2.trans e3
    refine ⟨_, _, _, rfl, p3 _ _ _ (.refl _) (((r.newObj (e1.trans e23) ⟨g1.1, o1⟩ ⟨g2.1, o2⟩ ⟨g3.1, o3⟩ ob2 (rv.mono e23.g) (re.mono e23.g) (rl.mono e23.g)).set (rv2.mono e3.g)).set rv3)⟩
/-- if c1 and f(arg) != d: .., where arg is a closure that changes the instance in slot i -/
def effS (i : Nat) (sel : En → Option (Nat × List D)) (fX : Nat → En → Option (D × En)) (f1 : En → R Bool) (fd : En → R D) (g : En → RS) (ρ : En) : RS := objS i ρ fun tg st es ls => match f1 ρ, sel ρ with
  | .ok true, some (k, pre) => (match cloX fX k pre st es ls with
    | some (d, st', es', ls') => thenS ((fd (ρ.set i (some (.obj tg st' es' ls')))).bind fun e => (neO d e).bind asB) (ρ.set i (some (.obj tg st' es' ls'))) fun b => if b then g (ρ.set i (some (.obj tg st' es' ls'))) else .next (ρ.set i (some (.obj tg st' es' ls')))
    | none => .stuck)
  | _, _ => .stuck
/-- a def with a promise of its own -/
structure CalS (P : Program) (w : World) (K : PySem.W.Frag) (mg : Str → Option Value) (base : Heap) (x : Str) (k : Nat) (ps : List Str) (sp : Sp) : Prop where
  ex : ∃ f fd, FnOk P w K mg base (L2.CX P w) k f fd ps sp ∧ mg x = some (.ref f) ∧ PySem.W.keepIn K (.ref f) = true ∧ Binds K fd ps []
theorem ss_eff (i : Nat) (sel : En → Option (Nat × List D)) {Ca : Nat → Addr} {LT : Nat → Option Lm} {fX : Nat → En → Option (D × En)} {c1 arg due : Expr} {f1 : En → R Bool} {fd : En → R D} {x : Str} {k : Nat} {ps : List Str} {body : List Stmt} {q1 q2 q3 q4 : Pos} (C : Ct X W j) (gO : GamOk Γ X.prog X.w Ca) (hC : CloG Γ LT) (F : CalS X.prog X.w X.K X.mg X.base x k ps (spR Γ X.K LT fX)) (hg : Gl X x)
    (h1 : ST Γ X W c1 f1) (ha : SE Γ X W arg fa) (hd : SE Γ X W due fd) (hb : SSs Γ X W body g)
    (hsel : ∀ (ρ : En) (p : Addr) (k : Nat) (pre : List D), sel ρ = some (k, pre) → i < ρ.length → fa (ρ.set i (some (.val (.op 5 [.int p])))) = .ok (.op (2 * k + 10) (pre ++ [.op 5 [.int p]])))
    (hk : k ≤ j := by decide) (hdb : (x == ("__debug__" : Str)) = false := by decide) (he : starEach [arg] X.env = (false, eval arg X.env) :: starEach [] X.env := by rfl) (hpl : (backTo q2 (starEach [] X.env)).any (·.1) = false := by rfl) (hm : behindInMarks .NotEq due = false := by first | exact nomark _ | rfl) :
    SS Γ X W (.If (.BoolOp .And [c1, .Compare (.Call (.Name x q1) [arg] [] q2) [.NotEq] [due] q3] q4) body [] pos) (effS i sel fX f1 fd g) := by
  obtain ⟨t1, p1, u1⟩ := h1.out
  obtain ⟨ta, pa, ua⟩ := ha.out
  obtain ⟨td, pd, ud⟩ := hd.out
  obtain ⟨f, fdd, F1, F2, F3, F4⟩ := F.ex
  refine PS.imp (ps_if (pw_and p1 (pw_and1 (pt_cmpR (op_neD C.u64) (pe_callS (E := WE W) F1 (C.hr.mono hk) hg F2 F3 F4 (fun σ => passAt C.tk σ) (pa_cons pa pa_nil he) hdb he hpl) pd hm))).pt hb pss_nil) fun E σ H hh => ?_
  obtain ⟨B, G, ρ, r, p⟩ := hh
  obtain ⟨tg, sd, es, ls, q, qe, ql, v, us, ws, x, p0⟩ := objS_use r p
  cases hf1 : f1 ρ with
  | exc c => rw [hf1] at p0; exact p0.elim
  | stuck => rw [hf1] at p0; exact p0.elim
  | ok b1 =>
  cases b1 with
  | false => rw [hf1] at p0; exact p0.elim
  | true =>
  cases hs : sel ρ with
  | none => rw [hf1, hs] at p0; exact p0.elim
  | some kp =>
  obtain ⟨k', pre⟩ := kp
  rw [hf1, hs] at p0
  dsimp only at p0
  refine u1 r ?_
  rw [hf1]
  intro G1 H1 b1 e1 hb1
  have hb1 : b1 = true := hb1
  subst hb1
  refine iteT ?_
  have r1 := r.go e1
  have x1 := x.go e1
  have hil : i < ρ.length := (List.getElem?_eq_some_iff.mp x.hi).1
  have rh : Rel Γ X.K B G1 H1 σ (ρ.set i (some (.val (.op 5 [.int q])))) := by
    have z := r1.set (i := i) (v := .ref q) (d := .op 5 [.int q]) (.op (vs := [.int q]) ((gO.hdl _ _ _ _).mpr ⟨q, rfl, rfl⟩) (.one (.int _)))
    rw [set_same x.hσ] at z
    exact z
  refine ua rh ?_
  rw [hsel ρ q k' pre hs hil]
  intro G2 H2 u e2 ru
  have r2 := r1.go e2
  have y := x1.go e2
  cases hm : cloX fX k' pre sd es ls with
  | none => rw [hm] at p0; exact p0.elim
  | some z =>
  obtain ⟨d, st', es', ls'⟩ := z
  rw [hm] at p0
  dsimp only at p0
  obtain ⟨fa', rfl⟩ : ∃ f, u = .ref f := by
    cases ru with
    | op hO hA =>
      obtain ⟨L, f', _, h2, _⟩ := (hC _ _ _ _ _).mp hO
      exact ⟨f', h2⟩
  refine ⟨fa', rfl, G2, k', pre, q, qe, ql, v, us, ws, sd, es, ls, e2.s, r2.tab, ru, y.gp, y.ge, y.gl, y.ob, y.rv, y.re, y.rl, ?_⟩
  rw [hm]
  intro G' H' w pe' pl' v' us' ws' eF g1 g2 g3 ob' rv' re' rl' rw'
  have r' := r2.chg y eF g1 g2 g3 ob' rv' re' rl'
  have p1' := PostS.up p0 ((e1.g.trans e2.g).trans eF.g)
  have pz := PostS.use (rel := relB) (Q := fun b Hz => if b = true then tS Γ X.K W g E σ Hz else E.nx σ Hz) r' p1' fun Gz Hz b b' ez rz rb pz => by
    have rb : b = b' := rb
    subst rb
    cases b with
    | true => exact iteT ⟨B, Gz, _, rz, pz⟩
    | false => exact iteF (pz _ _ _ (.refl _) rz)
  have p2 : Post Γ W G' H' σ (Rp Γ X.K) (fun z Hz => ∃ k, z = .bl k ∧ if k = true then tS Γ X.K W g E σ Hz else E.nx σ Hz) ((fd (ρ.set i (some (.obj tg st' es' ls')))).bind fun e => neO d e) := by
    have pz2 : Post Γ W G' H' σ relB (fun b Hz => if b = true then tS Γ X.K W g E σ Hz else E.nx σ Hz) (((fd (ρ.set i (some (.obj tg st' es' ls')))).bind fun e => neO d e).bind asB) := by
      cases hfd : fd (ρ.set i (some (.obj tg st' es' ls'))) with
      | exc c => rw [hfd] at pz; exact pz
      | stuck => rw [hfd] at pz; exact pz
      | ok e => rw [hfd] at pz; exact pz
    exact pz2.bind fun Ga Ha va da ea ra pa => asB_ok ea.s ra pa
  refine ud r' (p2.bind fun Ga Ha va da ea ra pa => ?_)
  exact osNe ea.s (rw'.mono ea.g) ra pa
end
end VL
end
section
set_option Elab.async false
set_option linter.all false
set_option maxRecDepth 100000
set_option maxHeartbeats 4000000
set_option autoImplicit false
/-! ==, !=, len, isinstance of instances, by the class's own methods. -/
namespace VL
open PySem PySem.Spec PyProof.Rows L2
variable [TabN]
abbrev E0 : XK := fun _ _ _ => False
theorem cx0 {P : Program} {w : World} {outer : List Env} {H : Hp} {s s' : Shared} {u : Value} (h : L2.CX P w outer H s E0 u s') : False := by
  obtain ⟨a, B, H', cls, d, rfl, fl, hok, ub, na, os, ag, hE'⟩ := h
  exact hE'
section
variable {Γ : Gam} {X : Cx} {W : WX} {a b c e : Expr} {es : List Expr} {fa fb fc : En → R D} {pos p p2 : Pos} {j k : Nat}
theorem run_in {A : Around} {pins : List (Addr × Obj)} {σ : L2.St} {H : Hp} {s : Shared} {f : Addr} {fd : FuncData} {ps : List Str} {sp : Sp} {us : List Value} {vs : List V} {Q : VK} (sb : L2.Sub X k A) (F : FnOk X.prog X.w X.K X.mg X.base (L2.CX X.prog X.w) k f fd ps sp) (hb : Binds X.K fd ps []) (I : Inv X pins σ H s) (r : Vals vs us) (hsp : sp vs H Q E0) :
    wpAny (model X.prog X.w) A (call (.ref f) us) (fun v s' => ∃ z H', Inv X pins σ H' s' ∧ RelV z v ∧ Q z H') X.xe s := by
  have e0 : Env0 X.prog X.w X.K X.mg X.base A X.stack s H := by
    have e := I.env0
    exact ⟨by rw [sb.fr]; exact e.frames, e.mod, e.bs, e.bsz, e.funs, e.frf, e.hok, e.bare⟩
  have hl := F.len _ _ _ _ hsp
  refine wpAny_call (codeAny_mono (F.run A X.stack s H ⟨us, []⟩ us vs _ E0 sb.room e0 (by
    have := hb s us I.kIn (by simp [← r.length, hl])
    simpa using this) r hsp) fun r s' hq => ?_)
  cases r with
  | error e => exact (cx0 hq).elim
  | ok fl =>
    cases fl with
    | ret w =>
      obtain ⟨z, H', I', rz, ez⟩ := I.after hq
      exact ⟨z, H', I', rz, ez⟩
    | next => exact False.elim hq
    | brk => exact False.elim hq
    | cont => exact False.elim hq
/-- the class, as it is asked of by isinstance and the operators -/
structure WCls (K : PySem.W.Frag) (mg : Str → Option Value) (nm : Str) : Prop where
  ex : ∃ C, TabN.wc = some C ∧ mg nm = some (.ref C) ∧ Cls K C ∧ PySem.W.findIn K (.ref C) "__class__" = some (some (.builtin "object.__class__")) ∧ PySem.W.specialIn K (.builtin "object.__class__") "__get__" = some (some (.builtin "getset_descriptor.__get__")) ∧ PySem.W.takesIn K (.builtin "object.__class__") = some true ∧ PySem.W.mroIn K C (.type "object") = some true ∧
    PySem.W.kitOne K (.type "tuple") (.ref C) = some false ∧ PySem.W.findIn K (.ref C) "__ne__" = some (some (.builtin "object.__ne__")) ∧ PySem.W.subIn K (.type "tuple") (.ref C) = some false
def isW : D → R D
  | .op n _ => if n = 3 then .ok (.bl true) else .stuck
  | .tup _ => .ok (.bl false)
  | _ => .stuck
/-- isinstance(e, C) -/
theorem se_isW {x y : Str} {Ca : Nat → Addr} (gO : GamOk Γ X.prog X.w Ca) (Z : WCls X.K X.mg y) (ha : SE Γ X W a fa) (hx : bootBuiltins x = some (.builtin "isinstance")) (hg : Gl X x) (hm : X.mg x = none) (hgT : Gl X y)
    (hn : x ≠ "__name__" := by decide) (hdb : (x == ("__debug__" : Str)) = false := by decide) (hdT : (y == ("__debug__" : Str)) = false := by decide)
    (he : starEach [a, .Name y p2] X.env = (false, eval a X.env) :: starEach [.Name y p2] X.env := by rfl) (he2 : starEach [.Name y p2] X.env = (false, eval (.Name y p2) X.env) :: starEach [] X.env := by rfl) (hpl : (backTo pos (starEach [.Name y p2] X.env)).any (·.1) = false := by rfl) :
    SE Γ X W (.Call (.Name x p) [a, .Name y p2] [] pos) (fun ρ => (fa ρ).bind isW) := by
  obtain ⟨ta, pa, qa⟩ := ha.out
  obtain ⟨C, z1, z2, z3, z4, z5, z6, z7, z8, z9, z10⟩ := Z.ex
  refine .mk ⟨_, pe_callB call_isi hg hm hx (pa_cons pa (pa_cons (pe_glob (v := .ref C) hgT z2 rfl hdT) pa_nil he2) he) hn hdb he hpl, fun {B G H σ ρ Q} r p => ?_⟩
  refine qa r (p.bind fun G1 H1 v d e1 r1 p1 => ?_)
  cases r1 <;> first | exact p1.elim | skip
  · rename_i q xs ds hs hr
    have ty : TyX X.K H1 (.ref q) (.type "tuple") := (Rp.mono e1.s (Rp.tup (Γ := Γ) hs hr)).ty rfl
    exact ⟨.ref q, .ref C, .type "tuple", .ref C, false, rfl, .own C, ty, z8, p1.here e1.s (.bl _)⟩
  · rename_i n vs ds hA hO
    by_cases hn3 : n = 3
    case neg =>
      have : isW (.op n ds) = .stuck := if_neg hn3
      rw [this] at p1; exact p1.elim
    subst hn3
    obtain ⟨C', q, dx, s, e, l, w1, rfl, rfl, w2⟩ := (gO.obj _ _ _ _).mp hO
    rw [z1] at w1; cases w1
    have ty : TyX X.K H1 (.ref q) (.ref C) := .base (.ins (e1.s _ _ w2) z3 z4 z5 z6 z7)
    have kt : PySem.W.kitOne X.K (.ref C) (.ref C) = some true := by unfold PySem.W.kitOne; rw [if_pos (by simp)]
    exact ⟨.ref q, .ref C, .ref C, .ref C, true, rfl, .own C, ty, kt, p1.here e1.s (.bl _)⟩
/-- what the own == of two instances says -/
def eqWO (mm : List D → R D) : D → D → R D
  | .op 3 ds, .op 3 es => (noX (mm [.op 3 ds, .op 3 es])).bind fun z => (asB z).bind fun b => .ok (.bl b)
  | _, _ => .stuck
def neWO (mm : List D → R D) : D → D → R D
  | .op 3 ds, .tup es => (noX (mm [.op 3 ds, .tup es])).bind fun z => (asB z).bind fun b => .ok (.bl (!b))
  | _, _ => .stuck
def lenWO (mm : List D → R D) : List D → R D
  | [.op 3 ds] => (noX (mm [.op 3 ds])).bind fun z => match z with
    | .int n => if 0 ≤ n ∧ n.natAbs ≤ 1000000 then .ok (.int n) else .stuck
    | _ => .stuck
  | _ => .stuck
/-- x == y, both instances -/
def rEqW (Γ : Gam) (K : PySem.W.Frag) (mm : List D → R D) : R2 := fun x y H Q => ∃ C q q' dx dx' fs fs', TabN.wc = some C ∧ x = .ref q ∧ y = .ref q' ∧ H q = some (.ins C dx fs) ∧ H q' = some (.ins C dx' fs') ∧ spM Γ K 2 mm [x, y] H (fun z H' => ∃ b, z = .bl b ∧ Q (.bl b) H') E0
theorem op_eqW {mm : List D → R D} (C : Ct X W j) (F : CalM Γ X.prog X.w X.K X.mg X.base "__eq__" k ["self", "other"] mm) (hk : k ≤ j := by decide) : OpR X (compareOp .Eq) (rEqW Γ X.K mm) := by
  intro pins s σ H x y v u Q I rx ry hq
  obtain ⟨c, q, q', dx, dx', fs, fs', w1, rfl, rfl, h1, h2, sp⟩ := hq
  obtain ⟨c', f, fd, F1, F2, F3, F4, F5⟩ := F.ex
  rw [w1] at F1; cases F1
  cases rx
  cases ry
  show wpAny (model X.prog X.w) X.A (richCompare .Eq (.ref q) (.ref q')) (EP X pins σ Q) X.xe s
  obtain ⟨mA, J, _⟩ := ins_get I.hok h1
  obtain ⟨mB, J', _⟩ := ins_get I.hok h2
  obtain ⟨od, J, _⟩ := J.look
  obtain ⟨od', J', _⟩ := J'.look
  obtain ⟨m, hF⟩ := I.fr
  have sb : L2.Sub X k X.A := ⟨C.hr.mono hk, rfl⟩
  refine PySem.W.cmp_K (op := .Eq) (tb := .ref c) sb.room.units0 hF I.ok.mod.kin J J'.type (by simp [PySem.W.notFirst]) F3.at_ F3.fn ?_
  refine wpAny_mono (run_in (vs := [.ref q, .ref q']) sb F4 F5 I (.cons rfl (.cons rfl .nil)) sp) (fun v s' hv => ?_) fun _ _ e => e
  obtain ⟨z, H', I', rz, b, rfl, qz⟩ := hv
  cases rz
  exact ⟨.bl b, H', I', rfl, qz⟩
theorem spM_of {mm : List D → R D} {K : PySem.W.Frag} {G H : Hp} {σ : L2.St} {vs : List V} {ds : List D} {Q : VK} {g : D → R D} (s : Same G H) (t : TabsOk G H) (r : RpA Γ K G vs ds) (p : Post Γ W G H σ (Rp Γ K) Q ((noX (mm ds)).bind g)) : spM Γ K ds.length mm vs H (fun z H' => ∃ G' d, mm ds = .ok d ∧ Ext G H G' H' ∧ Rp Γ K G' z d ∧ Post Γ W G' H' σ (Rp Γ K) Q (g d)) E0 := by
  refine ⟨G, ds, s, t, r, rfl, ?_⟩
  cases hm : mm ds with
  | stuck => rw [hm] at p; exact p.elim
  | exc c => rw [hm] at p; exact p.elim
  | ok d =>
    rw [hm] at p
    intro G' H' v e' rv
    exact ⟨G', d, rfl, e', rv, Post.ext (x := g d) p e'⟩
theorem spM_imp {mm : List D → R D} {K : PySem.W.Frag} {H : Hp} {n : Nat} {vs : List V} {Q Q' : VK} {E : XK} (h : spM Γ K n mm vs H Q E) (i : ∀ z H', Q z H' → Q' z H') : spM Γ K n mm vs H Q' E := by
  obtain ⟨G, ds, h1, h2, h3, h4, h5⟩ := h
  exact ⟨G, ds, h1, h2, h3, h4, h5.mono fun G1 H1 v a e r q => i _ _ (q v r)⟩
/-- as OpS, with the tables at hand -/
theorem se_cmpW {op : CmpOp} {r : R2} {g : D → D → R D} (ho : OpR X (compareOp op) r) (hg : ∀ {G H : Hp} {σ : L2.St} {x y : V} {d e : D} {Q : VK}, Same G H → TabsOk G H → Rp Γ X.K G x d → Rp Γ X.K G y e → Post Γ W G H σ (Rp Γ X.K) Q (g d e) → r x y H Q) (ha : SE Γ X W a fa) (hb : SE Γ X W b fb) (hm : behindInMarks op b = false := by first | exact nomark _ | rfl) :
    SE Γ X W (.Compare a [op] [b] pos) (fun ρ => (fa ρ).bind fun x => (fb ρ).bind fun y => g x y) := by
  obtain ⟨ta, pa, qa⟩ := ha.out
  obtain ⟨tb, pb, qb⟩ := hb.out
  refine .mk ⟨_, pe_cmpR ho pa pb hm, fun {B G H σ ρ Q} r p => ?_⟩
  refine qa r (p.bind fun G1 H1 v d e1 r1 p1 => ?_)
  refine qb (r.go e1) (p1.bind fun G2 H2 u e e2 r2 p2 => ?_)
  exact hg e2.s ((r.go e1).go e2).tab (r1.mono e2.g) r2 p2
theorem st_cmpW {op : CmpOp} {r : R2} {g : D → D → R D} (ho : OpR X (compareOp op) r) (hg : ∀ {G H : Hp} {σ : L2.St} {x y : V} {d e : D} {Q : VK}, Same G H → TabsOk G H → Rp Γ X.K G x d → Rp Γ X.K G y e → Post Γ W G H σ (Rp Γ X.K) Q (g d e) → r x y H Q) (ha : SE Γ X W a fa) (hb : SE Γ X W b fb) (hm : behindInMarks op b = false := by first | exact nomark _ | rfl) :
    ST Γ X W (.Compare a [op] [b] pos) (fun ρ => ((fa ρ).bind fun x => (fb ρ).bind fun y => g x y).bind asB) := by
  obtain ⟨ta, pa, qa⟩ := ha.out
  obtain ⟨tb, pb, qb⟩ := hb.out
  refine .mk ⟨_, pt_cmpR ho pa pb hm, fun {B G H σ ρ Q} r p => ?_⟩
  have p0 : Post Γ W G H σ (Rp Γ X.K) (fun x H' => ∃ k, x = .bl k ∧ Q k H') ((fa ρ).bind fun x => (fb ρ).bind fun y => g x y) :=
    p.bind fun G1 H1 v d e1 r1 p1 => asB_ok e1.s r1 p1
  refine qa r (p0.bind fun G1 H1 v d e1 r1 p1 => ?_)
  refine qb (r.go e1) (p1.bind fun G2 H2 u e e2 r2 p2 => ?_)
  exact hg e2.s ((r.go e1).go e2).tab (r1.mono e2.g) r2 p2
theorem osEqW {mm : List D → R D} {Ca : Nat → Addr} (gO : GamOk Γ X.prog X.w Ca) {G H : Hp} {σ : L2.St} {x y : V} {d e : D} {Q : VK} (s : Same G H) (t : TabsOk G H) (rx : Rp Γ X.K G x d) (ry : Rp Γ X.K G y e) (p : Post Γ W G H σ (Rp Γ X.K) Q (eqWO mm d e)) : rEqW Γ X.K mm x y H Q := by
  unfold eqWO at p
  split at p
  case h_2 => exact p.elim
  rename_i ds es
  have rA : RpA Γ X.K G [x, y] [.op 3 ds, .op 3 es] := .cons rx (.one ry)
  cases rx with
  | op hO hA =>
  cases ry with
  | op hO' hA' =>
  obtain ⟨C, q, dx, s1, e1, l1, w1, rfl, rfl, w2⟩ := (gO.obj _ _ _ _).mp hO
  obtain ⟨C', q', dx', s1', e1', l1', w1', rfl, rfl, w2'⟩ := (gO.obj _ _ _ _).mp hO'
  rw [w1] at w1'; cases w1'
  refine ⟨C, q, q', dx, dx', _, _, w1, rfl, rfl, s _ _ w2, s _ _ w2', spM_imp (spM_of s t rA p) fun z H' h => ?_⟩
  obtain ⟨G', d, hd, e', rz, pz⟩ := h
  cases rz <;> first | exact pz.elim | skip
  exact ⟨_, rfl, pz.here e'.s (.bl _)⟩
/-- x != y, y a tuple -/
def rNeW (Γ : Gam) (K : PySem.W.Frag) (mm : List D → R D) : R2 := fun x y H Q => ∃ C q q' dx fs xs, TabN.wc = some C ∧ x = .ref q ∧ y = .ref q' ∧ H q = some (.ins C dx fs) ∧ SqT K H q' xs ∧ spM Γ K 2 mm [x, y] H (fun z H' => ∃ b, z = .bl b ∧ Q (.bl (!b)) H') E0
section
variable {prog : Program} {w : World} {A : Around} {E : Value → Shared → Prop} {s : Shared} {K : PySem.W.Frag} {x C f : Addr} {ox : Obj} {od : Option Obj} {y : Value}
theorem ifBound_objNe {M : Model} {args : List Value} {Q : Option Value → Shared → Prop} (X : K.In s.heap) (I : PySem.W.InstAt s.heap x ox C od) (hs : PySem.W.findIn K (.ref C) "__ne__" = some (some (.builtin "object.__ne__")))
    (h : wpAny M A (call (.builtin "object.__ne__") (.ref x :: args)) (fun v => Q (some v)) E s) : wpAny M A (callSpecialIfBound? (.ref x) "__ne__" args) Q E s := by
  simp only [callSpecialIfBound?, bindSpecialIfBound?]
  refine wpAny_holding (wpAny_bind (wpAny_bind (wpAny_bind (I.type.here ((PySem.W.looks_findIn X hs).here ?_)))))
  refine wpAny_bind (wpAny_askSetting (wpAny_ite ?_))
  have fin : wpAny M A (call (.builtin "object.__ne__") ([.ref x] ++ args) >>= fun v => pure (some v)) Q E s := wpAny_bind (wpAny_mono h (fun v s' h' => wpAny_pure h') fun _ _ h' => h')
  split
  · exact wpAny_bind (wpAny_of_eq (PySem.F.cmp_object.ne.bind _) (wpAny_pure (by exact fin)))
  · exact wpAny_tryCatch (wpAny_bind (wpAny_of_eq (PySem.F.cmp_object.ne.bind _) (wpAny_pure (by exact fin))))
theorem objNe_entryW (X : K.In s.heap) (I : PySem.W.InstAt s.heap x ox C od) (hs : PySem.W.findIn K (.ref C) "__eq__" = some (some (.ref f))) (hf : PySem.W.isFn K (.ref f) = true) (hu : A.units < cLine) {Q : Fin → Shared → Prop}
    (hcall : wpAny (model prog w) A (call (.ref f) [.ref x, y]) (fun v s' => ∃ b, v = .bool b ∧ Q (.done (.ret (.bool (!b)))) s') E s) :
    wpAny (model prog w) A (Builtin.«object.__ne__» ⟨[.ref x, y], []⟩) Q E s := by
  unfold Builtin.«object.__ne__»
  repeat (first
    | with_reducible refine wpAny_cRoomFor hu ?_
    | (refine wpAny_bind (m := callSpecialIfBound? (.ref x) (Str.ofString "__eq__") [y])
        (PySem.W.ifBound_K X I hs hf (wpAny_mono hcall (fun r s' hr => by
          obtain ⟨b, rfl, hq⟩ := hr
          repeat (first | exact hq | exact wpAny_pure hq | exact wpAny_truthy_bool hq | (refine wpAny_bind (m := truthy (.bool _)) (wpAny_truthy_bool ?_)) | wp_step)) fun _ _ e => e)))
    | wp_step)
theorem rc_neW (X : K.In s.heap) (I : PySem.W.InstAt s.heap x ox C od) (hn : PySem.W.findIn K (.ref C) "__ne__" = some (some (.builtin "object.__ne__"))) (hs : PySem.W.findIn K (.ref C) "__eq__" = some (some (.ref f))) (hf : PySem.W.isFn K (.ref f) = true) (hm : PySem.W.mroIn K C (.type "object") = some true)
    (hsub : PySem.W.subIn K (.type "tuple") (.ref C) = some false) (hy : s.TypeIs y "tuple") (hu : A.units + 1 < cLine) {Q : Value → Shared → Prop}
    (hcall : wpAny (model prog w) A.in1 (call (.ref f) [.ref x, y]) (fun v s' => ∃ b, v = .bool b ∧ Q (.bool (!b)) s') E s) : wpAny (model prog w) A (richCompare .NotEq (.ref x) y) Q E s := by
  have hu1 : A.in1.units < cLine := by show A.units + 1 < cLine; exact hu
  have one : wpAny (model prog w) A (tryCompare (.ref x) "__ne__" y) (fun r s' => ∃ v, r = some v ∧ Q v s') E s := by
    unfold tryCompare
    refine wpAny_bind (ifBound_objNe X I hn (wpAny_call (codeAny_call_builtin PySem.F.cmp_object.ne.plain PySem.F.cmpEntry_ne (PySem.W.check_slot PySem.F.cmpKind_ne PySem.F.cmpSplit_ne (I.type.andThen (PySem.W.looks_mroIn X hm)) (PySem.F.cmpArgs_ne _ _) (objNe_entryW X I hs hf hu1 (wpAny_mono hcall (fun v s' hv => ?_) fun _ _ e => e))))))
    obtain ⟨b, rfl, hq⟩ := hv
    first | exact ⟨b, rfl, wpAny_pure ⟨_, rfl, hq⟩⟩ | exact ⟨b, rfl, ⟨_, rfl, hq⟩⟩ | exact ⟨b, rfl, wpAny_pure (wpAny_pure ⟨_, rfl, hq⟩)⟩
  unfold richCompare
  simp only [oneThing_ref, cmpInfo_NotEq]
  refine wpAny_holding (wpAny_bind (wpAny_cRoomFor (Nat.lt_of_succ_lt hu) ?_))
  refine wpAny_bind (I.type.here ?_)
  refine wpAny_bind (wpAny_typeOf hy ?_)
  split
  · refine wpAny_bind ((PySem.W.looks_subIn X hsub).here ?_)
    simp only [Bool.false_eq_true, if_false]
    refine wpAny_bind (wpAny_mono one (fun r s' z => ?_) fun _ _ e => e)
    obtain ⟨v, rfl, hq⟩ := z
    exact wpAny_pure hq
  · rename_i q
    exact absurd (by simp) q
end
section
variable {mm : List D → R D} {nm : Str} {Ca : Nat → Addr}
theorem op_neW (C : Ct X W j) (F : CalM Γ X.prog X.w X.K X.mg X.base "__eq__" k ["self", "other"] mm) (Z : WCls X.K X.mg nm) (hk : k + 1 ≤ j := by decide) : OpR X (compareOp .NotEq) (rNeW Γ X.K mm) := by
  intro pins s σ H x y v u Q I rx ry hq
  obtain ⟨c, q, q', dx, fs, xs, w1, rfl, rfl, h1, h2, sp⟩ := hq
  obtain ⟨c', f, fd, F1, F2, F3, F4, F5⟩ := F.ex
  rw [w1] at F1; cases F1
  obtain ⟨c', z1, z2, z3, z4, z5, z6, z7, z8, z9, z10⟩ := Z.ex
  rw [w1] at z1; cases z1
  cases rx
  cases ry
  show wpAny (model X.prog X.w) X.A (richCompare .NotEq (.ref q) (.ref q')) (EP X pins σ Q) X.xe s
  obtain ⟨mA, J, _⟩ := ins_get I.hok h1
  obtain ⟨od, J, _⟩ := J.look
  obtain ⟨its, rt, et, zt⟩ := I.tuple h2
  obtain ⟨ot, t1, t2, t3⟩ := et
  have sb : L2.Sub X (k + 1) X.A := ⟨C.hr.mono hk, rfl⟩
  refine rc_neW (y := .ref q') I.kIn J z9 F3.at_ F3.fn z7 z10 ⟨ot, t1, t2⟩ (by have := C.u64; omega) ?_
  refine wpAny_mono (run_in (vs := [.ref q, .ref q']) sb.in1 F4 F5 I (.cons rfl (.cons rfl .nil)) sp) (fun v s' hv => ?_) fun _ _ e => e
  obtain ⟨z, H', I', rz, b, rfl, qz⟩ := hv
  cases rz
  exact ⟨b, rfl, .bl (!b), H', I', rfl, qz⟩
theorem osNeW (gO : GamOk Γ X.prog X.w Ca) {G H : Hp} {σ : L2.St} {x y : V} {d e : D} {Q : VK} (s : Same G H) (t : TabsOk G H) (rx : Rp Γ X.K G x d) (ry : Rp Γ X.K G y e) (p : Post Γ W G H σ (Rp Γ X.K) Q (neWO mm d e)) : rNeW Γ X.K mm x y H Q := by
  unfold neWO at p
  split at p
  case h_2 => exact p.elim
  rename_i ds es
  have rA : RpA Γ X.K G [x, y] [.op 3 ds, .tup es] := .cons rx (.one ry)
  cases rx with
  | op hO hA =>
  cases ry with
  | tup hs hr =>
  obtain ⟨C, q, dx, s1, e1, l1, w1, rfl, rfl, w2⟩ := (gO.obj _ _ _ _).mp hO
  refine ⟨C, q, _, dx, _, _, w1, rfl, rfl, s _ _ w2, s.seqT hs, spM_imp (spM_of s t rA p) fun z H' h => ?_⟩
  obtain ⟨G', d, hd, e', rz, pz⟩ := h
  cases rz <;> first | exact pz.elim | skip
  exact ⟨_, rfl, pz.here e'.s (.bl _)⟩
/-- len(x) -/
def rLenW (Γ : Gam) (K : PySem.W.Frag) (mm : List D → R D) : List V → Hp → VK → Prop := fun xs H Q => ∃ C q dx fs, TabN.wc = some C ∧ xs = [.ref q] ∧ H q = some (.ins C dx fs) ∧ spM Γ K 1 mm xs H (fun z H' => ∃ n, z = .int n ∧ (0 ≤ n ∧ n < 2 ^ 63) ∧ Q (.int n) H') E0
theorem call_lenW (C : Ct X W j) (F : CalM Γ X.prog X.w X.K X.mg X.base "__len__" k ["self"] mm) (hk : k + 1 ≤ j := by decide) : CallR X (.builtin "len") (rLenW Γ X.K mm) := by
  intro pins s σ H xs us Q I r h
  obtain ⟨c, q, dx, fs, w1, rfl, h1, sp⟩ := h
  obtain ⟨c', f, fd, F1, F2, F3, F4, F5⟩ := F.ex
  rw [w1] at F1; cases F1
  obtain ⟨u, rfl, ru⟩ := r.one
  cases ru
  obtain ⟨mA, J, _⟩ := ins_get I.hok h1
  obtain ⟨od, J, _⟩ := J.look
  obtain ⟨m, hF⟩ := I.fr
  have sb : L2.Sub X (k + 1) X.A := ⟨C.hr.mono hk, rfl⟩
  refine PySem.W.len_K hF I.ok.mod.kin J F3.at_ F3.fn ?_
  refine wpAny_mono (run_in (vs := [.ref q]) sb.in1 F4 F5 I (.cons rfl .nil) sp) (fun v s' hv => ?_) fun _ _ e => e
  obtain ⟨z, H', I', rz, n, rfl, hn, qz⟩ := hv
  obtain ⟨t, rfl⟩ := (show ∃ t, v = Value.int n t from rz)
  exact ⟨hn, .int n, H', I'.tok _, ⟨_, rfl⟩, qz⟩
theorem se_lenW {x : Str} (C : Ct X W j) (gO : GamOk Γ X.prog X.w Ca) (F : CalM Γ X.prog X.w X.K X.mg X.base "__len__" k ["self"] mm) (hg : Gl X x) (hm : X.mg x = none) (hv : bootBuiltins x = some (.builtin "len")) (ha : SE Γ X W a fa) (hk : k + 1 ≤ j := by decide)
    (hn : x ≠ "__name__" := by decide) (hdb : (x == ("__debug__" : Str)) = false := by decide) (he : starEach [a] X.env = (false, eval a X.env) :: starEach [] X.env := by rfl) (hpl : (backTo pos (starEach [] X.env)).any (·.1) = false := by rfl) :
    SE Γ X W (.Call (.Name x p) [a] [] pos) (fun ρ => (fa ρ).bind fun d => lenWO mm [d]) := by
  obtain ⟨ta, pa, qa⟩ := ha.out
  refine .mk ⟨_, pe_callB (call_lenW C F hk) hg hm hv (pa_cons pa pa_nil he) hn hdb he hpl, fun {B G H σ ρ Q} r p => ?_⟩
  refine qa r (p.bind fun G1 H1 v d e1 r1 p1 => ?_)
  unfold lenWO at p1
  split at p1
  case h_2 => exact p1.elim
  rename_i ds hd
  cases hd
  have rA : RpA Γ X.K G1 [v] [.op 3 ds] := .one r1
  cases r1 with
  | op hO hA =>
  obtain ⟨c, q, dx, s1, e1', l1, w1, rfl, rfl, w2⟩ := (gO.obj _ _ _ _).mp hO
  refine ⟨c, q, dx, _, w1, rfl, e1.s _ _ w2, spM_imp (spM_of e1.s (r.go e1).tab rA p1) fun z H' h => ?_⟩
  obtain ⟨G', d, hd, e', rz, pz⟩ := h
  cases rz <;> first | exact pz.elim | skip
  rename_i n
  obtain ⟨hn, pz⟩ := Post.guard (0 ≤ n ∧ n.natAbs ≤ 1000000) pz
  exact ⟨n, rfl, ⟨hn.1, by omega⟩, pz.here e'.s (.int _)⟩
end
end
section
variable {Γ : Gam} {X : Cx} {W : WX} {a b c e : Expr} {fa fb fc : En → R D} {pos p p2 : Pos} {j k : Nat}
/-! ### x in range(n) -/
theorem cr_range1 : CallR X (.type "range") (fun vs H Q => ∃ j, vs = [V.int j] ∧ ∀ p, H p = none → Q (.ref p) (upd H p (.rng 0 j))) := by
  intro pins s σ H vs us Q I r h
  obtain ⟨i, rfl, q⟩ := h
  obtain ⟨u1, rfl, ri⟩ := r.one
  obtain ⟨t, rfl⟩ := ri
  refine call_range_1 ⟨.ref s.heap.objs.size, upd H s.heap.objs.size (.rng 0 i), I.laid (t' := s.toks + 1 + 1) (fun b o e => Heap.get?_push_of_some _ e) (Nat.le_refl _) ?_, rfl, q _ (I.hok.fresh (Nat.le_refl _))⟩
  exact ⟨s.toks, t, s.toks + 1, Heap.get?_push_size _ rfl⟩
def inRg : D → D → R Bool
  | .int i, .int n => .ok (decide (0 ≤ i ∧ i < n))
  | _, _ => .stuck
theorem st_inRg (ha : SE Γ X W a fa) (hg : Gl X "range") (hmg : X.mg "range" = none) (hb : SE Γ X W b fb) (he : starEach [b] X.env = (false, eval b X.env) :: starEach [] X.env := by rfl) (hpl : (backTo p2 (starEach [] X.env)).any (·.1) = false := by rfl) (hm : behindInMarks .In (.Call (.Name "range" p) [b] [] p2) = false := by first | exact nomark _ | rfl) :
    ST Γ X W (.Compare a [.In] [.Call (.Name "range" p) [b] [] p2] pos) (fun ρ => (fa ρ).bind fun x => (fb ρ).bind fun y => inRg x y) := by
  obtain ⟨ta, pa, qa⟩ := ha.out
  obtain ⟨tb, pb, qb⟩ := hb.out
  refine .mk ⟨_, pt_cmpR op_in_rng pa (pe_callTy cr_range1 hg hmg boot_range (pa_cons pb pa_nil he) (by decide) (by decide) he hpl) hm, fun {B G H σ ρ Q} r p => ?_⟩
  refine qa r (p.bind fun G1 H1 v d e1 r1 p1 => ?_)
  refine qb (r.go e1) (p1.bind fun G2 H2 u e e2 r2 p2 => ?_)
  cases r1 <;> cases r2 <;> first | exact p2.elim | skip
  rename_i i n
  refine ⟨n, rfl, fun q hq => ⟨i, q, 0, n, rfl, rfl, upd_same, _, rfl, ?_⟩⟩
  exact p2 G2 _ _ (.priv e2.s hq) rfl
end
end VL
end
section
set_option Elab.async false
set_option linter.all false
set_option maxRecDepth 100000
set_option maxHeartbeats 4000000
set_option autoImplicit false
namespace Lw
open PySem PySem.Spec PyProof.Rows L2 VL
def topS (i : Nat) : Stmt := PySem.Challenge.pw_patchplaces_k66_work.main.body.getD i (.Pass ⟨0, 0, 0, 0⟩)
theorem bt_ValueError : bootBuiltins "ValueError" = some (.type "ValueError") := by decide +kernel
theorem bt_abs : bootBuiltins "abs" = some (.builtin "abs") := by decide +kernel
theorem bt_all : bootBuiltins "all" = some (.builtin "all") := by decide +kernel
theorem bt_bool : bootBuiltins "bool" = some (.type "bool") := by decide +kernel
theorem bt_int : bootBuiltins "int" = some (.type "int") := by decide +kernel
theorem bt_isinstance : bootBuiltins "isinstance" = some (.builtin "isinstance") := by decide +kernel
theorem bt_len : bootBuiltins "len" = some (.builtin "len") := by decide +kernel
theorem bt_list : bootBuiltins "list" = some (.type "list") := by decide +kernel
theorem bt_max : bootBuiltins "max" = some (.builtin "max") := by decide +kernel
theorem bt_min : bootBuiltins "min" = some (.builtin "min") := by decide +kernel
theorem bt_range : bootBuiltins "range" = some (.type "range") := by decide +kernel
theorem bt_sorted : bootBuiltins "sorted" = some (.builtin "sorted") := by decide +kernel
theorem bt_str : bootBuiltins "str" = some (.type "str") := by decide +kernel
theorem bt_tuple : bootBuiltins "tuple" = some (.type "tuple") := by decide +kernel
abbrev s_is_int : Stmt := topS 19
abbrev s_is_line : Stmt := topS 20
abbrev s_are_lines : Stmt := topS 21
abbrev s_is_file : Stmt := topS 22
abbrev s_is_hunk : Stmt := topS 23
abbrev s_check_file : Stmt := topS 24
abbrev s_check_hunk : Stmt := topS 25
abbrev s_pattern_of : Stmt := topS 26
abbrev s_outcome_of : Stmt := topS 27
abbrev s_find_places : Stmt := topS 29
abbrev s_find_nearest : Stmt := topS 30
abbrev s_apply_there : Stmt := topS 31
abbrev s_after_hunk : Stmt := topS 33
abbrev s_W___init__ : Stmt := (clsBody (topS 35)).getD 0 (.Pass ⟨0, 0, 0, 0⟩)
abbrev s_W_lines : Stmt := (clsBody (topS 35)).getD 1 (.Pass ⟨0, 0, 0, 0⟩)
abbrev s_W_rejected : Stmt := (clsBody (topS 35)).getD 2 (.Pass ⟨0, 0, 0, 0⟩)
abbrev s_W_change : Stmt := (clsBody (topS 35)).getD 3 (.Pass ⟨0, 0, 0, 0⟩)
abbrev s_W_patch : Stmt := (clsBody (topS 35)).getD 4 (.Pass ⟨0, 0, 0, 0⟩)
abbrev s_W_retry : Stmt := (clsBody (topS 35)).getD 5 (.Pass ⟨0, 0, 0, 0⟩)
abbrev s_W_undo : Stmt := (clsBody (topS 35)).getD 6 (.Pass ⟨0, 0, 0, 0⟩)
abbrev s_W_redo : Stmt := (clsBody (topS 35)).getD 7 (.Pass ⟨0, 0, 0, 0⟩)
abbrev s_W_copy : Stmt := (clsBody (topS 35)).getD 8 (.Pass ⟨0, 0, 0, 0⟩)
abbrev s_W___eq__ : Stmt := (clsBody (topS 35)).getD 9 (.Pass ⟨0, 0, 0, 0⟩)
abbrev s_W___len__ : Stmt := (clsBody (topS 35)).getD 10 (.Pass ⟨0, 0, 0, 0⟩)
abbrev s__law_body : Stmt := topS 37
abbrev s__law_spots : Stmt := topS 38
abbrev s__law_near : Stmt := topS 39
abbrev s__law_put : Stmt := topS 40
abbrev s__law_pick : Stmt := topS 41
abbrev s__law_lines : Stmt := topS 42
abbrev s__law_hunk : Stmt := topS 43
abbrev s__law_class : Stmt := topS 44
abbrev s__law_result : Stmt := topS 45
abbrev s__law_tried : Stmt := topS 46
abbrev s__law_chosen : Stmt := topS 47
abbrev s__law_calls : Stmt := topS 48
abbrev s_law : Stmt := topS 49
def nC : Nat := 13
abbrev X_PatchError : Nat := 0
abbrev X_InvalidFile : Nat := 1
abbrev X_InvalidHunk : Nat := 2
abbrev X_EmptyPattern : Nat := 3
abbrev X_InvalidNumber : Nat := 4
abbrev X_NoPlace : Nat := 5
abbrev X_TooLarge : Nat := 6
abbrev X_NotAtStart : Nat := 7
abbrev X_InvalidBlocks : Nat := 8
abbrev X_InvalidHunks : Nat := 9
abbrev X_InvalidSeries : Nat := 10
abbrev X_NothingToUndo : Nat := 11
abbrev X_ParseError : Nat := 12
def hP (c : Nat) : Option Bool := if c < nC then some true else none
theorem lt_of_hP {c : Nat} (h : hP c = some true) : c < nC := by
  unfold hP at h
  split at h
  · assumption
  · cases h
def subT (c k : Nat) : Bool := c == k || k == 0
def lm_0 : Lm := ⟨lamA s__law_calls (eAt 0 (sExpr (stAt (defBody s__law_calls) 0))), lamB (eAt 0 (sExpr (stAt (defBody s__law_calls) 0))), lamS s__law_calls (eAt 0 (sExpr (stAt (defBody s__law_calls) 0))), (("_law_calls" : Str) ++ (".<locals>." : Str)) ++ ("<lambda>" : Str), ["hunk", "work"]⟩
def lm_1 : Lm := ⟨lamA s__law_calls (eAt 0 (sExpr (stAt (defBody s__law_calls) 1))), lamB (eAt 0 (sExpr (stAt (defBody s__law_calls) 1))), lamS s__law_calls (eAt 0 (sExpr (stAt (defBody s__law_calls) 1))), (("_law_calls" : Str) ++ (".<locals>." : Str)) ++ ("<lambda>" : Str), ["work"]⟩
def lm_2 : Lm := ⟨lamA s__law_calls (eAt 0 (sExpr (stAt (defBody s__law_calls) 2))), lamB (eAt 0 (sExpr (stAt (defBody s__law_calls) 2))), lamS s__law_calls (eAt 0 (sExpr (stAt (defBody s__law_calls) 2))), (("_law_calls" : Str) ++ (".<locals>." : Str)) ++ ("<lambda>" : Str), ["work"]⟩
def lm_3 : Lm := ⟨lamA s__law_calls (eAt 0 (sExpr (stAt (defBody s__law_calls) 3))), lamB (eAt 0 (sExpr (stAt (defBody s__law_calls) 3))), lamS s__law_calls (eAt 0 (sExpr (stAt (defBody s__law_calls) 3))), (("_law_calls" : Str) ++ (".<locals>." : Str)) ++ ("<lambda>" : Str), ["work"]⟩
def LT : Nat → Option Lm
  | 0 => some lm_0
  | 1 => some lm_1
  | 2 => some lm_2
  | 3 => some lm_3
  | _ => none
structure Tx [TabN] (K : PySem.W.Frag) (mg : Str → Option Value) (Ca : Nat → Addr) (base : Heap) : Prop where
  n_ValueError : mg "ValueError" = none
  n_abs : mg "abs" = none
  n_all : mg "all" = none
  n_bool : mg "bool" = none
  n_int : mg "int" = none
  n_isinstance : mg "isinstance" = none
  n_len : mg "len" = none
  n_list : mg "list" = none
  n_max : mg "max" = none
  n_min : mg "min" = none
  n_range : mg "range" = none
  n_sorted : mg "sorted" = none
  n_str : mg "str" = none
  n_tuple : mg "tuple" = none
  g_MAX_LINE : ∃ t, mg "MAX_LINE" = some (.int 3 t)
  g_MAX_FILE : ∃ t, mg "MAX_FILE" = some (.int 20 t)
  g_MAX_PART : ∃ t, mg "MAX_PART" = some (.int 4 t)
  g_LETTERS : ∃ t, mg "LETTERS" = some (.str "abcdefghijklmnopqrstuvwxyz" t)
  x_PatchError : ExK K mg "PatchError" (Ca 0)
  x_InvalidFile : ExK K mg "InvalidFile" (Ca 1)
  x_InvalidHunk : ExK K mg "InvalidHunk" (Ca 2)
  x_EmptyPattern : ExK K mg "EmptyPattern" (Ca 3)
  x_InvalidNumber : ExK K mg "InvalidNumber" (Ca 4)
  x_NoPlace : ExK K mg "NoPlace" (Ca 5)
  x_TooLarge : ExK K mg "TooLarge" (Ca 6)
  x_NotAtStart : ExK K mg "NotAtStart" (Ca 7)
  x_InvalidBlocks : ExK K mg "InvalidBlocks" (Ca 8)
  x_InvalidHunks : ExK K mg "InvalidHunks" (Ca 9)
  x_InvalidSeries : ExK K mg "InvalidSeries" (Ca 10)
  x_NothingToUndo : ExK K mg "NothingToUndo" (Ca 11)
  x_ParseError : ExK K mg "ParseError" (Ca 12)
  ec : ∀ c, c < nC → ExcC K (Ca c)
  kit : ∀ c k, c < nC → k < nC → PySem.W.kitOne K (.ref (Ca c)) (.ref (Ca k)) = some (subT c k)
  ve : ∀ c, c < nC → PySem.W.kitOne K (.ref (Ca c)) (.type "ValueError") = some true
  exm : ∀ c b, hP c = some b → PySem.W.exmOne K (.ref (Ca c)) (.ref (Ca 0)) = some b
  wcl : WCls K mg "WorkFile"
  f_is_int : ∃ f fd, Fun K "is_int" "is_int" s_is_int f fd ∧ mg "is_int" = some (.ref f) ∧ Binds K fd ["value", "least", "most"] []
  f_is_line : ∃ f fd, Fun K "is_line" "is_line" s_is_line f fd ∧ mg "is_line" = some (.ref f) ∧ Binds K fd ["value"] []
  f_are_lines : ∃ f fd, Fun K "are_lines" "are_lines" s_are_lines f fd ∧ mg "are_lines" = some (.ref f) ∧ Binds K fd ["value", "most"] []
  f_is_file : ∃ f fd, Fun K "is_file" "is_file" s_is_file f fd ∧ mg "is_file" = some (.ref f) ∧ Binds K fd ["candidate"] []
  f_is_hunk : ∃ f fd, Fun K "is_hunk" "is_hunk" s_is_hunk f fd ∧ mg "is_hunk" = some (.ref f) ∧ Binds K fd ["candidate"] []
  f_check_file : ∃ f fd, Fun K "check_file" "check_file" s_check_file f fd ∧ mg "check_file" = some (.ref f) ∧ Binds K fd ["value"] []
  f_check_hunk : ∃ f fd, Fun K "check_hunk" "check_hunk" s_check_hunk f fd ∧ mg "check_hunk" = some (.ref f) ∧ Binds K fd ["value"] []
  f_pattern_of : ∃ f fd, Fun K "pattern_of" "pattern_of" s_pattern_of f fd ∧ mg "pattern_of" = some (.ref f) ∧ Binds K fd ["hunk"] []
  f_outcome_of : ∃ f fd, Fun K "outcome_of" "outcome_of" s_outcome_of f fd ∧ mg "outcome_of" = some (.ref f) ∧ Binds K fd ["hunk"] []
  f_find_places : ∃ f fd, Fun K "find_places" "find_places" s_find_places f fd ∧ mg "find_places" = some (.ref f) ∧ Binds K fd ["hunk", "file"] []
  f_find_nearest : ∃ f fd, Fun K "find_nearest" "find_nearest" s_find_nearest f fd ∧ mg "find_nearest" = some (.ref f) ∧ Binds K fd ["hunk", "file"] []
  f_apply_there : ∃ f fd, Fun K "apply_there" "apply_there" s_apply_there f fd ∧ mg "apply_there" = some (.ref f) ∧ Binds K fd ["hunk", "file", "place"] []
  f_after_hunk : ∃ f fd, Fun K "after_hunk" "after_hunk" s_after_hunk f fd ∧ mg "after_hunk" = some (.ref f) ∧ Binds K fd ["hunk", "lines"] []
  f_W___init__ : ∃ C f fd, TabN.wc = some C ∧ mg "WorkFile" = some (.ref C) ∧ Mk K C f ∧ Cls K C ∧ NoAttr K C "state" ∧ NoAttr K C "earlier" ∧ NoAttr K C "later" ∧ Fun K "__init__" "WorkFile.__init__" s_W___init__ f fd ∧ Binds K fd ["self", "file"] []
  f_W_lines : ∃ C f fd, TabN.wc = some C ∧ Cls K C ∧ Meth K C "lines" f ∧ Fun K "lines" "WorkFile.lines" s_W_lines f fd ∧ Binds K fd ["self"] []
  f_W_rejected : ∃ C f fd, TabN.wc = some C ∧ Cls K C ∧ Meth K C "rejected" f ∧ Fun K "rejected" "WorkFile.rejected" s_W_rejected f fd ∧ Binds K fd ["self"] []
  f_W_change : ∃ C f fd, TabN.wc = some C ∧ Cls K C ∧ Meth K C "change" f ∧ Fun K "change" "WorkFile.change" s_W_change f fd ∧ Binds K fd ["self", "state"] []
  f_W_patch : ∃ C f fd, TabN.wc = some C ∧ Cls K C ∧ Meth K C "patch" f ∧ Fun K "patch" "WorkFile.patch" s_W_patch f fd ∧ Binds K fd ["self", "hunk"] []
  f_W_retry : ∃ C f fd, TabN.wc = some C ∧ Cls K C ∧ Meth K C "retry" f ∧ Fun K "retry" "WorkFile.retry" s_W_retry f fd ∧ Binds K fd ["self"] []
  f_W_undo : ∃ C f fd, TabN.wc = some C ∧ Cls K C ∧ Meth K C "undo" f ∧ Fun K "undo" "WorkFile.undo" s_W_undo f fd ∧ Binds K fd ["self"] []
  f_W_redo : ∃ C f fd, TabN.wc = some C ∧ Cls K C ∧ Meth K C "redo" f ∧ Fun K "redo" "WorkFile.redo" s_W_redo f fd ∧ Binds K fd ["self"] []
  f_W_copy : ∃ C f fd, TabN.wc = some C ∧ Cls K C ∧ Meth K C "copy" f ∧ Fun K "copy" "WorkFile.copy" s_W_copy f fd ∧ Binds K fd ["self"] []
  f_W___eq__ : ∃ C f fd, TabN.wc = some C ∧ Cls K C ∧ Meth K C "__eq__" f ∧ Fun K "__eq__" "WorkFile.__eq__" s_W___eq__ f fd ∧ Binds K fd ["self", "other"] []
  f_W___len__ : ∃ C f fd, TabN.wc = some C ∧ Cls K C ∧ Meth K C "__len__" f ∧ Fun K "__len__" "WorkFile.__len__" s_W___len__ f fd ∧ Binds K fd ["self"] []
  f__law_body : ∃ f fd, Fun K "_law_body" "_law_body" s__law_body f fd ∧ mg "_law_body" = some (.ref f) ∧ Binds K fd ["hunk"] []
  f__law_spots : ∃ f fd, Fun K "_law_spots" "_law_spots" s__law_spots f fd ∧ mg "_law_spots" = some (.ref f) ∧ Binds K fd ["hunk", "lines"] []
  f__law_near : ∃ f fd, Fun K "_law_near" "_law_near" s__law_near f fd ∧ mg "_law_near" = some (.ref f) ∧ Binds K fd ["hunk", "lines"] []
  f__law_put : ∃ f fd, Fun K "_law_put" "_law_put" s__law_put f fd ∧ mg "_law_put" = some (.ref f) ∧ Binds K fd ["hunk", "lines"] []
  f__law_pick : ∃ f fd, Fun K "_law_pick" "_law_pick" s__law_pick f fd ∧ mg "_law_pick" = some (.ref f) ∧ Binds K fd ["script", "k", "many"] []
  f__law_lines : ∃ f fd, Fun K "_law_lines" "_law_lines" s__law_lines f fd ∧ mg "_law_lines" = some (.ref f) ∧ Binds K fd ["script", "at", "most"] []
  f__law_hunk : ∃ f fd, Fun K "_law_hunk" "_law_hunk" s__law_hunk f fd ∧ mg "_law_hunk" = some (.ref f) ∧ Binds K fd ["script", "at", "file"] []
  f__law_class : ∃ f fd, Fun K "_law_class" "_law_class" s__law_class f fd ∧ mg "_law_class" = some (.ref f) ∧ Binds K fd ["error"] []
  f__law_result : ∃ f fd, Fun K "_law_result" "_law_result" s__law_result f fd ∧ mg "_law_result" = some (.ref f) ∧ Binds K fd ["call"] []
  f__law_tried : ∃ f fd, Fun K "_law_tried" "_law_tried" s__law_tried f fd ∧ mg "_law_tried" = some (.ref f) ∧ Binds K fd ["lines", "refused"] []
  f__law_chosen : ∃ f fd, Fun K "_law_chosen" "_law_chosen" s__law_chosen f fd ∧ mg "_law_chosen" = some (.ref f) ∧ Binds K fd ["script", "at", "lines"] []
  f__law_calls : ∃ (f c pt : Addr) (oc kV dc pm ct : Value) (od an : Option Addr) (sl : Array (Option Value)), K.lookup f = some ⟨oc, od, .func (PySem.W.fnOf "_law_calls" "_law_calls" (defArgs s__law_calls) (defBody s__law_calls) (defScope s__law_calls) .none kV dc pm an (.ref c) ct), sl⟩ ∧ PySem.W.codeIn K (.ref c) "_law_calls" = true ∧ PySem.W.keepIn K (.ref f) = true ∧ mg "_law_calls" = some (.ref f) ∧ Binds K (PySem.W.fnOf "_law_calls" "_law_calls" (defArgs s__law_calls) (defBody s__law_calls) (defScope s__law_calls) .none kV dc pm an (.ref c) ct) ["work", "hunk"] [] ∧ LamX.TabB base mg c pt ∧ TabN.nm pt = some ((("_law_calls" : Str) ++ (".<locals>." : Str)) ++ ("<lambda>" : Str))
  f_law : ∃ f fd, Fun K "law" "law" s_law f fd ∧ mg "law" = some (.ref f) ∧ Binds K fd ["script"] []
theorem at_state [TabN] {K : PySem.W.Frag} {mg : Str → Option Value} {Ca : Nat → Addr} {base : Heap} (T : Tx K mg Ca base) : Atr K "state" :=
  let ⟨C, f, fd, h1, h2, h3, h4, h5, h6, h7, _⟩ := T.f_W___init__
  ⟨C, h1, h4, h5⟩
theorem at_earlier [TabN] {K : PySem.W.Frag} {mg : Str → Option Value} {Ca : Nat → Addr} {base : Heap} (T : Tx K mg Ca base) : Atr K "earlier" :=
  let ⟨C, f, fd, h1, h2, h3, h4, h5, h6, h7, _⟩ := T.f_W___init__
  ⟨C, h1, h4, h6⟩
theorem at_later [TabN] {K : PySem.W.Frag} {mg : Str → Option Value} {Ca : Nat → Addr} {base : Heap} (T : Tx K mg Ca base) : Atr K "later" :=
  let ⟨C, f, fd, h1, h2, h3, h4, h5, h6, h7, _⟩ := T.f_W___init__
  ⟨C, h1, h4, h7⟩
theorem sc_is_int : FnScope ["value", "least", "most"] ["value", "least", "most"] (defScope s_is_int) := ⟨rfl, rfl, rfl, by decide +kernel, rfl, by decide +kernel, by decide +kernel⟩
def pk_is_int : {f : En → RS // ∀ [TabN] {P : Program} {w : World} {K : PySem.W.Frag} {mg : Str → Option Value} {base : Heap} {Ca : Nat → Addr} {Γ : Gam} (gO : GamOk Γ P w Ca) (T : Tx K mg Ca base) (fa : Addr) (cdv : Value) (A : Around) (outer : List Env) (s : Shared) (H : Hp) (EE : XK),
    Ct (cxOf (L2.CX P w) P w K mg base ["value", "least", "most"] "is_int" (defScope s_is_int) fa cdv A outer s H EE) (fun cls d _ H2 => EE cls d H2) 0 → SSs Γ (cxOf (L2.CX P w) P w K mg base ["value", "least", "most"] "is_int" (defScope s_is_int) fa cdv A outer s H EE) (fun cls d _ H2 => EE cls d H2) (defBody s_is_int) f} :=
  ⟨_, fun {_ P w K mg base Ca Γ} gO T fa cdv A outer s H EE C =>
  (sss_one (ss_ret (se_and (se_isi .int (sv 0) bt_isinstance bt_int rfl T.n_isinstance rfl T.n_int) (se_and (se_not (se_isi .bool (sv 0) bt_isinstance bt_bool rfl T.n_isinstance rfl T.n_bool)) (se_one (se_chain op_le osLe op_le osLe (sv 1) (sv 0) (sv 2)))))))⟩
def m_is_int : List D → R D := bodyM 3 3 pk_is_int.1
theorem ok_is_int [TabN] {P : Program} {w : World} {K : PySem.W.Frag} {mg : Str → Option Value} {base : Heap} {Ca : Nat → Addr} {Γ : Gam} (gO : GamOk Γ P w Ca) (T : Tx K mg Ca base) : Cal Γ P w K mg base "is_int" 1 ["value", "least", "most"] m_is_int := by
  obtain ⟨f, fd, F, hm, hb⟩ := T.f_is_int
  exact cal_mk F sc_is_int hm hb fun cdv A outer s H EE C => pk_is_int.2 gO T f cdv A outer s H EE C
theorem sc_is_line : FnScope ["value", "sign"] ["value"] (defScope s_is_line) := ⟨rfl, rfl, rfl, by decide +kernel, rfl, by decide +kernel, by decide +kernel⟩
def pk_is_line : {f : En → RS // ∀ [TabN] {P : Program} {w : World} {K : PySem.W.Frag} {mg : Str → Option Value} {base : Heap} {Ca : Nat → Addr} {Γ : Gam} (gO : GamOk Γ P w Ca) (T : Tx K mg Ca base) (fa : Addr) (cdv : Value) (A : Around) (outer : List Env) (s : Shared) (H : Hp) (EE : XK),
    Ct (cxOf (L2.CX P w) P w K mg base ["value", "sign"] "is_line" (defScope s_is_line) fa cdv A outer s H EE) (fun cls d _ H2 => EE cls d H2) 0 → SSs Γ (cxOf (L2.CX P w) P w K mg base ["value", "sign"] "is_line" (defScope s_is_line) fa cdv A outer s H EE) (fun cls d _ H2 => EE cls d H2) (defBody s_is_line) f} :=
  ⟨_, fun {_ P w K mg base Ca Γ} gO T fa cdv A outer s H EE C =>
  (sss_one (ss_ret (se_and (se_isi .str (sv 0) bt_isinstance bt_str rfl T.n_isinstance rfl T.n_str) (se_and (se_chain op_le osLe op_le osLe se_int (se_callB call_len csLen rfl T.n_len bt_len (sa_cons (sv 0) sa_nil)) (se_gintE T.g_MAX_LINE rfl)) (se_one (se_callB (cr_all C.calm) csAll rfl T.n_all bt_all (sa_cons (SF.se (sf_lc C (own := [("sign", 1)]) (si_seq (sv 0)) (blkOk_by (N := ["value", "sign"]) (sc := defScope s_is_line) (by decide +kernel)) (fun _ _ _ _ _ => (sg_name 1 C.blk.nd)) (fun _ _ _ _ _ => sts_nil) (fun _ _ _ _ _ => (se_cmp (opIn C.blk.u65) osIn (sv 1) (se_gstrE T.g_LETTERS rfl))))) sa_nil)))))))⟩
def m_is_line : List D → R D := bodyM 2 1 pk_is_line.1
theorem ok_is_line [TabN] {P : Program} {w : World} {K : PySem.W.Frag} {mg : Str → Option Value} {base : Heap} {Ca : Nat → Addr} {Γ : Gam} (gO : GamOk Γ P w Ca) (T : Tx K mg Ca base) : Cal Γ P w K mg base "is_line" 1 ["value"] m_is_line := by
  obtain ⟨f, fd, F, hm, hb⟩ := T.f_is_line
  exact cal_mk F sc_is_line hm hb fun cdv A outer s H EE C => pk_is_line.2 gO T f cdv A outer s H EE C
theorem sc_pattern_of : FnScope ["hunk"] ["hunk"] (defScope s_pattern_of) := ⟨rfl, rfl, rfl, by decide +kernel, rfl, by decide +kernel, by decide +kernel⟩
def pk_pattern_of : {f : En → RS // ∀ [TabN] {P : Program} {w : World} {K : PySem.W.Frag} {mg : Str → Option Value} {base : Heap} {Ca : Nat → Addr} {Γ : Gam} (gO : GamOk Γ P w Ca) (T : Tx K mg Ca base) (fa : Addr) (cdv : Value) (A : Around) (outer : List Env) (s : Shared) (H : Hp) (EE : XK),
    Ct (cxOf (L2.CX P w) P w K mg base ["hunk"] "pattern_of" (defScope s_pattern_of) fa cdv A outer s H EE) (fun cls d _ H2 => EE cls d H2) 0 → SSs Γ (cxOf (L2.CX P w) P w K mg base ["hunk"] "pattern_of" (defScope s_pattern_of) fa cdv A outer s H EE) (fun cls d _ H2 => EE cls d H2) (defBody s_pattern_of) f} :=
  ⟨_, fun {_ P w K mg base Ca Γ} gO T fa cdv A outer s H EE C =>
  (sss_one (ss_ret (se_op opAdd osAdd (se_op opAdd osAdd (se_ix ix_seq osIx (sv 0) se_int) (se_ix ix_seq osIx (sv 0) se_int)) (se_ix ix_seq osIx (sv 0) se_int))))⟩
def m_pattern_of : List D → R D := bodyM 1 1 pk_pattern_of.1
theorem ok_pattern_of [TabN] {P : Program} {w : World} {K : PySem.W.Frag} {mg : Str → Option Value} {base : Heap} {Ca : Nat → Addr} {Γ : Gam} (gO : GamOk Γ P w Ca) (T : Tx K mg Ca base) : Cal Γ P w K mg base "pattern_of" 1 ["hunk"] m_pattern_of := by
  obtain ⟨f, fd, F, hm, hb⟩ := T.f_pattern_of
  exact cal_mk F sc_pattern_of hm hb fun cdv A outer s H EE C => pk_pattern_of.2 gO T f cdv A outer s H EE C
theorem sc_outcome_of : FnScope ["hunk"] ["hunk"] (defScope s_outcome_of) := ⟨rfl, rfl, rfl, by decide +kernel, rfl, by decide +kernel, by decide +kernel⟩
def pk_outcome_of : {f : En → RS // ∀ [TabN] {P : Program} {w : World} {K : PySem.W.Frag} {mg : Str → Option Value} {base : Heap} {Ca : Nat → Addr} {Γ : Gam} (gO : GamOk Γ P w Ca) (T : Tx K mg Ca base) (fa : Addr) (cdv : Value) (A : Around) (outer : List Env) (s : Shared) (H : Hp) (EE : XK),
    Ct (cxOf (L2.CX P w) P w K mg base ["hunk"] "outcome_of" (defScope s_outcome_of) fa cdv A outer s H EE) (fun cls d _ H2 => EE cls d H2) 0 → SSs Γ (cxOf (L2.CX P w) P w K mg base ["hunk"] "outcome_of" (defScope s_outcome_of) fa cdv A outer s H EE) (fun cls d _ H2 => EE cls d H2) (defBody s_outcome_of) f} :=
  ⟨_, fun {_ P w K mg base Ca Γ} gO T fa cdv A outer s H EE C =>
  (sss_one (ss_ret (se_op opAdd osAdd (se_op opAdd osAdd (se_ix ix_seq osIx (sv 0) se_int) (se_ix ix_seq osIx (sv 0) se_int)) (se_ix ix_seq osIx (sv 0) se_int))))⟩
def m_outcome_of : List D → R D := bodyM 1 1 pk_outcome_of.1
theorem ok_outcome_of [TabN] {P : Program} {w : World} {K : PySem.W.Frag} {mg : Str → Option Value} {base : Heap} {Ca : Nat → Addr} {Γ : Gam} (gO : GamOk Γ P w Ca) (T : Tx K mg Ca base) : Cal Γ P w K mg base "outcome_of" 1 ["hunk"] m_outcome_of := by
  obtain ⟨f, fd, F, hm, hb⟩ := T.f_outcome_of
  exact cal_mk F sc_outcome_of hm hb fun cdv A outer s H EE C => pk_outcome_of.2 gO T f cdv A outer s H EE C
theorem sc_W_lines : FnScope ["self"] ["self"] (defScope s_W_lines) := ⟨rfl, rfl, rfl, by decide +kernel, rfl, by decide +kernel, by decide +kernel⟩
def pk_W_lines : {f : En → RS // ∀ [TabN] {P : Program} {w : World} {K : PySem.W.Frag} {mg : Str → Option Value} {base : Heap} {Ca : Nat → Addr} {Γ : Gam} (gO : GamOk Γ P w Ca) (T : Tx K mg Ca base) (fa : Addr) (cdv : Value) (A : Around) (outer : List Env) (s : Shared) (H : Hp) (EE : XK),
    Ct (cxOf (L2.CX P w) P w K mg base ["self"] "WorkFile.lines" (defScope s_W_lines) fa cdv A outer s H EE) (fun cls d _ H2 => EE cls d H2) 0 → SSs Γ (cxOf (L2.CX P w) P w K mg base ["self"] "WorkFile.lines" (defScope s_W_lines) fa cdv A outer s H EE) (fun cls d _ H2 => EE cls d H2) (defBody s_W_lines) f} :=
  ⟨_, fun {_ P w K mg base Ca Γ} gO T fa cdv A outer s H EE C =>
  (sss_one (ss_ret (se_ix ix_seq osIx (se_attr 0 gO (sv 0) (at_state T)) se_int)))⟩
def m_W_lines : List D → R D := bodyM 1 1 pk_W_lines.1
theorem ok_W_lines [TabN] {P : Program} {w : World} {K : PySem.W.Frag} {mg : Str → Option Value} {base : Heap} {Ca : Nat → Addr} {Γ : Gam} (gO : GamOk Γ P w Ca) (T : Tx K mg Ca base) : CalM Γ P w K mg base "lines" 1 ["self"] m_W_lines := by
  obtain ⟨C, f, fd, h1, h2, h3, F, hb⟩ := T.f_W_lines
  exact calM_mk h1 h2 h3 F sc_W_lines hb fun cdv A outer s H EE C => pk_W_lines.2 gO T f cdv A outer s H EE C
theorem sc_W_rejected : FnScope ["self"] ["self"] (defScope s_W_rejected) := ⟨rfl, rfl, rfl, by decide +kernel, rfl, by decide +kernel, by decide +kernel⟩
def pk_W_rejected : {f : En → RS // ∀ [TabN] {P : Program} {w : World} {K : PySem.W.Frag} {mg : Str → Option Value} {base : Heap} {Ca : Nat → Addr} {Γ : Gam} (gO : GamOk Γ P w Ca) (T : Tx K mg Ca base) (fa : Addr) (cdv : Value) (A : Around) (outer : List Env) (s : Shared) (H : Hp) (EE : XK),
    Ct (cxOf (L2.CX P w) P w K mg base ["self"] "WorkFile.rejected" (defScope s_W_rejected) fa cdv A outer s H EE) (fun cls d _ H2 => EE cls d H2) 0 → SSs Γ (cxOf (L2.CX P w) P w K mg base ["self"] "WorkFile.rejected" (defScope s_W_rejected) fa cdv A outer s H EE) (fun cls d _ H2 => EE cls d H2) (defBody s_W_rejected) f} :=
  ⟨_, fun {_ P w K mg base Ca Γ} gO T fa cdv A outer s H EE C =>
  (sss_one (ss_ret (se_callTy call_list_of csList rfl T.n_list bt_list (sa_cons (se_ix ix_seq osIx (se_attr 0 gO (sv 0) (at_state T)) se_int) sa_nil))))⟩
def m_W_rejected : List D → R D := bodyM 1 1 pk_W_rejected.1
theorem ok_W_rejected [TabN] {P : Program} {w : World} {K : PySem.W.Frag} {mg : Str → Option Value} {base : Heap} {Ca : Nat → Addr} {Γ : Gam} (gO : GamOk Γ P w Ca) (T : Tx K mg Ca base) : CalM Γ P w K mg base "rejected" 1 ["self"] m_W_rejected := by
  obtain ⟨C, f, fd, h1, h2, h3, F, hb⟩ := T.f_W_rejected
  exact calM_mk h1 h2 h3 F sc_W_rejected hb fun cdv A outer s H EE C => pk_W_rejected.2 gO T f cdv A outer s H EE C
theorem sc_W_change : FnScope ["self", "state"] ["self", "state"] (defScope s_W_change) := ⟨rfl, rfl, rfl, by decide +kernel, rfl, by decide +kernel, by decide +kernel⟩
def pk_W_change : {f : En → RS // ∀ [TabN] {P : Program} {w : World} {K : PySem.W.Frag} {mg : Str → Option Value} {base : Heap} {Ca : Nat → Addr} {Γ : Gam} (gO : GamOk Γ P w Ca) (T : Tx K mg Ca base) (fa : Addr) (cdv : Value) (A : Around) (outer : List Env) (s : Shared) (H : Hp) (EE : XK),
    Ct (cxOf (L2.CX P w) P w K mg base ["self", "state"] "WorkFile.change" (defScope s_W_change) fa cdv A outer s H EE) (fun cls d _ H2 => EE cls d H2) 0 → SSs Γ (cxOf (L2.CX P w) P w K mg base ["self", "state"] "WorkFile.change" (defScope s_W_change) fa cdv A outer s H EE) (fun cls d _ H2 => EE cls d H2) (defBody s_W_change) f} :=
  ⟨_, fun {_ P w K mg base Ca Γ} gO T fa cdv A outer s H EE C =>
  sss_never⟩
def m_W_change : List D → R D := bodyM 2 2 pk_W_change.1
theorem ok_W_change [TabN] {P : Program} {w : World} {K : PySem.W.Frag} {mg : Str → Option Value} {base : Heap} {Ca : Nat → Addr} {Γ : Gam} (gO : GamOk Γ P w Ca) (T : Tx K mg Ca base) : CalM Γ P w K mg base "change" 1 ["self", "state"] m_W_change := by
  obtain ⟨C, f, fd, h1, h2, h3, F, hb⟩ := T.f_W_change
  exact calM_mk h1 h2 h3 F sc_W_change hb fun cdv A outer s H EE C => pk_W_change.2 gO T f cdv A outer s H EE C
theorem sc_W_undo : FnScope ["self"] ["self"] (defScope s_W_undo) := ⟨rfl, rfl, rfl, by decide +kernel, rfl, by decide +kernel, by decide +kernel⟩
def pk_W_undo : {f : En → RS // ∀ [TabN] {P : Program} {w : World} {K : PySem.W.Frag} {mg : Str → Option Value} {base : Heap} {Ca : Nat → Addr} {Γ : Gam} (gO : GamOk Γ P w Ca) (T : Tx K mg Ca base) (fa : Addr) (cdv : Value) (A : Around) (outer : List Env) (s : Shared) (H : Hp) (EE : XK),
    Ct (cxOf (L2.CX P w) P w K mg base ["self"] "WorkFile.undo" (defScope s_W_undo) fa cdv A outer s H EE) (fun cls d _ H2 => EE cls d H2) 0 → SSs Γ (cxOf (L2.CX P w) P w K mg base ["self"] "WorkFile.undo" (defScope s_W_undo) fa cdv A outer s H EE) (fun cls d _ H2 => EE cls d H2) (defBody s_W_undo) f} :=
  ⟨_, fun {_ P w K mg base Ca Γ} gO T fa cdv A outer s H EE C =>
  (sss_cons (ss_if (st_cmp (op_eqD C.u64) osEq (se_attr 1 gO (sv 0) (at_earlier T)) (se_lst sa_nil)) (sss_one (ss_raiseX 11 C T.x_NothingToUndo (gO.cls 11) rfl)) sss_nil)
  sss_never)⟩
def m_W_undo : List D → R D := bodyM 1 1 pk_W_undo.1
theorem ok_W_undo [TabN] {P : Program} {w : World} {K : PySem.W.Frag} {mg : Str → Option Value} {base : Heap} {Ca : Nat → Addr} {Γ : Gam} (gO : GamOk Γ P w Ca) (T : Tx K mg Ca base) : CalM Γ P w K mg base "undo" 1 ["self"] m_W_undo := by
  obtain ⟨C, f, fd, h1, h2, h3, F, hb⟩ := T.f_W_undo
  exact calM_mk h1 h2 h3 F sc_W_undo hb fun cdv A outer s H EE C => pk_W_undo.2 gO T f cdv A outer s H EE C
theorem sc_W_redo : FnScope ["self"] ["self"] (defScope s_W_redo) := ⟨rfl, rfl, rfl, by decide +kernel, rfl, by decide +kernel, by decide +kernel⟩
def pk_W_redo : {f : En → RS // ∀ [TabN] {P : Program} {w : World} {K : PySem.W.Frag} {mg : Str → Option Value} {base : Heap} {Ca : Nat → Addr} {Γ : Gam} (gO : GamOk Γ P w Ca) (T : Tx K mg Ca base) (fa : Addr) (cdv : Value) (A : Around) (outer : List Env) (s : Shared) (H : Hp) (EE : XK),
    Ct (cxOf (L2.CX P w) P w K mg base ["self"] "WorkFile.redo" (defScope s_W_redo) fa cdv A outer s H EE) (fun cls d _ H2 => EE cls d H2) 0 → SSs Γ (cxOf (L2.CX P w) P w K mg base ["self"] "WorkFile.redo" (defScope s_W_redo) fa cdv A outer s H EE) (fun cls d _ H2 => EE cls d H2) (defBody s_W_redo) f} :=
  ⟨_, fun {_ P w K mg base Ca Γ} gO T fa cdv A outer s H EE C =>
  (sss_cons (ss_if (st_cmp (op_eqD C.u64) osEq (se_attr 2 gO (sv 0) (at_later T)) (se_lst sa_nil)) (sss_one (ss_raiseX 11 C T.x_NothingToUndo (gO.cls 11) rfl)) sss_nil)
  sss_never)⟩
def m_W_redo : List D → R D := bodyM 1 1 pk_W_redo.1
theorem ok_W_redo [TabN] {P : Program} {w : World} {K : PySem.W.Frag} {mg : Str → Option Value} {base : Heap} {Ca : Nat → Addr} {Γ : Gam} (gO : GamOk Γ P w Ca) (T : Tx K mg Ca base) : CalM Γ P w K mg base "redo" 1 ["self"] m_W_redo := by
  obtain ⟨C, f, fd, h1, h2, h3, F, hb⟩ := T.f_W_redo
  exact calM_mk h1 h2 h3 F sc_W_redo hb fun cdv A outer s H EE C => pk_W_redo.2 gO T f cdv A outer s H EE C
theorem sc_W___len__ : FnScope ["self"] ["self"] (defScope s_W___len__) := ⟨rfl, rfl, rfl, by decide +kernel, rfl, by decide +kernel, by decide +kernel⟩
def pk_W___len__ : {f : En → RS // ∀ [TabN] {P : Program} {w : World} {K : PySem.W.Frag} {mg : Str → Option Value} {base : Heap} {Ca : Nat → Addr} {Γ : Gam} (gO : GamOk Γ P w Ca) (T : Tx K mg Ca base) (fa : Addr) (cdv : Value) (A : Around) (outer : List Env) (s : Shared) (H : Hp) (EE : XK),
    Ct (cxOf (L2.CX P w) P w K mg base ["self"] "WorkFile.__len__" (defScope s_W___len__) fa cdv A outer s H EE) (fun cls d _ H2 => EE cls d H2) 0 → SSs Γ (cxOf (L2.CX P w) P w K mg base ["self"] "WorkFile.__len__" (defScope s_W___len__) fa cdv A outer s H EE) (fun cls d _ H2 => EE cls d H2) (defBody s_W___len__) f} :=
  ⟨_, fun {_ P w K mg base Ca Γ} gO T fa cdv A outer s H EE C =>
  (sss_one (ss_ret (se_callB call_len csLen rfl T.n_len bt_len (sa_cons (se_ix ix_seq osIx (se_attr 0 gO (sv 0) (at_state T)) se_int) sa_nil))))⟩
def m_W___len__ : List D → R D := bodyM 1 1 pk_W___len__.1
theorem ok_W___len__ [TabN] {P : Program} {w : World} {K : PySem.W.Frag} {mg : Str → Option Value} {base : Heap} {Ca : Nat → Addr} {Γ : Gam} (gO : GamOk Γ P w Ca) (T : Tx K mg Ca base) : CalM Γ P w K mg base "__len__" 1 ["self"] m_W___len__ := by
  obtain ⟨C, f, fd, h1, h2, h3, F, hb⟩ := T.f_W___len__
  exact calM_mk h1 h2 h3 F sc_W___len__ hb fun cdv A outer s H EE C => pk_W___len__.2 gO T f cdv A outer s H EE C
theorem sc__law_body : FnScope ["hunk", "start", "before", "old", "new", "after"] ["hunk"] (defScope s__law_body) := ⟨rfl, rfl, rfl, by decide +kernel, rfl, by decide +kernel, by decide +kernel⟩
def pk__law_body : {f : En → RS // ∀ [TabN] {P : Program} {w : World} {K : PySem.W.Frag} {mg : Str → Option Value} {base : Heap} {Ca : Nat → Addr} {Γ : Gam} (gO : GamOk Γ P w Ca) (T : Tx K mg Ca base) (fa : Addr) (cdv : Value) (A : Around) (outer : List Env) (s : Shared) (H : Hp) (EE : XK),
    Ct (cxOf (L2.CX P w) P w K mg base ["hunk", "start", "before", "old", "new", "after"] "_law_body" (defScope s__law_body) fa cdv A outer s H EE) (fun cls d _ H2 => EE cls d H2) 0 → SSs Γ (cxOf (L2.CX P w) P w K mg base ["hunk", "start", "before", "old", "new", "after"] "_law_body" (defScope s__law_body) fa cdv A outer s H EE) (fun cls d _ H2 => EE cls d H2) (defBody s__law_body) f} :=
  ⟨_, fun {_ P w K mg base Ca Γ} gO T fa cdv A outer s H EE C =>
  (sss_cons (ss_asg (sv 0) (sg_tup C.calm (sgs_cons (sg_name 1 C.nd) (sgs_cons (sg_name 2 C.nd) (sgs_cons (sg_name 3 C.nd) (sgs_cons (sg_name 4 C.nd) (sgs_cons (sg_name 5 C.nd) sgs_nil))))) (putAll_len (putAll_len (putAll_len (putAll_len (putAll_len putNil_len)))))))
  (sss_one (ss_ret (se_tup (sa_cons (se_op opAdd osAdd (se_op opAdd osAdd (sv 2) (sv 3)) (sv 5)) (sa_cons (se_op opAdd osAdd (se_op opAdd osAdd (sv 2) (sv 4)) (sv 5)) sa_nil))))))⟩
def m__law_body : List D → R D := bodyM 6 1 pk__law_body.1
theorem ok__law_body [TabN] {P : Program} {w : World} {K : PySem.W.Frag} {mg : Str → Option Value} {base : Heap} {Ca : Nat → Addr} {Γ : Gam} (gO : GamOk Γ P w Ca) (T : Tx K mg Ca base) : Cal Γ P w K mg base "_law_body" 1 ["hunk"] m__law_body := by
  obtain ⟨f, fd, F, hm, hb⟩ := T.f__law_body
  exact cal_mk F sc__law_body hm hb fun cdv A outer s H EE C => pk__law_body.2 gO T f cdv A outer s H EE C
theorem sc__law_pick : FnScope ["script", "k", "many", "cell", "rest", "again", "drawn"] ["script", "k", "many"] (defScope s__law_pick) := ⟨rfl, rfl, rfl, by decide +kernel, rfl, by decide +kernel, by decide +kernel⟩
def pk__law_pick : {f : En → RS // ∀ [TabN] {P : Program} {w : World} {K : PySem.W.Frag} {mg : Str → Option Value} {base : Heap} {Ca : Nat → Addr} {Γ : Gam} (gO : GamOk Γ P w Ca) (T : Tx K mg Ca base) (fa : Addr) (cdv : Value) (A : Around) (outer : List Env) (s : Shared) (H : Hp) (EE : XK),
    Ct (cxOf (L2.CX P w) P w K mg base ["script", "k", "many", "cell", "rest", "again", "drawn"] "_law_pick" (defScope s__law_pick) fa cdv A outer s H EE) (fun cls d _ H2 => EE cls d H2) 0 → SSs Γ (cxOf (L2.CX P w) P w K mg base ["script", "k", "many", "cell", "rest", "again", "drawn"] "_law_pick" (defScope s__law_pick) fa cdv A outer s H EE) (fun cls d _ H2 => EE cls d H2) (defBody s__law_pick) f} :=
  ⟨_, fun {_ P w K mg base Ca Γ} gO T fa cdv A outer s H EE C =>
  (sss_cons (ss_set 3 C (se_if (st_cmp (op_neD C.u64) osNe (sv 0) (se_lst sa_nil)) (se_ix ix_seq osIx (sv 0) (se_op op_mod osMod (sv 1) (se_callB call_len csLen rfl T.n_len bt_len (sa_cons (sv 0) sa_nil)))) se_int))
  (sss_cons (ss_par 4 5 C (sa_cons (se_op op_fdivW osFdiv (sv 3) (se_op op_pow osPow se_int se_int)) (sa_cons (se_op op_fdivW osFdiv (sv 1) (se_callB (call_max2 C.calm) csMax2 rfl T.n_max bt_max (sa_cons (se_callB call_len csLen rfl T.n_len bt_len (sa_cons (sv 0) sa_nil)) (sa_cons se_int sa_nil)))) sa_nil)))
  (sss_cons (ss_while 5000 C (SW.st (sw_and (st_cmp op_gt osGt (sv 4) se_int) (sw_and1 (st_cmp op_gt osGt (sv 5) se_int)))) (sss_one (ss_par 4 5 C (sa_cons (se_op op_fdivW osFdiv (sv 4) se_int) (sa_cons (se_op op_sub osSub (sv 5) se_int) sa_nil)))))
  (sss_cons (ss_if (st_cmp op_gt osGt (sv 4) se_int) (sss_one (ss_ret (se_op op_mod osMod (se_op op_mod osMod (sv 4) se_int) (sv 2)))) sss_nil)
  (sss_cons (ss_set 6 C (se_op op_mod osMod (se_op opMul osMul (se_op opAdd osAdd (se_op opMul osMul (sv 3) se_int) (se_op opMul osMul se_int (se_op opAdd osAdd (sv 1) se_int))) se_int) se_int))
  (sss_one (ss_ret (se_op op_mod osMod (se_op op_mod osMod (se_op opAdd osAdd (se_op opMul osMul (sv 6) (sv 6)) (se_op op_fdivW osFdiv (sv 6) se_int)) se_int) (sv 2)))))))))⟩
def m__law_pick : List D → R D := bodyM 7 3 pk__law_pick.1
theorem ok__law_pick [TabN] {P : Program} {w : World} {K : PySem.W.Frag} {mg : Str → Option Value} {base : Heap} {Ca : Nat → Addr} {Γ : Gam} (gO : GamOk Γ P w Ca) (T : Tx K mg Ca base) : Cal Γ P w K mg base "_law_pick" 1 ["script", "k", "many"] m__law_pick := by
  obtain ⟨f, fd, F, hm, hb⟩ := T.f__law_pick
  exact cal_mk F sc__law_pick hm hb fun cdv A outer s H EE C => pk__law_pick.2 gO T f cdv A outer s H EE C
theorem sc__law_class : FnScope ["error", "kinds", "names"] ["error"] (defScope s__law_class) := ⟨rfl, rfl, rfl, by decide +kernel, rfl, by decide +kernel, by decide +kernel⟩
def pk__law_class : {f : Nat → En → RS // ∀ [TabN] {P : Program} {w : World} {K : PySem.W.Frag} {mg : Str → Option Value} {base : Heap} {Ca : Nat → Addr} {Γ : Gam} (gO : GamOk Γ P w Ca) (T : Tx K mg Ca base) (c : Nat) (hc : hP c = some true) (ad : Addr) (oe : Obj) (hz : Zc (Γ.cls c) none oe) (hf : ∃ vs, oe.data = .fields vs) (fa : Addr) (cdv : Value) (A : Around) (outer : List Env) (s : Shared) (H : Hp) (EE : XK),
    Ch (L2H.cxH (L2.CX P w) P w K mg base ["error", "kinds", "names"] "_law_class" (defScope s__law_class) fa cdv A outer s H EE (ad, oe)) 0 → SSs (Γ.hot ad) (L2H.cxH (L2.CX P w) P w K mg base ["error", "kinds", "names"] "_law_class" (defScope s__law_class) fa cdv A outer s H EE (ad, oe)) W0 (defBody s__law_class) (f c)} :=
  ⟨fun c => _, fun {_ P w K mg base Ca Γ} gO T c hc ad oe hz hf fa cdv A outer s H EE CH =>
  (sss_cons (ss_setOwnN 1 CH.nd (sf_lst (sa_cons (se_isH 0 (List.mem_cons_self) gO.no1 (T.ec c (lt_of_hP hc)) (gO.z hz) hf (T.kit c 1 (lt_of_hP hc) (by decide)) bt_isinstance rfl T.n_isinstance (is_own rfl T.x_InvalidFile.gC)) (sa_cons (se_isH 0 (List.mem_cons_self) gO.no1 (T.ec c (lt_of_hP hc)) (gO.z hz) hf (T.kit c 2 (lt_of_hP hc) (by decide)) bt_isinstance rfl T.n_isinstance (is_own rfl T.x_InvalidHunk.gC)) sa_nil))))
  (sss_cons (ss_extend 1 (se_lst (sa_cons (se_isH 0 (List.mem_cons_self) gO.no1 (T.ec c (lt_of_hP hc)) (gO.z hz) hf (T.kit c 3 (lt_of_hP hc) (by decide)) bt_isinstance rfl T.n_isinstance (is_own rfl T.x_EmptyPattern.gC)) (sa_cons (se_isH 0 (List.mem_cons_self) gO.no1 (T.ec c (lt_of_hP hc)) (gO.z hz) hf (T.kit c 4 (lt_of_hP hc) (by decide)) bt_isinstance rfl T.n_isinstance (is_own rfl T.x_InvalidNumber.gC)) sa_nil))))
  (sss_cons (ss_extend 1 (se_lst (sa_cons (se_isH 0 (List.mem_cons_self) gO.no1 (T.ec c (lt_of_hP hc)) (gO.z hz) hf (T.kit c 5 (lt_of_hP hc) (by decide)) bt_isinstance rfl T.n_isinstance (is_own rfl T.x_NoPlace.gC)) (sa_cons (se_isH 0 (List.mem_cons_self) gO.no1 (T.ec c (lt_of_hP hc)) (gO.z hz) hf (T.kit c 6 (lt_of_hP hc) (by decide)) bt_isinstance rfl T.n_isinstance (is_own rfl T.x_TooLarge.gC)) sa_nil))))
  (sss_cons (ss_extend 1 (se_lst (sa_cons (se_isH 0 (List.mem_cons_self) gO.no1 (T.ec c (lt_of_hP hc)) (gO.z hz) hf (T.kit c 7 (lt_of_hP hc) (by decide)) bt_isinstance rfl T.n_isinstance (is_own rfl T.x_NotAtStart.gC)) (sa_cons (se_isH 0 (List.mem_cons_self) gO.no1 (T.ec c (lt_of_hP hc)) (gO.z hz) hf (T.kit c 8 (lt_of_hP hc) (by decide)) bt_isinstance rfl T.n_isinstance (is_own rfl T.x_InvalidBlocks.gC)) sa_nil))))
  (sss_cons (ss_extend 1 (se_lst (sa_cons (se_isH 0 (List.mem_cons_self) gO.no1 (T.ec c (lt_of_hP hc)) (gO.z hz) hf (T.kit c 9 (lt_of_hP hc) (by decide)) bt_isinstance rfl T.n_isinstance (is_own rfl T.x_InvalidHunks.gC)) (sa_cons (se_isH 0 (List.mem_cons_self) gO.no1 (T.ec c (lt_of_hP hc)) (gO.z hz) hf (T.kit c 10 (lt_of_hP hc) (by decide)) bt_isinstance rfl T.n_isinstance (is_own rfl T.x_InvalidSeries.gC)) sa_nil))))
  (sss_cons (ss_extend 1 (se_lst (sa_cons (se_isH 0 (List.mem_cons_self) gO.no1 (T.ec c (lt_of_hP hc)) (gO.z hz) hf (T.kit c 11 (lt_of_hP hc) (by decide)) bt_isinstance rfl T.n_isinstance (is_own rfl T.x_NothingToUndo.gC)) (sa_cons (se_isH 0 (List.mem_cons_self) gO.no1 (T.ec c (lt_of_hP hc)) (gO.z hz) hf (T.kit c 12 (lt_of_hP hc) (by decide)) bt_isinstance rfl T.n_isinstance (is_own rfl T.x_ParseError.gC)) sa_nil))))
  (sss_cons (ss_if (ST.view (SW.st (sw_or (st_cmp (op_neD CH.u64) osNe (se_count (sv 1) se_bl) se_int) (sw_or1 (st_not (st_val (se_isH 0 (List.mem_cons_self) gO.no1 (T.ec c (lt_of_hP hc)) (gO.z hz) hf (T.ve c (lt_of_hP hc)) bt_isinstance rfl T.n_isinstance (is_blt rfl T.n_ValueError bt_ValueError)))))))) (sss_one (ss_ret se_str)) sss_nil)
  (sss_cons (ss_setOwnN 2 CH.nd (sf_lst (sa_cons se_str (sa_cons se_str (sa_cons se_str (sa_cons se_str sa_nil))))))
  (sss_cons (ss_extend 2 (se_lst (sa_cons se_str (sa_cons se_str (sa_cons se_str (sa_cons se_str sa_nil))))))
  (sss_cons (ss_extend 2 (se_lst (sa_cons se_str (sa_cons se_str (sa_cons se_str (sa_cons se_str sa_nil))))))
  (sss_one (ss_ret (SE.view (se_ix ix_seq osIx (sv 2) (se_index (sv 1) se_bl)))))))))))))))⟩
def m__law_class (c : Nat) : List D → R D := bodyM 3 1 (pk__law_class.1 c)
theorem okH__law_class [TabN] {P : Program} {w : World} {K : PySem.W.Frag} {mg : Str → Option Value} {base : Heap} {Ca : Nat → Addr} {Γ : Gam} (gO : GamOk Γ P w Ca) (T : Tx K mg Ca base) (c : Nat) (hc : hP c = some true) {ad : Addr} {oe : Obj} (hz : Zc (Γ.cls c) none oe) (hf : ∃ vs, oe.data = .fields vs) : CalH Γ P w K mg base "_law_class" 1 ["error"] ad oe (m__law_class c) := by
  obtain ⟨f, fd, F, hm, hb⟩ := T.f__law_class
  exact cal_mkH F sc__law_class hm hb fun cdv A outer s H EE CH => pk__law_class.2 gO T c hc ad oe hz hf f cdv A outer s H EE CH
theorem sc__law_calls : FnScope ["work", "hunk", "calls"] ["work", "hunk"] (defScope s__law_calls) := ⟨rfl, rfl, rfl, by decide +kernel, rfl, by decide +kernel, by decide +kernel⟩
def pk__law_calls : {f : En → RS // ∀ [TabN] {P : Program} {w : World} {K : PySem.W.Frag} {mg : Str → Option Value} {base : Heap} {Ca : Nat → Addr} (T : Tx K mg Ca base) (fa cc pt : Addr) (tB : LamX.TabB base mg cc pt) (hnm : TabN.nm pt = some ((("_law_calls" : Str) ++ (".<locals>." : Str)) ++ ("<lambda>" : Str))) (A : Around) (outer : List Env) (s : Shared) (H : Hp) (EE : XK),
    Ct (cxOf (L2.CX P w) P w K mg base ["work", "hunk", "calls"] "_law_calls" (defScope s__law_calls) fa (.ref cc) A outer s H EE) (fun cls d _ H2 => EE cls d H2) 0 → SSe (gamL P w Ca LT (cxOf (L2.CX P w) P w K mg base ["work", "hunk", "calls"] "_law_calls" (defScope s__law_calls) fa (.ref cc) A outer s H EE).env.cells) (cxOf (L2.CX P w) P w K mg base ["work", "hunk", "calls"] "_law_calls" (defScope s__law_calls) fa (.ref cc) A outer s H EE) (fun cls d _ H2 => EE cls d H2) (.Return (some (.Name "calls" ⟨222, 11, 222, 16⟩)) ⟨222, 4, 222, 16⟩) (defBody s__law_calls) f} :=
  ⟨_, fun {_ P w K mg base Ca} T fa cc pt tB hnm A outer s H EE C =>
  have gO : GamOk (gamL P w Ca LT (cxOf (L2.CX P w) P w K mg base ["work", "hunk", "calls"] "_law_calls" (defScope s__law_calls) fa (.ref cc) A outer s H EE).env.cells) P w Ca := gamL_ok
  (sse_cons (ss_setOwn 2 C (sf_lst (sa_cons (se_lam 0 (caps := lm_0.caps) rfl tB rfl hnm (LamX.lamS_by (sc := defScope s__law_calls) (scope := lm_0.scope) (by decide +kernel))) sa_nil)))
  (sse_cons (ss_append 2 (se_lam 1 (caps := lm_1.caps) rfl tB rfl hnm (LamX.lamS_by (sc := defScope s__law_calls) (scope := lm_1.scope) (by decide +kernel))))
  (sse_cons (ss_append 2 (se_lam 2 (caps := lm_2.caps) rfl tB rfl hnm (LamX.lamS_by (sc := defScope s__law_calls) (scope := lm_2.scope) (by decide +kernel))))
  (sse_cons (ss_append 2 (se_lam 3 (caps := lm_3.caps) rfl tB rfl hnm (LamX.lamS_by (sc := defScope s__law_calls) (scope := lm_3.scope) (by decide +kernel))))
  sse_last))))⟩
def m__law_calls : List D → R D := bodyE 3 2 [1, 0] (cvOf [(0, [1, 0]), (1, [0]), (2, [0]), (3, [0])]) 2 pk__law_calls.1
theorem ok__law_calls [TabN] {P : Program} {w : World} {K : PySem.W.Frag} {mg : Str → Option Value} {base : Heap} {Ca : Nat → Addr} {Γ : Gam} (gO : GamOk Γ P w Ca) (hC : CloG Γ LT) (T : Tx K mg Ca base) : Cal Γ P w K mg base "_law_calls" 1 ["work", "hunk"] m__law_calls := by
  obtain ⟨f, c, pt, oc, kV, dc, pm, ct, od, an, sl, lk, hcd, kp, hm, hb, tB, hnm⟩ := T.f__law_calls
  exact cal_mkE [("hunk", 1), ("work", 0)] (cvOf [(0, [1, 0]), (1, [0]), (2, [0]), (3, [0])]) 2 gO hC lk hcd kp sc__law_calls hm hb (fun A outer s H EE C => pk__law_calls.2 T f c pt tB hnm A outer s H EE C) (by decide +kernel) (fun _ => capK_by (by decide +kernel))
theorem sc_are_lines : FnScope ["value", "most", "line"] ["value", "most"] (defScope s_are_lines) := ⟨rfl, rfl, rfl, by decide +kernel, rfl, by decide +kernel, by decide +kernel⟩
def pk_are_lines : {f : En → RS // ∀ [TabN] {P : Program} {w : World} {K : PySem.W.Frag} {mg : Str → Option Value} {base : Heap} {Ca : Nat → Addr} {Γ : Gam} (gO : GamOk Γ P w Ca) (T : Tx K mg Ca base) (fa : Addr) (cdv : Value) (A : Around) (outer : List Env) (s : Shared) (H : Hp) (EE : XK),
    Ct (cxOf (L2.CX P w) P w K mg base ["value", "most", "line"] "are_lines" (defScope s_are_lines) fa cdv A outer s H EE) (fun cls d _ H2 => EE cls d H2) 1 → SSs Γ (cxOf (L2.CX P w) P w K mg base ["value", "most", "line"] "are_lines" (defScope s_are_lines) fa cdv A outer s H EE) (fun cls d _ H2 => EE cls d H2) (defBody s_are_lines) f} :=
  ⟨_, fun {_ P w K mg base Ca Γ} gO T fa cdv A outer s H EE C =>
  (sss_one (ss_ret (se_and (se_isi .tuple (sv 0) bt_isinstance bt_tuple rfl T.n_isinstance rfl T.n_tuple) (se_and (se_cmp op_le osLe (se_callB call_len csLen rfl T.n_len bt_len (sa_cons (sv 0) sa_nil)) (sv 1)) (se_one (se_callB (cr_all C.calm) csAll rfl T.n_all bt_all (sa_cons (SF.se (sf_lc C (own := [("line", 2)]) (si_seq (sv 0)) (blkOk_by (N := ["value", "most", "line"]) (sc := defScope s_are_lines) (by decide +kernel)) (fun _ _ _ _ _ => (sg_name 2 C.blk.nd)) (fun _ _ _ _ _ => sts_nil) (fun _ _ _ _ _ => (se_call C.blk (ok_is_line gO T) rfl (sa_cons (sv 2) sa_nil))))) sa_nil)))))))⟩
def m_are_lines : List D → R D := bodyM 3 2 pk_are_lines.1
theorem ok_are_lines [TabN] {P : Program} {w : World} {K : PySem.W.Frag} {mg : Str → Option Value} {base : Heap} {Ca : Nat → Addr} {Γ : Gam} (gO : GamOk Γ P w Ca) (T : Tx K mg Ca base) : Cal Γ P w K mg base "are_lines" 2 ["value", "most"] m_are_lines := by
  obtain ⟨f, fd, F, hm, hb⟩ := T.f_are_lines
  exact cal_mk F sc_are_lines hm hb fun cdv A outer s H EE C => pk_are_lines.2 gO T f cdv A outer s H EE C
theorem sc_find_places : FnScope ["hunk", "file", "found", "place"] ["hunk", "file"] (defScope s_find_places) := ⟨rfl, rfl, rfl, by decide +kernel, rfl, by decide +kernel, by decide +kernel⟩
def pk_find_places : {f : En → RS // ∀ [TabN] {P : Program} {w : World} {K : PySem.W.Frag} {mg : Str → Option Value} {base : Heap} {Ca : Nat → Addr} {Γ : Gam} (gO : GamOk Γ P w Ca) (T : Tx K mg Ca base) (fa : Addr) (cdv : Value) (A : Around) (outer : List Env) (s : Shared) (H : Hp) (EE : XK),
    Ct (cxOf (L2.CX P w) P w K mg base ["hunk", "file", "found", "place"] "find_places" (defScope s_find_places) fa cdv A outer s H EE) (fun cls d _ H2 => EE cls d H2) 1 → SSs Γ (cxOf (L2.CX P w) P w K mg base ["hunk", "file", "found", "place"] "find_places" (defScope s_find_places) fa cdv A outer s H EE) (fun cls d _ H2 => EE cls d H2) (defBody s_find_places) f} :=
  ⟨_, fun {_ P w K mg base Ca Γ} gO T fa cdv A outer s H EE C =>
  (sss_cons (ss_set 2 C (se_call C (ok_pattern_of gO T) rfl (sa_cons (sv 0) sa_nil)))
  (sss_one (ss_ret (SF.se (sf_lc C (own := [("place", 3)]) (si_range1 rfl T.n_range (sa_cons (se_op opAdd osAdd (se_op op_sub osSub (se_callB call_len csLen rfl T.n_len bt_len (sa_cons (sv 1) sa_nil)) (se_callB call_len csLen rfl T.n_len bt_len (sa_cons (sv 2) sa_nil))) se_int) sa_nil)) (blkOk_by (N := ["hunk", "file", "found", "place"]) (sc := defScope s_find_places) (by decide +kernel)) (fun _ _ _ _ _ => (sg_name 3 C.blk.nd)) (fun _ _ _ _ _ => (sts_one (st_cmp (op_eqD C.blk.u64) osEq (se_slice slAll ssSl (sv 1) (so_some (sv 3)) (so_some (se_op opAdd osAdd (sv 3) (se_callB call_len csLen rfl T.n_len bt_len (sa_cons (sv 2) sa_nil))))) (sv 2)))) (fun _ _ _ _ _ => (sv 3)))))))⟩
def m_find_places : List D → R D := bodyM 4 2 pk_find_places.1
theorem ok_find_places [TabN] {P : Program} {w : World} {K : PySem.W.Frag} {mg : Str → Option Value} {base : Heap} {Ca : Nat → Addr} {Γ : Gam} (gO : GamOk Γ P w Ca) (T : Tx K mg Ca base) : Cal Γ P w K mg base "find_places" 2 ["hunk", "file"] m_find_places := by
  obtain ⟨f, fd, F, hm, hb⟩ := T.f_find_places
  exact cal_mk F sc_find_places hm hb fun cdv A outer s H EE C => pk_find_places.2 gO T f cdv A outer s H EE C
theorem sc_apply_there : FnScope ["hunk", "file", "place"] ["hunk", "file", "place"] (defScope s_apply_there) := ⟨rfl, rfl, rfl, by decide +kernel, rfl, by decide +kernel, by decide +kernel⟩
def pk_apply_there : {f : En → RS // ∀ [TabN] {P : Program} {w : World} {K : PySem.W.Frag} {mg : Str → Option Value} {base : Heap} {Ca : Nat → Addr} {Γ : Gam} (gO : GamOk Γ P w Ca) (T : Tx K mg Ca base) (fa : Addr) (cdv : Value) (A : Around) (outer : List Env) (s : Shared) (H : Hp) (EE : XK),
    Ct (cxOf (L2.CX P w) P w K mg base ["hunk", "file", "place"] "apply_there" (defScope s_apply_there) fa cdv A outer s H EE) (fun cls d _ H2 => EE cls d H2) 1 → SSs Γ (cxOf (L2.CX P w) P w K mg base ["hunk", "file", "place"] "apply_there" (defScope s_apply_there) fa cdv A outer s H EE) (fun cls d _ H2 => EE cls d H2) (defBody s_apply_there) f} :=
  ⟨_, fun {_ P w K mg base Ca Γ} gO T fa cdv A outer s H EE C =>
  (sss_one (ss_ret (se_op opAdd osAdd (se_op opAdd osAdd (se_slice slAll ssSl (sv 1) so_none (so_some (sv 2))) (se_call C (ok_outcome_of gO T) rfl (sa_cons (sv 0) sa_nil))) (se_slice slAll ssSl (sv 1) (so_some (se_op opAdd osAdd (sv 2) (se_callB call_len csLen rfl T.n_len bt_len (sa_cons (se_call C (ok_pattern_of gO T) rfl (sa_cons (sv 0) sa_nil)) sa_nil)))) so_none))))⟩
def m_apply_there : List D → R D := bodyM 3 3 pk_apply_there.1
theorem ok_apply_there [TabN] {P : Program} {w : World} {K : PySem.W.Frag} {mg : Str → Option Value} {base : Heap} {Ca : Nat → Addr} {Γ : Gam} (gO : GamOk Γ P w Ca) (T : Tx K mg Ca base) : Cal Γ P w K mg base "apply_there" 2 ["hunk", "file", "place"] m_apply_there := by
  obtain ⟨f, fd, F, hm, hb⟩ := T.f_apply_there
  exact cal_mk F sc_apply_there hm hb fun cdv A outer s H EE C => pk_apply_there.2 gO T f cdv A outer s H EE C
theorem sc__law_spots : FnScope ["hunk", "lines", "body", "gap"] ["hunk", "lines"] (defScope s__law_spots) := ⟨rfl, rfl, rfl, by decide +kernel, rfl, by decide +kernel, by decide +kernel⟩
def pk__law_spots : {f : En → RS // ∀ [TabN] {P : Program} {w : World} {K : PySem.W.Frag} {mg : Str → Option Value} {base : Heap} {Ca : Nat → Addr} {Γ : Gam} (gO : GamOk Γ P w Ca) (T : Tx K mg Ca base) (fa : Addr) (cdv : Value) (A : Around) (outer : List Env) (s : Shared) (H : Hp) (EE : XK),
    Ct (cxOf (L2.CX P w) P w K mg base ["hunk", "lines", "body", "gap"] "_law_spots" (defScope s__law_spots) fa cdv A outer s H EE) (fun cls d _ H2 => EE cls d H2) 1 → SSs Γ (cxOf (L2.CX P w) P w K mg base ["hunk", "lines", "body", "gap"] "_law_spots" (defScope s__law_spots) fa cdv A outer s H EE) (fun cls d _ H2 => EE cls d H2) (defBody s__law_spots) f} :=
  ⟨_, fun {_ P w K mg base Ca Γ} gO T fa cdv A outer s H EE C =>
  (sss_cons (ss_set 2 C (se_ix ix_seq osIx (se_call C (ok__law_body gO T) rfl (sa_cons (sv 0) sa_nil)) se_int))
  (sss_one (ss_ret (SF.se (sf_lc C (own := [("gap", 3)]) (si_range1 rfl T.n_range (sa_cons (se_op opAdd osAdd (se_op op_sub osSub (se_callB call_len csLen rfl T.n_len bt_len (sa_cons (sv 1) sa_nil)) (se_callB call_len csLen rfl T.n_len bt_len (sa_cons (sv 2) sa_nil))) se_int) sa_nil)) (blkOk_by (N := ["hunk", "lines", "body", "gap"]) (sc := defScope s__law_spots) (by decide +kernel)) (fun _ _ _ _ _ => (sg_name 3 C.blk.nd)) (fun _ _ _ _ _ => (sts_one (st_cmp (op_eqD C.blk.u64) osEq (se_slice slAll ssSl (sv 1) (so_some (sv 3)) (so_some (se_op opAdd osAdd (sv 3) (se_callB call_len csLen rfl T.n_len bt_len (sa_cons (sv 2) sa_nil))))) (sv 2)))) (fun _ _ _ _ _ => (sv 3)))))))⟩
def m__law_spots : List D → R D := bodyM 4 2 pk__law_spots.1
theorem ok__law_spots [TabN] {P : Program} {w : World} {K : PySem.W.Frag} {mg : Str → Option Value} {base : Heap} {Ca : Nat → Addr} {Γ : Gam} (gO : GamOk Γ P w Ca) (T : Tx K mg Ca base) : Cal Γ P w K mg base "_law_spots" 2 ["hunk", "lines"] m__law_spots := by
  obtain ⟨f, fd, F, hm, hb⟩ := T.f__law_spots
  exact cal_mk F sc__law_spots hm hb fun cdv A outer s H EE C => pk__law_spots.2 gO T f cdv A outer s H EE C
theorem sc__law_lines : FnScope ["script", "at", "most", "size", "i"] ["script", "at", "most"] (defScope s__law_lines) := ⟨rfl, rfl, rfl, by decide +kernel, rfl, by decide +kernel, by decide +kernel⟩
def pk__law_lines : {f : En → RS // ∀ [TabN] {P : Program} {w : World} {K : PySem.W.Frag} {mg : Str → Option Value} {base : Heap} {Ca : Nat → Addr} {Γ : Gam} (gO : GamOk Γ P w Ca) (T : Tx K mg Ca base) (fa : Addr) (cdv : Value) (A : Around) (outer : List Env) (s : Shared) (H : Hp) (EE : XK),
    Ct (cxOf (L2.CX P w) P w K mg base ["script", "at", "most", "size", "i"] "_law_lines" (defScope s__law_lines) fa cdv A outer s H EE) (fun cls d _ H2 => EE cls d H2) 1 → SSs Γ (cxOf (L2.CX P w) P w K mg base ["script", "at", "most", "size", "i"] "_law_lines" (defScope s__law_lines) fa cdv A outer s H EE) (fun cls d _ H2 => EE cls d H2) (defBody s__law_lines) f} :=
  ⟨_, fun {_ P w K mg base Ca Γ} gO T fa cdv A outer s H EE C =>
  (sss_cons (ss_set 3 C (se_call C (ok__law_pick gO T) rfl (sa_cons (sv 0) (sa_cons (sv 1) (sa_cons (se_op opAdd osAdd (sv 2) se_int) sa_nil)))))
  (sss_one (ss_ret (se_callTy call_tuple_of csTup rfl T.n_tuple bt_tuple (sa_cons (SF.se (sf_lc C (own := [("i", 4)]) (si_range1 rfl T.n_range (sa_cons (sv 3) sa_nil)) (blkOk_by (N := ["script", "at", "most", "size", "i"]) (sc := defScope s__law_lines) (by decide +kernel)) (fun _ _ _ _ _ => (sg_name 4 C.blk.nd)) (fun _ _ _ _ _ => sts_nil) (fun _ _ _ _ _ => (se_ix ix_seq osIx (se_tup (sa_cons se_str (sa_cons se_str (sa_cons se_str (sa_cons se_str (sa_cons se_str (sa_cons se_str sa_nil))))))) (se_call C.blk (ok__law_pick gO T) rfl (sa_cons (sv 0) (sa_cons (se_op opAdd osAdd (se_op opAdd osAdd (sv 1) se_int) (sv 4)) (sa_cons se_int sa_nil)))))))) sa_nil)))))⟩
def m__law_lines : List D → R D := bodyM 5 3 pk__law_lines.1
theorem ok__law_lines [TabN] {P : Program} {w : World} {K : PySem.W.Frag} {mg : Str → Option Value} {base : Heap} {Ca : Nat → Addr} {Γ : Gam} (gO : GamOk Γ P w Ca) (T : Tx K mg Ca base) : Cal Γ P w K mg base "_law_lines" 2 ["script", "at", "most"] m__law_lines := by
  obtain ⟨f, fd, F, hm, hb⟩ := T.f__law_lines
  exact cal_mk F sc__law_lines hm hb fun cdv A outer s H EE C => pk__law_lines.2 gO T f cdv A outer s H EE C
theorem sc_is_file : FnScope ["candidate"] ["candidate"] (defScope s_is_file) := ⟨rfl, rfl, rfl, by decide +kernel, rfl, by decide +kernel, by decide +kernel⟩
def pk_is_file : {f : En → RS // ∀ [TabN] {P : Program} {w : World} {K : PySem.W.Frag} {mg : Str → Option Value} {base : Heap} {Ca : Nat → Addr} {Γ : Gam} (gO : GamOk Γ P w Ca) (T : Tx K mg Ca base) (fa : Addr) (cdv : Value) (A : Around) (outer : List Env) (s : Shared) (H : Hp) (EE : XK),
    Ct (cxOf (L2.CX P w) P w K mg base ["candidate"] "is_file" (defScope s_is_file) fa cdv A outer s H EE) (fun cls d _ H2 => EE cls d H2) 2 → SSs Γ (cxOf (L2.CX P w) P w K mg base ["candidate"] "is_file" (defScope s_is_file) fa cdv A outer s H EE) (fun cls d _ H2 => EE cls d H2) (defBody s_is_file) f} :=
  ⟨_, fun {_ P w K mg base Ca Γ} gO T fa cdv A outer s H EE C =>
  (sss_one (ss_ret (se_call C (ok_are_lines gO T) rfl (sa_cons (sv 0) (sa_cons (se_gintE T.g_MAX_FILE rfl) sa_nil)))))⟩
def m_is_file : List D → R D := bodyM 1 1 pk_is_file.1
theorem ok_is_file [TabN] {P : Program} {w : World} {K : PySem.W.Frag} {mg : Str → Option Value} {base : Heap} {Ca : Nat → Addr} {Γ : Gam} (gO : GamOk Γ P w Ca) (T : Tx K mg Ca base) : Cal Γ P w K mg base "is_file" 3 ["candidate"] m_is_file := by
  obtain ⟨f, fd, F, hm, hb⟩ := T.f_is_file
  exact cal_mk F sc_is_file hm hb fun cdv A outer s H EE C => pk_is_file.2 gO T f cdv A outer s H EE C
theorem sc_is_hunk : FnScope ["candidate", "start", "before", "old", "new", "after", "part"] ["candidate"] (defScope s_is_hunk) := ⟨rfl, rfl, rfl, by decide +kernel, rfl, by decide +kernel, by decide +kernel⟩
def pk_is_hunk : {f : En → RS // ∀ [TabN] {P : Program} {w : World} {K : PySem.W.Frag} {mg : Str → Option Value} {base : Heap} {Ca : Nat → Addr} {Γ : Gam} (gO : GamOk Γ P w Ca) (T : Tx K mg Ca base) (fa : Addr) (cdv : Value) (A : Around) (outer : List Env) (s : Shared) (H : Hp) (EE : XK),
    Ct (cxOf (L2.CX P w) P w K mg base ["candidate", "start", "before", "old", "new", "after", "part"] "is_hunk" (defScope s_is_hunk) fa cdv A outer s H EE) (fun cls d _ H2 => EE cls d H2) 2 → SSs Γ (cxOf (L2.CX P w) P w K mg base ["candidate", "start", "before", "old", "new", "after", "part"] "is_hunk" (defScope s_is_hunk) fa cdv A outer s H EE) (fun cls d _ H2 => EE cls d H2) (defBody s_is_hunk) f} :=
  ⟨_, fun {_ P w K mg base Ca Γ} gO T fa cdv A outer s H EE C =>
  (sss_cons (ss_if (SW.st (sw_or (st_not (st_val (se_isi .tuple (sv 0) bt_isinstance bt_tuple rfl T.n_isinstance rfl T.n_tuple))) (sw_or (st_cmp (op_neD C.u64) osNe (se_callB call_len csLen rfl T.n_len bt_len (sa_cons (sv 0) sa_nil)) se_int) (sw_or1 (st_not (st_val (se_call C (ok_is_int gO T) rfl (sa_cons (se_ix ix_seq osIx (sv 0) se_int) (sa_cons se_int (sa_cons (se_gintE T.g_MAX_FILE rfl) sa_nil)))))))))) (sss_one (ss_ret se_bl)) sss_nil)
  (sss_cons (ss_if (st_not (st_val (se_callB (cr_all C.calm) csAll rfl T.n_all bt_all (sa_cons (SF.se (sf_lc C (own := [("part", 6)]) (si_seq (se_slice slAll ssSl (sv 0) (so_some se_int) so_none)) (blkOk_by (N := ["candidate", "start", "before", "old", "new", "after", "part"]) (sc := defScope s_is_hunk) (by decide +kernel)) (fun _ _ _ _ _ => (sg_name 6 C.blk.nd)) (fun _ _ _ _ _ => sts_nil) (fun _ _ _ _ _ => (se_call C.blk (ok_are_lines gO T) rfl (sa_cons (sv 6) (sa_cons (se_gintE T.g_MAX_PART rfl) sa_nil)))))) sa_nil)))) (sss_one (ss_ret se_bl)) sss_nil)
  (sss_cons (ss_asg (sv 0) (sg_tup C.calm (sgs_cons (sg_name 1 C.nd) (sgs_cons (sg_name 2 C.nd) (sgs_cons (sg_name 3 C.nd) (sgs_cons (sg_name 4 C.nd) (sgs_cons (sg_name 5 C.nd) sgs_nil))))) (putAll_len (putAll_len (putAll_len (putAll_len (putAll_len putNil_len)))))))
  (sss_one (ss_ret (se_and (se_cmp (op_neD C.u64) osNe (se_op opAdd osAdd (se_op opAdd osAdd (sv 2) (sv 3)) (sv 5)) (se_tup sa_nil)) (se_one (se_cmp (op_neD C.u64) osNe (sv 3) (sv 4)))))))))⟩
def m_is_hunk : List D → R D := bodyM 7 1 pk_is_hunk.1
theorem ok_is_hunk [TabN] {P : Program} {w : World} {K : PySem.W.Frag} {mg : Str → Option Value} {base : Heap} {Ca : Nat → Addr} {Γ : Gam} (gO : GamOk Γ P w Ca) (T : Tx K mg Ca base) : Cal Γ P w K mg base "is_hunk" 3 ["candidate"] m_is_hunk := by
  obtain ⟨f, fd, F, hm, hb⟩ := T.f_is_hunk
  exact cal_mk F sc_is_hunk hm hb fun cdv A outer s H EE C => pk_is_hunk.2 gO T f cdv A outer s H EE C
theorem sc_find_nearest : FnScope ["hunk", "file", "found", "place"] ["hunk", "file"] (defScope s_find_nearest) := ⟨rfl, rfl, rfl, by decide +kernel, rfl, by decide +kernel, by decide +kernel⟩
def pk_find_nearest : {f : En → RS // ∀ [TabN] {P : Program} {w : World} {K : PySem.W.Frag} {mg : Str → Option Value} {base : Heap} {Ca : Nat → Addr} {Γ : Gam} (gO : GamOk Γ P w Ca) (T : Tx K mg Ca base) (fa : Addr) (cdv : Value) (A : Around) (outer : List Env) (s : Shared) (H : Hp) (EE : XK),
    Ct (cxOf (L2.CX P w) P w K mg base ["hunk", "file", "found", "place"] "find_nearest" (defScope s_find_nearest) fa cdv A outer s H EE) (fun cls d _ H2 => EE cls d H2) 2 → SSs Γ (cxOf (L2.CX P w) P w K mg base ["hunk", "file", "found", "place"] "find_nearest" (defScope s_find_nearest) fa cdv A outer s H EE) (fun cls d _ H2 => EE cls d H2) (defBody s_find_nearest) f} :=
  ⟨_, fun {_ P w K mg base Ca Γ} gO T fa cdv A outer s H EE C =>
  (sss_cons (ss_setLc 2 C (own := [("place", 3)]) (si_seq (se_call C (ok_find_places gO T) rfl (sa_cons (sv 0) (sa_cons (sv 1) sa_nil)))) (blkOk_by (N := ["hunk", "file", "found", "place"]) (sc := defScope s_find_nearest) (by decide +kernel)) (fun _ _ _ _ _ => (sg_name 3 C.blk.nd)) (fun _ _ _ _ _ => sts_nil) (fun _ _ _ _ _ => (se_tup (sa_cons (se_callB call_abs csAbs rfl T.n_abs bt_abs (sa_cons (se_op op_sub osSub (sv 3) (se_ix ix_seq osIx (sv 0) se_int)) sa_nil)) (sa_cons (sv 3) sa_nil)))))
  (sss_one (ss_ret (se_if (st_cmp (op_neD C.u64) osNe (sv 2) (se_lst sa_nil)) (se_ix ix_seq osIx (se_callB (call_minP C.calm C.u64) csMin rfl T.n_min bt_min (sa_cons (sv 2) sa_nil)) se_int) se_non))))⟩
def m_find_nearest : List D → R D := bodyM 4 2 pk_find_nearest.1
theorem ok_find_nearest [TabN] {P : Program} {w : World} {K : PySem.W.Frag} {mg : Str → Option Value} {base : Heap} {Ca : Nat → Addr} {Γ : Gam} (gO : GamOk Γ P w Ca) (T : Tx K mg Ca base) : Cal Γ P w K mg base "find_nearest" 3 ["hunk", "file"] m_find_nearest := by
  obtain ⟨f, fd, F, hm, hb⟩ := T.f_find_nearest
  exact cal_mk F sc_find_nearest hm hb fun cdv A outer s H EE C => pk_find_nearest.2 gO T f cdv A outer s H EE C
theorem sc__law_near : FnScope ["hunk", "lines", "rows", "gap"] ["hunk", "lines"] (defScope s__law_near) := ⟨rfl, rfl, rfl, by decide +kernel, rfl, by decide +kernel, by decide +kernel⟩
def pk__law_near : {f : En → RS // ∀ [TabN] {P : Program} {w : World} {K : PySem.W.Frag} {mg : Str → Option Value} {base : Heap} {Ca : Nat → Addr} {Γ : Gam} (gO : GamOk Γ P w Ca) (T : Tx K mg Ca base) (fa : Addr) (cdv : Value) (A : Around) (outer : List Env) (s : Shared) (H : Hp) (EE : XK),
    Ct (cxOf (L2.CX P w) P w K mg base ["hunk", "lines", "rows", "gap"] "_law_near" (defScope s__law_near) fa cdv A outer s H EE) (fun cls d _ H2 => EE cls d H2) 2 → SSs Γ (cxOf (L2.CX P w) P w K mg base ["hunk", "lines", "rows", "gap"] "_law_near" (defScope s__law_near) fa cdv A outer s H EE) (fun cls d _ H2 => EE cls d H2) (defBody s__law_near) f} :=
  ⟨_, fun {_ P w K mg base Ca Γ} gO T fa cdv A outer s H EE C =>
  (sss_cons (ss_set 2 C (se_callB (call_sorted C.u64) csSorted rfl T.n_sorted bt_sorted (sa_cons (SF.se (sf_lc C (own := [("gap", 3)]) (si_seq (se_call C (ok__law_spots gO T) rfl (sa_cons (sv 0) (sa_cons (sv 1) sa_nil)))) (blkOk_by (N := ["hunk", "lines", "rows", "gap"]) (sc := defScope s__law_near) (by decide +kernel)) (fun _ _ _ _ _ => (sg_name 3 C.blk.nd)) (fun _ _ _ _ _ => sts_nil) (fun _ _ _ _ _ => (se_tup (sa_cons (se_callB call_abs csAbs rfl T.n_abs bt_abs (sa_cons (se_op op_sub osSub (sv 3) (se_ix ix_seq osIx (sv 0) se_int)) sa_nil)) (sa_cons (sv 3) sa_nil)))))) sa_nil)))
  (sss_one (ss_ret (se_if (st_cmp (op_neD C.u64) osNe (sv 2) (se_lst sa_nil)) (se_ix ix_seq osIx (se_ix ix_seq osIx (sv 2) se_int) se_int) se_non))))⟩
def m__law_near : List D → R D := bodyM 4 2 pk__law_near.1
theorem ok__law_near [TabN] {P : Program} {w : World} {K : PySem.W.Frag} {mg : Str → Option Value} {base : Heap} {Ca : Nat → Addr} {Γ : Gam} (gO : GamOk Γ P w Ca) (T : Tx K mg Ca base) : Cal Γ P w K mg base "_law_near" 3 ["hunk", "lines"] m__law_near := by
  obtain ⟨f, fd, F, hm, hb⟩ := T.f__law_near
  exact cal_mk F sc__law_near hm hb fun cdv A outer s H EE C => pk__law_near.2 gO T f cdv A outer s H EE C
theorem sc__law_hunk : FnScope ["script", "at", "file", "first", "last", "before", "old", "after", "new", "start"] ["script", "at", "file"] (defScope s__law_hunk) := ⟨rfl, rfl, rfl, by decide +kernel, rfl, by decide +kernel, by decide +kernel⟩
def pk__law_hunk : {f : En → RS // ∀ [TabN] {P : Program} {w : World} {K : PySem.W.Frag} {mg : Str → Option Value} {base : Heap} {Ca : Nat → Addr} {Γ : Gam} (gO : GamOk Γ P w Ca) (T : Tx K mg Ca base) (fa : Addr) (cdv : Value) (A : Around) (outer : List Env) (s : Shared) (H : Hp) (EE : XK),
    Ct (cxOf (L2.CX P w) P w K mg base ["script", "at", "file", "first", "last", "before", "old", "after", "new", "start"] "_law_hunk" (defScope s__law_hunk) fa cdv A outer s H EE) (fun cls d _ H2 => EE cls d H2) 2 → SSs Γ (cxOf (L2.CX P w) P w K mg base ["script", "at", "file", "first", "last", "before", "old", "after", "new", "start"] "_law_hunk" (defScope s__law_hunk) fa cdv A outer s H EE) (fun cls d _ H2 => EE cls d H2) (defBody s__law_hunk) f} :=
  ⟨_, fun {_ P w K mg base Ca Γ} gO T fa cdv A outer s H EE C =>
  (sss_cons (ss_set 3 C (se_call C (ok__law_pick gO T) rfl (sa_cons (sv 0) (sa_cons (sv 1) (sa_cons (se_op opAdd osAdd (se_callB call_len csLen rfl T.n_len bt_len (sa_cons (sv 2) sa_nil)) se_int) sa_nil)))))
  (sss_cons (ss_set 4 C (se_callB (call_min2 C.calm) csMin2 rfl T.n_min bt_min (sa_cons (se_op opAdd osAdd (sv 3) (se_call C (ok__law_pick gO T) rfl (sa_cons (sv 0) (sa_cons (se_op opAdd osAdd (sv 1) se_int) (sa_cons se_int sa_nil))))) (sa_cons (se_callB call_len csLen rfl T.n_len bt_len (sa_cons (sv 2) sa_nil)) sa_nil))))
  (sss_cons (ss_set 5 C (se_slice slAll ssSl (sv 2) (so_some (se_callB (call_max2 C.calm) csMax2 rfl T.n_max bt_max (sa_cons (se_op op_sub osSub (sv 3) (se_call C (ok__law_pick gO T) rfl (sa_cons (sv 0) (sa_cons (se_op opAdd osAdd (sv 1) se_int) (sa_cons se_int sa_nil))))) (sa_cons se_int sa_nil)))) (so_some (sv 3))))
  (sss_cons (ss_set 6 C (se_slice slAll ssSl (sv 2) (so_some (sv 3)) (so_some (sv 4))))
  (sss_cons (ss_set 7 C (se_slice slAll ssSl (sv 2) (so_some (sv 4)) (so_some (se_op opAdd osAdd (sv 4) (se_call C (ok__law_pick gO T) rfl (sa_cons (sv 0) (sa_cons (se_op opAdd osAdd (sv 1) se_int) (sa_cons se_int sa_nil))))))))
  (sss_cons (ss_set 8 C (se_call C (ok__law_lines gO T) rfl (sa_cons (sv 0) (sa_cons (se_op opAdd osAdd (sv 1) se_int) (sa_cons se_int sa_nil)))))
  (sss_cons (ss_if (st_cmp (op_eqD C.u64) osEq (se_call C (ok__law_pick gO T) rfl (sa_cons (sv 0) (sa_cons (se_op opAdd osAdd (sv 1) se_int) (sa_cons se_int sa_nil)))) se_int) (sss_one (ss_set 6 C (se_call C (ok__law_lines gO T) rfl (sa_cons (sv 0) (sa_cons (se_op opAdd osAdd (sv 1) se_int) (sa_cons se_int sa_nil)))))) sss_nil)
  (sss_cons (ss_if (st_cmp (op_eqD C.u64) osEq (se_op opAdd osAdd (se_op opAdd osAdd (sv 5) (sv 6)) (sv 7)) (se_tup sa_nil)) (sss_one (ss_set 6 C (se_tup (sa_cons se_str sa_nil)))) sss_nil)
  (sss_cons (ss_set 9 C (se_op op_mod osMod (se_op opAdd osAdd (se_callB (call_max2 C.calm) csMax2 rfl T.n_max bt_max (sa_cons (se_op op_sub osSub (sv 3) (se_callB call_len csLen rfl T.n_len bt_len (sa_cons (sv 5) sa_nil))) (sa_cons se_int sa_nil))) (se_call C (ok__law_pick gO T) rfl (sa_cons (sv 0) (sa_cons (se_op opAdd osAdd (sv 1) se_int) (sa_cons se_int sa_nil))))) se_int))
  (sss_one (ss_ret (se_tup (sa_cons (sv 9) (sa_cons (sv 5) (sa_cons (sv 6) (sa_cons (se_if (st_cmp (op_neD C.u64) osNe (sv 8) (sv 6)) (sv 8) (se_op opAdd osAdd (sv 8) (se_tup (sa_cons se_str sa_nil)))) (sa_cons (sv 7) sa_nil)))))))))))))))))⟩
def m__law_hunk : List D → R D := bodyM 10 3 pk__law_hunk.1
theorem ok__law_hunk [TabN] {P : Program} {w : World} {K : PySem.W.Frag} {mg : Str → Option Value} {base : Heap} {Ca : Nat → Addr} {Γ : Gam} (gO : GamOk Γ P w Ca) (T : Tx K mg Ca base) : Cal Γ P w K mg base "_law_hunk" 3 ["script", "at", "file"] m__law_hunk := by
  obtain ⟨f, fd, F, hm, hb⟩ := T.f__law_hunk
  exact cal_mk F sc__law_hunk hm hb fun cdv A outer s H EE C => pk__law_hunk.2 gO T f cdv A outer s H EE C
theorem sc_check_file : FnScope ["value"] ["value"] (defScope s_check_file) := ⟨rfl, rfl, rfl, by decide +kernel, rfl, by decide +kernel, by decide +kernel⟩
def pk_check_file : {f : En → RS // ∀ [TabN] {P : Program} {w : World} {K : PySem.W.Frag} {mg : Str → Option Value} {base : Heap} {Ca : Nat → Addr} {Γ : Gam} (gO : GamOk Γ P w Ca) (T : Tx K mg Ca base) (fa : Addr) (cdv : Value) (A : Around) (outer : List Env) (s : Shared) (H : Hp) (EE : XK),
    Ct (cxOf (L2.CX P w) P w K mg base ["value"] "check_file" (defScope s_check_file) fa cdv A outer s H EE) (fun cls d _ H2 => EE cls d H2) 3 → SSs Γ (cxOf (L2.CX P w) P w K mg base ["value"] "check_file" (defScope s_check_file) fa cdv A outer s H EE) (fun cls d _ H2 => EE cls d H2) (defBody s_check_file) f} :=
  ⟨_, fun {_ P w K mg base Ca Γ} gO T fa cdv A outer s H EE C =>
  (sss_one (ss_if (st_not (st_val (se_call C (ok_is_file gO T) rfl (sa_cons (sv 0) sa_nil)))) (sss_one (ss_raiseX 1 C T.x_InvalidFile (gO.cls 1) rfl)) sss_nil))⟩
def m_check_file : List D → R D := bodyM 1 1 pk_check_file.1
theorem ok_check_file [TabN] {P : Program} {w : World} {K : PySem.W.Frag} {mg : Str → Option Value} {base : Heap} {Ca : Nat → Addr} {Γ : Gam} (gO : GamOk Γ P w Ca) (T : Tx K mg Ca base) : Cal Γ P w K mg base "check_file" 4 ["value"] m_check_file := by
  obtain ⟨f, fd, F, hm, hb⟩ := T.f_check_file
  exact cal_mk F sc_check_file hm hb fun cdv A outer s H EE C => pk_check_file.2 gO T f cdv A outer s H EE C
theorem sc_check_hunk : FnScope ["value"] ["value"] (defScope s_check_hunk) := ⟨rfl, rfl, rfl, by decide +kernel, rfl, by decide +kernel, by decide +kernel⟩
def pk_check_hunk : {f : En → RS // ∀ [TabN] {P : Program} {w : World} {K : PySem.W.Frag} {mg : Str → Option Value} {base : Heap} {Ca : Nat → Addr} {Γ : Gam} (gO : GamOk Γ P w Ca) (T : Tx K mg Ca base) (fa : Addr) (cdv : Value) (A : Around) (outer : List Env) (s : Shared) (H : Hp) (EE : XK),
    Ct (cxOf (L2.CX P w) P w K mg base ["value"] "check_hunk" (defScope s_check_hunk) fa cdv A outer s H EE) (fun cls d _ H2 => EE cls d H2) 3 → SSs Γ (cxOf (L2.CX P w) P w K mg base ["value"] "check_hunk" (defScope s_check_hunk) fa cdv A outer s H EE) (fun cls d _ H2 => EE cls d H2) (defBody s_check_hunk) f} :=
  ⟨_, fun {_ P w K mg base Ca Γ} gO T fa cdv A outer s H EE C =>
  (sss_one (ss_if (st_not (st_val (se_call C (ok_is_hunk gO T) rfl (sa_cons (sv 0) sa_nil)))) (sss_one (ss_raiseX 2 C T.x_InvalidHunk (gO.cls 2) rfl)) sss_nil))⟩
def m_check_hunk : List D → R D := bodyM 1 1 pk_check_hunk.1
theorem ok_check_hunk [TabN] {P : Program} {w : World} {K : PySem.W.Frag} {mg : Str → Option Value} {base : Heap} {Ca : Nat → Addr} {Γ : Gam} (gO : GamOk Γ P w Ca) (T : Tx K mg Ca base) : Cal Γ P w K mg base "check_hunk" 4 ["value"] m_check_hunk := by
  obtain ⟨f, fd, F, hm, hb⟩ := T.f_check_hunk
  exact cal_mk F sc_check_hunk hm hb fun cdv A outer s H EE C => pk_check_hunk.2 gO T f cdv A outer s H EE C
theorem sc_after_hunk : FnScope ["hunk", "lines", "place", "found"] ["hunk", "lines"] (defScope s_after_hunk) := ⟨rfl, rfl, rfl, by decide +kernel, rfl, by decide +kernel, by decide +kernel⟩
def pk_after_hunk : {f : En → RS // ∀ [TabN] {P : Program} {w : World} {K : PySem.W.Frag} {mg : Str → Option Value} {base : Heap} {Ca : Nat → Addr} {Γ : Gam} (gO : GamOk Γ P w Ca) (T : Tx K mg Ca base) (fa : Addr) (cdv : Value) (A : Around) (outer : List Env) (s : Shared) (H : Hp) (EE : XK),
    Ct (cxOf (L2.CX P w) P w K mg base ["hunk", "lines", "place", "found"] "after_hunk" (defScope s_after_hunk) fa cdv A outer s H EE) (fun cls d _ H2 => EE cls d H2) 3 → SSs Γ (cxOf (L2.CX P w) P w K mg base ["hunk", "lines", "place", "found"] "after_hunk" (defScope s_after_hunk) fa cdv A outer s H EE) (fun cls d _ H2 => EE cls d H2) (defBody s_after_hunk) f} :=
  ⟨_, fun {_ P w K mg base Ca Γ} gO T fa cdv A outer s H EE C =>
  (sss_cons (ss_set 2 C (se_call C (ok_find_nearest gO T) rfl (sa_cons (sv 0) (sa_cons (sv 1) sa_nil))))
  (sss_cons (ss_if (st_cmp opIs osIs (sv 2) se_non) (sss_one (ss_ret se_non)) sss_nil)
  (sss_cons (ss_set 3 C (se_call C (ok_apply_there gO T) rfl (sa_cons (sv 0) (sa_cons (sv 1) (sa_cons (sv 2) sa_nil)))))
  (sss_one (ss_ret (se_if (st_cmp op_le osLe (se_callB call_len csLen rfl T.n_len bt_len (sa_cons (sv 3) sa_nil)) (se_gintE T.g_MAX_FILE rfl)) (sv 3) se_non))))))⟩
def m_after_hunk : List D → R D := bodyM 4 2 pk_after_hunk.1
theorem ok_after_hunk [TabN] {P : Program} {w : World} {K : PySem.W.Frag} {mg : Str → Option Value} {base : Heap} {Ca : Nat → Addr} {Γ : Gam} (gO : GamOk Γ P w Ca) (T : Tx K mg Ca base) : Cal Γ P w K mg base "after_hunk" 4 ["hunk", "lines"] m_after_hunk := by
  obtain ⟨f, fd, F, hm, hb⟩ := T.f_after_hunk
  exact cal_mk F sc_after_hunk hm hb fun cdv A outer s H EE C => pk_after_hunk.2 gO T f cdv A outer s H EE C
theorem sc__law_put : FnScope ["hunk", "lines", "gap", "body", "fresh", "found"] ["hunk", "lines"] (defScope s__law_put) := ⟨rfl, rfl, rfl, by decide +kernel, rfl, by decide +kernel, by decide +kernel⟩
def pk__law_put : {f : En → RS // ∀ [TabN] {P : Program} {w : World} {K : PySem.W.Frag} {mg : Str → Option Value} {base : Heap} {Ca : Nat → Addr} {Γ : Gam} (gO : GamOk Γ P w Ca) (T : Tx K mg Ca base) (fa : Addr) (cdv : Value) (A : Around) (outer : List Env) (s : Shared) (H : Hp) (EE : XK),
    Ct (cxOf (L2.CX P w) P w K mg base ["hunk", "lines", "gap", "body", "fresh", "found"] "_law_put" (defScope s__law_put) fa cdv A outer s H EE) (fun cls d _ H2 => EE cls d H2) 3 → SSs Γ (cxOf (L2.CX P w) P w K mg base ["hunk", "lines", "gap", "body", "fresh", "found"] "_law_put" (defScope s__law_put) fa cdv A outer s H EE) (fun cls d _ H2 => EE cls d H2) (defBody s__law_put) f} :=
  ⟨_, fun {_ P w K mg base Ca Γ} gO T fa cdv A outer s H EE C =>
  (sss_cons (ss_asg (se_tup (sa_cons (se_call C (ok__law_near gO T) rfl (sa_cons (sv 0) (sa_cons (sv 1) sa_nil))) (sa_cons (se_call C (ok__law_body gO T) rfl (sa_cons (sv 0) sa_nil)) sa_nil))) (sg_tup C.calm (sgs_cons (sg_name 2 C.nd) (sgs_cons (sg_tup C.calm (sgs_cons (sg_name 3 C.nd) (sgs_cons (sg_name 4 C.nd) sgs_nil)) (putAll_len (putAll_len putNil_len))) sgs_nil)) (putAll_len (putAll_len putNil_len))))
  (sss_cons (ss_if (st_cmp opIs osIs (sv 2) se_non) (sss_one (ss_ret se_non)) sss_nil)
  (sss_cons (ss_set 5 C (se_op opAdd osAdd (se_op opAdd osAdd (se_slice slAll ssSl (sv 1) so_none (so_some (sv 2))) (sv 4)) (se_slice slAll ssSl (sv 1) (so_some (se_op opAdd osAdd (sv 2) (se_callB call_len csLen rfl T.n_len bt_len (sa_cons (sv 3) sa_nil)))) so_none)))
  (sss_one (ss_ret (se_if (st_cmp op_le osLe (se_callB call_len csLen rfl T.n_len bt_len (sa_cons (sv 5) sa_nil)) se_int) (sv 5) se_non))))))⟩
def m__law_put : List D → R D := bodyM 6 2 pk__law_put.1
theorem ok__law_put [TabN] {P : Program} {w : World} {K : PySem.W.Frag} {mg : Str → Option Value} {base : Heap} {Ca : Nat → Addr} {Γ : Gam} (gO : GamOk Γ P w Ca) (T : Tx K mg Ca base) : Cal Γ P w K mg base "_law_put" 4 ["hunk", "lines"] m__law_put := by
  obtain ⟨f, fd, F, hm, hb⟩ := T.f__law_put
  exact cal_mk F sc__law_put hm hb fun cdv A outer s H EE C => pk__law_put.2 gO T f cdv A outer s H EE C
theorem sc__law_chosen : FnScope ["script", "at", "lines", "sort"] ["script", "at", "lines"] (defScope s__law_chosen) := ⟨rfl, rfl, rfl, by decide +kernel, rfl, by decide +kernel, by decide +kernel⟩
def pk__law_chosen : {f : En → RS // ∀ [TabN] {P : Program} {w : World} {K : PySem.W.Frag} {mg : Str → Option Value} {base : Heap} {Ca : Nat → Addr} {Γ : Gam} (gO : GamOk Γ P w Ca) (T : Tx K mg Ca base) (fa : Addr) (cdv : Value) (A : Around) (outer : List Env) (s : Shared) (H : Hp) (EE : XK),
    Ct (cxOf (L2.CX P w) P w K mg base ["script", "at", "lines", "sort"] "_law_chosen" (defScope s__law_chosen) fa cdv A outer s H EE) (fun cls d _ H2 => EE cls d H2) 3 → SSs Γ (cxOf (L2.CX P w) P w K mg base ["script", "at", "lines", "sort"] "_law_chosen" (defScope s__law_chosen) fa cdv A outer s H EE) (fun cls d _ H2 => EE cls d H2) (defBody s__law_chosen) f} :=
  ⟨_, fun {_ P w K mg base Ca Γ} gO T fa cdv A outer s H EE C =>
  (sss_cons (ss_set 3 C (se_call C (ok__law_pick gO T) rfl (sa_cons (sv 0) (sa_cons (se_op opAdd osAdd (sv 1) se_int) (sa_cons se_int sa_nil)))))
  (sss_cons (ss_if (st_cmp op_lt osLt (sv 3) se_int) (sss_one (ss_ret (se_tup (sa_cons se_int (sa_cons (se_tup sa_nil) (sa_cons (se_tup (sa_cons se_str sa_nil)) (sa_cons (se_ix ix_seq osIx (se_tup (sa_cons (se_tup (sa_cons se_str (sa_cons se_str sa_nil))) (sa_cons (se_tup (sa_cons se_str sa_nil)) (sa_cons (se_tup (sa_cons se_str (sa_cons se_str sa_nil))) sa_nil)))) (sv 3)) (sa_cons (se_tup sa_nil) sa_nil)))))))) sss_nil)
  (sss_cons (ss_if (SW.st (sw_and (st_cmp (op_eqD C.u64) osEq (sv 3) se_int) (sw_and1 (st_cmp (op_neD C.u64) osNe (sv 2) (se_tup sa_nil))))) (sss_one (ss_ret (se_tup (sa_cons se_int (sa_cons (se_tup sa_nil) (sa_cons (se_slice slAll ssSl (sv 2) so_none (so_some se_int)) (sa_cons (se_op opAdd osAdd (se_slice slAll ssSl (sv 2) so_none (so_some se_int)) (se_tup (sa_cons se_str sa_nil))) (sa_cons (se_tup sa_nil) sa_nil)))))))) sss_nil)
  (sss_one (ss_ret (se_call C (ok__law_hunk gO T) rfl (sa_cons (sv 0) (sa_cons (sv 1) (sa_cons (sv 2) sa_nil)))))))))⟩
def m__law_chosen : List D → R D := bodyM 4 3 pk__law_chosen.1
theorem ok__law_chosen [TabN] {P : Program} {w : World} {K : PySem.W.Frag} {mg : Str → Option Value} {base : Heap} {Ca : Nat → Addr} {Γ : Gam} (gO : GamOk Γ P w Ca) (T : Tx K mg Ca base) : Cal Γ P w K mg base "_law_chosen" 4 ["script", "at", "lines"] m__law_chosen := by
  obtain ⟨f, fd, F, hm, hb⟩ := T.f__law_chosen
  exact cal_mk F sc__law_chosen hm hb fun cdv A outer s H EE C => pk__law_chosen.2 gO T f cdv A outer s H EE C
theorem sc_W_patch : FnScope ["self", "hunk", "lines", "refused", "found"] ["self", "hunk"] (defScope s_W_patch) := ⟨rfl, rfl, rfl, by decide +kernel, rfl, by decide +kernel, by decide +kernel⟩
def pk_W_patch : {f : En → RS // ∀ [TabN] {P : Program} {w : World} {K : PySem.W.Frag} {mg : Str → Option Value} {base : Heap} {Ca : Nat → Addr} {Γ : Gam} (gO : GamOk Γ P w Ca) (T : Tx K mg Ca base) (fa : Addr) (cdv : Value) (A : Around) (outer : List Env) (s : Shared) (H : Hp) (EE : XK),
    Ct (cxOf (L2.CX P w) P w K mg base ["self", "hunk", "lines", "refused", "found"] "WorkFile.patch" (defScope s_W_patch) fa cdv A outer s H EE) (fun cls d _ H2 => EE cls d H2) 4 → SSs Γ (cxOf (L2.CX P w) P w K mg base ["self", "hunk", "lines", "refused", "found"] "WorkFile.patch" (defScope s_W_patch) fa cdv A outer s H EE) (fun cls d _ H2 => EE cls d H2) (defBody s_W_patch) f} :=
  ⟨_, fun {_ P w K mg base Ca Γ} gO T fa cdv A outer s H EE C =>
  (sss_cons (ss_expr (se_call C (ok_check_hunk gO T) rfl (sa_cons (sv 1) sa_nil)))
  (sss_cons (ss_asg (se_attr 0 gO (sv 0) (at_state T)) (sg_tup C.calm (sgs_cons (sg_name 2 C.nd) (sgs_cons (sg_name 3 C.nd) sgs_nil)) (putAll_len (putAll_len putNil_len))))
  (sss_cons (ss_set 4 C (se_call C (ok_after_hunk gO T) rfl (sa_cons (sv 1) (sa_cons (sv 2) sa_nil))))
  (sss_cons (ss_if (st_cmp opIs osIs (sv 4) se_non) sss_never sss_nil)
  sss_never))))⟩
def m_W_patch : List D → R D := bodyM 5 2 pk_W_patch.1
theorem ok_W_patch [TabN] {P : Program} {w : World} {K : PySem.W.Frag} {mg : Str → Option Value} {base : Heap} {Ca : Nat → Addr} {Γ : Gam} (gO : GamOk Γ P w Ca) (T : Tx K mg Ca base) : CalM Γ P w K mg base "patch" 5 ["self", "hunk"] m_W_patch := by
  obtain ⟨C, f, fd, h1, h2, h3, F, hb⟩ := T.f_W_patch
  exact calM_mk h1 h2 h3 F sc_W_patch hb fun cdv A outer s H EE C => pk_W_patch.2 gO T f cdv A outer s H EE C
theorem sc_W_retry : FnScope ["self", "lines", "refused", "left", "hunk", "found", "many"] ["self"] (defScope s_W_retry) := ⟨rfl, rfl, rfl, by decide +kernel, rfl, by decide +kernel, by decide +kernel⟩
def pk_W_retry : {f : En → RS // ∀ [TabN] {P : Program} {w : World} {K : PySem.W.Frag} {mg : Str → Option Value} {base : Heap} {Ca : Nat → Addr} {Γ : Gam} (gO : GamOk Γ P w Ca) (T : Tx K mg Ca base) (fa : Addr) (cdv : Value) (A : Around) (outer : List Env) (s : Shared) (H : Hp) (EE : XK),
    Ct (cxOf (L2.CX P w) P w K mg base ["self", "lines", "refused", "left", "hunk", "found", "many"] "WorkFile.retry" (defScope s_W_retry) fa cdv A outer s H EE) (fun cls d _ H2 => EE cls d H2) 4 → SSs Γ (cxOf (L2.CX P w) P w K mg base ["self", "lines", "refused", "left", "hunk", "found", "many"] "WorkFile.retry" (defScope s_W_retry) fa cdv A outer s H EE) (fun cls d _ H2 => EE cls d H2) (defBody s_W_retry) f} :=
  ⟨_, fun {_ P w K mg base Ca Γ} gO T fa cdv A outer s H EE C =>
  (sss_cons (ss_asg (se_attr 0 gO (sv 0) (at_state T)) (sg_tup C.calm (sgs_cons (sg_name 1 C.nd) (sgs_cons (sg_name 2 C.nd) sgs_nil)) (putAll_len (putAll_len putNil_len))))
  (sss_cons (ss_set 3 C (se_tup sa_nil))
  (sss_cons (ss_for C (si_seq (sv 2)) (sg_name 4 C.nd) (sss_cons (ss_set 5 C (se_call C (ok_after_hunk gO T) rfl (sa_cons (sv 4) (sa_cons (sv 1) sa_nil))))
  (sss_one (ss_if (st_cmp opIs osIs (sv 5) se_non) (sss_one (ss_set 3 C (se_op opAdd osAdd (sv 3) (se_tup (sa_cons (sv 4) sa_nil))))) (sss_one (ss_set 1 C (sv 5)))))))
  (sss_cons (ss_set 6 C (se_op op_sub osSub (se_callB call_len csLen rfl T.n_len bt_len (sa_cons (sv 2) sa_nil)) (se_callB call_len csLen rfl T.n_len bt_len (sa_cons (sv 3) sa_nil))))
  (sss_cons (ss_if (st_cmp op_gt osGt (sv 6) se_int) sss_never sss_nil)
  (sss_one (ss_ret (sv 6))))))))⟩
def m_W_retry : List D → R D := bodyM 7 1 pk_W_retry.1
theorem ok_W_retry [TabN] {P : Program} {w : World} {K : PySem.W.Frag} {mg : Str → Option Value} {base : Heap} {Ca : Nat → Addr} {Γ : Gam} (gO : GamOk Γ P w Ca) (T : Tx K mg Ca base) : CalM Γ P w K mg base "retry" 5 ["self"] m_W_retry := by
  obtain ⟨C, f, fd, h1, h2, h3, F, hb⟩ := T.f_W_retry
  exact calM_mk h1 h2 h3 F sc_W_retry hb fun cdv A outer s H EE C => pk_W_retry.2 gO T f cdv A outer s H EE C
theorem sc__law_tried : FnScope ["lines", "refused", "left", "hunk", "found"] ["lines", "refused"] (defScope s__law_tried) := ⟨rfl, rfl, rfl, by decide +kernel, rfl, by decide +kernel, by decide +kernel⟩
def pk__law_tried : {f : En → RS // ∀ [TabN] {P : Program} {w : World} {K : PySem.W.Frag} {mg : Str → Option Value} {base : Heap} {Ca : Nat → Addr} {Γ : Gam} (gO : GamOk Γ P w Ca) (T : Tx K mg Ca base) (fa : Addr) (cdv : Value) (A : Around) (outer : List Env) (s : Shared) (H : Hp) (EE : XK),
    Ct (cxOf (L2.CX P w) P w K mg base ["lines", "refused", "left", "hunk", "found"] "_law_tried" (defScope s__law_tried) fa cdv A outer s H EE) (fun cls d _ H2 => EE cls d H2) 4 → SSs Γ (cxOf (L2.CX P w) P w K mg base ["lines", "refused", "left", "hunk", "found"] "_law_tried" (defScope s__law_tried) fa cdv A outer s H EE) (fun cls d _ H2 => EE cls d H2) (defBody s__law_tried) f} :=
  ⟨_, fun {_ P w K mg base Ca Γ} gO T fa cdv A outer s H EE C =>
  (sss_cons (ss_setOwn 2 C (sf_lst sa_nil))
  (sss_cons (ss_for C (si_seq (sv 1)) (sg_name 3 C.nd) (sss_cons (ss_set 4 C (se_call C (ok__law_put gO T) rfl (sa_cons (sv 3) (sa_cons (sv 0) sa_nil))))
  (sss_one (ss_if (st_cmp opIs osIs (sv 4) se_non) (sss_one (ss_append 2 (sv 3))) (sss_one (ss_set 0 C (sv 4)))))))
  (sss_one (SS.frz 2 (ss_ret (se_tup (sa_cons (sv 0) (sa_cons (sv 2) sa_nil))))))))⟩
def m__law_tried : List D → R D := bodyM 5 2 pk__law_tried.1
theorem ok__law_tried [TabN] {P : Program} {w : World} {K : PySem.W.Frag} {mg : Str → Option Value} {base : Heap} {Ca : Nat → Addr} {Γ : Gam} (gO : GamOk Γ P w Ca) (T : Tx K mg Ca base) : Cal Γ P w K mg base "_law_tried" 5 ["lines", "refused"] m__law_tried := by
  obtain ⟨f, fd, F, hm, hb⟩ := T.f__law_tried
  exact cal_mk F sc__law_tried hm hb fun cdv A outer s H EE C => pk__law_tried.2 gO T f cdv A outer s H EE C
theorem sc_W___init__ : FnScope ["self", "file"] ["self", "file"] (defScope s_W___init__) := ⟨rfl, rfl, rfl, by decide +kernel, rfl, by decide +kernel, by decide +kernel⟩
def pk_W___init__ : {f : (En → R D) × (En → R D) // ∀ [TabN] {P : Program} {w : World} {K : PySem.W.Frag} {mg : Str → Option Value} {base : Heap} {Ca : Nat → Addr} {Γ : Gam} (gO : GamOk Γ P w Ca) (T : Tx K mg Ca base) (fa : Addr) (cdv : Value) (A : Around) (outer : List Env) (s : Shared) (H : Hp) (EE : XK),
    Ct (cxOf (L2.CX P w) P w K mg base ["self", "file"] "WorkFile.__init__" (defScope s_W___init__) fa cdv A outer s H EE) (fun cls d _ H2 => EE cls d H2) 4 → SE Γ (cxOf (L2.CX P w) P w K mg base ["self", "file"] "WorkFile.__init__" (defScope s_W___init__) fa cdv A outer s H EE) (fun cls d _ H2 => EE cls d H2) (sExpr (stAt (defBody s_W___init__) 0)) f.1 ∧ SE Γ (cxOf (L2.CX P w) P w K mg base ["self", "file"] "WorkFile.__init__" (defScope s_W___init__) fa cdv A outer s H EE) (fun cls d _ H2 => EE cls d H2) (sExpr (stAt (defBody s_W___init__) 1)) f.2} :=
  ⟨(_, _), fun {_ P w K mg base Ca Γ} gO T fa cdv A outer s H EE C =>
  ⟨(se_call C (ok_check_file gO T) rfl (sa_cons (sv 1) sa_nil)), (se_tup (sa_cons (sv 1) (sa_cons (se_tup sa_nil) sa_nil)))⟩⟩
def m_W___init__ : D → R D := initM pk_W___init__.1.1 pk_W___init__.1.2
theorem ok_W___init__ [TabN] {P : Program} {w : World} {K : PySem.W.Frag} {mg : Str → Option Value} {base : Heap} {Ca : Nat → Addr} {Γ : Gam} (gO : GamOk Γ P w Ca) (T : Tx K mg Ca base) : CalI Γ P w K mg base "WorkFile" 5 m_W___init__ := by
  obtain ⟨C, f, fd, h1, h2, h3, h4, h5, h6, h7, F, hb⟩ := T.f_W___init__
  exact ⟨C, f, fd, h1, h2, h3, fn_init h4 h5 h6 h7 F sc_W___init__ rfl rfl (fun cdv A outer s H EE C => pk_W___init__.2 gO T f cdv A outer s H EE C) (fun _ => rfl) (fun _ => rfl) (fun _ => rfl) (fun _ => rfl), hb⟩
theorem sc_W_copy : FnScope ["self", "other"] ["self"] (defScope s_W_copy) := ⟨rfl, rfl, rfl, by decide +kernel, rfl, by decide +kernel, by decide +kernel⟩
def pk_W_copy : {f : En → RS // ∀ [TabN] {P : Program} {w : World} {K : PySem.W.Frag} {mg : Str → Option Value} {base : Heap} {Ca : Nat → Addr} {Γ : Gam} (gO : GamOk Γ P w Ca) (T : Tx K mg Ca base) (fa : Addr) (cdv : Value) (A : Around) (outer : List Env) (s : Shared) (H : Hp) (EE : XK),
    Ct (cxOf (L2.CX P w) P w K mg base ["self", "other"] "WorkFile.copy" (defScope s_W_copy) fa cdv A outer s H EE) (fun cls d _ H2 => EE cls d H2) 6 → SSs Γ (cxOf (L2.CX P w) P w K mg base ["self", "other"] "WorkFile.copy" (defScope s_W_copy) fa cdv A outer s H EE) (fun cls d _ H2 => EE cls d H2) (defBody s_W_copy) f} :=
  ⟨_, fun {_ P w K mg base Ca Γ} gO T fa cdv A outer s H EE C =>
  sss_never⟩
def m_W_copy : List D → R D := bodyM 2 1 pk_W_copy.1
theorem ok_W_copy [TabN] {P : Program} {w : World} {K : PySem.W.Frag} {mg : Str → Option Value} {base : Heap} {Ca : Nat → Addr} {Γ : Gam} (gO : GamOk Γ P w Ca) (T : Tx K mg Ca base) : CalM Γ P w K mg base "copy" 7 ["self"] m_W_copy := by
  obtain ⟨C, f, fd, h1, h2, h3, F, hb⟩ := T.f_W_copy
  exact calM_mk h1 h2 h3 F sc_W_copy hb fun cdv A outer s H EE C => pk_W_copy.2 gO T f cdv A outer s H EE C
theorem sc_W___eq__ : FnScope ["self", "other"] ["self", "other"] (defScope s_W___eq__) := ⟨rfl, rfl, rfl, by decide +kernel, rfl, by decide +kernel, by decide +kernel⟩
def pk_W___eq__ : {f : En → RS // ∀ [TabN] {P : Program} {w : World} {K : PySem.W.Frag} {mg : Str → Option Value} {base : Heap} {Ca : Nat → Addr} {Γ : Gam} (gO : GamOk Γ P w Ca) (T : Tx K mg Ca base) (fa : Addr) (cdv : Value) (A : Around) (outer : List Env) (s : Shared) (H : Hp) (EE : XK),
    Ct (cxOf (L2.CX P w) P w K mg base ["self", "other"] "WorkFile.__eq__" (defScope s_W___eq__) fa cdv A outer s H EE) (fun cls d _ H2 => EE cls d H2) 6 → SSs Γ (cxOf (L2.CX P w) P w K mg base ["self", "other"] "WorkFile.__eq__" (defScope s_W___eq__) fa cdv A outer s H EE) (fun cls d _ H2 => EE cls d H2) (defBody s_W___eq__) f} :=
  ⟨_, fun {_ P w K mg base Ca Γ} gO T fa cdv A outer s H EE C =>
  (sss_one (ss_ret (se_and (se_isW gO T.wcl (sv 1) bt_isinstance rfl T.n_isinstance rfl) (se_one (se_cmp (op_eqD C.u64) osEq (se_attr 0 gO (sv 0) (at_state T)) (se_attr 0 gO (sv 1) (at_state T)))))))⟩
def m_W___eq__ : List D → R D := bodyM 2 2 pk_W___eq__.1
theorem ok_W___eq__ [TabN] {P : Program} {w : World} {K : PySem.W.Frag} {mg : Str → Option Value} {base : Heap} {Ca : Nat → Addr} {Γ : Gam} (gO : GamOk Γ P w Ca) (T : Tx K mg Ca base) : CalM Γ P w K mg base "__eq__" 7 ["self", "other"] m_W___eq__ := by
  obtain ⟨C, f, fd, h1, h2, h3, F, hb⟩ := T.f_W___eq__
  exact calM_mk h1 h2 h3 F sc_W___eq__ hb fun cdv A outer s H EE C => pk_W___eq__.2 gO T f cdv A outer s H EE C
theorem lok_0 : LmOk lm_0 := lmOk_by (by decide +kernel) (fun _ _ _ _ => rfl)
def pk_lm_0 : {f : En → R D // ∀ [TabN] {P : Program} {w : World} {K : PySem.W.Frag} {mg : Str → Option Value} {base : Heap} {Ca : Nat → Addr} {Γ : Gam} (gO : GamOk Γ P w Ca) (T : Tx K mg Ca base) (A : Around) (outer : List Env) (s : Shared) (H : Hp) (E : XK) (fa cc : Addr) (cl : List (Str × Addr)), Ct (cloCx P w K mg base lm_0 A outer s H E fa cc cl) (fun cls d _ H2 => E cls d H2) 8 → SE Γ (cloCx P w K mg base lm_0 A outer s H E fa cc cl) (fun cls d _ H2 => E cls d H2) lm_0.body f} :=
  ⟨_, fun {_ P w K mg base Ca Γ} gO T A outer s H E fa cc cl CL => (se_meth CL gO (ok_W_patch gO T) (sv 1) (sa_cons (sv 0) sa_nil))⟩
theorem lok_1 : LmOk lm_1 := lmOk_by (by decide +kernel) (fun _ _ _ _ => rfl)
def pk_lm_1 : {f : En → R D // ∀ [TabN] {P : Program} {w : World} {K : PySem.W.Frag} {mg : Str → Option Value} {base : Heap} {Ca : Nat → Addr} {Γ : Gam} (gO : GamOk Γ P w Ca) (T : Tx K mg Ca base) (A : Around) (outer : List Env) (s : Shared) (H : Hp) (E : XK) (fa cc : Addr) (cl : List (Str × Addr)), Ct (cloCx P w K mg base lm_1 A outer s H E fa cc cl) (fun cls d _ H2 => E cls d H2) 8 → SE Γ (cloCx P w K mg base lm_1 A outer s H E fa cc cl) (fun cls d _ H2 => E cls d H2) lm_1.body f} :=
  ⟨_, fun {_ P w K mg base Ca Γ} gO T A outer s H E fa cc cl CL => (se_meth0 CL gO (ok_W_retry gO T) (sv 0))⟩
theorem lok_2 : LmOk lm_2 := lmOk_by (by decide +kernel) (fun _ _ _ _ => rfl)
def pk_lm_2 : {f : En → R D // ∀ [TabN] {P : Program} {w : World} {K : PySem.W.Frag} {mg : Str → Option Value} {base : Heap} {Ca : Nat → Addr} {Γ : Gam} (gO : GamOk Γ P w Ca) (T : Tx K mg Ca base) (A : Around) (outer : List Env) (s : Shared) (H : Hp) (E : XK) (fa cc : Addr) (cl : List (Str × Addr)), Ct (cloCx P w K mg base lm_2 A outer s H E fa cc cl) (fun cls d _ H2 => E cls d H2) 8 → SE Γ (cloCx P w K mg base lm_2 A outer s H E fa cc cl) (fun cls d _ H2 => E cls d H2) lm_2.body f} :=
  ⟨_, fun {_ P w K mg base Ca Γ} gO T A outer s H E fa cc cl CL => (se_meth0 CL gO (ok_W_undo gO T) (sv 0))⟩
theorem lok_3 : LmOk lm_3 := lmOk_by (by decide +kernel) (fun _ _ _ _ => rfl)
def pk_lm_3 : {f : En → R D // ∀ [TabN] {P : Program} {w : World} {K : PySem.W.Frag} {mg : Str → Option Value} {base : Heap} {Ca : Nat → Addr} {Γ : Gam} (gO : GamOk Γ P w Ca) (T : Tx K mg Ca base) (A : Around) (outer : List Env) (s : Shared) (H : Hp) (E : XK) (fa cc : Addr) (cl : List (Str × Addr)), Ct (cloCx P w K mg base lm_3 A outer s H E fa cc cl) (fun cls d _ H2 => E cls d H2) 8 → SE Γ (cloCx P w K mg base lm_3 A outer s H E fa cc cl) (fun cls d _ H2 => E cls d H2) lm_3.body f} :=
  ⟨_, fun {_ P w K mg base Ca Γ} gO T A outer s H E fa cc cl CL => (se_meth0 CL gO (ok_W_redo gO T) (sv 0))⟩
def fL : Nat → En → R D
  | 0 => pk_lm_0.1
  | 1 => pk_lm_1.1
  | 2 => pk_lm_2.1
  | 3 => pk_lm_3.1
  | _ => fun _ => .stuck
theorem lb [TabN] {P : Program} {w : World} {K : PySem.W.Frag} {mg : Str → Option Value} {base : Heap} {Ca : Nat → Addr} {Γ : Gam} (gO : GamOk Γ P w Ca) (T : Tx K mg Ca base) : LamB Γ P w K mg base LT 8 fL where
  ok := fun k L h => match k, h with
    | 0, h => by cases h; exact lok_0
    | 1, h => by cases h; exact lok_1
    | 2, h => by cases h; exact lok_2
    | 3, h => by cases h; exact lok_3
    | n + 4, h => nomatch h
  body := fun k L h => match k, h with
    | 0, h => by cases h; exact fun A outer s H E fa cc cl CL => pk_lm_0.2 gO T A outer s H E fa cc cl CL
    | 1, h => by cases h; exact fun A outer s H E fa cc cl CL => pk_lm_1.2 gO T A outer s H E fa cc cl CL
    | 2, h => by cases h; exact fun A outer s H E fa cc cl CL => pk_lm_2.2 gO T A outer s H E fa cc cl CL
    | 3, h => by cases h; exact fun A outer s H E fa cc cl CL => pk_lm_3.2 gO T A outer s H E fa cc cl CL
    | n + 4, h => nomatch h
theorem sc__law_result : FnScope ["call", "error"] ["call"] (defScope s__law_result) := ⟨rfl, rfl, rfl, by decide +kernel, rfl, by decide +kernel, by decide +kernel⟩
def pk__law_result : {f : En → RS // ∀ [TabN] {P : Program} {w : World} {K : PySem.W.Frag} {mg : Str → Option Value} {base : Heap} {Ca : Nat → Addr} {Γ : Gam} (gO : GamOk Γ P w Ca) (hC : CloG Γ LT) (T : Tx K mg Ca base) (fa : Addr) (cdv : Value) (A : Around) (outer : List Env) (s : Shared) (H : Hp) (EE : XK),
    Ct (cxOf (L2.CX P w) P w K mg base ["call", "error"] "_law_result" (defScope s__law_result) fa cdv A outer s H EE) (fun cls d _ H2 => EE cls d H2) 9 → SSs Γ (cxOf (L2.CX P w) P w K mg base ["call", "error"] "_law_result" (defScope s__law_result) fa cdv A outer s H EE) (fun cls d _ H2 => EE cls d H2) (defBody s__law_result) f} :=
  ⟨_, fun {_ P w K mg base Ca Γ} gO hC T fa cdv A outer s H EE C =>
  (sss_one (ss_try 1 C ⟨rfl, by decide, .inl T.x_PatchError.gC⟩ (gO.exm T.exm) (fun W2 pn xe C2 => (sss_one (ss_ret (se_clo 0 C2 gO hC (lb gO T))))) (fun c hc a oe pn hz hf => (sss_one (ss_ret (se_tup (sa_cons se_str (sa_cons (se_callHot C (okH__law_class gO T c hc hz hf) rfl (sa_cons (sv 1) sa_nil)) sa_nil))))))))⟩
def m__law_result : List D → R D := bodyM 2 1 pk__law_result.1
theorem ok__law_result [TabN] {P : Program} {w : World} {K : PySem.W.Frag} {mg : Str → Option Value} {base : Heap} {Ca : Nat → Addr} {Γ : Gam} (gO : GamOk Γ P w Ca) (hC : CloG Γ LT) (T : Tx K mg Ca base) : Cal Γ P w K mg base "_law_result" 10 ["call"] m__law_result := by
  obtain ⟨f, fd, F, hm, hb⟩ := T.f__law_result
  exact cal_mk F sc__law_result hm hb fun cdv A outer s H EE C => pk__law_result.2 gO hC T f cdv A outer s H EE C
def pk_X_change : {f : En → RS // ∀ [TabN] {P : Program} {w : World} {K : PySem.W.Frag} {mg : Str → Option Value} {base : Heap} {Ca : Nat → Addr} {Γ : Gam} (gO : GamOk Γ P w Ca) (T : Tx K mg Ca base) (fa : Addr) (cdv : Value) (A : Around) (outer : List Env) (s : Shared) (H : Hp) (EE : XK),
    Ct (cxOf (L2.CX P w) P w K mg base ["self", "state"] "WorkFile.change" (defScope s_W_change) fa cdv A outer s H EE) (fun cls d _ H2 => EE cls d H2) 0 → SSs Γ (cxOf (L2.CX P w) P w K mg base ["self", "state"] "WorkFile.change" (defScope s_W_change) fa cdv A outer s H EE) (fun cls d _ H2 => EE cls d H2) (defBody s_W_change) f} :=
  ⟨_, fun {_ P w K mg base Ca Γ} gO T fa cdv A outer s H EE C =>
  (sss_cons (ss_oapp 0 false (at_earlier T) (se_ostate 0 (at_state T)))
  (sss_cons (ss_olst 0 true (at_later T) (sf_lst sa_nil))
  (sss_one (ss_oset 0 (at_state T) (sv 1)))))⟩
def m_X_change : MO := bodyO 2 2 pk_X_change.1
theorem ok_X_change [TabN] {P : Program} {w : World} {K : PySem.W.Frag} {mg : Str → Option Value} {base : Heap} {Ca : Nat → Addr} {Γ : Gam} (gO : GamOk Γ P w Ca) (T : Tx K mg Ca base) : CalO Γ P w K mg base "change" 1 ["self", "state"] m_X_change := by
  obtain ⟨C, f, fd, h1, h2, h3, F, hb⟩ := T.f_W_change
  exact calO_mk h1 h2 h3 F sc_W_change hb fun p cdv A outer s H EE C => pk_X_change.2 gO.at T f cdv A outer s H EE C
def pk_X_undo : {f : En → RS // ∀ [TabN] {P : Program} {w : World} {K : PySem.W.Frag} {mg : Str → Option Value} {base : Heap} {Ca : Nat → Addr} {Γ : Gam} (gO : GamOk Γ P w Ca) (T : Tx K mg Ca base) (fa : Addr) (cdv : Value) (A : Around) (outer : List Env) (s : Shared) (H : Hp) (EE : XK),
    Ct (cxOf (L2.CX P w) P w K mg base ["self"] "WorkFile.undo" (defScope s_W_undo) fa cdv A outer s H EE) (fun cls d _ H2 => EE cls d H2) 0 → SSs Γ (cxOf (L2.CX P w) P w K mg base ["self"] "WorkFile.undo" (defScope s_W_undo) fa cdv A outer s H EE) (fun cls d _ H2 => EE cls d H2) (defBody s_W_undo) f} :=
  ⟨_, fun {_ P w K mg base Ca Γ} gO T fa cdv A outer s H EE C =>
  (sss_cons (ss_if (ST.view (st_cmp (op_eqD C.u64) osEq (se_attr 1 gO (sv 0) (at_earlier T)) (se_lst sa_nil))) (sss_one (ss_raiseX 11 C T.x_NothingToUndo (gO.cls 11) rfl)) sss_nil)
  (sss_cons (ss_oapp 0 true (at_later T) (se_ostate 0 (at_state T)))
  (sss_one (ss_opop 0 false (at_state T) (at_earlier T)))))⟩
def m_X_undo : MO := bodyO 1 1 pk_X_undo.1
theorem ok_X_undo [TabN] {P : Program} {w : World} {K : PySem.W.Frag} {mg : Str → Option Value} {base : Heap} {Ca : Nat → Addr} {Γ : Gam} (gO : GamOk Γ P w Ca) (T : Tx K mg Ca base) : CalO Γ P w K mg base "undo" 1 ["self"] m_X_undo := by
  obtain ⟨C, f, fd, h1, h2, h3, F, hb⟩ := T.f_W_undo
  exact calO_mk h1 h2 h3 F sc_W_undo hb fun p cdv A outer s H EE C => pk_X_undo.2 gO.at T f cdv A outer s H EE C
def pk_X_redo : {f : En → RS // ∀ [TabN] {P : Program} {w : World} {K : PySem.W.Frag} {mg : Str → Option Value} {base : Heap} {Ca : Nat → Addr} {Γ : Gam} (gO : GamOk Γ P w Ca) (T : Tx K mg Ca base) (fa : Addr) (cdv : Value) (A : Around) (outer : List Env) (s : Shared) (H : Hp) (EE : XK),
    Ct (cxOf (L2.CX P w) P w K mg base ["self"] "WorkFile.redo" (defScope s_W_redo) fa cdv A outer s H EE) (fun cls d _ H2 => EE cls d H2) 0 → SSs Γ (cxOf (L2.CX P w) P w K mg base ["self"] "WorkFile.redo" (defScope s_W_redo) fa cdv A outer s H EE) (fun cls d _ H2 => EE cls d H2) (defBody s_W_redo) f} :=
  ⟨_, fun {_ P w K mg base Ca Γ} gO T fa cdv A outer s H EE C =>
  (sss_cons (ss_if (ST.view (st_cmp (op_eqD C.u64) osEq (se_attr 2 gO (sv 0) (at_later T)) (se_lst sa_nil))) (sss_one (ss_raiseX 11 C T.x_NothingToUndo (gO.cls 11) rfl)) sss_nil)
  (sss_cons (ss_oapp 0 false (at_earlier T) (se_ostate 0 (at_state T)))
  (sss_one (ss_opop 0 true (at_state T) (at_later T)))))⟩
def m_X_redo : MO := bodyO 1 1 pk_X_redo.1
theorem ok_X_redo [TabN] {P : Program} {w : World} {K : PySem.W.Frag} {mg : Str → Option Value} {base : Heap} {Ca : Nat → Addr} {Γ : Gam} (gO : GamOk Γ P w Ca) (T : Tx K mg Ca base) : CalO Γ P w K mg base "redo" 1 ["self"] m_X_redo := by
  obtain ⟨C, f, fd, h1, h2, h3, F, hb⟩ := T.f_W_redo
  exact calO_mk h1 h2 h3 F sc_W_redo hb fun p cdv A outer s H EE C => pk_X_redo.2 gO.at T f cdv A outer s H EE C
def pk_X_patch : {f : En → RS // ∀ [TabN] {P : Program} {w : World} {K : PySem.W.Frag} {mg : Str → Option Value} {base : Heap} {Ca : Nat → Addr} {Γ : Gam} (gO : GamOk Γ P w Ca) (T : Tx K mg Ca base) (fa : Addr) (cdv : Value) (A : Around) (outer : List Env) (s : Shared) (H : Hp) (EE : XK),
    Ct (cxOf (L2.CX P w) P w K mg base ["self", "hunk", "lines", "refused", "found"] "WorkFile.patch" (defScope s_W_patch) fa cdv A outer s H EE) (fun cls d _ H2 => EE cls d H2) 4 → SSs Γ (cxOf (L2.CX P w) P w K mg base ["self", "hunk", "lines", "refused", "found"] "WorkFile.patch" (defScope s_W_patch) fa cdv A outer s H EE) (fun cls d _ H2 => EE cls d H2) (defBody s_W_patch) f} :=
  ⟨_, fun {_ P w K mg base Ca Γ} gO T fa cdv A outer s H EE C =>
  (sss_cons (ss_expr (se_call C (ok_check_hunk gO T) rfl (sa_cons (sv 1) sa_nil)))
  (sss_cons (ss_asg (se_ostate 0 (at_state T)) (sg_tup C.calm (sgs_cons (sg_name 2 C.nd) (sgs_cons (sg_name 3 C.nd) sgs_nil)) (putAll_len (putAll_len putNil_len))))
  (sss_cons (ss_set 4 C (se_call C (ok_after_hunk gO T) rfl (sa_cons (sv 1) (sa_cons (sv 2) sa_nil))))
  (sss_cons (ss_if (st_cmp opIs osIs (sv 4) se_non) (sss_cons (ss_exprX (sx_meth 0 C (ok_X_change gO T) (sa_cons (se_tup (sa_cons (sv 2) (sa_cons (se_op opAdd osAdd (sv 3) (se_tup (sa_cons (sv 1) sa_nil))) sa_nil))) sa_nil)))
  (sss_one (ss_retE se_non))) sss_nil)
  (sss_cons (ss_exprX (sx_meth 0 C (ok_X_change gO T) (sa_cons (se_tup (sa_cons (sv 4) (sa_cons (sv 3) sa_nil))) sa_nil)))
  (sss_one (ss_retE (se_call C (ok_find_nearest gO T) rfl (sa_cons (sv 1) (sa_cons (sv 2) sa_nil))))))))))⟩
def m_X_patch : MO := bodyO 5 2 pk_X_patch.1
theorem ok_X_patch [TabN] {P : Program} {w : World} {K : PySem.W.Frag} {mg : Str → Option Value} {base : Heap} {Ca : Nat → Addr} {Γ : Gam} (gO : GamOk Γ P w Ca) (T : Tx K mg Ca base) : CalO Γ P w K mg base "patch" 5 ["self", "hunk"] m_X_patch := by
  obtain ⟨C, f, fd, h1, h2, h3, F, hb⟩ := T.f_W_patch
  exact calO_mk h1 h2 h3 F sc_W_patch hb fun p cdv A outer s H EE C => pk_X_patch.2 gO.at T f cdv A outer s H EE C
def pk_X_retry : {f : En → RS // ∀ [TabN] {P : Program} {w : World} {K : PySem.W.Frag} {mg : Str → Option Value} {base : Heap} {Ca : Nat → Addr} {Γ : Gam} (gO : GamOk Γ P w Ca) (T : Tx K mg Ca base) (fa : Addr) (cdv : Value) (A : Around) (outer : List Env) (s : Shared) (H : Hp) (EE : XK),
    Ct (cxOf (L2.CX P w) P w K mg base ["self", "lines", "refused", "left", "hunk", "found", "many"] "WorkFile.retry" (defScope s_W_retry) fa cdv A outer s H EE) (fun cls d _ H2 => EE cls d H2) 4 → SSs Γ (cxOf (L2.CX P w) P w K mg base ["self", "lines", "refused", "left", "hunk", "found", "many"] "WorkFile.retry" (defScope s_W_retry) fa cdv A outer s H EE) (fun cls d _ H2 => EE cls d H2) (defBody s_W_retry) f} :=
  ⟨_, fun {_ P w K mg base Ca Γ} gO T fa cdv A outer s H EE C =>
  (sss_cons (ss_asg (se_ostate 0 (at_state T)) (sg_tup C.calm (sgs_cons (sg_name 1 C.nd) (sgs_cons (sg_name 2 C.nd) sgs_nil)) (putAll_len (putAll_len putNil_len))))
  (sss_cons (ss_set 3 C (se_tup sa_nil))
  (sss_cons (ss_for C (si_seq (sv 2)) (sg_name 4 C.nd) (sss_cons (ss_set 5 C (se_call C (ok_after_hunk gO T) rfl (sa_cons (sv 4) (sa_cons (sv 1) sa_nil))))
  (sss_one (ss_if (st_cmp opIs osIs (sv 5) se_non) (sss_one (ss_set 3 C (se_op opAdd osAdd (sv 3) (se_tup (sa_cons (sv 4) sa_nil))))) (sss_one (ss_set 1 C (sv 5)))))))
  (sss_cons (ss_set 6 C (se_op op_sub osSub (se_callB call_len csLen rfl T.n_len bt_len (sa_cons (sv 2) sa_nil)) (se_callB call_len csLen rfl T.n_len bt_len (sa_cons (sv 3) sa_nil))))
  (sss_cons (ss_if (st_cmp op_gt osGt (sv 6) se_int) (sss_one (ss_exprX (sx_meth 0 C (ok_X_change gO T) (sa_cons (se_tup (sa_cons (sv 1) (sa_cons (sv 3) sa_nil))) sa_nil)))) sss_nil)
  (sss_one (ss_retE (sv 6))))))))⟩
def m_X_retry : MO := bodyO 7 1 pk_X_retry.1
theorem ok_X_retry [TabN] {P : Program} {w : World} {K : PySem.W.Frag} {mg : Str → Option Value} {base : Heap} {Ca : Nat → Addr} {Γ : Gam} (gO : GamOk Γ P w Ca) (T : Tx K mg Ca base) : CalO Γ P w K mg base "retry" 5 ["self"] m_X_retry := by
  obtain ⟨C, f, fd, h1, h2, h3, F, hb⟩ := T.f_W_retry
  exact calO_mk h1 h2 h3 F sc_W_retry hb fun p cdv A outer s H EE C => pk_X_retry.2 gO.at T f cdv A outer s H EE C
def pk_N_copy : {f : En → RS // ∀ [TabN] {P : Program} {w : World} {K : PySem.W.Frag} {mg : Str → Option Value} {base : Heap} {Ca : Nat → Addr} {Γ : Gam} (gO : GamOk Γ P w Ca) (T : Tx K mg Ca base) (fa : Addr) (cdv : Value) (A : Around) (outer : List Env) (s : Shared) (H : Hp) (EE : XK),
    Ct (cxOf (L2.CX P w) P w K mg base ["self", "other"] "WorkFile.copy" (defScope s_W_copy) fa cdv A outer s H EE) (fun cls d _ H2 => EE cls d H2) 6 → SSs Γ (cxOf (L2.CX P w) P w K mg base ["self", "other"] "WorkFile.copy" (defScope s_W_copy) fa cdv A outer s H EE) (fun cls d _ H2 => EE cls d H2) (defBody s_W_copy) f} :=
  ⟨_, fun {_ P w K mg base Ca Γ} gO T fa cdv A outer s H EE C =>
  (sss_cons (ss_newO 1 C (sn_make C (ok_W___init__ gO T) rfl (se_tup sa_nil)))
  (sss_cons (ss_oset 1 (at_state T) (se_attr 0 gO (sv 0) (at_state T)))
  (sss_cons (ss_olst 1 false (at_earlier T) (sf_listOf rfl T.n_list bt_list (se_attr 1 gO (sv 0) (at_earlier T))))
  (sss_cons (ss_olst 1 true (at_later T) (sf_listOf rfl T.n_list bt_list (se_attr 2 gO (sv 0) (at_later T))))
  (sss_one (ss_retO 1))))))⟩
def m_N_copy : List D → R (D × List D × List D) := bodyN 2 1 pk_N_copy.1
theorem ok_N_copy [TabN] {P : Program} {w : World} {K : PySem.W.Frag} {mg : Str → Option Value} {base : Heap} {Ca : Nat → Addr} {Γ : Gam} (gO : GamOk Γ P w Ca) (T : Tx K mg Ca base) : CalN Γ P w K mg base "copy" 7 m_N_copy := by
  obtain ⟨C, f, fd, h1, h2, h3, F, hb⟩ := T.f_W_copy
  exact calN_mk h1 h2 h3 F sc_W_copy hb fun cdv A outer s H EE C => pk_N_copy.2 gO T f cdv A outer s H EE C
def pk_lx_0 : {f : En → Option (D × En) // ∀ [TabN] {P : Program} {w : World} {K : PySem.W.Frag} {mg : Str → Option Value} {base : Heap} {Ca : Nat → Addr} {Γ : Gam} (gO : GamOk Γ P w Ca) (T : Tx K mg Ca base) (A : Around) (outer : List Env) (s : Shared) (H : Hp) (E : XK) (fa cc : Addr) (cl : List (Str × Addr)), Ct (cloCx P w K mg base lm_0 A outer s H E fa cc cl) (fun cls d _ H2 => E cls d H2) 8 → SX Γ (cloCx P w K mg base lm_0 A outer s H E fa cc cl) lm_0.body f} :=
  ⟨_, fun {_ P w K mg base Ca Γ} gO T A outer s H E fa cc cl CL => (sx_meth 1 CL (ok_X_patch gO T) (sa_cons (sv 0) sa_nil))⟩
def pk_lx_1 : {f : En → Option (D × En) // ∀ [TabN] {P : Program} {w : World} {K : PySem.W.Frag} {mg : Str → Option Value} {base : Heap} {Ca : Nat → Addr} {Γ : Gam} (gO : GamOk Γ P w Ca) (T : Tx K mg Ca base) (A : Around) (outer : List Env) (s : Shared) (H : Hp) (E : XK) (fa cc : Addr) (cl : List (Str × Addr)), Ct (cloCx P w K mg base lm_1 A outer s H E fa cc cl) (fun cls d _ H2 => E cls d H2) 8 → SX Γ (cloCx P w K mg base lm_1 A outer s H E fa cc cl) lm_1.body f} :=
  ⟨_, fun {_ P w K mg base Ca Γ} gO T A outer s H E fa cc cl CL => (sx_meth0 0 CL (ok_X_retry gO T))⟩
def pk_lx_2 : {f : En → Option (D × En) // ∀ [TabN] {P : Program} {w : World} {K : PySem.W.Frag} {mg : Str → Option Value} {base : Heap} {Ca : Nat → Addr} {Γ : Gam} (gO : GamOk Γ P w Ca) (T : Tx K mg Ca base) (A : Around) (outer : List Env) (s : Shared) (H : Hp) (E : XK) (fa cc : Addr) (cl : List (Str × Addr)), Ct (cloCx P w K mg base lm_2 A outer s H E fa cc cl) (fun cls d _ H2 => E cls d H2) 8 → SX Γ (cloCx P w K mg base lm_2 A outer s H E fa cc cl) lm_2.body f} :=
  ⟨_, fun {_ P w K mg base Ca Γ} gO T A outer s H E fa cc cl CL => (sx_meth0 0 CL (ok_X_undo gO T))⟩
def pk_lx_3 : {f : En → Option (D × En) // ∀ [TabN] {P : Program} {w : World} {K : PySem.W.Frag} {mg : Str → Option Value} {base : Heap} {Ca : Nat → Addr} {Γ : Gam} (gO : GamOk Γ P w Ca) (T : Tx K mg Ca base) (A : Around) (outer : List Env) (s : Shared) (H : Hp) (E : XK) (fa cc : Addr) (cl : List (Str × Addr)), Ct (cloCx P w K mg base lm_3 A outer s H E fa cc cl) (fun cls d _ H2 => E cls d H2) 8 → SX Γ (cloCx P w K mg base lm_3 A outer s H E fa cc cl) lm_3.body f} :=
  ⟨_, fun {_ P w K mg base Ca Γ} gO T A outer s H E fa cc cl CL => (sx_meth0 0 CL (ok_X_redo gO T))⟩
def fX : Nat → En → Option (D × En)
  | 0 => pk_lx_0.1
  | 1 => pk_lx_1.1
  | 2 => pk_lx_2.1
  | 3 => pk_lx_3.1
  | _ => fun _ => none
theorem lbX [TabN] {P : Program} {w : World} {K : PySem.W.Frag} {mg : Str → Option Value} {base : Heap} {Ca : Nat → Addr} {Γ : Gam} (gO : GamOk Γ P w Ca) (T : Tx K mg Ca base) : LamO Γ P w K mg base LT 8 fX where
  ok := fun k L h => match k, h with
    | 0, h => by cases h; exact lok_0
    | 1, h => by cases h; exact lok_1
    | 2, h => by cases h; exact lok_2
    | 3, h => by cases h; exact lok_3
    | n + 4, h => nomatch h
  body := fun k L h => match k, h with
    | 0, h => by cases h; exact fun p A outer s H E fa cc cl CL => pk_lx_0.2 gO.at T A outer s H E fa cc cl CL
    | 1, h => by cases h; exact fun p A outer s H E fa cc cl CL => pk_lx_1.2 gO.at T A outer s H E fa cc cl CL
    | 2, h => by cases h; exact fun p A outer s H E fa cc cl CL => pk_lx_2.2 gO.at T A outer s H E fa cc cl CL
    | 3, h => by cases h; exact fun p A outer s H E fa cc cl CL => pk_lx_3.2 gO.at T A outer s H E fa cc cl CL
    | n + 4, h => nomatch h
theorem okX__law_result [TabN] {P : Program} {w : World} {K : PySem.W.Frag} {mg : Str → Option Value} {base : Heap} {Ca : Nat → Addr} {Γ : Gam} (gO : GamOk Γ P w Ca) (hC : CloG Γ LT) (T : Tx K mg Ca base) : CalS P w K mg base "_law_result" 10 ["call"] (spR Γ K LT fX) := by
  obtain ⟨f, fd, F, hm, hb⟩ := T.f__law_result
  exact ⟨⟨f, fd, fn_resX F sc__law_result gO hC (lbX gO T) rfl (fun _ _ _ _ _ _ => ⟨rfl, by decide, .inl T.x_PatchError.gC⟩) rfl (fun _ _ _ _ _ _ => rfl), hm, F.kp, hb⟩⟩
/-- which closure, what it captured besides the instance -/
def selK (iw ih ik : Nat) : En → Option (Nat × List D) := fun ρ => match ρ[ik]?, ρ[ih]? with
  | some (some (.val (.int k))), some (some (.val h)) => if dataD h = true then (if k = 0 then some (0, [h]) else if k = 1 then some (1, []) else if k = 2 then some (2, []) else if k = 3 then some (3, []) else none) else none
  | _, _ => none
theorem dataD_cap {h : D} (hd : dataD h = true) : capD h = true := by
  have := dataDs_cap (ds := [h]) (by simp [dataDs, hd])
  simpa [capDs] using this
theorem calls_ok (p : Addr) {h : D} (hd : dataD h = true) : m__law_calls [.op 5 [.int p], h] = .ok (.lst [.op 10 [h, .op 5 [.int p]], .op 12 [.op 5 [.int p]], .op 14 [.op 5 [.int p]], .op 16 [.op 5 [.int p]]]) := by
  have hc := dataD_cap hd
  have hp : capD (.op 5 [.int (p : Int)]) = true := rfl
  unfold m__law_calls bodyE
  rw [if_pos (by simp [capDs, hc, hp])]
  simp only [pk__law_calls]
  simp [seqS, thenS, appS, ownS, lim, retE, noX, valsR, closes, close1, hc, hp, R.bind, cvOf, List.lookup, var]
theorem hselK (iw ih ik : Nat) (n1 : iw ≠ ih) (n2 : iw ≠ ik) (n3 : ih ≠ ik) (ρ : En) (p : Addr) (k : Nat) (pre : List D) (h : selK iw ih ik ρ = some (k, pre)) (hl : iw < ρ.length) :
    (((var iw (ρ.set iw (some (.val (.op 5 [.int p]))))).bind fun d => ((var ih (ρ.set iw (some (.val (.op 5 [.int p]))))).bind fun d => (R.ok []).bind fun ds => R.ok (d :: ds)).bind fun ds => R.ok (d :: ds)).bind m__law_calls).bind (fun x => (var ik (ρ.set iw (some (.val (.op 5 [.int p]))))).bind fun y => ixO x y) = .ok (.op (2 * k + 10) (pre ++ [.op 5 [.int p]])) := by
  unfold selK at h
  split at h
  case h_2 => cases h
  rename_i kk hh e1 e2
  split at h
  case isFalse => cases h
  rename_i hd
  have v1 : var iw (ρ.set iw (some (.val (.op 5 [.int p])))) = .ok (.op 5 [.int p]) := by simp [var, List.getElem?_set_self hl]
  have v2 : var ih (ρ.set iw (some (.val (.op 5 [.int p])))) = .ok hh := by simp [var, List.getElem?_set_ne n1, e2]
  have v3 : var ik (ρ.set iw (some (.val (.op 5 [.int p])))) = .ok (.int kk) := by simp [var, List.getElem?_set_ne n2, e1]
  rw [v1, v2, v3]
  show ((R.ok [D.op 5 [.int p], hh]).bind m__law_calls).bind _ = _
  show (m__law_calls [D.op 5 [.int p], hh]).bind _ = _
  rw [calls_ok p hd]
  split at h
  · rename_i hk; cases h; subst hk; rfl
  split at h
  · rename_i hk; cases h; subst hk; rfl
  split at h
  · rename_i hk; cases h; subst hk; rfl
  split at h
  · rename_i hk; cases h; subst hk; rfl
  · cases h
theorem sc_law : FnScope ["script", "file", "work", "states", "at", "i", "lines", "refused", "kind", "hunk", "due", "fresh", "after", "left", "to", "other", "twin"] ["script"] (defScope s_law) := ⟨rfl, rfl, rfl, by decide +kernel, rfl, by decide +kernel, by decide +kernel⟩
def pk_law : {f : En → RS // ∀ [TabN] {P : Program} {w : World} {K : PySem.W.Frag} {mg : Str → Option Value} {base : Heap} {Ca : Nat → Addr} {Γ : Gam} (gO : GamOk Γ P w Ca) (hC : CloG Γ LT) (T : Tx K mg Ca base) (fa : Addr) (cdv : Value) (A : Around) (outer : List Env) (s : Shared) (H : Hp) (EE : XK),
    Ct (cxOf (L2.CX P w) P w K mg base ["script", "file", "work", "states", "at", "i", "lines", "refused", "kind", "hunk", "due", "fresh", "after", "left", "to", "other", "twin"] "law" (defScope s_law) fa cdv A outer s H EE) (fun cls d _ H2 => EE cls d H2) 10 → SSs Γ (cxOf (L2.CX P w) P w K mg base ["script", "file", "work", "states", "at", "i", "lines", "refused", "kind", "hunk", "due", "fresh", "after", "left", "to", "other", "twin"] "law" (defScope s_law) fa cdv A outer s H EE) (fun cls d _ H2 => EE cls d H2) (defBody s_law) f} :=
  ⟨_, fun {_ P w K mg base Ca Γ} gO hC T fa cdv A outer s H EE C =>
  (sss_cons (ss_set 1 C (se_call C (ok__law_lines gO T) rfl (sa_cons (sv 0) (sa_cons se_int (sa_cons se_int sa_nil)))))
  (sss_cons (ss_par3N 2 3 4 C (sn_make C (ok_W___init__ gO T) rfl (sv 1)) (se_lst (sa_cons (se_tup (sa_cons (sv 1) (sa_cons (se_lst sa_nil) sa_nil))) sa_nil)) se_int)
  (sss_cons (ss_for C (si_range1 rfl T.n_range (sa_cons se_int sa_nil)) (sg_name 5 C.nd) (sss_cons (ss_asg (se_ix ix_seq osIx (sv 3) (sv 4)) (sg_tup C.calm (sgs_cons (sg_name 6 C.nd) (sgs_cons (sg_name 7 C.nd) sgs_nil)) (putAll_len (putAll_len putNil_len))))
  (sss_cons (ss_set 8 C (se_ix ix_seq osIx (se_tup (sa_cons se_int (sa_cons se_int (sa_cons se_int (sa_cons se_int (sa_cons se_int (sa_cons se_int (sa_cons se_int (sa_cons se_int (sa_cons se_int sa_nil)))))))))) (se_call C (ok__law_pick gO T) rfl (sa_cons (sv 0) (sa_cons (se_op opAdd osAdd se_int (se_op opMul osMul se_int (sv 5))) (sa_cons se_int sa_nil))))))
  (sss_cons (ss_par 9 10 C (sa_cons (se_call C (ok__law_chosen gO T) rfl (sa_cons (sv 0) (sa_cons (se_op opAdd osAdd se_int (se_op opMul osMul se_int (sv 5))) (sa_cons (sv 6) sa_nil)))) (sa_cons se_non sa_nil)))
  (sss_cons (ss_if (st_cmp (op_eqD C.u64) osEq (sv 8) se_int) (sss_cons (ss_set 11 C (se_call C (ok__law_put gO T) rfl (sa_cons (sv 9) (sa_cons (sv 6) sa_nil))))
  (sss_cons (ss_set 10 C (se_if (st_cmp opIsNot osIsNot (sv 11) se_non) (se_call C (ok__law_near gO T) rfl (sa_cons (sv 9) (sa_cons (sv 6) sa_nil))) se_non))
  (sss_cons (ss_set 12 C (se_if (st_cmp opIsNot osIsNot (sv 11) se_non) (se_tup (sa_cons (sv 11) (sa_cons (sv 7) sa_nil))) (se_tup (sa_cons (sv 6) (sa_cons (se_op opAdd osAdd (sv 7) (se_lst (sa_cons (sv 9) sa_nil))) sa_nil)))))
  (sss_one (ss_par 3 4 C (sa_cons (se_op opAdd osAdd (se_slice slAll ssSl (sv 3) so_none (so_some (se_op opAdd osAdd (sv 4) se_int))) (se_lst (sa_cons (sv 12) sa_nil))) (sa_cons (se_op opAdd osAdd (sv 4) se_int) sa_nil))))))) (sss_one (ss_if (st_cmp (op_eqD C.u64) osEq (sv 8) se_int) (sss_cons (ss_asg (se_call C (ok__law_tried gO T) rfl (sa_cons (sv 6) (sa_cons (sv 7) sa_nil))) (sg_tup C.calm (sgs_cons (sg_name 11 C.nd) (sgs_cons (sg_name 13 C.nd) sgs_nil)) (putAll_len (putAll_len putNil_len))))
  (sss_cons (ss_set 10 C (se_op op_sub osSub (se_callB call_len csLen rfl T.n_len bt_len (sa_cons (sv 7) sa_nil)) (se_callB call_len csLen rfl T.n_len bt_len (sa_cons (sv 13) sa_nil))))
  (sss_one (ss_if (st_cmp op_gt osGt (sv 10) se_int) (sss_one (ss_par 3 4 C (sa_cons (se_op opAdd osAdd (se_slice slAll ssSl (sv 3) so_none (so_some (se_op opAdd osAdd (sv 4) se_int))) (se_lst (sa_cons (se_tup (sa_cons (sv 11) (sa_cons (sv 13) sa_nil))) sa_nil))) (sa_cons (se_op opAdd osAdd (sv 4) se_int) sa_nil)))) sss_nil)))) (sss_one (ss_if (st_cmp op_lt osLt (sv 8) se_int) (sss_cons (ss_set 14 C (se_if (st_cmp (op_eqD C.u64) osEq (sv 8) se_int) (se_op op_sub osSub (sv 4) se_int) (se_op opAdd osAdd (sv 4) se_int)))
  (sss_cons (ss_set 10 C (se_if (st_inRg (sv 14) rfl T.n_range (se_callB call_len csLen rfl T.n_len bt_len (sa_cons (sv 3) sa_nil))) se_non (se_tup (sa_cons se_str (sa_cons se_str sa_nil)))))
  (sss_one (ss_set 4 C (se_if (st_inRg (sv 14) rfl T.n_range (se_callB call_len csLen rfl T.n_len bt_len (sa_cons (sv 3) sa_nil))) (sv 14) (sv 4)))))) sss_nil)))))
  (sss_cons (ss_or (ss_if (ST.view (SW.st (sw_and (st_cmp op_lt osLt (sv 8) se_int) (sw_and1 (st_cmp (op_neD C.u64) osNe (se_call C (ok__law_result gO hC T) rfl (sa_cons (se_ix ix_seq osIx (se_call C (ok__law_calls gO hC T) rfl (sa_cons (sv 2) (sa_cons (sv 9) sa_nil))) (sv 8)) sa_nil)) (sv 10)))))) (sss_one (ss_ret se_bl)) sss_nil)
  (ss_eff 2 (selK 2 9 8) C gO hC (okX__law_result gO hC T) rfl (st_cmp op_lt osLt (sv 8) se_int) (se_ix ix_seq osIx (se_call C (ok__law_calls gO hC T) rfl (sa_cons (sv 2) (sa_cons (sv 9) sa_nil))) (sv 8)) (sv 10) (sss_one (ss_ret se_bl)) (hselK 2 9 8 (by decide) (by decide) (by decide))))
  (sss_cons (ss_if (st_cmp (op_eqD C.u64) osEq (sv 8) se_int) (sss_cons (ss_newO 15 C (sn_copy 2 C (ok_N_copy gO T)))
  (sss_cons (ss_exprX (sx_meth 15 C (ok_X_patch gO T) (sa_cons (se_tup (sa_cons se_int (sa_cons (se_tup sa_nil) (sa_cons (se_tup (sa_cons se_str sa_nil)) (sa_cons (se_tup sa_nil) (sa_cons (se_tup sa_nil) sa_nil)))))) sa_nil)))
  (sss_cons (ss_if (ST.view (SW.st (sw_or (st_cmpW (op_eqW C (ok_W___eq__ gO T)) (osEqW gO) (sv 15) (sv 2)) (sw_or (st_cmp (op_neD C.u64) osNe (se_callB call_len csLen rfl T.n_len bt_len (sa_cons (se_meth0 C gO (ok_W_rejected gO T) (sv 15)) sa_nil)) (se_op opAdd osAdd (se_callB call_len csLen rfl T.n_len bt_len (sa_cons (se_meth0 C gO (ok_W_rejected gO T) (sv 2)) sa_nil)) se_int)) (sw_or1 (st_cmp (op_neD C.u64) osNe (se_lenW C gO (ok_W___len__ gO T) rfl T.n_len bt_len (sv 15)) (se_lenW C gO (ok_W___len__ gO T) rfl T.n_len bt_len (sv 2)))))))) (sss_one (ss_ret se_bl)) sss_nil)
  (sss_one (ss_newO 2 C (sn_copy 2 C (ok_N_copy gO T))))))) sss_nil)
  (sss_one (ss_if (ST.view (SW.st (sw_or (st_cmp (op_neD C.u64) osNe (se_meth0 C gO (ok_W_lines gO T) (sv 2)) (se_ix ix_seq osIx (se_ix ix_seq osIx (sv 3) (sv 4)) se_int)) (sw_or (st_cmp (op_neD C.u64) osNe (se_meth0 C gO (ok_W_rejected gO T) (sv 2)) (se_ix ix_seq osIx (se_ix ix_seq osIx (sv 3) (sv 4)) se_int)) (sw_or1 (st_cmp (op_neD C.u64) osNe (se_lenW C gO (ok_W___len__ gO T) rfl T.n_len bt_len (sv 2)) (se_callB call_len csLen rfl T.n_len bt_len (sa_cons (se_ix ix_seq osIx (se_ix ix_seq osIx (sv 3) (sv 4)) se_int) sa_nil)))))))) (sss_one (ss_ret se_bl)) sss_nil)))))))))
  (sss_cons (ss_set 16 C (se_make C gO (ok_W___init__ gO T) rfl (se_ix ix_seq osIx (se_ix ix_seq osIx (sv 3) (sv 4)) se_int)))
  (sss_one (ss_ret (SE.view (se_and (se_cmp (op_eqD C.u64) osEq (se_cmpW (op_eqW C (ok_W___eq__ gO T)) (osEqW gO) (sv 2) (sv 16)) (se_cmp (op_eqD C.u64) osEq (se_ix ix_seq osIx (se_ix ix_seq osIx (sv 3) (sv 4)) se_int) (se_lst sa_nil))) (se_and (se_cmpW (op_neW C (ok_W___eq__ gO T) T.wcl) (osNeW gO) (sv 2) (se_ix ix_seq osIx (se_ix ix_seq osIx (sv 3) (sv 4)) se_int)) (se_one (se_cmpW (op_eqW C (ok_W___eq__ gO T)) (osEqW gO) (sv 16) (se_make C gO (ok_W___init__ gO T) rfl (se_meth0 C gO (ok_W_lines gO T) (sv 16))))))))))))))⟩
def m_law : List D → R D := bodyM 17 1 pk_law.1
theorem ok_law [TabN] {P : Program} {w : World} {K : PySem.W.Frag} {mg : Str → Option Value} {base : Heap} {Ca : Nat → Addr} {Γ : Gam} (gO : GamOk Γ P w Ca) (hC : CloG Γ LT) (T : Tx K mg Ca base) : Cal Γ P w K mg base "law" 11 ["script"] m_law := by
  obtain ⟨f, fd, F, hm, hb⟩ := T.f_law
  exact cal_mk F sc_law hm hb fun cdv A outer s H EE C => pk_law.2 gO hC T f cdv A outer s H EE C
end Lw
end
section
set_option linter.all false
set_option maxRecDepth 100000
set_option autoImplicit false
namespace Lw
open PySem PySem.Spec L2 VL
set_option maxHeartbeats 1000000
/-! ### the draw of the later laws -/
theorem pick_loop (a b c d : Option SV) (e : Option SV) : ∀ (n : Nat) (rest again : Int), 0 ≤ rest → 0 ≤ again → again < n → ∃ rest' again' : Int, 0 ≤ rest' ∧
    whileS (fun ρ => andR (((var 4 ρ).bind fun x => gtD x (D.int 0)).bind asB) (((var 5 ρ).bind fun x => gtD x (D.int 0)).bind asB))
      (fun ρ => thenS (((var 4 ρ).bind fun x => fdivD x (D.int 840)).bind fun d => (((var 5 ρ).bind fun x => subD x (D.int 1)).bind fun d => R.ok [d]).bind fun ds => R.ok (d :: ds)) ρ (two fun d e => RS.next ((List.set ρ 4 (some (SV.val d))).set 5 (some (SV.val e))))) n
      [a, b, c, d, some (.val (.int rest)), some (.val (.int again)), e] = .next [a, b, c, d, some (.val (.int rest')), some (.val (.int again')), e]
  | 0, rest, again, h1, h2, h3 => by omega
  | n + 1, rest, again, h1, h2, h3 => by
    unfold whileS
    by_cases hc : 0 < rest ∧ 0 < again
    · obtain ⟨t, r, q1, q2⟩ := pick_loop a b c d e n (rest / 840) (again - 1) (by omega) (by omega) (by omega)
      refine ⟨t, r, q1, ?_⟩
      simp (disch := omega) [hc.1, hc.2, two]
      exact q2
    · refine ⟨rest, again, h1, ?_⟩
      by_cases h : 0 < rest
      · have ht : ¬ 0 < again := fun z => hc ⟨h, z⟩
        simp [h, ht]
      · simp [h]
theorem whileS_stop {ft : En → R Bool} {fb : En → RS} {n : Nat} {ρ : En} (hn : 0 < n) (h : ft ρ = .ok false) : whileS ft fb n ρ = .next ρ := by
  cases n with
  | zero => omega
  | succ n => unfold whileS; rw [h]; rfl
theorem pick_ok (ns : List Int) (k many : Int) (hl : ns.length ≤ 63) (hk : 0 ≤ k) (hk2 : k ≤ 4000) (hm : 0 < many) : ∃ r : Int, m__law_pick [.scr (ns.map D.int), .int k, .int many] = .ok (.int r) ∧ 0 ≤ r ∧ r < many := by
  suffices h : ∃ z : Int, m__law_pick [.scr (ns.map D.int), .int k, .int many] = .ok (.int (z % many)) by
    obtain ⟨z, h⟩ := h
    exact ⟨_, h, Int.emod_nonneg _ (by omega), Int.emod_lt_of_pos _ hm⟩
  by_cases hne : ns = []
  · subst hne
    have e := ne_scr_nil []
    simp only [List.map_nil] at e
    have h0 : ¬ (0 < (0 : Int)) := by decide
    simp (disch := omega) [m__law_pick, pk__law_pick, e, two, max2O]
    rw [whileS_stop (by decide) (by simp)]
    simp (disch := omega)
    exact ⟨_, rfl⟩
  · have hpos : 0 < (ns.length : Int) := by
      cases ns with
      | nil => exact absurd rfl hne
      | cons _ _ => simp
    have hem : ns.isEmpty = false := by cases ns <;> simp at hne ⊢
    have h1 : 0 ≤ k % (ns.length : Int) := Int.emod_nonneg _ (by omega)
    have h2 : k % (ns.length : Int) < ns.length := Int.emod_lt_of_pos _ hpos
    obtain ⟨c, hc⟩ : ∃ c : Int, L2.atI (ns.map D.int) (k % (ns.length : Int)) = some (.int c) := ⟨_, by
      rw [atI_at h1 (by rw [List.length_map]; omega), List.getElem_map]⟩
    have hix := (ixO_of hc).2.2
    have h3 : 0 ≤ k / (ns.length : Int) := Int.ediv_nonneg hk (by omega)
    have h4 : k / (ns.length : Int) ≤ 4000 := by
      have := Int.ediv_le_self (ns.length : Int) hk
      omega
    have h5 : max2O [.int (ns.length : Int), .int 1] = .ok (.int (ns.length : Int)) := by
      show R.ok (D.int (if (1 : Int) > (ns.length : Int) then 1 else (ns.length : Int))) = _
      rw [if_neg (by omega)]
    simp (disch := omega) [m__law_pick, pk__law_pick, hix, hem, two, h5]
    by_cases hA : 0 ≤ c / 1000000000000000000
    · obtain ⟨t, r, hr, hw⟩ := pick_loop (some (.val (.scr (ns.map D.int)))) (some (.val (.int k))) (some (.val (.int many))) (some (.val (.int c))) none 5000 (c / 1000000000000000000) (k / (ns.length : Int)) hA h3 (by omega)
      simp (disch := omega) [hw]
      by_cases hC : 0 < t
      · simp (disch := omega) [hC]
        exact ⟨_, rfl⟩
      · simp (disch := omega) [hC]
        exact ⟨_, rfl⟩
    · have hB : ¬ 0 < c / 1000000000000000000 := by omega
      rw [whileS_stop (by decide) (by simp [hB])]
      simp (disch := omega) [hB]
      exact ⟨_, rfl⟩
end Lw
end
section
set_option linter.all false
set_option maxRecDepth 100000
set_option autoImplicit false
namespace Lw
open PySem PySem.Spec L2 VL
set_option maxHeartbeats 1000000
/-! ### lines -/
def AL : List Str := ["a", "b", "c", "x", "n", "z", "q", "d", "e", "f", "g", "h", "dd", "abc", "zy", "zx", "zw", "zv"]
def Ls (f : List Str) : Prop := ∀ s ∈ f, s ∈ AL
theorem AL_run : ∀ s ∈ AL, (beqR (m_is_line [.str s]) (.ok (.bl true)) && PyData.strOk s && decide (s.length ≤ 3)) = true := by
  have h : (AL.all fun s => (beqR (m_is_line [.str s]) (.ok (.bl true)) && PyData.strOk s && decide (s.length ≤ 3))) = true := by decide +kernel
  exact List.all_eq_true.mp h
theorem line_ok {s : Str} (h : s ∈ AL) : m_is_line [.str s] = .ok (.bl true) := by
  have := AL_run s h
  simp only [Bool.and_eq_true] at this
  exact of_beqR this.1.1
theorem AL_str {s : Str} (h : s ∈ AL) : PyData.strOk s = true := by
  have := AL_run s h
  simp only [Bool.and_eq_true] at this
  exact this.1.2
theorem Ls.nil : Ls [] := fun _ h => by cases h
theorem Ls.app {f g : List Str} (a : Ls f) (b : Ls g) : Ls (f ++ g) := fun s h => (List.mem_append.mp h).elim (a s) (b s)
theorem Ls.flat {f : List Str} (a : Ls f) (n : Nat) : flat (n + 1) (.tup (f.map D.str)) = true := by
  rw [flat_tp, List.all_eq_true]
  exact fun s h => AL_str (a s h)
theorem Ls.all {f : List Str} (a : Ls f) : f.all PyData.strOk = true := List.all_eq_true.mpr fun s h => AL_str (a s h)
theorem eq_tp {f g : List Str} (a : Ls f) (b : Ls g) : eqO (.tup (f.map D.str)) (.tup (g.map D.str)) = .ok (.bl (decide (f = g))) := by
  rw [eqO_of (a.flat 59) (b.flat 59), eqD_tp]
theorem ne_tp {f g : List Str} (a : Ls f) (b : Ls g) : neO (.tup (f.map D.str)) (.tup (g.map D.str)) = .ok (.bl (!decide (f = g))) := by
  rw [neO_of (a.flat 59) (b.flat 59), eqD_tp]
theorem eq_tp0 {f : List Str} (a : Ls f) : eqO (.tup (f.map D.str)) (.tup []) = .ok (.bl (decide (f = []))) := eq_tp a Ls.nil
theorem ne_tp0 {f : List Str} (a : Ls f) : neO (.tup (f.map D.str)) (.tup []) = .ok (.bl (!decide (f = []))) := ne_tp a Ls.nil
/-! ### hunks.py -/
theorem are_lines_ok {f : List Str} (m : Int) (a : Ls f) (hl : f.length ≤ 1000) : m_are_lines [.tup (f.map D.str), .int m] = .ok (.bl (decide ((f.length : Int) ≤ m))) := by
  by_cases h : (f.length : Int) ≤ m
  · have hc := lcM_all D.str (vs := [2]) (g := putN 2) (ft := fun _ => .ok true) (fe := fun ρ => ((var 2 ρ).bind fun d => .ok [d]).bind m_is_line) (ρ := [some (.val (.tup (f.map D.str))), some (.val (.int m)), none])
      (fun _ => .bl true) f (by omega) fun s hs => ⟨_, rfl, rfl, by simp [wipeE, line_ok (a s hs)]⟩
    simp [m_are_lines, pk_are_lines, h, hc]
    have := allO_map (fun _ => true) f
    rw [this]
    simp
  · simp [m_are_lines, pk_are_lines, h]
theorem is_file_ok {f : List Str} (a : Ls f) (hl : f.length ≤ 1000) : m_is_file [.tup (f.map D.str)] = .ok (.bl (decide ((f.length : Int) ≤ 20))) := by
  simp [m_is_file, pk_is_file, are_lines_ok 20 a hl]
theorem is_int_int (v a b : Int) : m_is_int [.int v, .int a, .int b] = .ok (.bl (decide (a ≤ v ∧ v ≤ b))) := by
  by_cases h : a ≤ v <;> simp [m_is_int, pk_is_int, h]
theorem Ls.drop {f : List Str} (a : Ls f) (n : Nat) : Ls (f.drop n) := fun s h => a s (List.mem_of_mem_drop h)
theorem Ls.take {f : List Str} (a : Ls f) (n : Nat) : Ls (f.take n) := fun s h => a s (List.mem_of_mem_take h)
theorem rng1_int (n : Int) (h0 : -1000000 ≤ n) (h1 : n ≤ 1000000) : rng1 [.int n] = .ok ((List.range n.toNat).map fun i => D.int ((i : Nat) : Int)) := by
  show rngD 0 n = _
  unfold rngD
  rw [if_pos (by omega)]
  simp
theorem cut_tp (f : List Str) (lo hi : Option Int) : cutA (f.map D.str) lo hi = (cutA f lo hi).map D.str := cutA_map _ _ _ _
theorem check_file_ok {f : List Str} (a : Ls f) (hl : f.length ≤ 20) : m_check_file [.tup (f.map D.str)] = .ok .non := by
  have := is_file_ok a (by omega)
  rw [decide_eq_true (by omega)] at this
  simp [m_check_file, pk_check_file, this]
end Lw
end
section
set_option linter.all false
set_option maxRecDepth 100000
set_option autoImplicit false
namespace Lw
open PySem PySem.Spec L2 VL
set_option maxHeartbeats 1000000
/-! ### lines drawn by _law_pick -/
section
variable {ns : List Int}
def pick6 (r : Int) : Str := if r = 0 then "a" else if r = 1 then "b" else if r = 2 then "a" else if r = 3 then "c" else if r = 4 then "b" else "dd"
theorem pick6_AL (r : Int) : pick6 r ∈ AL := by
  unfold pick6
  repeat' split
  all_goals decide +kernel
theorem pick6_ok (r : Int) (h0 : 0 ≤ r) (h1 : r < 6) : ixO (.tup [.str "a", .str "b", .str "a", .str "c", .str "b", .str "dd"]) (.int r) = .ok (.str (pick6 r)) := by
  have h : r = 0 ∨ r = 1 ∨ r = 2 ∨ r = 3 ∨ r = 4 ∨ r = 5 := by omega
  rcases h with rfl | rfl | rfl | rfl | rfl | rfl <;> exact of_beqR (by decide +kernel)
theorem law_lines_ok (hl : ns.length ≤ 63) (at_ most : Int) (h0 : 0 ≤ at_) (h1 : at_ ≤ 3000) (h2 : 0 ≤ most) (h3 : most ≤ 100) : ∃ f : List Str, m__law_lines [.scr (ns.map D.int), .int at_, .int most] = .ok (.tup (f.map D.str)) ∧ Ls f ∧ (f.length : Int) ≤ most := by
  obtain ⟨n, hn, n0, n1⟩ := pick_ok ns at_ (most + 1) hl h0 (by omega) (by omega)
  have hd : ∀ i : Nat, i ∈ List.range n.toNat → ∃ r : Int, m__law_pick [.scr (ns.map D.int), .int (at_ + 1 + (i : Int)), .int 6] = .ok (.int r) ∧ 0 ≤ r ∧ r < 6 := fun i hi => by
    have := List.mem_range.mp hi
    exact pick_ok ns _ 6 hl (by omega) (by omega) (by decide)
  let φ : Nat → Str := fun i => match m__law_pick [.scr (ns.map D.int), .int (at_ + 1 + (i : Int)), .int 6] with
    | .ok (.int r) => pick6 r
    | _ => "a"
  refine ⟨(List.range n.toNat).map φ, ?_, fun s hs => ?_, ?_⟩
  · simp only [m__law_lines, pk__law_lines, body_3]
    simp [hn, rng1_nat n n0 (by omega)]
    rw [lcM_all (fun i : Nat => D.int ((i : Nat) : Int)) (fun i => .str (φ i)) (List.range n.toNat) (by rw [List.length_range]; omega)]
    · simp
    · intro i hi
      obtain ⟨r, e, r0, r1⟩ := hd i hi
      have hp : φ i = pick6 r := by show (match m__law_pick _ with | .ok (.int r) => pick6 r | _ => "a") = _; rw [e]
      exact ⟨_, rfl, rfl, by simp [wipeE, e, pick6_ok r r0 r1, hp]⟩
  · obtain ⟨i, hi, e⟩ := List.mem_map.mp hs
    obtain ⟨r, er, r0, r1⟩ := hd i hi
    have hp : φ i = pick6 r := by show (match m__law_pick _ with | .ok (.int r) => pick6 r | _ => "a") = _; rw [er]
    rw [← e, hp]
    exact pick6_AL r
  · simp; omega
end
end Lw
end
section
set_option linter.all false
set_option maxRecDepth 100000
set_option autoImplicit false
namespace Lw
open PySem PySem.Spec L2 VL
set_option maxHeartbeats 1000000
structure Hk where
  s : Int
  b : List Str
  o : List Str
  n : List Str
  a : List Str
abbrev hkD (h : Hk) : D := .tup [.int h.s, .tup (h.b.map D.str), .tup (h.o.map D.str), .tup (h.n.map D.str), .tup (h.a.map D.str)]
structure Gd (h : Hk) : Prop where
  b : Ls h.b
  o : Ls h.o
  n : Ls h.n
  a : Ls h.a
  lb : h.b.length ≤ 4
  lo : h.o.length ≤ 4
  ln : h.n.length ≤ 4
  la : h.a.length ≤ 4
def pat (h : Hk) : List Str := h.b ++ h.o ++ h.a
def oc (h : Hk) : List Str := h.b ++ h.n ++ h.a
theorem Gd.pat {h : Hk} (g : Gd h) : Ls (pat h) := (g.b.app g.o).app g.a
theorem Gd.oc {h : Hk} (g : Gd h) : Ls (oc h) := (g.b.app g.n).app g.a
theorem is_hunk_ok {h : Hk} (g : Gd h) : m_is_hunk [hkD h] = .ok (.bl (decide (0 ≤ h.s ∧ h.s ≤ 20) && (!decide (pat h = []) && !decide (h.o = h.n)))) := by
  have g1 := g.lb
  have g2 := g.lo
  have g3 := g.ln
  have g4 := g.la
  have p1 := are_lines_ok 4 g.b (by omega)
  have p2 := are_lines_ok 4 g.o (by omega)
  have p3 := are_lines_ok 4 g.n (by omega)
  have p4 := are_lines_ok 4 g.a (by omega)
  have e1 : addD (.tup (h.b.map D.str)) (.tup (h.o.map D.str)) = .ok (.tup ((h.b ++ h.o).map D.str)) := addD_tp _ _ (by omega)
  have e2 : addD (.tup ((h.b ++ h.o).map D.str)) (.tup (h.a.map D.str)) = .ok (.tup ((pat h).map D.str)) := addD_tp _ _ (by simp; omega)
  have n1 := ne_tp0 g.pat
  have n2 := ne_tp g.o g.n
  rw [decide_eq_true (by omega)] at p1 p2 p3 p4
  simp only [m_is_hunk, pk_is_hunk, body_1, hkD]
  by_cases hs : 0 ≤ h.s ∧ h.s ≤ 20
  · simp [is_int_int, lcM, lcD, wipeE, putN, putT, putAll, putNil, hs, p1, p2, p3, p4, e1, e2, n1, n2, allO, bools, -List.map_append]
    by_cases hp : pat h = [] <;> simp [hp]
  · simp [is_int_int, hs]
theorem pattern_of_ok {h : Hk} (g : Gd h) : m_pattern_of [hkD h] = .ok (.tup ((pat h).map D.str)) := by
  have g1 := g.lb
  have g2 := g.lo
  have g4 := g.la
  have e1 : addD (.tup (h.b.map D.str)) (.tup (h.o.map D.str)) = .ok (.tup ((h.b ++ h.o).map D.str)) := addD_tp _ _ (by omega)
  have e2 : addD (.tup ((h.b ++ h.o).map D.str)) (.tup (h.a.map D.str)) = .ok (.tup ((pat h).map D.str)) := addD_tp _ _ (by simp; omega)
  simp [m_pattern_of, pk_pattern_of, hkD, e1, e2, -List.map_append]
theorem outcome_of_ok {h : Hk} (g : Gd h) : m_outcome_of [hkD h] = .ok (.tup ((oc h).map D.str)) := by
  have g1 := g.lb
  have g2 := g.ln
  have g4 := g.la
  have e1 : addD (.tup (h.b.map D.str)) (.tup (h.n.map D.str)) = .ok (.tup ((h.b ++ h.n).map D.str)) := addD_tp _ _ (by omega)
  have e2 : addD (.tup ((h.b ++ h.n).map D.str)) (.tup (h.a.map D.str)) = .ok (.tup ((oc h).map D.str)) := addD_tp _ _ (by simp; omega)
  simp [m_outcome_of, pk_outcome_of, hkD, e1, e2, -List.map_append]
/-- a hunk -/
structure Vd (h : Hk) : Prop extends Gd h where
  s0 : 0 ≤ h.s
  s1 : h.s ≤ 20
  ne : pat h ≠ []
  df : h.o ≠ h.n
theorem is_hunk_vd {h : Hk} (v : Vd h) : m_is_hunk [hkD h] = .ok (.bl true) := by
  rw [is_hunk_ok v.toGd, decide_eq_true ⟨v.s0, v.s1⟩, decide_eq_false v.ne, decide_eq_false v.df]
  rfl
theorem check_hunk_ok {h : Hk} (v : Vd h) : m_check_hunk [hkD h] = .ok .non := by
  simp [m_check_hunk, pk_check_hunk, is_hunk_vd v]
/-! ### what the law draws -/
section
variable {ns : List Int}
end
end Lw
end
section
set_option linter.all false
set_option maxRecDepth 100000
set_option autoImplicit false
namespace Lw
open PySem PySem.Spec L2 VL
set_option maxHeartbeats 1000000
/-! ### places -/
def hit (p f : List Str) (i : Nat) : Bool := decide ((f.drop i).take p.length = p)
def pls (p f : List Str) : List Nat := (List.range (f.length + 1 - p.length)).filter (hit p f)
def nats (xs : List Nat) : List D := xs.map fun i : Nat => D.int ((i : Nat) : Int)
theorem pls_lt {p f : List Str} {i : Nat} (h : i ∈ pls p f) : i + p.length ≤ f.length := by
  have := (List.mem_filter.mp h).1
  have := List.mem_range.mp this
  omega
theorem pls_hit {p f : List Str} {i : Nat} (h : i ∈ pls p f) : (f.drop i).take p.length = p := of_decide_eq_true (List.mem_filter.mp h).2
theorem mem_pls {p f : List Str} {i : Nat} (h1 : i + p.length ≤ f.length) (h2 : (f.drop i).take p.length = p) : i ∈ pls p f :=
  List.mem_filter.mpr ⟨List.mem_range.mpr (by omega), decide_eq_true h2⟩
theorem find_places_ok {h : Hk} (g : Gd h) {f : List Str} (a : Ls f) (hf : f.length ≤ 1000) : m_find_places [hkD h, .tup (f.map D.str)] = .ok (.lst (nats (pls (pat h) f))) := by
  have hp : (pat h).length ≤ 12 := by
    have g1 := g.lb
    have g2 := g.lo
    have g4 := g.la
    simp [pat]; omega
  have hr : ((f.length : Int) - ((pat h).length : Int) + 1).toNat = f.length + 1 - (pat h).length := by omega
  have pq := pattern_of_ok g
  simp only [hkD] at *
  simp [m_find_places, pk_find_places, pq, rng1_int ((f.length : Int) - ((pat h).length : Int) + 1) (by omega) (by omega), hr, -List.map_append]
  rw [lcM_map (fun i : Nat => D.int ((i : Nat) : Int)) (hit (pat h) f) (fun i => D.int ((i : Nat) : Int)) _ (by rw [List.length_range]; omega)]
  · rfl
  · intro i hi
    refine ⟨_, rfl, ?_, fun _ => by simp [wipeE]⟩
    have e : cutA f (some (i : Int)) (some ((i : Int) + ((pat h).length : Int))) = (f.drop i).take (pat h).length := by
      rw [cut_lh _ _ _ (by omega) (by omega)]
      have h1 : ((i : Int) + ((pat h).length : Int)).toNat - ((i : Int)).toNat = (pat h).length := by omega
      have h2 : ((i : Int)).toNat = i := by omega
      rw [h1, h2]
    simp [wipeE, cut_tp, e, eq_tp ((a.drop i).take (pat h).length) g.pat, hit, -List.map_take, -List.map_drop]
/-! ### the nearest -/
def dst (s : Int) (i : Nat) : Int := if (i : Int) - s < 0 then -((i : Int) - s) else (i : Int) - s
def near (s : Int) : List Nat → Option Nat
  | [] => none
  | i :: is => some (is.foldl (fun b j => if dst s j < dst s b then j else b) i)
def prD (s : Int) (i : Nat) : D := .tup [.int (dst s i), .int ((i : Nat) : Int)]
theorem lt_prD (s : Int) (i j : Nat) : ltDD (prD s i) (prD s j) = decide (dst s i < dst s j ∨ (dst s i = dst s j ∧ i < j)) := by
  unfold ltDD prD
  have e : ∀ k : Nat, PySem.W.keyToks (toP (D.tup [.int (dst s k), .int ((k : Nat) : Int)])) = [.inl 1, .inl (dst s k), .inl 1, .inl ((k : Nat) : Int), .inl 0] := fun k => by
    simp [toP, toPs, PySem.W.keyToks, PySem.W.keyToksAll]
  unfold PySem.W.dataLt
  rw [e, e, PyProof.Rows.lex_self]
  by_cases h1 : dst s i = dst s j
  · rw [h1, PyProof.Rows.lex_self, PyProof.Rows.lex_self]
    by_cases h2 : i = j
    · subst h2
      rw [PyProof.Rows.lex_self]
      simp
      decide +kernel
    · rw [PyProof.Rows.lex_diff (fun q => h2 (by have := Sum.inl.inj q; omega))]
      simp [PyProof.Rows.itemOrd, PyProof.Rows.itemLt]
  · rw [PyProof.Rows.lex_diff (fun q => h1 (Sum.inl.inj q))]
    simp [PyProof.Rows.itemOrd, PyProof.Rows.itemLt, h1]
theorem near_fold (s : Int) : ∀ (is : List Nat) (i : Nat), (∀ j ∈ is, i < j) → is.Pairwise (· < ·) →
    (is.map (prD s)).foldl (fun a y => if ltDD y a then y else a) (prD s i) = prD s (is.foldl (fun b j => if dst s j < dst s b then j else b) i)
  | [], i, _, _ => rfl
  | j :: is, i, h1, h2 => by
    rw [List.map_cons, List.foldl_cons, List.foldl_cons, lt_prD]
    have hij : i < j := h1 j List.mem_cons_self
    have h3 := List.pairwise_cons.mp h2
    by_cases hd : dst s j < dst s i
    · rw [if_pos (by simp [hd]), if_pos hd]
      exact near_fold s is j h3.1 h3.2
    · have hn : ¬ (dst s j < dst s i ∨ (dst s j = dst s i ∧ j < i)) := by omega
      rw [if_neg (by simpa using hn), if_neg hd]
      exact near_fold s is i (fun k hk => h1 k (List.mem_cons_of_mem _ hk)) h3.2
theorem pls_asc (p f : List Str) : (pls p f).Pairwise (· < ·) := List.Pairwise.filter _ List.pairwise_lt_range
def opD : Option Nat → D
  | none => .non
  | some i => .int ((i : Nat) : Int)
theorem alikes_pr (s : Int) (is : List Nat) : alikes (is.map (prD s)) = true := by
  unfold alikes
  rw [List.all_eq_true]
  intro x hx
  obtain ⟨i, _, rfl⟩ := List.mem_map.mp hx
  rw [Bool.and_eq_true]
  refine ⟨rfl, ?_⟩
  rw [List.all_eq_true]
  intro y hy
  obtain ⟨j, _, rfl⟩ := List.mem_map.mp hy
  simp [prD, toP, toPs, PySem.W.alike, PySem.W.alikeAll]
theorem flats_pr (s : Int) (n : Nat) : ∀ is : List Nat, flats (n + 1) (is.map (prD s)) = true
  | [] => rfl
  | i :: is => by
    rw [List.map_cons, flats, flats_pr s n is]
    simp [prD, flat, flats]
theorem min_pr (s : Int) (i : Nat) (is : List Nat) (h1 : ∀ j ∈ is, i < j) (h2 : is.Pairwise (· < ·)) : minO [.lst (prD s i :: is.map (prD s))] = .ok (prD s (is.foldl (fun b j => if dst s j < dst s b then j else b) i)) := by
  unfold minO
  have a := alikes_pr s (i :: is)
  have b := flats_pr s 19 (i :: is)
  rw [List.map_cons] at a b
  dsimp only
  rw [a, b, near_fold s is i h1 h2]
  rfl
theorem find_nearest_ok {h : Hk} (g : Gd h) {f : List Str} (a : Ls f) (hf : f.length ≤ 1000) : m_find_nearest [hkD h, .tup (f.map D.str)] = .ok (opD (near h.s (pls (pat h) f))) := by
  have pq := find_places_ok g a hf
  have hl : (pls (pat h) f).length ≤ 1001 := by
    refine Nat.le_trans (List.length_filter_le _ _) ?_
    rw [List.length_range]; omega
  have asc := pls_asc (pat h) f
  simp only [hkD] at *
  simp [m_find_nearest, pk_find_nearest, pq, nats]
  rw [lcM_all (fun i : Nat => D.int ((i : Nat) : Int)) (fun i => prD h.s i) (pls (pat h) f) (by omega)]
  · cases hq : pls (pat h) f with
    | nil =>
      have e : neO (.lst []) (.lst []) = .ok (.bl false) := of_beqR (by decide +kernel)
      simp [e, near, opD]
    | cons i is =>
      rw [hq] at asc
      have asc := List.pairwise_cons.mp asc
      have := min_pr h.s i is asc.1 asc.2
      have b := flats_pr h.s 58 (i :: is)
      rw [List.map_cons] at b
      have e : neO (.lst (prD h.s i :: is.map (prD h.s))) (.lst []) = .ok (.bl true) := by
        rw [neO_of (by rw [flat]; exact b) rfl]; simp [eqD, eqDs]
      have e' : List.map (fun i => prD h.s i) is = is.map (prD h.s) := rfl
      rw [List.map_cons, e']
      simp [e, this]
      simp [near, opD, prD]
  · intro i hi
    exact ⟨_, rfl, rfl, by simp [wipeE, absO, prD, dst]⟩
/-! ### applying -/
def put (h : Hk) (f : List Str) (i : Nat) : List Str := f.take i ++ oc h ++ f.drop (i + (pat h).length)
theorem gd_oclen {h : Hk} (g : Gd h) : (oc h).length ≤ 12 := by
  have g1 := g.lb
  have g2 := g.ln
  have g4 := g.la
  simp [oc]; omega
theorem gd_patlen {h : Hk} (g : Gd h) : (pat h).length ≤ 12 := by
  have g1 := g.lb
  have g2 := g.lo
  have g4 := g.la
  simp [pat]; omega
theorem gd_put {h : Hk} (g : Gd h) {f : List Str} (a : Ls f) (i : Nat) : Ls (put h f i) := ((a.take i).app g.oc).app (a.drop _)
theorem put_len {h : Hk} {f : List Str} {i : Nat} (hi : i + (pat h).length ≤ f.length) : (put h f i).length + (pat h).length = f.length + (oc h).length := by
  simp [put]; omega
theorem cat3 {f g k : List Str} (h : f.length + g.length + k.length ≤ 5000) : (addD (.tup (f.map D.str)) (.tup (g.map D.str))).bind (fun x => addD x (.tup (k.map D.str))) = .ok (.tup ((f ++ g ++ k).map D.str)) := by
  rw [addD_tp _ _ (by omega), bind_ok, addD_tp _ _ (by simp; omega)]
theorem apply_there_ok {h : Hk} (g : Gd h) {f : List Str} (hf : f.length ≤ 1000) (i : Nat) (hi : i ≤ 1000) : m_apply_there [hkD h, .tup (f.map D.str), .int ((i : Nat) : Int)] = .ok (.tup ((put h f i).map D.str)) := by
  have pq := pattern_of_ok g
  have oq := outcome_of_ok g
  have h1 := gd_oclen g
  have h2 := gd_patlen g
  have e1 : cutA f none (some (i : Int)) = f.take i := by rw [cut_hi _ _ (by omega)]; simp
  have e2 : cutA f (some ((i : Int) + ((pat h).length : Int))) none = f.drop (i + (pat h).length) := by
    rw [cut_lo _ _ (by omega)]
    have : ((i : Int) + ((pat h).length : Int)).toNat = i + (pat h).length := by omega
    rw [this]
  have e3 := cat3 (f := f.take i) (g := oc h) (k := f.drop (i + (pat h).length)) (by simp; omega)
  simp only [hkD] at *
  simp [m_apply_there, pk_apply_there, pq, oq, cut_tp, e1, e2, -List.map_append, -List.map_take, -List.map_drop]
  rw [e3]
  rfl
/-! ### the law's own -/
theorem near_snoc (s : Int) (x : Nat) : ∀ pre : List Nat, near s (pre ++ [x]) = match near s pre with
    | none => some x
    | some b => if dst s x < dst s b then some x else some b
  | [] => rfl
  | i :: is => by
    simp only [near, List.cons_append, List.foldl_append, List.foldl_cons, List.foldl_nil]
    split <;> rfl
theorem lpls (p f : List Str) (hp : p ≠ []) : (List.range f.length).filter (hit p f) = pls p f := by
  have hpl : 0 < p.length := List.length_pos_iff.mpr hp
  unfold pls
  by_cases hf : p.length ≤ f.length + 1
  · have e : f.length = (f.length + 1 - p.length) + (p.length - 1) := by omega
    have e2 : List.range f.length = List.range (f.length + 1 - p.length) ++ (List.range (p.length - 1)).map (f.length + 1 - p.length + ·) := by
      rw [← List.range_add, ← e]
    rw [e2, List.filter_append]
    have e3 : ((List.range (p.length - 1)).map (f.length + 1 - p.length + ·)).filter (hit p f) = [] := by
      rw [List.filter_eq_nil_iff]
      intro x hx
      obtain ⟨k, hk, rfl⟩ := List.mem_map.mp hx
      have := List.mem_range.mp hk
      unfold hit
      intro h
      have h' := congrArg List.length (of_decide_eq_true h)
      simp at h'
      omega
    rw [e3, List.append_nil]
  · have e : f.length + 1 - p.length = 0 := by omega
    rw [e, List.range_zero, List.filter_nil, List.filter_eq_nil_iff]
    intro x hx h
    have := List.mem_range.mp hx
    unfold hit at h
    have h' := congrArg List.length (of_decide_eq_true h)
    simp at h'
    omega
end Lw
end
section
set_option linter.all false
set_option maxRecDepth 100000
set_option autoImplicit false
namespace Lw
open PySem PySem.Spec L2 VL
set_option maxHeartbeats 1000000
/-! ### places.py, for k03 and k05 -/
theorem flats_nats {n : Nat} : ∀ xs : List Nat, flats n (nats xs) = true
  | [] => rfl
  | x :: xs => by
    show (flat n (D.int _) && flats n (nats xs)) = true
    rw [flats_nats xs]; cases n <;> rfl
theorem eqDs_nats : ∀ xs ys : List Nat, eqDs (nats xs) (nats ys) = decide (xs = ys)
  | [], [] => rfl
  | [], _ :: _ => by simp [eqDs, nats]
  | _ :: _, [] => by simp [eqDs, nats]
  | x :: xs, y :: ys => by
    have ih := eqDs_nats xs ys
    simp only [nats] at ih
    simp only [nats, List.map_cons, eqDs, eqD, ih]
    by_cases h : x = y
    · subst h; simp
    · have : ¬ ((x : Int) = (y : Int)) := by omega
      simp [h, this]
theorem eq_nats (xs ys : List Nat) : eqO (.lst (nats xs)) (.lst (nats ys)) = .ok (.bl (decide (xs = ys))) := by
  rw [eqO_of (by rw [flat]; exact flats_nats xs) (by rw [flat]; exact flats_nats ys), eqD, eqDs_nats]
theorem ne_nats (xs ys : List Nat) : neO (.lst (nats xs)) (.lst (nats ys)) = .ok (.bl (!decide (xs = ys))) := by
  rw [neO_of (by rw [flat]; exact flats_nats xs) (by rw [flat]; exact flats_nats ys), eqD, eqDs_nats]
theorem ne_nats0 (xs : List Nat) : neO (.lst (nats xs)) (.lst []) = .ok (.bl (!decide (xs = []))) := ne_nats xs []
theorem eq_nats0 (xs : List Nat) : eqO (.lst (nats xs)) (.lst []) = .ok (.bl (decide (xs = []))) := eq_nats xs []
theorem any_nats (i : Nat) : ∀ xs : List Nat, ((nats xs).any fun z => eqD z (.int (i : Nat))) = decide (i ∈ xs)
  | [] => rfl
  | x :: xs => by
    have ih := any_nats i xs
    simp only [nats] at ih
    simp only [nats, List.map_cons, List.any_cons, ih, eqD]
    by_cases h : x = i
    · subst h; simp
    · have : ¬ ((x : Int) = (i : Int)) := by omega
      have h' : ¬ i = x := fun e => h e.symm
      simp [this, h']
theorem inO_nats (i : Nat) (xs : List Nat) : inO (.int (i : Nat)) (.lst (nats xs)) = .ok (.bl (decide (i ∈ xs))) := by
  have : inD (.int (i : Nat)) (.lst (nats xs)) = .ok (.bl (decide (i ∈ xs))) := by
    show (if (flat 50 (.int (i : Nat)) && flats 50 (nats xs)) = true then R.ok (D.bl ((nats xs).any fun z => eqD z (.int (i : Nat)))) else .stuck) = _
    rw [flats_nats, any_nats]; rfl
  unfold inO
  rw [this]; rfl
theorem notIn_nats (i : Nat) (xs : List Nat) : notInD (.int (i : Nat)) (.lst (nats xs)) = .ok (.bl (!decide (i ∈ xs))) := by
  have : inD (.int (i : Nat)) (.lst (nats xs)) = .ok (.bl (decide (i ∈ xs))) := by
    show (if (flat 50 (.int (i : Nat)) && flats 50 (nats xs)) = true then R.ok (D.bl ((nats xs).any fun z => eqD z (.int (i : Nat)))) else .stuck) = _
    rw [flats_nats, any_nats]; rfl
  unfold notInD
  rw [this]; rfl
theorem near_mem {s : Int} : ∀ {xs : List Nat} {i : Nat}, near s xs = some i → i ∈ xs
  | [], _, h => by cases h
  | x :: xs, i, h => by
    have aux : ∀ (ys : List Nat) (b : Nat), (ys.foldl (fun b j => if dst s j < dst s b then j else b) b) = b ∨ (ys.foldl (fun b j => if dst s j < dst s b then j else b) b) ∈ ys := by
      intro ys
      induction ys with
      | nil => intro b; exact .inl rfl
      | cons y ys ih =>
        intro b
        rw [List.foldl_cons]
        rcases ih (if dst s y < dst s b then y else b) with q | q
        · rw [q]
          split
          · exact .inr List.mem_cons_self
          · exact .inl rfl
        · exact .inr (List.mem_cons_of_mem _ q)
    have h' : xs.foldl (fun b j => if dst s j < dst s b then j else b) x = i := by simpa [near] using h
    rcases aux xs x with q | q
    · rw [← h', q]; exact List.mem_cons_self
    · rw [← h']; exact List.mem_cons_of_mem _ q
theorem near_none {s : Int} {xs : List Nat} : near s xs = none ↔ xs = [] := by cases xs <;> simp [near]
/-! loosened -/
def loos (h : Hk) (k : Nat) : Hk := ⟨h.s + (min k h.b.length : Nat), h.b.drop k, h.o, h.n, h.a.take (h.a.length - k)⟩
theorem Gd.loos {h : Hk} (g : Gd h) (k : Nat) : Gd (loos h k) := by
  have g1 := g.lb
  have g4 := g.la
  exact ⟨g.b.drop k, g.o, g.n, g.a.take _, by simp [Lw.loos]; omega, g.lo, g.ln, by simp [Lw.loos]; omega⟩
end Lw
end
section
set_option linter.all false
set_option maxRecDepth 100000
set_option autoImplicit false
namespace Lw
open PySem PySem.Spec L2 VL
set_option maxHeartbeats 1000000
/-! ### places as splittings -/
theorem pls_split {p f : List Str} {i : Nat} : i ∈ pls p f ↔ ∃ u v, f = u ++ p ++ v ∧ u.length = i := by
  constructor
  · intro h
    have h1 := pls_lt h
    have h2 := pls_hit h
    refine ⟨f.take i, (f.drop i).drop p.length, ?_, by simp; omega⟩
    have e : f.drop i = p ++ (f.drop i).drop p.length := by
      have := List.take_append_drop p.length (f.drop i)
      rw [h2] at this
      exact this.symm
    rw [List.append_assoc, ← e, List.take_append_drop]
  · rintro ⟨u, v, rfl, rfl⟩
    refine mem_pls (by simp) ?_
    rw [List.append_assoc, List.drop_left, List.take_left]
theorem put_split {h : Hk} {u v : List Str} : put h (u ++ pat h ++ v) u.length = u ++ oc h ++ v := by
  unfold put
  have e1 : (u ++ pat h ++ v).take u.length = u := by rw [List.append_assoc, List.take_left]
  have e2 : (u ++ pat h ++ v).drop (u.length + (pat h).length) = v := by
    rw [← List.length_append, List.drop_left]
  rw [e1, e2]
theorem pls_infix {x q y f : List Str} {i : Nat} (h : i ∈ pls (x ++ q ++ y) f) : i + x.length ∈ pls q f := by
  obtain ⟨u, v, e, hu⟩ := pls_split.mp h
  exact pls_split.mpr ⟨u ++ x, y ++ v, by rw [e]; simp [List.append_assoc], by simp [hu]⟩
theorem pat_loos_infix (h : Hk) (k m : Nat) (hk : k ≤ m) : ∃ x y, pat (loos h k) = x ++ pat (loos h m) ++ y ∧ x.length = min m h.b.length - min k h.b.length := by
  refine ⟨(h.b.drop k).take (m - k), (h.a.take (h.a.length - k)).drop (h.a.length - m), ?_, by simp; omega⟩
  have e1 : h.b.drop k = (h.b.drop k).take (m - k) ++ h.b.drop m := by
    have := (List.take_append_drop (m - k) (h.b.drop k)).symm
    rw [List.drop_drop] at this
    have e : k + (m - k) = m := by omega
    rw [e] at this
    exact this
  have e2 : h.a.take (h.a.length - k) = h.a.take (h.a.length - m) ++ (h.a.take (h.a.length - k)).drop (h.a.length - m) := by
    have := (List.take_append_drop (h.a.length - m) (h.a.take (h.a.length - k))).symm
    rw [List.take_take] at this
    have e : min (h.a.length - m) (h.a.length - k) = h.a.length - m := by omega
    rw [e] at this
    exact this
  have f1 : pat (loos h k) = h.b.drop k ++ h.o ++ h.a.take (h.a.length - k) := rfl
  have f2 : pat (loos h m) = h.b.drop m ++ h.o ++ h.a.take (h.a.length - m) := rfl
  rw [f1, f2]
  conv =>
    lhs
    rw [e1, e2]
  simp only [List.append_assoc]
theorem loos_0 (h : Hk) : loos h 0 = h := by
  cases h; simp [loos]
theorem pls_loos {h : Hk} {f : List Str} {i k m : Nat} (hk : k ≤ m) (hi : i ∈ pls (pat (loos h k)) f) : i + (min m h.b.length - min k h.b.length) ∈ pls (pat (loos h m)) f := by
  obtain ⟨x, y, e, hx⟩ := pat_loos_infix h k m hk
  rw [e] at hi
  rw [← hx]
  exact pls_infix hi
theorem near_min {s : Int} : ∀ {xs : List Nat} {b : Nat}, xs.Pairwise (· < ·) → near s xs = some b → ∀ x ∈ xs, dst s b ≤ dst s x ∧ (dst s x = dst s b → b ≤ x)
  | [], _, _, h => by cases h
  | x :: xs, b, hp, h => by
    have aux : ∀ (ys : List Nat) (c : Nat), ys.Pairwise (· < ·) → (∀ y ∈ ys, c < y) → ∀ z, z = ys.foldl (fun b j => if dst s j < dst s b then j else b) c → (dst s z ≤ dst s c ∧ (dst s c = dst s z → z ≤ c)) ∧ ∀ y ∈ ys, dst s z ≤ dst s y ∧ (dst s y = dst s z → z ≤ y) := by
      intro ys
      induction ys with
      | nil => intro c _ _ z e; subst e; exact ⟨⟨Int.le_refl _, fun _ => Nat.le_refl _⟩, fun _ h => by cases h⟩
      | cons y ys ih =>
        intro c hp hc z e
        have hp' := List.pairwise_cons.mp hp
        have hcy := hc y List.mem_cons_self
        rw [List.foldl_cons] at e
        by_cases hd : dst s y < dst s c
        · rw [if_pos hd] at e
          obtain ⟨⟨a1, a2⟩, a3⟩ := ih y hp'.2 hp'.1 z e
          refine ⟨⟨by omega, fun q => by omega⟩, fun w hw => ?_⟩
          rcases List.mem_cons.mp hw with rfl | hw
          · exact ⟨a1, a2⟩
          · exact a3 w hw
        · rw [if_neg hd] at e
          obtain ⟨⟨a1, a2⟩, a3⟩ := ih c hp'.2 (fun w hw => hc w (List.mem_cons_of_mem _ hw)) z e
          refine ⟨⟨a1, a2⟩, fun w hw => ?_⟩
          rcases List.mem_cons.mp hw with rfl | hw
          · refine ⟨by omega, fun q => ?_⟩
            have : dst s c = dst s z := by omega
            have := a2 this
            omega
          · exact a3 w hw
    have hp' := List.pairwise_cons.mp hp
    have h' : b = xs.foldl (fun b j => if dst s j < dst s b then j else b) x := by simpa [near] using h.symm
    obtain ⟨a1, a2⟩ := aux xs x hp'.2 hp'.1 b h'
    intro w hw
    rcases List.mem_cons.mp hw with rfl | hw
    · exact a1
    · exact a2 w hw
end Lw
end
section
set_option linter.all false
set_option maxRecDepth 100000
set_option autoImplicit false
namespace Lw
open PySem PySem.Spec L2 VL
set_option maxHeartbeats 1000000
/-! ### series of hunks -/
def opL : Option (List Str) → D
  | none => .non
  | some f => .tup (f.map D.str)
def aft (h : Hk) (f : List Str) : Option (List Str) := match near h.s (pls (pat h) f) with
  | none => none
  | some i => if (put h f i).length ≤ 20 then some (put h f i) else none
theorem aft_out {h : Hk} (g : Gd h) {f f' : List Str} (a : Ls f) (e : aft h f = some f') : Ls f' ∧ f'.length ≤ 20 ∧ f'.length + (pat h).length = f.length + (oc h).length := by
  unfold aft at e
  split at e
  · cases e
  · rename_i i hi
    split at e
    · cases e
      exact ⟨gd_put g a i, by assumption, put_len (pls_lt (near_mem hi))⟩
    · cases e
theorem after_hunk_ok {h : Hk} (g : Gd h) {f : List Str} (a : Ls f) (hf : f.length ≤ 20) : m_after_hunk [hkD h, .tup (f.map D.str)] = .ok (opL (aft h f)) := by
  have q1 := find_nearest_ok g a (by omega)
  cases hn : near h.s (pls (pat h) f) with
  | none =>
    rw [hn] at q1
    simp only [hkD] at *
    simp [m_after_hunk, pk_after_hunk, q1, opD, aft, hn, opL]
  | some i =>
    have hi := pls_lt (near_mem hn)
    have q2 := apply_there_ok g (f := f) (by omega) i (by omega)
    rw [hn] at q1
    simp only [hkD] at *
    by_cases hl : (put h f i).length ≤ 20
    · have hl' : ((put h f i).length : Int) ≤ 20 := by omega
      simp [m_after_hunk, pk_after_hunk, q1, opD, aft, hn, q2, hl, hl', opL]
    · have hl' : ¬ ((put h f i).length : Int) ≤ 20 := by omega
      simp [m_after_hunk, pk_after_hunk, q1, opD, aft, hn, q2, hl, hl', opL]
def run (hs : List Hk) : List Str → List Nat → Option (List Str)
  | f, [] => some f
  | f, i :: w => match hs[i]? with
    | none => none
    | some h => match aft h f with
      | none => none
      | some g => run hs g w
theorem ix_hk {hs : List Hk} {i : Nat} {h : Hk} (e : hs[i]? = some h) : ixO (.lst (hs.map hkD)) (.int (i : Nat)) = .ok (hkD h) :=
  (ixO_of (L2.atI_nat (j := i) (by rw [List.getElem?_map, e]; rfl))).1
section
variable {hs : List Hk} {f : List Str}
theorem order_loop (gs : ∀ h ∈ hs, Gd h) (F0 O : Option SV) : ∀ (w : List Nat) (f : List Str) (z : Option SV), Ls f → f.length ≤ 20 → (∀ i ∈ w, i < hs.length) →
    ∀ body, body = (seqS (fun ρ => setS 3 ((((var 0 ρ).bind fun x => (var 4 ρ).bind fun y => ixO x y).bind fun d => ((var 3 ρ).bind fun d => (R.ok []).bind fun ds => R.ok (d :: ds)).bind fun ds => R.ok (d :: ds)).bind m_after_hunk) ρ)
              fun ρ => thenS (((var 3 ρ).bind fun x => (R.ok D.non).bind fun y => isD x y).bind asB) ρ fun k => if k = true then thenS (R.ok D.non) ρ fun d => RS.ret d else RS.next ρ) →
    (run hs f w = none → forS (putN 4) body (nats w) [some (.val (.lst (hs.map hkD))), F0, O, some (.val (.tup (f.map D.str))), z] = .ret .non) ∧
    ∀ g, run hs f w = some g → ∃ z', forS (putN 4) body (nats w) [some (.val (.lst (hs.map hkD))), F0, O, some (.val (.tup (f.map D.str))), z] = .next [some (.val (.lst (hs.map hkD))), F0, O, some (.val (.tup (g.map D.str))), z']
  | [], f, z, _, _, _, body, _ => ⟨fun h => (by simp [run] at h), fun g h => ⟨z, by simp [run] at h; subst h; rfl⟩⟩
  | i :: w, f, z, a, hf, hw, body, eb => by
    have hi := hw i List.mem_cons_self
    have e : hs[i]? = some hs[i] := List.getElem?_eq_getElem hi
    have g := gs hs[i] (List.getElem_mem hi)
    generalize hs[i] = h at e g
    have q1 := after_hunk_ok g a hf
    have q2 := ix_hk e
    cases ha : aft h f with
    | none =>
      rw [ha] at q1
      refine ⟨fun _ => ?_, fun g' hg => ?_⟩
      · refine forS_ret (ρ1 := [some (.val (.lst (hs.map hkD))), F0, O, some (.val (.tup (f.map D.str))), some (.val (.int (i : Nat)))]) rfl ?_
        subst eb
        simp [q2, q1, opL, -List.map_map]
      · simp [run, e, ha] at hg
    | some f' =>
      rw [ha] at q1
      obtain ⟨l1, l2, _⟩ := aft_out g a ha
      obtain ⟨r1, r2⟩ := order_loop gs F0 O w f' (some (.val (.int (i : Nat)))) l1 l2 (fun j hj => hw j (List.mem_cons_of_mem _ hj)) body eb
      have st : forS (putN 4) body (nats (i :: w)) [some (.val (.lst (hs.map hkD))), F0, O, some (.val (.tup (f.map D.str))), z] = forS (putN 4) body (nats w) [some (.val (.lst (hs.map hkD))), F0, O, some (.val (.tup (f'.map D.str))), some (.val (.int (i : Nat)))] := by
        refine forS_next (ρ1 := [some (.val (.lst (hs.map hkD))), F0, O, some (.val (.tup (f.map D.str))), some (.val (.int (i : Nat)))]) rfl (.inl ?_)
        subst eb
        simp [q2, q1, opL, -List.map_map]
      rw [st]
      have er : run hs f (i :: w) = run hs f' w := by simp [run, e, ha]
      rw [er]
      exact ⟨r1, r2⟩
/-! ### the orders -/
def begs (m : Nat) : Nat → List (List Nat)
  | 0 => [[]]
  | n + 1 => (begs m n).flatMap fun o => ((List.range m).filter fun i => !decide (i ∈ o)).map fun i => o ++ [i]
def wD (w : List Nat) : D := .tup (nats w)
def ords (hs : List Hk) (f : List Str) : List (List Nat) := (begs hs.length hs.length).filter fun w => (run hs f w).isSome
theorem beg_len : ∀ m ∈ [1, 2, 3, 4], ∀ n ∈ [0, 1, 2, 3, 4], (begs m n).length ≤ 24 := by decide
end
end Lw
end
section
set_option linter.all false
set_option maxRecDepth 100000
set_option autoImplicit false
namespace Lw
open PySem PySem.Spec L2 VL
theorem sortD_pw (ds : List D) : (sortD ds).Pairwise (fun x y => PySem.W.dataLe false toP x y = true) :=
  PySem.W.sort_pairwise (PySem.W.sortLe_total (PyProof.Rows.listOrd PyProof.Rows.itemOrd) false fun d : D => PySem.W.keyToks (toP d)) ds
end Lw
end
section
set_option linter.all false
set_option maxRecDepth 100000
set_option autoImplicit false
namespace Lw
open PySem PySem.Spec L2 VL
set_option maxHeartbeats 1000000
/-! ### the law's own: places, applying, orders -/
theorem law_body_ok {h : Hk} (g : Gd h) : m__law_body [hkD h] = .ok (.tup [.tup ((pat h).map D.str), .tup ((oc h).map D.str)]) := by
  have g1 := g.lb
  have g2 := g.lo
  have g3 := g.ln
  have g4 := g.la
  have e1 : addD (.tup (h.b.map D.str)) (.tup (h.o.map D.str)) = .ok (.tup ((h.b ++ h.o).map D.str)) := addD_tp _ _ (by omega)
  have e2 : addD (.tup ((h.b ++ h.o).map D.str)) (.tup (h.a.map D.str)) = .ok (.tup ((pat h).map D.str)) := addD_tp _ _ (by simp; omega)
  have e3 : addD (.tup (h.b.map D.str)) (.tup (h.n.map D.str)) = .ok (.tup ((h.b ++ h.n).map D.str)) := addD_tp _ _ (by omega)
  have e4 : addD (.tup ((h.b ++ h.n).map D.str)) (.tup (h.a.map D.str)) = .ok (.tup ((oc h).map D.str)) := addD_tp _ _ (by simp; omega)
  simp [m__law_body, pk__law_body, putT, putAll, putN, putNil, hkD, e1, e2, e3, e4, -List.map_append]
theorem law_spots_ok {h : Hk} (g : Gd h) {f : List Str} (a : Ls f) (hf : f.length ≤ 1000) : m__law_spots [hkD h, .tup (f.map D.str)] = .ok (.lst (nats (pls (pat h) f))) := by
  have hp := gd_patlen g
  have hr : ((f.length : Int) - ((pat h).length : Int) + 1).toNat = f.length + 1 - (pat h).length := by omega
  have pq := law_body_ok g
  simp only [hkD] at *
  simp [m__law_spots, pk__law_spots, pq, rng1_int ((f.length : Int) - ((pat h).length : Int) + 1) (by omega) (by omega), hr, -List.map_append]
  rw [lcM_map (fun i : Nat => D.int ((i : Nat) : Int)) (hit (pat h) f) (fun i => D.int ((i : Nat) : Int)) _ (by rw [List.length_range]; omega)]
  · rfl
  · intro i hi
    refine ⟨_, rfl, ?_, fun _ => by simp [wipeE]⟩
    have e : cutA f (some (i : Int)) (some ((i : Int) + ((pat h).length : Int))) = (f.drop i).take (pat h).length := by
      rw [cut_lh _ _ _ (by omega) (by omega)]
      have h1 : ((i : Int) + ((pat h).length : Int)).toNat - ((i : Int)).toNat = (pat h).length := by omega
      have h2 : ((i : Int)).toNat = i := by omega
      rw [h1, h2]
    simp [wipeE, cut_tp, e, eq_tp ((a.drop i).take (pat h).length) g.pat, hit, -List.map_take, -List.map_drop]
theorem sorted_pr (s : Int) (xs : List Nat) (h : xs.length ≤ 1001) : sortedO [.lst (xs.map (prD s))] = .ok (.lst (sortD (xs.map (prD s)))) := by
  have f3 : (xs.map (prD s)).all isNeTup = true := List.all_eq_true.mpr fun d hd => by
    obtain ⟨i, _, rfl⟩ := List.mem_map.mp hd
    rfl
  have f1 : flats 20 (xs.map (prD s)) = true := flats_pr s 19 xs
  unfold sortedO
  dsimp only
  rw [f1, alikes_pr s xs, f3, List.length_map, decide_eq_true (by omega : xs.length ≤ 100000)]
  rfl
theorem first_pr {s : Int} {xs : List Nat} {b : Nat} (asc : xs.Pairwise (· < ·)) (hn : near s xs = some b) : ∃ r, sortD (xs.map (prD s)) = prD s b :: r := by
  have pm : (sortD (xs.map (prD s))).Perm (xs.map (prD s)) := List.mergeSort_perm _ _
  have pw := sortD_pw (xs.map (prD s))
  have bm := near_mem hn
  cases hz : sortD (xs.map (prD s)) with
  | nil =>
    rw [hz] at pm
    have := pm.length_eq
    cases xs with
    | nil => cases bm
    | cons => simp at this
  | cons d r =>
    rw [hz] at pm pw
    obtain ⟨j, hj, rfl⟩ := List.mem_map.mp (pm.mem_iff.mp List.mem_cons_self)
    have nm := near_min asc hn j hj
    by_cases e : j = b
    · exact ⟨r, by rw [e]⟩
    · exfalso
      have m : prD s b ∈ prD s j :: r := pm.mem_iff.mpr (List.mem_map.mpr ⟨b, bm, rfl⟩)
      have ne : prD s b ≠ prD s j := by
        intro z
        simp [prD] at z
        omega
      have le := (List.pairwise_cons.mp pw).1 (prD s b) ((List.mem_cons.mp m).resolve_left ne)
      rw [PySem.W.dataLe_eq] at le
      have le' : ltDD (prD s b) (prD s j) = false := by simpa [ltDD] using le
      rw [lt_prD] at le'
      have := of_decide_eq_false le'
      omega
theorem law_near_ok {h : Hk} (g : Gd h) {f : List Str} (a : Ls f) (hf : f.length ≤ 1000) : m__law_near [hkD h, .tup (f.map D.str)] = .ok (opD (near h.s (pls (pat h) f))) := by
  have pq := law_spots_ok g a hf
  have hl : (pls (pat h) f).length ≤ 1001 := by
    refine Nat.le_trans (List.length_filter_le _ _) ?_
    rw [List.length_range]; omega
  have asc := pls_asc (pat h) f
  have sq := sorted_pr h.s (pls (pat h) f) hl
  simp only [hkD] at *
  simp [m__law_near, pk__law_near, pq, nats]
  rw [lcM_all (fun i : Nat => D.int ((i : Nat) : Int)) (fun i => prD h.s i) (pls (pat h) f) (by omega)]
  · have e0 : List.map (fun i => prD h.s i) (pls (pat h) f) = (pls (pat h) f).map (prD h.s) := rfl
    rw [e0]
    cases hq : near h.s (pls (pat h) f) with
    | none =>
      rw [near_none] at hq
      rw [hq] at sq ⊢
      have e : neO (.lst []) (.lst []) = .ok (.bl false) := of_beqR (by decide +kernel)
      have e1 : sortD [] = [] := by simp [sortD, List.mergeSort]
      simp only [List.map_nil, e1] at sq
      simp [sq, e, opD]
    | some b =>
      obtain ⟨r, er⟩ := first_pr asc hq
      have fl : flats 59 (sortD ((pls (pat h) f).map (prD h.s))) = true := by
        have : ∀ {n : Nat} {ds : List D}, (∀ d ∈ ds, flat n d = true) → flats n ds = true := fun {n ds} => by
          induction ds with
          | nil => intro _; simp [flats]
          | cons d ds ih =>
            intro h
            rw [flats, h d List.mem_cons_self, ih fun e he => h e (List.mem_cons_of_mem _ he)]
            rfl
        refine this fun d hd => ?_
        exact flat_mem (flats_pr h.s 58 (pls (pat h) f)) d ((List.mergeSort_perm _ _).mem_iff.mp hd)
      rw [er] at sq fl
      have e : neO (.lst (prD h.s b :: r)) (.lst []) = .ok (.bl true) := by
        rw [neO_of (by rw [flat]; exact fl) rfl]; simp [eqD, eqDs]
      simp [sq, e]
      simp [opD, prD]
  · intro i hi
    exact ⟨_, rfl, rfl, by simp [wipeE, absO, prD, dst]⟩
theorem law_put_ok {h : Hk} (g : Gd h) {f : List Str} (a : Ls f) (hf : f.length ≤ 20) : m__law_put [hkD h, .tup (f.map D.str)] = .ok (opL (aft h f)) := by
  have q1 := law_near_ok g a (by omega)
  have q2 := law_body_ok g
  have h1 := gd_oclen g
  have h2 := gd_patlen g
  cases hn : near h.s (pls (pat h) f) with
  | none =>
    rw [hn] at q1
    simp only [hkD] at *
    simp [m__law_put, pk__law_put, putT, putAll, putN, putNil, q1, q2, opD, aft, hn, opL]
  | some i =>
    rw [hn] at q1
    have hi := pls_lt (near_mem hn)
    have e1 : cutA f none (some (i : Int)) = f.take i := by rw [cut_hi _ _ (by omega)]; simp
    have e2 : cutA f (some ((i : Int) + ((pat h).length : Int))) none = f.drop (i + (pat h).length) := by
      rw [cut_lo _ _ (by omega)]
      have : ((i : Int) + ((pat h).length : Int)).toNat = i + (pat h).length := by omega
      rw [this]
    have e3 := cat3 (f := f.take i) (g := oc h) (k := f.drop (i + (pat h).length)) (by simp; omega)
    simp only [hkD] at *
    have e4 : f.take i ++ oc h ++ f.drop (i + (pat h).length) = put h f i := rfl
    rw [e4] at e3
    by_cases hl : (put h f i).length ≤ 20
    · have hl' : ((put h f i).length : Int) ≤ 20 := by omega
      simp [m__law_put, pk__law_put, putT, putAll, putN, putNil, q1, q2, opD, aft, hn, hl, opL, cut_tp, e1, e2, -List.map_append, -List.map_take, -List.map_drop]
      rw [e3]
      simp [hl']
    · have hl' : ¬ ((put h f i).length : Int) ≤ 20 := by omega
      simp [m__law_put, pk__law_put, putT, putAll, putN, putNil, q1, q2, opD, aft, hn, hl, opL, cut_tp, e1, e2, -List.map_append, -List.map_take, -List.map_drop]
      rw [e3]
      simp [hl']
end Lw
end
section
set_option linter.all false
set_option maxRecDepth 100000
set_option autoImplicit false
namespace Lw
open PySem PySem.Spec L2 VL
set_option maxHeartbeats 4000000
/-! ### the law's own: drawn hunks -/
section
variable {ns : List Int} {f : List Str}
abbrev sE : List Str := [Str.ofString "e"]
abbrev sA1 : List Str := [Str.ofString "a"]
theorem sE_ls : Ls sE := fun s hs => by
  rw [List.mem_singleton.mp hs]
  decide
theorem sA_ls : Ls sA1 := fun s hs => by
  rw [List.mem_singleton.mp hs]
  decide
theorem cutl {f : List Str} (a : Ls f) (lo hi : Int) (h0 : 0 ≤ lo) (h1 : 0 ≤ hi) (h2 : hi - lo ≤ 2) : ∃ g : List Str, cutA f (some lo) (some hi) = g ∧ Ls g ∧ g.length ≤ 2 := by
  refine ⟨_, rfl, ?_, ?_⟩
  · rw [cut_lh _ _ _ h0 h1]
    exact (a.drop _).take _
  · rw [cut_lh _ _ _ h0 h1, List.length_take]
    omega
theorem law_hunk_ok (hl : ns.length ≤ 63) (at_ : Int) (h0 : 0 ≤ at_) (h1 : at_ ≤ 2000) (a : Ls f) (hf : f.length ≤ 20) : ∃ h : Hk, m__law_hunk [.scr (ns.map D.int), .int at_, .tup (f.map D.str)] = .ok (hkD h) ∧ Vd h := by
  obtain ⟨r0, p0, a0, b0⟩ := pick_ok ns at_ ((f.length : Int) + 1) hl h0 (by omega) (by omega)
  obtain ⟨r1, p1, a1, b1⟩ := pick_ok ns (at_ + 1) 3 hl (by omega) (by omega) (by omega)
  obtain ⟨r2, p2, a2, b2⟩ := pick_ok ns (at_ + 2) 3 hl (by omega) (by omega) (by omega)
  obtain ⟨r3, p3, a3, b3⟩ := pick_ok ns (at_ + 3) 3 hl (by omega) (by omega) (by omega)
  obtain ⟨nw, p4, a4, b4⟩ := law_lines_ok hl (at_ + 4) 2 (by omega) (by omega) (by omega) (by omega)
  obtain ⟨r8, p8, a8, b8⟩ := pick_ok ns (at_ + 8) 4 hl (by omega) (by omega) (by omega)
  obtain ⟨o9, p9, a9, b9⟩ := law_lines_ok hl (at_ + 9) 2 (by omega) (by omega) (by omega) (by omega)
  obtain ⟨r13, p13, a13, b13⟩ := pick_ok ns (at_ + 13) 3 hl (by omega) (by omega) (by omega)
  obtain ⟨last, el, l1, l2⟩ : ∃ last : Int, min2O [.int (r0 + r1), .int (f.length : Nat)] = .ok (.int last) ∧ r0 ≤ last ∧ last - r0 ≤ 2 := by
    by_cases c : ((f.length : Nat) : Int) < r0 + r1
    · exact ⟨(f.length : Nat), by simp [min2O, c], by omega, by omega⟩
    · exact ⟨r0 + r1, by simp [min2O, c], by omega, by omega⟩
  obtain ⟨lo, eo, o1, o2⟩ : ∃ lo : Int, max2O [.int (r0 - r2), .int 0] = .ok (.int lo) ∧ 0 ≤ lo ∧ r0 - lo ≤ 2 := by
    by_cases c : (0 : Int) > r0 - r2
    · exact ⟨0, by simp [max2O, c], by omega, by omega⟩
    · exact ⟨r0 - r2, by simp [max2O, c], by omega, by omega⟩
  obtain ⟨bf, cb, lb, nb⟩ := cutl a lo r0 o1 (by omega) o2
  obtain ⟨od, co, lo', no⟩ := cutl a r0 last (by omega) (by omega) l2
  obtain ⟨af, ca, la, na⟩ := cutl a last (last + r3) (by omega) (by omega) (by omega)
  obtain ⟨bg, eg, g1⟩ : ∃ bg : Int, max2O [.int (r0 - (bf.length : Nat)), .int 0] = .ok (.int bg) ∧ 0 ≤ bg := by
    by_cases c : (0 : Int) > r0 - (bf.length : Nat)
    · exact ⟨0, by simp [max2O, c], by omega⟩
    · exact ⟨r0 - (bf.length : Nat), by simp [max2O, c], by omega⟩
  have e8 : eqO (.int r8) (.int 0) = .ok (.bl (decide (r8 = 0))) := eq_int r8 0
  have fin : ∀ (o : List Str), Ls o → o.length ≤ 2 → bf ++ o ++ af ≠ [] → ∃ h : Hk, h.s = (bg + r13) % 21 ∧ h.b = bf ∧ h.o = o ∧ h.n = (if nw = o then nw ++ sE else nw) ∧ h.a = af ∧ Vd h := by
    intro o ho lo hne
    refine ⟨⟨(bg + r13) % 21, bf, o, if nw = o then nw ++ sE else nw, af⟩, rfl, rfl, rfl, rfl, rfl, ⟨⟨lb, ho, ?_, la, by show bf.length ≤ 4; omega, by show o.length ≤ 4; omega, ?_, by show af.length ≤ 4; omega⟩, ?_, ?_, hne, ?_⟩⟩
    · show Ls (if nw = o then nw ++ sE else nw)
      split
      · exact a4.app sE_ls
      · exact a4
    · show (if nw = o then nw ++ sE else nw).length ≤ 4
      split
      · rw [List.length_append]
        show nw.length + 1 ≤ 4
        omega
      · omega
    · show 0 ≤ (bg + r13) % 21
      omega
    · show (bg + r13) % 21 ≤ 20
      omega
    · show o ≠ (if nw = o then nw ++ sE else nw)
      by_cases c : nw = o
      · rw [if_pos c, ← c]
        intro z
        have := congrArg List.length z
        simp at this
      · rw [if_neg c]
        exact fun z => c z.symm
  have fin2 : ∀ (o : List Str), Ls o → o.length ≤ 2 → addD (.tup (bf.map D.str)) (.tup (o.map D.str)) = .ok (.tup ((bf ++ o).map D.str)) ∧ addD (.tup ((bf ++ o).map D.str)) (.tup (af.map D.str)) = .ok (.tup ((bf ++ o ++ af).map D.str)) ∧ eqO (.tup ((bf ++ o ++ af).map D.str)) (.tup []) = .ok (.bl (decide (bf ++ o ++ af = []))) := fun o ho l => by
    refine ⟨addD_tp _ _ (by omega), addD_tp _ _ (by simp; omega), eq_tp0 ((lb.app ho).app la)⟩
  have fin3 : ∀ (o : List Str), Ls o → neO (.tup (nw.map D.str)) (.tup (o.map D.str)) = .ok (.bl (!decide (nw = o))) := fun o ho => ne_tp a4 ho
  have ad : addD (.tup (nw.map D.str)) (.tup [.str (Str.ofString "e")]) = .ok (.tup ((nw ++ sE).map D.str)) := by
    have := addD_tp nw sE (by simp; omega)
    simpa using this
  have main : ∀ (o : List Str), Ls o → o.length ≤ 2 → (o = if r8 = 0 then o9 else od) → ∃ h : Hk, m__law_hunk [.scr (ns.map D.int), .int at_, .tup (f.map D.str)] = .ok (hkD h) ∧ Vd h := by
    intro o ho lo eo'
    obtain ⟨x1, x2, x3⟩ := fin2 o ho lo
    have sA := sA_ls
    by_cases ce : bf ++ o ++ af = []
    · have hne : bf ++ sA1 ++ af ≠ [] := by simp
      obtain ⟨h, e1, e2, e3, e4, e5, v⟩ := fin sA1 sA (by decide) hne
      refine ⟨h, ?_, v⟩
      have x4 := fin3 sA1 sA
      rw [decide_eq_true ce] at x3
      have eh : hkD h = .tup [.int ((bg + r13) % 21), .tup (bf.map D.str), .tup [.str (Str.ofString "a")], .tup ((if nw = sA1 then nw ++ sE else nw).map D.str), .tup (af.map D.str)] := by
        simp [hkD, e1, e2, e3, e4, e5]
      rw [eh]
      simp only [List.map_cons, List.map_nil] at x4
      by_cases c8 : r8 = 0
      · rw [if_pos c8] at eo'
        subst eo'
        by_cases cn : nw = sA1
        · have cnT : (nw = [Str.ofString "a"]) = True := eq_true cn
          rw [decide_eq_true cn] at x4
          simp [m__law_hunk, pk__law_hunk, p0, p1, p2, p3, p4, p8, p9, p13, el, eo, cut_tp, cb, co, ca, eg, e8, c8, x1, x2, x3, x4, cnT, ad, -List.map_append, -List.append_assoc]
        · rw [decide_eq_false cn] at x4
          simp [m__law_hunk, pk__law_hunk, p0, p1, p2, p3, p4, p8, p9, p13, el, eo, cut_tp, cb, co, ca, eg, e8, c8, x1, x2, x3, x4, eq_false cn, ad, -List.map_append, -List.append_assoc]
      · rw [if_neg c8] at eo'
        subst eo'
        by_cases cn : nw = sA1
        · have cnT : (nw = [Str.ofString "a"]) = True := eq_true cn
          rw [decide_eq_true cn] at x4
          simp [m__law_hunk, pk__law_hunk, p0, p1, p2, p3, p4, p8, p9, p13, el, eo, cut_tp, cb, co, ca, eg, e8, c8, x1, x2, x3, x4, cnT, ad, -List.map_append, -List.append_assoc]
        · rw [decide_eq_false cn] at x4
          simp [m__law_hunk, pk__law_hunk, p0, p1, p2, p3, p4, p8, p9, p13, el, eo, cut_tp, cb, co, ca, eg, e8, c8, x1, x2, x3, x4, eq_false cn, ad, -List.map_append, -List.append_assoc]
    · obtain ⟨h, e1, e2, e3, e4, e5, v⟩ := fin o ho lo ce
      refine ⟨h, ?_, v⟩
      have x4 := fin3 o ho
      rw [decide_eq_false ce] at x3
      have eh : hkD h = .tup [.int ((bg + r13) % 21), .tup (bf.map D.str), .tup (o.map D.str), .tup ((if nw = o then nw ++ sE else nw).map D.str), .tup (af.map D.str)] := by
        simp [hkD, e1, e2, e3, e4, e5]
      rw [eh]
      by_cases c8 : r8 = 0
      · rw [if_pos c8] at eo'
        subst eo'
        by_cases cn : nw = o
        · rw [decide_eq_true cn] at x4
          simp [m__law_hunk, pk__law_hunk, p0, p1, p2, p3, p4, p8, p9, p13, el, eo, cut_tp, cb, co, ca, eg, e8, c8, x1, x2, x3, x4, eq_true cn, ad, -List.map_append, -List.append_assoc]
        · rw [decide_eq_false cn] at x4
          simp [m__law_hunk, pk__law_hunk, p0, p1, p2, p3, p4, p8, p9, p13, el, eo, cut_tp, cb, co, ca, eg, e8, c8, x1, x2, x3, x4, eq_false cn, ad, -List.map_append, -List.append_assoc]
      · rw [if_neg c8] at eo'
        subst eo'
        by_cases cn : nw = o
        · rw [decide_eq_true cn] at x4
          simp [m__law_hunk, pk__law_hunk, p0, p1, p2, p3, p4, p8, p9, p13, el, eo, cut_tp, cb, co, ca, eg, e8, c8, x1, x2, x3, x4, eq_true cn, ad, -List.map_append, -List.append_assoc]
        · rw [decide_eq_false cn] at x4
          simp [m__law_hunk, pk__law_hunk, p0, p1, p2, p3, p4, p8, p9, p13, el, eo, cut_tp, cb, co, ca, eg, e8, c8, x1, x2, x3, x4, eq_false cn, ad, -List.map_append, -List.append_assoc]
  by_cases c8 : r8 = 0
  · exact main o9 a9 (by omega) (by rw [if_pos c8])
  · exact main od lo' no (by rw [if_neg c8])
end
end Lw
end
section
set_option linter.all false
set_option maxRecDepth 100000
set_option autoImplicit false
namespace Lw
open PySem PySem.Spec L2 VL
set_option maxHeartbeats 1000000
/-! ### k66: states, methods -/
@[simp] theorem thn_retE (d : D) (ρ : En) (g : En → RS) : (RS.retE d ρ).thn g = .retE d ρ := rfl
@[simp] theorem thn_retO (d : Nat) (ρ : En) (g : En → RS) : (RS.retO d ρ).thn g = .retO d ρ := rfl
@[simp] theorem thn_stuck (g : En → RS) : RS.stuck.thn g = .stuck := rfl
@[simp] theorem thenS_stuck {α : Type} (ρ : En) (k : α → RS) : thenS (.stuck : R α) ρ k = .stuck := rfl
@[simp] theorem objS_at (i : Nat) (ρ : En) (k : Bool → D → List D → List D → RS) (tg : Bool) (st : D) (es ls : List D) (h : ρ[i]? = some (some (.obj tg st es ls))) : objS i ρ k = k tg st es ls := by unfold objS; rw [h]
abbrev Stt := List Str × List Hk
def sD (s : Stt) : D := .tup [.tup (s.1.map D.str), .tup (s.2.map hkD)]
def lD (s : Stt) : D := .tup [.tup (s.1.map D.str), .lst (s.2.map hkD)]
structure Gs (n : Nat) (s : Stt) : Prop where
  ls : Ls s.1
  ll : s.1.length ≤ 20
  hs : ∀ h ∈ s.2, Vd h
  lr : s.2.length ≤ n
theorem Gs.mono {n m : Nat} {s : Stt} (g : Gs n s) (h : n ≤ m) : Gs m s := ⟨g.ls, g.ll, g.hs, Nat.le_trans g.lr h⟩
theorem x_change (st d : D) (es ls : List D) (h : es.length < 100000) : m_X_change st es ls [d] = some (.non, d, es ++ [st], []) := by
  simp [m_X_change, bodyO, pk_X_change, oappS, objS, ostate, olstS, osetS, lsG, lsP, finO, h]
theorem x_undo (st e : D) (es ls : List D) (h : flats 59 (es ++ [e]) = true) (hl : ls.length < 100000) : m_X_undo st (es ++ [e]) ls [] = some (.non, e, es, ls ++ [st]) := by
  have q : eqO (.lst (es ++ [e])) (.lst []) = .ok (.bl false) := by
    rw [eqO_of (by rw [flat]; exact h) rfl]
    cases es <;> simp [eqD, eqDs]
  simp [m_X_undo, bodyO, pk_X_undo, frzAll, frz1, attrO, q, oappS, objS, ostate, opopS, lsG, lsP, finO, hl]
theorem x_redo (st e : D) (es ls : List D) (h : flats 59 (ls ++ [e]) = true) (hl : es.length < 100000) : m_X_redo st es (ls ++ [e]) [] = some (.non, e, es ++ [st], ls) := by
  have q : eqO (.lst (ls ++ [e])) (.lst []) = .ok (.bl false) := by
    rw [eqO_of (by rw [flat]; exact h) rfl]
    cases ls <;> simp [eqD, eqDs]
  simp [m_X_redo, bodyO, pk_X_redo, frzAll, frz1, attrO, q, oappS, objS, ostate, opopS, lsG, lsP, finO, hl]
/-- the state after a patch, what patch returns -/
def patS (h : Hk) (s : Stt) : Stt := match aft h s.1 with
  | none => (s.1, s.2 ++ [h])
  | some f => (f, s.2)
def patR (h : Hk) (s : Stt) : D := match aft h s.1 with
  | none => .non
  | some _ => opD (near h.s (pls (pat h) s.1))
theorem x_patch {h : Hk} (v : Vd h) {s : Stt} {n : Nat} (g : Gs n s) (hn : n ≤ 1000) (es ls : List D) (he : es.length < 100000) : m_X_patch (sD s) es ls [hkD h] = some (patR h s, sD (patS h s), es ++ [sD s], []) := by
  have q1 := check_hunk_ok v
  have q2 := after_hunk_ok v.toGd g.ls g.ll
  have q3 := find_nearest_ok v.toGd g.ls (by have := g.ll; omega)
  have lr := g.lr
  have a1 : addD (.tup (s.2.map hkD)) (.tup [hkD h]) = .ok (.tup ((s.2 ++ [h]).map hkD)) := by
    rw [addD_tup _ _ (by simp; omega), List.map_append]; rfl
  cases ha : aft h s.1 with
  | none =>
    rw [ha] at q2
    have c := fun d => x_change (sD s) d es ls he
    simp only [hkD, sD, opL] at *
    simp [m_X_patch, bodyO, pk_X_patch, q1, q2, q3, a1, patS, patR, ha, ostate, putT, putAll, putN, putNil, exprX, xm, c, finO]
  | some f =>
    rw [ha] at q2
    have c := fun d => x_change (sD s) d es ls he
    simp only [hkD, sD, opL] at *
    simp [m_X_patch, bodyO, pk_X_patch, q1, q2, q3, a1, patS, patR, ha, ostate, putT, putAll, putN, putNil, exprX, xm, c, finO]
end Lw
end
section
set_option linter.all false
set_option maxRecDepth 100000
set_option autoImplicit false
namespace Lw
open PySem PySem.Spec L2 VL
set_option maxHeartbeats 2000000
/-! ### k66: trying again -/
def tri1 (x : Stt) (h : Hk) : Stt := match aft h x.1 with
  | none => (x.1, x.2 ++ [h])
  | some f => (f, x.2)
/-- the lines and the hunks left after trying the rejected ones -/
def tri (s : Stt) : Stt := s.2.foldl tri1 (s.1, [])
theorem tri1_ok {x : Stt} {h : Hk} {n : Nat} (g : Gs n x) (v : Vd h) : Gs (n + 1) (tri1 x h) := by
  unfold tri1
  cases ha : aft h x.1 with
  | none => exact ⟨g.ls, g.ll, fun k hk => (List.mem_append.mp hk).elim (g.hs k) fun z => by rw [List.mem_singleton.mp z]; exact v, by have := g.lr; simp; omega⟩
  | some f =>
    obtain ⟨l1, l2, _⟩ := aft_out v.toGd g.ls ha
    exact ⟨l1, l2, g.hs, Nat.le_succ_of_le g.lr⟩
theorem fold_ok : ∀ (r : List Hk) {x : Stt} {n : Nat}, Gs n x → (∀ h ∈ r, Vd h) → Gs (n + r.length) (r.foldl tri1 x)
  | [], _, _, g, _ => g
  | h :: r, x, n, g, v => by
    have := fold_ok r (tri1_ok g (v h List.mem_cons_self)) fun k hk => v k (List.mem_cons_of_mem _ hk)
    rw [List.foldl_cons, List.length_cons]
    exact this.mono (by omega)
theorem tri_ok {s : Stt} {n : Nat} (g : Gs n s) : Gs n (tri s) := by
  have z := fold_ok s.2 (x := (s.1, [])) (n := 0) ⟨g.ls, g.ll, (fun _ h => nomatch h), Nat.le_refl _⟩ g.hs
  exact z.mono (by have := g.lr; omega)
theorem tri_le {s : Stt} {n : Nat} (g : Gs n s) : (tri s).2.length ≤ s.2.length := by
  have z := (fold_ok s.2 (x := (s.1, [])) (n := 0) ⟨g.ls, g.ll, (fun _ h => nomatch h), Nat.le_refl _⟩ g.hs).lr
  rw [Nat.zero_add] at z
  exact z
/-- the loop of retry -/
theorem retry_loop {n : Nat} (hn : n ≤ 1000) {s : Stt} (g : Gs n s) (S Rf : Option SV) (m0 : Option SV) :
    ∀ body, body = (seqS (fun ρ => setS 5 (((var 4 ρ).bind fun d => ((var 1 ρ).bind fun d => (R.ok []).bind fun ds => R.ok (d :: ds)).bind fun ds => R.ok (d :: ds)).bind m_after_hunk) ρ)
      fun ρ => thenS (((var 5 ρ).bind fun x => (R.ok D.non).bind fun y => isD x y).bind asB) ρ fun k => if k = true then setS 3 ((var 3 ρ).bind fun x => (mkT ((var 4 ρ).bind fun d => (R.ok []).bind fun ds => R.ok (d :: ds))).bind fun y => addD x y) ρ else setS 1 (var 5 ρ) ρ) →
    ∀ (y z : Option SV), ∃ y' z', forS (putN 4) body (s.2.map hkD) [S, some (.val (.tup (s.1.map D.str))), Rf, some (.val (.tup [])), y, z, m0] = .next [S, some (.val (.tup ((tri s).1.map D.str))), Rf, some (.val (.tup ((tri s).2.map hkD))), y', z', m0] := by
  intro body eb y z
  have step : ∀ (pre : List Hk) (h : Hk) (post : List Hk) (ρ : En), pre ++ h :: post = s.2 → (∃ y z, ρ = [S, some (.val (.tup ((pre.foldl tri1 (s.1, [])).1.map D.str))), Rf, some (.val (.tup ((pre.foldl tri1 (s.1, [])).2.map hkD))), y, z, m0]) →
      ∃ ρ1 ρ2, putN 4 (hkD h) ρ = some ρ1 ∧ (body ρ1 = .next ρ2 ∨ body ρ1 = .cont ρ2) ∧ ∃ y z, ρ2 = [S, some (.val (.tup (((pre ++ [h]).foldl tri1 (s.1, [])).1.map D.str))), Rf, some (.val (.tup (((pre ++ [h]).foldl tri1 (s.1, [])).2.map hkD))), y, z, m0] := by
    intro pre h post ρ e I
    obtain ⟨y, z, rfl⟩ := I
    have vp : ∀ k ∈ pre, Vd k := fun k hk => g.hs k (by rw [← e]; exact List.mem_append_left _ hk)
    have vh : Vd h := g.hs h (by rw [← e]; exact List.mem_append_right _ List.mem_cons_self)
    have gp := fold_ok pre (x := (s.1, [])) (n := 0) ⟨g.ls, g.ll, (fun _ h => nomatch h), Nat.le_refl _⟩ vp
    have lp : pre.length ≤ n := by
      have := congrArg List.length e
      have lr := g.lr
      simp at this
      omega
    have lr := gp.lr
    generalize hx : pre.foldl tri1 (s.1, []) = x at gp lr
    have q := after_hunk_ok vh.toGd gp.ls gp.ll
    have a1 : addD (.tup (x.2.map hkD)) (.tup [hkD h]) = .ok (.tup ((x.2 ++ [h]).map hkD)) := by
      rw [addD_tup _ _ (by simp; omega), List.map_append]; rfl
    have ex : (pre ++ [h]).foldl tri1 (s.1, []) = tri1 x h := by rw [List.foldl_append, hx]; rfl
    refine ⟨_, _, rfl, .inl ?_, some (.val (hkD h)), some (.val (opL (aft h x.1))), by rw [ex]⟩
    subst eb
    cases ha : aft h x.1 with
    | none =>
      rw [ha] at q
      simp only [hkD, opL] at *
      simp [q, a1, tri1, ha, opL]
    | some f =>
      rw [ha] at q
      simp only [hkD, opL] at *
      simp [q, a1, tri1, ha, opL]
  obtain ⟨ρ', h1, h2⟩ := forS_pre hkD (g := putN 4) (fb := body) (fun pre ρ => ∃ y z, ρ = [S, some (.val (.tup ((pre.foldl tri1 (s.1, [])).1.map D.str))), Rf, some (.val (.tup ((pre.foldl tri1 (s.1, [])).2.map hkD))), y, z, m0]) s.2 step s.2 [] [S, some (.val (.tup (s.1.map D.str))), Rf, some (.val (.tup [])), y, z, m0] rfl ⟨y, z, rfl⟩
  obtain ⟨y', z', rfl⟩ := h2
  exact ⟨y', z', h1⟩
end Lw
end
section
set_option linter.all false
set_option maxRecDepth 100000
set_option autoImplicit false
namespace Lw
open PySem PySem.Spec L2 VL
set_option maxHeartbeats 2000000
/-! ### k66: the methods -/
def wD3 (s : Stt) (es ls : List D) : D := .op 3 [sD s, .lst es, .lst ls]
section
variable {s : Stt} {n : Nat} {es ls : List D}
theorem x_retry (g : Gs n s) (hn : n ≤ 1000) (he : es.length < 100000) (h : (tri s).2.length < s.2.length) : m_X_retry (sD s) es ls [] = some (.int ((s.2.length : Int) - ((tri s).2.length : Int)), sD (tri s), es ++ [sD s], []) := by
  obtain ⟨y', z', r⟩ := retry_loop hn g (some (.obj true (sD s) es ls)) (some (.val (.tup (s.2.map hkD)))) none _ rfl none none
  have c := x_change (sD s) (sD (tri s)) es ls he
  have hp : (0 : Int) < (s.2.length : Int) - ((tri s).2.length : Int) := by omega
  simp only [sD] at *
  simp [m_X_retry, bodyO, pk_X_retry, ostate, putT, putAll, putN, putNil, iterO]
  simp [putN] at r
  rw [r]
  simp [h, exprX, xm, c, finO]
theorem w_retry (g : Gs n s) (hn : n ≤ 1000) : m_W_retry [wD3 s es ls] = if (tri s).2.length < s.2.length then .stuck else .ok (.int 0) := by
  obtain ⟨y', z', r⟩ := retry_loop hn g (some (.val (wD3 s es ls))) (some (.val (.tup (s.2.map hkD)))) none _ rfl none none
  have le := tri_le g
  simp only [wD3, sD] at *
  simp [m_W_retry, pk_W_retry, attrO, putT, putAll, putN, putNil, iterO]
  simp [putN] at r
  rw [r]
  by_cases h : (tri s).2.length < s.2.length
  · have hp : (0 : Int) < (s.2.length : Int) - ((tri s).2.length : Int) := by omega
    simp [h, RS.out]
  · have hp : ¬ (0 : Int) < (s.2.length : Int) - ((tri s).2.length : Int) := by omega
    have e : (s.2.length : Int) - ((tri s).2.length : Int) = 0 := by omega
    simp [h, e]
theorem w_patch {h : Hk} (v : Vd h) (g : Gs n s) (hn : n ≤ 1000) : m_W_patch [wD3 s es ls, hkD h] = .stuck := by
  have q1 := check_hunk_ok v
  have q2 := after_hunk_ok v.toGd g.ls g.ll
  cases ha : aft h s.1 with
  | none =>
    rw [ha] at q2
    simp only [hkD, sD, opL, wD3] at *
    simp [m_W_patch, pk_W_patch, q1, q2, attrO, putT, putAll, putN, putNil, RS.out]
  | some f =>
    rw [ha] at q2
    simp only [hkD, sD, opL, wD3] at *
    simp [m_W_patch, pk_W_patch, q1, q2, attrO, putT, putAll, putN, putNil, RS.out]
theorem w_undo (h : flats 59 es = true) : m_W_undo [wD3 s es ls] = if es = [] then .exc X_NothingToUndo else .stuck := by
  have q : eqO (.lst es) (.lst []) = .ok (.bl (decide (es = []))) := by
    rw [eqO_of (by rw [flat]; exact h) rfl]
    cases es <;> simp [eqD, eqDs]
  have q0 : eqO (.lst []) (.lst []) = .ok (.bl true) := of_beqR (by decide +kernel)
  by_cases he : es = []
  · subst he
    simp [m_W_undo, pk_W_undo, wD3, attrO, q0, RS.out, X_NothingToUndo]
  · simp [m_W_undo, pk_W_undo, wD3, attrO, q, he, RS.out]
theorem w_redo (h : flats 59 ls = true) : m_W_redo [wD3 s es ls] = if ls = [] then .exc X_NothingToUndo else .stuck := by
  have q : eqO (.lst ls) (.lst []) = .ok (.bl (decide (ls = []))) := by
    rw [eqO_of (by rw [flat]; exact h) rfl]
    cases ls <;> simp [eqD, eqDs]
  have q0 : eqO (.lst []) (.lst []) = .ok (.bl true) := of_beqR (by decide +kernel)
  by_cases he : ls = []
  · subst he
    simp [m_W_redo, pk_W_redo, wD3, attrO, q0, RS.out, X_NothingToUndo]
  · simp [m_W_redo, pk_W_redo, wD3, attrO, q, he, RS.out]
theorem w_lines : m_W_lines [wD3 s es ls] = .ok (.tup (s.1.map D.str)) := by
  simp [m_W_lines, pk_W_lines, wD3, sD, attrO]
theorem w_rejected : m_W_rejected [wD3 s es ls] = .ok (.lst (s.2.map hkD)) := by
  simp [m_W_rejected, pk_W_rejected, wD3, sD, attrO, listO]
theorem w_len : m_W___len__ [wD3 s es ls] = .ok (.int (s.1.length : Nat)) := by
  simp [m_W___len__, pk_W___len__, wD3, sD, attrO]
theorem pure_hk (h : Hk) : pureD (hkD h) = true := by simp [hkD]
theorem pures_hk : ∀ r : List Hk, pureDs (r.map hkD) = true
  | [] => rfl
  | h :: r => by rw [List.map_cons, pureDs, pures_hk r, Bool.and_true]; exact pure_hk h
theorem pure_sD (s : Stt) : pureD (sD s) = true := by
  unfold sD
  rw [pureD, pureDs, pureDs, pureDs, pureD, pureD, pures_hk, pure_strs]; rfl
theorem pures_sD : ∀ r : List Stt, pureDs (r.map sD) = true
  | [] => rfl
  | h :: r => by rw [List.map_cons, pureDs, pures_sD r, Bool.and_true]; exact pure_sD h
theorem data_strs : ∀ f : List Str, dataDs (f.map D.str) = true
  | [] => rfl
  | h :: r => by rw [List.map_cons, dataDs, data_strs r]; rfl
theorem data_hk (h : Hk) : dataD (hkD h) = true := by simp [hkD, dataD, dataDs, data_strs]
theorem datas_hk : ∀ r : List Hk, dataDs (r.map hkD) = true
  | [] => rfl
  | h :: r => by rw [List.map_cons, dataDs, datas_hk r, Bool.and_true]; exact data_hk h
theorem data_sD (s : Stt) : dataD (sD s) = true := by
  unfold sD
  rw [dataD, dataDs, dataDs, dataDs, dataD, dataD, datas_hk, data_strs]; rfl
theorem datas_sD : ∀ r : List Stt, dataDs (r.map sD) = true
  | [] => rfl
  | h :: r => by rw [List.map_cons, dataDs, datas_sD r, Bool.and_true]; exact data_sD h
theorem flat_hk {h : Hk} (g : Gd h) (m : Nat) : flat (m + 2) (hkD h) = true := by
  unfold hkD
  rw [flat, flats, flats, flats, flats, flats, flats, g.b.flat, g.o.flat, g.n.flat, g.a.flat]
  rfl
theorem flats_hk : ∀ {r : List Hk} (m : Nat), (∀ h ∈ r, Vd h) → flats (m + 2) (r.map hkD) = true
  | [], _, _ => rfl
  | h :: r, m, v => by
    rw [List.map_cons, flats, flat_hk (v h List.mem_cons_self).toGd, flats_hk m fun k hk => v k (List.mem_cons_of_mem _ hk)]; rfl
theorem flat_sD {s : Stt} {n : Nat} (g : Gs n s) (m : Nat) : flat (m + 4) (sD s) = true := by
  unfold sD
  rw [flat, flats, flats, flats, flat, flat, flats_hk _ g.hs]
  have := g.ls.flat (m + 2)
  rw [flat] at this
  rw [this]
  rfl
theorem flats_sD {n : Nat} : ∀ {r : List Stt} (m : Nat), (∀ s ∈ r, Gs n s) → flats (m + 4) (r.map sD) = true
  | [], _, _ => rfl
  | h :: r, m, v => by
    rw [List.map_cons, flats, flat_sD (v h List.mem_cons_self), flats_sD m fun k hk => v k (List.mem_cons_of_mem _ hk)]; rfl
theorem n_copy (s : Stt) (es ls : List D) : m_N_copy [wD3 s es ls] = .ok (sD s, es, ls) := by
  have q : m_check_file [.tup []] = .ok .non := of_beqR (by decide +kernel)
  simp [m_N_copy, bodyN, pk_N_copy, newS, m_W___init__, initM, pk_W___init__, q, osetS, olstS, objS, wD3, attrO, listL, lsP, finN]
theorem init_ok (a : Ls s.1) (hl : s.1.length ≤ 20) : m_W___init__ (.tup (s.1.map D.str)) = .ok (sD (s.1, [])) := by
  have q := check_file_ok a hl
  simp [m_W___init__, initM, pk_W___init__, q, sD]
end
end Lw
end
section
set_option linter.all false
set_option maxRecDepth 100000
set_option autoImplicit false
namespace Lw
open PySem PySem.Spec L2 VL
set_option maxHeartbeats 2000000
/-! ### k66: the hunk that has no place -/
def hkZ : Hk := ⟨0, [], [Str.ofString "zz"], [], []⟩
section
variable {s t : Stt} {n : Nat} {es ls es' ls' : List D} {f : List Str}
theorem zz_not (a : Ls f) : f ≠ [Str.ofString "zz"] := fun z => by
  have := a (Str.ofString "zz") (by rw [z]; exact List.mem_singleton_self _)
  revert this
  decide
theorem flat_zz (m : Nat) : flat (m + 1) (.tup [.str (Str.ofString "zz")]) = true := by
  have e : PyData.strOk (Str.ofString "zz") = true := by decide +kernel
  simp [flat, flats, e]
theorem places_Z (a : Ls f) (hf : f.length ≤ 1000) : m_find_places [hkD hkZ, .tup (f.map D.str)] = .ok (.lst []) := by
  have pq : m_pattern_of [hkD hkZ] = .ok (.tup [.str (Str.ofString "zz")]) := of_beqR (by decide +kernel)
  simp only [hkD, hkZ, List.map_cons, List.map_nil] at *
  simp [m_find_places, pk_find_places, pq, rng1_int (f.length : Int) (by omega) (by omega)]
  rw [lcM_map (fun i : Nat => D.int ((i : Nat) : Int)) (fun _ => false) (fun i => D.int ((i : Nat) : Int)) _ (by rw [List.length_range]; omega)]
  · simp
  · intro i hi
    refine ⟨_, rfl, ?_, fun z => by cases z⟩
    have e : cutA f (some (i : Int)) (some ((i : Int) + 1)) = (f.drop i).take 1 := by
      rw [cut_lh _ _ _ (by omega) (by omega)]
      have h1 : ((i : Int) + 1).toNat - ((i : Int)).toNat = 1 := by omega
      have h2 : ((i : Int)).toNat = i := by omega
      rw [h1, h2]
    have a1 := (a.drop i).take 1
    have q : eqO (.tup (((f.drop i).take 1).map D.str)) (.tup [.str (Str.ofString "zz")]) = .ok (.bl false) := by
      rw [eqO_of (a1.flat 59) (flat_zz 59)]
      have := eqD_tp ((f.drop i).take 1) [Str.ofString "zz"]
      rw [decide_eq_false (zz_not a1)] at this
      exact congrArg (fun b => R.ok (D.bl b)) this
    simp [wipeE, cut_tp, e, q, -List.map_take, -List.map_drop]
theorem nearest_Z (a : Ls f) (hf : f.length ≤ 1000) : m_find_nearest [hkD hkZ, .tup (f.map D.str)] = .ok .non := by
  have pq := places_Z a hf
  simp only [hkD, hkZ, List.map_cons, List.map_nil] at *
  have e : neO (.lst []) (.lst []) = .ok (.bl false) := of_beqR (by decide +kernel)
  simp [m_find_nearest, pk_find_nearest, pq, lcM, lcD, e]
theorem after_Z (a : Ls f) (hf : f.length ≤ 1000) : m_after_hunk [hkD hkZ, .tup (f.map D.str)] = .ok .non := by
  have pq := nearest_Z a hf
  simp only [hkD, hkZ, List.map_cons, List.map_nil] at *
  simp [m_after_hunk, pk_after_hunk, pq]
theorem x_patchZ (g : Gs n s) (hn : n ≤ 1000) (es ls : List D) (he : es.length < 100000) : m_X_patch (sD s) es ls [hkD hkZ] = some (.non, sD (s.1, s.2 ++ [hkZ]), es ++ [sD s], []) := by
  have q1 : m_check_hunk [hkD hkZ] = .ok .non := of_beqR (by decide +kernel)
  have q2 := after_Z g.ls (by have := g.ll; omega)
  have lr := g.lr
  have a1 : addD (.tup (s.2.map hkD)) (.tup [hkD hkZ]) = .ok (.tup ((s.2 ++ [hkZ]).map hkD)) := by
    rw [addD_tup _ _ (by simp; omega), List.map_append]; rfl
  have c := fun d => x_change (sD s) d es ls he
  generalize hkD hkZ = z at *
  simp only [sD] at *
  simp [m_X_patch, bodyO, pk_X_patch, q1, q2, a1, ostate, putT, putAll, putN, putNil, exprX, xm, c, finO, -List.map_append]
/-! ### == -/
theorem w_eq : m_W___eq__ [wD3 s es ls, wD3 t es' ls'] = eqO (sD s) (sD t) := by
  simp only [wD3]
  generalize sD s = x
  generalize sD t = y
  simp [m_W___eq__, pk_W___eq__, isW, attrO]
  cases eqO x y <;> rfl
theorem w_eqT : m_W___eq__ [wD3 s es ls, .tup (f.map D.str)] = .ok (.bl false) := by
  simp [m_W___eq__, pk_W___eq__, isW, wD3]
theorem eqDs_len : ∀ {xs ys : List D}, eqDs xs ys = true → xs.length = ys.length
  | [], [], _ => rfl
  | [], _ :: _, h => by simp [eqDs] at h
  | _ :: _, [], h => by simp [eqDs] at h
  | x :: xs, y :: ys, h => by
    have h' : eqD x y = true ∧ eqDs xs ys = true := by simpa [eqDs] using h
    rw [List.length_cons, List.length_cons, eqDs_len h'.2]
theorem eq_twin (g : Gs n s) : eqO (sD s) (sD (s.1, [])) = .ok (.bl (decide (s.2 = []))) := by
  have g0 : Gs n (s.1, []) := ⟨g.ls, g.ll, (fun _ h => nomatch h), Nat.zero_le _⟩
  rw [eqO_of (flat_sD g 56) (flat_sD g0 56)]
  unfold sD
  rw [eqD, eqDs, eqDs, eqDs, eqD_tp, eqD]
  cases s.2 <;> simp [eqDs]
theorem eq_Z (g : Gs n s) : eqO (sD (s.1, s.2 ++ [hkZ])) (sD s) = .ok (.bl false) := by
  have fz : flat 58 (hkD hkZ) = true := by
    have := flat_zz 56
    unfold hkD hkZ
    rw [flat, flats, flats, flats, flats, flats, flats]
    simp only [List.map_cons, List.map_nil]
    rw [this]
    rfl
  have fs : flat 60 (sD (s.1, s.2 ++ [hkZ])) = true := by
    unfold sD
    have f1 : flats 58 ((s.2 ++ [hkZ]).map hkD) = true := by
      have : ∀ {n : Nat} {ds : List D}, (∀ d ∈ ds, flat n d = true) → flats n ds = true := fun {n ds} => by
        induction ds with
        | nil => intro _; simp [flats]
        | cons d ds ih =>
          intro h
          rw [flats, h d List.mem_cons_self, ih fun e he => h e (List.mem_cons_of_mem _ he)]
          rfl
      refine this fun d hd => ?_
      obtain ⟨k, hk, rfl⟩ := List.mem_map.mp hd
      rcases List.mem_append.mp hk with hk | hk
      · exact flat_hk (g.hs k hk).toGd 56
      · rw [List.mem_singleton.mp hk]; exact fz
    rw [flat, flats, flats, flats, g.ls.flat 58]
    rw [flat, f1]
    rfl
  rw [eqO_of fs (flat_sD g 56)]
  have : eqD (sD (s.1, s.2 ++ [hkZ])) (sD s) = false := by
    cases h : eqD (sD (s.1, s.2 ++ [hkZ])) (sD s) with
    | false => rfl
    | true =>
      unfold sD at h
      rw [eqD, eqDs, eqDs, eqDs, eqD, eqD] at h
      simp only [Bool.and_eq_true] at h
      have := eqDs_len h.2.1
      simp at this
  rw [this]
end
end Lw
end
section
set_option linter.all false
set_option maxRecDepth 100000
set_option autoImplicit false
namespace Lw
open PySem PySem.Spec L2 VL
set_option maxHeartbeats 2000000
/-! ### k66: the law's own defs -/
section
variable {s : Stt} {n : Nat} {ns : List Int} {f : List Str}
theorem law_tried_ok (g : Gs n s) (hn : n ≤ 1000) : m__law_tried [.tup (s.1.map D.str), .lst (s.2.map hkD)] = .ok (.tup [.tup ((tri s).1.map D.str), .lst ((tri s).2.map hkD)]) := by
  have loop : ∀ body, body = (seqS (fun ρ => setS 4 (((var 3 ρ).bind fun d => ((var 0 ρ).bind fun d => (R.ok []).bind fun ds => R.ok (d :: ds)).bind fun ds => R.ok (d :: ds)).bind m__law_put) ρ)
      fun ρ => thenS (((var 4 ρ).bind fun x => (R.ok D.non).bind fun y => isD x y).bind asB) ρ fun k => if k = true then appS 2 (var 3) ρ else setS 0 (var 4 ρ) ρ) →
      ∃ y' z', forS (putN 3) body (s.2.map hkD) [some (.val (.tup (s.1.map D.str))), some (.val (.lst (s.2.map hkD))), some (.own []), none, none] = .next [some (.val (.tup ((tri s).1.map D.str))), some (.val (.lst (s.2.map hkD))), some (.own ((tri s).2.map hkD)), y', z'] := by
    intro body eb
    have step : ∀ (pre : List Hk) (h : Hk) (post : List Hk) (ρ : En), pre ++ h :: post = s.2 → (∃ y z, ρ = [some (.val (.tup ((pre.foldl tri1 (s.1, [])).1.map D.str))), some (.val (.lst (s.2.map hkD))), some (.own ((pre.foldl tri1 (s.1, [])).2.map hkD)), y, z]) →
        ∃ ρ1 ρ2, putN 3 (hkD h) ρ = some ρ1 ∧ (body ρ1 = .next ρ2 ∨ body ρ1 = .cont ρ2) ∧ ∃ y z, ρ2 = [some (.val (.tup (((pre ++ [h]).foldl tri1 (s.1, [])).1.map D.str))), some (.val (.lst (s.2.map hkD))), some (.own (((pre ++ [h]).foldl tri1 (s.1, [])).2.map hkD)), y, z] := by
      intro pre h post ρ e I
      obtain ⟨y, z, rfl⟩ := I
      have vp : ∀ k ∈ pre, Vd k := fun k hk => g.hs k (by rw [← e]; exact List.mem_append_left _ hk)
      have vh : Vd h := g.hs h (by rw [← e]; exact List.mem_append_right _ List.mem_cons_self)
      have gp := fold_ok pre (x := (s.1, [])) (n := 0) ⟨g.ls, g.ll, (fun _ h => nomatch h), Nat.le_refl _⟩ vp
      have lp : pre.length ≤ n := by
        have := congrArg List.length e
        have lr := g.lr
        simp at this
        omega
      have lr := gp.lr
      generalize hx : pre.foldl tri1 (s.1, []) = x at gp lr
      have q := law_put_ok vh.toGd gp.ls gp.ll
      have lx : x.2.length < 100000 := by omega
      have ex : (pre ++ [h]).foldl tri1 (s.1, []) = tri1 x h := by rw [List.foldl_append, hx]; rfl
      refine ⟨_, _, rfl, .inl ?_, some (.val (hkD h)), some (.val (opL (aft h x.1))), by rw [ex]⟩
      subst eb
      generalize s.2.map hkD = rr
      cases ha : aft h x.1 with
      | none =>
        rw [ha] at q
        simp only [opL] at *
        generalize hz : hkD h = hh at *
        simp [q, tri1, ha, appS, ownS, lx, hz]
      | some f =>
        rw [ha] at q
        simp only [opL] at *
        generalize hkD h = hh at *
        simp [q, tri1, ha]
    obtain ⟨ρ', h1, h2⟩ := forS_pre hkD (g := putN 3) (fb := body) (fun pre ρ => ∃ y z, ρ = [some (.val (.tup ((pre.foldl tri1 (s.1, [])).1.map D.str))), some (.val (.lst (s.2.map hkD))), some (.own ((pre.foldl tri1 (s.1, [])).2.map hkD)), y, z]) s.2 step s.2 [] [some (.val (.tup (s.1.map D.str))), some (.val (.lst (s.2.map hkD))), some (.own []), none, none] rfl ⟨none, none, rfl⟩
    obtain ⟨y', z', rfl⟩ := h2
    exact ⟨y', z', h1⟩
  obtain ⟨y', z', r⟩ := loop _ rfl
  simp [m__law_tried, pk__law_tried, iterO]
  simp [putN] at r
  rw [r]
  simp [frz]
theorem law_chosen_ok (hl : ns.length ≤ 63) (at_ : Int) (h0 : 0 ≤ at_) (h1 : at_ ≤ 1000) (a : Ls f) (hf : f.length ≤ 20) : ∃ h : Hk, m__law_chosen [.scr (ns.map D.int), .int at_, .tup (f.map D.str)] = .ok (hkD h) ∧ Vd h := by
  obtain ⟨r, p, r0, r1⟩ := pick_ok ns (at_ + 23) 6 hl (by omega) (by omega) (by omega)
  obtain ⟨h2, q2, v2⟩ := law_hunk_ok hl at_ h0 (by omega) a hf
  have eAL : Ls [Str.ofString "e"] := sE_ls
  by_cases c1 : r < 3
  · have key : ∀ (nw : List Str) (hn : Ls nw) (hl : nw.length ≤ 4) (hd : [Str.ofString "e"] ≠ nw), Vd ⟨0, [], [Str.ofString "e"], nw, []⟩ := fun nw hn hl hd => ⟨⟨Ls.nil, eAL, hn, Ls.nil, by simp, by simp, hl, by simp⟩, by simp, by simp, by simp [pat], hd⟩
    have rr : r = 0 ∨ r = 1 ∨ r = 2 := by omega
    have l1 : Ls [Str.ofString "f", Str.ofString "e"] := fun s hs => by
      rcases List.mem_cons.mp hs with rfl | hs
      · decide
      · rw [List.mem_singleton.mp hs]; decide
    have l2 : Ls [Str.ofString "g"] := fun s hs => by rw [List.mem_singleton.mp hs]; decide
    have l3 : Ls [Str.ofString "e", Str.ofString "h"] := fun s hs => by
      rcases List.mem_cons.mp hs with rfl | hs
      · decide
      · rw [List.mem_singleton.mp hs]; decide
    rcases rr with rfl | rfl | rfl
    · exact ⟨_, by simp [m__law_chosen, pk__law_chosen, p], key _ l1 (by simp) (by decide)⟩
    · exact ⟨_, by simp [m__law_chosen, pk__law_chosen, p], key _ l2 (by simp) (by decide)⟩
    · exact ⟨_, by simp [m__law_chosen, pk__law_chosen, p], key _ l3 (by simp) (by decide)⟩
  · have c1' : ¬ r < 3 := c1
    have n0 := ne_tp0 a
    by_cases c2 : r = 3 ∧ f ≠ []
    · obtain ⟨rfl, c3⟩ := c2
      have e1 : cutA f none (some 1) = f.take 1 := by rw [cut_hi _ _ (by decide)]; rfl
      have ad : addD (.tup ((f.take 1).map D.str)) (.tup [.str (Str.ofString "e")]) = .ok (.tup ((f.take 1 ++ sE).map D.str)) := by
        have := addD_tp (f.take 1) sE (by simp; omega)
        simpa using this
      refine ⟨⟨0, [], f.take 1, f.take 1 ++ sE, []⟩, ?_, ⟨⟨Ls.nil, a.take 1, (a.take 1).app eAL, Ls.nil, by simp, ?_, ?_, by simp⟩, by simp, by simp, ?_, ?_⟩⟩
      · simp [m__law_chosen, pk__law_chosen, p, n0, c3, cut_tp, e1, ad, -List.map_take, -List.map_append]
      · show (f.take 1).length ≤ 4
        simp; omega
      · show (f.take 1 ++ sE).length ≤ 4
        simp; omega
      · cases f with
        | nil => exact absurd rfl c3
        | cons x f => simp [pat]
      · show f.take 1 ≠ f.take 1 ++ sE
        intro z
        have := congrArg List.length z
        simp at this
    · refine ⟨h2, ?_, v2⟩
      have n1 : andR (.ok (decide (r = 3))) (.ok (!decide (f = []))) = .ok false := by
        rw [andR_ok]
        by_cases c4 : r = 3
        · have : f = [] := Classical.byContradiction fun z => c2 ⟨c4, z⟩
          simp [this]
        · simp [c4]
      simp [m__law_chosen, pk__law_chosen, p, c1', n0]
      rw [n1]
      simp [q2]
end
end Lw
end
section
set_option linter.all false
set_option maxRecDepth 100000
set_option autoImplicit false
namespace Lw
open PySem PySem.Spec L2 VL
set_option maxHeartbeats 2000000
/-! ### k66: the calls -/
section
variable {s e : Stt} {n : Nat} {h : Hk}
theorem cap_w (s : Stt) (es ls : List Stt) : capD (wD3 s (es.map sD) (ls.map sD)) = true := by
  simp [wD3, capD, dataDs, dataD, data_sD, datas_sD]
theorem calls3 {w h : D} (hw : capD w = true) (hc : capD h = true) : m__law_calls [w, h] = .ok (.lst [.op 10 [h, w], .op 12 [w], .op 14 [w], .op 16 [w]]) := by
  unfold m__law_calls bodyE
  rw [if_pos (by simp [capDs, hc, hw])]
  simp only [pk__law_calls]
  simp [seqS, thenS, appS, ownS, lim, retE, noX, valsR, closes, close1, hc, hw, R.bind, cvOf, List.lookup, var]
theorem class11 : m__law_class 11 [.op 1 []] = .ok (.str (Str.ofString "NothingToUndo")) := of_beqR (by decide +kernel)
def nothing : D := .tup [.str (Str.ofString "error"), .str (Str.ofString "NothingToUndo")]
theorem flat_nothing : flat 60 (.tup [.str (Str.ofString "error"), .str (Str.ofString "NothingToUndo")]) = true := by decide +kernel
theorem res_0 (v : Vd h) (g : Gs n s) (hn : n ≤ 1000) (es ls : List Stt) : m__law_result [.op 10 [hkD h, wD3 s (es.map sD) (ls.map sD)]] = .stuck := by
  have q := w_patch (es := es.map sD) (ls := ls.map sD) v g hn
  have c1 := cap_w s es ls
  have c2 := dataD_cap (data_hk h)
  have s3 : self3 (wD3 s (es.map sD) (ls.map sD)) = .ok (wD3 s (es.map sD) (ls.map sD)) := rfl
  generalize wD3 s (es.map sD) (ls.map sD) = w at *
  generalize hkD h = k at *
  simp [m__law_result, pk__law_result, tryS, cloM, capDs, c1, c2, fL, pk_lm_0, s3, q, RS.out]
theorem res_1 (g : Gs n s) (hn : n ≤ 1000) (es ls : List Stt) : m__law_result [.op 12 [wD3 s (es.map sD) (ls.map sD)]] = if (tri s).2.length < s.2.length then .stuck else .ok (.int 0) := by
  have q := w_retry (es := es.map sD) (ls := ls.map sD) g hn
  have c1 := cap_w s es ls
  have s3 : self3 (wD3 s (es.map sD) (ls.map sD)) = .ok (wD3 s (es.map sD) (ls.map sD)) := rfl
  generalize wD3 s (es.map sD) (ls.map sD) = w at *
  by_cases hc : (tri s).2.length < s.2.length
  · rw [if_pos hc] at q ⊢
    simp [m__law_result, pk__law_result, tryS, cloM, capDs, c1, fL, pk_lm_1, s3, q, RS.out]
  · rw [if_neg hc] at q ⊢
    simp [m__law_result, pk__law_result, tryS, cloM, capDs, c1, fL, pk_lm_1, s3, q, RS.out]
theorem res_2 (es ls : List Stt) (ge : ∀ x ∈ es, Gs n x) : m__law_result [.op 14 [wD3 s (es.map sD) (ls.map sD)]] = if es = [] then .ok nothing else .stuck := by
  have q := w_undo (s := s) (es := es.map sD) (ls := ls.map sD) (flats_sD 55 ge)
  have c1 := cap_w s es ls
  have s3 : self3 (wD3 s (es.map sD) (ls.map sD)) = .ok (wD3 s (es.map sD) (ls.map sD)) := rfl
  have cl := class11
  have en : (es.map sD = []) = (es = []) := by simp
  generalize wD3 s (es.map sD) (ls.map sD) = w at *
  by_cases hc : es = []
  · rw [if_pos (by simp [hc])] at q ⊢
    simp [m__law_result, pk__law_result, tryS, cloM, capDs, c1, fL, pk_lm_2, s3, q, RS.out, X_NothingToUndo, hP, nC, retS, cl, nothing, flat_nothing]
  · rw [if_neg (by simp [hc])] at q ⊢
    simp [m__law_result, pk__law_result, tryS, cloM, capDs, c1, fL, pk_lm_2, s3, q, RS.out]
theorem res_3 (es ls : List Stt) (ge : ∀ x ∈ ls, Gs n x) : m__law_result [.op 16 [wD3 s (es.map sD) (ls.map sD)]] = if ls = [] then .ok nothing else .stuck := by
  have q := w_redo (s := s) (es := es.map sD) (ls := ls.map sD) (flats_sD 55 ge)
  have c1 := cap_w s es ls
  have s3 : self3 (wD3 s (es.map sD) (ls.map sD)) = .ok (wD3 s (es.map sD) (ls.map sD)) := rfl
  have cl := class11
  generalize wD3 s (es.map sD) (ls.map sD) = w at *
  by_cases hc : ls = []
  · rw [if_pos (by simp [hc])] at q ⊢
    simp [m__law_result, pk__law_result, tryS, cloM, capDs, c1, fL, pk_lm_3, s3, q, RS.out, X_NothingToUndo, hP, nC, retS, cl, nothing, flat_nothing]
  · rw [if_neg (by simp [hc])] at q ⊢
    simp [m__law_result, pk__law_result, tryS, cloM, capDs, c1, fL, pk_lm_3, s3, q, RS.out]
theorem cx_0 (v : Vd h) (g : Gs n s) (hn : n ≤ 1000) (es ls : List Stt) (he : es.length < 1000) : cloX fX 0 [hkD h] (sD s) (es.map sD) (ls.map sD) = some (patR h s, sD (patS h s), (es ++ [s]).map sD, []) := by
  have q := x_patch v g hn (es.map sD) (ls.map sD) (by simp; omega)
  have d1 := data_hk h
  have d2 := data_sD s
  have d3 := datas_sD es
  have d4 := datas_sD ls
  rw [List.map_append]
  show _ = some (_, _, es.map sD ++ [sD s], _)
  generalize es.map sD = es at *
  generalize ls.map sD = ls at *
  generalize sD s = x at *
  generalize hkD h = k at *
  simp [cloX, dataDs, d1, d2, d3, d4, fX, pk_lx_0, xm, q, finX]
theorem cx_1 (g : Gs n s) (hn : n ≤ 1000) (es ls : List Stt) (he : es.length < 1000) (hc : (tri s).2.length < s.2.length) : cloX fX 1 [] (sD s) (es.map sD) (ls.map sD) = some (.int ((s.2.length : Int) - ((tri s).2.length : Int)), sD (tri s), (es ++ [s]).map sD, []) := by
  have q := x_retry (es := es.map sD) (ls := ls.map sD) g hn (by simp; omega) hc
  have d2 := data_sD s
  have d3 := datas_sD es
  have d4 := datas_sD ls
  rw [List.map_append]
  show _ = some (_, _, es.map sD ++ [sD s], _)
  generalize es.map sD = es at *
  generalize ls.map sD = ls at *
  generalize sD s = x at *
  simp [cloX, dataDs, d2, d3, d4, fX, pk_lx_1, xm, q, finX]
theorem cx_2 (es ls : List Stt) (ge : ∀ x ∈ es ++ [e], Gs n x) (hl : ls.length < 1000) : cloX fX 2 [] (sD s) ((es ++ [e]).map sD) (ls.map sD) = some (.non, sD e, es.map sD, (ls ++ [s]).map sD) := by
  have fl := flats_sD 55 ge
  rw [List.map_append] at fl
  have q := x_undo (sD s) (sD e) (es.map sD) (ls.map sD) fl (by simp; omega)
  have d2 := data_sD s
  have d3 := datas_sD (es ++ [e])
  have d4 := datas_sD ls
  rw [List.map_append] at d3
  rw [List.map_append, List.map_append]
  show cloX fX 2 [] (sD s) (es.map sD ++ [sD e]) (ls.map sD) = some (_, _, _, ls.map sD ++ [sD s])
  have d3 : dataDs (es.map sD ++ [sD e]) = true := d3
  generalize es.map sD = es at *
  generalize ls.map sD = ls at *
  generalize sD s = x at *
  simp [cloX, dataDs, d2, d3, d4, fX, pk_lx_2, xm, q, finX]
theorem cx_3 (es ls : List Stt) (ge : ∀ x ∈ ls ++ [e], Gs n x) (hl : es.length < 1000) : cloX fX 3 [] (sD s) (es.map sD) ((ls ++ [e]).map sD) = some (.non, sD e, (es ++ [s]).map sD, ls.map sD) := by
  have fl := flats_sD 55 ge
  rw [List.map_append] at fl
  have q := x_redo (sD s) (sD e) (es.map sD) (ls.map sD) fl (by simp; omega)
  have d2 := data_sD s
  have d3 := datas_sD es
  have d4 := datas_sD (ls ++ [e])
  rw [List.map_append] at d4
  rw [List.map_append, List.map_append]
  show cloX fX 3 [] (sD s) (es.map sD) (ls.map sD ++ [sD e]) = some (_, _, es.map sD ++ [sD s], _)
  have d4 : dataDs (ls.map sD ++ [sD e]) = true := d4
  generalize es.map sD = es at *
  generalize ls.map sD = ls at *
  generalize sD s = x at *
  simp [cloX, dataDs, d2, d3, d4, fX, pk_lx_3, xm, q, finX]
end
end Lw
end
section
set_option linter.all false
set_option maxRecDepth 100000
set_option autoImplicit false
namespace Lw
open PySem PySem.Spec L2 VL
set_option maxHeartbeats 4000000
/-! ### k66: the statements of the law's loop, as they are read off -/
def t4 : En → RS :=
  (fun ρ =>
    thenS (((var 8 ρ).bind fun x => (R.ok (D.int 0)).bind fun y => eqO x y).bind asB) ρ fun k =>
      if k = true then
        seqS
          (fun ρ =>
            setS 11
              (((var 9 ρ).bind fun d =>
                    ((var 6 ρ).bind fun d => (R.ok []).bind fun ds => R.ok (d :: ds)).bind fun ds =>
                      R.ok (d :: ds)).bind
                m__law_put)
              ρ)
          (seqS
            (fun ρ =>
              setS 10
                ((((var 11 ρ).bind fun x => (R.ok D.non).bind fun y => isNotD x y).bind asB).bind
                  fun k =>
                  if k = true then
                    ((var 9 ρ).bind fun d =>
                          ((var 6 ρ).bind fun d => (R.ok []).bind fun ds => R.ok (d :: ds)).bind
                            fun ds => R.ok (d :: ds)).bind
                      m__law_near
                  else R.ok D.non)
                ρ)
            (seqS
              (fun ρ =>
                setS 12
                  ((((var 11 ρ).bind fun x => (R.ok D.non).bind fun y => isNotD x y).bind asB).bind
                    fun k =>
                    if k = true then
                      mkT
                        ((var 11 ρ).bind fun d =>
                          ((var 7 ρ).bind fun d => (R.ok []).bind fun ds => R.ok (d :: ds)).bind
                            fun ds => R.ok (d :: ds))
                    else
                      mkT
                        ((var 6 ρ).bind fun d =>
                          (((var 7 ρ).bind fun x =>
                                    (mkL
                                          ((var 9 ρ).bind fun d =>
                                            (R.ok []).bind fun ds => R.ok (d :: ds))).bind
                                      fun y => addD x y).bind
                                fun d => (R.ok []).bind fun ds => R.ok (d :: ds)).bind
                            fun ds => R.ok (d :: ds)))
                  ρ)
              fun ρ =>
              thenS
                ((((var 3 ρ).bind fun x =>
                          (R.ok none).bind fun l =>
                            (((var 4 ρ).bind fun x => (R.ok (D.int 1)).bind fun y => addD x y).bind
                                  fun d => (asI d).bind fun i => R.ok (some i)).bind
                              fun h => slO x l h).bind
                      fun x =>
                      (mkL ((var 12 ρ).bind fun d => (R.ok []).bind fun ds => R.ok (d :: ds))).bind
                        fun y => addD x y).bind
                  fun d =>
                  (((var 4 ρ).bind fun x => (R.ok (D.int 1)).bind fun y => addD x y).bind fun d =>
                        (R.ok []).bind fun ds => R.ok (d :: ds)).bind
                    fun ds => R.ok (d :: ds))
                ρ
                (two fun d e => RS.next ((List.set ρ 3 (some (SV.val d))).set 4 (some (SV.val e))))))
          ρ
      else
        thenS (((var 8 ρ).bind fun x => (R.ok (D.int 1)).bind fun y => eqO x y).bind asB) ρ fun k =>
          if k = true then
            seqS
              (fun ρ =>
                thenS
                  (((var 6 ρ).bind fun d =>
                        ((var 7 ρ).bind fun d => (R.ok []).bind fun ds => R.ok (d :: ds)).bind
                          fun ds => R.ok (d :: ds)).bind
                    m__law_tried)
                  ρ fun d =>
                  match putT (putAll (putN 11) (putAll (putN 13) putNil)) d ρ with
                  | some ρ' => RS.next ρ'
                  | none => RS.stuck)
              (seqS
                (fun ρ =>
                  setS 10
                    ((((var 7 ρ).bind fun d => (R.ok []).bind fun ds => R.ok (d :: ds)).bind fun ds =>
                          lenO ds).bind
                      fun x =>
                      (((var 13 ρ).bind fun d => (R.ok []).bind fun ds => R.ok (d :: ds)).bind
                            fun ds => lenO ds).bind
                        fun y => subD x y)
                    ρ)
                fun ρ =>
                thenS (((var 10 ρ).bind fun x => (R.ok (D.int 0)).bind fun y => gtD x y).bind asB) ρ
                  fun k =>
                  if k = true then
                    thenS
                      ((((var 3 ρ).bind fun x =>
                                (R.ok none).bind fun l =>
                                  (((var 4 ρ).bind fun x =>
                                            (R.ok (D.int 1)).bind fun y => addD x y).bind
                                        fun d => (asI d).bind fun i => R.ok (some i)).bind
                                    fun h => slO x l h).bind
                            fun x =>
                            (mkL
                                  ((mkT
                                        ((var 11 ρ).bind fun d =>
                                          ((var 13 ρ).bind fun d =>
                                                (R.ok []).bind fun ds => R.ok (d :: ds)).bind
                                            fun ds => R.ok (d :: ds))).bind
                                    fun d => (R.ok []).bind fun ds => R.ok (d :: ds))).bind
                              fun y => addD x y).bind
                        fun d =>
                        (((var 4 ρ).bind fun x => (R.ok (D.int 1)).bind fun y => addD x y).bind
                              fun d => (R.ok []).bind fun ds => R.ok (d :: ds)).bind
                          fun ds => R.ok (d :: ds))
                      ρ
                      (two fun d e =>
                        RS.next ((List.set ρ 3 (some (SV.val d))).set 4 (some (SV.val e))))
                  else RS.next ρ)
              ρ
          else
            thenS (((var 8 ρ).bind fun x => (R.ok (D.int 4)).bind fun y => ltD x y).bind asB) ρ
              fun k =>
              if k = true then
                seqS
                  (fun ρ =>
                    setS 14
                      ((((var 8 ρ).bind fun x => (R.ok (D.int 2)).bind fun y => eqO x y).bind
                            asB).bind
                        fun k =>
                        if k = true then
                          (var 4 ρ).bind fun x => (R.ok (D.int 1)).bind fun y => subD x y
                        else (var 4 ρ).bind fun x => (R.ok (D.int 1)).bind fun y => addD x y)
                      ρ)
                  (seqS
                    (fun ρ =>
                      setS 10
                        (((var 14 ρ).bind fun x =>
                              (((var 3 ρ).bind fun d => (R.ok []).bind fun ds => R.ok (d :: ds)).bind
                                    fun ds => lenO ds).bind
                                fun y => inRg x y).bind
                          fun k =>
                          if k = true then R.ok D.non
                          else
                            mkT
                              ((R.ok (D.str (Str.ofString "error"))).bind fun d =>
                                ((R.ok (D.str (Str.ofString "NothingToUndo"))).bind fun d =>
                                      (R.ok []).bind fun ds => R.ok (d :: ds)).bind
                                  fun ds => R.ok (d :: ds)))
                        ρ)
                    fun ρ =>
                    setS 4
                      (((var 14 ρ).bind fun x =>
                            (((var 3 ρ).bind fun d => (R.ok []).bind fun ds => R.ok (d :: ds)).bind
                                  fun ds => lenO ds).bind
                              fun y => inRg x y).bind
                        fun k => if k = true then var 14 ρ else var 4 ρ)
                      ρ)
                  ρ
              else RS.next ρ)
def t5 : En → RS :=
  (orS
    (fun ρ =>
      thenS
        (andR (((var 8 (frzAll ρ)).bind fun x => (R.ok (D.int 4)).bind fun y => ltD x y).bind asB)
          ((((((((var 2 (frzAll ρ)).bind fun d =>
                                    ((var 9 (frzAll ρ)).bind fun d =>
                                          (R.ok []).bind fun ds => R.ok (d :: ds)).bind
                                      fun ds => R.ok (d :: ds)).bind
                                m__law_calls).bind
                            fun x => (var 8 (frzAll ρ)).bind fun y => ixO x y).bind
                        fun d => (R.ok []).bind fun ds => R.ok (d :: ds)).bind
                    m__law_result).bind
                fun x => (var 10 (frzAll ρ)).bind fun y => neO x y).bind
            asB))
        ρ fun k => if k = true then thenS (R.ok (D.bl false)) ρ fun d => RS.ret d else RS.next ρ)
    (effS 2 (selK 2 9 8) fX
      (fun ρ => ((var 8 ρ).bind fun x => (R.ok (D.int 4)).bind fun y => ltD x y).bind asB) (var 10)
      fun ρ => thenS (R.ok (D.bl false)) ρ fun d => RS.ret d))
def t6 : En → RS :=
  (fun ρ =>
    thenS (((var 8 ρ).bind fun x => (R.ok (D.int 4)).bind fun y => eqO x y).bind asB) ρ fun k =>
      if k = true then
        seqS (newS 15 (copyM 2 m_N_copy))
          (seqS
            (exprX
              (xm 15 m_X_patch fun ρ =>
                (mkT
                      ((R.ok (D.int 0)).bind fun d =>
                        ((mkT (R.ok [])).bind fun d =>
                              ((mkT
                                        ((R.ok (D.str (Str.ofString "zz"))).bind fun d =>
                                          (R.ok []).bind fun ds => R.ok (d :: ds))).bind
                                    fun d =>
                                    ((mkT (R.ok [])).bind fun d =>
                                          ((mkT (R.ok [])).bind fun d =>
                                                (R.ok []).bind fun ds => R.ok (d :: ds)).bind
                                            fun ds => R.ok (d :: ds)).bind
                                      fun ds => R.ok (d :: ds)).bind
                                fun ds => R.ok (d :: ds)).bind
                          fun ds => R.ok (d :: ds))).bind
                  fun d => (R.ok []).bind fun ds => R.ok (d :: ds)))
            (seqS
              (fun ρ =>
                thenS
                  (orR
                    (((var 15 (frzAll ρ)).bind fun x =>
                          (var 2 (frzAll ρ)).bind fun y => eqWO m_W___eq__ x y).bind
                      asB)
                    (orR
                      ((((((var 15 (frzAll ρ)).bind fun d =>
                                        (self3 d).bind fun d => m_W_rejected [d]).bind
                                    fun d => (R.ok []).bind fun ds => R.ok (d :: ds)).bind
                                fun ds => lenO ds).bind
                            fun x =>
                            (((((var 2 (frzAll ρ)).bind fun d =>
                                              (self3 d).bind fun d => m_W_rejected [d]).bind
                                          fun d => (R.ok []).bind fun ds => R.ok (d :: ds)).bind
                                      fun ds => lenO ds).bind
                                  fun x => (R.ok (D.int 1)).bind fun y => addD x y).bind
                              fun y => neO x y).bind
                        asB)
                      ((((var 15 (frzAll ρ)).bind fun d => lenWO m_W___len__ [d]).bind fun x =>
                            ((var 2 (frzAll ρ)).bind fun d => lenWO m_W___len__ [d]).bind fun y =>
                              neO x y).bind
                        asB)))
                  ρ fun k =>
                  if k = true then thenS (R.ok (D.bl false)) ρ fun d => RS.ret d else RS.next ρ)
              (newS 2 (copyM 2 m_N_copy))))
          ρ
      else RS.next ρ)
def t7 : En → RS :=
  fun ρ =>
    thenS
      (orR
        ((((var 2 (frzAll ρ)).bind fun d => (self3 d).bind fun d => m_W_lines [d]).bind fun x =>
              (((var 3 (frzAll ρ)).bind fun x => (var 4 (frzAll ρ)).bind fun y => ixO x y).bind
                    fun x => (R.ok (D.int 0)).bind fun y => ixO x y).bind
                fun y => neO x y).bind
          asB)
        (orR
          ((((var 2 (frzAll ρ)).bind fun d => (self3 d).bind fun d => m_W_rejected [d]).bind
                fun x =>
                (((var 3 (frzAll ρ)).bind fun x => (var 4 (frzAll ρ)).bind fun y => ixO x y).bind
                      fun x => (R.ok (D.int 1)).bind fun y => ixO x y).bind
                  fun y => neO x y).bind
            asB)
          ((((var 2 (frzAll ρ)).bind fun d => lenWO m_W___len__ [d]).bind fun x =>
                (((((var 3 (frzAll ρ)).bind fun x => (var 4 (frzAll ρ)).bind fun y => ixO x y).bind
                              fun x => (R.ok (D.int 0)).bind fun y => ixO x y).bind
                          fun d => (R.ok []).bind fun ds => R.ok (d :: ds)).bind
                      fun ds => lenO ds).bind
                  fun y => neO x y).bind
            asB)))
      ρ fun k => if k = true then thenS (R.ok (D.bl false)) ρ fun d => RS.ret d else RS.next ρ

def nst (es : List Stt) (s : Stt) (ls : List Stt) : List Stt := es ++ [s] ++ ls.reverse
/-- the slots: an instance, the states, the place in them -/
def envX (ns : List Int) (f : List Str) (w : Option SV) (st : List Stt) (at_ : Int) (r : List (Option SV)) : En :=
  some (.val (.scr (ns.map D.int))) :: some (.val (.tup (f.map D.str))) :: w :: some (.val (.lst (st.map lD))) :: some (.val (.int at_)) :: r
def objW (s : Stt) (es ls : List Stt) : Option SV := some (.obj false (sD s) (es.map sD) (ls.map sD))
section
variable {ns : List Int} {f : List Str} {es ls : List Stt} {s : Stt} {n : Nat}
theorem ix_st : ixO (.lst ((nst es s ls).map lD)) (.int (es.length : Nat)) = .ok (lD s) :=
  (ixO_of (L2.atI_nat (j := es.length) (by simp [nst]))).1
theorem cut_st : cutA ((nst es s ls).map lD) none (some ((es.length : Int) + 1)) = (es ++ [s]).map lD := by
  rw [cut_hi _ _ (by omega)]
  have : ((es.length : Int) + 1).toNat = (es ++ [s]).length := by rw [List.length_append]; show ((es.length : Int) + 1).toNat = es.length + 1; omega
  rw [this, ← List.map_take]
  simp only [nst]
  rw [List.take_left]
theorem add_st {s' : Stt} (h : es.length ≤ 1000) : addD (.lst ((es ++ [s]).map lD)) (.lst [lD s']) = .ok (.lst ((nst (es ++ [s]) s' []).map lD)) := by
  rw [addD_lst _ _ (by simp; omega)]
  simp [nst]
theorem s3w : self3 (wD3 s (es.map sD) (ls.map sD)) = .ok (wD3 s (es.map sD) (ls.map sD)) := rfl
theorem frz_obj (s : Stt) (es ls : List Stt) : frz1 (objW s es ls) = some (.val (wD3 s (es.map sD) (ls.map sD))) := rfl
@[simp] theorem frz_val (d : D) : frz1 (some (.val d)) = some (.val d) := rfl
theorem ne_lst (v : ∀ h ∈ s.2, Vd h) : neO (.lst (s.2.map hkD)) (.lst (s.2.map hkD)) = .ok (.bl false) := ne_self (by rw [flat]; exact flats_hk 57 v)
theorem t7_ok (g : Gs n s) (r : List (Option SV)) : t7 (envX ns f (objW s es ls) (nst es s ls) (es.length : Nat) r) = .next (envX ns f (objW s es ls) (nst es s ls) (es.length : Nat) r) := by
  have q1 := w_lines (s := s) (es := es.map sD) (ls := ls.map sD)
  have q2 := w_rejected (s := s) (es := es.map sD) (ls := ls.map sD)
  have q3 := w_len (s := s) (es := es.map sD) (ls := ls.map sD)
  have q4 : lenWO m_W___len__ [wD3 s (es.map sD) (ls.map sD)] = .ok (.int (s.1.length : Nat)) := by
    have ll := g.ll
    have hh : (0 : Int) ≤ (s.1.length : Nat) ∧ ((s.1.length : Nat) : Int).natAbs ≤ 1000000 := by omega
    have e : lenWO m_W___len__ [wD3 s (es.map sD) (ls.map sD)] = (noX (m_W___len__ [wD3 s (es.map sD) (ls.map sD)])).bind fun z => match z with
      | .int n => if 0 ≤ n ∧ n.natAbs ≤ 1000000 then .ok (.int n) else .stuck
      | _ => .stuck := rfl
    rw [e, q3]
    exact if_pos hh
  have i1 := ix_st (es := es) (s := s) (ls := ls)
  have n1 := ne_tp g.ls g.ls
  have n2 := ne_lst g.hs
  have s3 := s3w (s := s) (es := es) (ls := ls)
  have fz := frz_obj s es ls
  simp only [envX]
  generalize (nst es s ls).map lD = stl at *
  generalize objW s es ls = ow at *
  generalize wD3 s (es.map sD) (ls.map sD) = w at *
  simp only [lD] at i1
  simp [t7, frzAll, fz, s3, q1, q2, q4, i1, n1, n2]
/-- what is told of the copies -/
theorem t6_no (k : Int) (hk : k ≠ 4) (w : Option SV) (st : List Stt) (a : Int) (x5 x6 x7 : Option SV) (r : List (Option SV)) : t6 (envX ns f w st a (x5 :: x6 :: x7 :: some (.val (.int k)) :: r)) = .next (envX ns f w st a (x5 :: x6 :: x7 :: some (.val (.int k)) :: r)) := by
  simp [t6, envX, hk]
theorem t6_yes (g : Gs n s) (hn : n ≤ 1000) (he : es.length < 1000) (st : List Stt) (a : Int) (x5 x6 x7 x9 x10 x11 x12 x13 x14 x15 x16 : Option SV) :
    ∃ o, t6 (envX ns f (objW s es ls) st a [x5, x6, x7, some (.val (.int 4)), x9, x10, x11, x12, x13, x14, x15, x16]) = .next (envX ns f (objW s es ls) st a [x5, x6, x7, some (.val (.int 4)), x9, x10, x11, x12, x13, x14, o, x16]) := by
  have cp := n_copy s (es.map sD) (ls.map sD)
  have p1 := pure_sD s
  have p2 := pures_sD es
  have p3 := pures_sD ls
  have xz := x_patchZ g hn (es.map sD) (ls.map sD) (by simp; omega)
  have hz : hkD hkZ = .tup [.int 0, .tup [], .tup [.str (Str.ofString "zz")], .tup [], .tup []] := rfl
  rw [hz] at xz
  have cM : ∀ x15 : Option SV, copyM 2 m_N_copy (envX ns f (objW s es ls) st a [x5, x6, x7, some (.val (.int 4)), x9, x10, x11, x12, x13, x14, x15, x16]) = .ok (sD s, es.map sD, ls.map sD) := fun x15 => by
    show (match m_N_copy [wD3 s (es.map sD) (ls.map sD)] with | .ok z => if (pureD z.1 && pureDs z.2.1 && pureDs z.2.2) = true then R.ok z else .stuck | _ => .stuck) = _
    rw [cp]
    show (if (pureD (sD s) && pureDs (es.map sD) && pureDs (ls.map sD)) = true then R.ok (sD s, es.map sD, ls.map sD) else .stuck) = _
    rw [p1, p2, p3]; rfl
  refine ⟨some (.obj false (sD (s.1, s.2 ++ [hkZ])) (es.map sD ++ [sD s]) []), ?_⟩
  have ow : objW s es ls = some (.obj false (sD s) (es.map sD) (ls.map sD)) := rfl
  have n1 : ∀ x15 : Option SV, newS 15 (copyM 2 m_N_copy) (envX ns f (objW s es ls) st a [x5, x6, x7, some (.val (.int 4)), x9, x10, x11, x12, x13, x14, x15, x16]) = .next (envX ns f (objW s es ls) st a [x5, x6, x7, some (.val (.int 4)), x9, x10, x11, x12, x13, x14, objW s es ls, x16]) := fun x15 => by
    unfold newS
    rw [cM]; rfl
  have n2 : ∀ x15 : Option SV, newS 2 (copyM 2 m_N_copy) (envX ns f (objW s es ls) st a [x5, x6, x7, some (.val (.int 4)), x9, x10, x11, x12, x13, x14, x15, x16]) = .next (envX ns f (objW s es ls) st a [x5, x6, x7, some (.val (.int 4)), x9, x10, x11, x12, x13, x14, x15, x16]) := fun x15 => by
    unfold newS
    rw [cM]; rfl
  have we := w_eq (s := (s.1, s.2 ++ [hkZ])) (t := s) (es := es.map sD ++ [sD s]) (ls := []) (es' := es.map sD) (ls' := ls.map sD)
  have ez := eq_Z g
  have r1 := w_rejected (s := (s.1, s.2 ++ [hkZ])) (es := es.map sD ++ [sD s]) (ls := [])
  have r2 := w_rejected (s := s) (es := es.map sD) (ls := ls.map sD)
  have len : ∀ (s' : Stt) (es ls : List D), s'.1.length ≤ 20 → lenWO m_W___len__ [wD3 s' es ls] = .ok (.int (s'.1.length : Nat)) := fun s' es ls ll => by
    have hh : (0 : Int) ≤ (s'.1.length : Nat) ∧ ((s'.1.length : Nat) : Int).natAbs ≤ 1000000 := by omega
    have e : lenWO m_W___len__ [wD3 s' es ls] = (noX (m_W___len__ [wD3 s' es ls])).bind fun z => match z with
      | .int n => if 0 ≤ n ∧ n.natAbs ≤ 1000000 then .ok (.int n) else .stuck
      | _ => .stuck := rfl
    rw [e, w_len]
    exact if_pos hh
  have l1 := len (s.1, s.2 ++ [hkZ]) (es.map sD ++ [sD s]) [] g.ll
  have l2 := len s (es.map sD) (ls.map sD) g.ll
  have eq1 : eqWO m_W___eq__ (wD3 (s.1, s.2 ++ [hkZ]) (es.map sD ++ [sD s]) []) (wD3 s (es.map sD) (ls.map sD)) = .ok (.bl false) := by
    show (noX (m_W___eq__ [wD3 (s.1, s.2 ++ [hkZ]) (es.map sD ++ [sD s]) [], wD3 s (es.map sD) (ls.map sD)])).bind _ = _
    rw [we, ez]; rfl
  have s31 : self3 (wD3 (s.1, s.2 ++ [hkZ]) (es.map sD ++ [sD s]) []) = .ok (wD3 (s.1, s.2 ++ [hkZ]) (es.map sD ++ [sD s]) []) := rfl
  have s32 := s3w (s := s) (es := es) (ls := ls)
  have z1 : frz1 (some (.obj false (sD (s.1, s.2 ++ [hkZ])) (es.map sD ++ [sD s]) [])) = some (.val (wD3 (s.1, s.2 ++ [hkZ]) (es.map sD ++ [sD s]) [])) := rfl
  have z2 := frz_obj s es ls
  unfold t6
  rw [show (var 8 (envX ns f (objW s es ls) st a [x5, x6, x7, some (.val (.int 4)), x9, x10, x11, x12, x13, x14, x15, x16])) = R.ok (D.int 4) from rfl]
  simp only [bind_ok, eq_int, asB_bl, thenS_ok, decide_true, if_true, seqS_eq, n1, thn_next]
  have px : exprX (xm 15 m_X_patch fun ρ => (mkT ((R.ok (D.int 0)).bind fun d => ((mkT (R.ok [])).bind fun d => ((mkT ((R.ok (D.str (Str.ofString "zz"))).bind fun d => (R.ok []).bind fun ds => R.ok (d :: ds))).bind fun d => ((mkT (R.ok [])).bind fun d => ((mkT (R.ok [])).bind fun d => (R.ok []).bind fun ds => R.ok (d :: ds)).bind fun ds => R.ok (d :: ds)).bind fun ds => R.ok (d :: ds)).bind fun ds => R.ok (d :: ds)).bind fun ds => R.ok (d :: ds))).bind fun d => (R.ok []).bind fun ds => R.ok (d :: ds))
      (envX ns f (objW s es ls) st a [x5, x6, x7, some (.val (.int 4)), x9, x10, x11, x12, x13, x14, objW s es ls, x16]) = .next (envX ns f (objW s es ls) st a [x5, x6, x7, some (.val (.int 4)), x9, x10, x11, x12, x13, x14, some (.obj false (sD (s.1, s.2 ++ [hkZ])) (es.map sD ++ [sD s]) []), x16]) := by
    have gx : (envX ns f (objW s es ls) st a [x5, x6, x7, some (.val (.int 4)), x9, x10, x11, x12, x13, x14, objW s es ls, x16])[15]? = some (some (.obj false (sD s) (es.map sD) (ls.map sD))) := rfl
    unfold exprX xm
    rw [gx]
    simp [xz]
    rfl
  simp only [bind_ok] at px
  rw [px]
  have n2' := n2 (some (.obj false (sD (s.1, s.2 ++ [hkZ])) (es.map sD ++ [sD s]) []))
  simp only [thn_next]
  simp only [envX] at n2' ⊢
  generalize wD3 (s.1, s.2 ++ [hkZ]) (es.map sD ++ [sD s]) [] = w1 at *
  generalize wD3 s (es.map sD) (ls.map sD) = w2 at *
  generalize (some (SV.obj false (sD (s.1, s.2 ++ [hkZ])) (es.map sD ++ [sD s]) [])) = o1 at *
  generalize objW s es ls = o2 at *
  simp [frzAll, z1, z2, eq1, s31, s32, r1, r2, l1, l2, n2']
end
end Lw
end
section
set_option linter.all false
set_option maxRecDepth 100000
set_option autoImplicit false
namespace Lw
open PySem PySem.Spec L2 VL
set_option maxHeartbeats 4000000
/-! ### k66: the test that calls -/
theorem orS_stuck {f g : En → RS} {ρ : En} (h : f ρ = .stuck) : orS f g ρ = g ρ := by unfold orS; rw [h]
theorem orS_next {f g : En → RS} {ρ ρ' : En} (h : f ρ = .next ρ') : orS f g ρ = .next ρ' := by unfold orS; rw [h]
theorem effS_ok {i : Nat} {sel : En → Option (Nat × List D)} {f1 : En → R Bool} {fd : En → R D} {g : En → RS} {ρ : En} {tg : Bool} {st st' d : D} {es ls es' ls' : List D} {k : Nat} {pre : List D} (h0 : ρ[i]? = some (some (.obj tg st es ls))) (h1 : f1 ρ = .ok true) (h2 : sel ρ = some (k, pre))
    (h3 : cloX fX k pre st es ls = some (d, st', es', ls')) (h4 : fd (ρ.set i (some (.obj tg st' es' ls'))) = .ok d) (h5 : flat 60 d = true) : effS i sel fX f1 fd g ρ = .next (ρ.set i (some (.obj tg st' es' ls'))) := by
  unfold effS objS
  rw [h0]
  dsimp only
  rw [h1, h2]
  dsimp only
  rw [h3]
  dsimp only
  rw [h4]
  simp [ne_self h5]
section
variable {ns : List Int} {f : List Str} {es ls : List Stt} {s e : Stt} {n : Nat} {h : Hk} {st : List Stt} {a : Int} {x5 x6 x7 x9 x11 x12 x13 x14 x15 x16 : Option SV}
theorem flat_patR (h : Hk) (s : Stt) : flat 60 (patR h s) = true := by
  unfold patR
  cases aft h s.1 with
  | none => rfl
  | some f =>
    dsimp only
    cases near h.s (pls (pat h) s.1) <;> rfl
theorem sel_0 (w : Option SV) (d : Option SV) : selK 2 9 8 (envX ns f w st a [x5, x6, x7, some (.val (.int 0)), some (.val (hkD h)), d, x11, x12, x13, x14, x15, x16]) = some (0, [hkD h]) := by
  show (if dataD (hkD h) = true then _ else none) = _
  rw [data_hk]; rfl
theorem sel_1 (k : Int) (hk : k = 1 ∨ k = 2 ∨ k = 3) (w : Option SV) (d : Option SV) : selK 2 9 8 (envX ns f w st a [x5, x6, x7, some (.val (.int k)), some (.val (hkD h)), d, x11, x12, x13, x14, x15, x16]) = some (k.toNat, []) := by
  show (if dataD (hkD h) = true then _ else none) = _
  rw [data_hk]
  rcases hk with rfl | rfl | rfl <;> rfl
theorem t5_0 (v : Vd h) (g : Gs n s) (hn : n ≤ 1000) (he : es.length < 1000) : t5 (envX ns f (objW s es ls) st a [x5, x6, x7, some (.val (.int 0)), some (.val (hkD h)), some (.val (patR h s)), x11, x12, x13, x14, x15, x16]) =
    .next (envX ns f (objW (patS h s) (es ++ [s]) []) st a [x5, x6, x7, some (.val (.int 0)), some (.val (hkD h)), some (.val (patR h s)), x11, x12, x13, x14, x15, x16]) := by
  have c := calls3 (cap_w s es ls) (dataD_cap (data_hk h))
  have r := res_0 v g hn es ls
  have fz := frz_obj s es ls
  unfold t5
  rw [orS_stuck]
  · exact effS_ok (tg := false) rfl rfl (sel_0 _ _) (cx_0 v g hn es ls he) rfl (flat_patR h s)
  · simp only [envX]
    generalize objW s es ls = ow at *
    generalize wD3 s (es.map sD) (ls.map sD) = w at *
    generalize hkD h = k at *
    simp [frzAll, fz, c, r]
theorem t5_1 (v : Vd h) (g : Gs n s) (hn : n ≤ 1000) (he : es.length < 1000) (hc : (tri s).2.length < s.2.length) : t5 (envX ns f (objW s es ls) st a [x5, x6, x7, some (.val (.int 1)), some (.val (hkD h)), some (.val (.int ((s.2.length : Int) - ((tri s).2.length : Int)))), x11, x12, x13, x14, x15, x16]) =
    .next (envX ns f (objW (tri s) (es ++ [s]) []) st a [x5, x6, x7, some (.val (.int 1)), some (.val (hkD h)), some (.val (.int ((s.2.length : Int) - ((tri s).2.length : Int)))), x11, x12, x13, x14, x15, x16]) := by
  have c := calls3 (cap_w s es ls) (dataD_cap (data_hk h))
  have r := res_1 g hn es ls
  rw [if_pos hc] at r
  have fz := frz_obj s es ls
  unfold t5
  rw [orS_stuck]
  · exact effS_ok (tg := false) rfl rfl (sel_1 1 (.inl rfl) _ _) (cx_1 g hn es ls he hc) rfl rfl
  · simp only [envX]
    generalize objW s es ls = ow at *
    generalize wD3 s (es.map sD) (ls.map sD) = w at *
    generalize hkD h = k at *
    simp [frzAll, fz, c, r]
theorem t5_1n (v : Vd h) (g : Gs n s) (hn : n ≤ 1000) (hc : ¬ (tri s).2.length < s.2.length) : t5 (envX ns f (objW s es ls) st a [x5, x6, x7, some (.val (.int 1)), some (.val (hkD h)), some (.val (.int 0)), x11, x12, x13, x14, x15, x16]) =
    .next (envX ns f (objW s es ls) st a [x5, x6, x7, some (.val (.int 1)), some (.val (hkD h)), some (.val (.int 0)), x11, x12, x13, x14, x15, x16]) := by
  have c := calls3 (cap_w s es ls) (dataD_cap (data_hk h))
  have r := res_1 g hn es ls
  rw [if_neg hc] at r
  have fz := frz_obj s es ls
  unfold t5
  rw [orS_next]
  simp only [envX]
  generalize objW s es ls = ow at *
  generalize wD3 s (es.map sD) (ls.map sD) = w at *
  generalize hkD h = k at *
  simp [frzAll, fz, c, r]
theorem t5_2 (ge : ∀ x ∈ es ++ [e], Gs n x) (hl : ls.length < 1000) : t5 (envX ns f (objW s (es ++ [e]) ls) st a [x5, x6, x7, some (.val (.int 2)), some (.val (hkD h)), some (.val .non), x11, x12, x13, x14, x15, x16]) =
    .next (envX ns f (objW e es (ls ++ [s])) st a [x5, x6, x7, some (.val (.int 2)), some (.val (hkD h)), some (.val .non), x11, x12, x13, x14, x15, x16]) := by
  have c := calls3 (cap_w s (es ++ [e]) ls) (dataD_cap (data_hk h))
  have r := res_2 (s := s) (es ++ [e]) ls ge
  rw [if_neg (by simp)] at r
  have fz := frz_obj s (es ++ [e]) ls
  unfold t5
  rw [orS_stuck]
  · exact effS_ok (tg := false) rfl rfl (sel_1 2 (.inr (.inl rfl)) _ _) (cx_2 es ls ge hl) rfl rfl
  · simp only [envX]
    generalize objW s (es ++ [e]) ls = ow at *
    generalize wD3 s ((es ++ [e]).map sD) (ls.map sD) = w at *
    generalize hkD h = k at *
    simp [frzAll, fz, c, r]
theorem t5_3 (ge : ∀ x ∈ ls ++ [e], Gs n x) (hl : es.length < 1000) : t5 (envX ns f (objW s es (ls ++ [e])) st a [x5, x6, x7, some (.val (.int 3)), some (.val (hkD h)), some (.val .non), x11, x12, x13, x14, x15, x16]) =
    .next (envX ns f (objW e (es ++ [s]) ls) st a [x5, x6, x7, some (.val (.int 3)), some (.val (hkD h)), some (.val .non), x11, x12, x13, x14, x15, x16]) := by
  have c := calls3 (cap_w s es (ls ++ [e])) (dataD_cap (data_hk h))
  have r := res_3 (s := s) es (ls ++ [e]) ge
  rw [if_neg (by simp)] at r
  have fz := frz_obj s es (ls ++ [e])
  unfold t5
  rw [orS_stuck]
  · exact effS_ok (tg := false) rfl rfl (sel_1 3 (.inr (.inr rfl)) _ _) (cx_3 es ls ge hl) rfl rfl
  · simp only [envX]
    generalize objW s es (ls ++ [e]) = ow at *
    generalize wD3 s (es.map sD) ((ls ++ [e]).map sD) = w at *
    generalize hkD h = k at *
    simp [frzAll, fz, c, r]
theorem ne_nothing : neO nothing nothing = .ok (.bl false) := ne_self flat_nothing
theorem t5_2n : t5 (envX ns f (objW s [] ls) st a [x5, x6, x7, some (.val (.int 2)), some (.val (hkD h)), some (.val nothing), x11, x12, x13, x14, x15, x16]) =
    .next (envX ns f (objW s [] ls) st a [x5, x6, x7, some (.val (.int 2)), some (.val (hkD h)), some (.val nothing), x11, x12, x13, x14, x15, x16]) := by
  have c := calls3 (cap_w s [] ls) (dataD_cap (data_hk h))
  have r := res_2 (s := s) (n := 0) [] ls (fun _ h => nomatch h)
  rw [if_pos rfl] at r
  have nn := ne_nothing
  have fz := frz_obj s [] ls
  unfold t5
  rw [orS_next]
  simp only [envX]
  generalize objW s [] ls = ow at *
  generalize wD3 s (([] : List Stt).map sD) (ls.map sD) = w at *
  generalize hkD h = k at *
  generalize nothing = nt at *
  simp [frzAll, fz, c, r, nn]
theorem t5_3n : t5 (envX ns f (objW s es []) st a [x5, x6, x7, some (.val (.int 3)), some (.val (hkD h)), some (.val nothing), x11, x12, x13, x14, x15, x16]) =
    .next (envX ns f (objW s es []) st a [x5, x6, x7, some (.val (.int 3)), some (.val (hkD h)), some (.val nothing), x11, x12, x13, x14, x15, x16]) := by
  have c := calls3 (cap_w s es []) (dataD_cap (data_hk h))
  have r := res_3 (s := s) (n := 0) es [] (fun _ h => nomatch h)
  rw [if_pos rfl] at r
  have nn := ne_nothing
  have fz := frz_obj s es []
  unfold t5
  rw [orS_next]
  simp only [envX]
  generalize objW s es [] = ow at *
  generalize wD3 s (es.map sD) (([] : List Stt).map sD) = w at *
  generalize hkD h = k at *
  generalize nothing = nt at *
  simp [frzAll, fz, c, r, nn]
theorem t5_4 (w x10 : Option SV) : t5 (envX ns f w st a [x5, x6, x7, some (.val (.int 4)), x9, x10, x11, x12, x13, x14, x15, x16]) =
    .next (envX ns f w st a [x5, x6, x7, some (.val (.int 4)), x9, x10, x11, x12, x13, x14, x15, x16]) := by
  unfold t5
  rw [orS_next]
  simp [envX, frzAll]
end
end Lw
end
section
set_option linter.all false
set_option maxRecDepth 100000
set_option autoImplicit false
namespace Lw
open PySem PySem.Spec L2 VL
set_option maxHeartbeats 4000000
/-! ### k66: what is due -/
section
variable {ns : List Int} {f : List Str} {es ls : List Stt} {s e : Stt} {n : Nat} {h : Hk} {st : List Stt} {a : Int} {x5 x6 x7 x9 x10 x11 x12 x13 x14 x15 x16 : Option SV} {w : Option SV}
abbrev lnV (s : Stt) : Option SV := some (.val (.tup (s.1.map D.str)))
abbrev rjV (s : Stt) : Option SV := some (.val (.lst (s.2.map hkD)))
abbrev kdV (k : Int) : Option SV := some (.val (.int k))
theorem t4_0 (v : Vd h) (g : Gs n s) (hn : n ≤ 1000) (he : es.length ≤ 1000) : t4 (envX ns f w (nst es s ls) (es.length : Nat) [x5, lnV s, rjV s, kdV 0, some (.val (hkD h)), some (.val .non), x11, x12, x13, x14, x15, x16]) =
    .next (envX ns f w (nst (es ++ [s]) (patS h s) []) ((es.length : Int) + 1) [x5, lnV s, rjV s, kdV 0, some (.val (hkD h)), some (.val (patR h s)), some (.val (opL (aft h s.1))), some (.val (lD (patS h s))), x13, x14, x15, x16]) := by
  have p1 := law_put_ok v.toGd g.ls g.ll
  have p2 := law_near_ok v.toGd g.ls (by have := g.ll; omega)
  have c := cut_st (es := es) (s := s) (ls := ls)
  have ad := add_st (es := es) (s := s) (s' := patS h s) he
  have lr := g.lr
  have a1 : addD (.lst (s.2.map hkD)) (.lst [hkD h]) = .ok (.lst ((s.2 ++ [h]).map hkD)) := by
    rw [addD_lst _ _ (by simp; omega), List.map_append]; rfl
  simp only [envX]
  generalize (nst es s ls).map lD = l1 at *
  generalize (nst (es ++ [s]) (patS h s) []).map lD = l2 at *
  generalize (es ++ [s]).map lD = l3 at *
  cases ha : aft h s.1 with
  | none =>
    have ep : patS h s = (s.1, s.2 ++ [h]) := by unfold patS; rw [ha]
    have er : patR h s = .non := by unfold patR; rw [ha]
    rw [ha] at p1
    rw [ep] at ad
    rw [ep, er]
    simp only [opL, lD] at *
    generalize (s.2 ++ [h]).map hkD = l4 at *
    generalize hkD h = k at *
    simp [t4, p1, a1, two, c, ad]
  | some f' =>
    have ep : patS h s = (f', s.2) := by unfold patS; rw [ha]
    have er : patR h s = opD (near h.s (pls (pat h) s.1)) := by unfold patR; rw [ha]
    rw [ha] at p1
    rw [ep] at ad
    rw [ep, er]
    simp only [opL, lD] at *
    generalize opD (near h.s (pls (pat h) s.1)) = nr at *
    generalize hkD h = k at *
    simp [t4, p1, p2, two, c, ad]
theorem t4_1 (g : Gs n s) (hn : n ≤ 1000) (he : es.length ≤ 1000) (hc : (tri s).2.length < s.2.length) : t4 (envX ns f w (nst es s ls) (es.length : Nat) [x5, lnV s, rjV s, kdV 1, x9, x10, x11, x12, x13, x14, x15, x16]) =
    .next (envX ns f w (nst (es ++ [s]) (tri s) []) ((es.length : Int) + 1) [x5, lnV s, rjV s, kdV 1, x9, some (.val (.int ((s.2.length : Int) - ((tri s).2.length : Int)))), lnV (tri s), x12, rjV (tri s), x14, x15, x16]) := by
  have p1 := law_tried_ok g hn
  have c := cut_st (es := es) (s := s) (ls := ls)
  have ad := add_st (es := es) (s := s) (s' := tri s) he
  simp only [envX]
  generalize (nst es s ls).map lD = l1 at *
  generalize (nst (es ++ [s]) (tri s) []).map lD = l2 at *
  generalize (es ++ [s]).map lD = l3 at *
  simp only [lD] at *
  simp [t4, p1, putT, putAll, putN, putNil, two, c, ad, hc]
theorem t4_1n (g : Gs n s) (hn : n ≤ 1000) (hc : ¬ (tri s).2.length < s.2.length) : t4 (envX ns f w st a [x5, lnV s, rjV s, kdV 1, x9, x10, x11, x12, x13, x14, x15, x16]) =
    .next (envX ns f w st a [x5, lnV s, rjV s, kdV 1, x9, some (.val (.int 0)), lnV (tri s), x12, rjV (tri s), x14, x15, x16]) := by
  have p1 := law_tried_ok g hn
  have le := tri_le g
  have e : (s.2.length : Int) - ((tri s).2.length : Int) = 0 := by omega
  simp [t4, envX, p1, putT, putAll, putN, putNil, e]
theorem len_st : ((nst es s ls).map lD).length = es.length + 1 + ls.length := by simp [nst]; omega
theorem t4_2 : t4 (envX ns f w (nst (es ++ [e]) s ls) ((es ++ [e]).length : Nat) [x5, x6, x7, kdV 2, x9, x10, x11, x12, x13, x14, x15, x16]) =
    .next (envX ns f w (nst (es ++ [e]) s ls) (es.length : Nat) [x5, x6, x7, kdV 2, x9, some (.val .non), x11, x12, x13, kdV (es.length : Nat), x15, x16]) := by
  have l := len_st (es := es ++ [e]) (s := s) (ls := ls)
  have e1 : (((es ++ [e]).length : Nat) : Int) - 1 = (es.length : Nat) := by simp
  have e2 : inRg (.int (es.length : Nat)) (.int (((nst (es ++ [e]) s ls).map lD).length : Nat)) = .ok true := by
    rw [l]
    have : (0 : Int) ≤ (es.length : Nat) ∧ ((es.length : Nat) : Int) < (((es ++ [e]).length + 1 + ls.length : Nat) : Int) := by simp; omega
    show R.ok (decide _) = _
    rw [decide_eq_true this]
  simp only [envX]
  generalize ((es ++ [e]).length : Nat) = m at *
  generalize (nst (es ++ [e]) s ls).map lD = l1 at *
  simp [t4, e1, e2]
theorem t4_2n : t4 (envX ns f w (nst [] s ls) (([] : List Stt).length : Nat) [x5, x6, x7, kdV 2, x9, x10, x11, x12, x13, x14, x15, x16]) =
    .next (envX ns f w (nst [] s ls) (([] : List Stt).length : Nat) [x5, x6, x7, kdV 2, x9, some (.val nothing), x11, x12, x13, kdV (-1), x15, x16]) := by
  have e2 : ∀ m : Nat, inRg (.int (-1)) (.int (m : Nat)) = .ok false := fun m => rfl
  simp only [envX]
  generalize (nst [] s ls).map lD = l1 at *
  simp [t4, e2, nothing]
theorem t4_3 : t4 (envX ns f w (nst es s (ls ++ [e])) (es.length : Nat) [x5, x6, x7, kdV 3, x9, x10, x11, x12, x13, x14, x15, x16]) =
    .next (envX ns f w (nst es s (ls ++ [e])) ((es.length : Int) + 1) [x5, x6, x7, kdV 3, x9, some (.val .non), x11, x12, x13, kdV ((es.length : Int) + 1), x15, x16]) := by
  have l := len_st (es := es) (s := s) (ls := ls ++ [e])
  have e2 : inRg (.int ((es.length : Int) + 1)) (.int (((nst es s (ls ++ [e])).map lD).length : Nat)) = .ok true := by
    rw [l]
    have : (0 : Int) ≤ (es.length : Int) + 1 ∧ (es.length : Int) + 1 < ((es.length + 1 + (ls ++ [e]).length : Nat) : Int) := by simp; omega
    show R.ok (decide _) = _
    rw [decide_eq_true this]
  simp only [envX]
  generalize (nst es s (ls ++ [e])).map lD = l1 at *
  simp [t4, e2]
theorem t4_3n : t4 (envX ns f w (nst es s []) (es.length : Nat) [x5, x6, x7, kdV 3, x9, x10, x11, x12, x13, x14, x15, x16]) =
    .next (envX ns f w (nst es s []) (es.length : Nat) [x5, x6, x7, kdV 3, x9, some (.val nothing), x11, x12, x13, kdV ((es.length : Int) + 1), x15, x16]) := by
  have l := len_st (es := es) (s := s) (ls := [])
  have e2 : inRg (.int ((es.length : Int) + 1)) (.int (((nst es s []).map lD).length : Nat)) = .ok false := by
    rw [l]
    have : ¬ ((0 : Int) ≤ (es.length : Int) + 1 ∧ (es.length : Int) + 1 < ((es.length + 1 + ([] : List Stt).length : Nat) : Int)) := by simp
    show R.ok (decide _) = _
    rw [decide_eq_false this]
  simp only [envX]
  generalize (nst es s []).map lD = l1 at *
  simp [t4, e2, nothing]
theorem t4_4 : t4 (envX ns f w st a [x5, x6, x7, kdV 4, x9, x10, x11, x12, x13, x14, x15, x16]) = .next (envX ns f w st a [x5, x6, x7, kdV 4, x9, x10, x11, x12, x13, x14, x15, x16]) := by
  simp [t4, envX]
end
end Lw
end
section
set_option linter.all false
set_option maxRecDepth 100000
set_option autoImplicit false
namespace Lw
open PySem PySem.Spec L2 VL
set_option maxHeartbeats 4000000
/-! ### k66: the law -/
theorem thn_ex {x : RS} {K : En → RS} {P : RS → Prop} {Q : En → Prop} (h : ∃ ρ, x = .next ρ ∧ Q ρ) (k : ∀ ρ, Q ρ → P (K ρ)) : P (x.thn K) := by
  obtain ⟨ρ, rfl, q⟩ := h
  exact k ρ q
theorem stepL {A C : En → Prop} {fb : En → RS} (h : ∃ ρ1, A ρ1 ∧ ∃ ρ2, fb ρ1 = RS.next ρ2 ∧ C ρ2) : ∃ ρ1 ρ2, A ρ1 ∧ (fb ρ1 = .next ρ2 ∨ fb ρ1 = .cont ρ2) ∧ C ρ2 := by
  obtain ⟨ρ1, h1, ρ2, h2, h3⟩ := h
  exact ⟨ρ1, ρ2, h1, .inl h2, h3⟩
def Good (n : Nat) (es : List Stt) (s : Stt) (ls : List Stt) : Prop := (∀ x ∈ nst es s ls, Gs n x) ∧ es.length + ls.length ≤ n
/-- what stands at the head of the loop, n turns done -/
def Iv (ns : List Int) (f : List Str) (n : Nat) (ρ : En) : Prop := ∃ es s ls x5 x6 x7 x8 x9 x10 x11 x12 x13 x14 x15 x16, Good n es s ls ∧ ρ = envX ns f (objW s es ls) (nst es s ls) (es.length : Nat) [x5, x6, x7, x8, x9, x10, x11, x12, x13, x14, x15, x16]
section
variable {es ls : List Stt} {s e : Stt} {n : Nat} {h : Hk}
theorem Good.gs (g : Good n es s ls) : Gs n s := g.1 s (by simp [nst])
theorem Good.ge (g : Good n es s ls) : ∀ x ∈ es, Gs n x := fun x hx => g.1 x (by simp [nst, hx])
theorem Good.gl (g : Good n es s ls) : ∀ x ∈ ls, Gs n x := fun x hx => g.1 x (by simp [nst, hx])
theorem Good.up (g : Good n es s ls) : Good (n + 1) es s ls := ⟨fun x hx => (g.1 x hx).mono (Nat.le_succ n), Nat.le_succ_of_le g.2⟩
theorem Good.new {s' : Stt} (g : Good n es s ls) (g' : Gs (n + 1) s') : Good (n + 1) (es ++ [s]) s' [] := by
  refine ⟨fun x hx => ?_, by have := g.2; simp; omega⟩
  have hx' : x ∈ es ∨ x = s ∨ x = s' := by simpa [nst] using hx
  rcases hx' with hx' | rfl | rfl
  · exact (g.ge x hx').mono (Nat.le_succ n)
  · exact g.gs.mono (Nat.le_succ n)
  · exact g'
theorem nst_back (es : List Stt) (e s : Stt) (ls : List Stt) : nst (es ++ [e]) s ls = nst es e (ls ++ [s]) := by simp [nst]
theorem Good.back (g : Good n (es ++ [e]) s ls) : Good n es e (ls ++ [s]) := by
  refine ⟨fun x hx => g.1 x (by rw [nst_back]; exact hx), ?_⟩
  have := g.2
  simp at this ⊢
  omega
theorem Good.forth (g : Good n es s (ls ++ [e])) : Good n (es ++ [s]) e ls := by
  refine ⟨fun x hx => g.1 x (by rw [← nst_back]; exact hx), ?_⟩
  have := g.2
  simp at this ⊢
  omega
theorem pat_good (v : Vd h) (g : Gs n s) : Gs (n + 1) (patS h s) := tri1_ok g v
theorem kind_ok (r : Int) (h0 : 0 ≤ r) (h1 : r < 9) : ∃ k : Int, ixO (.tup [.int 0, .int 0, .int 0, .int 0, .int 1, .int 1, .int 2, .int 3, .int 4]) (.int r) = .ok (.int k) ∧ (k = 0 ∨ k = 1 ∨ k = 2 ∨ k = 3 ∨ k = 4) := by
  have : r = 0 ∨ r = 1 ∨ r = 2 ∨ r = 3 ∨ r = 4 ∨ r = 5 ∨ r = 6 ∨ r = 7 ∨ r = 8 := by omega
  rcases this with rfl | rfl | rfl | rfl | rfl | rfl | rfl | rfl | rfl
  all_goals first
    | exact ⟨0, rfl, .inl rfl⟩
    | exact ⟨1, rfl, .inr (.inl rfl)⟩
    | exact ⟨2, rfl, .inr (.inr (.inl rfl))⟩
    | exact ⟨3, rfl, .inr (.inr (.inr (.inl rfl)))⟩
    | exact ⟨4, rfl, .inr (.inr (.inr (.inr rfl)))⟩
/-- one turn, from what is due on -/
theorem turn (ns : List Int) (f : List Str) {k : Int} (hk : k = 0 ∨ k = 1 ∨ k = 2 ∨ k = 3 ∨ k = 4) (v : Vd h) (g : Good n es s ls) (hn : n ≤ 100) (x5 x11 x12 x13 x14 x15 x16 : Option SV) :
    ∃ ρ2, seqS t4 (seqS t5 (seqS t6 t7)) (envX ns f (objW s es ls) (nst es s ls) (es.length : Nat) [x5, lnV s, rjV s, kdV k, some (.val (hkD h)), some (.val .non), x11, x12, x13, x14, x15, x16]) = .next ρ2 ∧ Iv ns f (n + 1) ρ2 := by
  have hl := g.2
  have gs := g.gs
  have tail : ∀ {k : Int} {es ls : List Stt} {s : Stt} (x5 x6 x7 x9 x10 x11 x12 x13 x14 x15 x16 : Option SV), k ≠ 4 → Good (n + 1) es s ls → ∃ ρ2, seqS t6 t7 (envX ns f (objW s es ls) (nst es s ls) (es.length : Nat) [x5, x6, x7, kdV k, x9, x10, x11, x12, x13, x14, x15, x16]) = .next ρ2 ∧ Iv ns f (n + 1) ρ2 := by
    intro k es ls s x5 x6 x7 x9 x10 x11 x12 x13 x14 x15 x16 hk g
    rw [seqS_eq, t6_no k hk, thn_next, t7_ok g.gs]
    exact ⟨_, rfl, es, s, ls, x5, x6, x7, kdV k, x9, x10, x11, x12, x13, x14, x15, x16, g, rfl⟩
  have cast1 : ∀ (es : List Stt) (s : Stt), (es.length : Int) + 1 = ((es ++ [s]).length : Nat) := fun es s => by simp
  rcases hk with rfl | rfl | rfl | rfl | rfl
  · rw [seqS_eq, t4_0 v gs (by omega) (by omega), thn_next, seqS_eq, t5_0 v gs (by omega) (by omega), thn_next, cast1 es s]
    exact tail _ _ _ _ _ _ _ _ _ _ _ (by decide) (g.new (pat_good v gs))
  · by_cases hc : (tri s).2.length < s.2.length
    · rw [seqS_eq, t4_1 gs (by omega) (by omega) hc, thn_next, seqS_eq, t5_1 v gs (by omega) (by omega) hc, thn_next, cast1 es s]
      exact tail _ _ _ _ _ _ _ _ _ _ _ (by decide) (g.new ((tri_ok gs).mono (Nat.le_succ n)))
    · rw [seqS_eq, t4_1n gs (by omega) hc, thn_next, seqS_eq, t5_1n v gs (by omega) hc, thn_next]
      exact tail _ _ _ _ _ _ _ _ _ _ _ (by decide) g.up
  · rcases List.eq_nil_or_concat es with rfl | ⟨es0, e, rfl⟩
    · rw [seqS_eq, t4_2n, thn_next, seqS_eq, t5_2n, thn_next]
      exact tail _ _ _ _ _ _ _ _ _ _ _ (by decide) g.up
    · rw [List.concat_eq_append] at *
      rw [seqS_eq, t4_2, thn_next, seqS_eq, t5_2 (n := n) g.ge (by simp at hl; omega), thn_next, nst_back]
      exact tail _ _ _ _ _ _ _ _ _ _ _ (by decide) g.back.up
  · rcases List.eq_nil_or_concat ls with rfl | ⟨ls0, e, rfl⟩
    · rw [seqS_eq, t4_3n, thn_next, seqS_eq, t5_3n, thn_next]
      exact tail _ _ _ _ _ _ _ _ _ _ _ (by decide) g.up
    · rw [List.concat_eq_append] at *
      rw [seqS_eq, t4_3, thn_next, seqS_eq, t5_3 (n := n) g.gl (by simp at hl; omega), thn_next, cast1 es s, ← nst_back]
      exact tail _ _ _ _ _ _ _ _ _ _ _ (by decide) g.forth.up
  · rw [seqS_eq, t4_4, thn_next, seqS_eq, t5_4, thn_next, seqS_eq]
    obtain ⟨o, h6⟩ := t6_yes (ns := ns) (f := f) (es := es) (ls := ls) gs (by omega) (by omega) (nst es s ls) (es.length : Nat) x5 (lnV s) (rjV s) (some (.val (hkD h))) (some (.val .non)) x11 x12 x13 x14 x15 x16
    rw [h6, thn_next, t7_ok gs]
    exact ⟨_, rfl, es, s, ls, x5, _, _, _, _, _, x11, x12, x13, x14, o, x16, g.up, rfl⟩
end
theorem law_true : ∀ ns : List Int, ns.length ≤ 63 → m_law [.scr (ns.map D.int)] = .ok (.bl true) := by
  intro ns hl
  obtain ⟨f, e1, a, lf⟩ := law_lines_ok hl 0 7 (by decide) (by decide) (by decide) (by decide)
  have lf' : f.length ≤ 20 := by omega
  have e2 := init_ok (s := (f, [])) a lf'
  show bodyM 17 1 pk_law.1 _ = _
  rw [body_1]
  simp only [pk_law]
  rw [seqS_eq]
  refine thn_to (P := fun x => RS.out x = .ok (.bl true)) (ρ := some (.val (.scr (ns.map D.int))) :: some (.val (.tup (f.map D.str))) :: List.replicate 15 none) ?_ ?_
  · simp [e1]
  rw [seqS_eq]
  refine thn_to (P := fun x => RS.out x = .ok (.bl true)) (ρ := envX ns f (objW (f, []) [] []) (nst [] (f, []) []) (([] : List Stt).length : Nat) (List.replicate 12 none)) ?_ ?_
  · simp only [sD] at e2
    simp [par3N, e2, envX, objW, nst, lD, sD]
  rw [seqS_eq]
  have er : rng1 [.int 13] = .ok ((List.range 13).map fun i : Nat => D.int (i : Nat)) := rng1_int 13 (by decide) (by decide)
  show RS.out (RS.thn (thenS (rng1 [.int 13]) _ _) _) = _
  rw [er]
  show RS.out (RS.thn (forS _ _ _ _) _) = _
  refine forS_toP (P := fun x => RS.out x = .ok (.bl true)) (fun i : Nat => D.int (i : Nat)) (fun pre ρ => Iv ns f pre.length ρ) (List.range 13) ?_ ?_ ?_
  · refine ⟨[], (f, []), [], none, none, none, none, none, none, none, none, none, none, none, none, ⟨fun x hx => ?_, Nat.le_refl _⟩, rfl⟩
    have hx' : x = (f, []) := by simpa [nst] using hx
    rw [hx']
    exact ⟨a, lf', (fun _ h => nomatch h), Nat.le_refl _⟩
  · intro pre i post ρ e I
    have hi : i < 13 := List.mem_range.mp (by rw [← e]; exact List.mem_append_right _ List.mem_cons_self)
    have hp : pre.length ≤ 13 := by
      have := congrArg List.length e
      simp at this
      omega
    obtain ⟨es, s, ls, x5, x6, x7, x8, x9, x10, x11, x12, x13, x14, x15, x16, g, rfl⟩ := I
    refine stepL ⟨_, rfl, ?_⟩
    have gs := g.gs
    obtain ⟨r, p1, r0, r1⟩ := pick_ok ns (20 + 25 * (i : Nat)) 9 hl (by omega) (by omega) (by omega)
    obtain ⟨k, p2, hk⟩ := kind_ok r r0 r1
    obtain ⟨h, p3, v⟩ := law_chosen_ok (f := s.1) hl (21 + 25 * (i : Nat)) (by omega) (by omega) gs.ls gs.ll
    have i1 := ix_st (es := es) (s := s) (ls := ls)
    have mm : mulD (.int 25) (.int (i : Nat)) = .ok (.int (25 * (i : Nat))) := mulD_int _ _ (.inl (by decide))
    have fin := turn ns f hk v g (by omega) (kdV (i : Nat)) x11 x12 x13 x14 x15 x16
    have el : (pre ++ [i]).length = pre.length + 1 := by simp
    rw [el]
    show (fun x => ∃ ρ2, x = RS.next ρ2 ∧ Iv ns f (pre.length + 1) ρ2) (seqS _ _ _)
    rw [seqS_eq]
    refine thn_to (P := fun x => ∃ ρ2, x = RS.next ρ2 ∧ Iv ns f (pre.length + 1) ρ2) (ρ := envX ns f (objW s es ls) (nst es s ls) (es.length : Nat) [kdV (i : Nat), lnV s, rjV s, x8, x9, x10, x11, x12, x13, x14, x15, x16]) ?_ ?_
    · simp only [envX]
      generalize (nst es s ls).map lD = l1 at *
      simp only [lD] at i1
      simp [i1, putT, putAll, putN, putNil]
    rw [seqS_eq]
    refine thn_to (P := fun x => ∃ ρ2, x = RS.next ρ2 ∧ Iv ns f (pre.length + 1) ρ2) (ρ := envX ns f (objW s es ls) (nst es s ls) (es.length : Nat) [kdV (i : Nat), lnV s, rjV s, kdV k, x9, x10, x11, x12, x13, x14, x15, x16]) ?_ ?_
    · simp only [envX]
      simp [mm, p1, p2]
    rw [seqS_eq]
    refine thn_to (P := fun x => ∃ ρ2, x = RS.next ρ2 ∧ Iv ns f (pre.length + 1) ρ2) (ρ := envX ns f (objW s es ls) (nst es s ls) (es.length : Nat) [kdV (i : Nat), lnV s, rjV s, kdV k, some (.val (hkD h)), some (.val .non), x11, x12, x13, x14, x15, x16]) ?_ ?_
    · simp only [envX]
      generalize hkD h = hh at *
      simp [mm, p3, two]
    exact fin
  · intro ρ I
    obtain ⟨es, s, ls, x5, x6, x7, x8, x9, x10, x11, x12, x13, x14, x15, x16, g, rfl⟩ := I
    have gs := g.gs
    have i1 := ix_st (es := es) (s := s) (ls := ls)
    have mk := init_ok (s := s) gs.ls gs.ll
    have g0 : Gs 13 (s.1, []) := ⟨gs.ls, gs.ll, (fun _ h => nomatch h), Nat.zero_le _⟩
    have we : eqWO m_W___eq__ (wD3 s (es.map sD) (ls.map sD)) (wD3 (s.1, []) [] []) = .ok (.bl (decide (s.2 = []))) := by
      show (noX (m_W___eq__ [wD3 s (es.map sD) (ls.map sD), wD3 (s.1, []) [] []])).bind _ = _
      rw [w_eq, eq_twin gs]; rfl
    have wt : eqWO m_W___eq__ (wD3 (s.1, []) [] []) (wD3 (s.1, []) [] []) = .ok (.bl true) := by
      show (noX (m_W___eq__ [wD3 (s.1, []) [] [], wD3 (s.1, []) [] []])).bind _ = _
      rw [w_eq, VL.eq_self (flat_sD g0 56)]; rfl
    have wn : neWO m_W___eq__ (wD3 s (es.map sD) (ls.map sD)) (.tup (s.1.map D.str)) = .ok (.bl true) := by
      have e : neWO m_W___eq__ (wD3 s (es.map sD) (ls.map sD)) (.tup (s.1.map D.str)) = (noX (m_W___eq__ [wD3 s (es.map sD) (ls.map sD), .tup (s.1.map D.str)])).bind fun z => (asB z).bind fun b => .ok (.bl (!b)) := rfl
      rw [e, w_eqT]; rfl
    have wl := w_lines (s := (s.1, [])) (es := []) (ls := [])
    have el : eqO (.lst (s.2.map hkD)) (.lst []) = .ok (.bl (decide (s.2 = []))) := by
      rw [eqO_of (by rw [flat]; exact flats_hk 57 gs.hs) rfl, eqD]
      cases s.2 <;> simp [eqDs]
    have eb : ∀ b : Bool, eqO (.bl b) (.bl b) = .ok (.bl true) := fun b => VL.eq_self rfl
    have s3 : self3 (wD3 (s.1, []) [] []) = .ok (wD3 (s.1, []) [] []) := rfl
    have fz := frz_obj s es ls
    have tw : D.op 3 [sD (s.1, []), .lst [], .lst []] = wD3 (s.1, []) [] [] := rfl
    show RS.out (seqS _ _ _) = _
    rw [seqS_eq]
    refine thn_to (P := fun x => RS.out x = .ok (.bl true)) (ρ := envX ns f (objW s es ls) (nst es s ls) (es.length : Nat) [x5, x6, x7, x8, x9, x10, x11, x12, x13, x14, x15, some (.val (wD3 (s.1, []) [] []))]) ?_ ?_
    · simp only [envX]
      generalize (nst es s ls).map lD = l1 at *
      simp only [lD] at i1
      generalize objW s es ls = ow at *
      simp [i1, mk, tw]
    · simp only [envX]
      generalize (nst es s ls).map lD = l1 at *
      simp only [lD] at i1
      generalize objW s es ls = ow at *
      generalize wD3 s (es.map sD) (ls.map sD) = w at *
      generalize wD3 (s.1, []) [] [] = t at *
      simp [frzAll, fz, i1, we, el, eb, wn, s3, wl, mk, tw, wt]
end Lw
end
section
set_option Elab.async false
set_option linter.all false
set_option maxRecDepth 100000
set_option maxHeartbeats 4000000
set_option autoImplicit false
namespace Lw
open PySem PySem.Spec PyProof.Rows L2 VL
theorem allC {p : Nat → Prop} (h0 : p 0) (h1 : p 1) (h2 : p 2) (h3 : p 3) (h4 : p 4) (h5 : p 5) (h6 : p 6) (h7 : p 7) (h8 : p 8) (h9 : p 9) (h10 : p 10) (h11 : p 11) (h12 : p 12) : ∀ c, c < 13 → p c
  | 0, _ => h0
  | 1, _ => h1
  | 2, _ => h2
  | 3, _ => h3
  | 4, _ => h4
  | 5, _ => h5
  | 6, _ => h6
  | 7, _ => h7
  | 8, _ => h8
  | 9, _ => h9
  | 10, _ => h10
  | 11, _ => h11
  | 12, _ => h12
  | n + 13, h => absurd h (by omega)
theorem fn_mk0 {K : PySem.W.Frag} {h : Heap} {mg : Str → Option Value} {x : Str} {st : Stmt} {f : Addr} {od an : Option Addr} {sl : Array (Option Value)} {oc kV dc pm cd ct : Value} {ps : List Str} (X : K.In h) (G : h.Ns mainGlobals mg)
    (a : PySem.W.nsIn K mainGlobals x = some (some (.ref f))) (l : K.lookup f = some ⟨oc, od, .func (PySem.W.fnOf x x (defArgs st) (defBody st) (defScope st) .none kV dc pm an cd ct), sl⟩) (c : PySem.W.codeIn K cd x = true) (k : PySem.W.keepIn K (.ref f) = true)
    (hb : ∀ (kV doc pm : Value) (an : Option Addr) (cdv ct : Value) (us : List Value), us.length = ps.length → bindArgs (PySem.W.fnOf x x (defArgs st) (defBody st) (defScope st) .none kV doc pm an cdv ct) ⟨us, []⟩ = pure (ps.zip us)) : ∃ f fd, Fun K x x st f fd ∧ mg x = some (.ref f) ∧ Binds K fd ps [] :=
  ⟨f, _, fun_mk l c k, PySem.W.mg_of X G a, (fun_mk (st := st) l c k).binds hb⟩
theorem all_mk {l : PySem.W.OpenLaw} {w : World} {K : PySem.W.Frag} {h : Heap} {mg : Str → Option Value} {fa : Addr} {t_MAX_LINE : Tok} {t_MAX_FILE : Tok} {t_MAX_PART : Tok} {t_LETTERS : Tok} {c0 : Addr} {c1 : Addr} {c2 : Addr} {c3 : Addr} {c4 : Addr} {c5 : Addr} {c6 : Addr} {c7 : Addr} {c8 : Addr} {c9 : Addr} {c10 : Addr} {c11 : Addr} {c12 : Addr} {cw : Addr} {f0 : Addr} {od0 an0 : Option Addr} {sl0 : Array (Option Value)} {oc0 kV0 dc0 pm0 cd0 ct0 : Value} {f1 : Addr} {od1 an1 : Option Addr} {sl1 : Array (Option Value)} {oc1 kV1 dc1 pm1 cd1 ct1 : Value} {f2 : Addr} {od2 an2 : Option Addr} {sl2 : Array (Option Value)} {oc2 kV2 dc2 pm2 cd2 ct2 : Value} {f3 : Addr} {od3 an3 : Option Addr} {sl3 : Array (Option Value)} {oc3 kV3 dc3 pm3 cd3 ct3 : Value} {f4 : Addr} {od4 an4 : Option Addr} {sl4 : Array (Option Value)} {oc4 kV4 dc4 pm4 cd4 ct4 : Value} {f5 : Addr} {od5 an5 : Option Addr} {sl5 : Array (Option Value)} {oc5 kV5 dc5 pm5 cd5 ct5 : Value} {f6 : Addr} {od6 an6 : Option Addr} {sl6 : Array (Option Value)} {oc6 kV6 dc6 pm6 cd6 ct6 : Value} {f7 : Addr} {od7 an7 : Option Addr} {sl7 : Array (Option Value)} {oc7 kV7 dc7 pm7 cd7 ct7 : Value} {f8 : Addr} {od8 an8 : Option Addr} {sl8 : Array (Option Value)} {oc8 kV8 dc8 pm8 cd8 ct8 : Value} {f9 : Addr} {od9 an9 : Option Addr} {sl9 : Array (Option Value)} {oc9 kV9 dc9 pm9 cd9 ct9 : Value} {f10 : Addr} {od10 an10 : Option Addr} {sl10 : Array (Option Value)} {oc10 kV10 dc10 pm10 cd10 ct10 : Value} {f11 : Addr} {od11 an11 : Option Addr} {sl11 : Array (Option Value)} {oc11 kV11 dc11 pm11 cd11 ct11 : Value} {f12 : Addr} {od12 an12 : Option Addr} {sl12 : Array (Option Value)} {oc12 kV12 dc12 pm12 cd12 ct12 : Value} {f13 : Addr} {od13 an13 : Option Addr} {sl13 : Array (Option Value)} {oc13 kV13 dc13 pm13 cd13 ct13 : Value} {f14 : Addr} {od14 an14 : Option Addr} {sl14 : Array (Option Value)} {oc14 kV14 dc14 pm14 cd14 ct14 : Value} {f15 : Addr} {od15 an15 : Option Addr} {sl15 : Array (Option Value)} {oc15 kV15 dc15 pm15 cd15 ct15 : Value} {f16 : Addr} {od16 an16 : Option Addr} {sl16 : Array (Option Value)} {oc16 kV16 dc16 pm16 cd16 ct16 : Value} {f17 : Addr} {od17 an17 : Option Addr} {sl17 : Array (Option Value)} {oc17 kV17 dc17 pm17 cd17 ct17 : Value} {f18 : Addr} {od18 an18 : Option Addr} {sl18 : Array (Option Value)} {oc18 kV18 dc18 pm18 cd18 ct18 : Value} {f19 : Addr} {od19 an19 : Option Addr} {sl19 : Array (Option Value)} {oc19 kV19 dc19 pm19 cd19 ct19 : Value} {f20 : Addr} {od20 an20 : Option Addr} {sl20 : Array (Option Value)} {oc20 kV20 dc20 pm20 cd20 ct20 : Value} {f21 : Addr} {od21 an21 : Option Addr} {sl21 : Array (Option Value)} {oc21 kV21 dc21 pm21 cd21 ct21 : Value} {f22 : Addr} {od22 an22 : Option Addr} {sl22 : Array (Option Value)} {oc22 kV22 dc22 pm22 cd22 ct22 : Value} {f23 : Addr} {od23 an23 : Option Addr} {sl23 : Array (Option Value)} {oc23 kV23 dc23 pm23 cd23 ct23 : Value} {f24 : Addr} {od24 an24 : Option Addr} {sl24 : Array (Option Value)} {oc24 kV24 dc24 pm24 cd24 ct24 : Value} {f25 : Addr} {od25 an25 : Option Addr} {sl25 : Array (Option Value)} {oc25 kV25 dc25 pm25 cd25 ct25 : Value} {f26 : Addr} {od26 an26 : Option Addr} {sl26 : Array (Option Value)} {oc26 kV26 dc26 pm26 cd26 ct26 : Value} {f27 : Addr} {od27 an27 : Option Addr} {sl27 : Array (Option Value)} {oc27 kV27 dc27 pm27 cd27 ct27 : Value} {f28 : Addr} {od28 an28 : Option Addr} {sl28 : Array (Option Value)} {oc28 kV28 dc28 pm28 cd28 ct28 : Value} {f29 : Addr} {od29 an29 : Option Addr} {sl29 : Array (Option Value)} {oc29 kV29 dc29 pm29 cd29 ct29 : Value} {f30 : Addr} {od30 an30 : Option Addr} {sl30 : Array (Option Value)} {oc30 kV30 dc30 pm30 cd30 ct30 : Value} {f31 : Addr} {od31 an31 : Option Addr} {sl31 : Array (Option Value)} {oc31 kV31 dc31 pm31 cd31 ct31 : Value} {f32 : Addr} {od32 an32 : Option Addr} {sl32 : Array (Option Value)} {oc32 kV32 dc32 pm32 cd32 ct32 : Value} {f33 : Addr} {od33 an33 : Option Addr} {sl33 : Array (Option Value)} {oc33 kV33 dc33 pm33 cd33 ct33 : Value} {f34 : Addr} {od34 an34 : Option Addr} {sl34 : Array (Option Value)} {oc34 kV34 dc34 pm34 cd34 ct34 : Value} {f35 cc35 pt35 : Addr} {od35 an35 qd35 : Option Addr} {sl35 qs35 : Array (Option Value)} {qv35 : Array Value} {oc35 kV35 dc35 pm35 ct35 : Value} {f36 : Addr} {od36 an36 : Option Addr} {sl36 : Array (Option Value)} {oc36 kV36 dc36 pm36 cd36 ct36 : Value} (X : K.In h) (G : h.Ns mainGlobals mg) (hfa : mg "law" = some (.ref fa))
    (z_ValueError : PySem.W.nsIn K mainGlobals "ValueError" = some none)
    (z_abs : PySem.W.nsIn K mainGlobals "abs" = some none)
    (z_all : PySem.W.nsIn K mainGlobals "all" = some none)
    (z_bool : PySem.W.nsIn K mainGlobals "bool" = some none)
    (z_int : PySem.W.nsIn K mainGlobals "int" = some none)
    (z_isinstance : PySem.W.nsIn K mainGlobals "isinstance" = some none)
    (z_len : PySem.W.nsIn K mainGlobals "len" = some none)
    (z_list : PySem.W.nsIn K mainGlobals "list" = some none)
    (z_max : PySem.W.nsIn K mainGlobals "max" = some none)
    (z_min : PySem.W.nsIn K mainGlobals "min" = some none)
    (z_range : PySem.W.nsIn K mainGlobals "range" = some none)
    (z_sorted : PySem.W.nsIn K mainGlobals "sorted" = some none)
    (z_str : PySem.W.nsIn K mainGlobals "str" = some none)
    (z_tuple : PySem.W.nsIn K mainGlobals "tuple" = some none)
    (g_MAX_LINE : PySem.W.nsIn K mainGlobals "MAX_LINE" = some (some (.int 3 t_MAX_LINE)))
    (g_MAX_FILE : PySem.W.nsIn K mainGlobals "MAX_FILE" = some (some (.int 20 t_MAX_FILE)))
    (g_MAX_PART : PySem.W.nsIn K mainGlobals "MAX_PART" = some (some (.int 4 t_MAX_PART)))
    (g_LETTERS : PySem.W.nsIn K mainGlobals "LETTERS" = some (some (.str "abcdefghijklmnopqrstuvwxyz" t_LETTERS)))
    (ca0 : PySem.W.nsIn K mainGlobals "PatchError" = some (some (.ref c0)))
    (cx0 : PySem.W.excIn K c0 [.type "ValueError", .type "Exception", .type "BaseException", .type "object"] "ValueError.__new__" = true)
    (ck0 : PySem.W.keepIn K (.ref c0) = true)
    (cb0 : PySem.W.subIn K (.ref c0) (.type "BaseException") = some true)
    (cz0 : PySem.W.typeIn K (.ref c0) = some (.type "type"))
    (cg0 : PySem.W.findIn K (.ref c0) "__getattribute__" = some (some (.builtin "BaseException.__getattribute__")))
    (ch0 : PySem.W.findIn K (.ref c0) "__getattr__" = some none)
    (cy0 : PySem.W.hasDictIn K c0 = true)
    (cc0 : PySem.W.findIn K (.ref c0) "__class__" = some (some (.builtin "object.__class__")))
    (cm0 : PySem.W.mroIn K c0 (.type "object") = some true)
    (ca1 : PySem.W.nsIn K mainGlobals "InvalidFile" = some (some (.ref c1)))
    (cx1 : PySem.W.excIn K c1 [.type "ValueError", .type "Exception", .type "BaseException", .type "object"] "ValueError.__new__" = true)
    (ck1 : PySem.W.keepIn K (.ref c1) = true)
    (cb1 : PySem.W.subIn K (.ref c1) (.type "BaseException") = some true)
    (cz1 : PySem.W.typeIn K (.ref c1) = some (.type "type"))
    (cg1 : PySem.W.findIn K (.ref c1) "__getattribute__" = some (some (.builtin "BaseException.__getattribute__")))
    (ch1 : PySem.W.findIn K (.ref c1) "__getattr__" = some none)
    (cy1 : PySem.W.hasDictIn K c1 = true)
    (cc1 : PySem.W.findIn K (.ref c1) "__class__" = some (some (.builtin "object.__class__")))
    (cm1 : PySem.W.mroIn K c1 (.type "object") = some true)
    (ca2 : PySem.W.nsIn K mainGlobals "InvalidHunk" = some (some (.ref c2)))
    (cx2 : PySem.W.excIn K c2 [.type "ValueError", .type "Exception", .type "BaseException", .type "object"] "ValueError.__new__" = true)
    (ck2 : PySem.W.keepIn K (.ref c2) = true)
    (cb2 : PySem.W.subIn K (.ref c2) (.type "BaseException") = some true)
    (cz2 : PySem.W.typeIn K (.ref c2) = some (.type "type"))
    (cg2 : PySem.W.findIn K (.ref c2) "__getattribute__" = some (some (.builtin "BaseException.__getattribute__")))
    (ch2 : PySem.W.findIn K (.ref c2) "__getattr__" = some none)
    (cy2 : PySem.W.hasDictIn K c2 = true)
    (cc2 : PySem.W.findIn K (.ref c2) "__class__" = some (some (.builtin "object.__class__")))
    (cm2 : PySem.W.mroIn K c2 (.type "object") = some true)
    (ca3 : PySem.W.nsIn K mainGlobals "EmptyPattern" = some (some (.ref c3)))
    (cx3 : PySem.W.excIn K c3 [.type "ValueError", .type "Exception", .type "BaseException", .type "object"] "ValueError.__new__" = true)
    (ck3 : PySem.W.keepIn K (.ref c3) = true)
    (cb3 : PySem.W.subIn K (.ref c3) (.type "BaseException") = some true)
    (cz3 : PySem.W.typeIn K (.ref c3) = some (.type "type"))
    (cg3 : PySem.W.findIn K (.ref c3) "__getattribute__" = some (some (.builtin "BaseException.__getattribute__")))
    (ch3 : PySem.W.findIn K (.ref c3) "__getattr__" = some none)
    (cy3 : PySem.W.hasDictIn K c3 = true)
    (cc3 : PySem.W.findIn K (.ref c3) "__class__" = some (some (.builtin "object.__class__")))
    (cm3 : PySem.W.mroIn K c3 (.type "object") = some true)
    (ca4 : PySem.W.nsIn K mainGlobals "InvalidNumber" = some (some (.ref c4)))
    (cx4 : PySem.W.excIn K c4 [.type "ValueError", .type "Exception", .type "BaseException", .type "object"] "ValueError.__new__" = true)
    (ck4 : PySem.W.keepIn K (.ref c4) = true)
    (cb4 : PySem.W.subIn K (.ref c4) (.type "BaseException") = some true)
    (cz4 : PySem.W.typeIn K (.ref c4) = some (.type "type"))
    (cg4 : PySem.W.findIn K (.ref c4) "__getattribute__" = some (some (.builtin "BaseException.__getattribute__")))
    (ch4 : PySem.W.findIn K (.ref c4) "__getattr__" = some none)
    (cy4 : PySem.W.hasDictIn K c4 = true)
    (cc4 : PySem.W.findIn K (.ref c4) "__class__" = some (some (.builtin "object.__class__")))
    (cm4 : PySem.W.mroIn K c4 (.type "object") = some true)
    (ca5 : PySem.W.nsIn K mainGlobals "NoPlace" = some (some (.ref c5)))
    (cx5 : PySem.W.excIn K c5 [.type "ValueError", .type "Exception", .type "BaseException", .type "object"] "ValueError.__new__" = true)
    (ck5 : PySem.W.keepIn K (.ref c5) = true)
    (cb5 : PySem.W.subIn K (.ref c5) (.type "BaseException") = some true)
    (cz5 : PySem.W.typeIn K (.ref c5) = some (.type "type"))
    (cg5 : PySem.W.findIn K (.ref c5) "__getattribute__" = some (some (.builtin "BaseException.__getattribute__")))
    (ch5 : PySem.W.findIn K (.ref c5) "__getattr__" = some none)
    (cy5 : PySem.W.hasDictIn K c5 = true)
    (cc5 : PySem.W.findIn K (.ref c5) "__class__" = some (some (.builtin "object.__class__")))
    (cm5 : PySem.W.mroIn K c5 (.type "object") = some true)
    (ca6 : PySem.W.nsIn K mainGlobals "TooLarge" = some (some (.ref c6)))
    (cx6 : PySem.W.excIn K c6 [.type "ValueError", .type "Exception", .type "BaseException", .type "object"] "ValueError.__new__" = true)
    (ck6 : PySem.W.keepIn K (.ref c6) = true)
    (cb6 : PySem.W.subIn K (.ref c6) (.type "BaseException") = some true)
    (cz6 : PySem.W.typeIn K (.ref c6) = some (.type "type"))
    (cg6 : PySem.W.findIn K (.ref c6) "__getattribute__" = some (some (.builtin "BaseException.__getattribute__")))
    (ch6 : PySem.W.findIn K (.ref c6) "__getattr__" = some none)
    (cy6 : PySem.W.hasDictIn K c6 = true)
    (cc6 : PySem.W.findIn K (.ref c6) "__class__" = some (some (.builtin "object.__class__")))
    (cm6 : PySem.W.mroIn K c6 (.type "object") = some true)
    (ca7 : PySem.W.nsIn K mainGlobals "NotAtStart" = some (some (.ref c7)))
    (cx7 : PySem.W.excIn K c7 [.type "ValueError", .type "Exception", .type "BaseException", .type "object"] "ValueError.__new__" = true)
    (ck7 : PySem.W.keepIn K (.ref c7) = true)
    (cb7 : PySem.W.subIn K (.ref c7) (.type "BaseException") = some true)
    (cz7 : PySem.W.typeIn K (.ref c7) = some (.type "type"))
    (cg7 : PySem.W.findIn K (.ref c7) "__getattribute__" = some (some (.builtin "BaseException.__getattribute__")))
    (ch7 : PySem.W.findIn K (.ref c7) "__getattr__" = some none)
    (cy7 : PySem.W.hasDictIn K c7 = true)
    (cc7 : PySem.W.findIn K (.ref c7) "__class__" = some (some (.builtin "object.__class__")))
    (cm7 : PySem.W.mroIn K c7 (.type "object") = some true)
    (ca8 : PySem.W.nsIn K mainGlobals "InvalidBlocks" = some (some (.ref c8)))
    (cx8 : PySem.W.excIn K c8 [.type "ValueError", .type "Exception", .type "BaseException", .type "object"] "ValueError.__new__" = true)
    (ck8 : PySem.W.keepIn K (.ref c8) = true)
    (cb8 : PySem.W.subIn K (.ref c8) (.type "BaseException") = some true)
    (cz8 : PySem.W.typeIn K (.ref c8) = some (.type "type"))
    (cg8 : PySem.W.findIn K (.ref c8) "__getattribute__" = some (some (.builtin "BaseException.__getattribute__")))
    (ch8 : PySem.W.findIn K (.ref c8) "__getattr__" = some none)
    (cy8 : PySem.W.hasDictIn K c8 = true)
    (cc8 : PySem.W.findIn K (.ref c8) "__class__" = some (some (.builtin "object.__class__")))
    (cm8 : PySem.W.mroIn K c8 (.type "object") = some true)
    (ca9 : PySem.W.nsIn K mainGlobals "InvalidHunks" = some (some (.ref c9)))
    (cx9 : PySem.W.excIn K c9 [.type "ValueError", .type "Exception", .type "BaseException", .type "object"] "ValueError.__new__" = true)
    (ck9 : PySem.W.keepIn K (.ref c9) = true)
    (cb9 : PySem.W.subIn K (.ref c9) (.type "BaseException") = some true)
    (cz9 : PySem.W.typeIn K (.ref c9) = some (.type "type"))
    (cg9 : PySem.W.findIn K (.ref c9) "__getattribute__" = some (some (.builtin "BaseException.__getattribute__")))
    (ch9 : PySem.W.findIn K (.ref c9) "__getattr__" = some none)
    (cy9 : PySem.W.hasDictIn K c9 = true)
    (cc9 : PySem.W.findIn K (.ref c9) "__class__" = some (some (.builtin "object.__class__")))
    (cm9 : PySem.W.mroIn K c9 (.type "object") = some true)
    (ca10 : PySem.W.nsIn K mainGlobals "InvalidSeries" = some (some (.ref c10)))
    (cx10 : PySem.W.excIn K c10 [.type "ValueError", .type "Exception", .type "BaseException", .type "object"] "ValueError.__new__" = true)
    (ck10 : PySem.W.keepIn K (.ref c10) = true)
    (cb10 : PySem.W.subIn K (.ref c10) (.type "BaseException") = some true)
    (cz10 : PySem.W.typeIn K (.ref c10) = some (.type "type"))
    (cg10 : PySem.W.findIn K (.ref c10) "__getattribute__" = some (some (.builtin "BaseException.__getattribute__")))
    (ch10 : PySem.W.findIn K (.ref c10) "__getattr__" = some none)
    (cy10 : PySem.W.hasDictIn K c10 = true)
    (cc10 : PySem.W.findIn K (.ref c10) "__class__" = some (some (.builtin "object.__class__")))
    (cm10 : PySem.W.mroIn K c10 (.type "object") = some true)
    (ca11 : PySem.W.nsIn K mainGlobals "NothingToUndo" = some (some (.ref c11)))
    (cx11 : PySem.W.excIn K c11 [.type "ValueError", .type "Exception", .type "BaseException", .type "object"] "ValueError.__new__" = true)
    (ck11 : PySem.W.keepIn K (.ref c11) = true)
    (cb11 : PySem.W.subIn K (.ref c11) (.type "BaseException") = some true)
    (cz11 : PySem.W.typeIn K (.ref c11) = some (.type "type"))
    (cg11 : PySem.W.findIn K (.ref c11) "__getattribute__" = some (some (.builtin "BaseException.__getattribute__")))
    (ch11 : PySem.W.findIn K (.ref c11) "__getattr__" = some none)
    (cy11 : PySem.W.hasDictIn K c11 = true)
    (cc11 : PySem.W.findIn K (.ref c11) "__class__" = some (some (.builtin "object.__class__")))
    (cm11 : PySem.W.mroIn K c11 (.type "object") = some true)
    (ca12 : PySem.W.nsIn K mainGlobals "ParseError" = some (some (.ref c12)))
    (cx12 : PySem.W.excIn K c12 [.type "ValueError", .type "Exception", .type "BaseException", .type "object"] "ValueError.__new__" = true)
    (ck12 : PySem.W.keepIn K (.ref c12) = true)
    (cb12 : PySem.W.subIn K (.ref c12) (.type "BaseException") = some true)
    (cz12 : PySem.W.typeIn K (.ref c12) = some (.type "type"))
    (cg12 : PySem.W.findIn K (.ref c12) "__getattribute__" = some (some (.builtin "BaseException.__getattribute__")))
    (ch12 : PySem.W.findIn K (.ref c12) "__getattr__" = some none)
    (cy12 : PySem.W.hasDictIn K c12 = true)
    (cc12 : PySem.W.findIn K (.ref c12) "__class__" = some (some (.builtin "object.__class__")))
    (cm12 : PySem.W.mroIn K c12 (.type "object") = some true)
    (cs0 : PySem.W.specialIn K (.builtin "object.__class__") "__get__" = some (some (.builtin "getset_descriptor.__get__")))
    (cs1 : PySem.W.takesIn K (.builtin "object.__class__") = some true)
    (s0_0 : PySem.W.subIn K (.ref c0) (.ref c0) = some true)
    (s0_1 : PySem.W.subIn K (.ref c0) (.ref c1) = some false)
    (s0_2 : PySem.W.subIn K (.ref c0) (.ref c2) = some false)
    (s0_3 : PySem.W.subIn K (.ref c0) (.ref c3) = some false)
    (s0_4 : PySem.W.subIn K (.ref c0) (.ref c4) = some false)
    (s0_5 : PySem.W.subIn K (.ref c0) (.ref c5) = some false)
    (s0_6 : PySem.W.subIn K (.ref c0) (.ref c6) = some false)
    (s0_7 : PySem.W.subIn K (.ref c0) (.ref c7) = some false)
    (s0_8 : PySem.W.subIn K (.ref c0) (.ref c8) = some false)
    (s0_9 : PySem.W.subIn K (.ref c0) (.ref c9) = some false)
    (s0_10 : PySem.W.subIn K (.ref c0) (.ref c10) = some false)
    (s0_11 : PySem.W.subIn K (.ref c0) (.ref c11) = some false)
    (s0_12 : PySem.W.subIn K (.ref c0) (.ref c12) = some false)
    (s1_0 : PySem.W.subIn K (.ref c1) (.ref c0) = some true)
    (s1_1 : PySem.W.subIn K (.ref c1) (.ref c1) = some true)
    (s1_2 : PySem.W.subIn K (.ref c1) (.ref c2) = some false)
    (s1_3 : PySem.W.subIn K (.ref c1) (.ref c3) = some false)
    (s1_4 : PySem.W.subIn K (.ref c1) (.ref c4) = some false)
    (s1_5 : PySem.W.subIn K (.ref c1) (.ref c5) = some false)
    (s1_6 : PySem.W.subIn K (.ref c1) (.ref c6) = some false)
    (s1_7 : PySem.W.subIn K (.ref c1) (.ref c7) = some false)
    (s1_8 : PySem.W.subIn K (.ref c1) (.ref c8) = some false)
    (s1_9 : PySem.W.subIn K (.ref c1) (.ref c9) = some false)
    (s1_10 : PySem.W.subIn K (.ref c1) (.ref c10) = some false)
    (s1_11 : PySem.W.subIn K (.ref c1) (.ref c11) = some false)
    (s1_12 : PySem.W.subIn K (.ref c1) (.ref c12) = some false)
    (s2_0 : PySem.W.subIn K (.ref c2) (.ref c0) = some true)
    (s2_1 : PySem.W.subIn K (.ref c2) (.ref c1) = some false)
    (s2_2 : PySem.W.subIn K (.ref c2) (.ref c2) = some true)
    (s2_3 : PySem.W.subIn K (.ref c2) (.ref c3) = some false)
    (s2_4 : PySem.W.subIn K (.ref c2) (.ref c4) = some false)
    (s2_5 : PySem.W.subIn K (.ref c2) (.ref c5) = some false)
    (s2_6 : PySem.W.subIn K (.ref c2) (.ref c6) = some false)
    (s2_7 : PySem.W.subIn K (.ref c2) (.ref c7) = some false)
    (s2_8 : PySem.W.subIn K (.ref c2) (.ref c8) = some false)
    (s2_9 : PySem.W.subIn K (.ref c2) (.ref c9) = some false)
    (s2_10 : PySem.W.subIn K (.ref c2) (.ref c10) = some false)
    (s2_11 : PySem.W.subIn K (.ref c2) (.ref c11) = some false)
    (s2_12 : PySem.W.subIn K (.ref c2) (.ref c12) = some false)
    (s3_0 : PySem.W.subIn K (.ref c3) (.ref c0) = some true)
    (s3_1 : PySem.W.subIn K (.ref c3) (.ref c1) = some false)
    (s3_2 : PySem.W.subIn K (.ref c3) (.ref c2) = some false)
    (s3_3 : PySem.W.subIn K (.ref c3) (.ref c3) = some true)
    (s3_4 : PySem.W.subIn K (.ref c3) (.ref c4) = some false)
    (s3_5 : PySem.W.subIn K (.ref c3) (.ref c5) = some false)
    (s3_6 : PySem.W.subIn K (.ref c3) (.ref c6) = some false)
    (s3_7 : PySem.W.subIn K (.ref c3) (.ref c7) = some false)
    (s3_8 : PySem.W.subIn K (.ref c3) (.ref c8) = some false)
    (s3_9 : PySem.W.subIn K (.ref c3) (.ref c9) = some false)
    (s3_10 : PySem.W.subIn K (.ref c3) (.ref c10) = some false)
    (s3_11 : PySem.W.subIn K (.ref c3) (.ref c11) = some false)
    (s3_12 : PySem.W.subIn K (.ref c3) (.ref c12) = some false)
    (s4_0 : PySem.W.subIn K (.ref c4) (.ref c0) = some true)
    (s4_1 : PySem.W.subIn K (.ref c4) (.ref c1) = some false)
    (s4_2 : PySem.W.subIn K (.ref c4) (.ref c2) = some false)
    (s4_3 : PySem.W.subIn K (.ref c4) (.ref c3) = some false)
    (s4_4 : PySem.W.subIn K (.ref c4) (.ref c4) = some true)
    (s4_5 : PySem.W.subIn K (.ref c4) (.ref c5) = some false)
    (s4_6 : PySem.W.subIn K (.ref c4) (.ref c6) = some false)
    (s4_7 : PySem.W.subIn K (.ref c4) (.ref c7) = some false)
    (s4_8 : PySem.W.subIn K (.ref c4) (.ref c8) = some false)
    (s4_9 : PySem.W.subIn K (.ref c4) (.ref c9) = some false)
    (s4_10 : PySem.W.subIn K (.ref c4) (.ref c10) = some false)
    (s4_11 : PySem.W.subIn K (.ref c4) (.ref c11) = some false)
    (s4_12 : PySem.W.subIn K (.ref c4) (.ref c12) = some false)
    (s5_0 : PySem.W.subIn K (.ref c5) (.ref c0) = some true)
    (s5_1 : PySem.W.subIn K (.ref c5) (.ref c1) = some false)
    (s5_2 : PySem.W.subIn K (.ref c5) (.ref c2) = some false)
    (s5_3 : PySem.W.subIn K (.ref c5) (.ref c3) = some false)
    (s5_4 : PySem.W.subIn K (.ref c5) (.ref c4) = some false)
    (s5_5 : PySem.W.subIn K (.ref c5) (.ref c5) = some true)
    (s5_6 : PySem.W.subIn K (.ref c5) (.ref c6) = some false)
    (s5_7 : PySem.W.subIn K (.ref c5) (.ref c7) = some false)
    (s5_8 : PySem.W.subIn K (.ref c5) (.ref c8) = some false)
    (s5_9 : PySem.W.subIn K (.ref c5) (.ref c9) = some false)
    (s5_10 : PySem.W.subIn K (.ref c5) (.ref c10) = some false)
    (s5_11 : PySem.W.subIn K (.ref c5) (.ref c11) = some false)
    (s5_12 : PySem.W.subIn K (.ref c5) (.ref c12) = some false)
    (s6_0 : PySem.W.subIn K (.ref c6) (.ref c0) = some true)
    (s6_1 : PySem.W.subIn K (.ref c6) (.ref c1) = some false)
    (s6_2 : PySem.W.subIn K (.ref c6) (.ref c2) = some false)
    (s6_3 : PySem.W.subIn K (.ref c6) (.ref c3) = some false)
    (s6_4 : PySem.W.subIn K (.ref c6) (.ref c4) = some false)
    (s6_5 : PySem.W.subIn K (.ref c6) (.ref c5) = some false)
    (s6_6 : PySem.W.subIn K (.ref c6) (.ref c6) = some true)
    (s6_7 : PySem.W.subIn K (.ref c6) (.ref c7) = some false)
    (s6_8 : PySem.W.subIn K (.ref c6) (.ref c8) = some false)
    (s6_9 : PySem.W.subIn K (.ref c6) (.ref c9) = some false)
    (s6_10 : PySem.W.subIn K (.ref c6) (.ref c10) = some false)
    (s6_11 : PySem.W.subIn K (.ref c6) (.ref c11) = some false)
    (s6_12 : PySem.W.subIn K (.ref c6) (.ref c12) = some false)
    (s7_0 : PySem.W.subIn K (.ref c7) (.ref c0) = some true)
    (s7_1 : PySem.W.subIn K (.ref c7) (.ref c1) = some false)
    (s7_2 : PySem.W.subIn K (.ref c7) (.ref c2) = some false)
    (s7_3 : PySem.W.subIn K (.ref c7) (.ref c3) = some false)
    (s7_4 : PySem.W.subIn K (.ref c7) (.ref c4) = some false)
    (s7_5 : PySem.W.subIn K (.ref c7) (.ref c5) = some false)
    (s7_6 : PySem.W.subIn K (.ref c7) (.ref c6) = some false)
    (s7_7 : PySem.W.subIn K (.ref c7) (.ref c7) = some true)
    (s7_8 : PySem.W.subIn K (.ref c7) (.ref c8) = some false)
    (s7_9 : PySem.W.subIn K (.ref c7) (.ref c9) = some false)
    (s7_10 : PySem.W.subIn K (.ref c7) (.ref c10) = some false)
    (s7_11 : PySem.W.subIn K (.ref c7) (.ref c11) = some false)
    (s7_12 : PySem.W.subIn K (.ref c7) (.ref c12) = some false)
    (s8_0 : PySem.W.subIn K (.ref c8) (.ref c0) = some true)
    (s8_1 : PySem.W.subIn K (.ref c8) (.ref c1) = some false)
    (s8_2 : PySem.W.subIn K (.ref c8) (.ref c2) = some false)
    (s8_3 : PySem.W.subIn K (.ref c8) (.ref c3) = some false)
    (s8_4 : PySem.W.subIn K (.ref c8) (.ref c4) = some false)
    (s8_5 : PySem.W.subIn K (.ref c8) (.ref c5) = some false)
    (s8_6 : PySem.W.subIn K (.ref c8) (.ref c6) = some false)
    (s8_7 : PySem.W.subIn K (.ref c8) (.ref c7) = some false)
    (s8_8 : PySem.W.subIn K (.ref c8) (.ref c8) = some true)
    (s8_9 : PySem.W.subIn K (.ref c8) (.ref c9) = some false)
    (s8_10 : PySem.W.subIn K (.ref c8) (.ref c10) = some false)
    (s8_11 : PySem.W.subIn K (.ref c8) (.ref c11) = some false)
    (s8_12 : PySem.W.subIn K (.ref c8) (.ref c12) = some false)
    (s9_0 : PySem.W.subIn K (.ref c9) (.ref c0) = some true)
    (s9_1 : PySem.W.subIn K (.ref c9) (.ref c1) = some false)
    (s9_2 : PySem.W.subIn K (.ref c9) (.ref c2) = some false)
    (s9_3 : PySem.W.subIn K (.ref c9) (.ref c3) = some false)
    (s9_4 : PySem.W.subIn K (.ref c9) (.ref c4) = some false)
    (s9_5 : PySem.W.subIn K (.ref c9) (.ref c5) = some false)
    (s9_6 : PySem.W.subIn K (.ref c9) (.ref c6) = some false)
    (s9_7 : PySem.W.subIn K (.ref c9) (.ref c7) = some false)
    (s9_8 : PySem.W.subIn K (.ref c9) (.ref c8) = some false)
    (s9_9 : PySem.W.subIn K (.ref c9) (.ref c9) = some true)
    (s9_10 : PySem.W.subIn K (.ref c9) (.ref c10) = some false)
    (s9_11 : PySem.W.subIn K (.ref c9) (.ref c11) = some false)
    (s9_12 : PySem.W.subIn K (.ref c9) (.ref c12) = some false)
    (s10_0 : PySem.W.subIn K (.ref c10) (.ref c0) = some true)
    (s10_1 : PySem.W.subIn K (.ref c10) (.ref c1) = some false)
    (s10_2 : PySem.W.subIn K (.ref c10) (.ref c2) = some false)
    (s10_3 : PySem.W.subIn K (.ref c10) (.ref c3) = some false)
    (s10_4 : PySem.W.subIn K (.ref c10) (.ref c4) = some false)
    (s10_5 : PySem.W.subIn K (.ref c10) (.ref c5) = some false)
    (s10_6 : PySem.W.subIn K (.ref c10) (.ref c6) = some false)
    (s10_7 : PySem.W.subIn K (.ref c10) (.ref c7) = some false)
    (s10_8 : PySem.W.subIn K (.ref c10) (.ref c8) = some false)
    (s10_9 : PySem.W.subIn K (.ref c10) (.ref c9) = some false)
    (s10_10 : PySem.W.subIn K (.ref c10) (.ref c10) = some true)
    (s10_11 : PySem.W.subIn K (.ref c10) (.ref c11) = some false)
    (s10_12 : PySem.W.subIn K (.ref c10) (.ref c12) = some false)
    (s11_0 : PySem.W.subIn K (.ref c11) (.ref c0) = some true)
    (s11_1 : PySem.W.subIn K (.ref c11) (.ref c1) = some false)
    (s11_2 : PySem.W.subIn K (.ref c11) (.ref c2) = some false)
    (s11_3 : PySem.W.subIn K (.ref c11) (.ref c3) = some false)
    (s11_4 : PySem.W.subIn K (.ref c11) (.ref c4) = some false)
    (s11_5 : PySem.W.subIn K (.ref c11) (.ref c5) = some false)
    (s11_6 : PySem.W.subIn K (.ref c11) (.ref c6) = some false)
    (s11_7 : PySem.W.subIn K (.ref c11) (.ref c7) = some false)
    (s11_8 : PySem.W.subIn K (.ref c11) (.ref c8) = some false)
    (s11_9 : PySem.W.subIn K (.ref c11) (.ref c9) = some false)
    (s11_10 : PySem.W.subIn K (.ref c11) (.ref c10) = some false)
    (s11_11 : PySem.W.subIn K (.ref c11) (.ref c11) = some true)
    (s11_12 : PySem.W.subIn K (.ref c11) (.ref c12) = some false)
    (s12_0 : PySem.W.subIn K (.ref c12) (.ref c0) = some true)
    (s12_1 : PySem.W.subIn K (.ref c12) (.ref c1) = some false)
    (s12_2 : PySem.W.subIn K (.ref c12) (.ref c2) = some false)
    (s12_3 : PySem.W.subIn K (.ref c12) (.ref c3) = some false)
    (s12_4 : PySem.W.subIn K (.ref c12) (.ref c4) = some false)
    (s12_5 : PySem.W.subIn K (.ref c12) (.ref c5) = some false)
    (s12_6 : PySem.W.subIn K (.ref c12) (.ref c6) = some false)
    (s12_7 : PySem.W.subIn K (.ref c12) (.ref c7) = some false)
    (s12_8 : PySem.W.subIn K (.ref c12) (.ref c8) = some false)
    (s12_9 : PySem.W.subIn K (.ref c12) (.ref c9) = some false)
    (s12_10 : PySem.W.subIn K (.ref c12) (.ref c10) = some false)
    (s12_11 : PySem.W.subIn K (.ref c12) (.ref c11) = some false)
    (s12_12 : PySem.W.subIn K (.ref c12) (.ref c12) = some true)
    (cv0 : PySem.W.subIn K (.ref c0) (.type "ValueError") = some true)
    (cv1 : PySem.W.subIn K (.ref c1) (.type "ValueError") = some true)
    (cv2 : PySem.W.subIn K (.ref c2) (.type "ValueError") = some true)
    (cv3 : PySem.W.subIn K (.ref c3) (.type "ValueError") = some true)
    (cv4 : PySem.W.subIn K (.ref c4) (.type "ValueError") = some true)
    (cv5 : PySem.W.subIn K (.ref c5) (.type "ValueError") = some true)
    (cv6 : PySem.W.subIn K (.ref c6) (.type "ValueError") = some true)
    (cv7 : PySem.W.subIn K (.ref c7) (.type "ValueError") = some true)
    (cv8 : PySem.W.subIn K (.ref c8) (.type "ValueError") = some true)
    (cv9 : PySem.W.subIn K (.ref c9) (.type "ValueError") = some true)
    (cv10 : PySem.W.subIn K (.ref c10) (.type "ValueError") = some true)
    (cv11 : PySem.W.subIn K (.ref c11) (.type "ValueError") = some true)
    (cv12 : PySem.W.subIn K (.ref c12) (.type "ValueError") = some true)
    (wa0 : PySem.W.nsIn K mainGlobals "WorkFile" = some (some (.ref cw)))
    (wa1 : PySem.W.makesIn K cw = true)
    (wa2 : PySem.W.keepIn K (.ref cw) = true)
    (wa3 : PySem.W.plainGet K cw Str.empty = true)
    (wa4 : PySem.W.hasDictIn K cw = true)
    (wa5 : PySem.W.plainOver K cw = true)
    (wa6 : PySem.W.findIn K (.ref cw) "__setattr__" = some (some (.builtin "object.__setattr__")))
    (wb0 : PySem.W.findIn K (.ref cw) "state" = some none)
    (wb1 : PySem.W.findIn K (.ref cw) "earlier" = some none)
    (wb2 : PySem.W.findIn K (.ref cw) "later" = some none)
    (wd0 : PySem.W.findIn K (.ref cw) "__class__" = some (some (.builtin "object.__class__")))
    (wd1 : PySem.W.mroIn K cw (.type "object") = some true)
    (wd2 : PySem.W.kitOne K (.type "tuple") (.ref cw) = some false)
    (wd3 : PySem.W.findIn K (.ref cw) "__ne__" = some (some (.builtin "object.__ne__")))
    (wd4 : PySem.W.subIn K (.type "tuple") (.ref cw) = some false)
    (a0 : PySem.W.nsIn K mainGlobals "is_int" = some (some (.ref f0)))
    (l0 : K.lookup f0 = some ⟨oc0, od0, .func (PySem.W.fnOf "is_int" "is_int" (defArgs s_is_int) (defBody s_is_int) (defScope s_is_int) .none kV0 dc0 pm0 an0 cd0 ct0), sl0⟩)
    (o0 : PySem.W.codeIn K cd0 "is_int" = true)
    (p0 : PySem.W.keepIn K (.ref f0) = true)
    (a1 : PySem.W.nsIn K mainGlobals "is_line" = some (some (.ref f1)))
    (l1 : K.lookup f1 = some ⟨oc1, od1, .func (PySem.W.fnOf "is_line" "is_line" (defArgs s_is_line) (defBody s_is_line) (defScope s_is_line) .none kV1 dc1 pm1 an1 cd1 ct1), sl1⟩)
    (o1 : PySem.W.codeIn K cd1 "is_line" = true)
    (p1 : PySem.W.keepIn K (.ref f1) = true)
    (a2 : PySem.W.nsIn K mainGlobals "are_lines" = some (some (.ref f2)))
    (l2 : K.lookup f2 = some ⟨oc2, od2, .func (PySem.W.fnOf "are_lines" "are_lines" (defArgs s_are_lines) (defBody s_are_lines) (defScope s_are_lines) .none kV2 dc2 pm2 an2 cd2 ct2), sl2⟩)
    (o2 : PySem.W.codeIn K cd2 "are_lines" = true)
    (p2 : PySem.W.keepIn K (.ref f2) = true)
    (a3 : PySem.W.nsIn K mainGlobals "is_file" = some (some (.ref f3)))
    (l3 : K.lookup f3 = some ⟨oc3, od3, .func (PySem.W.fnOf "is_file" "is_file" (defArgs s_is_file) (defBody s_is_file) (defScope s_is_file) .none kV3 dc3 pm3 an3 cd3 ct3), sl3⟩)
    (o3 : PySem.W.codeIn K cd3 "is_file" = true)
    (p3 : PySem.W.keepIn K (.ref f3) = true)
    (a4 : PySem.W.nsIn K mainGlobals "is_hunk" = some (some (.ref f4)))
    (l4 : K.lookup f4 = some ⟨oc4, od4, .func (PySem.W.fnOf "is_hunk" "is_hunk" (defArgs s_is_hunk) (defBody s_is_hunk) (defScope s_is_hunk) .none kV4 dc4 pm4 an4 cd4 ct4), sl4⟩)
    (o4 : PySem.W.codeIn K cd4 "is_hunk" = true)
    (p4 : PySem.W.keepIn K (.ref f4) = true)
    (a5 : PySem.W.nsIn K mainGlobals "check_file" = some (some (.ref f5)))
    (l5 : K.lookup f5 = some ⟨oc5, od5, .func (PySem.W.fnOf "check_file" "check_file" (defArgs s_check_file) (defBody s_check_file) (defScope s_check_file) .none kV5 dc5 pm5 an5 cd5 ct5), sl5⟩)
    (o5 : PySem.W.codeIn K cd5 "check_file" = true)
    (p5 : PySem.W.keepIn K (.ref f5) = true)
    (a6 : PySem.W.nsIn K mainGlobals "check_hunk" = some (some (.ref f6)))
    (l6 : K.lookup f6 = some ⟨oc6, od6, .func (PySem.W.fnOf "check_hunk" "check_hunk" (defArgs s_check_hunk) (defBody s_check_hunk) (defScope s_check_hunk) .none kV6 dc6 pm6 an6 cd6 ct6), sl6⟩)
    (o6 : PySem.W.codeIn K cd6 "check_hunk" = true)
    (p6 : PySem.W.keepIn K (.ref f6) = true)
    (a7 : PySem.W.nsIn K mainGlobals "pattern_of" = some (some (.ref f7)))
    (l7 : K.lookup f7 = some ⟨oc7, od7, .func (PySem.W.fnOf "pattern_of" "pattern_of" (defArgs s_pattern_of) (defBody s_pattern_of) (defScope s_pattern_of) .none kV7 dc7 pm7 an7 cd7 ct7), sl7⟩)
    (o7 : PySem.W.codeIn K cd7 "pattern_of" = true)
    (p7 : PySem.W.keepIn K (.ref f7) = true)
    (a8 : PySem.W.nsIn K mainGlobals "outcome_of" = some (some (.ref f8)))
    (l8 : K.lookup f8 = some ⟨oc8, od8, .func (PySem.W.fnOf "outcome_of" "outcome_of" (defArgs s_outcome_of) (defBody s_outcome_of) (defScope s_outcome_of) .none kV8 dc8 pm8 an8 cd8 ct8), sl8⟩)
    (o8 : PySem.W.codeIn K cd8 "outcome_of" = true)
    (p8 : PySem.W.keepIn K (.ref f8) = true)
    (a9 : PySem.W.nsIn K mainGlobals "find_places" = some (some (.ref f9)))
    (l9 : K.lookup f9 = some ⟨oc9, od9, .func (PySem.W.fnOf "find_places" "find_places" (defArgs s_find_places) (defBody s_find_places) (defScope s_find_places) .none kV9 dc9 pm9 an9 cd9 ct9), sl9⟩)
    (o9 : PySem.W.codeIn K cd9 "find_places" = true)
    (p9 : PySem.W.keepIn K (.ref f9) = true)
    (a10 : PySem.W.nsIn K mainGlobals "find_nearest" = some (some (.ref f10)))
    (l10 : K.lookup f10 = some ⟨oc10, od10, .func (PySem.W.fnOf "find_nearest" "find_nearest" (defArgs s_find_nearest) (defBody s_find_nearest) (defScope s_find_nearest) .none kV10 dc10 pm10 an10 cd10 ct10), sl10⟩)
    (o10 : PySem.W.codeIn K cd10 "find_nearest" = true)
    (p10 : PySem.W.keepIn K (.ref f10) = true)
    (a11 : PySem.W.nsIn K mainGlobals "apply_there" = some (some (.ref f11)))
    (l11 : K.lookup f11 = some ⟨oc11, od11, .func (PySem.W.fnOf "apply_there" "apply_there" (defArgs s_apply_there) (defBody s_apply_there) (defScope s_apply_there) .none kV11 dc11 pm11 an11 cd11 ct11), sl11⟩)
    (o11 : PySem.W.codeIn K cd11 "apply_there" = true)
    (p11 : PySem.W.keepIn K (.ref f11) = true)
    (a12 : PySem.W.nsIn K mainGlobals "after_hunk" = some (some (.ref f12)))
    (l12 : K.lookup f12 = some ⟨oc12, od12, .func (PySem.W.fnOf "after_hunk" "after_hunk" (defArgs s_after_hunk) (defBody s_after_hunk) (defScope s_after_hunk) .none kV12 dc12 pm12 an12 cd12 ct12), sl12⟩)
    (o12 : PySem.W.codeIn K cd12 "after_hunk" = true)
    (p12 : PySem.W.keepIn K (.ref f12) = true)
    (a13 : PySem.W.findIn K (.ref cw) "__init__" = some (some (.ref f13)))
    (l13 : K.lookup f13 = some ⟨oc13, od13, .func (PySem.W.fnOf "__init__" "WorkFile.__init__" (defArgs s_W___init__) (defBody s_W___init__) (defScope s_W___init__) .none kV13 dc13 pm13 an13 cd13 ct13), sl13⟩)
    (o13 : PySem.W.codeIn K cd13 "WorkFile.__init__" = true)
    (p13 : PySem.W.keepIn K (.ref f13) = true)
    (q13 : PySem.W.isFn K (.ref f13) = true)
    (a14 : PySem.W.findIn K (.ref cw) "lines" = some (some (.ref f14)))
    (l14 : K.lookup f14 = some ⟨oc14, od14, .func (PySem.W.fnOf "lines" "WorkFile.lines" (defArgs s_W_lines) (defBody s_W_lines) (defScope s_W_lines) .none kV14 dc14 pm14 an14 cd14 ct14), sl14⟩)
    (o14 : PySem.W.codeIn K cd14 "WorkFile.lines" = true)
    (p14 : PySem.W.keepIn K (.ref f14) = true)
    (q14 : PySem.W.isFn K (.ref f14) = true)
    (a15 : PySem.W.findIn K (.ref cw) "rejected" = some (some (.ref f15)))
    (l15 : K.lookup f15 = some ⟨oc15, od15, .func (PySem.W.fnOf "rejected" "WorkFile.rejected" (defArgs s_W_rejected) (defBody s_W_rejected) (defScope s_W_rejected) .none kV15 dc15 pm15 an15 cd15 ct15), sl15⟩)
    (o15 : PySem.W.codeIn K cd15 "WorkFile.rejected" = true)
    (p15 : PySem.W.keepIn K (.ref f15) = true)
    (q15 : PySem.W.isFn K (.ref f15) = true)
    (a16 : PySem.W.findIn K (.ref cw) "change" = some (some (.ref f16)))
    (l16 : K.lookup f16 = some ⟨oc16, od16, .func (PySem.W.fnOf "change" "WorkFile.change" (defArgs s_W_change) (defBody s_W_change) (defScope s_W_change) .none kV16 dc16 pm16 an16 cd16 ct16), sl16⟩)
    (o16 : PySem.W.codeIn K cd16 "WorkFile.change" = true)
    (p16 : PySem.W.keepIn K (.ref f16) = true)
    (q16 : PySem.W.isFn K (.ref f16) = true)
    (a17 : PySem.W.findIn K (.ref cw) "patch" = some (some (.ref f17)))
    (l17 : K.lookup f17 = some ⟨oc17, od17, .func (PySem.W.fnOf "patch" "WorkFile.patch" (defArgs s_W_patch) (defBody s_W_patch) (defScope s_W_patch) .none kV17 dc17 pm17 an17 cd17 ct17), sl17⟩)
    (o17 : PySem.W.codeIn K cd17 "WorkFile.patch" = true)
    (p17 : PySem.W.keepIn K (.ref f17) = true)
    (q17 : PySem.W.isFn K (.ref f17) = true)
    (a18 : PySem.W.findIn K (.ref cw) "retry" = some (some (.ref f18)))
    (l18 : K.lookup f18 = some ⟨oc18, od18, .func (PySem.W.fnOf "retry" "WorkFile.retry" (defArgs s_W_retry) (defBody s_W_retry) (defScope s_W_retry) .none kV18 dc18 pm18 an18 cd18 ct18), sl18⟩)
    (o18 : PySem.W.codeIn K cd18 "WorkFile.retry" = true)
    (p18 : PySem.W.keepIn K (.ref f18) = true)
    (q18 : PySem.W.isFn K (.ref f18) = true)
    (a19 : PySem.W.findIn K (.ref cw) "undo" = some (some (.ref f19)))
    (l19 : K.lookup f19 = some ⟨oc19, od19, .func (PySem.W.fnOf "undo" "WorkFile.undo" (defArgs s_W_undo) (defBody s_W_undo) (defScope s_W_undo) .none kV19 dc19 pm19 an19 cd19 ct19), sl19⟩)
    (o19 : PySem.W.codeIn K cd19 "WorkFile.undo" = true)
    (p19 : PySem.W.keepIn K (.ref f19) = true)
    (q19 : PySem.W.isFn K (.ref f19) = true)
    (a20 : PySem.W.findIn K (.ref cw) "redo" = some (some (.ref f20)))
    (l20 : K.lookup f20 = some ⟨oc20, od20, .func (PySem.W.fnOf "redo" "WorkFile.redo" (defArgs s_W_redo) (defBody s_W_redo) (defScope s_W_redo) .none kV20 dc20 pm20 an20 cd20 ct20), sl20⟩)
    (o20 : PySem.W.codeIn K cd20 "WorkFile.redo" = true)
    (p20 : PySem.W.keepIn K (.ref f20) = true)
    (q20 : PySem.W.isFn K (.ref f20) = true)
    (a21 : PySem.W.findIn K (.ref cw) "copy" = some (some (.ref f21)))
    (l21 : K.lookup f21 = some ⟨oc21, od21, .func (PySem.W.fnOf "copy" "WorkFile.copy" (defArgs s_W_copy) (defBody s_W_copy) (defScope s_W_copy) .none kV21 dc21 pm21 an21 cd21 ct21), sl21⟩)
    (o21 : PySem.W.codeIn K cd21 "WorkFile.copy" = true)
    (p21 : PySem.W.keepIn K (.ref f21) = true)
    (q21 : PySem.W.isFn K (.ref f21) = true)
    (a22 : PySem.W.findIn K (.ref cw) "__eq__" = some (some (.ref f22)))
    (l22 : K.lookup f22 = some ⟨oc22, od22, .func (PySem.W.fnOf "__eq__" "WorkFile.__eq__" (defArgs s_W___eq__) (defBody s_W___eq__) (defScope s_W___eq__) .none kV22 dc22 pm22 an22 cd22 ct22), sl22⟩)
    (o22 : PySem.W.codeIn K cd22 "WorkFile.__eq__" = true)
    (p22 : PySem.W.keepIn K (.ref f22) = true)
    (q22 : PySem.W.isFn K (.ref f22) = true)
    (a23 : PySem.W.findIn K (.ref cw) "__len__" = some (some (.ref f23)))
    (l23 : K.lookup f23 = some ⟨oc23, od23, .func (PySem.W.fnOf "__len__" "WorkFile.__len__" (defArgs s_W___len__) (defBody s_W___len__) (defScope s_W___len__) .none kV23 dc23 pm23 an23 cd23 ct23), sl23⟩)
    (o23 : PySem.W.codeIn K cd23 "WorkFile.__len__" = true)
    (p23 : PySem.W.keepIn K (.ref f23) = true)
    (q23 : PySem.W.isFn K (.ref f23) = true)
    (a24 : PySem.W.nsIn K mainGlobals "_law_body" = some (some (.ref f24)))
    (l24 : K.lookup f24 = some ⟨oc24, od24, .func (PySem.W.fnOf "_law_body" "_law_body" (defArgs s__law_body) (defBody s__law_body) (defScope s__law_body) .none kV24 dc24 pm24 an24 cd24 ct24), sl24⟩)
    (o24 : PySem.W.codeIn K cd24 "_law_body" = true)
    (p24 : PySem.W.keepIn K (.ref f24) = true)
    (a25 : PySem.W.nsIn K mainGlobals "_law_spots" = some (some (.ref f25)))
    (l25 : K.lookup f25 = some ⟨oc25, od25, .func (PySem.W.fnOf "_law_spots" "_law_spots" (defArgs s__law_spots) (defBody s__law_spots) (defScope s__law_spots) .none kV25 dc25 pm25 an25 cd25 ct25), sl25⟩)
    (o25 : PySem.W.codeIn K cd25 "_law_spots" = true)
    (p25 : PySem.W.keepIn K (.ref f25) = true)
    (a26 : PySem.W.nsIn K mainGlobals "_law_near" = some (some (.ref f26)))
    (l26 : K.lookup f26 = some ⟨oc26, od26, .func (PySem.W.fnOf "_law_near" "_law_near" (defArgs s__law_near) (defBody s__law_near) (defScope s__law_near) .none kV26 dc26 pm26 an26 cd26 ct26), sl26⟩)
    (o26 : PySem.W.codeIn K cd26 "_law_near" = true)
    (p26 : PySem.W.keepIn K (.ref f26) = true)
    (a27 : PySem.W.nsIn K mainGlobals "_law_put" = some (some (.ref f27)))
    (l27 : K.lookup f27 = some ⟨oc27, od27, .func (PySem.W.fnOf "_law_put" "_law_put" (defArgs s__law_put) (defBody s__law_put) (defScope s__law_put) .none kV27 dc27 pm27 an27 cd27 ct27), sl27⟩)
    (o27 : PySem.W.codeIn K cd27 "_law_put" = true)
    (p27 : PySem.W.keepIn K (.ref f27) = true)
    (a28 : PySem.W.nsIn K mainGlobals "_law_pick" = some (some (.ref f28)))
    (l28 : K.lookup f28 = some ⟨oc28, od28, .func (PySem.W.fnOf "_law_pick" "_law_pick" (defArgs s__law_pick) (defBody s__law_pick) (defScope s__law_pick) .none kV28 dc28 pm28 an28 cd28 ct28), sl28⟩)
    (o28 : PySem.W.codeIn K cd28 "_law_pick" = true)
    (p28 : PySem.W.keepIn K (.ref f28) = true)
    (a29 : PySem.W.nsIn K mainGlobals "_law_lines" = some (some (.ref f29)))
    (l29 : K.lookup f29 = some ⟨oc29, od29, .func (PySem.W.fnOf "_law_lines" "_law_lines" (defArgs s__law_lines) (defBody s__law_lines) (defScope s__law_lines) .none kV29 dc29 pm29 an29 cd29 ct29), sl29⟩)
    (o29 : PySem.W.codeIn K cd29 "_law_lines" = true)
    (p29 : PySem.W.keepIn K (.ref f29) = true)
    (a30 : PySem.W.nsIn K mainGlobals "_law_hunk" = some (some (.ref f30)))
    (l30 : K.lookup f30 = some ⟨oc30, od30, .func (PySem.W.fnOf "_law_hunk" "_law_hunk" (defArgs s__law_hunk) (defBody s__law_hunk) (defScope s__law_hunk) .none kV30 dc30 pm30 an30 cd30 ct30), sl30⟩)
    (o30 : PySem.W.codeIn K cd30 "_law_hunk" = true)
    (p30 : PySem.W.keepIn K (.ref f30) = true)
    (a31 : PySem.W.nsIn K mainGlobals "_law_class" = some (some (.ref f31)))
    (l31 : K.lookup f31 = some ⟨oc31, od31, .func (PySem.W.fnOf "_law_class" "_law_class" (defArgs s__law_class) (defBody s__law_class) (defScope s__law_class) .none kV31 dc31 pm31 an31 cd31 ct31), sl31⟩)
    (o31 : PySem.W.codeIn K cd31 "_law_class" = true)
    (p31 : PySem.W.keepIn K (.ref f31) = true)
    (a32 : PySem.W.nsIn K mainGlobals "_law_result" = some (some (.ref f32)))
    (l32 : K.lookup f32 = some ⟨oc32, od32, .func (PySem.W.fnOf "_law_result" "_law_result" (defArgs s__law_result) (defBody s__law_result) (defScope s__law_result) .none kV32 dc32 pm32 an32 cd32 ct32), sl32⟩)
    (o32 : PySem.W.codeIn K cd32 "_law_result" = true)
    (p32 : PySem.W.keepIn K (.ref f32) = true)
    (a33 : PySem.W.nsIn K mainGlobals "_law_tried" = some (some (.ref f33)))
    (l33 : K.lookup f33 = some ⟨oc33, od33, .func (PySem.W.fnOf "_law_tried" "_law_tried" (defArgs s__law_tried) (defBody s__law_tried) (defScope s__law_tried) .none kV33 dc33 pm33 an33 cd33 ct33), sl33⟩)
    (o33 : PySem.W.codeIn K cd33 "_law_tried" = true)
    (p33 : PySem.W.keepIn K (.ref f33) = true)
    (a34 : PySem.W.nsIn K mainGlobals "_law_chosen" = some (some (.ref f34)))
    (l34 : K.lookup f34 = some ⟨oc34, od34, .func (PySem.W.fnOf "_law_chosen" "_law_chosen" (defArgs s__law_chosen) (defBody s__law_chosen) (defScope s__law_chosen) .none kV34 dc34 pm34 an34 cd34 ct34), sl34⟩)
    (o34 : PySem.W.codeIn K cd34 "_law_chosen" = true)
    (p34 : PySem.W.keepIn K (.ref f34) = true)
    (a35 : PySem.W.nsIn K mainGlobals "_law_calls" = some (some (.ref f35)))
    (l35 : K.lookup f35 = some ⟨oc35, od35, .func (PySem.W.fnOf "_law_calls" "_law_calls" (defArgs s__law_calls) (defBody s__law_calls) (defScope s__law_calls) .none kV35 dc35 pm35 an35 (.ref cc35) ct35), sl35⟩)
    (o35 : PySem.W.codeIn K (.ref cc35) "_law_calls" = true)
    (p35 : PySem.W.keepIn K (.ref f35) = true)
    (q35 : K.lookup cc35 = some ⟨.type "code", qd35, .fields qv35, qs35⟩)
    (r35 : qv35[11]? = some (.ref pt35))
    (h35 : PySem.W.codeHdIn K cc35 pt35 = true)
    (u35 : K.lookup pt35 = none)
    (v35 : h.get? pt35 = some { cls := .none, data := .fields #[] })
    (a36 : PySem.W.nsIn K mainGlobals "law" = some (some (.ref f36)))
    (l36 : K.lookup f36 = some ⟨oc36, od36, .func (PySem.W.fnOf "law" "law" (defArgs s_law) (defBody s_law) (defScope s_law) .none kV36 dc36 pm36 an36 cd36 ct36), sl36⟩)
    (o36 : PySem.W.codeIn K cd36 "law" = true)
    (p36 : PySem.W.keepIn K (.ref f36) = true)
    (w35 : ([(pt35, (("_law_calls" : Str) ++ (".<locals>." : Str)) ++ ("<lambda>" : Str))] : List (Addr × Str)).lookup pt35 = some ((("_law_calls" : Str) ++ (".<locals>." : Str)) ++ ("<lambda>" : Str))) :
    LamX.LawAtS l w K (L2.CX l.prog w) 11 63 "script" mg fa h := by
  have e := hfa.symm.trans (PySem.W.mg_of X G a36)
  cases e
  letI : TabN := { nm := fun P => ([(pt35, (("_law_calls" : Str) ++ (".<locals>." : Str)) ++ ("<lambda>" : Str))] : List (Addr × Str)).lookup P, wc := some cw }
  refine ⟨PySem.W.fnOf "law" "law" (defArgs s_law) (defBody s_law) (defScope s_law) .none kV36 dc36 pm36 an36 cd36 ct36, [(cc35, pt35)], spLaw K, (List.forall_mem_cons.mpr ⟨v35, (fun _ h => nomatch h)⟩), (List.forall_mem_cons.mpr ⟨u35, (fun _ h => nomatch h)⟩), (List.forall_mem_cons.mpr ⟨(PySem.W.codeHd_of_K X h35), (fun _ h => nomatch h)⟩), fun s v => .of_eq rfl, fun H a ns hl _ hH hS => law_sp (qs := [(pt35, (("_law_calls" : Str) ++ (".<locals>." : Str)) ++ ("<lambda>" : Str))]) (fun _ => rfl) rfl hl hH hS, fun base X2 G2 TB => ?_⟩
  have T : Tx K mg (fun k => [c0, c1, c2, c3, c4, c5, c6, c7, c8, c9, c10, c11, c12].getD k 0) base := {
    n_ValueError := PySem.W.mg_none_of X G z_ValueError
    n_abs := PySem.W.mg_none_of X G z_abs
    n_all := PySem.W.mg_none_of X G z_all
    n_bool := PySem.W.mg_none_of X G z_bool
    n_int := PySem.W.mg_none_of X G z_int
    n_isinstance := PySem.W.mg_none_of X G z_isinstance
    n_len := PySem.W.mg_none_of X G z_len
    n_list := PySem.W.mg_none_of X G z_list
    n_max := PySem.W.mg_none_of X G z_max
    n_min := PySem.W.mg_none_of X G z_min
    n_range := PySem.W.mg_none_of X G z_range
    n_sorted := PySem.W.mg_none_of X G z_sorted
    n_str := PySem.W.mg_none_of X G z_str
    n_tuple := PySem.W.mg_none_of X G z_tuple
    g_MAX_LINE := ⟨_, PySem.W.mg_of X G g_MAX_LINE⟩
    g_MAX_FILE := ⟨_, PySem.W.mg_of X G g_MAX_FILE⟩
    g_MAX_PART := ⟨_, PySem.W.mg_of X G g_MAX_PART⟩
    g_LETTERS := ⟨_, PySem.W.mg_of X G g_LETTERS⟩
    x_PatchError := ⟨PySem.W.mg_of X G ca0, cx0, ck0, cb0, cz0⟩
    x_InvalidFile := ⟨PySem.W.mg_of X G ca1, cx1, ck1, cb1, cz1⟩
    x_InvalidHunk := ⟨PySem.W.mg_of X G ca2, cx2, ck2, cb2, cz2⟩
    x_EmptyPattern := ⟨PySem.W.mg_of X G ca3, cx3, ck3, cb3, cz3⟩
    x_InvalidNumber := ⟨PySem.W.mg_of X G ca4, cx4, ck4, cb4, cz4⟩
    x_NoPlace := ⟨PySem.W.mg_of X G ca5, cx5, ck5, cb5, cz5⟩
    x_TooLarge := ⟨PySem.W.mg_of X G ca6, cx6, ck6, cb6, cz6⟩
    x_NotAtStart := ⟨PySem.W.mg_of X G ca7, cx7, ck7, cb7, cz7⟩
    x_InvalidBlocks := ⟨PySem.W.mg_of X G ca8, cx8, ck8, cb8, cz8⟩
    x_InvalidHunks := ⟨PySem.W.mg_of X G ca9, cx9, ck9, cb9, cz9⟩
    x_InvalidSeries := ⟨PySem.W.mg_of X G ca10, cx10, ck10, cb10, cz10⟩
    x_NothingToUndo := ⟨PySem.W.mg_of X G ca11, cx11, ck11, cb11, cz11⟩
    x_ParseError := ⟨PySem.W.mg_of X G ca12, cx12, ck12, cb12, cz12⟩
    ec := allC ⟨cg0, ch0, cb0, cy0, cc0, cs0, cs1, cm0⟩ ⟨cg1, ch1, cb1, cy1, cc1, cs0, cs1, cm1⟩ ⟨cg2, ch2, cb2, cy2, cc2, cs0, cs1, cm2⟩ ⟨cg3, ch3, cb3, cy3, cc3, cs0, cs1, cm3⟩ ⟨cg4, ch4, cb4, cy4, cc4, cs0, cs1, cm4⟩ ⟨cg5, ch5, cb5, cy5, cc5, cs0, cs1, cm5⟩ ⟨cg6, ch6, cb6, cy6, cc6, cs0, cs1, cm6⟩ ⟨cg7, ch7, cb7, cy7, cc7, cs0, cs1, cm7⟩ ⟨cg8, ch8, cb8, cy8, cc8, cs0, cs1, cm8⟩ ⟨cg9, ch9, cb9, cy9, cc9, cs0, cs1, cm9⟩ ⟨cg10, ch10, cb10, cy10, cc10, cs0, cs1, cm10⟩ ⟨cg11, ch11, cb11, cy11, cc11, cs0, cs1, cm11⟩ ⟨cg12, ch12, cb12, cy12, cc12, cs0, cs1, cm12⟩
    kit := fun c k hc hk => allC (p := fun c => PySem.W.kitOne K (.ref ([c0, c1, c2, c3, c4, c5, c6, c7, c8, c9, c10, c11, c12].getD c 0)) (.ref ([c0, c1, c2, c3, c4, c5, c6, c7, c8, c9, c10, c11, c12].getD k 0)) = some (subT c k)) (allC (p := fun k => PySem.W.kitOne K (.ref c0) (.ref ([c0, c1, c2, c3, c4, c5, c6, c7, c8, c9, c10, c11, c12].getD k 0)) = some (subT 0 k)) (kit_ref cb0 cy0 cz0 s0_0 s0_0) (kit_ref cb1 cy1 cz1 s0_1 s1_1) (kit_ref cb2 cy2 cz2 s0_2 s2_2) (kit_ref cb3 cy3 cz3 s0_3 s3_3) (kit_ref cb4 cy4 cz4 s0_4 s4_4) (kit_ref cb5 cy5 cz5 s0_5 s5_5) (kit_ref cb6 cy6 cz6 s0_6 s6_6) (kit_ref cb7 cy7 cz7 s0_7 s7_7) (kit_ref cb8 cy8 cz8 s0_8 s8_8) (kit_ref cb9 cy9 cz9 s0_9 s9_9) (kit_ref cb10 cy10 cz10 s0_10 s10_10) (kit_ref cb11 cy11 cz11 s0_11 s11_11) (kit_ref cb12 cy12 cz12 s0_12 s12_12) k hk) (allC (p := fun k => PySem.W.kitOne K (.ref c1) (.ref ([c0, c1, c2, c3, c4, c5, c6, c7, c8, c9, c10, c11, c12].getD k 0)) = some (subT 1 k)) (kit_ref cb0 cy0 cz0 s1_0 s0_0) (kit_ref cb1 cy1 cz1 s1_1 s1_1) (kit_ref cb2 cy2 cz2 s1_2 s2_2) (kit_ref cb3 cy3 cz3 s1_3 s3_3) (kit_ref cb4 cy4 cz4 s1_4 s4_4) (kit_ref cb5 cy5 cz5 s1_5 s5_5) (kit_ref cb6 cy6 cz6 s1_6 s6_6) (kit_ref cb7 cy7 cz7 s1_7 s7_7) (kit_ref cb8 cy8 cz8 s1_8 s8_8) (kit_ref cb9 cy9 cz9 s1_9 s9_9) (kit_ref cb10 cy10 cz10 s1_10 s10_10) (kit_ref cb11 cy11 cz11 s1_11 s11_11) (kit_ref cb12 cy12 cz12 s1_12 s12_12) k hk) (allC (p := fun k => PySem.W.kitOne K (.ref c2) (.ref ([c0, c1, c2, c3, c4, c5, c6, c7, c8, c9, c10, c11, c12].getD k 0)) = some (subT 2 k)) (kit_ref cb0 cy0 cz0 s2_0 s0_0) (kit_ref cb1 cy1 cz1 s2_1 s1_1) (kit_ref cb2 cy2 cz2 s2_2 s2_2) (kit_ref cb3 cy3 cz3 s2_3 s3_3) (kit_ref cb4 cy4 cz4 s2_4 s4_4) (kit_ref cb5 cy5 cz5 s2_5 s5_5) (kit_ref cb6 cy6 cz6 s2_6 s6_6) (kit_ref cb7 cy7 cz7 s2_7 s7_7) (kit_ref cb8 cy8 cz8 s2_8 s8_8) (kit_ref cb9 cy9 cz9 s2_9 s9_9) (kit_ref cb10 cy10 cz10 s2_10 s10_10) (kit_ref cb11 cy11 cz11 s2_11 s11_11) (kit_ref cb12 cy12 cz12 s2_12 s12_12) k hk) (allC (p := fun k => PySem.W.kitOne K (.ref c3) (.ref ([c0, c1, c2, c3, c4, c5, c6, c7, c8, c9, c10, c11, c12].getD k 0)) = some (subT 3 k)) (kit_ref cb0 cy0 cz0 s3_0 s0_0) (kit_ref cb1 cy1 cz1 s3_1 s1_1) (kit_ref cb2 cy2 cz2 s3_2 s2_2) (kit_ref cb3 cy3 cz3 s3_3 s3_3) (kit_ref cb4 cy4 cz4 s3_4 s4_4) (kit_ref cb5 cy5 cz5 s3_5 s5_5) (kit_ref cb6 cy6 cz6 s3_6 s6_6) (kit_ref cb7 cy7 cz7 s3_7 s7_7) (kit_ref cb8 cy8 cz8 s3_8 s8_8) (kit_ref cb9 cy9 cz9 s3_9 s9_9) (kit_ref cb10 cy10 cz10 s3_10 s10_10) (kit_ref cb11 cy11 cz11 s3_11 s11_11) (kit_ref cb12 cy12 cz12 s3_12 s12_12) k hk) (allC (p := fun k => PySem.W.kitOne K (.ref c4) (.ref ([c0, c1, c2, c3, c4, c5, c6, c7, c8, c9, c10, c11, c12].getD k 0)) = some (subT 4 k)) (kit_ref cb0 cy0 cz0 s4_0 s0_0) (kit_ref cb1 cy1 cz1 s4_1 s1_1) (kit_ref cb2 cy2 cz2 s4_2 s2_2) (kit_ref cb3 cy3 cz3 s4_3 s3_3) (kit_ref cb4 cy4 cz4 s4_4 s4_4) (kit_ref cb5 cy5 cz5 s4_5 s5_5) (kit_ref cb6 cy6 cz6 s4_6 s6_6) (kit_ref cb7 cy7 cz7 s4_7 s7_7) (kit_ref cb8 cy8 cz8 s4_8 s8_8) (kit_ref cb9 cy9 cz9 s4_9 s9_9) (kit_ref cb10 cy10 cz10 s4_10 s10_10) (kit_ref cb11 cy11 cz11 s4_11 s11_11) (kit_ref cb12 cy12 cz12 s4_12 s12_12) k hk) (allC (p := fun k => PySem.W.kitOne K (.ref c5) (.ref ([c0, c1, c2, c3, c4, c5, c6, c7, c8, c9, c10, c11, c12].getD k 0)) = some (subT 5 k)) (kit_ref cb0 cy0 cz0 s5_0 s0_0) (kit_ref cb1 cy1 cz1 s5_1 s1_1) (kit_ref cb2 cy2 cz2 s5_2 s2_2) (kit_ref cb3 cy3 cz3 s5_3 s3_3) (kit_ref cb4 cy4 cz4 s5_4 s4_4) (kit_ref cb5 cy5 cz5 s5_5 s5_5) (kit_ref cb6 cy6 cz6 s5_6 s6_6) (kit_ref cb7 cy7 cz7 s5_7 s7_7) (kit_ref cb8 cy8 cz8 s5_8 s8_8) (kit_ref cb9 cy9 cz9 s5_9 s9_9) (kit_ref cb10 cy10 cz10 s5_10 s10_10) (kit_ref cb11 cy11 cz11 s5_11 s11_11) (kit_ref cb12 cy12 cz12 s5_12 s12_12) k hk) (allC (p := fun k => PySem.W.kitOne K (.ref c6) (.ref ([c0, c1, c2, c3, c4, c5, c6, c7, c8, c9, c10, c11, c12].getD k 0)) = some (subT 6 k)) (kit_ref cb0 cy0 cz0 s6_0 s0_0) (kit_ref cb1 cy1 cz1 s6_1 s1_1) (kit_ref cb2 cy2 cz2 s6_2 s2_2) (kit_ref cb3 cy3 cz3 s6_3 s3_3) (kit_ref cb4 cy4 cz4 s6_4 s4_4) (kit_ref cb5 cy5 cz5 s6_5 s5_5) (kit_ref cb6 cy6 cz6 s6_6 s6_6) (kit_ref cb7 cy7 cz7 s6_7 s7_7) (kit_ref cb8 cy8 cz8 s6_8 s8_8) (kit_ref cb9 cy9 cz9 s6_9 s9_9) (kit_ref cb10 cy10 cz10 s6_10 s10_10) (kit_ref cb11 cy11 cz11 s6_11 s11_11) (kit_ref cb12 cy12 cz12 s6_12 s12_12) k hk) (allC (p := fun k => PySem.W.kitOne K (.ref c7) (.ref ([c0, c1, c2, c3, c4, c5, c6, c7, c8, c9, c10, c11, c12].getD k 0)) = some (subT 7 k)) (kit_ref cb0 cy0 cz0 s7_0 s0_0) (kit_ref cb1 cy1 cz1 s7_1 s1_1) (kit_ref cb2 cy2 cz2 s7_2 s2_2) (kit_ref cb3 cy3 cz3 s7_3 s3_3) (kit_ref cb4 cy4 cz4 s7_4 s4_4) (kit_ref cb5 cy5 cz5 s7_5 s5_5) (kit_ref cb6 cy6 cz6 s7_6 s6_6) (kit_ref cb7 cy7 cz7 s7_7 s7_7) (kit_ref cb8 cy8 cz8 s7_8 s8_8) (kit_ref cb9 cy9 cz9 s7_9 s9_9) (kit_ref cb10 cy10 cz10 s7_10 s10_10) (kit_ref cb11 cy11 cz11 s7_11 s11_11) (kit_ref cb12 cy12 cz12 s7_12 s12_12) k hk) (allC (p := fun k => PySem.W.kitOne K (.ref c8) (.ref ([c0, c1, c2, c3, c4, c5, c6, c7, c8, c9, c10, c11, c12].getD k 0)) = some (subT 8 k)) (kit_ref cb0 cy0 cz0 s8_0 s0_0) (kit_ref cb1 cy1 cz1 s8_1 s1_1) (kit_ref cb2 cy2 cz2 s8_2 s2_2) (kit_ref cb3 cy3 cz3 s8_3 s3_3) (kit_ref cb4 cy4 cz4 s8_4 s4_4) (kit_ref cb5 cy5 cz5 s8_5 s5_5) (kit_ref cb6 cy6 cz6 s8_6 s6_6) (kit_ref cb7 cy7 cz7 s8_7 s7_7) (kit_ref cb8 cy8 cz8 s8_8 s8_8) (kit_ref cb9 cy9 cz9 s8_9 s9_9) (kit_ref cb10 cy10 cz10 s8_10 s10_10) (kit_ref cb11 cy11 cz11 s8_11 s11_11) (kit_ref cb12 cy12 cz12 s8_12 s12_12) k hk) (allC (p := fun k => PySem.W.kitOne K (.ref c9) (.ref ([c0, c1, c2, c3, c4, c5, c6, c7, c8, c9, c10, c11, c12].getD k 0)) = some (subT 9 k)) (kit_ref cb0 cy0 cz0 s9_0 s0_0) (kit_ref cb1 cy1 cz1 s9_1 s1_1) (kit_ref cb2 cy2 cz2 s9_2 s2_2) (kit_ref cb3 cy3 cz3 s9_3 s3_3) (kit_ref cb4 cy4 cz4 s9_4 s4_4) (kit_ref cb5 cy5 cz5 s9_5 s5_5) (kit_ref cb6 cy6 cz6 s9_6 s6_6) (kit_ref cb7 cy7 cz7 s9_7 s7_7) (kit_ref cb8 cy8 cz8 s9_8 s8_8) (kit_ref cb9 cy9 cz9 s9_9 s9_9) (kit_ref cb10 cy10 cz10 s9_10 s10_10) (kit_ref cb11 cy11 cz11 s9_11 s11_11) (kit_ref cb12 cy12 cz12 s9_12 s12_12) k hk) (allC (p := fun k => PySem.W.kitOne K (.ref c10) (.ref ([c0, c1, c2, c3, c4, c5, c6, c7, c8, c9, c10, c11, c12].getD k 0)) = some (subT 10 k)) (kit_ref cb0 cy0 cz0 s10_0 s0_0) (kit_ref cb1 cy1 cz1 s10_1 s1_1) (kit_ref cb2 cy2 cz2 s10_2 s2_2) (kit_ref cb3 cy3 cz3 s10_3 s3_3) (kit_ref cb4 cy4 cz4 s10_4 s4_4) (kit_ref cb5 cy5 cz5 s10_5 s5_5) (kit_ref cb6 cy6 cz6 s10_6 s6_6) (kit_ref cb7 cy7 cz7 s10_7 s7_7) (kit_ref cb8 cy8 cz8 s10_8 s8_8) (kit_ref cb9 cy9 cz9 s10_9 s9_9) (kit_ref cb10 cy10 cz10 s10_10 s10_10) (kit_ref cb11 cy11 cz11 s10_11 s11_11) (kit_ref cb12 cy12 cz12 s10_12 s12_12) k hk) (allC (p := fun k => PySem.W.kitOne K (.ref c11) (.ref ([c0, c1, c2, c3, c4, c5, c6, c7, c8, c9, c10, c11, c12].getD k 0)) = some (subT 11 k)) (kit_ref cb0 cy0 cz0 s11_0 s0_0) (kit_ref cb1 cy1 cz1 s11_1 s1_1) (kit_ref cb2 cy2 cz2 s11_2 s2_2) (kit_ref cb3 cy3 cz3 s11_3 s3_3) (kit_ref cb4 cy4 cz4 s11_4 s4_4) (kit_ref cb5 cy5 cz5 s11_5 s5_5) (kit_ref cb6 cy6 cz6 s11_6 s6_6) (kit_ref cb7 cy7 cz7 s11_7 s7_7) (kit_ref cb8 cy8 cz8 s11_8 s8_8) (kit_ref cb9 cy9 cz9 s11_9 s9_9) (kit_ref cb10 cy10 cz10 s11_10 s10_10) (kit_ref cb11 cy11 cz11 s11_11 s11_11) (kit_ref cb12 cy12 cz12 s11_12 s12_12) k hk) (allC (p := fun k => PySem.W.kitOne K (.ref c12) (.ref ([c0, c1, c2, c3, c4, c5, c6, c7, c8, c9, c10, c11, c12].getD k 0)) = some (subT 12 k)) (kit_ref cb0 cy0 cz0 s12_0 s0_0) (kit_ref cb1 cy1 cz1 s12_1 s1_1) (kit_ref cb2 cy2 cz2 s12_2 s2_2) (kit_ref cb3 cy3 cz3 s12_3 s3_3) (kit_ref cb4 cy4 cz4 s12_4 s4_4) (kit_ref cb5 cy5 cz5 s12_5 s5_5) (kit_ref cb6 cy6 cz6 s12_6 s6_6) (kit_ref cb7 cy7 cz7 s12_7 s7_7) (kit_ref cb8 cy8 cz8 s12_8 s8_8) (kit_ref cb9 cy9 cz9 s12_9 s9_9) (kit_ref cb10 cy10 cz10 s12_10 s10_10) (kit_ref cb11 cy11 cz11 s12_11 s11_11) (kit_ref cb12 cy12 cz12 s12_12 s12_12) k hk) c hc
    exm := fun c b hb => by
      have hc : c < nC := by
        unfold hP at hb
        split at hb
        · assumption
        · cases hb
      have e : b = true := by
        unfold hP at hb
        rw [if_pos hc] at hb
        cases hb
        rfl
      subst e
      exact allC (p := fun c => PySem.W.exmOne K (.ref ([c0, c1, c2, c3, c4, c5, c6, c7, c8, c9, c10, c11, c12].getD c 0)) (.ref c0) = some true) (PySem.W.exm_ref cb0 cy0 cz0 s0_0) (PySem.W.exm_ref cb0 cy0 cz0 s1_0) (PySem.W.exm_ref cb0 cy0 cz0 s2_0) (PySem.W.exm_ref cb0 cy0 cz0 s3_0) (PySem.W.exm_ref cb0 cy0 cz0 s4_0) (PySem.W.exm_ref cb0 cy0 cz0 s5_0) (PySem.W.exm_ref cb0 cy0 cz0 s6_0) (PySem.W.exm_ref cb0 cy0 cz0 s7_0) (PySem.W.exm_ref cb0 cy0 cz0 s8_0) (PySem.W.exm_ref cb0 cy0 cz0 s9_0) (PySem.W.exm_ref cb0 cy0 cz0 s10_0) (PySem.W.exm_ref cb0 cy0 cz0 s11_0) (PySem.W.exm_ref cb0 cy0 cz0 s12_0) c hc
    ve := allC (kit_ve cv0) (kit_ve cv1) (kit_ve cv2) (kit_ve cv3) (kit_ve cv4) (kit_ve cv5) (kit_ve cv6) (kit_ve cv7) (kit_ve cv8) (kit_ve cv9) (kit_ve cv10) (kit_ve cv11) (kit_ve cv12)
    wcl := ⟨cw, rfl, PySem.W.mg_of X G wa0, ⟨wa3, wa4, wa5, wa6⟩, wd0, cs0, cs1, wd1, wd2, wd3, wd4⟩
    f_is_int := fn_mk0 X G a0 l0 o0 p0 fun _ _ _ _ _ _ us hl => match us, hl with | [_, _, _], _ => rfl
    f_is_line := fn_mk0 X G a1 l1 o1 p1 fun _ _ _ _ _ _ us hl => match us, hl with | [_], _ => rfl
    f_are_lines := fn_mk0 X G a2 l2 o2 p2 fun _ _ _ _ _ _ us hl => match us, hl with | [_, _], _ => rfl
    f_is_file := fn_mk0 X G a3 l3 o3 p3 fun _ _ _ _ _ _ us hl => match us, hl with | [_], _ => rfl
    f_is_hunk := fn_mk0 X G a4 l4 o4 p4 fun _ _ _ _ _ _ us hl => match us, hl with | [_], _ => rfl
    f_check_file := fn_mk0 X G a5 l5 o5 p5 fun _ _ _ _ _ _ us hl => match us, hl with | [_], _ => rfl
    f_check_hunk := fn_mk0 X G a6 l6 o6 p6 fun _ _ _ _ _ _ us hl => match us, hl with | [_], _ => rfl
    f_pattern_of := fn_mk0 X G a7 l7 o7 p7 fun _ _ _ _ _ _ us hl => match us, hl with | [_], _ => rfl
    f_outcome_of := fn_mk0 X G a8 l8 o8 p8 fun _ _ _ _ _ _ us hl => match us, hl with | [_], _ => rfl
    f_find_places := fn_mk0 X G a9 l9 o9 p9 fun _ _ _ _ _ _ us hl => match us, hl with | [_, _], _ => rfl
    f_find_nearest := fn_mk0 X G a10 l10 o10 p10 fun _ _ _ _ _ _ us hl => match us, hl with | [_, _], _ => rfl
    f_apply_there := fn_mk0 X G a11 l11 o11 p11 fun _ _ _ _ _ _ us hl => match us, hl with | [_, _, _], _ => rfl
    f_after_hunk := fn_mk0 X G a12 l12 o12 p12 fun _ _ _ _ _ _ us hl => match us, hl with | [_, _], _ => rfl
    f_W___init__ := ⟨cw, _, _, rfl, PySem.W.mg_of X G wa0, ⟨wa1, a13, q13, wa2⟩, ⟨wa3, wa4, wa5, wa6⟩, wb0, wb1, wb2, (fun_mk (st := s_W___init__) l13 o13 p13), (fun_mk (st := s_W___init__) l13 o13 p13).binds (fun _ _ _ _ _ _ us hl => match us, hl with | [_, _], _ => rfl)⟩
    f_W_lines := ⟨cw, _, _, rfl, ⟨wa3, wa4, wa5, wa6⟩, ⟨a14, q14, p14⟩, (fun_mk (st := s_W_lines) l14 o14 p14), (fun_mk (st := s_W_lines) l14 o14 p14).binds (fun _ _ _ _ _ _ us hl => match us, hl with | [_], _ => rfl)⟩
    f_W_rejected := ⟨cw, _, _, rfl, ⟨wa3, wa4, wa5, wa6⟩, ⟨a15, q15, p15⟩, (fun_mk (st := s_W_rejected) l15 o15 p15), (fun_mk (st := s_W_rejected) l15 o15 p15).binds (fun _ _ _ _ _ _ us hl => match us, hl with | [_], _ => rfl)⟩
    f_W_change := ⟨cw, _, _, rfl, ⟨wa3, wa4, wa5, wa6⟩, ⟨a16, q16, p16⟩, (fun_mk (st := s_W_change) l16 o16 p16), (fun_mk (st := s_W_change) l16 o16 p16).binds (fun _ _ _ _ _ _ us hl => match us, hl with | [_, _], _ => rfl)⟩
    f_W_patch := ⟨cw, _, _, rfl, ⟨wa3, wa4, wa5, wa6⟩, ⟨a17, q17, p17⟩, (fun_mk (st := s_W_patch) l17 o17 p17), (fun_mk (st := s_W_patch) l17 o17 p17).binds (fun _ _ _ _ _ _ us hl => match us, hl with | [_, _], _ => rfl)⟩
    f_W_retry := ⟨cw, _, _, rfl, ⟨wa3, wa4, wa5, wa6⟩, ⟨a18, q18, p18⟩, (fun_mk (st := s_W_retry) l18 o18 p18), (fun_mk (st := s_W_retry) l18 o18 p18).binds (fun _ _ _ _ _ _ us hl => match us, hl with | [_], _ => rfl)⟩
    f_W_undo := ⟨cw, _, _, rfl, ⟨wa3, wa4, wa5, wa6⟩, ⟨a19, q19, p19⟩, (fun_mk (st := s_W_undo) l19 o19 p19), (fun_mk (st := s_W_undo) l19 o19 p19).binds (fun _ _ _ _ _ _ us hl => match us, hl with | [_], _ => rfl)⟩
    f_W_redo := ⟨cw, _, _, rfl, ⟨wa3, wa4, wa5, wa6⟩, ⟨a20, q20, p20⟩, (fun_mk (st := s_W_redo) l20 o20 p20), (fun_mk (st := s_W_redo) l20 o20 p20).binds (fun _ _ _ _ _ _ us hl => match us, hl with | [_], _ => rfl)⟩
    f_W_copy := ⟨cw, _, _, rfl, ⟨wa3, wa4, wa5, wa6⟩, ⟨a21, q21, p21⟩, (fun_mk (st := s_W_copy) l21 o21 p21), (fun_mk (st := s_W_copy) l21 o21 p21).binds (fun _ _ _ _ _ _ us hl => match us, hl with | [_], _ => rfl)⟩
    f_W___eq__ := ⟨cw, _, _, rfl, ⟨wa3, wa4, wa5, wa6⟩, ⟨a22, q22, p22⟩, (fun_mk (st := s_W___eq__) l22 o22 p22), (fun_mk (st := s_W___eq__) l22 o22 p22).binds (fun _ _ _ _ _ _ us hl => match us, hl with | [_, _], _ => rfl)⟩
    f_W___len__ := ⟨cw, _, _, rfl, ⟨wa3, wa4, wa5, wa6⟩, ⟨a23, q23, p23⟩, (fun_mk (st := s_W___len__) l23 o23 p23), (fun_mk (st := s_W___len__) l23 o23 p23).binds (fun _ _ _ _ _ _ us hl => match us, hl with | [_], _ => rfl)⟩
    f__law_body := fn_mk0 X G a24 l24 o24 p24 fun _ _ _ _ _ _ us hl => match us, hl with | [_], _ => rfl
    f__law_spots := fn_mk0 X G a25 l25 o25 p25 fun _ _ _ _ _ _ us hl => match us, hl with | [_, _], _ => rfl
    f__law_near := fn_mk0 X G a26 l26 o26 p26 fun _ _ _ _ _ _ us hl => match us, hl with | [_, _], _ => rfl
    f__law_put := fn_mk0 X G a27 l27 o27 p27 fun _ _ _ _ _ _ us hl => match us, hl with | [_, _], _ => rfl
    f__law_pick := fn_mk0 X G a28 l28 o28 p28 fun _ _ _ _ _ _ us hl => match us, hl with | [_, _, _], _ => rfl
    f__law_lines := fn_mk0 X G a29 l29 o29 p29 fun _ _ _ _ _ _ us hl => match us, hl with | [_, _, _], _ => rfl
    f__law_hunk := fn_mk0 X G a30 l30 o30 p30 fun _ _ _ _ _ _ us hl => match us, hl with | [_, _, _], _ => rfl
    f__law_class := fn_mk0 X G a31 l31 o31 p31 fun _ _ _ _ _ _ us hl => match us, hl with | [_], _ => rfl
    f__law_result := fn_mk0 X G a32 l32 o32 p32 fun _ _ _ _ _ _ us hl => match us, hl with | [_], _ => rfl
    f__law_tried := fn_mk0 X G a33 l33 o33 p33 fun _ _ _ _ _ _ us hl => match us, hl with | [_, _], _ => rfl
    f__law_chosen := fn_mk0 X G a34 l34 o34 p34 fun _ _ _ _ _ _ us hl => match us, hl with | [_, _, _], _ => rfl
    f__law_calls := ⟨_, cc35, pt35, oc35, kV35, dc35, pm35, ct35, od35, an35, sl35, l35, o35, p35, PySem.W.mg_of X G a35, (fun_mk (st := s__law_calls) l35 o35 p35).binds (fun _ _ _ _ _ _ us hl => match us, hl with | [_, _], _ => rfl), TB _ List.mem_cons_self, w35⟩
    f_law := fn_mk0 X G a36 l36 o36 p36 fun _ _ _ _ _ _ us hl => match us, hl with | [_], _ => rfl
    }
  exact law_of (Γ := gamL l.prog w (fun k => [c0, c1, c2, c3, c4, c5, c6, c7, c8, c9, c10, c11, c12].getD k 0) LT []) (x := "law") (fn_mk (fun_mk (st := s_law) l36 o36 p36) sc_law fun cdv A outer s H EE C => pk_law.2 gamL_ok gamL_clo T _ cdv A outer s H EE C) rfl law_true
end Lw
open PySem PySem.W PyProof.Rows
set_option maxHeartbeats 0 in
theorem PySem.Challenge.cw_patchplaces_k66_work_holds : PySem.Challenge.rw_patchplaces_k66_work.Holds := by
  w_on; o_law; k_head; (case hw => w_witness2)
  k_fill
  refine LamX.walk_ofTs (l := PySem.Challenge.rw_patchplaces_k66_work) (n := 63) (k := 11) (x := "script") (CX := fun w => L2.CX PySem.Challenge.pw_patchplaces_k66_work w) rfl (by decide) rfl ⟨rfl, by decide, by decide⟩ (fun w h Y => PySem.W.km_in_of Y) ?F (fun _ _ _ _ _ h => by obtain ⟨_, _, _, _, _, _, _, _, _, _, _, _, z⟩ := h; exact z)
  case F =>
    intro w mg fa h Y KX G hmg
    refine' Lw.all_mk KX G hmg ?z_ValueError ?z_abs ?z_all ?z_bool ?z_int ?z_isinstance ?z_len ?z_list ?z_max ?z_min ?z_range ?z_sorted ?z_str ?z_tuple ?g_MAX_LINE ?g_MAX_FILE ?g_MAX_PART ?g_LETTERS ?ca0 ?cx0 ?ck0 ?cb0 ?cz0 ?cg0 ?ch0 ?cy0 ?cc0 ?cm0 ?ca1 ?cx1 ?ck1 ?cb1 ?cz1 ?cg1 ?ch1 ?cy1 ?cc1 ?cm1 ?ca2 ?cx2 ?ck2 ?cb2 ?cz2 ?cg2 ?ch2 ?cy2 ?cc2 ?cm2 ?ca3 ?cx3 ?ck3 ?cb3 ?cz3 ?cg3 ?ch3 ?cy3 ?cc3 ?cm3 ?ca4 ?cx4 ?ck4 ?cb4 ?cz4 ?cg4 ?ch4 ?cy4 ?cc4 ?cm4 ?ca5 ?cx5 ?ck5 ?cb5 ?cz5 ?cg5 ?ch5 ?cy5 ?cc5 ?cm5 ?ca6 ?cx6 ?ck6 ?cb6 ?cz6 ?cg6 ?ch6 ?cy6 ?cc6 ?cm6 ?ca7 ?cx7 ?ck7 ?cb7 ?cz7 ?cg7 ?ch7 ?cy7 ?cc7 ?cm7 ?ca8 ?cx8 ?ck8 ?cb8 ?cz8 ?cg8 ?ch8 ?cy8 ?cc8 ?cm8 ?ca9 ?cx9 ?ck9 ?cb9 ?cz9 ?cg9 ?ch9 ?cy9 ?cc9 ?cm9 ?ca10 ?cx10 ?ck10 ?cb10 ?cz10 ?cg10 ?ch10 ?cy10 ?cc10 ?cm10 ?ca11 ?cx11 ?ck11 ?cb11 ?cz11 ?cg11 ?ch11 ?cy11 ?cc11 ?cm11 ?ca12 ?cx12 ?ck12 ?cb12 ?cz12 ?cg12 ?ch12 ?cy12 ?cc12 ?cm12 ?cs0 ?cs1 ?s0_0 ?s0_1 ?s0_2 ?s0_3 ?s0_4 ?s0_5 ?s0_6 ?s0_7 ?s0_8 ?s0_9 ?s0_10 ?s0_11 ?s0_12 ?s1_0 ?s1_1 ?s1_2 ?s1_3 ?s1_4 ?s1_5 ?s1_6 ?s1_7 ?s1_8 ?s1_9 ?s1_10 ?s1_11 ?s1_12 ?s2_0 ?s2_1 ?s2_2 ?s2_3 ?s2_4 ?s2_5 ?s2_6 ?s2_7 ?s2_8 ?s2_9 ?s2_10 ?s2_11 ?s2_12 ?s3_0 ?s3_1 ?s3_2 ?s3_3 ?s3_4 ?s3_5 ?s3_6 ?s3_7 ?s3_8 ?s3_9 ?s3_10 ?s3_11 ?s3_12 ?s4_0 ?s4_1 ?s4_2 ?s4_3 ?s4_4 ?s4_5 ?s4_6 ?s4_7 ?s4_8 ?s4_9 ?s4_10 ?s4_11 ?s4_12 ?s5_0 ?s5_1 ?s5_2 ?s5_3 ?s5_4 ?s5_5 ?s5_6 ?s5_7 ?s5_8 ?s5_9 ?s5_10 ?s5_11 ?s5_12 ?s6_0 ?s6_1 ?s6_2 ?s6_3 ?s6_4 ?s6_5 ?s6_6 ?s6_7 ?s6_8 ?s6_9 ?s6_10 ?s6_11 ?s6_12 ?s7_0 ?s7_1 ?s7_2 ?s7_3 ?s7_4 ?s7_5 ?s7_6 ?s7_7 ?s7_8 ?s7_9 ?s7_10 ?s7_11 ?s7_12 ?s8_0 ?s8_1 ?s8_2 ?s8_3 ?s8_4 ?s8_5 ?s8_6 ?s8_7 ?s8_8 ?s8_9 ?s8_10 ?s8_11 ?s8_12 ?s9_0 ?s9_1 ?s9_2 ?s9_3 ?s9_4 ?s9_5 ?s9_6 ?s9_7 ?s9_8 ?s9_9 ?s9_10 ?s9_11 ?s9_12 ?s10_0 ?s10_1 ?s10_2 ?s10_3 ?s10_4 ?s10_5 ?s10_6 ?s10_7 ?s10_8 ?s10_9 ?s10_10 ?s10_11 ?s10_12 ?s11_0 ?s11_1 ?s11_2 ?s11_3 ?s11_4 ?s11_5 ?s11_6 ?s11_7 ?s11_8 ?s11_9 ?s11_10 ?s11_11 ?s11_12 ?s12_0 ?s12_1 ?s12_2 ?s12_3 ?s12_4 ?s12_5 ?s12_6 ?s12_7 ?s12_8 ?s12_9 ?s12_10 ?s12_11 ?s12_12 ?cv0 ?cv1 ?cv2 ?cv3 ?cv4 ?cv5 ?cv6 ?cv7 ?cv8 ?cv9 ?cv10 ?cv11 ?cv12 ?wa0 ?wa1 ?wa2 ?wa3 ?wa4 ?wa5 ?wa6 ?wb0 ?wb1 ?wb2 ?wd0 ?wd1 ?wd2 ?wd3 ?wd4 ?a0 ?l0 ?o0 ?p0 ?a1 ?l1 ?o1 ?p1 ?a2 ?l2 ?o2 ?p2 ?a3 ?l3 ?o3 ?p3 ?a4 ?l4 ?o4 ?p4 ?a5 ?l5 ?o5 ?p5 ?a6 ?l6 ?o6 ?p6 ?a7 ?l7 ?o7 ?p7 ?a8 ?l8 ?o8 ?p8 ?a9 ?l9 ?o9 ?p9 ?a10 ?l10 ?o10 ?p10 ?a11 ?l11 ?o11 ?p11 ?a12 ?l12 ?o12 ?p12 ?a13 ?l13 ?o13 ?p13 ?q13 ?a14 ?l14 ?o14 ?p14 ?q14 ?a15 ?l15 ?o15 ?p15 ?q15 ?a16 ?l16 ?o16 ?p16 ?q16 ?a17 ?l17 ?o17 ?p17 ?q17 ?a18 ?l18 ?o18 ?p18 ?q18 ?a19 ?l19 ?o19 ?p19 ?q19 ?a20 ?l20 ?o20 ?p20 ?q20 ?a21 ?l21 ?o21 ?p21 ?q21 ?a22 ?l22 ?o22 ?p22 ?q22 ?a23 ?l23 ?o23 ?p23 ?q23 ?a24 ?l24 ?o24 ?p24 ?a25 ?l25 ?o25 ?p25 ?a26 ?l26 ?o26 ?p26 ?a27 ?l27 ?o27 ?p27 ?a28 ?l28 ?o28 ?p28 ?a29 ?l29 ?o29 ?p29 ?a30 ?l30 ?o30 ?p30 ?a31 ?l31 ?o31 ?p31 ?a32 ?l32 ?o32 ?p32 ?a33 ?l33 ?o33 ?p33 ?a34 ?l34 ?o34 ?p34 ?a35 ?l35 ?o35 ?p35 ?q35 ?r35 ?h35 ?u35 ?v35 ?a36 ?l36 ?o36 ?p36 ?w35
    (case z_ValueError => k_is)
    (case z_abs => k_is)
    (case z_all => k_is)
    (case z_bool => k_is)
    (case z_int => k_is)
    (case z_isinstance => k_is)
    (case z_len => k_is)
    (case z_list => k_is)
    (case z_max => k_is)
    (case z_min => k_is)
    (case z_range => k_is)
    (case z_sorted => k_is)
    (case z_str => k_is)
    (case z_tuple => k_is)
    (case g_MAX_LINE => k_is)
    (case g_MAX_FILE => k_is)
    (case g_MAX_PART => k_is)
    (case g_LETTERS => k_is)
    (case ca0 => k_is)
    (case cx0 => k_exc)
    (case ck0 => k_is)
    (case cb0 => k_is)
    (case cz0 => k_is)
    (case cg0 => k_is)
    (case ch0 => k_is)
    (case cy0 => k_is)
    (case cc0 => k_is)
    (case cm0 => k_is)
    (case ca1 => k_is)
    (case cx1 => k_exc)
    (case ck1 => k_is)
    (case cb1 => k_is)
    (case cz1 => k_is)
    (case cg1 => k_is)
    (case ch1 => k_is)
    (case cy1 => k_is)
    (case cc1 => k_is)
    (case cm1 => k_is)
    (case ca2 => k_is)
    (case cx2 => k_exc)
    (case ck2 => k_is)
    (case cb2 => k_is)
    (case cz2 => k_is)
    (case cg2 => k_is)
    (case ch2 => k_is)
    (case cy2 => k_is)
    (case cc2 => k_is)
    (case cm2 => k_is)
    (case ca3 => k_is)
    (case cx3 => k_exc)
    (case ck3 => k_is)
    (case cb3 => k_is)
    (case cz3 => k_is)
    (case cg3 => k_is)
    (case ch3 => k_is)
    (case cy3 => k_is)
    (case cc3 => k_is)
    (case cm3 => k_is)
    (case ca4 => k_is)
    (case cx4 => k_exc)
    (case ck4 => k_is)
    (case cb4 => k_is)
    (case cz4 => k_is)
    (case cg4 => k_is)
    (case ch4 => k_is)
    (case cy4 => k_is)
    (case cc4 => k_is)
    (case cm4 => k_is)
    (case ca5 => k_is)
    (case cx5 => k_exc)
    (case ck5 => k_is)
    (case cb5 => k_is)
    (case cz5 => k_is)
    (case cg5 => k_is)
    (case ch5 => k_is)
    (case cy5 => k_is)
    (case cc5 => k_is)
    (case cm5 => k_is)
    (case ca6 => k_is)
    (case cx6 => k_exc)
    (case ck6 => k_is)
    (case cb6 => k_is)
    (case cz6 => k_is)
    (case cg6 => k_is)
    (case ch6 => k_is)
    (case cy6 => k_is)
    (case cc6 => k_is)
    (case cm6 => k_is)
    (case ca7 => k_is)
    (case cx7 => k_exc)
    (case ck7 => k_is)
    (case cb7 => k_is)
    (case cz7 => k_is)
    (case cg7 => k_is)
    (case ch7 => k_is)
    (case cy7 => k_is)
    (case cc7 => k_is)
    (case cm7 => k_is)
    (case ca8 => k_is)
    (case cx8 => k_exc)
    (case ck8 => k_is)
    (case cb8 => k_is)
    (case cz8 => k_is)
    (case cg8 => k_is)
    (case ch8 => k_is)
    (case cy8 => k_is)
    (case cc8 => k_is)
    (case cm8 => k_is)
    (case ca9 => k_is)
    (case cx9 => k_exc)
    (case ck9 => k_is)
    (case cb9 => k_is)
    (case cz9 => k_is)
    (case cg9 => k_is)
    (case ch9 => k_is)
    (case cy9 => k_is)
    (case cc9 => k_is)
    (case cm9 => k_is)
    (case ca10 => k_is)
    (case cx10 => k_exc)
    (case ck10 => k_is)
    (case cb10 => k_is)
    (case cz10 => k_is)
    (case cg10 => k_is)
    (case ch10 => k_is)
    (case cy10 => k_is)
    (case cc10 => k_is)
    (case cm10 => k_is)
    (case ca11 => k_is)
    (case cx11 => k_exc)
    (case ck11 => k_is)
    (case cb11 => k_is)
    (case cz11 => k_is)
    (case cg11 => k_is)
    (case ch11 => k_is)
    (case cy11 => k_is)
    (case cc11 => k_is)
    (case cm11 => k_is)
    (case ca12 => k_is)
    (case cx12 => k_exc)
    (case ck12 => k_is)
    (case cb12 => k_is)
    (case cz12 => k_is)
    (case cg12 => k_is)
    (case ch12 => k_is)
    (case cy12 => k_is)
    (case cc12 => k_is)
    (case cm12 => k_is)
    (case cs0 => k_is)
    (case cs1 => k_is)
    (case s0_0 => k_is)
    (case s0_1 => k_is)
    (case s0_2 => k_is)
    (case s0_3 => k_is)
    (case s0_4 => k_is)
    (case s0_5 => k_is)
    (case s0_6 => k_is)
    (case s0_7 => k_is)
    (case s0_8 => k_is)
    (case s0_9 => k_is)
    (case s0_10 => k_is)
    (case s0_11 => k_is)
    (case s0_12 => k_is)
    (case s1_0 => k_is)
    (case s1_1 => k_is)
    (case s1_2 => k_is)
    (case s1_3 => k_is)
    (case s1_4 => k_is)
    (case s1_5 => k_is)
    (case s1_6 => k_is)
    (case s1_7 => k_is)
    (case s1_8 => k_is)
    (case s1_9 => k_is)
    (case s1_10 => k_is)
    (case s1_11 => k_is)
    (case s1_12 => k_is)
    (case s2_0 => k_is)
    (case s2_1 => k_is)
    (case s2_2 => k_is)
    (case s2_3 => k_is)
    (case s2_4 => k_is)
    (case s2_5 => k_is)
    (case s2_6 => k_is)
    (case s2_7 => k_is)
    (case s2_8 => k_is)
    (case s2_9 => k_is)
    (case s2_10 => k_is)
    (case s2_11 => k_is)
    (case s2_12 => k_is)
    (case s3_0 => k_is)
    (case s3_1 => k_is)
    (case s3_2 => k_is)
    (case s3_3 => k_is)
    (case s3_4 => k_is)
    (case s3_5 => k_is)
    (case s3_6 => k_is)
    (case s3_7 => k_is)
    (case s3_8 => k_is)
    (case s3_9 => k_is)
    (case s3_10 => k_is)
    (case s3_11 => k_is)
    (case s3_12 => k_is)
    (case s4_0 => k_is)
    (case s4_1 => k_is)
    (case s4_2 => k_is)
    (case s4_3 => k_is)
    (case s4_4 => k_is)
    (case s4_5 => k_is)
    (case s4_6 => k_is)
    (case s4_7 => k_is)
    (case s4_8 => k_is)
    (case s4_9 => k_is)
    (case s4_10 => k_is)
    (case s4_11 => k_is)
    (case s4_12 => k_is)
    (case s5_0 => k_is)
    (case s5_1 => k_is)
    (case s5_2 => k_is)
    (case s5_3 => k_is)
    (case s5_4 => k_is)
    (case s5_5 => k_is)
    (case s5_6 => k_is)
    (case s5_7 => k_is)
    (case s5_8 => k_is)
    (case s5_9 => k_is)
    (case s5_10 => k_is)
    (case s5_11 => k_is)
    (case s5_12 => k_is)
    (case s6_0 => k_is)
    (case s6_1 => k_is)
    (case s6_2 => k_is)
    (case s6_3 => k_is)
    (case s6_4 => k_is)
    (case s6_5 => k_is)
    (case s6_6 => k_is)
    (case s6_7 => k_is)
    (case s6_8 => k_is)
    (case s6_9 => k_is)
    (case s6_10 => k_is)
    (case s6_11 => k_is)
    (case s6_12 => k_is)
    (case s7_0 => k_is)
    (case s7_1 => k_is)
    (case s7_2 => k_is)
    (case s7_3 => k_is)
    (case s7_4 => k_is)
    (case s7_5 => k_is)
    (case s7_6 => k_is)
    (case s7_7 => k_is)
    (case s7_8 => k_is)
    (case s7_9 => k_is)
    (case s7_10 => k_is)
    (case s7_11 => k_is)
    (case s7_12 => k_is)
    (case s8_0 => k_is)
    (case s8_1 => k_is)
    (case s8_2 => k_is)
    (case s8_3 => k_is)
    (case s8_4 => k_is)
    (case s8_5 => k_is)
    (case s8_6 => k_is)
    (case s8_7 => k_is)
    (case s8_8 => k_is)
    (case s8_9 => k_is)
    (case s8_10 => k_is)
    (case s8_11 => k_is)
    (case s8_12 => k_is)
    (case s9_0 => k_is)
    (case s9_1 => k_is)
    (case s9_2 => k_is)
    (case s9_3 => k_is)
    (case s9_4 => k_is)
    (case s9_5 => k_is)
    (case s9_6 => k_is)
    (case s9_7 => k_is)
    (case s9_8 => k_is)
    (case s9_9 => k_is)
    (case s9_10 => k_is)
    (case s9_11 => k_is)
    (case s9_12 => k_is)
    (case s10_0 => k_is)
    (case s10_1 => k_is)
    (case s10_2 => k_is)
    (case s10_3 => k_is)
    (case s10_4 => k_is)
    (case s10_5 => k_is)
    (case s10_6 => k_is)
    (case s10_7 => k_is)
    (case s10_8 => k_is)
    (case s10_9 => k_is)
    (case s10_10 => k_is)
    (case s10_11 => k_is)
    (case s10_12 => k_is)
    (case s11_0 => k_is)
    (case s11_1 => k_is)
    (case s11_2 => k_is)
    (case s11_3 => k_is)
    (case s11_4 => k_is)
    (case s11_5 => k_is)
    (case s11_6 => k_is)
    (case s11_7 => k_is)
    (case s11_8 => k_is)
    (case s11_9 => k_is)
    (case s11_10 => k_is)
    (case s11_11 => k_is)
    (case s11_12 => k_is)
    (case s12_0 => k_is)
    (case s12_1 => k_is)
    (case s12_2 => k_is)
    (case s12_3 => k_is)
    (case s12_4 => k_is)
    (case s12_5 => k_is)
    (case s12_6 => k_is)
    (case s12_7 => k_is)
    (case s12_8 => k_is)
    (case s12_9 => k_is)
    (case s12_10 => k_is)
    (case s12_11 => k_is)
    (case s12_12 => k_is)
    (case cv0 => k_is)
    (case cv1 => k_is)
    (case cv2 => k_is)
    (case cv3 => k_is)
    (case cv4 => k_is)
    (case cv5 => k_is)
    (case cv6 => k_is)
    (case cv7 => k_is)
    (case cv8 => k_is)
    (case cv9 => k_is)
    (case cv10 => k_is)
    (case cv11 => k_is)
    (case cv12 => k_is)
    (case wa0 => k_is)
    (case wa1 => k_is)
    (case wa2 => k_is)
    (case wa3 => k_is)
    (case wa4 => k_is)
    (case wa5 => k_is)
    (case wa6 => k_is)
    (case wb0 => k_is)
    (case wb1 => k_is)
    (case wb2 => k_is)
    (case wd0 => k_is)
    (case wd1 => k_is)
    (case wd2 => kit_is)
    (case wd3 => k_is)
    (case wd4 => k_is)
    (case a0 => k_is)
    (case l0 => k_is)
    (case o0 => k_is)
    (case p0 => k_is)
    (case a1 => k_is)
    (case l1 => k_is)
    (case o1 => k_is)
    (case p1 => k_is)
    (case a2 => k_is)
    (case l2 => k_is)
    (case o2 => k_is)
    (case p2 => k_is)
    (case a3 => k_is)
    (case l3 => k_is)
    (case o3 => k_is)
    (case p3 => k_is)
    (case a4 => k_is)
    (case l4 => k_is)
    (case o4 => k_is)
    (case p4 => k_is)
    (case a5 => k_is)
    (case l5 => k_is)
    (case o5 => k_is)
    (case p5 => k_is)
    (case a6 => k_is)
    (case l6 => k_is)
    (case o6 => k_is)
    (case p6 => k_is)
    (case a7 => k_is)
    (case l7 => k_is)
    (case o7 => k_is)
    (case p7 => k_is)
    (case a8 => k_is)
    (case l8 => k_is)
    (case o8 => k_is)
    (case p8 => k_is)
    (case a9 => k_is)
    (case l9 => k_is)
    (case o9 => k_is)
    (case p9 => k_is)
    (case a10 => k_is)
    (case l10 => k_is)
    (case o10 => k_is)
    (case p10 => k_is)
    (case a11 => k_is)
    (case l11 => k_is)
    (case o11 => k_is)
    (case p11 => k_is)
    (case a12 => k_is)
    (case l12 => k_is)
    (case o12 => k_is)
    (case p12 => k_is)
    (case a13 => k_is)
    (case l13 => k_is)
    (case o13 => k_is)
    (case p13 => k_is)
    (case q13 => k_is)
    (case a14 => k_is)
    (case l14 => k_is)
    (case o14 => k_is)
    (case p14 => k_is)
    (case q14 => k_is)
    (case a15 => k_is)
    (case l15 => k_is)
    (case o15 => k_is)
    (case p15 => k_is)
    (case q15 => k_is)
    (case a16 => k_is)
    (case l16 => k_is)
    (case o16 => k_is)
    (case p16 => k_is)
    (case q16 => k_is)
    (case a17 => k_is)
    (case l17 => k_is)
    (case o17 => k_is)
    (case p17 => k_is)
    (case q17 => k_is)
    (case a18 => k_is)
    (case l18 => k_is)
    (case o18 => k_is)
    (case p18 => k_is)
    (case q18 => k_is)
    (case a19 => k_is)
    (case l19 => k_is)
    (case o19 => k_is)
    (case p19 => k_is)
    (case q19 => k_is)
    (case a20 => k_is)
    (case l20 => k_is)
    (case o20 => k_is)
    (case p20 => k_is)
    (case q20 => k_is)
    (case a21 => k_is)
    (case l21 => k_is)
    (case o21 => k_is)
    (case p21 => k_is)
    (case q21 => k_is)
    (case a22 => k_is)
    (case l22 => k_is)
    (case o22 => k_is)
    (case p22 => k_is)
    (case q22 => k_is)
    (case a23 => k_is)
    (case l23 => k_is)
    (case o23 => k_is)
    (case p23 => k_is)
    (case q23 => k_is)
    (case a24 => k_is)
    (case l24 => k_is)
    (case o24 => k_is)
    (case p24 => k_is)
    (case a25 => k_is)
    (case l25 => k_is)
    (case o25 => k_is)
    (case p25 => k_is)
    (case a26 => k_is)
    (case l26 => k_is)
    (case o26 => k_is)
    (case p26 => k_is)
    (case a27 => k_is)
    (case l27 => k_is)
    (case o27 => k_is)
    (case p27 => k_is)
    (case a28 => k_is)
    (case l28 => k_is)
    (case o28 => k_is)
    (case p28 => k_is)
    (case a29 => k_is)
    (case l29 => k_is)
    (case o29 => k_is)
    (case p29 => k_is)
    (case a30 => k_is)
    (case l30 => k_is)
    (case o30 => k_is)
    (case p30 => k_is)
    (case a31 => k_is)
    (case l31 => k_is)
    (case o31 => k_is)
    (case p31 => k_is)
    (case a32 => k_is)
    (case l32 => k_is)
    (case o32 => k_is)
    (case p32 => k_is)
    (case a33 => k_is)
    (case l33 => k_is)
    (case o33 => k_is)
    (case p33 => k_is)
    (case a34 => k_is)
    (case l34 => k_is)
    (case o34 => k_is)
    (case p34 => k_is)
    (case a35 => k_is)
    (case l35 => k_is)
    (case o35 => k_is)
    (case p35 => k_is)
    (case q35 => k_is)
    (case r35 => exact rfl)
    (case h35 => kernel_rfl)
    (case u35 => kernel_rfl)
    (case v35 => exact PySem.W.km_tabs_of Y _ (by decide))
    (case a36 => k_is)
    (case l36 => k_is)
    (case o36 => k_is)
    (case p36 => k_is)
    (case w35 => rfl)
end
