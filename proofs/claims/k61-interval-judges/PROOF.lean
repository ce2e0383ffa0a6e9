import PyProof.Rows.All
import Wide.All
import OpenK.AllK
import Wide.FinOn
import KE.KStateDown
import HandS.Base
import HandS.Call
import HandS.Ends
import HandS.List
import HandS.Comp
import HandS.Deep
import HandS.Dict
import HandS.Iter
import HandS.Exc
import HandS.More
import HandS.Words
import HandS.WordsExc
import HandS.IsInst
import HandS.Zip
import HandS.TupLe
import HandS.Defaults
import HandS.ExcOwn
import HandS.TupAny
import HandS.TupMul
import HandS.Strs
import HandS.Text
import HandS.HeadHook1
import HandS.HeadHook2
import HandS.SetFor
import HandS.Head0
import HandS.Head1
import HandS.Head2
import HandS.HeadEnd
import PySem.Challenge.RW_orderdims_k61_interval_judges
set_option Elab.async false
set_option linter.all false
set_option maxRecDepth 100000
set_option maxHeartbeats 1000000
/-! A layer of plain data over the hand layer: what an expression or a statement does is told by a
    total function over an environment of data (own work). -/
namespace DX
open PySem PySem.Spec PyProof.Rows L2

abbrev D := PyData

def keyD : Key → D
  | .inl i => .int i
  | .inr s => .str s

/-! ### a dict with tuples as keys, by its object: each entry's key, the key's address, the value -/
structure DEnt where
  k : List Key
  b : Addr
  v : V
def DRel (e : DEnt) (x : List Key × Addr × Value) : Prop := e.k = x.1 ∧ e.b = x.2.1 ∧ RelV e.v x.2.2
def DicAt (P : Program) (w : World) (a : Addr) (es : List DEnt) (h : Heap) : Prop := es.length ≤ sizeLine ∧ (a == sysModules) = false ∧ ∃ xs : List (List Key × Addr × Value), Paired DRel es xs ∧
  ∃ o ds ep, h.get? a = some o ∧ o.ExactDict ∧ o.data = .dict ds ep ∧ ds.toList = xs.map (entryOfKey (tupleKind (mixKind P w))) ∧ (xs.map (·.1)).Nodup
structure KC where
  P : Program
  w : World
  K : PySem.W.Frag
abbrev DicO (P : Program) (w : World) (a : Addr) (es : List DEnt) : HO := .ext (DicAt P w a es)

def Sub (F H : Hp) : Prop := ∀ a o, F a = some o → H a = some o
theorem rd_mono {F G : Hp} {a : Addr} {u : HO} (s : Sub F G) (h : Rd F a u) : Rd G a u := by
  rcases h with h | ⟨o, h⟩
  · exact .inl (s _ _ h)
  · exact .inr ⟨o, s _ _ h⟩
/-- a list that is read: of the run, or one of the module's own objects -/
def LsAt (K : PySem.W.Frag) (F : Hp) (a : Addr) (xs : List V) : Prop :=
  Rd F a (.lst xs) ∨ ∃ (its : Array Value) (n : Nat), K.lookup a = some { cls := .type "list", data := .seq its n } ∧ its.size ≤ sizeLine ∧ Vals xs its.toList
theorem LsAt.sq {K : PySem.W.Frag} {F : Hp} {a : Addr} {xs : List V} (h : LsAt K F a xs) : SqL K F a xs := by
  rcases h with h | ⟨its, n, h1, h2, h3⟩
  · exact .inl h
  · exact .inr ⟨_, its, n, h1, rfl, rfl, rfl, h2, h3⟩
theorem LsAt.mono {K : PySem.W.Frag} {F G : Hp} {a : Addr} {xs : List V} (s : Sub F G) (h : LsAt K F a xs) : LsAt K G a xs := by
  rcases h with h | h
  · exact .inl (rd_mono s h)
  · exact .inr h
/-! ### data that stand in a (frozen) heap -/
mutual
inductive Rp (K : KC) (F : Hp) : V → D → Prop
  | non : Rp K F .non .none
  | bl (b : Bool) : Rp K F (.bl b) (.bool b)
  | int (i : Int) : Rp K F (.int i) (.int i)
  | str (x : Str) : Rp K F (.str x) (.str x)
  | lst {a : Addr} {xs : List V} {ds : List D} : LsAt K.K F a xs → xs.length ≤ sizeLine → RpA K F xs ds → Rp K F (.ref a) (.list ds)
  | tup {a : Addr} {o : Obj} {xs : List V} {ds : List D} : F a = some (.frz o (.tup xs)) → o.dict = none → xs.length ≤ sizeLine → RpA K F xs ds → Rp K F (.ref a) (.tuple ds)
  | dI {a : Addr} {kv : List (Key × V)} {ds : List (Int × D)} : F a = some (.dK kv) → kv.map (·.1) = ds.map (fun p => Sum.inl p.1) → RpA K F (kv.map (·.2)) (ds.map (·.2)) → Rp K F (.ref a) (.dict (ds.map fun p => (.int p.1, p.2)))
  | dT {a : Addr} {es : List DEnt} {ds : List (List Int × D)} : F a = some (DicO K.P K.w a es) → (∀ e ∈ es, ∃ o, F e.b = some (.frz o (.tup (e.k.map kV)))) → es.map DEnt.k = ds.map (fun p => p.1.map Sum.inl) → RpA K F (es.map DEnt.v) (ds.map (·.2)) → Rp K F (.ref a) (.dict (ds.map fun p => (.tuple (p.1.map .int), p.2)))
inductive RpA (K : KC) (F : Hp) : List V → List D → Prop
  | nil : RpA K F [] []
  | cons {v : V} {vs : List V} {d : D} {ds : List D} : Rp K F v d → RpA K F vs ds → RpA K F (v :: vs) (d :: ds)
end

theorem Sub.refl (F : Hp) : Sub F F := fun _ _ h => h
theorem Sub.trans {F G H : Hp} (a : Sub F G) (b : Sub G H) : Sub F H := fun x o h => b x o (a x o h)
theorem Sub.nn {F H : Hp} (a : Sub F H) {q : Addr} (h : H q = none) : F q = none := by
  cases e : F q with
  | none => rfl
  | some o => rw [a q o e] at h; cases h
theorem Sub.updH {F H : Hp} {p : Addr} {o : HO} (a : Sub F H) (h : F p = none) : Sub F (upd H p o) := fun x u e => by
  rw [upd_ne (ne_of_none e h)]; exact a x u e
theorem Sub.new {H : Hp} {p : Addr} {o : HO} (h : H p = none) : Sub H (upd H p o) := (Sub.refl H).updH h
theorem Sub.updB {F H : Hp} {p : Addr} {o : HO} (a : Sub F H) : Sub (upd F p o) (upd H p o) := fun x u e => by
  unfold L2.upd at e ⊢
  by_cases hx : x = p
  · rw [if_pos hx] at e ⊢; exact e
  · rw [if_neg hx] at e ⊢; exact a x u e
/-- F with an entry that H has -/
theorem Sub.add {F H : Hp} {p : Addr} {o : HO} (a : Sub F H) (h : H p = some o) : Sub (L2.upd F p o) H := fun x u e => by
  unfold L2.upd at e
  by_cases hx : x = p
  · rw [if_pos hx] at e; rw [hx, h]; exact e
  · rw [if_neg hx] at e; exact a x u e

theorem sqL_mono {K : PySem.W.Frag} {F G : Hp} {a : Addr} {xs : List V} (s : Sub F G) (h : SqL K F a xs) : SqL K G a xs := by
  rcases h with (h | ⟨o, h⟩) | h
  · exact .inl (.inl (s _ _ h))
  · exact .inl (.inr ⟨o, s _ _ h⟩)
  · exact .inr h
theorem sqT_mono {K : PySem.W.Frag} {F G : Hp} {a : Addr} {xs : List V} (s : Sub F G) (h : SqT K F a xs) : SqT K G a xs := by
  rcases h with (h | ⟨o, h⟩) | h
  · exact .inl (.inl (s _ _ h))
  · exact .inl (.inr ⟨o, s _ _ h⟩)
  · exact .inr h

mutual
theorem Rp.mono {K : KC} {F G : Hp} (s : Sub F G) : ∀ {v : V} {d : D}, Rp K F v d → Rp K G v d
  | _, _, .non => .non
  | _, _, .bl b => .bl b
  | _, _, .int i => .int i
  | _, _, .str x => .str x
  | _, _, .lst h z r => .lst (LsAt.mono s h) z (RpA.mono s r)
  | _, _, .tup h n z r => .tup (s _ _ h) n z (RpA.mono s r)
  | _, _, .dI h e r => .dI (s _ _ h) e (RpA.mono s r)
  | _, _, .dT h q e r => .dT (s _ _ h) (fun x hx => (q x hx).imp fun o ho => s _ _ ho) e (RpA.mono s r)
theorem RpA.mono {K : KC} {F G : Hp} (s : Sub F G) : ∀ {vs : List V} {ds : List D}, RpA K F vs ds → RpA K G vs ds
  | _, _, .nil => .nil
  | _, _, .cons h t => .cons (Rp.mono s h) (RpA.mono s t)
end

theorem RpA.length {K : KC} {F : Hp} : ∀ {vs : List V} {ds : List D}, RpA K F vs ds → vs.length = ds.length
  | _, _, .nil => rfl
  | _, _, .cons _ t => by simp [RpA.length t]
theorem RpA.get {K : KC} {F : Hp} : ∀ {vs : List V} {ds : List D} {i : Nat} {d : D}, RpA K F vs ds → ds[i]? = some d → ∃ v, vs[i]? = some v ∧ Rp K F v d
  | _, _, _, _, .nil, e => by simp at e
  | _, _, 0, _, .cons h _, e => by simp at e; subst e; exact ⟨_, rfl, h⟩
  | _, _, i + 1, d, .cons _ t, e => by
    obtain ⟨v, h1, h2⟩ := RpA.get (i := i) (d := d) t (by simpa using e)
    exact ⟨v, by simpa using h1, h2⟩
theorem RpA.get' {K : KC} {F : Hp} : ∀ {vs : List V} {ds : List D} {i : Nat} {v : V}, RpA K F vs ds → vs[i]? = some v → ∃ d, ds[i]? = some d ∧ Rp K F v d
  | _, _, _, _, .nil, e => by simp at e
  | _, _, 0, _, .cons h _, e => by simp at e; subst e; exact ⟨_, rfl, h⟩
  | _, _, i + 1, d, .cons _ t, e => by
    obtain ⟨v, h1, h2⟩ := RpA.get' (i := i) (v := d) t (by simpa using e)
    exact ⟨v, by simpa using h1, h2⟩
theorem RpA.append {K : KC} {F : Hp} : ∀ {vs ws : List V} {ds es : List D}, RpA K F vs ds → RpA K F ws es → RpA K F (vs ++ ws) (ds ++ es)
  | _, _, _, _, .nil, h => h
  | _, _, _, _, .cons h t, k => .cons h (RpA.append t k)
theorem RpA.set {K : KC} {F : Hp} {v : V} {d : D} (h : Rp K F v d) : ∀ {vs : List V} {ds : List D} (i : Nat), RpA K F vs ds → RpA K F (vs.set i v) (ds.set i d)
  | _, _, _, .nil => .nil
  | _, _, 0, .cons _ t => .cons h t
  | _, _, i + 1, .cons q t => .cons q (RpA.set h i t)
theorem RpA.take {K : KC} {F : Hp} : ∀ {vs : List V} {ds : List D} (n : Nat), RpA K F vs ds → RpA K F (vs.take n) (ds.take n)
  | _, _, 0, _ => .nil
  | _, _, _ + 1, .nil => .nil
  | _, _, n + 1, .cons h t => .cons h (RpA.take n t)
theorem RpA.drop {K : KC} {F : Hp} : ∀ {vs : List V} {ds : List D} (n : Nat), RpA K F vs ds → RpA K F (vs.drop n) (ds.drop n)
  | _, _, 0, h => h
  | _, _, _ + 1, .nil => .nil
  | _, _, n + 1, .cons _ t => RpA.drop n t
theorem RpA.rev {K : KC} {F : Hp} : ∀ {vs : List V} {ds : List D}, RpA K F vs ds → RpA K F vs.reverse ds.reverse
  | _, _, .nil => .nil
  | _, _, .cons h t => by
    rw [List.reverse_cons, List.reverse_cons]
    exact RpA.append (RpA.rev t) (.cons h .nil)
theorem RpA.ints {K : KC} {F : Hp} : ∀ {vs : List V} {ns : List Int}, RpA K F vs (ns.map PyData.int) → vs = ns.map V.int
  | _, [], h => by cases h; rfl
  | _, n :: ns, h => by
    cases h with
    | cons h t => cases h; rw [RpA.ints t]; rfl
theorem RpA.ofInts {K : KC} {F : Hp} : ∀ (ns : List Int), RpA K F (ns.map V.int) (ns.map PyData.int)
  | [] => .nil
  | n :: ns => .cons (.int n) (RpA.ofInts ns)

/-! data without dicts are the layer's data -/
mutual
def plain : D → Bool
  | .list ds => plainAll ds
  | .tuple ds => plainAll ds
  | .dict _ => false
  | _ => true
def plainAll : List D → Bool
  | [] => true
  | d :: ds => plain d && plainAll ds
end
mutual
theorem Rp.dp {K : KC} {F : Hp} : ∀ {v : V} {d : D}, Rp K F v d → (d.canLay0 = true) → Dp K.K F v d
  | _, _, .non, _ => .non
  | _, _, .bl b, _ => .bl b
  | _, _, .int i, _ => .int i
  | _, _, .str x, _ => .str x
  | _, _, .lst h _ r, p => .lst h.sq (RpA.dp r (by simpa [PyData.canLay0] using p))
  | _, _, .tup h _ _ r, p => .tup (.inl (.inr ⟨_, h⟩)) (RpA.dp r (by simpa [PyData.canLay0] using p))
  | _, _, .dI _ _ _, p => by simp [PyData.canLay0] at p
  | _, _, .dT _ _ _ _, p => by simp [PyData.canLay0] at p
theorem RpA.dp {K : KC} {F : Hp} : ∀ {vs : List V} {ds : List D}, RpA K F vs ds → (PyData.canLayAll0 ds = true) → DpAll K.K F vs ds
  | _, _, .nil, _ => .nil
  | _, _, .cons h t, p => by
    simp only [PyData.canLayAll0, Bool.and_eq_true] at p
    exact .cons (Rp.dp h p.1) (RpA.dp t p.2)
end

/-! ### environments -/
inductive Ob where
  | lst (xs : List D)
  | dI (kvs : List (Int × D))
  | dT (kvs : List (List Int × D))
inductive Cell where
  | no
  | val (d : D)
  | own (o : Ob)
abbrev Rho := List Cell

/-- an object of one's own at q: its parts stand in F -/
def OR (K : KC) (F H : Hp) (q : Addr) : Ob → Prop
  | .lst ds => ∃ vs, H q = some (.lst vs) ∧ vs.length ≤ sizeLine ∧ RpA K F vs ds
  | .dI ds => ∃ kv : List (Key × V), H q = some (.dK kv) ∧ kv.map (·.1) = ds.map (fun p => Sum.inl p.1) ∧ RpA K F (kv.map (·.2)) (ds.map (·.2))
  | .dT ds => ∃ es : List DEnt, H q = some (DicO K.P K.w q es) ∧ (∀ e ∈ es, ∃ o, F e.b = some (.frz o (.tup (e.k.map kV)))) ∧ es.map DEnt.k = ds.map (fun p => p.1.map Sum.inl) ∧ RpA K F (es.map DEnt.v) (ds.map (·.2))
def Ob.d : Ob → D
  | .lst ds => .list ds
  | .dI ds => .dict (ds.map fun p => (.int p.1, p.2))
  | .dT ds => .dict (ds.map fun p => (.tuple (p.1.map .int), p.2))
theorem OR.mono {K : KC} {F G H H' : Hp} {q : Addr} {o : Ob} (s : Sub F G) (e : H' q = H q) (h : OR K F H q o) : OR K G H' q o := by
  cases o with
  | lst ds => obtain ⟨vs, h1, h2, h3⟩ := h; exact ⟨vs, by rw [e]; exact h1, h2, h3.mono s⟩
  | dI ds => obtain ⟨kvs, h1, h2, h3⟩ := h; exact ⟨kvs, by rw [e]; exact h1, h2, h3.mono s⟩
  | dT ds => obtain ⟨kvs, h1, h0, h2, h3⟩ := h; exact ⟨kvs, by rw [e]; exact h1, fun x hx => (h0 x hx).imp fun o ho => s _ _ ho, h2, h3.mono s⟩
theorem OR.ex {K : KC} {F H : Hp} {q : Addr} {o : Ob} (h : OR K F H q o) : ∃ u, H q = some u := by
  cases o with
  | lst ds => obtain ⟨vs, h1, _⟩ := h; exact ⟨_, h1⟩
  | dI ds => obtain ⟨kvs, h1, _⟩ := h; exact ⟨_, h1⟩
  | dT ds => obtain ⟨kvs, h1, _⟩ := h; exact ⟨_, h1⟩
/-- frozen -/
theorem OR.rp {K : KC} {F H : Hp} {q : Addr} {o : Ob} {u : HO} (h : OR K F H q o) (hu : H q = some u) (n : F q = none) : Rp K (upd F q u) (.ref q) o.d := by
  have s : Sub F (upd F q u) := Sub.new n
  cases o with
  | lst ds =>
    obtain ⟨vs, h1, h2, h3⟩ := h
    rw [h1] at hu; cases hu
    exact .lst (.inl (.inl upd_same)) h2 (h3.mono s)
  | dI ds =>
    obtain ⟨kvs, h1, h2, h3⟩ := h
    rw [h1] at hu; cases hu; exact .dI upd_same h2 (h3.mono s)
  | dT ds =>
    obtain ⟨kvs, h1, h0, h2, h3⟩ := h
    rw [h1] at hu; cases hu; exact .dT upd_same (fun x hx => (h0 x hx).imp fun o ho => s _ _ ho) h2 (h3.mono s)

/-- slots σ in the heap H are told by ρ: F is what is frozen, B what stood before and stays -/
structure Env (K : KC) (B F H : Hp) (σ : L2.St) (ρ : Rho) : Prop where
  subB : Sub B H
  sub : Sub F H
  len : ρ.length = σ.length
  val : ∀ (i : Nat) (d : D), ρ[i]? = some (.val d) → ∃ v, σ[i]? = some (some v) ∧ Rp K F v d
  own : ∀ (i : Nat) (o : Ob), ρ[i]? = some (.own o) → ∃ q, σ[i]? = some (some (.ref q)) ∧ F q = none ∧ B q = none ∧ OR K F H q o
  inj : ∀ (i j : Nat) (o o' : Ob) (q : Addr), i ≠ j → ρ[i]? = some (.own o) → ρ[j]? = some (.own o') → σ[i]? = some (some (.ref q)) → σ[j]? = some (some (.ref q)) → False

/-- what is frozen grows, outside of B -/
structure Gr (B F F' : Hp) : Prop where
  sub : Sub F F'
  new : ∀ a, F' a ≠ none → F a ≠ none ∨ B a = none
theorem Gr.refl {B F : Hp} : Gr B F F := ⟨Sub.refl F, fun _ h => .inl h⟩
theorem Gr.trans {B F G H : Hp} (a : Gr B F G) (b : Gr B G H) : Gr B F H :=
  ⟨a.sub.trans b.sub, fun x h => (b.new x h).elim (fun z => a.new x z) .inr⟩

/-- new objects alone -/
structure Grow (F H F' H' : Hp) : Prop where
  subF : Sub F F'
  subH : Sub H H'
  sub : Sub F' H'
  new : ∀ a, F' a ≠ none → F a ≠ none ∨ H a = none
theorem Grow.refl {F H : Hp} (s : Sub F H) : Grow F H F H := ⟨Sub.refl F, Sub.refl H, s, fun _ h => .inl h⟩
theorem Grow.trans {F H F1 H1 F2 H2 : Hp} (a : Grow F H F1 H1) (b : Grow F1 H1 F2 H2) : Grow F H F2 H2 :=
  ⟨a.subF.trans b.subF, a.subH.trans b.subH, b.sub, fun x h => (b.new x h).elim (fun z => a.new x z) fun z => .inr (a.subH.nn z)⟩
theorem Grow.gr {B F H F' H' : Hp} (g : Grow F H F' H') (s : Sub B H) : Gr B F F' := ⟨g.subF, fun a h => (g.new a h).imp id fun z => s.nn z⟩
/-- a new object, frozen at once -/
theorem Grow.laid {F H : Hp} {p : Addr} {o : HO} (s : Sub F H) (n : H p = none) : Grow F H (upd F p o) (upd H p o) :=
  ⟨Sub.new (s.nn n), Sub.new n, s.updB, fun a h => by
    by_cases e : a = p
    · exact .inr (by rw [e]; exact n)
    · rw [upd_ne e] at h; exact .inl h⟩
/-- a new object, not frozen -/
theorem Grow.made {F H : Hp} {p : Addr} {o : HO} (s : Sub F H) (n : H p = none) : Grow F H F (upd H p o) :=
  ⟨Sub.refl F, Sub.new n, s.trans (Sub.new n), fun _ h => .inl h⟩

theorem Env.grow {K : KC} {B F H F' H' : Hp} {σ : L2.St} {ρ : Rho} (E : Env K B F H σ ρ) (g : Grow F H F' H') : Env K B F' H' σ ρ where
  subB := E.subB.trans g.subH
  sub := g.sub
  len := E.len
  val := fun i d e => by
    obtain ⟨v, h1, h2⟩ := E.val i d e
    exact ⟨v, h1, h2.mono g.subF⟩
  own := fun i o e => by
    obtain ⟨q, h1, h2, h3, h4⟩ := E.own i o e
    obtain ⟨u, hu⟩ := h4.ex
    refine ⟨q, h1, ?_, h3, h4.mono g.subF (by rw [g.subH q u hu, hu])⟩
    cases z : F' q with
    | none => rfl
    | some x =>
      rcases g.new q (by rw [z]; exact fun e => nomatch e) with a | a
      · exact absurd h2 a
      · rw [hu] at a; cases a
  inj := E.inj

/-- the frozen part alone grows by an entry of the heap that no own slot has -/
theorem Env.freeze {K : KC} {B F H : Hp} {σ : L2.St} {ρ : Rho} {q : Addr} {u : HO} (E : Env K B F H σ ρ) (hu : H q = some u) (n : F q = none) (hq : ∀ (i : Nat) (o : Ob), ρ[i]? = some (.own o) → σ[i]? = some (some (.ref q)) → False) :
    Env K B (upd F q u) H σ ρ where
  subB := E.subB
  sub := E.sub.add hu
  len := E.len
  val := fun i d e => by
    obtain ⟨v, h1, h2⟩ := E.val i d e
    exact ⟨v, h1, h2.mono (Sub.new n)⟩
  own := fun i o e => by
    obtain ⟨q', h1, h2, h3, h4⟩ := E.own i o e
    have ne : q' ≠ q := fun z => hq i o e (by rw [h1, z])
    exact ⟨q', h1, by rw [upd_ne ne]; exact h2, h3, h4.mono (Sub.new n) rfl⟩
  inj := E.inj
theorem Gr.freeze {B F : Hp} {q : Addr} {u : HO} (n : F q = none) (b : B q = none) : Gr B F (upd F q u) :=
  ⟨Sub.new n, fun a h => by
    by_cases e : a = q
    · exact .inr (by rw [e]; exact b)
    · rw [upd_ne e] at h; exact .inl h⟩

/-- a slot is stored with frozen data -/
theorem Env.setVal {K : KC} {B F H : Hp} {σ : L2.St} {ρ : Rho} {i : Nat} {v : V} {d : D} (E : Env K B F H σ ρ) (h : Rp K F v d) : Env K B F H (σ.set i (some v)) (ρ.set i (.val d)) where
  subB := E.subB
  sub := E.sub
  len := by simp [E.len]
  val := fun j d' e => by
    by_cases hj : i = j
    · subst hj
      have hl : i < ρ.length := by
        by_cases z : i < ρ.length
        · exact z
        · rw [List.getElem?_eq_none (by simp; omega)] at e; cases e
      rw [List.getElem?_set_self hl] at e
      cases e
      exact ⟨v, List.getElem?_set_self (by rw [← E.len]; exact hl), h⟩
    · rw [List.getElem?_set_ne hj] at e ⊢
      exact E.val j d' e
  own := fun j o e => by
    by_cases hj : i = j
    · subst hj
      have hl : i < ρ.length := by
        by_cases z : i < ρ.length
        · exact z
        · rw [List.getElem?_eq_none (by simp; omega)] at e; cases e
      rw [List.getElem?_set_self hl] at e
      cases e
    · rw [List.getElem?_set_ne hj] at e ⊢
      exact E.own j o e
  inj := fun j k o o' q hjk e1 e2 e3 e4 => by
    have hj : i ≠ j := fun z => by
      subst z
      by_cases hl : i < ρ.length
      · rw [List.getElem?_set_self hl] at e1; cases e1
      · rw [List.getElem?_eq_none (by simp; omega)] at e1; cases e1
    have hk : i ≠ k := fun z => by
      subst z
      by_cases hl : i < ρ.length
      · rw [List.getElem?_set_self hl] at e2; cases e2
      · rw [List.getElem?_eq_none (by simp; omega)] at e2; cases e2
    rw [List.getElem?_set_ne hj] at e1 e3
    rw [List.getElem?_set_ne hk] at e2 e4
    exact E.inj j k o o' q hjk e1 e2 e3 e4
/-- a slot is stored with an object of one's own -/
theorem Env.setOwn {K : KC} {B F H : Hp} {σ : L2.St} {ρ : Rho} {i : Nat} {q : Addr} {o : Ob} (E : Env K B F H σ ρ) (h : OR K F H q o) (hF : F q = none) (hB : B q = none)
    (hq : ∀ (j : Nat) (o' : Ob), j ≠ i → ρ[j]? = some (.own o') → σ[j]? = some (some (.ref q)) → False) : Env K B F H (σ.set i (some (.ref q))) (ρ.set i (.own o)) where
  subB := E.subB
  sub := E.sub
  len := by simp [E.len]
  val := fun j d' e => by
    by_cases hj : i = j
    · subst hj
      by_cases hl : i < ρ.length
      · rw [List.getElem?_set_self hl] at e; cases e
      · rw [List.getElem?_eq_none (by simp; omega)] at e; cases e
    · rw [List.getElem?_set_ne hj] at e ⊢
      exact E.val j d' e
  own := fun j o' e => by
    by_cases hj : i = j
    · subst hj
      by_cases hl : i < ρ.length
      · rw [List.getElem?_set_self hl] at e; cases e
        exact ⟨q, List.getElem?_set_self (by rw [← E.len]; exact hl), hF, hB, h⟩
      · rw [List.getElem?_eq_none (by simp; omega)] at e; cases e
    · rw [List.getElem?_set_ne hj] at e ⊢
      exact E.own j o' e
  inj := fun j k o1 o2 q' hjk e1 e2 e3 e4 => by
    have lenσ := E.len
    by_cases hj : i = j
    · subst hj
      have hl : i < ρ.length := by
        by_cases z : i < ρ.length
        · exact z
        · rw [List.getElem?_eq_none (by simp; omega)] at e1; cases e1
      rw [List.getElem?_set_self (by rw [← lenσ]; exact hl)] at e3
      cases e3
      rw [List.getElem?_set_ne hjk] at e2 e4
      exact hq k o2 (Ne.symm hjk) e2 e4
    · rw [List.getElem?_set_ne hj] at e1 e3
      by_cases hk : i = k
      · subst hk
        have hl : i < ρ.length := by
          by_cases z : i < ρ.length
          · exact z
          · rw [List.getElem?_eq_none (by simp; omega)] at e2; cases e2
        rw [List.getElem?_set_self (by rw [← lenσ]; exact hl)] at e4
        cases e4
        exact hq j o1 hjk e1 e3
      · rw [List.getElem?_set_ne hk] at e2 e4
        exact E.inj j k o1 o2 q' hjk e1 e2 e3 e4
/-- an object of one's own is written -/
theorem Env.write {K : KC} {B F H : Hp} {σ : L2.St} {ρ : Rho} {i : Nat} {q : Addr} {o o' : Ob} {u : HO} (E : Env K B F H σ ρ) (ho : ρ[i]? = some (.own o)) (hs : σ[i]? = some (some (.ref q)))
    (h : OR K F (upd H q u) q o') : Env K B F (upd H q u) σ (ρ.set i (.own o')) := by
  obtain ⟨q', h1, h2, h3, h4⟩ := E.own i o ho
  rw [hs] at h1; cases h1
  have hl : i < ρ.length := by
    by_cases z : i < ρ.length
    · exact z
    · rw [List.getElem?_eq_none (by omega)] at ho; cases ho
  refine ⟨E.subB.updH h3, E.sub.updH h2, by simp [E.len], fun j d e => ?_, fun j o1 e => ?_, fun j k o1 o2 q' hjk e1 e2 e3 e4 => ?_⟩
  · by_cases hj : i = j
    · subst hj; rw [List.getElem?_set_self hl] at e; cases e
    · rw [List.getElem?_set_ne hj] at e; exact E.val j d e
  · by_cases hj : i = j
    · subst hj; rw [List.getElem?_set_self hl] at e; cases e
      exact ⟨q, hs, h2, h3, h⟩
    · rw [List.getElem?_set_ne hj] at e
      obtain ⟨q2, a1, a2, a3, a4⟩ := E.own j o1 e
      have ne : q2 ≠ q := fun z => by subst z; exact E.inj i j o o1 q2 hj ho e hs a1
      exact ⟨q2, a1, a2, a3, a4.mono (Sub.refl F) (upd_ne ne)⟩
  · have g : ∀ (k : Nat) (o : Ob), (ρ.set i (.own o'))[k]? = some (.own o) → ∃ o3, ρ[k]? = some (.own o3) := fun k o e => by
      by_cases hk : i = k
      · subst hk; exact ⟨_, ho⟩
      · rw [List.getElem?_set_ne hk] at e; exact ⟨_, e⟩
    obtain ⟨x1, f1⟩ := g j o1 e1
    obtain ⟨x2, f2⟩ := g k o2 e2
    exact E.inj j k x1 x2 q' hjk f1 f2 e3 e4
/-- a slot's own object is frozen -/
theorem Env.frz {K : KC} {B F H : Hp} {σ : L2.St} {ρ : Rho} {i : Nat} {q : Addr} {o : Ob} {u : HO} (E : Env K B F H σ ρ) (ho : ρ[i]? = some (.own o)) (hs : σ[i]? = some (some (.ref q))) (hu : H q = some u) :
    Env K B (upd F q u) H σ (ρ.set i (.val o.d)) ∧ Gr B F (upd F q u) ∧ Rp K (upd F q u) (.ref q) o.d := by
  obtain ⟨q', h1, h2, h3, h4⟩ := E.own i o ho
  rw [hs] at h1; cases h1
  have hl : i < ρ.length := by
    by_cases z : i < ρ.length
    · exact z
    · rw [List.getElem?_eq_none (by omega)] at ho; cases ho
  have r := h4.rp hu h2
  refine ⟨⟨E.subB, E.sub.add hu, by simp [E.len], fun j d e => ?_, fun j o1 e => ?_, fun j k o1 o2 q' hjk e1 e2 e3 e4 => ?_⟩, Gr.freeze h2 h3, r⟩
  · by_cases hj : i = j
    · subst hj; rw [List.getElem?_set_self hl] at e; cases e; exact ⟨_, hs, r⟩
    · rw [List.getElem?_set_ne hj] at e
      obtain ⟨v, a1, a2⟩ := E.val j d e
      exact ⟨v, a1, a2.mono (Sub.new h2)⟩
  · by_cases hj : i = j
    · subst hj; rw [List.getElem?_set_self hl] at e; cases e
    · rw [List.getElem?_set_ne hj] at e
      obtain ⟨q2, a1, a2, a3, a4⟩ := E.own j o1 e
      have ne : q2 ≠ q := fun z => by subst z; exact E.inj i j o o1 q2 hj ho e hs a1
      exact ⟨q2, a1, by rw [upd_ne ne]; exact a2, a3, a4.mono (Sub.new h2) rfl⟩
  · have g : ∀ (k : Nat) (o1 : Ob), (ρ.set i (.val o.d))[k]? = some (.own o1) → ρ[k]? = some (.own o1) := fun k o1 e => by
      by_cases hk : i = k
      · subst hk; rw [List.getElem?_set_self hl] at e; cases e
      · rw [List.getElem?_set_ne hk] at e; exact e
    exact E.inj j k o1 o2 q' hjk (g j o1 e1) (g k o2 e2) e3 e4
end DX

set_option maxHeartbeats 1000000
namespace DX
open PySem PySem.Spec PyProof.Rows L2

/-! ### what is reckoned -/
inductive MR (α : Type) where
  | ok (a : α) (ρ : Rho)
  | exc (s : Str) (ρ : Rho)
  | bad
abbrev M (α : Type) := Rho → MR α
def bnd {α β : Type} (m : MR α) (f : α → Rho → MR β) : MR β := match m with
  | .ok a ρ => f a ρ
  | .exc s ρ => .exc s ρ
  | .bad => .bad
def lft {α : Type} (o : Option α) (ρ : Rho) : MR α := match o with
  | some a => .ok a ρ
  | none => .bad
@[simp] theorem bnd_ok {α β : Type} (a : α) (ρ : Rho) (f : α → Rho → MR β) : bnd (.ok a ρ) f = f a ρ := rfl
@[simp] theorem bnd_exc {α β : Type} (s : Str) (ρ : Rho) (f : α → Rho → MR β) : bnd (.exc s ρ : MR α) f = .exc s ρ := rfl
@[simp] theorem bnd_bad {α β : Type} (f : α → Rho → MR β) : bnd (.bad : MR α) f = .bad := rfl
@[simp] theorem lft_some {α : Type} (a : α) (ρ : Rho) : lft (some a) ρ = .ok a ρ := rfl
@[simp] theorem lft_none {α : Type} (ρ : Rho) : lft (none : Option α) ρ = .bad := rfl

/-! ### the contexts -/
/-- the fixed part -/
structure GC where
  K : KC
  mg : Str → Option Value
  base : Heap
/-- a def's names -/
structure SS where
  N : List Str
  sc : Scope
  blk : Option Scope := none
def SS.fn (s : SS) (x : Str) : Bool := match s.blk with
  | some sc => sc.names.lookup x == some .cell
  | none => true
structure Ok (g : GC) (s : SS) (k : Nat) (W : WX) (X : Cx) : Prop where
  hP : X.prog = g.K.P
  hw : X.w = g.K.w
  hK : X.K = g.K.K
  hmg : X.mg = g.mg
  hbase : X.base = g.base
  hN : X.N = s.N
  hsc : X.env.scope = s.sc
  kind : s.sc.kind = .function
  hfn : ∀ x, s.fn x = true → X.fn x = true
  calm : X.calm = true
  room : Room k X.A
  nd : s.N.Nodup
  tk : Takes X W
  po : PassesOwn (model X.prog X.w) X.A X.env X.xe

def visB (sc : Scope) (x : Str) : Bool := match sc.names.lookup x with
  | some .local => true
  | some .cell => true
  | some .free => true
  | _ => false
def locB (s : SS) (x : Str) : Bool := match s.sc.names.lookup x with
  | some .local => true
  | some .cell => s.fn x
  | _ => false
def gloB (sc : Scope) (x : Str) : Bool := match sc.names.lookup x with
  | some .globalImplicit => true
  | _ => false
theorem vis_of {sc : Scope} {x : Str} (h : visB sc x = true) : Vis sc x := by
  unfold visB at h
  split at h <;> first | exact .inl (by assumption) | exact .inr (.inl (by assumption)) | exact .inr (.inr (by assumption)) | cases h
section
variable {g : GC} {s : SS} {k : Nat} {W : WX} {X : Cx}
theorem Ok.vis (ok : Ok g s k W X) {x : Str} (h : visB s.sc x = true) : Vis X.env.scope x := by rw [ok.hsc]; exact vis_of h
theorem Ok.at (ok : Ok g s k W X) {x : Str} {i : Nat} (h : s.N[i]? = some x) : X.N[i]? = some x := by rw [ok.hN]; exact h
theorem Ok.ndX (ok : Ok g s k W X) : X.N.Nodup := by rw [ok.hN]; exact ok.nd
theorem Ok.loc (ok : Ok g s k W X) {x : Str} (h : locB s x = true) : Loc X.env.scope x ∧ (X.fn x = true ∨ X.env.scope.names.lookup x = some .local) := by
  rw [ok.hsc]
  unfold locB at h
  split at h
  · rename_i e; exact ⟨.inl e, .inr e⟩
  · rename_i e; exact ⟨.inr e, .inl (ok.hfn x h)⟩
  · cases h
theorem Ok.glo (ok : Ok g s k W X) {x : Str} (h : gloB s.sc x = true) : Gl X x := by
  show X.env.scope.names.lookup x = some .globalImplicit
  rw [ok.hsc]
  unfold gloB at h
  split at h
  · assumption
  · cases h
end

/-! ### judgements -/
def PoE (K : KC) (mg : Str → Option Value) (W : WX) (B F : Hp) (σ : L2.St) (Q : VK) : MR D → Prop
  | .ok d ρ' => ∀ v F' H', Gr B F F' → Env K B F' H' σ ρ' → Rp K F' v d → Q v H'
  | .exc x ρ' => ∀ C F' H', mg x = some (.ref C) → Gr B F F' → Env K B F' H' σ ρ' → W (.ref C) none σ H'
  | .bad => False
def PoT (K : KC) (mg : Str → Option Value) (W : WX) (B F : Hp) (σ : L2.St) (Q : Bool → Hp → Prop) : MR Bool → Prop
  | .ok b ρ' => ∀ F' H', Gr B F F' → Env K B F' H' σ ρ' → Q b H'
  | .exc x ρ' => ∀ C F' H', mg x = some (.ref C) → Gr B F F' → Env K B F' H' σ ρ' → W (.ref C) none σ H'
  | .bad => False
def PoA (K : KC) (mg : Str → Option Value) (W : WX) (B F : Hp) (σ : L2.St) (Q : List V → Hp → Prop) : MR (List D) → Prop
  | .ok ds ρ' => ∀ vs F' H', Gr B F F' → Env K B F' H' σ ρ' → RpA K F' vs ds → Q vs H'
  | .exc x ρ' => ∀ C F' H', mg x = some (.ref C) → Gr B F F' → Env K B F' H' σ ρ' → W (.ref C) none σ H'
  | .bad => False
/-- a new object, of nobody yet -/
def PoL (K : KC) (mg : Str → Option Value) (W : WX) (B F : Hp) (σ : L2.St) (Q : VK) : MR Ob → Prop
  | .ok o ρ' => ∀ q F' H', Gr B F F' → Env K B F' H' σ ρ' → F' q = none → B q = none → OR K F' H' q o → (∀ (i : Nat) (o' : Ob), ρ'[i]? = some (.own o') → σ[i]? = some (some (.ref q)) → False) → Q (.ref q) H'
  | .exc x ρ' => ∀ C F' H', mg x = some (.ref C) → Gr B F F' → Env K B F' H' σ ρ' → W (.ref C) none σ H'
  | .bad => False

def SimE (K : KC) (mg : Str → Option Value) (W : WX) (t : TE) (m : M D) : Prop := ∀ B F H σ ρ Q, Env K B F H σ ρ → PoE K mg W B F σ Q (m ρ) → t σ H Q
def SimT (K : KC) (mg : Str → Option Value) (W : WX) (t : TT) (m : M Bool) : Prop := ∀ B F H σ ρ Q, Env K B F H σ ρ → PoT K mg W B F σ Q (m ρ) → t σ H Q
def SimA (K : KC) (mg : Str → Option Value) (W : WX) (t : TA) (m : M (List D)) : Prop := ∀ B F H σ ρ Q, Env K B F H σ ρ → PoA K mg W B F σ Q (m ρ) → t σ H Q
def SimL (K : KC) (mg : Str → Option Value) (W : WX) (t : TE) (m : M Ob) : Prop := ∀ B F H σ ρ Q, Env K B F H σ ρ → PoL K mg W B F σ Q (m ρ) → t σ H Q

def DM (g : GC) (W : WX) (X : Cx) (e : Expr) (m : M D) : Prop := ∃ t, PE X e t ∧ SimE g.K g.mg W t m
def DT (g : GC) (W : WX) (X : Cx) (e : Expr) (m : M Bool) : Prop := ∃ t, PT X e t ∧ SimT g.K g.mg W t m
def DA (g : GC) (W : WX) (X : Cx) (es : List Expr) (m : M (List D)) : Prop := ∃ t, PA X es t ∧ SimA g.K g.mg W t m
def DL (g : GC) (W : WX) (X : Cx) (e : Expr) (m : M Ob) : Prop := ∃ t, PE X e t ∧ SimL g.K g.mg W t m

section
variable {K : KC} {mg : Str → Option Value} {W : WX} {B F F1 H H1 : Hp} {σ : L2.St}
theorem PoE.later {Q : VK} {r : MR D} (g : Gr B F F1) (h : PoE K mg W B F σ Q r) : PoE K mg W B F1 σ Q r := by
  cases r with
  | ok d ρ => exact fun v F' H' g' E r => h v F' H' (g.trans g') E r
  | exc x ρ => exact fun C F' H' e g' E => h C F' H' e (g.trans g') E
  | bad => exact h
theorem PoT.later {Q : Bool → Hp → Prop} {r : MR Bool} (g : Gr B F F1) (h : PoT K mg W B F σ Q r) : PoT K mg W B F1 σ Q r := by
  cases r with
  | ok d ρ => exact fun F' H' g' E => h F' H' (g.trans g') E
  | exc x ρ => exact fun C F' H' e g' E => h C F' H' e (g.trans g') E
  | bad => exact h
theorem PoA.later {Q : List V → Hp → Prop} {r : MR (List D)} (g : Gr B F F1) (h : PoA K mg W B F σ Q r) : PoA K mg W B F1 σ Q r := by
  cases r with
  | ok d ρ => exact fun v F' H' g' E r => h v F' H' (g.trans g') E r
  | exc x ρ => exact fun C F' H' e g' E => h C F' H' e (g.trans g') E
  | bad => exact h
theorem PoL.later {Q : VK} {r : MR Ob} (g : Gr B F F1) (h : PoL K mg W B F σ Q r) : PoL K mg W B F1 σ Q r := by
  cases r with
  | ok d ρ => exact fun v F' H' g' => h v F' H' (g.trans g')
  | exc x ρ => exact fun C F' H' e g' E => h C F' H' e (g.trans g') E
  | bad => exact h
end

/-! ### one after another -/
section
variable {K : KC} {mg : Str → Option Value} {W : WX}
/-- run a part, go on with its value -/
theorem SimE.then {t : TE} {m : M D} (h : SimE K mg W t m) {β : Type} {B F H : Hp} {σ : L2.St} {ρ : Rho} {R : MR β → Prop} {Q : VK} {f : D → Rho → MR β} (E : Env K B F H σ ρ)
    (hx : ∀ x ρ', R (.exc x ρ') → ∀ C F' H', mg x = some (.ref C) → Gr B F F' → Env K B F' H' σ ρ' → W (.ref C) none σ H') (hb : R .bad → False)
    (hR : R (bnd (m ρ) f)) (go : ∀ d ρ1 v F1 H1, Gr B F F1 → Env K B F1 H1 σ ρ1 → Rp K F1 v d → R (f d ρ1) → Q v H1) : t σ H Q := by
  refine h B F H σ ρ Q E ?_
  cases e : m ρ with
  | ok d ρ1 => rw [e] at hR; exact fun v F1 H1 g1 E1 r1 => go d ρ1 v F1 H1 g1 E1 r1 hR
  | exc x ρ1 => rw [e] at hR; exact hx x ρ1 hR
  | bad => rw [e] at hR; exact hb hR
theorem SimT.then {t : TT} {m : M Bool} (h : SimT K mg W t m) {β : Type} {B F H : Hp} {σ : L2.St} {ρ : Rho} {R : MR β → Prop} {Q : Bool → Hp → Prop} {f : Bool → Rho → MR β} (E : Env K B F H σ ρ)
    (hx : ∀ x ρ', R (.exc x ρ') → ∀ C F' H', mg x = some (.ref C) → Gr B F F' → Env K B F' H' σ ρ' → W (.ref C) none σ H') (hb : R .bad → False)
    (hR : R (bnd (m ρ) f)) (go : ∀ b ρ1 F1 H1, Gr B F F1 → Env K B F1 H1 σ ρ1 → R (f b ρ1) → Q b H1) : t σ H Q := by
  refine h B F H σ ρ Q E ?_
  cases e : m ρ with
  | ok d ρ1 => rw [e] at hR; exact fun F1 H1 g1 E1 => go d ρ1 F1 H1 g1 E1 hR
  | exc x ρ1 => rw [e] at hR; exact hx x ρ1 hR
  | bad => rw [e] at hR; exact hb hR
theorem SimA.then {t : TA} {m : M (List D)} (h : SimA K mg W t m) {β : Type} {B F H : Hp} {σ : L2.St} {ρ : Rho} {R : MR β → Prop} {Q : List V → Hp → Prop} {f : List D → Rho → MR β} (E : Env K B F H σ ρ)
    (hx : ∀ x ρ', R (.exc x ρ') → ∀ C F' H', mg x = some (.ref C) → Gr B F F' → Env K B F' H' σ ρ' → W (.ref C) none σ H') (hb : R .bad → False)
    (hR : R (bnd (m ρ) f)) (go : ∀ d ρ1 v F1 H1, Gr B F F1 → Env K B F1 H1 σ ρ1 → RpA K F1 v d → R (f d ρ1) → Q v H1) : t σ H Q := by
  refine h B F H σ ρ Q E ?_
  cases e : m ρ with
  | ok d ρ1 => rw [e] at hR; exact fun v F1 H1 g1 E1 r1 => go d ρ1 v F1 H1 g1 E1 r1 hR
  | exc x ρ1 => rw [e] at hR; exact hx x ρ1 hR
  | bad => rw [e] at hR; exact hb hR
end

/-! ### names, constants -/
def mVar (i : Nat) : M D := fun ρ => match ρ[i]? with
  | some (.val d) => .ok d ρ
  | _ => .bad
def mC (d : D) : M D := fun ρ => .ok d ρ
section
variable {g : GC} {s : SS} {k : Nat} {W : WX} {X : Cx} {pos : Pos}
theorem dm_var (ok : Ok g s k W X) (i : Nat) {x : Str} (hN : s.N[i]? = some x := by rfl) (hv : visB s.sc x = true := by decide +kernel) (hd : (x == ("__debug__" : Str)) = false := by decide +kernel)
    (hcd : (x == ("__classdict__" : Str)) = false := by decide +kernel) : DM g W X (.Name x pos) (mVar i) := by
  refine ⟨_, pe_var (ok.at hN) (ok.vis hv) hd hcd, fun B F H σ ρ Q E h => ?_⟩
  unfold mVar at h
  cases e : ρ[i]? with
  | none => rw [e] at h; exact h.elim
  | some c =>
    rw [e] at h
    cases c with
    | val d =>
      obtain ⟨v, h1, h2⟩ := E.val i d e
      exact ⟨v, h1, h v F H Gr.refl E h2⟩
    | no => exact h.elim
    | own o => exact h.elim
theorem dm_const {e : Expr} {v : V} {d : D} (h : PE X e (tC v)) (r : ∀ F, Rp g.K F v d) : DM g W X e (mC d) :=
  ⟨_, h, fun B F H σ ρ Q E q => q v F H Gr.refl E (r F)⟩
theorem dm_int {i j pos} : DM g W X (.Constant (.int i) j pos) (mC (.int i)) := dm_const pe_int fun _ => .int i
theorem dm_bool {i j pos} : DM g W X (.Constant (.bool i) j pos) (mC (.bool i)) := dm_const pe_bl fun _ => .bl i
theorem dm_none {j pos} : DM g W X (.Constant .none j pos) (mC .none) := dm_const pe_non fun _ => .non
theorem dm_str {i j pos} : DM g W X (.Constant (.str i) j pos) (mC (.str i)) := dm_const pe_str fun _ => .str i
/-- a module's int -/
theorem dm_gint (ok : Ok g s k W X) {x : Str} {i : Int} (h : ∃ t, g.mg x = some (.int i t)) (hg : gloB s.sc x = true := by decide +kernel) (hd : (x == ("__debug__" : Str)) = false := by decide +kernel) : DM g W X (.Name x pos) (mC (.int i)) := by
  obtain ⟨t, h⟩ := h
  exact dm_const (v := .int i) (pe_glob (ok.glo hg) (by rw [ok.hmg]; exact h) ⟨t, rfl⟩ hd) fun _ => .int i
/-- an own object, read: it is frozen from now on -/
def mFrz (i : Nat) : M D := fun ρ => match ρ[i]? with
  | some (.val d) => .ok d ρ
  | some (.own o) => .ok o.d (ρ.set i (.val o.d))
  | _ => .bad
theorem dm_frz (ok : Ok g s k W X) (i : Nat) {x : Str} (hN : s.N[i]? = some x := by rfl) (hv : visB s.sc x = true := by decide +kernel) (hd : (x == ("__debug__" : Str)) = false := by decide +kernel)
    (hcd : (x == ("__classdict__" : Str)) = false := by decide +kernel) : DM g W X (.Name x pos) (mFrz i) := by
  refine ⟨_, pe_var (ok.at hN) (ok.vis hv) hd hcd, fun B F H σ ρ Q E h => ?_⟩
  unfold mFrz at h
  cases e : ρ[i]? with
  | none => rw [e] at h; exact h.elim
  | some c =>
    rw [e] at h
    cases c with
    | val d =>
      obtain ⟨v, h1, h2⟩ := E.val i d e
      exact ⟨v, h1, h v F H Gr.refl E h2⟩
    | no => exact h.elim
    | own o =>
      obtain ⟨q, h1, h2, h3, h4⟩ := E.own i o e
      obtain ⟨u, hu⟩ := h4.ex
      obtain ⟨E', g', r'⟩ := E.frz e h1 hu
      exact ⟨.ref q, h1, h (.ref q) _ H g' E' r'⟩
end

/-! ### a new object is frozen -/
def mLd (m : M Ob) : M D := fun ρ => bnd (m ρ) fun o ρ1 => .ok o.d ρ1
section
variable {g : GC} {s : SS} {k : Nat} {W : WX} {X : Cx} {pos : Pos}
theorem DL.dm {e : Expr} {m : M Ob} (h : DL g W X e m) : DM g W X e (mLd m) := by
  obtain ⟨t, hp, hs⟩ := h
  refine ⟨t, hp, fun B F H σ ρ Q E q => hs B F H σ ρ Q E ?_⟩
  unfold mLd at q
  cases e : m ρ with
  | ok o ρ1 =>
    rw [e] at q
    intro a F' H' g' E' hF hB hO hq
    obtain ⟨u, hu⟩ := hO.ex
    exact q (.ref a) (upd F' a u) H' (g'.trans (Gr.freeze hF hB)) (E'.freeze hu hF hq) (hO.rp hu hF)
  | exc x ρ1 => rw [e] at q; exact q
  | bad => rw [e] at q; exact q
end

/-! ### two places, by values -/
/-- a rule by values, as data: f tells the value -/
def RV2 (K : KC) (r : R2) (f : D → D → Option D) : Prop := ∀ (F H : Hp) (x y : V) (d e z : D) (Q : VK), Sub F H → Rp K F x d → Rp K F y e → f d e = some z →
  (∀ v F' H', Grow F H F' H' → Rp K F' v z → Q v H') → r x y H Q
def RV1 (K : KC) (r : V → Hp → VK → Prop) (f : D → Option D) : Prop := ∀ (F H : Hp) (x : V) (d z : D) (Q : VK), Sub F H → Rp K F x d → f d = some z →
  (∀ v F' H', Grow F H F' H' → Rp K F' v z → Q v H') → r x H Q
def RVn (K : KC) (r : List V → Hp → VK → Prop) (f : List D → Option D) : Prop := ∀ (F H : Hp) (xs : List V) (ds : List D) (z : D) (Q : VK), Sub F H → RpA K F xs ds → f ds = some z →
  (∀ v F' H', Grow F H F' H' → Rp K F' v z → Q v H') → r xs H Q
/-- .. whose value is a new object -/
def RLn (K : KC) (r : List V → Hp → VK → Prop) (f : List D → Option Ob) : Prop := ∀ (F H : Hp) (xs : List V) (ds : List D) (z : Ob) (Q : VK), Sub F H → RpA K F xs ds → f ds = some z →
  (∀ q F' H', Grow F H F' H' → H q = none → F' q = none → OR K F' H' q z → Q (.ref q) H') → r xs H Q
def RL2 (K : KC) (r : R2) (f : D → D → Option Ob) : Prop := ∀ (F H : Hp) (x y : V) (d e : D) (z : Ob) (Q : VK), Sub F H → Rp K F x d → Rp K F y e → f d e = some z →
  (∀ q F' H', Grow F H F' H' → H q = none → F' q = none → OR K F' H' q z → Q (.ref q) H') → r x y H Q

def mBin (f : D → D → Option D) (ma mb : M D) : M D := fun ρ => bnd (ma ρ) fun d ρ1 => bnd (mb ρ1) fun e ρ2 => lft (f d e) ρ2
def mUn (f : D → Option D) (ma : M D) : M D := fun ρ => bnd (ma ρ) fun d ρ1 => lft (f d) ρ1
def mApp (f : List D → Option D) (ma : M (List D)) : M D := fun ρ => bnd (ma ρ) fun d ρ1 => lft (f d) ρ1
def mAppL (f : List D → Option Ob) (ma : M (List D)) : M Ob := fun ρ => bnd (ma ρ) fun d ρ1 => lft (f d) ρ1
def mBinL (f : D → D → Option Ob) (ma mb : M D) : M Ob := fun ρ => bnd (ma ρ) fun d ρ1 => bnd (mb ρ1) fun e ρ2 => lft (f d e) ρ2

section
variable {K : KC} {mg : Str → Option Value} {W : WX}
theorem PoE.x {B F : Hp} {σ : L2.St} {Q : VK} (x : Str) (ρ' : Rho) (h : PoE K mg W B F σ Q (.exc x ρ')) : ∀ C F' H', mg x = some (.ref C) → Gr B F F' → Env K B F' H' σ ρ' → W (.ref C) none σ H' := h
theorem SimE.bin {r : R2} {f : D → D → Option D} {ta tb : TE} {ma mb : M D} (hr : RV2 K r f) (ha : SimE K mg W ta ma) (hb : SimE K mg W tb mb) : SimE K mg W (tOp r ta tb) (mBin f ma mb) := by
  intro B F H σ ρ Q E h
  refine ha.then (R := PoE K mg W B F σ Q) E (fun x ρ' z => z) (fun z => z) h fun d ρ1 v F1 H1 g1 E1 r1 h1 => ?_
  refine hb.then (R := PoE K mg W B F1 σ Q) E1 (fun x ρ' z => z) (fun z => z) (h1.later g1) fun e ρ2 u F2 H2 g2 E2 r2 h2 => ?_
  cases ez : f d e with
  | none => rw [ez] at h2; exact h2.elim
  | some z =>
    rw [ez] at h2
    exact hr F2 H2 v u d e z Q E2.sub (r1.mono g2.sub) r2 ez fun y F' H' gw ry => (PoE.later g2 h2) y F' H' (gw.gr E2.subB) (E2.grow gw) ry
theorem SimE.un {r : V → Hp → VK → Prop} {f : D → Option D} {ta : TE} {ma : M D} (hr : RV1 K r f) (ha : SimE K mg W ta ma) : SimE K mg W (tUn r ta) (mUn f ma) := by
  intro B F H σ ρ Q E h
  refine ha.then (R := PoE K mg W B F σ Q) E (fun x ρ' z => z) (fun z => z) h fun d ρ1 v F1 H1 g1 E1 r1 h1 => ?_
  cases ez : f d with
  | none => rw [ez] at h1; exact h1.elim
  | some z =>
    rw [ez] at h1
    exact hr F1 H1 v d z Q E1.sub r1 ez fun y F' H' gw ry => (PoE.later g1 h1) y F' H' (gw.gr E1.subB) (E1.grow gw) ry
theorem SimE.app {r : List V → Hp → VK → Prop} {f : List D → Option D} {ta : TA} {ma : M (List D)} (hr : RVn K r f) (ha : SimA K mg W ta ma) : SimE K mg W (tCB r ta) (mApp f ma) := by
  intro B F H σ ρ Q E h
  refine ha.then (R := PoE K mg W B F σ Q) E (fun x ρ' z => z) (fun z => z) h fun d ρ1 v F1 H1 g1 E1 r1 h1 => ?_
  cases ez : f d with
  | none => rw [ez] at h1; exact h1.elim
  | some z =>
    rw [ez] at h1
    exact hr F1 H1 v d z Q E1.sub r1 ez fun y F' H' gw ry => (PoE.later g1 h1) y F' H' (gw.gr E1.subB) (E1.grow gw) ry
theorem fresh_own {B F1 H1 : Hp} {σ : L2.St} {ρ1 : Rho} {q : Addr} (E1 : Env K B F1 H1 σ ρ1) (n : H1 q = none) : ∀ (i : Nat) (o' : Ob), ρ1[i]? = some (.own o') → σ[i]? = some (some (.ref q)) → False := fun i o' e hs => by
  obtain ⟨q', a1, a2, a3, a4⟩ := E1.own i o' e
  rw [hs] at a1; cases a1
  obtain ⟨u, hu⟩ := a4.ex
  rw [n] at hu; cases hu
theorem SimL.app {r : List V → Hp → VK → Prop} {f : List D → Option Ob} {ta : TA} {ma : M (List D)} (hr : RLn K r f) (ha : SimA K mg W ta ma) : SimL K mg W (tCB r ta) (mAppL f ma) := by
  intro B F H σ ρ Q E h
  refine ha.then (R := PoL K mg W B F σ Q) E (fun x ρ' z => z) (fun z => z) h fun d ρ1 v F1 H1 g1 E1 r1 h1 => ?_
  cases ez : f d with
  | none => rw [ez] at h1; exact h1.elim
  | some z =>
    rw [ez] at h1
    exact hr F1 H1 v d z Q E1.sub r1 ez fun q F' H' gw n nf ro => (PoL.later g1 h1) q F' H' (gw.gr E1.subB) (E1.grow gw) nf (E1.subB.nn n) ro (fresh_own E1 n)
theorem SimL.bin {r : R2} {f : D → D → Option Ob} {ta tb : TE} {ma mb : M D} (hr : RL2 K r f) (ha : SimE K mg W ta ma) (hb : SimE K mg W tb mb) : SimL K mg W (tOp r ta tb) (mBinL f ma mb) := by
  intro B F H σ ρ Q E h
  refine ha.then (R := PoL K mg W B F σ Q) E (fun x ρ' z => z) (fun z => z) h fun d ρ1 v F1 H1 g1 E1 r1 h1 => ?_
  refine hb.then (R := PoL K mg W B F1 σ Q) E1 (fun x ρ' z => z) (fun z => z) (h1.later g1) fun e ρ2 u F2 H2 g2 E2 r2 h2 => ?_
  cases ez : f d e with
  | none => rw [ez] at h2; exact h2.elim
  | some z =>
    rw [ez] at h2
    exact hr F2 H2 v u d e z Q E2.sub (r1.mono g2.sub) r2 ez fun q F' H' gw n nf ro => (PoL.later g2 h2) q F' H' (gw.gr E2.subB) (E2.grow gw) nf (E2.subB.nn n) ro (fresh_own E2 n)
end

/-! ### arguments, displays -/
def mNil : M (List D) := fun ρ => .ok [] ρ
def mCons (ma : M D) (mr : M (List D)) : M (List D) := fun ρ => bnd (ma ρ) fun d ρ1 => bnd (mr ρ1) fun ds ρ2 => .ok (d :: ds) ρ2
section
variable {g : GC} {s : SS} {k : Nat} {W : WX} {X : Cx} {pos : Pos}
theorem da_nil : DA g W X [] mNil := ⟨_, pa_nil, fun B F H σ ρ Q E h => h [] F H Gr.refl E .nil⟩
theorem da_cons {e : Expr} {es : List Expr} {ma : M D} {mr : M (List D)} (ha : DM g W X e ma) (hr : DA g W X es mr) (hs : starEach (e :: es) X.env = (false, eval e X.env) :: starEach es X.env := by rfl) : DA g W X (e :: es) (mCons ma mr) := by
  obtain ⟨ta, pa, sa⟩ := ha
  obtain ⟨tr, pr, sr⟩ := hr
  refine ⟨_, pa_cons pa pr hs, fun B F H σ ρ Q E h => ?_⟩
  refine sa.then (R := PoA g.K g.mg W B F σ Q) E (fun x ρ' z => z) (fun z => z) h fun d ρ1 v F1 H1 g1 E1 r1 h1 => ?_
  refine sr.then (R := PoA g.K g.mg W B F1 σ Q) E1 (fun x ρ' z => z) (fun z => z) (h1.later g1) fun ds ρ2 vs F2 H2 g2 E2 r2 h2 => ?_
  exact (PoA.later g2 h2) (v :: vs) F2 H2 Gr.refl E2 (.cons (r1.mono g2.sub) r2)
def mTup (ma : M (List D)) : M D := fun ρ => bnd (ma ρ) fun ds ρ1 => if ds.length ≤ sizeLine then .ok (.tuple ds) ρ1 else .bad
def mLst (ma : M (List D)) : M Ob := fun ρ => bnd (ma ρ) fun ds ρ1 => if ds.length ≤ sizeLine then .ok (.lst ds) ρ1 else .bad
/-- a new tuple, by its object -/
def tTupZ (t : TA) : TE := fun σ H Q => t σ H fun xs H1 => xs.length ≤ sizeLine ∧ ∀ p o, H1 p = none → o.dict = none → Q (.ref p) (upd H1 p (.frz o (.tup xs)))
theorem laidZ {pins : List (Addr × Obj)} {σ : L2.St} {H : Hp} {sh : Shared} {xs : List V} {us : List Value} (I : Inv X pins σ H sh) (r : Vals xs us) (z : xs.length ≤ sizeLine) (t' : Nat := sh.toks) :
    Inv X pins σ (upd H sh.heap.objs.size (.frz { cls := .type "tuple", data := .seq us.toArray } (.tup xs))) { sh with heap := sh.heap.push { cls := .type "tuple", data := .seq us.toArray }, toks := t' } :=
  I.laid (t' := t') (fun b u e => Heap.get?_push_of_some _ e) (Nat.le_refl _) ⟨Heap.get?_push_size _ rfl, z, us, r, ⟨_, Heap.get?_push_size _ rfl, rfl, _, rfl⟩⟩
theorem pe_tupZ {es : List Expr} {t : TA} {x1} (h : PA X es t) : PE X (.Tuple es x1 pos) (tTupZ t) := by
  refine ⟨fun pins s σ H Q I hq => ?_⟩
  refine wpAny_Tuple_spliced (thn (h.run pos pins s σ H _ I hq) fun us s1 ⟨xs, H1, I1, r, z, q⟩ => ⟨by rw [← r.length]; exact z, ?_⟩)
  exact ⟨.ref s1.heap.objs.size, _, laidZ I1 r z, rfl, q _ _ (I1.hok.fresh (Nat.le_refl _)) rfl⟩
theorem dm_tup {es : List Expr} {x1} {ma : M (List D)} (ha : DA g W X es ma) : DM g W X (.Tuple es x1 pos) (mTup ma) := by
  obtain ⟨ta, pa, sa⟩ := ha
  refine ⟨_, pe_tupZ pa, fun B F H σ ρ Q E h => ?_⟩
  refine sa.then (R := PoE g.K g.mg W B F σ Q) E (fun x ρ' z => z) (fun z => z) h fun ds ρ1 vs F1 H1 g1 E1 r1 h1 => ?_
  by_cases hz : ds.length ≤ sizeLine
  · rw [if_pos hz] at h1
    refine ⟨by rw [r1.length]; exact hz, fun p o np nd => ?_⟩
    have gw : Grow F1 H1 (upd F1 p (.frz o (.tup vs))) (upd H1 p (.frz o (.tup vs))) := Grow.laid E1.sub np
    exact (PoE.later g1 h1) (.ref p) _ _ (gw.gr E1.subB) (E1.grow gw) (.tup upd_same nd (by rw [r1.length]; exact hz) (r1.mono gw.subF))
  · rw [if_neg hz] at h1; exact h1.elim
theorem dl_lst {es : List Expr} {ma : M (List D)} (ha : DA g W X es ma) : DL g W X (.List es pos) (mLst ma) := by
  obtain ⟨ta, pa, sa⟩ := ha
  refine ⟨_, pe_lst pa, fun B F H σ ρ Q E h => ?_⟩
  refine sa.then (R := PoL g.K g.mg W B F σ Q) E (fun x ρ' z => z) (fun z => z) h fun ds ρ1 vs F1 H1 g1 E1 r1 h1 => ?_
  by_cases hz : ds.length ≤ sizeLine
  · rw [if_pos hz] at h1
    refine ⟨by rw [r1.length]; exact hz, fun p np => ?_⟩
    have gw : Grow F1 H1 F1 (upd H1 p (.lst vs)) := Grow.made E1.sub np
    exact (PoL.later g1 h1) p _ _ (gw.gr E1.subB) (E1.grow gw) (E1.sub.nn np) (E1.subB.nn np) ⟨vs, upd_same, by rw [r1.length]; exact hz, r1.mono gw.subF⟩ (fresh_own E1 np)
  · rw [if_neg hz] at h1; exact h1.elim
end
end DX

set_option maxHeartbeats 1000000
namespace DX
open PySem PySem.Spec PyProof.Rows L2

/-! ### data by forms -/
def intsOf : List D → Option (List Int)
  | [] => some []
  | .int i :: r => (intsOf r).map (i :: ·)
  | _ :: _ => none
theorem intsOf_eq : ∀ {ds : List D} {ns : List Int}, intsOf ds = some ns → ds = ns.map PyData.int
  | [], ns, h => by simp [intsOf] at h; subst h; rfl
  | d :: r, ns, h => by
    cases d <;> simp only [intsOf] at h <;> try cases h
    rename_i i
    cases e : intsOf r with
    | none => rw [e] at h; cases h
    | some ms => rw [e] at h; simp at h; subst h; rw [intsOf_eq e]; rfl
@[simp] theorem intsOf_map (ns : List Int) : intsOf (ns.map PyData.int) = some ns := by
  induction ns with
  | nil => rfl
  | cons n r ih => simp [intsOf, ih]
def boolsOf : List D → Option (List Bool)
  | [] => some []
  | .bool i :: r => (boolsOf r).map (i :: ·)
  | _ :: _ => none
theorem boolsOf_eq : ∀ {ds : List D} {ns : List Bool}, boolsOf ds = some ns → ds = ns.map PyData.bool
  | [], ns, h => by simp [boolsOf] at h; subst h; rfl
  | d :: r, ns, h => by
    cases d <;> simp only [boolsOf] at h <;> try cases h
    rename_i i
    cases e : boolsOf r with
    | none => rw [e] at h; cases h
    | some ms => rw [e] at h; simp at h; subst h; rw [boolsOf_eq e]; rfl
@[simp] theorem boolsOf_map (ns : List Bool) : boolsOf (ns.map PyData.bool) = some ns := by
  induction ns with
  | nil => rfl
  | cons n r ih => simp [boolsOf, ih]
theorem RpA.bools {K : KC} {F : Hp} : ∀ {vs : List V} {ns : List Bool}, RpA K F vs (ns.map PyData.bool) → vs = ns.map V.bl
  | _, [], h => by cases h; rfl
  | _, n :: ns, h => by
    cases h with
    | cons h t => cases h; rw [RpA.bools t]; rfl

/-! ### operators on data -/
def fAdd : D → D → Option D
  | .int i, .int j => some (.int (i + j))
  | .str a, .str b => if a.length + b.length ≤ sizeLine then some (.str (a ++ b)) else none
  | .tuple a, .tuple b => if a.length + b.length ≤ sizeLine then some (.tuple (a ++ b)) else none
  | .list a, .list b => if a.length + b.length ≤ sizeLine then some (.list (a ++ b)) else none
  | _, _ => none
def fCat : D → D → Option Ob
  | .list a, .list b => if a.length + b.length ≤ sizeLine then some (.lst (a ++ b)) else none
  | _, _ => none
def fRep : D → D → Option Ob
  | .list a, .int k => if k < 2 ^ 63 ∧ -(2 ^ 63) ≤ k ∧ a.length * k.toNat ≤ sizeLine then some (.lst (List.replicate k.toNat a).flatten) else none
  | _, _ => none
def fSub : D → D → Option D
  | .int i, .int j => some (.int (i - j))
  | _, _ => none
def fMul : D → D → Option D
  | .int i, .int j => if (-(2 ^ 64) < i ∧ i < 2 ^ 64) ∨ (-(2 ^ 64) < j ∧ j < 2 ^ 64) then some (.int (i * j)) else none
  | _, _ => none
def fDiv : D → D → Option D
  | .int i, .int j => if 0 < j ∧ j < 1073741824 then some (.int (i / j)) else none
  | _, _ => none
def fMod : D → D → Option D
  | .int i, .int j => if 0 < j then some (.int (i % j)) else none
  | _, _ => none
def fPow : D → D → Option D
  | .int i, .int j => if 0 ≤ j ∧ j ≤ 1000000 ∧ i.natAbs < 2 ^ 64 then some (.int (i ^ j.toNat)) else none
  | _, _ => none
def fShl : D → D → Option D
  | .int i, .int j => if 0 ≤ j ∧ j ≤ 1000000 ∧ i.natAbs < 2 ^ 64 then some (.int (i * 2 ^ j.toNat)) else none
  | _, _ => none
def fBitAnd : D → D → Option D
  | .int i, .int j => some (.int (Builtin.bitAnd i j))
  | _, _ => none
def fBitOr : D → D → Option D
  | .int i, .int j => some (.int (Builtin.bitOr i j))
  | _, _ => none
def fNeg : D → Option D
  | .int i => some (.int (-i))
  | _ => none
def fEq (d e : D) : Option D := if SeqAt.shaped d && SeqAt.shaped e then some (.bool (PyData.eqv d e)) else none
def fNe (d e : D) : Option D := if SeqAt.shaped d && SeqAt.shaped e then some (.bool (!PyData.eqv d e)) else none
def fLt : D → D → Option D
  | .int i, .int j => some (.bool (decide (i < j)))
  | .tuple a, .tuple b => match intsOf a, intsOf b with
    | some ns, some ms => some (.bool (HT.lexLt ns ms))
    | _, _ => none
  | _, _ => none
def fLe : D → D → Option D
  | .int i, .int j => some (.bool (decide (i ≤ j)))
  | _, _ => none
def fGt : D → D → Option D
  | .int i, .int j => some (.bool (decide (j < i)))
  | _, _ => none
def fGe : D → D → Option D
  | .int i, .int j => some (.bool (decide (j ≤ i)))
  | _, _ => none
def inD (neg : Bool) : D → D → Option D
  | d, .list ds => if SeqAt.shaped d && SeqAt.shaped (.list ds) then some (.bool (xor neg (ds.any fun z => PyData.eqv z d))) else none
  | d, .tuple ds => if SeqAt.shaped d && SeqAt.shaped (.tuple ds) then some (.bool (xor neg (ds.any fun z => PyData.eqv z d))) else none
  | _, _ => none
def fIn : D → D → Option D := inD false
def fNotIn : D → D → Option D := inD true
/-- is None, is True, is False -/
def isD (neg : Bool) : D → D → Option D
  | .none, .none => some (.bool (!neg))
  | .bool a, .bool b => some (.bool (xor neg (a == b)))
  | .bool _, .none => some (.bool neg)
  | .int _, .none => some (.bool neg)
  | .str _, .none => some (.bool neg)
  | .list _, .none => some (.bool neg)
  | .tuple _, .none => some (.bool neg)
  | .dict _, .none => some (.bool neg)
  | _, _ => none
def fIs : D → D → Option D := isD false
def fIsNot : D → D → Option D := isD true

section
variable {K : KC}
/-- a value that needs nothing of the heap -/
theorem gz {F H : Hp} {Q : VK} {v : V} {z : D} (s : Sub F H) (h : ∀ v F' H', Grow F H F' H' → Rp K F' v z → Q v H') (r : Rp K F v z) : Q v H := h v F H (Grow.refl s) r
theorem rv_int {g : Int → Int → Int} {f : D → D → Option D} (hf : ∀ d e z, f d e = some z → ∃ i j, d = .int i ∧ e = .int j ∧ z = .int (g i j)) : RV2 K (rI0 fun i j => .int (g i j)) f := by
  intro F H x y d e z Q s rx ry h q
  obtain ⟨i, j, rfl, rfl, rfl⟩ := hf d e z h
  cases rx; cases ry
  exact ⟨i, j, rfl, rfl, gz s q (.int _)⟩
theorem rv_intC {C : Int → Int → Prop} {g : Int → Int → Int} {f : D → D → Option D} (hf : ∀ d e z, f d e = some z → ∃ i j, d = .int i ∧ e = .int j ∧ C i j ∧ z = .int (g i j)) : RV2 K (rI C fun i j => .int (g i j)) f := by
  intro F H x y d e z Q s rx ry h q
  obtain ⟨i, j, rfl, rfl, hc, rfl⟩ := hf d e z h
  cases rx; cases ry
  exact ⟨i, j, rfl, rfl, hc, gz s q (.int _)⟩
theorem rv_intB {g : Int → Int → Bool} {f : D → D → Option D} (hf : ∀ d e z, f d e = some z → ∃ i j, d = .int i ∧ e = .int j ∧ z = .bool (g i j)) : RV2 K (rI0 fun i j => .bl (g i j)) f := by
  intro F H x y d e z Q s rx ry h q
  obtain ⟨i, j, rfl, rfl, rfl⟩ := hf d e z h
  cases rx; cases ry
  exact ⟨i, j, rfl, rfl, gz s q (.bl _)⟩
theorem RV2.orL {r r' : R2} {f : D → D → Option D} (h : RV2 K r f) : RV2 K (fun x y H Q => r x y H Q ∨ r' x y H Q) f := fun F H x y d e z Q s rx ry hf q => .inl (h F H x y d e z Q s rx ry hf q)
end

/-! ### list + list, where a list may be the law's own -/
def rCatR (K : PySem.W.Frag) : R2 := fun x y H Q => ∃ l b xs zs, x = .ref l ∧ y = .ref b ∧ LsAt K H l xs ∧ LsAt K H b zs ∧ xs.length + zs.length ≤ sizeLine ∧ ∀ p, H p = none → Q (.ref p) (upd H p (.lst (xs ++ zs)))
section
variable {X : Cx} {pins : List (Addr × Obj)} {σ : L2.St} {H : Hp} {s : Shared}
theorem lstR (I : Inv X pins σ H s) {l : Addr} {xs : List V} (hH : LsAt X.K H l xs) : xs.length ≤ sizeLine ∧ ∃ (its : List Value) (n : Nat), Vals xs its ∧ xs.length = its.length ∧ s.heap.get? l = some { cls := .type "list", data := .seq its.toArray n } := by
  rcases hH with hH | ⟨its, n, hk, hz, r⟩
  · obtain ⟨z, its, n, r, e⟩ := hH.ok I.hok
    exact ⟨z, its, n, r, r.length, e⟩
  · have e := r.length
    simp only [Array.length_toList] at e
    exact ⟨by omega, its.toList, n, r, by simpa using e, by simpa using I.kIn l _ hk⟩
theorem op_catR : OpR X (binaryOp .Add) (rCatR X.K) := by
  intro pins s σ H x y v u Q I rx ry h
  obtain ⟨l, b, xs, zs, rfl, rfl, hH, hB, hz, q⟩ := h
  cases rx
  cases ry
  obtain ⟨z, its, n, r, hl, e⟩ := lstR I hH
  obtain ⟨z2, its2, n2, r2, hl2, e2⟩ := lstR I hB
  refine PySem.P.add_list e e2 ?_ (by rw [List.size_toArray, List.size_toArray]; omega)
  have ea : its.toArray ++ its2.toArray = (its ++ its2).toArray := by simp
  rw [ea]
  exact ⟨.ref _, _, I.lnew (t' := s.toks) (r.append r2) (by rw [List.length_append]; omega), rfl, q _ I.fresh⟩
/-- tuple + tuple -/
def rCatZ : R2 := fun x y H Q => ∃ a b xs ys, x = .ref a ∧ y = .ref b ∧ Rd H a (.tup xs) ∧ Rd H b (.tup ys) ∧ xs.length + ys.length ≤ sizeLine ∧
  (xs = [] → Q (.ref b) H) ∧ (xs ≠ [] → ys = [] → Q (.ref a) H) ∧ (xs ≠ [] → ys ≠ [] → ∀ p o, H p = none → o.dict = none → Q (.ref p) (upd H p (.frz o (.tup (xs ++ ys)))))
theorem op_catZ : OpR X (binaryOp .Add) rCatZ := by
  intro pins s σ H x y v u Q I rx ry h
  obtain ⟨a, b, xs, ys, rfl, rfl, ha, hb, hz, q0, q1, q2⟩ := h
  cases rx
  cases ry
  obtain ⟨its, r1, p1, _⟩ := I.tuple (.inl ha)
  obtain ⟨its2, r2, p2, _⟩ := I.tuple (.inl hb)
  by_cases hx : xs = []
  · subst hx
    cases r1
    exact cat_tup0 p1 p2 ⟨.ref b, H, I, rfl, q0 rfl⟩
  · refine HT.cat_tup p1 p2 (fun z => hx (r1.nil_iff.mp z)) (fun z => ⟨.ref a, H, I, rfl, q1 hx (r2.nil_iff.mp z)⟩) (fun z => ?_) (by rw [← r1.length, ← r2.length]; exact hz)
    exact ⟨.ref s.heap.objs.size, _, laidZ I (r1.append r2) (by rw [List.length_append]; exact hz), rfl, q2 hx (fun w => z (r2.nil_iff.mpr w)) _ _ (I.hok.fresh (Nat.le_refl _)) rfl⟩
/-- membership in data, a list or a tuple -/
def rInS (K : PySem.W.Frag) (neg : Bool) : R2 := fun x y H Q => ∃ d ds, Dp K H x d ∧ (Dp K H y (.list ds) ∨ Dp K H y (.tuple ds)) ∧ SeqAt.shaped d = true ∧ PyData.canLayAll0 ds = true ∧ Q (.bl (xor neg (ds.any fun z => PyData.eqv z d))) H
theorem room_in1 {A : Around} {d : D} {n : Nat} (h : SeqAt.shaped d = true) (hu : A.units + 65 < cLine) : A.units + 1 + min n d.depth < cLine := by
  have h1 := SeqAt.depth_of_shaped h
  have h2 : min n d.depth ≤ d.depth := Nat.min_le_right _ _
  omega
theorem op_inS' (hu : X.A.units + 65 < cLine) : OpR X (compareOp .In) (rInS X.K false) := by
  intro pins s σ H x y v u Q I rx ry h
  obtain ⟨d, ds, hd, he, sd, se, q⟩ := h
  rw [Bool.false_xor] at q
  obtain ⟨as, r1⟩ := Dp.reads I d x v hd rx
  rcases he with he | he
  · obtain ⟨bs, r2⟩ := Dp.reads I (.list ds) y u he ry
    exact SeqAt.in_list_reads r2 r1 se (SeqAt.canLay_of_shaped sd) (room_in1 sd hu) ⟨.bl _, H, I, rfl, q⟩
  · obtain ⟨bs, r2⟩ := Dp.reads I (.tuple ds) y u he ry
    exact SeqAt.in_tuple_reads r2 r1 se (SeqAt.canLay_of_shaped sd) (room_in1 sd hu) ⟨.bl _, H, I, rfl, q⟩
theorem op_notInS' (hu : X.A.units + 65 < cLine) : OpR X (compareOp .NotIn) (rInS X.K true) := by
  intro pins s σ H x y v u Q I rx ry h
  obtain ⟨d, ds, hd, he, sd, se, q⟩ := h
  rw [Bool.true_xor] at q
  obtain ⟨as, r1⟩ := Dp.reads I d x v hd rx
  rcases he with he | he
  · obtain ⟨bs, r2⟩ := Dp.reads I (.list ds) y u he ry
    exact SeqAt.notIn_list_reads r2 r1 se (SeqAt.canLay_of_shaped sd) (room_in1 sd hu) ⟨.bl _, H, I, rfl, q⟩
  · obtain ⟨bs, r2⟩ := Dp.reads I (.tuple ds) y u he ry
    exact SeqAt.notIn_tuple_reads r2 r1 se (SeqAt.canLay_of_shaped sd) (room_in1 sd hu) ⟨.bl _, H, I, rfl, q⟩
end

section
variable {K : KC}
theorem rv_add : RV2 K (fun x y H Q => rI0 (fun i j => V.int (i + j)) x y H Q ∨ (∃ i j, x = .str i ∧ y = .str j ∧ i.length + j.length ≤ sizeLine ∧ Q (.str (i ++ j)) H) ∨ rCatZ x y H Q ∨ rCatR K.K x y H Q) fAdd := by
  intro F H x y d e z Q s rx ry h q
  unfold fAdd at h
  split at h
  · cases h; cases rx; cases ry
    exact .inl ⟨_, _, rfl, rfl, gz s q (.int _)⟩
  · split at h
    · cases h; cases rx; cases ry
      exact .inr (.inl ⟨_, _, rfl, rfl, by assumption, gz s q (.str _)⟩)
    · cases h
  · split at h
    · rename_i a b hz
      cases h
      cases rx with
      | tup h1 n1 z1 r1 =>
      cases ry with
      | tup h2 n2 z2 r2 =>
      rename_i p1 o1 xs p2 o2 ys
      refine .inr (.inr (.inl ⟨p1, p2, xs, ys, rfl, rfl, .inr ⟨_, s _ _ h1⟩, .inr ⟨_, s _ _ h2⟩, by rw [r1.length, r2.length]; exact hz, fun e => ?_, fun e e' => ?_, fun e e' p o np nd => ?_⟩))
      · subst e; cases r1; exact gz s q (by simpa using Rp.tup h2 n2 z2 r2)
      · subst e'; cases r2; exact gz s q (by simpa using Rp.tup h1 n1 z1 r1)
      · have gw : Grow F H (upd F p (.frz o (.tup (xs ++ ys)))) (upd H p (.frz o (.tup (xs ++ ys)))) := Grow.laid s np
        exact q (.ref p) _ _ gw (.tup upd_same nd (by rw [List.length_append, r1.length, r2.length]; exact hz) ((r1.append r2).mono gw.subF))
    · cases h
  · split at h
    · rename_i a b hz
      cases h
      cases rx with
      | lst h1 z1 r1 =>
      cases ry with
      | lst h2 z2 r2 =>
      rename_i p1 xs p2 ys
      refine .inr (.inr (.inr ⟨p1, p2, xs, ys, rfl, rfl, h1.mono s, h2.mono s, by rw [r1.length, r2.length]; exact hz, fun p np => ?_⟩))
      have gw : Grow F H (upd F p (.lst (xs ++ ys))) (upd H p (.lst (xs ++ ys))) := Grow.laid s np
      exact q (.ref p) _ _ gw (.lst (.inl (.inl upd_same)) (by rw [List.length_append, r1.length, r2.length]; exact hz) ((r1.append r2).mono gw.subF))
    · cases h
  · cases h
theorem rl_cat : RL2 K (rCatR K.K) fCat := by
  intro F H x y d e z Q s rx ry h q
  unfold fCat at h
  split at h
  · split at h
    · rename_i a b hz
      cases h
      cases rx with
      | lst h1 z1 r1 =>
      cases ry with
      | lst h2 z2 r2 =>
      rename_i p1 xs p2 ys
      refine ⟨p1, p2, xs, ys, rfl, rfl, h1.mono s, h2.mono s, by rw [r1.length, r2.length]; exact hz, fun p np => ?_⟩
      have gw : Grow F H F (upd H p (.lst (xs ++ ys))) := Grow.made s np
      exact q p _ _ gw np (s.nn np) ⟨_, upd_same, by rw [List.length_append, r1.length, r2.length]; exact hz, r1.append r2⟩
    · cases h
  · cases h
theorem rv_eq : RV2 K (rEqD K.K) fEq := by
  intro F H x y d e z Q s rx ry h q
  unfold fEq at h
  split at h
  · rename_i hs
    cases h
    rw [Bool.and_eq_true] at hs
    exact ⟨d, e, (rx.mono s).dp (SeqAt.canLay_of_shaped hs.1), (ry.mono s).dp (SeqAt.canLay_of_shaped hs.2), hs.1, hs.2, gz s q (.bl _)⟩
  · cases h
theorem rv_ne : RV2 K (rNeD K.K) fNe := by
  intro F H x y d e z Q s rx ry h q
  unfold fNe at h
  split at h
  · rename_i hs
    cases h
    rw [Bool.and_eq_true] at hs
    exact ⟨d, e, (rx.mono s).dp (SeqAt.canLay_of_shaped hs.1), (ry.mono s).dp (SeqAt.canLay_of_shaped hs.2), hs.1, hs.2, gz s q (.bl _)⟩
  · cases h
theorem rv_in {neg : Bool} : RV2 K (rInS K.K neg) (inD neg) := by
  intro F H x y d e z Q s rx ry h q
  unfold inD at h
  split at h
  · split at h
    · rename_i ds hs
      cases h
      rw [Bool.and_eq_true] at hs
      exact ⟨d, ds, (rx.mono s).dp (SeqAt.canLay_of_shaped hs.1), .inl ((ry.mono s).dp (SeqAt.canLay_of_shaped hs.2)), hs.1, by simpa [PyData.canLay0] using SeqAt.canLay_of_shaped hs.2, gz s q (.bl _)⟩
    · cases h
  · split at h
    · rename_i ds hs
      cases h
      rw [Bool.and_eq_true] at hs
      exact ⟨d, ds, (rx.mono s).dp (SeqAt.canLay_of_shaped hs.1), .inr ((ry.mono s).dp (SeqAt.canLay_of_shaped hs.2)), hs.1, by simpa [PyData.canLay0] using SeqAt.canLay_of_shaped hs.2, gz s q (.bl _)⟩
    · cases h
  · cases h
theorem rv_lt : RV2 K (fun x y H Q => rI0 (fun i j => V.bl (decide (i < j))) x y H Q ∨ rLtT K.K x y H Q) fLt := by
  intro F H x y d e z Q s rx ry h q
  unfold fLt at h
  split at h
  · cases h; cases rx; cases ry
    exact .inl ⟨_, _, rfl, rfl, gz s q (.bl _)⟩
  · split at h
    · rename_i a b ns ms e1 e2
      cases h
      rw [intsOf_eq e1] at rx
      rw [intsOf_eq e2] at ry
      cases rx with
      | tup h1 n1 z1 r1 =>
      cases ry with
      | tup h2 n2 z2 r2 =>
      rw [r1.ints] at h1
      rw [r2.ints] at h2
      exact .inr ⟨_, _, ns, ms, rfl, rfl, .inl (.inr ⟨_, s _ _ h1⟩), .inl (.inr ⟨_, s _ _ h2⟩), gz s q (.bl _)⟩
    · cases h
  · cases h
theorem rv_is {neg : Bool} : RV2 K (fun x y H Q => (y = .non ∧ Q (.bl (xor neg (decide (x = .non)))) H) ∨ ∃ a b, x = .bl a ∧ y = .bl b ∧ Q (.bl (xor neg (decide (a = b)))) H) (isD neg) := by
  intro F H x y d e z Q s rx ry h q
  unfold isD at h
  split at h
  · cases h; cases rx; cases ry
    exact .inl ⟨rfl, by simpa using gz s q (.bl _)⟩
  · cases h; cases rx; cases ry
    refine .inr ⟨_, _, rfl, rfl, ?_⟩
    rename_i a b
    have e : decide (a = b) = (a == b) := by cases a <;> cases b <;> rfl
    rw [e]
    exact gz s q (.bl _)
  all_goals first
    | (cases h; cases ry; cases rx <;> exact .inl ⟨rfl, by simpa using gz s q (.bl neg)⟩)
    | cases h
end

/-! ### rules -/
section
variable {g : GC} {s : SS} {k : Nat} {W : WX} {X : Cx} {pos : Pos} {a b c : Expr} {ma mb mc : M D}
theorem Ok.units (ok : Ok g s k W X) : X.A.units + 65 < cLine := by
  have := ok.room.un
  omega
theorem dm_op {op : Operator} {r : R2} {f : D → D → Option D} (ho : OpR X (binaryOp op) r) (hr : RV2 g.K r f) (ha : DM g W X a ma) (hb : DM g W X b mb) : DM g W X (.BinOp a op b pos) (mBin f ma mb) := by
  obtain ⟨ta, pa, sa⟩ := ha
  obtain ⟨tb, pb, sb⟩ := hb
  exact ⟨_, pe_op ho pa pb, SimE.bin hr sa sb⟩
theorem dm_add (ok : Ok g s k W X) (ha : DM g W X a ma) (hb : DM g W X b mb) : DM g W X (.BinOp a .Add b pos) (mBin fAdd ma mb) := by
  refine dm_op (r := fun x y H Q => rI0 (fun i j => V.int (i + j)) x y H Q ∨ (∃ i j, x = .str i ∧ y = .str j ∧ i.length + j.length ≤ sizeLine ∧ Q (.str (i ++ j)) H) ∨ rCatZ x y H Q ∨ rCatR g.K.K x y H Q) ?_ rv_add ha hb
  have h := op_catR (X := X)
  rw [ok.hK] at h
  exact op_add.or (op_add_str.or (OpR.or op_catZ h))
theorem dl_cat (ok : Ok g s k W X) (ha : DM g W X a ma) (hb : DM g W X b mb) : DL g W X (.BinOp a .Add b pos) (mBinL fCat ma mb) := by
  obtain ⟨ta, pa, sa⟩ := ha
  obtain ⟨tb, pb, sb⟩ := hb
  have h := op_catR (X := X)
  rw [ok.hK] at h
  exact ⟨_, pe_op h pa pb, SimL.bin rl_cat sa sb⟩
theorem dm_sub (ha : DM g W X a ma) (hb : DM g W X b mb) : DM g W X (.BinOp a .Sub b pos) (mBin fSub ma mb) :=
  dm_op op_sub (rv_int fun d e z h => by unfold fSub at h; split at h <;> cases h; exact ⟨_, _, rfl, rfl, rfl⟩) ha hb
theorem dm_mul (ha : DM g W X a ma) (hb : DM g W X b mb) : DM g W X (.BinOp a .Mult b pos) (mBin fMul ma mb) :=
  dm_op op_mul (rv_intC fun d e z h => by
    unfold fMul at h
    split at h
    · split at h
      · cases h; exact ⟨_, _, rfl, rfl, by assumption, rfl⟩
      · cases h
    · cases h) ha hb
theorem dm_div (ha : DM g W X a ma) (hb : DM g W X b mb) : DM g W X (.BinOp a .FloorDiv b pos) (mBin fDiv ma mb) :=
  dm_op op_fdiv (rv_intC fun d e z h => by
    unfold fDiv at h
    split at h
    · split at h
      · cases h; exact ⟨_, _, rfl, rfl, by assumption, rfl⟩
      · cases h
    · cases h) ha hb
theorem dm_mod (ha : DM g W X a ma) (hb : DM g W X b mb) : DM g W X (.BinOp a .Mod b pos) (mBin fMod ma mb) :=
  dm_op op_mod (rv_intC fun d e z h => by
    unfold fMod at h
    split at h
    · split at h
      · cases h; exact ⟨_, _, rfl, rfl, by assumption, rfl⟩
      · cases h
    · cases h) ha hb
theorem dm_pow (ha : DM g W X a ma) (hb : DM g W X b mb) : DM g W X (.BinOp a .Pow b pos) (mBin fPow ma mb) :=
  dm_op op_pow (rv_intC fun d e z h => by
    unfold fPow at h
    split at h
    · split at h
      · cases h; exact ⟨_, _, rfl, rfl, by assumption, rfl⟩
      · cases h
    · cases h) ha hb
theorem dm_shl (ha : DM g W X a ma) (hb : DM g W X b mb) : DM g W X (.BinOp a .LShift b pos) (mBin fShl ma mb) :=
  dm_op op_shl (rv_intC fun d e z h => by
    unfold fShl at h
    split at h
    · split at h
      · cases h; exact ⟨_, _, rfl, rfl, by assumption, rfl⟩
      · cases h
    · cases h) ha hb
theorem dm_band (ha : DM g W X a ma) (hb : DM g W X b mb) : DM g W X (.BinOp a .BitAnd b pos) (mBin fBitAnd ma mb) :=
  dm_op op_and (rv_int fun d e z h => by unfold fBitAnd at h; split at h <;> cases h; exact ⟨_, _, rfl, rfl, rfl⟩) ha hb
theorem dm_bor (ha : DM g W X a ma) (hb : DM g W X b mb) : DM g W X (.BinOp a .BitOr b pos) (mBin fBitOr ma mb) :=
  dm_op op_or (rv_int fun d e z h => by unfold fBitOr at h; split at h <;> cases h; exact ⟨_, _, rfl, rfl, rfl⟩) ha hb
theorem dm_neg (ha : DM g W X a ma) : DM g W X (.UnaryOp .USub a pos) (mUn fNeg ma) := by
  obtain ⟨ta, pa, sa⟩ := ha
  refine ⟨_, pe_un un_neg pa, SimE.un ?_ sa⟩
  intro F H x d z Q s rx h q
  unfold fNeg at h
  split at h <;> cases h
  cases rx
  exact ⟨_, rfl, gz s q (.int _)⟩

/-! comparisons, as values and as tests -/
structure CmpR (g : GC) (X : Cx) (op : CmpOp) (f : D → D → Option D) : Prop where
  ex : ∃ r, OpR X (compareOp op) r ∧ RV2 g.K r f
theorem cr_eq (ok : Ok g s k W X) : CmpR g X .Eq fEq := ⟨_, op_eqD (by have := ok.units; omega), by rw [ok.hK]; exact rv_eq⟩
theorem cr_ne (ok : Ok g s k W X) : CmpR g X .NotEq fNe := ⟨_, op_neD (by have := ok.units; omega), by rw [ok.hK]; exact rv_ne⟩
theorem cr_lt (ok : Ok g s k W X) : CmpR g X .Lt fLt := ⟨_, op_lt.or (op_ltT (by have := ok.units; omega)), by rw [ok.hK]; exact rv_lt⟩
theorem cr_le : CmpR g X .LtE fLe := ⟨_, op_le, rv_intB fun d e z h => by unfold fLe at h; split at h <;> cases h; exact ⟨_, _, rfl, rfl, rfl⟩⟩
theorem cr_gt : CmpR g X .Gt fGt := ⟨_, op_gt, rv_intB fun d e z h => by unfold fGt at h; split at h <;> cases h; exact ⟨_, _, rfl, rfl, rfl⟩⟩
theorem cr_ge : CmpR g X .GtE fGe := ⟨_, op_ge, rv_intB fun d e z h => by unfold fGe at h; split at h <;> cases h; exact ⟨_, _, rfl, rfl, rfl⟩⟩
theorem cr_in (ok : Ok g s k W X) : CmpR g X .In fIn := ⟨_, op_inS' ok.units, by rw [ok.hK]; exact rv_in⟩
theorem cr_notin (ok : Ok g s k W X) : CmpR g X .NotIn fNotIn := ⟨_, op_notInS' ok.units, by rw [ok.hK]; exact rv_in⟩
theorem cr_is : CmpR g X .Is fIs := ⟨_, op_isN.or op_is_bl, by
  have h := rv_is (K := g.K) (neg := false)
  simp only [Bool.false_xor] at h
  exact h⟩
theorem cr_isnot : CmpR g X .IsNot fIsNot := ⟨_, op_notN.or op_isnot_bl, by
  have h := rv_is (K := g.K) (neg := true)
  simp only [Bool.true_xor] at h
  exact h⟩
theorem dm_cmp {op : CmpOp} {f : D → D → Option D} (hc : CmpR g X op f) (ha : DM g W X a ma) (hb : DM g W X b mb) (hm : behindInMarks op b = false := by first | exact nomark _ | rfl) : DM g W X (.Compare a [op] [b] pos) (mBin f ma mb) := by
  obtain ⟨r, ho, hr⟩ := hc.ex
  obtain ⟨ta, pa, sa⟩ := ha
  obtain ⟨tb, pb, sb⟩ := hb
  exact ⟨_, pe_cmpR ho pa pb hm, SimE.bin hr sa sb⟩
/-- as a test: the value must be a bool -/
def asB (m : M D) : M Bool := fun ρ => bnd (m ρ) fun d ρ1 => match d with
  | .bool b => .ok b ρ1
  | _ => .bad
theorem SimE.test {K : KC} {mg : Str → Option Value} {W : WX} {t : TE} {m : M D} (h : SimE K mg W t m) : SimT K mg W (tTest t) (asB m) := by
  intro B F H σ ρ Q E q
  refine h.then (R := PoT K mg W B F σ Q) E (fun x ρ' z => z) (fun z => z) q fun d ρ1 v F1 H1 g1 E1 r1 q1 => ?_
  cases r1 <;> first
    | exact False.elim q1
    | exact ⟨_, rfl, q1 F1 H1 g1 E1⟩
theorem dt_cmp {op : CmpOp} {f : D → D → Option D} (hc : CmpR g X op f) (ha : DM g W X a ma) (hb : DM g W X b mb) (hm : behindInMarks op b = false := by first | exact nomark _ | rfl) : DT g W X (.Compare a [op] [b] pos) (asB (mBin f ma mb)) := by
  obtain ⟨r, ho, hr⟩ := hc.ex
  obtain ⟨ta, pa, sa⟩ := ha
  obtain ⟨tb, pb, sb⟩ := hb
  exact ⟨_, pt_cmpR ho pa pb hm, (SimE.bin hr sa sb).test⟩
/-- a op b op' c -/
def mChain (f f' : D → D → Option D) (ma mb mc : M D) : M D := fun ρ => bnd (ma ρ) fun x ρ1 => bnd (mb ρ1) fun y ρ2 => match f x y with
  | some (.bool true) => bnd (mc ρ2) fun z ρ3 => lft (f' y z) ρ3
  | some (.bool false) => .ok (.bool false) ρ2
  | _ => .bad
theorem SimE.chain {K : KC} {mg : Str → Option Value} {W : WX} {r r' : R2} {f f' : D → D → Option D} {ta tb tc : TE} {ma mb mc : M D} (hr : RV2 K r f) (hr' : RV2 K r' f') (ha : SimE K mg W ta ma) (hb : SimE K mg W tb mb) (hc : SimE K mg W tc mc) :
    SimE K mg W (tChain r r' ta tb tc) (mChain f f' ma mb mc) := by
  intro B F H σ ρ Q E h
  refine ha.then (R := PoE K mg W B F σ Q) E (fun x ρ' z => z) (fun z => z) h fun x ρ1 v F1 H1 g1 E1 r1 h1 => ?_
  refine hb.then (R := PoE K mg W B F1 σ Q) E1 (fun x ρ' z => z) (fun z => z) (h1.later g1) fun y ρ2 u F2 H2 g2 E2 r2 h2 => ?_
  have h2 := PoE.later g2 h2
  split at h2
  · rename_i ez
    refine hr F2 H2 v u x y _ _ E2.sub (r1.mono g2.sub) r2 ez fun z F3 H3 gw rz => ?_
    cases rz
    refine ⟨true, rfl, ?_⟩
    rw [if_pos rfl]
    have E3 := E2.grow gw
    have g3 := gw.gr E2.subB
    refine hc.then (R := PoE K mg W B F3 σ Q) E3 (fun x ρ' z => z) (fun z => z) (h2.later g3) fun w ρ3 t F4 H4 g4 E4 r4 h4 => ?_
    cases ew : f' y w with
    | none => rw [ew] at h4; exact h4.elim
    | some o =>
      rw [ew] at h4
      exact hr' F4 H4 u t y w o Q E4.sub ((r2.mono gw.subF).mono g4.sub) r4 ew fun q F' H' gw' rq => (PoE.later g4 h4) q F' H' (gw'.gr E4.subB) (E4.grow gw') rq
  · rename_i ez
    refine hr F2 H2 v u x y _ _ E2.sub (r1.mono g2.sub) r2 ez fun z F3 H3 gw rz => ?_
    cases rz
    refine ⟨false, rfl, ?_⟩
    rw [if_neg (by decide)]
    exact h2 _ F3 H3 (gw.gr E2.subB) (E2.grow gw) (.bl false)
  · exact h2.elim
theorem dm_chain {op op' : CmpOp} {f f' : D → D → Option D} (hc : CmpR g X op f) (hc' : CmpR g X op' f') (ha : DM g W X a ma) (hb : DM g W X b mb) (hd : DM g W X c mc) (hm : lastMarks [op, op'] [b, c] = false := by with_unfolding_all rfl) :
    DM g W X (.Compare a [op, op'] [b, c] pos) (mChain f f' ma mb mc) := by
  obtain ⟨r, ho, hr⟩ := hc.ex
  obtain ⟨r', ho', hr'⟩ := hc'.ex
  obtain ⟨ta, pa, sa⟩ := ha
  obtain ⟨tb, pb, sb⟩ := hb
  obtain ⟨tc, pc, sc⟩ := hd
  exact ⟨_, pe_chain ho ho' pa pb pc hm, SimE.chain hr hr' sa sb sc⟩
theorem dt_chain {op op' : CmpOp} {f f' : D → D → Option D} (hc : CmpR g X op f) (hc' : CmpR g X op' f') (ha : DM g W X a ma) (hb : DM g W X b mb) (hd : DM g W X c mc) (hm : lastMarks [op, op'] [b, c] = false := by with_unfolding_all rfl) :
    DT g W X (.Compare a [op, op'] [b, c] pos) (asB (mChain f f' ma mb mc)) := by
  obtain ⟨r, ho, hr⟩ := hc.ex
  obtain ⟨r', ho', hr'⟩ := hc'.ex
  obtain ⟨ta, pa, sa⟩ := ha
  obtain ⟨tb, pb, sb⟩ := hb
  obtain ⟨tc, pc, sc⟩ := hd
  exact ⟨_, pt_chain ho ho' pa pb pc hm, (SimE.chain hr hr' sa sb sc).test⟩

/-! and, or, not -/
def mAndV (ma mb : M D) : M D := fun ρ => bnd (ma ρ) fun d ρ1 => match d with
  | .bool true => mb ρ1
  | .bool false => .ok (.bool false) ρ1
  | _ => .bad
def mOrV (ma mb : M D) : M D := fun ρ => bnd (ma ρ) fun d ρ1 => match d with
  | .bool true => .ok (.bool true) ρ1
  | .bool false => mb ρ1
  | _ => .bad
def mNotV (ma : M D) : M D := fun ρ => bnd (ma ρ) fun d ρ1 => match d with
  | .bool b => .ok (.bool (!b)) ρ1
  | _ => .bad
variable {rest : List Expr} {op : BoolOp}
theorem dm_one (h : DM g W X a ma) : DM g W X (.BoolOp op [a] pos) ma := by
  obtain ⟨ta, pa, sa⟩ := h
  exact ⟨_, pe_one pa, sa⟩
theorem dm_and (ha : DM g W X a ma) (hb : DM g W X (.BoolOp .And (b :: rest) pos) mb) : DM g W X (.BoolOp .And (a :: b :: rest) pos) (mAndV ma mb) := by
  obtain ⟨ta, pa, sa⟩ := ha
  obtain ⟨tb, pb, sb⟩ := hb
  refine ⟨_, pe_and pa pb, fun B F H σ ρ Q E h => ?_⟩
  refine sa.then (R := PoE g.K g.mg W B F σ Q) E (fun x ρ' z => z) (fun z => z) h fun x ρ1 v F1 H1 g1 E1 r1 h1 => ?_
  cases r1 <;> first
    | exact False.elim h1
    | skip
  rename_i b
  refine ⟨b, rfl, ?_⟩
  cases b with
  | true => rw [if_pos rfl]; exact sb B F1 H1 σ ρ1 Q E1 (PoE.later g1 h1)
  | false => rw [if_neg (by decide)]; exact h1 _ F1 H1 g1 E1 (.bl false)
theorem dm_or (ha : DM g W X a ma) (hb : DM g W X (.BoolOp .Or (b :: rest) pos) mb) : DM g W X (.BoolOp .Or (a :: b :: rest) pos) (mOrV ma mb) := by
  obtain ⟨ta, pa, sa⟩ := ha
  obtain ⟨tb, pb, sb⟩ := hb
  refine ⟨_, pe_or pa pb, fun B F H σ ρ Q E h => ?_⟩
  refine sa.then (R := PoE g.K g.mg W B F σ Q) E (fun x ρ' z => z) (fun z => z) h fun x ρ1 v F1 H1 g1 E1 r1 h1 => ?_
  cases r1 <;> first
    | exact False.elim h1
    | skip
  rename_i b
  refine ⟨b, rfl, ?_⟩
  cases b with
  | true => rw [if_pos rfl]; exact h1 _ F1 H1 g1 E1 (.bl true)
  | false => rw [if_neg (by decide)]; exact sb B F1 H1 σ ρ1 Q E1 (PoE.later g1 h1)
theorem dm_not (ha : DM g W X a ma) : DM g W X (.UnaryOp .Not a pos) (mNotV ma) := by
  obtain ⟨ta, pa, sa⟩ := ha
  refine ⟨_, pe_not pa, fun B F H σ ρ Q E h => ?_⟩
  refine sa.then (R := PoE g.K g.mg W B F σ Q) E (fun x ρ' z => z) (fun z => z) h fun x ρ1 v F1 H1 g1 E1 r1 h1 => ?_
  cases r1 <;> first
    | exact False.elim h1
    | skip
  rename_i b
  exact ⟨b, rfl, h1 _ F1 H1 g1 E1 (.bl _)⟩
/-! tests -/
def tAndM (ma mb : M Bool) : M Bool := fun ρ => bnd (ma ρ) fun b ρ1 => match b with
  | true => mb ρ1
  | false => .ok false ρ1
def tOrM (ma mb : M Bool) : M Bool := fun ρ => bnd (ma ρ) fun b ρ1 => match b with
  | true => .ok true ρ1
  | false => mb ρ1
def tNotM (ma : M Bool) : M Bool := fun ρ => bnd (ma ρ) fun b ρ1 => .ok (!b) ρ1
/-- a chain of and, or -/
def DW (g : GC) (W : WX) (X : Cx) (e : Expr) (m : M Bool) : Prop := ∃ t, PW X e t ∧ SimT g.K g.mg W t m
variable {na nb : M Bool}
theorem DW.dt {e : Expr} (h : DW g W X e na) : DT g W X e na := by
  obtain ⟨t, p, q⟩ := h
  exact ⟨t, p.pt, q⟩
theorem dw_and1 (h : DT g W X a na) : DW g W X (.BoolOp .And [a] pos) na := by
  obtain ⟨t, p, q⟩ := h
  exact ⟨t, pw_and1 p, q⟩
theorem dw_or1 (h : DT g W X a na) : DW g W X (.BoolOp .Or [a] pos) na := by
  obtain ⟨t, p, q⟩ := h
  exact ⟨t, pw_or1 p, q⟩
theorem dw_and (ha : DT g W X a na) (hb : DW g W X (.BoolOp .And (b :: rest) pos) nb) : DW g W X (.BoolOp .And (a :: b :: rest) pos) (tAndM na nb) := by
  obtain ⟨ta, pa, sa⟩ := ha
  obtain ⟨tb, pb, sb⟩ := hb
  refine ⟨_, pw_and pa pb, fun B F H σ ρ Q E h => ?_⟩
  refine sa.then (R := PoT g.K g.mg W B F σ Q) E (fun x ρ' z => z) (fun z => z) h fun b ρ1 F1 H1 g1 E1 h1 => ?_
  cases b with
  | true => show (if true = true then _ else _); rw [if_pos rfl]; exact sb B F1 H1 σ ρ1 Q E1 (PoT.later g1 h1)
  | false => show (if false = true then _ else _); rw [if_neg (by decide)]; exact h1 F1 H1 g1 E1
theorem dw_or (ha : DT g W X a na) (hb : DW g W X (.BoolOp .Or (b :: rest) pos) nb) : DW g W X (.BoolOp .Or (a :: b :: rest) pos) (tOrM na nb) := by
  obtain ⟨ta, pa, sa⟩ := ha
  obtain ⟨tb, pb, sb⟩ := hb
  refine ⟨_, pw_or pa pb, fun B F H σ ρ Q E h => ?_⟩
  refine sa.then (R := PoT g.K g.mg W B F σ Q) E (fun x ρ' z => z) (fun z => z) h fun b ρ1 F1 H1 g1 E1 h1 => ?_
  cases b with
  | true => show (if true = true then _ else _); rw [if_pos rfl]; exact h1 F1 H1 g1 E1
  | false => show (if false = true then _ else _); rw [if_neg (by decide)]; exact sb B F1 H1 σ ρ1 Q E1 (PoT.later g1 h1)
theorem dt_not (ha : DT g W X a na) : DT g W X (.UnaryOp .Not a pos) (tNotM na) := by
  obtain ⟨ta, pa, sa⟩ := ha
  refine ⟨_, pt_not pa, fun B F H σ ρ Q E h => ?_⟩
  exact sa.then (R := PoT g.K g.mg W B F σ Q) E (fun x ρ' z => z) (fun z => z) h fun b ρ1 F1 H1 g1 E1 h1 => h1 F1 H1 g1 E1
/-- an expression that gives a bool, as a test (a call, a name, ..) -/
theorem dt_val (h : DM g W X a ma) (he : ∀ whole, isTrue a X.env whole = (do let v ← whole; standAt a.pos; holding [v] (truthy v)) := by intro _; rfl) : DT g W X a (asB ma) := by
  obtain ⟨t, p, q⟩ := h
  exact ⟨_, pt_val p he, q.test⟩
def mIf (c : M Bool) (ma mb : M D) : M D := fun ρ => bnd (c ρ) fun b ρ1 => match b with
  | true => ma ρ1
  | false => mb ρ1
theorem dm_if (hc : DT g W X c na) (ha : DM g W X a ma) (hb : DM g W X b mb) : DM g W X (.IfExp c a b pos) (mIf na ma mb) := by
  obtain ⟨tc, pc, sc⟩ := hc
  obtain ⟨ta, pa, sa⟩ := ha
  obtain ⟨tb, pb, sb⟩ := hb
  refine ⟨_, pe_ifExp pc pa pb, fun B F H σ ρ Q E h => ?_⟩
  refine sc.then (R := PoE g.K g.mg W B F σ Q) E (fun x ρ' z => z) (fun z => z) h fun b ρ1 F1 H1 g1 E1 h1 => ?_
  cases b with
  | true => show (if true = true then _ else _); rw [if_pos rfl]; exact sa B F1 H1 σ ρ1 Q E1 (PoE.later g1 h1)
  | false => show (if false = true then _ else _); rw [if_neg (by decide)]; exact sb B F1 H1 σ ρ1 Q E1 (PoE.later g1 h1)
end
end DX

set_option maxHeartbeats 1000000
namespace DX
open PySem PySem.Spec PyProof.Rows L2

/-! ### the built-ins stand -/
structure BF (g : GC) : Prop where
  len : g.mg "len" = none
  all : g.mg "all" = none
  any : g.mg "any" = none
  isinstance : g.mg "isinstance" = none
  int : g.mg "int" = none
  bool : g.mg "bool" = none
  tuple : g.mg "tuple" = none
  str : g.mg "str" = none
  list : g.mg "list" = none
  dict : g.mg "dict" = none
  set : g.mg "set" = none
  range : g.mg "range" = none
  sorted : g.mg "sorted" = none
  sum : g.mg "sum" = none
  abs : g.mg "abs" = none
  max : g.mg "max" = none
  min : g.mg "min" = none
  enumerate : g.mg "enumerate" = none
  zip : g.mg "zip" = none

section
variable {g : GC} {s : SS} {k : Nat} {W : WX} {X : Cx} {pos p : Pos} {a b c e : Expr} {es : List Expr} {ma mb mc : M D} {na : M (List D)}
theorem dm_callB (ok : Ok g s k W X) {x : Str} {id : String} {r : List V → Hp → VK → Prop} {f : List D → Option D} (hc : CallR X (.builtin id) r) (hr : RVn g.K r f) (hm : g.mg x = none) (hv : bootBuiltins x = some (.builtin id)) (ha : DA g W X (e :: es) na)
    (hg : gloB s.sc x = true) (hn : x ≠ "__name__" := by decide +kernel) (hd : (x == ("__debug__" : Str)) = false := by decide +kernel)
    (he : starEach (e :: es) X.env = (false, eval e X.env) :: starEach es X.env := by rfl) (hpl : (backTo pos (starEach es X.env)).any (·.1) = false := by rfl) : DM g W X (.Call (.Name x p) (e :: es) [] pos) (mApp f na) := by
  obtain ⟨ta, pa, sa⟩ := ha
  exact ⟨_, pe_callB hc (ok.glo hg) (by rw [ok.hmg]; exact hm) hv pa hn hd he hpl, SimE.app hr sa⟩
theorem dm_callT (ok : Ok g s k W X) {x : Str} {T : String} {r : List V → Hp → VK → Prop} {f : List D → Option D} (hc : CallR X (.type T) r) (hr : RVn g.K r f) (hm : g.mg x = none) (hv : bootBuiltins x = some (.type T)) (ha : DA g W X (e :: es) na)
    (hg : gloB s.sc x = true) (hn : x ≠ "__name__" := by decide +kernel) (hd : (x == ("__debug__" : Str)) = false := by decide +kernel)
    (he : starEach (e :: es) X.env = (false, eval e X.env) :: starEach es X.env := by rfl) (hpl : (backTo pos (starEach es X.env)).any (·.1) = false := by rfl) : DM g W X (.Call (.Name x p) (e :: es) [] pos) (mApp f na) := by
  obtain ⟨ta, pa, sa⟩ := ha
  exact ⟨_, pe_callTy hc (ok.glo hg) (by rw [ok.hmg]; exact hm) hv pa hn hd he hpl, SimE.app hr sa⟩
theorem dl_callB (ok : Ok g s k W X) {x : Str} {id : String} {r : List V → Hp → VK → Prop} {f : List D → Option Ob} (hc : CallR X (.builtin id) r) (hr : RLn g.K r f) (hm : g.mg x = none) (hv : bootBuiltins x = some (.builtin id)) (ha : DA g W X (e :: es) na)
    (hg : gloB s.sc x = true) (hn : x ≠ "__name__" := by decide +kernel) (hd : (x == ("__debug__" : Str)) = false := by decide +kernel)
    (he : starEach (e :: es) X.env = (false, eval e X.env) :: starEach es X.env := by rfl) (hpl : (backTo pos (starEach es X.env)).any (·.1) = false := by rfl) : DL g W X (.Call (.Name x p) (e :: es) [] pos) (mAppL f na) := by
  obtain ⟨ta, pa, sa⟩ := ha
  exact ⟨_, pe_callB hc (ok.glo hg) (by rw [ok.hmg]; exact hm) hv pa hn hd he hpl, SimL.app hr sa⟩
theorem dl_callT (ok : Ok g s k W X) {x : Str} {T : String} {r : List V → Hp → VK → Prop} {f : List D → Option Ob} (hc : CallR X (.type T) r) (hr : RLn g.K r f) (hm : g.mg x = none) (hv : bootBuiltins x = some (.type T)) (ha : DA g W X (e :: es) na)
    (hg : gloB s.sc x = true) (hn : x ≠ "__name__" := by decide +kernel) (hd : (x == ("__debug__" : Str)) = false := by decide +kernel)
    (he : starEach (e :: es) X.env = (false, eval e X.env) :: starEach es X.env := by rfl) (hpl : (backTo pos (starEach es X.env)).any (·.1) = false := by rfl) : DL g W X (.Call (.Name x p) (e :: es) [] pos) (mAppL f na) := by
  obtain ⟨ta, pa, sa⟩ := ha
  exact ⟨_, pe_callTy hc (ok.glo hg) (by rw [ok.hmg]; exact hm) hv pa hn hd he hpl, SimL.app hr sa⟩

/-! ### len -/
def fLen : List D → Option D
  | [.list ds] => some (.int ds.length)
  | [.tuple ds] => some (.int ds.length)
  | [.str x] => if x.length ≤ sizeLine then some (.int x.length) else none
  | _ => none
theorem rv_len {K : KC} : RVn K (fun xs H Q => ∃ x n, xs = [x] ∧ LenV K.K x H n ∧ Q (.int n) H) fLen := by
  intro F H xs ds z Q s rx h q
  unfold fLen at h
  split at h
  · cases h
    cases rx with
    | cons r t =>
    cases t
    cases r with
    | lst h1 z1 r1 =>
    refine ⟨_, _, rfl, .inl ⟨_, (h1.mono s).sq, rfl⟩, ?_⟩
    rw [r1.length]
    exact gz s q (.int _)
  · cases h
    cases rx with
    | cons r t =>
    cases t
    cases r with
    | tup h1 n1 z1 r1 =>
    refine ⟨_, _, rfl, .inr ⟨_, .inl (.inr ⟨_, s _ _ h1⟩), rfl⟩, ?_⟩
    rw [r1.length]
    exact gz s q (.int _)
  · split at h
    · cases h
      cases rx with
      | cons r t =>
      cases t
      cases r
      exact ⟨_, _, rfl, ⟨by assumption, rfl⟩, gz s q (.int _)⟩
    · cases h
  · cases h
theorem dm_len (ok : Ok g s k W X) (bf : BF g) (ha : DA g W X [a] na) (hg : gloB s.sc "len" = true := by decide +kernel) (hs : starEach [a] X.env = [(false, eval a X.env)] := by rfl) : DM g W X (.Call (.Name "len" p) [a] [] pos) (mApp fLen na) :=
  dm_callB ok call_len (by rw [ok.hK]; exact rv_len) bf.len PySem.boot_len ha hg (he := hs)

/-! ### all, any, sum of lists -/
def fAll : List D → Option D
  | [.list ds] => (boolsOf ds).map fun bs => .bool (bs.all id)
  | _ => none
def fAny : List D → Option D
  | [.list ds] => (boolsOf ds).map fun bs => .bool (bs.any id)
  | _ => none
def fSum : List D → Option D
  | [.list ds] => (intsOf ds).map fun ns => .int ns.sum
  | _ => none
theorem rv_all {K : KC} : RVn K (rAll K.K) fAll := by
  intro F H xs ds z Q s rx h q
  unfold fAll at h
  split at h
  · rename_i ds
    cases e : boolsOf ds with
    | none => rw [e] at h; cases h
    | some bs =>
      rw [e] at h; cases h
      rw [boolsOf_eq e] at rx
      cases rx with
      | cons r t =>
      cases t
      cases r with
      | lst h1 z1 r1 =>
      rw [r1.bools] at h1
      exact ⟨_, bs, rfl, (h1.mono s).sq, gz s q (.bl _)⟩
  · cases h
theorem rv_any {K : KC} : RVn K (rAny K.K) fAny := by
  intro F H xs ds z Q s rx h q
  unfold fAny at h
  split at h
  · rename_i ds
    cases e : boolsOf ds with
    | none => rw [e] at h; cases h
    | some bs =>
      rw [e] at h; cases h
      rw [boolsOf_eq e] at rx
      cases rx with
      | cons r t =>
      cases t
      cases r with
      | lst h1 z1 r1 =>
      rw [r1.bools] at h1
      exact ⟨_, bs, rfl, (h1.mono s).sq, gz s q (.bl _)⟩
  · cases h
theorem rv_sum {K : KC} : RVn K (rSum K.K) fSum := by
  intro F H xs ds z Q s rx h q
  unfold fSum at h
  split at h
  · rename_i ds
    cases e : intsOf ds with
    | none => rw [e] at h; cases h
    | some bs =>
      rw [e] at h; cases h
      rw [intsOf_eq e] at rx
      cases rx with
      | cons r t =>
      cases t
      cases r with
      | lst h1 z1 r1 =>
      rw [r1.ints] at h1
      exact ⟨_, bs, rfl, (h1.mono s).sq, gz s q (.int _)⟩
  · cases h
theorem dm_all (ok : Ok g s k W X) (bf : BF g) (ha : DA g W X [a] na) (hg : gloB s.sc "all" = true := by decide +kernel) (hs : starEach [a] X.env = [(false, eval a X.env)] := by rfl) : DM g W X (.Call (.Name "all" p) [a] [] pos) (mApp fAll na) :=
  dm_callB ok (cr_all ok.calm) (by rw [ok.hK]; exact rv_all) bf.all (by decide +kernel) ha hg (he := hs)
theorem dm_any (ok : Ok g s k W X) (bf : BF g) (ha : DA g W X [a] na) (hg : gloB s.sc "any" = true := by decide +kernel) (hs : starEach [a] X.env = [(false, eval a X.env)] := by rfl) : DM g W X (.Call (.Name "any" p) [a] [] pos) (mApp fAny na) :=
  dm_callB ok (cr_any ok.calm) (by rw [ok.hK]; exact rv_any) bf.any (by decide +kernel) ha hg (he := hs)
theorem dm_sum (ok : Ok g s k W X) (bf : BF g) (ha : DA g W X [a] na) (hg : gloB s.sc "sum" = true := by decide +kernel) (hs : starEach [a] X.env = [(false, eval a X.env)] := by rfl) : DM g W X (.Call (.Name "sum" p) [a] [] pos) (mApp fSum na) :=
  dm_callB ok (cr_sum ok.calm) (by rw [ok.hK]; exact rv_sum) bf.sum (by decide +kernel) ha hg (he := hs)

/-! ### abs, max, min of ints; int of a bool -/
def fAbs : List D → Option D
  | [.int i] => some (.int (if i < 0 then -i else i))
  | _ => none
def fMax2 : List D → Option D
  | [.int i, .int j] => some (.int (if j > i then j else i))
  | _ => none
def fMin2 : List D → Option D
  | [.int i, .int j] => some (.int (if j < i then j else i))
  | _ => none
def fInt1 : List D → Option D
  | [.int i] => some (.int i)
  | [.bool b] => some (.int (if b then 1 else 0))
  | _ => none
theorem rp1 {K : KC} {F : Hp} {xs : List V} {d : D} (h : RpA K F xs [d]) : ∃ v, xs = [v] ∧ Rp K F v d := by
  cases h with
  | cons r t => cases t; exact ⟨_, rfl, r⟩
theorem rp2 {K : KC} {F : Hp} {xs : List V} {d e : D} (h : RpA K F xs [d, e]) : ∃ v w, xs = [v, w] ∧ Rp K F v d ∧ Rp K F w e := by
  cases h with
  | cons r t =>
    obtain ⟨w, rfl, h⟩ := rp1 t
    exact ⟨_, _, rfl, r, h⟩
theorem dm_abs (ok : Ok g s k W X) (bf : BF g) (ha : DA g W X [a] na) (hg : gloB s.sc "abs" = true := by decide +kernel) (hs : starEach [a] X.env = [(false, eval a X.env)] := by rfl) : DM g W X (.Call (.Name "abs" p) [a] [] pos) (mApp fAbs na) :=
  dm_callB ok call_abs (fun F H xs ds z Q s rx h q => by
    unfold fAbs at h
    split at h <;> cases h
    obtain ⟨v, rfl, r⟩ := rp1 rx
    cases r
    exact ⟨_, rfl, gz s q (.int _)⟩) bf.abs (by decide +kernel) ha hg (he := hs)
theorem dm_max2 (ok : Ok g s k W X) (bf : BF g) (ha : DA g W X [a, b] na) (hg : gloB s.sc "max" = true := by decide +kernel) (hs : starEach [a, b] X.env = (false, eval a X.env) :: starEach [b] X.env := by rfl) (hs2 : (backTo pos (starEach [b] X.env)).any (·.1) = false := by rfl) : DM g W X (.Call (.Name "max" p) [a, b] [] pos) (mApp fMax2 na) :=
  dm_callB ok (call_max2 ok.calm) (fun F H xs ds z Q s rx h q => by
    unfold fMax2 at h
    split at h <;> cases h
    obtain ⟨v, w, rfl, r, r'⟩ := rp2 rx
    cases r; cases r'
    exact ⟨_, _, rfl, gz s q (.int _)⟩) bf.max (by decide +kernel) ha hg (he := hs) (hpl := hs2)
theorem dm_min2 (ok : Ok g s k W X) (bf : BF g) (ha : DA g W X [a, b] na) (hg : gloB s.sc "min" = true := by decide +kernel) (hs : starEach [a, b] X.env = (false, eval a X.env) :: starEach [b] X.env := by rfl) (hs2 : (backTo pos (starEach [b] X.env)).any (·.1) = false := by rfl) : DM g W X (.Call (.Name "min" p) [a, b] [] pos) (mApp fMin2 na) :=
  dm_callB ok (call_min2 ok.calm) (fun F H xs ds z Q s rx h q => by
    unfold fMin2 at h
    split at h <;> cases h
    obtain ⟨v, w, rfl, r, r'⟩ := rp2 rx
    cases r; cases r'
    exact ⟨_, _, rfl, gz s q (.int _)⟩) bf.min (by decide +kernel) ha hg (he := hs) (hpl := hs2)
theorem dm_int1 (ok : Ok g s k W X) (bf : BF g) (ha : DA g W X [a] na) (hg : gloB s.sc "int" = true := by decide +kernel) (hs : starEach [a] X.env = [(false, eval a X.env)] := by rfl) : DM g W X (.Call (.Name "int" p) [a] [] pos) (mApp fInt1 na) :=
  dm_callT ok call_int1 (fun F H xs ds z Q s rx h q => by
    unfold fInt1 at h
    split at h <;> cases h <;> obtain ⟨v, rfl, r⟩ := rp1 rx <;> cases r
    · exact .inl ⟨_, rfl, gz s q (.int _)⟩
    · exact .inr ⟨_, rfl, gz s q (.int _)⟩) bf.int (by decide +kernel) ha hg (he := hs)

/-! ### list(x), tuple(x) -/
def fList : List D → Option Ob
  | [.list ds] => some (.lst ds)
  | [.tuple ds] => some (.lst ds)
  | _ => none
def fTuple : List D → Option D
  | [.list ds] => some (.tuple ds)
  | [.tuple ds] => some (.tuple ds)
  | _ => none
theorem dl_list (ok : Ok g s k W X) (bf : BF g) (ha : DA g W X [a] na) (hg : gloB s.sc "list" = true := by decide +kernel) (hs : starEach [a] X.env = [(false, eval a X.env)] := by rfl) : DL g W X (.Call (.Name "list" p) [a] [] pos) (mAppL fList na) :=
  dl_callT ok call_list_of (fun F H xs ds z Q s rx h q => by
    unfold fList at h
    split at h <;> cases h <;> obtain ⟨v, rfl, r⟩ := rp1 rx
    · cases r with
      | lst h1 z1 r1 => exact ⟨_, _, rfl, .inl (by rw [ok.hK]; exact (h1.mono s).sq), fun l nl => q l F _ (Grow.made s nl) nl (s.nn nl) ⟨_, upd_same, z1, r1⟩⟩
    · cases r with
      | tup h1 n1 z1 r1 => exact ⟨_, _, rfl, .inr (.inl (.inr ⟨_, s _ _ h1⟩)), fun l nl => q l F _ (Grow.made s nl) nl (s.nn nl) ⟨_, upd_same, z1, r1⟩⟩) bf.list (by decide +kernel) ha hg (he := hs)
def rTupOf (K : PySem.W.Frag) : List V → Hp → VK → Prop := fun xs H Q => ∃ p ys, xs = [.ref p] ∧ ((SqL K H p ys ∧ ∀ l o, H l = none → o.dict = none → Q (.ref l) (upd H l (.frz o (.tup ys)))) ∨ (SqT K H p ys ∧ Q (.ref p) H))
theorem call_tupleZ : CallR X (.type "tuple") (rTupOf X.K) := by
  intro pins s σ H xs us Q I r h
  obtain ⟨p, ys, rfl, h⟩ := h
  obtain ⟨u, rfl, rx⟩ := vals1 r
  cases rx
  rcases h with ⟨hq, q⟩ | ⟨hq, q⟩
  · obtain ⟨its, r', pl, hz⟩ := I.list hq
    have hlen := r'.length
    refine call_tuple_list pl.isList (fun h' kp => ?_) (by simp only [List.size_toArray] <;> omega)
    have I1 : Inv X pins σ H { s with heap := h' } := I.kept (t' := s.toks) kp
    exact ⟨.ref h'.objs.size, _, laidZ I1 r' hz, rfl, q _ _ (I1.hok.fresh (Nat.le_refl _)) rfl⟩
  · obtain ⟨its, r', pl, hz⟩ := I.tuple hq
    exact call_tuple_same pl ⟨.ref p, H, I, rfl, q⟩
theorem dm_tuple (ok : Ok g s k W X) (bf : BF g) (ha : DA g W X [a] na) (hg : gloB s.sc "tuple" = true := by decide +kernel) (hs : starEach [a] X.env = [(false, eval a X.env)] := by rfl) : DM g W X (.Call (.Name "tuple" p) [a] [] pos) (mApp fTuple na) :=
  dm_callT ok call_tupleZ (fun F H xs ds z Q s rx h q => by
    unfold fTuple at h
    split at h <;> cases h <;> obtain ⟨v, rfl, r⟩ := rp1 rx
    · cases r with
      | lst h1 z1 r1 => exact ⟨_, _, rfl, .inl ⟨by rw [ok.hK]; exact (h1.mono s).sq, fun l o nl nd => q (.ref l) _ _ (Grow.laid s nl) (.tup upd_same nd z1 (r1.mono (Sub.new (s.nn nl))))⟩⟩
    · cases r with
      | tup h1 n1 z1 r1 => exact ⟨_, _, rfl, .inr ⟨.inl (.inr ⟨_, s _ _ h1⟩), gz s q (.tup h1 n1 z1 r1)⟩⟩) bf.tuple (by decide +kernel) ha hg (he := hs)

/-! ### isinstance with a built-in class -/
def tyD : D → String
  | .none => "NoneType"
  | .bool _ => "bool"
  | .int _ => "int"
  | .str _ => "str"
  | .list _ => "list"
  | .tuple _ => "tuple"
  | .dict _ => "dict"
theorem ty_of {K : KC} {F H : Hp} {v : V} {d : D} (s : Sub F H) (h : Rp K F v d) (nd : tyD d ≠ "dict") : TyX K.K H v (.type (tyD d)) := by
  cases h with
  | non => exact .base .non
  | bl b => exact .base (.bl b)
  | int i => exact .base (.int i)
  | str x => exact .base (.str x)
  | lst h z r =>
    rcases h.mono s with (h | ⟨o, h⟩) | ⟨its, n, hk, _⟩
    · exact .base (.lst h)
    · exact .base (.frz h)
    · exact .kList hk rfl
  | tup h n z r => exact .fTuple (s _ _ h)
  | dI h e r => exact absurd rfl nd
  | dT h a b c => exact absurd rfl nd
def fIsi (T : String) (d : D) : Option D := if tyD d = "dict" then none else (kitB (tyD d) T).map .bool
def mIsi (T : String) (ma : M D) : M D := mUn (fIsi T) ma
theorem dm_isi (ok : Ok g s k W X) (bf : BF g) (T : Str) (t : String) (ht : bootBuiltins T = some (.type t)) (hT : g.mg T = none) (ha : DM g W X a ma) (hg : gloB s.sc "isinstance" = true := by decide +kernel) (hgT : gloB s.sc T = true := by decide +kernel)
    (hn : T ≠ "__name__" := by decide +kernel) (hd : (T == ("__debug__" : Str)) = false := by decide +kernel) {pT : Pos}
    (hs : starEach [a, .Name T pT] X.env = (false, eval a X.env) :: starEach [.Name T pT] X.env := by rfl) (hs2 : (backTo pos (starEach [.Name T pT] X.env)).any (·.1) = false := by rfl) :
    DM g W X (.Call (.Name "isinstance" p) [a, .Name T pT] [] pos) (mIsi t ma) := by
  obtain ⟨ta, pa, sa⟩ := ha
  refine ⟨_, pe_callB call_isi (ok.glo hg) (by rw [ok.hmg]; exact bf.isinstance) (by decide +kernel) (pa_cons pa (pa_cons (pe_bltn (v := .ty t) (ok.glo hgT) (by rw [ok.hmg]; exact hT) ht rfl hn hd) pa_nil) hs) (by decide +kernel) (by decide +kernel) hs hs2, ?_⟩
  intro B F H σ ρ Q E h
  refine sa.then (R := PoE g.K g.mg W B F σ Q) E (fun x ρ' z => z) (fun z => z) h fun d ρ1 v F1 H1 g1 E1 r1 h1 => ?_
  unfold fIsi at h1
  split at h1
  · exact h1.elim
  · rename_i nd
    cases e : kitB (tyD d) t with
    | none => rw [e] at h1; exact h1.elim
    | some b =>
      rw [e] at h1
      exact ⟨_, _, .type (tyD d), .type t, b, rfl, .ty t, by rw [ok.hK]; exact ty_of E1.sub r1 nd, kit_ty e, h1 _ F1 H1 g1 E1 (.bl b)⟩

/-! ### subscripts -/
def fIx : D → D → Option D
  | .list ds, .int i => atI ds i
  | .tuple ds, .int i => atI ds i
  | .str z, .int i => if z.length ≤ sizeLine then (atI z.cps.toList i).map fun c => .str ⟨#[c]⟩ else none
  | _, _ => none
theorem RpA.atI {K : KC} {F : Hp} {vs : List V} {ds : List D} {i : Int} {d : D} (h : RpA K F vs ds) (e : L2.atI ds i = some d) : ∃ v, L2.atI vs i = some v ∧ Rp K F v d := by
  unfold L2.atI at e ⊢
  rw [h.length]
  cases q : ixN ds.length i with
  | none => rw [q] at e; cases e
  | some j => rw [q] at e; exact h.get e
theorem rv_ix {K : KC} : RV2 K (rIx K.K) fIx := by
  intro F H x y d e z Q s rx ry h q
  unfold fIx at h
  split at h
  · cases ry
    cases rx with
    | lst h1 z1 r1 =>
      obtain ⟨v, e1, r2⟩ := r1.atI h
      exact .inl ⟨_, _, _, v, rfl, rfl, (h1.mono s).sq, e1, gz s q r2⟩
  · cases ry
    cases rx with
    | tup h1 n1 z1 r1 =>
      obtain ⟨v, e1, r2⟩ := r1.atI h
      exact .inr (.inl ⟨_, _, _, v, rfl, rfl, .inl (.inr ⟨_, s _ _ h1⟩), e1, gz s q r2⟩)
  · split at h
    · rename_i hz
      cases ry
      cases rx
      rename_i zs i
      cases e : L2.atI zs.cps.toList i with
      | none => rw [e] at h; cases h
      | some c =>
        rw [e] at h; cases h
        exact .inr (.inr ⟨_, _, c, rfl, rfl, hz, e, gz s q (.str _)⟩)
    · cases h
  · cases h
theorem dm_ix (ok : Ok g s k W X) (ha : DM g W X a ma) (hb : DM g W X b mb) (hs : PlainIx b := by exact fun _ _ => rfl) : DM g W X (.Subscript a b pos) (mBin fIx ma mb) := by
  obtain ⟨ta, pa, sa⟩ := ha
  obtain ⟨tb, pb, sb⟩ := hb
  exact ⟨_, pe_ix ix_seq pa pb hs, SimE.bin (by rw [ok.hK]; exact rv_ix) sa sb⟩

/-! ### slices -/
def DO (g : GC) (W : WX) (X : Cx) (e : Option Expr) (m : M (Option Int)) : Prop := ∃ t, PO X e t ∧ ∀ B F H σ ρ (Q : Option Int → Hp → Prop), Env g.K B F H σ ρ →
  (match m ρ with
  | .ok o ρ' => ∀ F' H', Gr B F F' → Env g.K B F' H' σ ρ' → Q o H'
  | .exc x ρ' => ∀ C F' H', g.mg x = some (.ref C) → Gr B F F' → Env g.K B F' H' σ ρ' → W (.ref C) none σ H'
  | .bad => False) → t σ H Q
def oNo : M (Option Int) := fun ρ => .ok none ρ
def oSome (m : M D) : M (Option Int) := fun ρ => bnd (m ρ) fun d ρ1 => match d with
  | .int i => .ok (some i) ρ1
  | _ => .bad
theorem do_none : DO g W X none oNo := ⟨_, po_none, fun B F H σ ρ Q E h => h F H Gr.refl E⟩
theorem do_some (ha : DM g W X a ma) : DO g W X (some a) (oSome ma) := by
  obtain ⟨t, pt, st⟩ := ha
  refine ⟨_, po_some pt, fun B F H σ ρ Q E h => ?_⟩
  refine st B F H σ ρ _ E ?_
  unfold oSome at h
  cases e : ma ρ with
  | ok d ρ1 =>
    rw [e] at h
    intro v F' H' g' E' r
    cases r <;> first
      | exact False.elim h
      | exact ⟨_, rfl, h F' H' g' E'⟩
  | exc x ρ1 => rw [e] at h; exact h
  | bad => rw [e] at h; exact h
def cutD (ds : List D) (lo hi : Option Int) : List D := (ds.drop (HT.sIx ds.length 0 lo)).take (HT.sIx ds.length ds.length hi - HT.sIx ds.length 0 lo)
def fSl : D → Option Int → Option Int → Option D
  | .list ds, lo, hi => some (.list (cutD ds lo hi))
  | .tuple ds, lo, hi => some (.tuple (cutD ds lo hi))
  | .str z, lo, hi => if z.length ≤ sizeLine then some (.str (cutS z lo hi)) else none
  | _, _, _ => none
def mSl (ma : M D) (ml mh : M (Option Int)) : M D := fun ρ => bnd (ma ρ) fun d ρ1 => bnd (ml ρ1) fun lo ρ2 => bnd (mh ρ2) fun hi ρ3 => lft (fSl d lo hi) ρ3
theorem RpA.cut {K : KC} {F : Hp} {vs : List V} {ds : List D} (h : RpA K F vs ds) (lo hi : Option Int) : RpA K F (cutV vs lo hi) (cutD ds lo hi) := by
  unfold cutV cutD
  rw [h.length]
  exact (h.drop _).take _
theorem cut_whole {K : KC} {F : Hp} {vs : List V} {ds : List D} {lo hi : Option Int} (h : RpA K F vs ds) (hw : HT.sIx vs.length 0 lo = 0 ∧ HT.sIx vs.length vs.length hi = vs.length) : cutD ds lo hi = ds := by
  unfold cutD
  rw [← h.length, hw.1, hw.2]
  simp [h.length]
theorem cutD_length (xs : List D) (lo hi : Option Int) : (cutD xs lo hi).length ≤ xs.length := by
  unfold cutD
  rw [List.length_take, List.length_drop]
  omega
def rSlZ (K : PySem.W.Frag) : V → Option Int → Option Int → Hp → VK → Prop := fun x lo hi H Q => ∃ a xs, x = .ref a ∧ SqT K H a xs ∧
  (HT.sIx xs.length 0 lo = 0 ∧ HT.sIx xs.length xs.length hi = xs.length → Q (.ref a) H) ∧ (¬ (HT.sIx xs.length 0 lo = 0 ∧ HT.sIx xs.length xs.length hi = xs.length) → ∀ p o, H p = none → o.dict = none → Q (.ref p) (upd H p (.frz o (.tup (cutV xs lo hi)))))
theorem sl_tupZ : SlR X (rSlZ X.K) := by
  intro pins s σ H x v vl vu lo hi sl Q I rx hs pl pu h
  obtain ⟨a, xs, rfl, hx, q1, q2⟩ := h
  cases rx
  obtain ⟨its, r, ht, hz⟩ := I.tuple hx
  have hlen : its.toArray.size = xs.length := by rw [List.size_toArray]; exact r.length.symm
  refine ⟨"tuple", _, PyProof.Rows.slot_tuple_getitem.lookup, ht.typeIs, ?_⟩
  by_cases hw : HT.sIx xs.length 0 lo = 0 ∧ HT.sIx xs.length xs.length hi = xs.length
  · exact getItem_tuple_whole ht hs pl pu (by rw [hlen]; exact hw) ⟨.ref a, H, I, rfl, q1 hw⟩
  · refine HT.getItem_tuple_cut ht hs pl pu (by rw [hlen]; exact hw) ?_ (by rw [hlen]; exact hz)
    rw [hlen]
    exact ⟨.ref s.heap.objs.size, _, laidZ I ((r.drop (HT.sIx xs.length 0 lo)).take (HT.sIx xs.length xs.length hi - HT.sIx xs.length 0 lo)) (Nat.le_trans (cutV_length xs lo hi) hz), rfl, q2 hw _ _ (I.hok.fresh (Nat.le_refl _)) rfl⟩
theorem dm_sl (ok : Ok g s k W X) {lo hi : Option Expr} {ml mh : M (Option Int)} {p2 : Pos} (ha : DM g W X a ma) (hl : DO g W X lo ml) (hh : DO g W X hi mh) : DM g W X (.Subscript a (.Slice lo hi none p2) pos) (mSl ma ml mh) := by
  obtain ⟨ta, pa, sa⟩ := ha
  obtain ⟨tl, pl, sl⟩ := hl
  obtain ⟨th, ph, sh⟩ := hh
  refine ⟨_, pe_slice (sl_list.or (sl_tupZ.or sl_str)) pa pl ph, fun B F H σ ρ Q E h => ?_⟩
  refine sa.then (R := PoE g.K g.mg W B F σ Q) E (fun x ρ' z => z) (fun z => z) h fun d ρ1 v F1 H1 g1 E1 r1 h1 => ?_
  refine sl B F1 H1 σ ρ1 _ E1 ?_
  have h1 := PoE.later g1 h1
  cases el : ml ρ1 with
  | bad => rw [el] at h1; exact h1
  | exc x ρ2 => rw [el] at h1; exact h1
  | ok lo' ρ2 =>
  rw [el] at h1
  intro F2 H2 g2 E2
  refine sh B F2 H2 σ ρ2 _ E2 ?_
  have h2 := PoE.later g2 h1
  cases eh : mh ρ2 with
  | bad => simp only [bnd_ok, eh] at h2; exact h2
  | exc x ρ3 => simp only [bnd_ok, eh] at h2; exact h2
  | ok hi' ρ3 =>
  simp only [bnd_ok, eh] at h2
  intro F3 H3 g3 E3
  have h3 := PoE.later g3 h2
  have r3 := (r1.mono g2.sub).mono g3.sub
  cases ez : fSl d lo' hi' with
  | none => rw [ez] at h3; exact h3.elim
  | some z =>
  rw [ez] at h3
  unfold fSl at ez
  split at ez
  · cases ez
    cases r3 with
    | lst a1 z1 r4 =>
    rename_i ad xs
    refine .inl ⟨_, _, rfl, by rw [ok.hK]; exact (a1.mono E3.sub).sq, fun p np => ?_⟩
    have gw : Grow F3 H3 (upd F3 p (.lst (cutV xs lo' hi'))) (upd H3 p (.lst (cutV xs lo' hi'))) := Grow.laid E3.sub np
    exact h3 (.ref p) _ _ (gw.gr E3.subB) (E3.grow gw) (.lst (.inl (.inl upd_same)) (Nat.le_trans (cutV_length _ _ _) z1) ((r4.cut lo' hi').mono gw.subF))
  · cases ez
    cases r3 with
    | tup a1 n1 z1 r4 =>
    rename_i ad ob xs
    refine .inr (.inl ⟨_, _, rfl, .inl (.inr ⟨_, E3.sub _ _ a1⟩), fun hw => ?_, fun hw p o np nd => ?_⟩)
    · refine h3 _ F3 H3 Gr.refl E3 ?_
      rw [cut_whole r4 hw]
      exact .tup a1 n1 z1 r4
    · have gw : Grow F3 H3 (upd F3 p (.frz o (.tup (cutV xs lo' hi')))) (upd H3 p (.frz o (.tup (cutV xs lo' hi')))) := Grow.laid E3.sub np
      exact h3 (.ref p) _ _ (gw.gr E3.subB) (E3.grow gw) (.tup upd_same nd (Nat.le_trans (cutV_length _ _ _) z1) ((r4.cut lo' hi').mono gw.subF))
  · split at ez
    · cases ez
      cases r3
      exact .inr (.inr ⟨_, rfl, by assumption, h3 _ F3 H3 Gr.refl E3 (.str _)⟩)
    · cases ez
  · cases ez
end
end DX

set_option maxHeartbeats 1000000
namespace DX
open PySem PySem.Spec PyProof.Rows L2

inductive SR where
  | next (ρ : Rho)
  | ret (d : D) (ρ : Rho)
  | brk (ρ : Rho)
  | cont (ρ : Rho)
  | exc (s : Str) (ρ : Rho)
  | bad
abbrev MS := Rho → SR
/-- slots that stay -/
def Kp (pin : List Nat) (σ σ' : L2.St) : Prop := σ'.length = σ.length ∧ ∀ i ∈ pin, σ'[i]? = σ[i]?
theorem Kp.refl {pin : List Nat} {σ : L2.St} : Kp pin σ σ := ⟨rfl, fun _ _ => rfl⟩
theorem Kp.trans {pin : List Nat} {σ σ1 σ2 : L2.St} (a : Kp pin σ σ1) (b : Kp pin σ1 σ2) : Kp pin σ σ2 := ⟨b.1.trans a.1, fun i h => (b.2 i h).trans (a.2 i h)⟩
theorem Kp.set {pin : List Nat} {σ : L2.St} {i : Nat} {v : Option V} (h : i ∉ pin) : Kp pin σ (σ.set i v) := ⟨List.length_set, fun j hj => List.getElem?_set_ne (fun (e : i = j) => h (by rw [e]; exact hj))⟩

def PoS (K : KC) (mg : Str → Option Value) (W : WX) (pin : List Nat) (B F : Hp) (σ : L2.St) (D : Ends) : SR → Prop
  | .next ρ' => ∀ F' H' σ', Gr B F F' → Kp pin σ σ' → Env K B F' H' σ' ρ' → D.nx σ' H'
  | .brk ρ' => ∀ F' H' σ', Gr B F F' → Kp pin σ σ' → Env K B F' H' σ' ρ' → D.bk σ' H'
  | .cont ρ' => ∀ F' H' σ', Gr B F F' → Kp pin σ σ' → Env K B F' H' σ' ρ' → D.ct σ' H'
  | .ret d ρ' => ∀ v F' H' σ', Gr B F F' → Kp pin σ σ' → Env K B F' H' σ' ρ' → Rp K F' v d → D.rt v H'
  | .exc x ρ' => ∀ C F' H' σ', mg x = some (.ref C) → Gr B F F' → Kp pin σ σ' → Env K B F' H' σ' ρ' → W (.ref C) none σ' H'
  | .bad => False
def SimS (K : KC) (mg : Str → Option Value) (W : WX) (pin : List Nat) (t : TS) (m : MS) : Prop := ∀ B F H σ ρ D, Env K B F H σ ρ → PoS K mg W pin B F σ D (m ρ) → t D σ H
theorem PoS.later {K : KC} {mg : Str → Option Value} {W : WX} {pin : List Nat} {B F F1 : Hp} {σ σ1 : L2.St} {D : Ends} {r : SR} (g : Gr B F F1) (kp : Kp pin σ σ1) (h : PoS K mg W pin B F σ D r) : PoS K mg W pin B F1 σ1 D r := by
  cases r with
  | next ρ => exact fun F' H' σ' g' k' E => h F' H' σ' (g.trans g') (kp.trans k') E
  | brk ρ => exact fun F' H' σ' g' k' E => h F' H' σ' (g.trans g') (kp.trans k') E
  | cont ρ => exact fun F' H' σ' g' k' E => h F' H' σ' (g.trans g') (kp.trans k') E
  | ret d ρ => exact fun v F' H' σ' g' k' E r => h v F' H' σ' (g.trans g') (kp.trans k') E r
  | exc x ρ => exact fun C F' H' σ' e g' k' E => h C F' H' σ' e (g.trans g') (kp.trans k') E
  | bad => exact h

def DS (g : GC) (W : WX) (pin : List Nat) (X : Cx) (st : Stmt) (m : MS) : Prop := ∃ t, PS X st t ∧ SimS g.K g.mg W pin t m
def DSs (g : GC) (W : WX) (pin : List Nat) (X : Cx) (st : List Stmt) (m : MS) : Prop := ∃ t, PSs X st t ∧ SimS g.K g.mg W pin t m

/-- go on with an expression's value -/
def sBnd {α : Type} (m : MR α) (f : α → Rho → SR) : SR := match m with
  | .ok a ρ => f a ρ
  | .exc s ρ => .exc s ρ
  | .bad => .bad
@[simp] theorem sBnd_ok {α : Type} (a : α) (ρ : Rho) (f : α → Rho → SR) : sBnd (.ok a ρ) f = f a ρ := rfl
@[simp] theorem sBnd_exc {α : Type} (s : Str) (ρ : Rho) (f : α → Rho → SR) : sBnd (.exc s ρ : MR α) f = .exc s ρ := rfl
@[simp] theorem sBnd_bad {α : Type} (f : α → Rho → SR) : sBnd (.bad : MR α) f = .bad := rfl
section
variable {K : KC} {mg : Str → Option Value} {W : WX} {pin : List Nat}
theorem SimE.thenS {t : TE} {m : M D} (h : SimE K mg W t m) {B F H : Hp} {σ : L2.St} {ρ : Rho} {Dn : Ends} {Q : VK} {f : D → Rho → SR} (E : Env K B F H σ ρ)
    (hR : PoS K mg W pin B F σ Dn (sBnd (m ρ) f)) (go : ∀ d ρ1 v F1 H1, Gr B F F1 → Env K B F1 H1 σ ρ1 → Rp K F1 v d → PoS K mg W pin B F1 σ Dn (f d ρ1) → Q v H1) : t σ H Q := by
  refine h B F H σ ρ Q E ?_
  cases e : m ρ with
  | ok d ρ1 => rw [e] at hR; exact fun v F1 H1 g1 E1 r1 => go d ρ1 v F1 H1 g1 E1 r1 (PoS.later g1 Kp.refl hR)
  | exc x ρ1 => rw [e] at hR; exact fun C F' H' e g' E' => hR C F' H' σ e g' Kp.refl E'
  | bad => rw [e] at hR; exact hR
theorem SimL.thenS {t : TE} {m : M Ob} (h : SimL K mg W t m) {B F H : Hp} {σ : L2.St} {ρ : Rho} {Dn : Ends} {Q : VK} {f : Ob → Rho → SR} (E : Env K B F H σ ρ)
    (hR : PoS K mg W pin B F σ Dn (sBnd (m ρ) f)) (go : ∀ o ρ1 q F1 H1, Gr B F F1 → Env K B F1 H1 σ ρ1 → F1 q = none → B q = none → OR K F1 H1 q o → (∀ (i : Nat) (o' : Ob), ρ1[i]? = some (.own o') → σ[i]? = some (some (.ref q)) → False) → PoS K mg W pin B F1 σ Dn (f o ρ1) → Q (.ref q) H1) : t σ H Q := by
  refine h B F H σ ρ Q E ?_
  cases e : m ρ with
  | ok d ρ1 => rw [e] at hR; exact fun q F1 H1 g1 E1 a1 a2 a3 a4 => go d ρ1 q F1 H1 g1 E1 a1 a2 a3 a4 (PoS.later g1 Kp.refl hR)
  | exc x ρ1 => rw [e] at hR; exact fun C F' H' e g' E' => hR C F' H' σ e g' Kp.refl E'
  | bad => rw [e] at hR; exact hR
theorem SimT.thenS {t : TT} {m : M Bool} (h : SimT K mg W t m) {B F H : Hp} {σ : L2.St} {ρ : Rho} {Dn : Ends} {Q : Bool → Hp → Prop} {f : Bool → Rho → SR} (E : Env K B F H σ ρ)
    (hR : PoS K mg W pin B F σ Dn (sBnd (m ρ) f)) (go : ∀ b ρ1 F1 H1, Gr B F F1 → Env K B F1 H1 σ ρ1 → PoS K mg W pin B F1 σ Dn (f b ρ1) → Q b H1) : t σ H Q := by
  refine h B F H σ ρ Q E ?_
  cases e : m ρ with
  | ok d ρ1 => rw [e] at hR; exact fun F1 H1 g1 E1 => go d ρ1 F1 H1 g1 E1 (PoS.later g1 Kp.refl hR)
  | exc x ρ1 => rw [e] at hR; exact fun C F' H' e g' E' => hR C F' H' σ e g' Kp.refl E'
  | bad => rw [e] at hR; exact hR
end

/-! ### blocks, if, return, assignment -/
def sNext : MS := fun ρ => .next ρ
def sSeq (a b : MS) : MS := fun ρ => match a ρ with
  | .next ρ1 => b ρ1
  | r => r
def sIf (c : M Bool) (a b : MS) : MS := fun ρ => sBnd (c ρ) fun k ρ1 => match k with
  | true => a ρ1
  | false => b ρ1
def sRet (m : M D) : MS := fun ρ => sBnd (m ρ) fun d ρ1 => .ret d ρ1
def sRetN : MS := fun ρ => .ret .none ρ
def sSet (i : Nat) (m : M D) : MS := fun ρ => sBnd (m ρ) fun d ρ1 => .next (ρ1.set i (.val d))
def sSetL (i : Nat) (m : M Ob) : MS := fun ρ => sBnd (m ρ) fun o ρ1 => .next (ρ1.set i (.own o))
def sDrop (m : M D) : MS := fun ρ => sBnd (m ρ) fun _ ρ1 => .next ρ1
def sBrk : MS := fun ρ => .brk ρ
def sCont : MS := fun ρ => .cont ρ
section
variable {g : GC} {s : SS} {k : Nat} {W : WX} {pin : List Nat} {X : Cx} {pos : Pos} {a b c e : Expr} {st : Stmt} {rest : List Stmt} {m m1 m2 : MS} {ma : M D} {mo : M Ob} {mt : M Bool}
theorem dss_nil : DSs g W pin X [] sNext := ⟨_, pss_nil, fun B F H σ ρ D E h => h F H σ Gr.refl Kp.refl E⟩
theorem dss_cons (h1 : DS g W pin X st m1) (h2 : DSs g W pin X rest m2) : DSs g W pin X (st :: rest) (sSeq m1 m2) := by
  obtain ⟨t1, p1, s1⟩ := h1
  obtain ⟨t2, p2, s2⟩ := h2
  refine ⟨_, pss_cons p1 p2, fun B F H σ ρ D E h => ?_⟩
  refine s1 B F H σ ρ { D with nx := t2 D } E ?_
  unfold sSeq at h
  cases e : m1 ρ with
  | next ρ1 => rw [e] at h; exact fun F' H' σ' g' k' E' => s2 B F' H' σ' ρ1 D E' (PoS.later g' k' h)
  | brk ρ1 => rw [e] at h; exact h
  | cont ρ1 => rw [e] at h; exact h
  | ret d ρ1 => rw [e] at h; exact h
  | exc x ρ1 => rw [e] at h; exact h
  | bad => rw [e] at h; exact h
theorem dss_one (h1 : DS g W pin X st m1) : DSs g W pin X [st] m1 := by
  obtain ⟨t1, p1, s1⟩ := h1
  exact ⟨_, pss_one p1, s1⟩
theorem ds_if {as bs : List Stmt} (hc : DT g W X c mt) (ha : DSs g W pin X as m1) (hb : DSs g W pin X bs m2) : DS g W pin X (.If c as bs pos) (sIf mt m1 m2) := by
  obtain ⟨tc, pc, sc⟩ := hc
  obtain ⟨t1, p1, s1⟩ := ha
  obtain ⟨t2, p2, s2⟩ := hb
  refine ⟨_, ps_if pc p1 p2, fun B F H σ ρ D E h => ?_⟩
  refine sc.thenS E h fun b ρ1 F1 H1 g1 E1 h1 => ?_
  cases b with
  | true => show (if true = true then _ else _); rw [if_pos rfl]; exact s1 B F1 H1 σ ρ1 D E1 h1
  | false => show (if false = true then _ else _); rw [if_neg (by decide)]; exact s2 B F1 H1 σ ρ1 D E1 h1
theorem ds_ret (h : DM g W X e ma) : DS g W pin X (.Return (some e) pos) (sRet ma) := by
  obtain ⟨t, p, q⟩ := h
  refine ⟨_, ps_ret p, fun B F H σ ρ D E h => ?_⟩
  exact q.thenS E h fun d ρ1 v F1 H1 g1 E1 r1 h1 => h1 v F1 H1 σ Gr.refl Kp.refl E1 r1
theorem ds_retN : DS g W pin X (.Return none pos) sRetN := ⟨_, ps_retN, fun B F H σ ρ D E h => h .non F H σ Gr.refl Kp.refl E .non⟩
theorem ds_pass : DS g W pin X (.Pass pos) sNext := ⟨_, ps_pass, fun B F H σ ρ D E h => h F H σ Gr.refl Kp.refl E⟩
theorem ds_brk : DS g W pin X (.Break pos) sBrk := ⟨_, ps_break, fun B F H σ ρ D E h => h F H σ Gr.refl Kp.refl E⟩
theorem ds_cont : DS g W pin X (.Continue pos) sCont := ⟨_, ps_continue, fun B F H σ ρ D E h => h F H σ Gr.refl Kp.refl E⟩
theorem ds_expr (h : DM g W X e ma) (hs : swapsWith e none pos.line X.env = pure false := by rfl) : DS g W pin X (.Expr e pos) (sDrop ma) := by
  obtain ⟨t, p, q⟩ := h
  refine ⟨_, ps_expr p hs, fun B F H σ ρ D E h => ?_⟩
  exact q.thenS E h fun d ρ1 v F1 H1 g1 E1 r1 h1 => h1 F1 H1 σ Gr.refl Kp.refl E1
theorem ds_set (ok : Ok g s k W X) (i : Nat) {x : Str} {pos' : Pos} (h : DM g W X e ma) (hN : s.N[i]? = some x := by rfl) (hl : locB s x = true := by decide +kernel) (hp : i ∉ pin := by decide)
    (hs : swapsWith e (some (.Name x pos')) pos.line X.env = pure false := by rfl) : DS g W pin X (.Assign [.Name x pos'] e pos) (sSet i ma) := by
  obtain ⟨t, p, q⟩ := h
  refine ⟨_, ps_set ok.ndX (ok.at hN) (ok.loc hl).1 p hs (ok.loc hl).2, fun B F H σ ρ D E h => ?_⟩
  exact q.thenS E h fun d ρ1 v F1 H1 g1 E1 r1 h1 => h1 F1 H1 _ Gr.refl (Kp.set hp) (E1.setVal r1)
theorem ds_setL (ok : Ok g s k W X) (i : Nat) {x : Str} {pos' : Pos} (h : DL g W X e mo) (hN : s.N[i]? = some x := by rfl) (hl : locB s x = true := by decide +kernel) (hp : i ∉ pin := by decide)
    (hs : swapsWith e (some (.Name x pos')) pos.line X.env = pure false := by rfl) : DS g W pin X (.Assign [.Name x pos'] e pos) (sSetL i mo) := by
  obtain ⟨t, p, q⟩ := h
  refine ⟨_, ps_set ok.ndX (ok.at hN) (ok.loc hl).1 p hs (ok.loc hl).2, fun B F H σ ρ D E h => ?_⟩
  exact q.thenS E h fun o ρ1 q F1 H1 g1 E1 a1 a2 a3 a4 h1 => h1 F1 H1 _ Gr.refl (Kp.set hp) (E1.setOwn a3 a1 a2 fun j o' _ => a4 j o')
end

/-! ### targets -/
/-- an item of a walk: data, or (lo) a tuple that is new and taken apart at once -/
def Item (lo : Bool) (K : KC) (F H : Hp) (v : V) (x : D) : Prop := Rp K F v x ∨ (lo = true ∧ ∃ T xs ds, v = .ref T ∧ H T = some (.tup xs) ∧ RpA K F xs ds ∧ x = .tuple ds)
def DG (lo : Bool) (g : GC) (pin : List Nat) (X : Cx) (tg : Expr) (gs : D → Rho → Option Rho) : Prop := ∃ t, PG X tg t ∧ ∀ B F H σ ρ v x (Q : L2.St → Hp → Prop), Env g.K B F H σ ρ → Item lo g.K F H v x →
  (match gs x ρ with
  | some ρ' => ∀ σ', Kp pin σ σ' → Env g.K B F H σ' ρ' → Q σ' H
  | none => False) → t v σ H Q
def DGs (g : GC) (pin : List Nat) (X : Cx) (tgs : List Expr) (gs : List D → Rho → Option Rho) : Prop := ∃ t, PGs X tgs t ∧ ∀ B F H σ ρ vs xs (Q : L2.St → Hp → Prop), Env g.K B F H σ ρ → RpA g.K F vs xs →
  (match gs xs ρ with
  | some ρ' => ∀ σ', Kp pin σ σ' → Env g.K B F H σ' ρ' → Q σ' H
  | none => False) → t vs σ H Q
def gSet (i : Nat) : D → Rho → Option Rho := fun d ρ => some (ρ.set i (.val d))
def gsNil : List D → Rho → Option Rho := fun ds ρ => match ds with
  | [] => some ρ
  | _ => none
def gsCons (f : D → Rho → Option Rho) (r : List D → Rho → Option Rho) : List D → Rho → Option Rho := fun ds ρ => match ds with
  | d :: ds => (match f d ρ with
    | some ρ1 => r ds ρ1
    | none => none)
  | _ => none
def gTupD (r : List D → Rho → Option Rho) : D → Rho → Option Rho := fun d ρ => match d with
  | .tuple ds => r ds ρ
  | _ => none
section
variable {g : GC} {s : SS} {k : Nat} {W : WX} {pin : List Nat} {X : Cx} {pos : Pos} {lo : Bool}
theorem dg_name (ok : Ok g s k W X) (i : Nat) {x : Str} (hN : s.N[i]? = some x := by rfl) (hl : locB s x = true := by decide +kernel) (hp : i ∉ pin := by decide) : DG false g pin X (.Name x pos) (gSet i) := by
  refine ⟨_, pg_name ok.ndX (ok.at hN) (ok.loc hl).1 (ok.loc hl).2, fun B F H σ ρ v x Q E it h => ?_⟩
  rcases it with r | ⟨z, _⟩
  · exact h _ (Kp.set hp) (E.setVal r)
  · cases z
theorem dgs_nil : DGs g pin X [] gsNil := ⟨_, pgs_nil, fun B F H σ ρ vs xs Q E r h => by
  cases r with
  | nil => exact ⟨rfl, h σ Kp.refl E⟩
  | cons _ _ => exact h.elim⟩
theorem dgs_cons {e : Expr} {es : List Expr} {f : D → Rho → Option Rho} {r : List D → Rho → Option Rho} (h1 : DG false g pin X e f) (h2 : DGs g pin X es r)
    (hs : (assignEach (e :: es) X.env).map (·.2) = assign e X.env :: (assignEach es X.env).map (·.2) := by rfl) : DGs g pin X (e :: es) (gsCons f r) := by
  obtain ⟨t1, p1, s1⟩ := h1
  obtain ⟨t2, p2, s2⟩ := h2
  refine ⟨_, pgs_cons p1 p2 hs, fun B F H σ ρ vs xs Q E rr h => ?_⟩
  cases rr with
  | nil => exact h.elim
  | cons r1 rr =>
    rename_i v vs d ds
    refine ⟨v, vs, rfl, s1 B F H σ ρ v d _ E (.inl r1) ?_⟩
    simp only [gsCons] at h
    cases ef : f d ρ with
    | none => rw [ef] at h; exact h.elim
    | some ρ1 =>
      rw [ef] at h
      intro σ1 k1 E1
      refine s2 B F H σ1 ρ1 vs ds Q E1 rr ?_
      simp only at h
      cases er : r ds ρ1 with
      | none => rw [er] at h; exact h.elim
      | some ρ2 => rw [er] at h; exact fun σ' k' E' => h σ' (k1.trans k') E'
theorem dg_tup (ok : Ok g s k W X) {es : List Expr} {kk : Nat} {r : List D → Rho → Option Rho} {n : Nat} (h : DGs g pin X es r) (hl : ∀ ds ρ ρ', r ds ρ = some ρ' → ds.length = n)
    (hn : (assignEach es X.env).length = n := by rfl) (hst : (assignEach es X.env).findIdx? (·.1) = none := by rfl) : DG lo g pin X (.Tuple es kk pos) (gTupD r) := by
  obtain ⟨t, p, q⟩ := h
  refine ⟨_, pg_tup ok.calm p hn hst, fun B F H σ ρ v x Q E it h => ?_⟩
  have fin : ∀ {T : Addr} {xs : List V} {ds : List D}, SqT X.K H T xs → RpA g.K F xs ds → (match r ds ρ with | some ρ' => ∀ σ', Kp pin σ σ' → Env g.K B F H σ' ρ' → Q σ' H | none => False) →
      ∃ a xs, (V.ref T) = .ref a ∧ SqT X.K H a xs ∧ xs.length = n ∧ t xs σ H Q := fun {T xs ds} hq rr h => by
    cases er : r ds ρ with
    | none => rw [er] at h; exact h.elim
    | some ρ' => exact ⟨T, xs, rfl, hq, by rw [rr.length]; exact hl ds ρ ρ' er, q B F H σ ρ xs ds Q E rr h⟩
  rcases it with r0 | ⟨_, T, xs, ds, rfl, hT, rr, rfl⟩
  · unfold gTupD at h
    cases r0 <;> first
      | exact False.elim h
      | skip
    rename_i h1 n1 z1 r1
    exact fin (.inl (.inr ⟨_, E.sub _ _ h1⟩)) r1 h
  · exact fin (.inl (.inl hT)) rr h
theorem gsNil_len {ds : List D} {ρ ρ' : Rho} (h : gsNil ds ρ = some ρ') : ds.length = 0 := by
  cases ds with
  | nil => rfl
  | cons _ _ => cases h
theorem gsCons_len {f : D → Rho → Option Rho} {r : List D → Rho → Option Rho} {n : Nat} (hr : ∀ ds ρ ρ', r ds ρ = some ρ' → ds.length = n) : ∀ ds ρ ρ', gsCons f r ds ρ = some ρ' → ds.length = n + 1 := fun ds ρ ρ' h => by
  unfold gsCons at h
  cases ds with
  | nil => cases h
  | cons d ds =>
    simp only at h
    cases ef : f d ρ with
    | none => rw [ef] at h; cases h
    | some ρ1 => rw [ef] at h; simp [hr ds ρ1 ρ' h]
/-- target = value, the value a tuple taken apart -/
def sUnp (m : M D) (gs : D → Rho → Option Rho) : MS := fun ρ => sBnd (m ρ) fun d ρ1 => match gs d ρ1 with
  | some ρ2 => .next ρ2
  | none => .bad
theorem ds_unp {tg e : Expr} {ma : M D} {gs : D → Rho → Option Rho} (he : DM g W X e ma) (hg : DG false g pin X tg gs) (hs : swapsWithSole [tg] e pos.line X.env = pure false := by rfl) (hw : swappedStores [tg] e X.env = pure none := by rfl)
    (h1 : (assignEach [tg] X.env).map (·.2) = [assign tg X.env] := by rfl) : DS g W pin X (.Assign [tg] e pos) (sUnp ma gs) := by
  obtain ⟨t, p, q⟩ := he
  obtain ⟨t2, p2, q2⟩ := hg
  refine ⟨_, ps_asg p p2 hs hw h1, fun B F H σ ρ D E h => ?_⟩
  refine q.thenS E h fun d ρ1 v F1 H1 g1 E1 r1 h1 => ?_
  refine q2 B F1 H1 σ ρ1 v d _ E1 (.inl r1) ?_
  cases eg : gs d ρ1 with
  | none => rw [eg] at h1; exact h1
  | some ρ2 => rw [eg] at h1; exact fun σ' k' E' => h1 F1 H1 σ' Gr.refl k' E'
/-- a, b = x, y of plain locals: stored from the right -/
def sPar (i j : Nat) (ma : M (List D)) : MS := fun ρ => sBnd (ma ρ) fun ds ρ1 => match ds with
  | [x, y] => .next ((ρ1.set i (.val x)).set j (.val y))
  | _ => .bad
def isLocal (sc : Scope) (x : Str) : Bool := match sc.names.lookup x with
  | some .local => true
  | _ => false
theorem isLocal_of {sc : Scope} {x : Str} (h : isLocal sc x = true) : sc.names.lookup x = some .local := by
  unfold isLocal at h
  split at h
  · assumption
  · cases h
theorem ds_par (ok : Ok g s k W X) (i j : Nat) {x y : Str} {a b : Expr} {ma : M (List D)} {px py pt pt2 : Pos} {kt k2 : Nat} (ha : DA g W X [a, b] ma) (hi : s.N[i]? = some x := by rfl) (hj : s.N[j]? = some y := by rfl) (hij : i ≠ j := by decide)
    (hx : isLocal s.sc x = true := by decide +kernel) (hy : isLocal s.sc y = true := by decide +kernel) (hp : i ∉ pin := by decide) (hp2 : j ∉ pin := by decide)
    (hw : swappedStores [.Tuple [.Name x px, .Name y py] kt pt] (.Tuple [a, b] k2 pt2) X.env = pure (some [x, y]) := by rfl)
    (hs : swapsWithSole [.Tuple [.Name x px, .Name y py] kt pt] (.Tuple [a, b] k2 pt2) pos.line X.env = pure false := by rfl) : DS g W pin X (.Assign [.Tuple [.Name x px, .Name y py] kt pt] (.Tuple [a, b] k2 pt2) pos) (sPar i j ma) := by
  obtain ⟨t, p, q⟩ := ha
  refine ⟨_, ps_par ok.calm ok.ndX (ok.at hi) (ok.at hj) hij (by rw [ok.hsc]; exact isLocal_of hx) (by rw [ok.hsc]; exact isLocal_of hy) p hw hs, fun B F H σ ρ D E h => ?_⟩
  refine q B F H σ ρ _ E ?_
  unfold sPar at h
  cases e : ma ρ with
  | bad => rw [e] at h; exact h
  | exc x ρ1 => rw [e] at h; exact fun C F' H' e g' E' => h C F' H' σ e g' Kp.refl E'
  | ok ds ρ1 =>
    rw [e] at h
    intro vs F1 H1 g1 E1 r1
    simp only [sBnd_ok] at h
    split at h
    · obtain ⟨v, w, rfl, r2, r3⟩ := rp2 r1
      exact ⟨v, w, rfl, h F1 H1 _ g1 ((Kp.set hp).trans (Kp.set hp2)) ((E1.setVal r2).setVal r3)⟩
    · exact h.elim
end

/-! ### for -/
def ItR (lo : Bool) (K : KC) (F : Hp) (J : It) (xs : List D) : Prop := ∀ F' H', Sub F F' → Sub F' H' → J.stop xs.length H' ∧ ∀ (i : Nat) (x : D), xs[i]? = some x → J.go i H' ∧ ∀ v H'', J.yld i H' v H'' → ∃ F'', Grow F' H' F'' H'' ∧ Item lo K F'' H'' v x
def DI (lo : Bool) (g : GC) (W : WX) (X : Cx) (tg iter : Expr) (mi : M (List D)) : Prop := ∃ wi, PI X tg iter wi ∧ ∀ B F H σ ρ (R : It → Hp → Prop), Env g.K B F H σ ρ →
  (match mi ρ with
  | .ok xs ρ' => ∀ J F' H', Gr B F F' → Env g.K B F' H' σ ρ' → ItR lo g.K F' J xs → R J H'
  | .exc x ρ' => ∀ C F' H', g.mg x = some (.ref C) → Gr B F F' → Env g.K B F' H' σ ρ' → W (.ref C) none σ H'
  | .bad => False) → wi σ H R
def forL (gs : D → Rho → Option Rho) (body : MS) : List D → Rho → SR
  | [], ρ => .next ρ
  | x :: xs, ρ => match gs x ρ with
    | none => .bad
    | some ρ1 => match body ρ1 with
      | .next ρ2 => forL gs body xs ρ2
      | .cont ρ2 => forL gs body xs ρ2
      | .brk ρ2 => .next ρ2
      | r => r
def sFor (mi : M (List D)) (gs : D → Rho → Option Rho) (body : MS) : MS := fun ρ => sBnd (mi ρ) fun xs ρ1 => forL gs body xs ρ1
section
variable {g : GC} {s : SS} {k : Nat} {W : WX} {pin : List Nat} {X : Cx} {pos : Pos} {lo : Bool}
theorem Item.grow {K : KC} {F H F' H' : Hp} {v : V} {x : D} (h : Item lo K F H v x) (g : Grow F H F' H') : Item lo K F' H' v x := by
  rcases h with h | ⟨a, T, xs, ds, e, hT, r, ex⟩
  · exact .inl (h.mono g.subF)
  · exact .inr ⟨a, T, xs, ds, e, g.subH _ _ hT, r.mono g.subF, ex⟩
theorem ds_for (ok : Ok g s k W X) {tg iter : Expr} {body : List Stmt} {mi : M (List D)} {gs : D → Rho → Option Rho} {mb : MS} (hi : DI lo g W X tg iter mi) (hg : DG lo g pin X tg gs) (hb : DSs g W pin X body mb)
    (hs : ∀ x, foldedSetIterable iter X.env x = pure x := by intro _; rfl) : DS g W pin X (.For tg iter body [] pos) (sFor mi gs mb) := by
  obtain ⟨wi, pi, si⟩ := hi
  obtain ⟨tg', pg, sg⟩ := hg
  obtain ⟨tb, pb, sb⟩ := hb
  refine ⟨_, ps_for ok.po ok.calm pi pg pb hs, fun B F H σ ρ D E h => ?_⟩
  refine si B F H σ ρ _ E ?_
  unfold sFor at h
  cases ei : mi ρ with
  | bad => rw [ei] at h; exact h
  | exc x ρ1 => rw [ei] at h; exact fun C F' H' e g' E' => h C F' H' σ e g' Kp.refl E'
  | ok xs ρ1 =>
  rw [ei] at h
  simp only [sBnd_ok] at h
  intro J F1 H1 g1 E1 hJ
  have h := PoS.later g1 Kp.refl h
  refine ⟨fun i m σ' H' => m = xs.length - i ∧ i ≤ xs.length ∧ ∃ F' ρ', Gr B F1 F' ∧ Env g.K B F' H' σ' ρ' ∧ Kp pin σ σ' ∧ PoS g.K g.mg W pin B F' σ' D (forL gs mb (xs.drop i) ρ'), ⟨xs.length, by simp, Nat.zero_le _, F1, ρ1, Gr.refl, E1, Kp.refl, by simpa using h⟩, ?_⟩
  rintro i m σ2 H2 ⟨rfl, hi, F2, ρ2, g2, E2, k2, h2⟩
  obtain ⟨hstop, hgo⟩ := hJ F2 H2 g2.sub E2.sub
  by_cases hlt : i < xs.length
  · have ex : xs[i]? = some xs[i] := List.getElem?_eq_getElem hlt
    have ed : xs.drop i = xs[i] :: xs.drop (i + 1) := List.drop_eq_getElem_cons hlt
    obtain ⟨go, yl⟩ := hgo i xs[i] ex
    refine .inr ⟨go, fun σ' H' => ∃ F' ρ', Gr B F1 F' ∧ Env g.K B F' H' σ' ρ' ∧ Kp pin σ σ' ∧ PoS g.K g.mg W pin B F' σ' D (forL gs mb (xs.drop (i + 1)) ρ'), fun σ' H' hN => ⟨xs.length - (i + 1), by omega, rfl, hlt, hN⟩, fun v H3 hy => ?_⟩
    obtain ⟨F3, gw, it⟩ := yl v H3 hy
    have E3 := E2.grow gw
    have g3 := gw.gr E2.subB
    rw [ed] at h2
    have h3 := PoS.later g3 Kp.refl h2
    unfold forL at h3
    refine sg B F3 H3 σ2 ρ2 v xs[i] _ E3 it ?_
    cases eg : gs xs[i] ρ2 with
    | none => rw [eg] at h3; exact h3
    | some ρ3 =>
    rw [eg] at h3
    intro σ4 k4 E4
    refine sb B F3 H3 σ4 ρ3 _ E4 ?_
    have h4 := PoS.later Gr.refl k4 h3
    simp only at h4
    cases eb : mb ρ3 with
    | next ρ4 => rw [eb] at h4; exact fun F' H' σ' g' k' E' => ⟨F', ρ4, (g2.trans g3).trans g', E', (k2.trans k4).trans k', PoS.later g' k' h4⟩
    | cont ρ4 => rw [eb] at h4; exact fun F' H' σ' g' k' E' => ⟨F', ρ4, (g2.trans g3).trans g', E', (k2.trans k4).trans k', PoS.later g' k' h4⟩
    | brk ρ4 => rw [eb] at h4; exact h4
    | ret d ρ4 => rw [eb] at h4; exact h4
    | exc x ρ4 => rw [eb] at h4; exact h4
    | bad => rw [eb] at h4; exact h4
  · have e : i = xs.length := by omega
    subst e
    rw [List.drop_length] at h2
    exact .inl ⟨hstop, h2 F2 H2 σ2 Gr.refl Kp.refl E2⟩

/-! iterables -/
def seqD : D → Option (List D)
  | .list ds => some ds
  | .tuple ds => some ds
  | _ => none
def iList (m : M D) : M (List D) := fun ρ => bnd (m ρ) fun d ρ1 => match d with
  | .list ds => .ok ds ρ1
  | _ => .bad
def iTuple (m : M D) : M (List D) := fun ρ => bnd (m ρ) fun d ρ1 => match d with
  | .tuple ds => .ok ds ρ1
  | _ => .bad
theorem itr_list {K : KC} {F : Hp} {a : Addr} {xs : List V} {ds : List D} (h : LsAt K.K F a xs) (r : RpA K F xs ds) (lo : Bool) : ItR lo K F (Itl K.K a) ds := by
  intro F' H' s1 s2
  have hq : SqL K.K H' a xs := ((h.mono s1).mono s2).sq
  refine ⟨⟨xs, hq, by rw [r.length]; exact Nat.le_refl _⟩, fun i x ex => ?_⟩
  obtain ⟨v0, e0, r0⟩ := r.get ex
  refine ⟨⟨xs, v0, hq, e0⟩, fun v H'' hy => ?_⟩
  obtain ⟨rfl, hy⟩ := hy
  have e1 := hy xs hq
  rw [e0] at e1
  cases e1
  exact ⟨F', Grow.refl s2, .inl (r0.mono s1)⟩
theorem itr_tup {K : KC} {X : Cx} {F : Hp} {a : Addr} {xs : List V} {ds : List D} (h : Rd F a (.tup xs)) (r : RpA K F xs ds) (lo : Bool) : ItR lo K F (Itt X.K a) ds := by
  intro F' H' s1 s2
  have hq : SqT X.K H' a xs := .inl (rd_mono s2 (rd_mono s1 h))
  refine ⟨⟨xs, hq, by rw [r.length]; exact Nat.le_refl _⟩, fun i x ex => ?_⟩
  obtain ⟨v0, e0, r0⟩ := r.get ex
  refine ⟨⟨xs, v0, hq, e0⟩, fun v H'' hy => ?_⟩
  obtain ⟨rfl, hy⟩ := hy
  have e1 := hy xs hq
  rw [e0] at e1
  cases e1
  exact ⟨F', Grow.refl s2, .inl (r0.mono s1)⟩
theorem di_list (ok : Ok g s k W X) {tg l : Expr} {m : M D} (h : DM g W X l m) : DI lo g W X tg l (iList m) := by
  obtain ⟨t, p, q⟩ := h
  refine ⟨_, pi_list p, fun B F H σ ρ R E h => ?_⟩
  refine q B F H σ ρ _ E ?_
  unfold iList at h
  cases e : m ρ with
  | bad => rw [e] at h; exact h
  | exc x ρ1 => rw [e] at h; exact h
  | ok d ρ1 =>
    rw [e] at h
    intro v F' H' g' E' r
    cases r <;> first
      | exact False.elim h
      | skip
    rename_i h1 z1 r1
    exact ⟨_, rfl, ⟨_, by rw [ok.hK]; exact (h1.mono E'.sub).sq⟩, h _ F' H' g' E' (by rw [ok.hK]; exact itr_list h1 r1 lo)⟩
theorem di_tup {tg l : Expr} {m : M D} (h : DM g W X l m) : DI lo g W X tg l (iTuple m) := by
  obtain ⟨t, p, q⟩ := h
  refine ⟨_, pi_tup p, fun B F H σ ρ R E h => ?_⟩
  refine q B F H σ ρ _ E ?_
  unfold iTuple at h
  cases e : m ρ with
  | bad => rw [e] at h; exact h
  | exc x ρ1 => rw [e] at h; exact h
  | ok d ρ1 =>
    rw [e] at h
    intro v F' H' g' E' r
    cases r <;> first
      | exact False.elim h
      | skip
    rename_i h1 n1 z1 r1
    exact ⟨_, rfl, ⟨_, .inl (.inr ⟨_, E'.sub _ _ h1⟩)⟩, h _ F' H' g' E' (itr_tup (.inr ⟨_, h1⟩) r1 lo)⟩
/-- lo, lo + 1, .. -/
def rangeD (lo : Int) (n : Nat) : List D := (List.range n).map fun (i : Nat) => .int (lo + (i : Int))
def rng1 : List D → Option (List D)
  | [.int j] => if -(2 ^ 62) ≤ j ∧ j < 2 ^ 62 then some (rangeD 0 j.toNat) else none
  | _ => none
def rng2 : List D → Option (List D)
  | [.int i, .int j] => if -(2 ^ 62) ≤ i ∧ i < 2 ^ 62 ∧ -(2 ^ 62) ≤ j ∧ j < 2 ^ 62 then some (rangeD i (j - i).toNat) else none
  | _ => none
def iRange1 (ma : M (List D)) : M (List D) := fun ρ => bnd (ma ρ) fun ds ρ1 => lft (rng1 ds) ρ1
def iRange2 (ma : M (List D)) : M (List D) := fun ρ => bnd (ma ρ) fun ds ρ1 => lft (rng2 ds) ρ1
theorem itr_range {K : KC} {F : Hp} {i0 : Int} {n : Nat} : ItR lo K F (Itr i0 n) (rangeD i0 n) := by
  intro F' H' s1 s2
  refine ⟨by show n ≤ (rangeD i0 n).length; simp [rangeD], fun i x ex => ?_⟩
  unfold rangeD at ex
  rw [List.getElem?_map] at ex
  have hi : i < n := by
    by_cases hi : i < n
    · exact hi
    · rw [List.getElem?_eq_none (by simpa using hi)] at ex; cases ex
  rw [List.getElem?_range hi] at ex
  cases ex
  refine ⟨hi, fun v H'' hy => ?_⟩
  obtain ⟨rfl, rfl⟩ := hy
  exact ⟨F', Grow.refl s2, .inl (.int _)⟩
theorem di_range1 (ok : Ok g s k W X) (bf : BF g) {tg a : Expr} {ma : M (List D)} {p : Pos} (h : DA g W X [a] ma) (hg : gloB s.sc "range" = true := by decide +kernel) (hs : starEach [a] X.env = [(false, eval a X.env)] := by rfl) : DI lo g W X tg (.Call (.Name "range" p) [a] [] pos) (iRange1 ma) := by
  obtain ⟨t, p, q⟩ := h
  refine ⟨_, pi_range1 (ok.glo hg) (by rw [ok.hmg]; exact bf.range) p hs, fun B F H σ ρ R E h => ?_⟩
  refine q B F H σ ρ _ E ?_
  unfold iRange1 at h
  cases e : ma ρ with
  | bad => rw [e] at h; exact h
  | exc x ρ1 => rw [e] at h; exact h
  | ok ds ρ1 =>
    rw [e] at h
    intro vs F' H' g' E' r
    simp only [bnd_ok] at h
    cases e2 : rng1 ds with
    | none => rw [e2] at h; exact False.elim h
    | some xs =>
    rw [e2] at h
    unfold rng1 at e2
    split at e2
    · split at e2
      · rename_i hz
        cases e2
        obtain ⟨v, rfl, r1⟩ := rp1 r
        cases r1
        exact ⟨_, rfl, hz.1, hz.2, h _ F' H' g' E' itr_range⟩
      · cases e2
    · cases e2
theorem di_range2 (ok : Ok g s k W X) (bf : BF g) {tg a b : Expr} {ma : M (List D)} {p : Pos} (h : DA g W X [a, b] ma) (hg : gloB s.sc "range" = true := by decide +kernel) (hs : starEach [a, b] X.env = [(false, eval a X.env), (false, eval b X.env)] := by rfl) (hs2 : starEach [b] X.env = [(false, eval b X.env)] := by rfl) :
    DI lo g W X tg (.Call (.Name "range" p) [a, b] [] pos) (iRange2 ma) := by
  obtain ⟨t, p, q⟩ := h
  refine ⟨_, pi_range2 (ok.glo hg) (by rw [ok.hmg]; exact bf.range) p hs hs2, fun B F H σ ρ R E h => ?_⟩
  refine q B F H σ ρ _ E ?_
  unfold iRange2 at h
  cases e : ma ρ with
  | bad => rw [e] at h; exact h
  | exc x ρ1 => rw [e] at h; exact h
  | ok ds ρ1 =>
    rw [e] at h
    intro vs F' H' g' E' r
    simp only [bnd_ok] at h
    cases e2 : rng2 ds with
    | none => rw [e2] at h; exact False.elim h
    | some xs =>
    rw [e2] at h
    unfold rng2 at e2
    split at e2
    · split at e2
      · rename_i hz
        cases e2
        obtain ⟨v, w, rfl, r1, r2⟩ := rp2 r
        cases r1
        cases r2
        exact ⟨_, _, rfl, hz, h _ F' H' g' E' itr_range⟩
      · cases e2
    · cases e2
end

/-! ### while: at most n turns are told -/
def whileN (c : M Bool) (body : MS) : Nat → MS
  | 0 => fun _ => .bad
  | n + 1 => fun ρ => sBnd (c ρ) fun b ρ1 => match b with
    | false => .next ρ1
    | true => match body ρ1 with
      | .next ρ2 => whileN c body n ρ2
      | .cont ρ2 => whileN c body n ρ2
      | .brk ρ2 => .next ρ2
      | r => r
section
variable {g : GC} {s : SS} {k : Nat} {W : WX} {pin : List Nat} {X : Cx} {pos : Pos}
theorem ds_while (ok : Ok g s k W X) (n : Nat) {c : Expr} {body : List Stmt} {mc : M Bool} {mb : MS} (hc : DT g W X c mc) (hb : DSs g W pin X body mb) : DS g W pin X (.While c body [] pos) (whileN mc mb n) := by
  obtain ⟨tc, pc, sc⟩ := hc
  obtain ⟨tb, pb, sb⟩ := hb
  refine ⟨_, ps_while ok.po pc pb, fun B F H σ ρ D E h => ?_⟩
  refine ⟨fun m σ' H' => ∃ F' ρ', Gr B F F' ∧ Env g.K B F' H' σ' ρ' ∧ Kp pin σ σ' ∧ PoS g.K g.mg W pin B F' σ' D (whileN mc mb m ρ'), ⟨n, F, ρ, Gr.refl, E, Kp.refl, h⟩, ?_⟩
  rintro m σ2 H2 ⟨F2, ρ2, g2, E2, k2, h2⟩
  cases m with
  | zero => exact h2.elim
  | succ m =>
    refine sc.thenS E2 h2 fun b ρ3 F3 H3 g3 E3 h3 => ?_
    cases b with
    | false => show (if false = true then _ else _); rw [if_neg (by decide)]; exact h3 F3 H3 σ2 Gr.refl Kp.refl E3
    | true =>
      show (if true = true then _ else _)
      rw [if_pos rfl]
      refine ⟨fun σ' H' => ∃ F' ρ', Gr B F F' ∧ Env g.K B F' H' σ' ρ' ∧ Kp pin σ σ' ∧ PoS g.K g.mg W pin B F' σ' D (whileN mc mb m ρ'), fun σ' H' hN => ⟨m, by omega, hN⟩, ?_⟩
      refine sb B F3 H3 σ2 ρ3 _ E3 ?_
      simp only at h3
      cases eb : mb ρ3 with
      | next ρ4 => rw [eb] at h3; exact fun F' H' σ' g' k' E' => ⟨F', ρ4, (g2.trans g3).trans g', E', k2.trans k', PoS.later g' k' h3⟩
      | cont ρ4 => rw [eb] at h3; exact fun F' H' σ' g' k' E' => ⟨F', ρ4, (g2.trans g3).trans g', E', k2.trans k', PoS.later g' k' h3⟩
      | brk ρ4 => rw [eb] at h3; exact h3
      | ret d ρ4 => rw [eb] at h3; exact h3
      | exc x ρ4 => rw [eb] at h3; exact h3
      | bad => rw [eb] at h3; exact h3
end
end DX

set_option maxHeartbeats 1000000
namespace DX
open PySem PySem.Spec PyProof.Rows L2

/-! ### slots forgotten and brought back -/
def wipeR (ρ : Rho) : List Nat → Rho
  | [] => ρ
  | v :: vs => (wipeR ρ vs).set v .no
def unw (ρ1 : Rho) : List Nat → Rho → Rho
  | [], ρ2 => ρ2
  | v :: vs, ρ2 => (unw ρ1 vs ρ2).set v (ρ1.getD v .no)
theorem wipeR_length (ρ : Rho) : ∀ vs, (wipeR ρ vs).length = ρ.length
  | [] => rfl
  | v :: vs => by unfold wipeR; rw [List.length_set, wipeR_length ρ vs]
theorem unw_length (ρ1 ρ2 : Rho) : ∀ vs, (unw ρ1 vs ρ2).length = ρ2.length
  | [] => rfl
  | v :: vs => by unfold unw; rw [List.length_set, unw_length ρ1 ρ2 vs]
theorem unw_in {ρ1 ρ2 : Rho} {i : Nat} {c : Cell} : ∀ {vs : List Nat}, i ∈ vs → (unw ρ1 vs ρ2)[i]? = some c → c = ρ1.getD i .no
  | v :: vs, h, e => by
    unfold unw at e
    by_cases hi : v = i
    · subst hi
      by_cases hl : v < (unw ρ1 vs ρ2).length
      · rw [List.getElem?_set_self hl] at e; cases e; rfl
      · rw [List.getElem?_eq_none (by simp; omega)] at e; cases e
    · rw [List.getElem?_set_ne hi] at e
      exact unw_in (by cases h with | head => exact absurd rfl hi | tail _ h => exact h) e
theorem unw_out {ρ1 ρ2 : Rho} {i : Nat} : ∀ {vs : List Nat}, i ∉ vs → (unw ρ1 vs ρ2)[i]? = ρ2[i]?
  | [], _ => rfl
  | v :: vs, h => by
    unfold unw
    rw [List.getElem?_set_ne (fun e => h (by rw [e]; exact List.mem_cons_self))]
    exact unw_out fun z => h (List.mem_cons_of_mem _ z)
section
variable {K : KC} {B F H : Hp} {σ : L2.St} {ρ : Rho}
theorem Env.setNo (E : Env K B F H σ ρ) (i : Nat) : Env K B F H (σ.set i none) (ρ.set i .no) where
  subB := E.subB
  sub := E.sub
  len := by simp [E.len]
  val := fun j d e => by
    by_cases hj : i = j
    · subst hj
      by_cases hl : i < ρ.length
      · rw [List.getElem?_set_self hl] at e; cases e
      · rw [List.getElem?_eq_none (by simp; omega)] at e; cases e
    · rw [List.getElem?_set_ne hj] at e ⊢; exact E.val j d e
  own := fun j o e => by
    by_cases hj : i = j
    · subst hj
      by_cases hl : i < ρ.length
      · rw [List.getElem?_set_self hl] at e; cases e
      · rw [List.getElem?_eq_none (by simp; omega)] at e; cases e
    · rw [List.getElem?_set_ne hj] at e ⊢; exact E.own j o e
  inj := fun j k o o' q hjk e1 e2 e3 e4 => by
    have g : ∀ (k : Nat) (o : Ob), (ρ.set i .no)[k]? = some (.own o) → i ≠ k := fun k o e z => by
      subst z
      by_cases hl : i < ρ.length
      · rw [List.getElem?_set_self hl] at e; cases e
      · rw [List.getElem?_eq_none (by simp; omega)] at e; cases e
    have h1 := g j o e1
    have h2 := g k o' e2
    rw [List.getElem?_set_ne h1] at e1 e3
    rw [List.getElem?_set_ne h2] at e2 e4
    exact E.inj j k o o' q hjk e1 e2 e3 e4
theorem Env.wipe (E : Env K B F H σ ρ) : ∀ vs, Env K B F H (L2.wipe σ vs) (wipeR ρ vs)
  | [] => E
  | v :: vs => (Env.wipe E vs).setNo v
/-- more that stays -/
theorem Env.addB (E : Env K B F H σ ρ) {p : Addr} {o : HO} (h : H p = some o) (hq : ∀ (i : Nat) (o' : Ob), ρ[i]? = some (.own o') → σ[i]? = some (some (.ref p)) → False) : Env K (upd B p o) F H σ ρ :=
  ⟨E.subB.add h, E.sub, E.len, E.val, fun i o' e => by
    obtain ⟨q, h1, h2, h3, h4⟩ := E.own i o' e
    exact ⟨q, h1, h2, by rw [upd_ne (fun z => hq i o' e (by rw [h1, z]))]; exact h3, h4⟩, E.inj⟩
theorem Env.dropB {p : Addr} {o : HO} (E : Env K (upd B p o) F H σ ρ) (hb : B p = none) : Env K B F H σ ρ :=
  ⟨fun a u e => E.subB a u (by rw [upd_ne (ne_of_none e hb)]; exact e), E.sub, E.len, E.val, fun i o' e => by
    obtain ⟨q, h1, h2, h3, h4⟩ := E.own i o' e
    have ne : q ≠ p := fun z => by rw [z, upd_same] at h3; cases h3
    exact ⟨q, h1, h2, by rw [upd_ne ne] at h3; exact h3, h4⟩, E.inj⟩
theorem Env.notOwn {p : Addr} {o : HO} (E : Env K (upd B p o) F H σ ρ) : ∀ (i : Nat) (o' : Ob), ρ[i]? = some (.own o') → σ[i]? = some (some (.ref p)) → False := fun i o' e hs => by
  obtain ⟨q, h1, h2, h3, h4⟩ := E.own i o' e
  rw [hs] at h1; cases h1
  rw [upd_same] at h3; cases h3
theorem Gr.dropB {p : Addr} {o : HO} {F' : Hp} (g : Gr (upd B p o) F F') : Gr B F F' :=
  ⟨g.sub, fun a h => (g.new a h).imp id fun z => by
    by_cases e : a = p
    · rw [e, upd_same] at z; cases z
    · rw [upd_ne e] at z; exact z⟩
theorem Gr.stayN {p : Addr} {o : HO} {F' : Hp} (g : Gr (upd B p o) F F') (n : F p = none) : F' p = none := by
  cases e : F' p with
  | none => rfl
  | some u =>
    rcases g.new p (by rw [e]; exact fun z => nomatch z) with a | a
    · exact absurd n a
    · rw [upd_same] at a; cases a
/-- an object of nobody is written -/
theorem Env.other (E : Env K B F H σ ρ) {p : Addr} {o : HO} (hF : F p = none) (hB : B p = none) (hq : ∀ (i : Nat) (o' : Ob), ρ[i]? = some (.own o') → σ[i]? = some (some (.ref p)) → False) : Env K B F (upd H p o) σ ρ :=
  ⟨E.subB.updH hB, E.sub.updH hF, E.len, E.val, fun i o' e => by
    obtain ⟨q, h1, h2, h3, h4⟩ := E.own i o' e
    exact ⟨q, h1, h2, h3, h4.mono (Sub.refl F) (upd_ne fun z => hq i o' e (by rw [h1, z]))⟩, E.inj⟩
theorem Env.unw {ρ1 ρ2 : Rho} {vs : List Nat} (E : Env K B F H (L2.wipe σ vs) ρ2) (h1 : ∀ (i : Nat) (d : D), i ∈ vs → ρ1[i]? = some (.val d) → ∃ v, σ[i]? = some (some v) ∧ Rp K F v d) (h2 : ∀ (i : Nat) (o : Ob), i ∈ vs → ρ1[i]? ≠ some (.own o)) :
    Env K B F H σ (DX.unw ρ1 vs ρ2) := by
  have getD_some : ∀ {i : Nat} {c : Cell}, c ≠ .no → c = ρ1.getD i .no → ρ1[i]? = some c := fun {i c} hn e => by
    rw [List.getD_eq_getElem?_getD] at e
    cases q : ρ1[i]? with
    | none => rw [q] at e; exact absurd e hn
    | some c' => rw [q] at e; rw [e]; rfl
  have notin : ∀ {i : Nat} {o : Ob}, (DX.unw ρ1 vs ρ2)[i]? = some (.own o) → i ∉ vs ∧ ρ2[i]? = some (.own o) := fun {i o} e => by
    have hi : i ∉ vs := fun hi => h2 i o hi (getD_some (fun z => nomatch z) (unw_in hi e))
    exact ⟨hi, by rw [unw_out hi] at e; exact e⟩
  refine ⟨E.subB, E.sub, by rw [unw_length, E.len, L2.wipe_length], fun i d e => ?_, fun i o e => ?_, fun i j o o' q hij e1 e2 e3 e4 => ?_⟩
  · by_cases hi : i ∈ vs
    · exact h1 i d hi (getD_some (fun z => nomatch z) (unw_in hi e))
    · rw [unw_out hi] at e
      obtain ⟨v, a, b⟩ := E.val i d e
      rw [L2.wipe_out hi] at a
      exact ⟨v, a, b⟩
  · obtain ⟨hi, e⟩ := notin e
    obtain ⟨q, a, b⟩ := E.own i o e
    rw [L2.wipe_out hi] at a
    exact ⟨q, a, b⟩
  · obtain ⟨hi, f1⟩ := notin e1
    obtain ⟨hj, f2⟩ := notin e2
    exact E.inj i j o o' q hij f1 f2 (by rw [L2.wipe_out hi]; exact e3) (by rw [L2.wipe_out hj]; exact e4)
end
/-- equal but for the slots of vs -/
theorem wipe_eq {σ σ2 : L2.St} {vs pin : List Nat} (hk : Kp pin (L2.wipe σ vs) σ2) (hp : ∀ i, i < σ.length → i ∉ vs → i ∈ pin) : L2.wipe σ2 vs = L2.wipe σ vs := by
  apply List.ext_getElem?
  intro i
  have hl : σ2.length = σ.length := by rw [hk.1, L2.wipe_length]
  by_cases hi : i ∈ vs
  · have f : ∀ (τ : L2.St), (L2.wipe τ vs)[i]? = if i < τ.length then some none else none := fun τ => by
      cases e : (L2.wipe τ vs)[i]? with
      | none =>
        rw [List.getElem?_eq_none_iff, L2.wipe_length] at e
        rw [if_neg (by omega)]
      | some o =>
        have hi' : i < τ.length := by
          obtain ⟨z, _⟩ := List.getElem?_eq_some_iff.mp e
          rw [L2.wipe_length] at z; exact z
        rw [if_pos hi']
        cases o with
        | none => rfl
        | some x => exact absurd hi (L2.wipe_some e).2
    rw [f, f, hl]
  · rw [L2.wipe_out hi]
    by_cases hlt : i < σ.length
    · exact hk.2 i (hp i hlt hi)
    · rw [List.getElem?_eq_none (by omega), List.getElem?_eq_none (by rw [L2.wipe_length]; omega)]

/-! ### comprehensions -/
def cBnd {α β : Type} (m : MR α) (f : α → Rho → MR β) : MR β := match m with
  | .ok a ρ => f a ρ
  | .exc _ _ => .bad
  | .bad => .bad
@[simp] theorem cBnd_ok {α β : Type} (a : α) (ρ : Rho) (f : α → Rho → MR β) : cBnd (.ok a ρ) f = f a ρ := rfl
@[simp] theorem cBnd_exc {α β : Type} (s : Str) (ρ : Rho) (f : α → Rho → MR β) : cBnd (.exc s ρ : MR α) f = .bad := rfl
@[simp] theorem cBnd_bad {α β : Type} (f : α → Rho → MR β) : cBnd (.bad : MR α) f = .bad := rfl
def compL (gs : D → Rho → Option Rho) (test : M Bool) (elt : M D) (vs : List Nat) : List D → Rho → MR (List D)
  | [], ρ => .ok [] ρ
  | x :: xs, ρ => match gs x ρ with
    | none => .bad
    | some ρ1 => cBnd (test ρ1) fun b ρ2 => match b with
      | true => cBnd (elt ρ2) fun d ρ3 => cBnd (compL gs test elt vs xs (wipeR ρ3 vs)) fun ds ρ4 => .ok (d :: ds) ρ4
      | false => compL gs test elt vs xs (wipeR ρ2 vs)
def noOwn (ρ : Rho) (vs : List Nat) : Bool := vs.all fun i => match ρ[i]? with
  | some (.own _) => false
  | _ => true
def mComp (n : Nat) (mi : M (List D)) (gs : D → Rho → Option Rho) (test : M Bool) (elt : M D) (vs : List Nat) : M Ob := fun ρ => bnd (mi ρ) fun xs ρ1 =>
  if noOwn ρ1 vs = true ∧ xs.length ≤ sizeLine ∧ ρ1.length ≤ n then cBnd (compL gs test elt vs xs (wipeR ρ1 vs)) fun ds ρ2 => .ok (.lst ds) (unw ρ1 vs ρ2) else .bad
def compPin (n : Nat) (vs : List Nat) : List Nat := (List.range n).filter fun i => !vs.contains i
theorem mem_compPin {n : Nat} {vs : List Nat} {i : Nat} (h : i < n) (hv : i ∉ vs) : i ∈ compPin n vs := by
  unfold compPin
  rw [List.mem_filter, List.mem_range]
  exact ⟨h, by simp [hv]⟩
def tYesM : M Bool := fun ρ => .ok true ρ
def DTs (g : GC) (W : WX) (X : Cx) (es : List Expr) (m : M Bool) : Prop := ∃ t, PTs X es t ∧ SimT g.K g.mg W t m
abbrev W0 : WX := fun _ _ _ _ => False

section
variable {K : KC} {mg : Str → Option Value} {W : WX}
/-- no exception leaves: the value comes -/
theorem SimT.thenC {t : TT} {m : M Bool} (h : SimT K mg W0 t m) {B F H : Hp} {σ : L2.St} {ρ : Rho} {Q : Bool → Hp → Prop} {b : Bool} {ρ1 : Rho} (E : Env K B F H σ ρ) (e : m ρ = .ok b ρ1) (go : ∀ F1 H1, Gr B F F1 → Env K B F1 H1 σ ρ1 → Q b H1) : t σ H Q := by
  refine h B F H σ ρ Q E ?_
  rw [e]
  exact go
theorem SimE.thenC {t : TE} {m : M D} (h : SimE K mg W0 t m) {B F H : Hp} {σ : L2.St} {ρ : Rho} {Q : VK} {d : D} {ρ1 : Rho} (E : Env K B F H σ ρ) (e : m ρ = .ok d ρ1) (go : ∀ v F1 H1, Gr B F F1 → Env K B F1 H1 σ ρ1 → Rp K F1 v d → Q v H1) : t σ H Q := by
  refine h B F H σ ρ Q E ?_
  rw [e]
  exact go
end

section
variable {g : GC} {W : WX} {X : Cx}
theorem sim_lc {lo : Bool} {wi : TI} {gt : TG} {tt : TT} {te : TE} {n : Nat} {vs : List Nat} {mi : M (List D)} {gs : D → Rho → Option Rho} {test : M Bool} {elt : M D}
    (hi : ∀ B F H σ ρ (R : It → Hp → Prop), Env g.K B F H σ ρ → (match mi ρ with
      | .ok xs ρ' => ∀ J F' H', Gr B F F' → Env g.K B F' H' σ ρ' → ItR lo g.K F' J xs → R J H'
      | .exc x ρ' => ∀ C F' H', g.mg x = some (.ref C) → Gr B F F' → Env g.K B F' H' σ ρ' → W (.ref C) none σ H'
      | .bad => False) → wi σ H R)
    (hg : ∀ B F H σ ρ v x (Q : L2.St → Hp → Prop), Env g.K B F H σ ρ → Item lo g.K F H v x → (match gs x ρ with
      | some ρ' => ∀ σ', Kp (compPin n vs) σ σ' → Env g.K B F H σ' ρ' → Q σ' H
      | none => False) → gt v σ H Q)
    (ht : SimT g.K g.mg W0 tt test) (he : SimE g.K g.mg W0 te elt) : SimL g.K g.mg W (tLc wi gt tt te vs) (mComp n mi gs test elt vs) := by
  intro B F H σ ρ Q E h
  refine hi B F H σ ρ _ E ?_
  unfold mComp at h
  cases ei : mi ρ with
  | bad => rw [ei] at h; exact h
  | exc x ρ1 => rw [ei] at h; exact h
  | ok xs ρ1 =>
  rw [ei] at h
  simp only [bnd_ok] at h
  split at h
  case isFalse => exact h.elim
  rename_i hz
  obtain ⟨hno, hsz, hn⟩ := hz
  cases ec : compL gs test elt vs xs (wipeR ρ1 vs) with
  | bad => rw [ec] at h; exact h.elim
  | exc x ρ2 => rw [ec] at h; exact h.elim
  | ok ds ρe =>
  rw [ec] at h
  simp only [cBnd_ok] at h
  intro J F1 H1 g1 E1 hJ Dq nD
  have E1w : Env g.K B F1 H1 (L2.wipe σ vs) (wipeR ρ1 vs) := E1.wipe vs
  have hlen : ∀ i, i < σ.length → i ∉ vs → i ∈ compPin n vs := fun i hi hv => mem_compPin (by rw [← E1.len] at hi; omega) hv
  have nB : B Dq = none := E1.subB.nn nD
  have nF : F1 Dq = none := E1.sub.nn nD
  refine ⟨fun i m H' => m = xs.length - i ∧ i ≤ xs.length ∧ ∃ F' ρ' acc dacc rest, Gr B F1 F' ∧ Env g.K B F' H' (L2.wipe σ vs) ρ' ∧ H' Dq = some (.lst acc) ∧ acc.length ≤ i ∧ RpA g.K F' acc dacc ∧ F' Dq = none ∧
      (∀ (i : Nat) (o' : Ob), ρ'[i]? = some (.own o') → (L2.wipe σ vs)[i]? = some (some (.ref Dq)) → False) ∧ compL gs test elt vs (xs.drop i) ρ' = .ok rest ρe ∧ dacc ++ rest = ds, ?_, ?_⟩
  · refine ⟨xs.length, by simp, Nat.zero_le _, F1, wipeR ρ1 vs, [], [], ds, Gr.refl, ?_, upd_same, Nat.le_refl _, .nil, nF, fresh_own E1w nD, by simpa using ec, rfl⟩
    exact E1w.other nF nB (fresh_own E1w nD)
  rintro i m H2 ⟨rfl, hi', F2, ρ2, acc, dacc, rest, g2, E2, hD2, hacc, racc, nF2, no2, e2, ed⟩
  obtain ⟨hstop, hgo⟩ := hJ F2 H2 g2.sub E2.sub
  by_cases hlt : i < xs.length
  · have ex : xs[i]? = some xs[i] := List.getElem?_eq_getElem hlt
    have edr : xs.drop i = xs[i] :: xs.drop (i + 1) := List.drop_eq_getElem_cons hlt
    obtain ⟨go, yl⟩ := hgo i xs[i] ex
    rw [edr] at e2
    unfold compL at e2
    refine .inr ⟨go, fun H' => ∃ F' ρ' acc dacc rest, Gr B F1 F' ∧ Env g.K B F' H' (L2.wipe σ vs) ρ' ∧ H' Dq = some (.lst acc) ∧ acc.length ≤ i + 1 ∧ RpA g.K F' acc dacc ∧ F' Dq = none ∧
      (∀ (i : Nat) (o' : Ob), ρ'[i]? = some (.own o') → (L2.wipe σ vs)[i]? = some (some (.ref Dq)) → False) ∧ compL gs test elt vs (xs.drop (i + 1)) ρ' = .ok rest ρe ∧ dacc ++ rest = ds, fun H' hN => ⟨xs.length - (i + 1), by omega, rfl, hlt, hN⟩, fun v H3 hy => ?_⟩
    obtain ⟨F3, gw, it⟩ := yl v H3 hy
    have E3 := E2.grow gw
    have g3 := gw.gr E2.subB
    have hD3 : H3 Dq = some (.lst acc) := gw.subH _ _ hD2
    have nF3 : F3 Dq = none := by
      cases q : F3 Dq with
      | none => rfl
      | some u =>
        rcases gw.new Dq (by rw [q]; exact fun z => nomatch z) with a | a
        · exact absurd nF2 a
        · rw [hD2] at a; cases a
    -- the new list stays while the item is looked at
    have E3' := E3.addB hD3 no2
    refine hg (upd B Dq (.lst acc)) F3 H3 (L2.wipe σ vs) ρ2 v xs[i] _ E3' it ?_
    cases eg : gs xs[i] ρ2 with
    | none => rw [eg] at e2; cases e2
    | some ρ3 =>
    rw [eg] at e2
    intro σ4 k4 E4
    have ew : L2.wipe σ4 vs = L2.wipe σ vs := wipe_eq k4 hlen
    refine ⟨ew, ?_⟩
    simp only at e2
    cases et : test ρ3 with
    | bad => rw [et] at e2; cases e2
    | exc _ _ => rw [et] at e2; cases e2
    | ok b ρ5 =>
    rw [et] at e2
    simp only [cBnd_ok] at e2
    refine ht.thenC E4 et fun F5 H5 g5 E5 => ?_
    have nF5 := g5.stayN nF3
    cases b with
    | false =>
      rw [if_neg (by decide)]
      simp only at e2
      have E6 := E5.wipe vs
      rw [ew] at E6
      exact ⟨F5, wipeR ρ5 vs, acc, dacc, rest, (g2.trans g3).trans g5.dropB, E6.dropB nB, E5.subB _ _ upd_same, Nat.le_succ_of_le hacc, (racc.mono gw.subF).mono g5.sub, nF5, E6.notOwn, e2, ed⟩
    | true =>
      rw [if_pos rfl]
      simp only at e2
      cases ee : elt ρ5 with
      | bad => rw [ee] at e2; cases e2
      | exc _ _ => rw [ee] at e2; cases e2
      | ok d ρ6 =>
      rw [ee] at e2
      simp only [cBnd_ok] at e2
      cases er : compL gs test elt vs (xs.drop (i + 1)) (wipeR ρ6 vs) with
      | bad => rw [er] at e2; cases e2
      | exc _ _ => rw [er] at e2; cases e2
      | ok rest' ρ7 =>
      rw [er] at e2
      simp only [cBnd_ok] at e2
      cases e2
      refine he.thenC E5 ee fun y F6 H6 g6 E6 r6 => ?_
      have nF6 := g6.stayN nF5
      have hD6 : H6 Dq = some (.lst acc) := E6.subB _ _ upd_same
      refine ⟨acc, hD6, by omega, ?_⟩
      have E7 := E6.wipe vs
      rw [ew] at E7
      have no7 := E7.notOwn
      exact ⟨F6, wipeR ρ6 vs, acc ++ [y], dacc ++ [d], rest', ((g2.trans g3).trans g5.dropB).trans g6.dropB, (E7.dropB nB).other nF6 nB no7, upd_same, by simp; omega,
        ((((racc.mono gw.subF).mono g5.sub).mono g6.sub).append (.cons r6 .nil)), nF6, no7, er, by rw [List.append_assoc]; exact ed⟩
  · have e : i = xs.length := by omega
    subst e
    rw [List.drop_length] at e2
    unfold compL at e2
    cases e2
    rw [List.append_nil] at ed
    subst ed
    refine .inl ⟨hstop, ?_⟩
    have E8 : Env g.K B F2 H2 σ (unw ρ1 vs ρe) := E2.unw (fun i d hi e => by
      obtain ⟨v, a, b⟩ := E1.val i d e
      exact ⟨v, a, b.mono g2.sub⟩) (fun i o hi e => by
      have := List.all_eq_true.mp hno i hi
      rw [e] at this
      cases this)
    refine h Dq F2 H2 (g1.trans g2) E8 nF2 nB ⟨acc, hD2, by omega, racc⟩ fun i o' e hs => ?_
    have hi : i ∉ vs := fun hi => by
      have z := unw_in hi e
      have q : ρ1[i]? = some (.own o') := by
        rw [List.getD_eq_getElem?_getD] at z
        cases q : ρ1[i]? with
        | none => rw [q] at z; cases z
        | some c' => rw [q] at z; rw [z]; rfl
      have := List.all_eq_true.mp hno i hi
      rw [q] at this
      cases this
    rw [unw_out hi] at e
    exact no2 i o' e (by rw [L2.wipe_out hi]; exact hs)
end

/-! ### the rules -/
def SS.block (s : SS) (scope : Scope) : SS := ⟨s.N, relS scope s.sc, some scope⟩
section
variable {g : GC} {s : SS} {k : Nat} {W : WX} {pin : List Nat} {X : Cx} {pos : Pos} {lo : Bool}
theorem dts_nil : DTs g W X [] tYesM := ⟨_, pts_nil, fun B F H σ ρ Q E h => h F H Gr.refl E⟩
theorem dts_one {c : Expr} {m : M Bool} (h : DT g W X c m) : DTs g W X [c] m := by
  obtain ⟨t, p, q⟩ := h
  exact ⟨_, pts_one p, q⟩
theorem Ok.block (ok : Ok g s k W X) {scope : Scope} (hk : scope.kind = .function) (sh : Shared) (H : Hp) (C : Addr) (cl : List (Str × Addr)) (fp : List Addr) : Ok g (s.block scope) k W0 (X.blk sh H scope (compEnvC scope cl C X.env) fp) where
  hP := ok.hP
  hw := ok.hw
  hK := ok.hK
  hmg := ok.hmg
  hbase := ok.hbase
  hN := ok.hN
  hsc := by
    show relabel scope X.env = relS scope s.sc
    rw [← ok.hsc]
    rfl
  kind := hk
  hfn := fun x h => h
  calm := ok.calm
  room := ok.room
  nd := ok.nd
  tk := takes0
  po := PassesOwn.never
/-! readings that depend on nothing else -/
def cE (g : GC) (W : WX) (m : M D) : TE := fun σ H Q => ∃ B F ρ, Env g.K B F H σ ρ ∧ PoE g.K g.mg W B F σ Q (m ρ)
def cT (g : GC) (W : WX) (m : M Bool) : TT := fun σ H Q => ∃ B F ρ, Env g.K B F H σ ρ ∧ PoT g.K g.mg W B F σ Q (m ρ)
def cG (lo : Bool) (g : GC) (pin : List Nat) (gs : D → Rho → Option Rho) : TG := fun v σ H Q => ∃ B F ρ x, Env g.K B F H σ ρ ∧ Item lo g.K F H v x ∧ (match gs x ρ with
  | some ρ' => ∀ σ', Kp pin σ σ' → Env g.K B F H σ' ρ' → Q σ' H
  | none => False)
theorem DM.pe {e : Expr} {m : M D} (h : DM g W X e m) : PE X e (cE g W m) := by
  obtain ⟨t, p, q⟩ := h
  exact ⟨fun pins s σ H Q I ⟨B, F, ρ, E, po⟩ => p.run pins s σ H Q I (q B F H σ ρ Q E po)⟩
theorem DT.pt {e : Expr} {m : M Bool} (h : DT g W X e m) : PT X e (cT g W m) := by
  obtain ⟨t, p, q⟩ := h
  exact ⟨fun pins s σ H Q I ⟨B, F, ρ, E, po⟩ => p.run pins s σ H Q I (q B F H σ ρ Q E po)⟩
theorem DTs.pts {es : List Expr} {m : M Bool} (h : DTs g W X es m) : PTs X es (cT g W m) := by
  obtain ⟨t, p, q⟩ := h
  exact ⟨fun pins s σ H Q I ⟨B, F, ρ, E, po⟩ => p.run pins s σ H Q I (q B F H σ ρ Q E po)⟩
theorem DG.pg {tg : Expr} {gs : D → Rho → Option Rho} (h : DG lo g pin X tg gs) : PG X tg (cG lo g pin gs) := by
  obtain ⟨t, p, q⟩ := h
  exact ⟨fun pins s σ H v u Q I r ⟨B, F, ρ, x, E, it, po⟩ => p.run pins s σ H v u Q I r (q B F H σ ρ v x Q E it po)⟩
theorem sim_lcC {wi : TI} {n : Nat} {vs : List Nat} {mi : M (List D)} {gs : D → Rho → Option Rho} {test : M Bool} {elt : M D}
    (hi : ∀ B F H σ ρ (R : It → Hp → Prop), Env g.K B F H σ ρ → (match mi ρ with
      | .ok xs ρ' => ∀ J F' H', Gr B F F' → Env g.K B F' H' σ ρ' → ItR lo g.K F' J xs → R J H'
      | .exc x ρ' => ∀ C F' H', g.mg x = some (.ref C) → Gr B F F' → Env g.K B F' H' σ ρ' → W (.ref C) none σ H'
      | .bad => False) → wi σ H R) : SimL g.K g.mg W (tLc wi (cG lo g (compPin n vs) gs) (cT g W0 test) (cE g W0 elt) vs) (mComp n mi gs test elt vs) :=
  sim_lc hi (fun B F H σ ρ v x Q E it h => ⟨B, F, ρ, x, E, it, h⟩) (fun B F H σ ρ Q E h => ⟨B, F, ρ, E, h⟩) fun B F H σ ρ Q E h => ⟨B, F, ρ, E, h⟩
/-- the parts of a comprehension -/
structure DC (lo : Bool) (g : GC) (s : SS) (k : Nat) (W : WX) (X : Cx) (elt tg iter : Expr) (ifs : List Expr) (scope : Scope) (own : List (Str × Nat)) (mi : M (List D)) (gs : D → Rho → Option Rho) (test : M Bool) (me : M D) : Prop where
  hi : DI lo g W X tg iter mi
  hg : ∀ X', Ok g (s.block scope) k W0 X' → DG lo g (compPin s.N.length (own.map (·.2))) X' tg gs
  ht : ∀ X', Ok g (s.block scope) k W0 X' → DTs g W0 X' ifs test
  he : ∀ X', Ok g (s.block scope) k W0 X' → DM g W0 X' elt me
  hb : blkC s.N s.sc scope own = true := by decide +kernel
  hs : ∀ x, foldedSetIterable iter X.env x = pure x := by intro _; rfl
theorem dl_comp (ok : Ok g s k W X) {elt tg iter : Expr} {ifs : List Expr} {scope : Scope} {own : List (Str × Nat)} {mi : M (List D)} {gs : D → Rho → Option Rho} {test : M Bool} {me : M D} (c : DC lo g s k W X elt tg iter ifs scope own mi gs test me) :
    DL g W X (.ListComp elt [⟨tg, iter, ifs, 0⟩] scope pos) (mComp s.N.length mi gs test me (own.map (·.2))) := by
  have bo : BlkOk s.N s.sc scope own := blkOk_by c.hb
  obtain ⟨wi, pi, si⟩ := c.hi
  refine ⟨_, pe_lc (own := own) ok.calm ok.ndX pi (by rw [ok.hN, ok.hsc]; exact bo) (fun sh H C cl fp => (c.hg _ (ok.block bo.kind sh H C cl fp)).pg) (fun sh H C cl fp => (c.ht _ (ok.block bo.kind sh H C cl fp)).pts) (fun sh H C cl fp => (c.he _ (ok.block bo.kind sh H C cl fp)).pe) c.hs, ?_⟩
  exact sim_lcC si
/-- name = [..] on one line, the name a local: the value frozen, or one's own -/
theorem ds_setC (ok : Ok g s k W X) (i : Nat) {x : Str} {py spos : Pos} {elt tg iter : Expr} {ifs : List Expr} {scope : Scope} {own : List (Str × Nat)} {mi : M (List D)} {gs : D → Rho → Option Rho} {test : M Bool} {me : M D} (c : DC lo g s k W X elt tg iter ifs scope own mi gs test me)
    (hN : s.N[i]? = some x := by rfl) (hl : isLocal s.sc x = true := by decide +kernel) (hp : i ∉ pin := by decide) (hln : (py.line == pos.line) = true := by rfl) (ha : (scope.names.any fun (n, k) => n == x && (k == .local || k == .cell)) = false := by decide +kernel) :
    DS g W pin X (.Assign [.Name x py] (.ListComp elt [⟨tg, iter, ifs, 0⟩] scope pos) spos) (sSetL i (mComp s.N.length mi gs test me (own.map (·.2)))) := by
  have bo : BlkOk s.N s.sc scope own := blkOk_by c.hb
  obtain ⟨wi, pi, si⟩ := c.hi
  have hlX : X.env.scope.names.lookup x = some .local := by rw [ok.hsc]; exact isLocal_of hl
  refine ⟨_, ps_setLc (own := own) ok.calm ok.ndX (ok.at hN) hlX (sw_true (by rw [ok.hsc]; exact ok.kind) hlX hln ha) pi (by rw [ok.hN, ok.hsc]; exact bo) (fun sh H C cl fp => (c.hg _ (ok.block bo.kind sh H C cl fp)).pg) (fun sh H C cl fp => (c.ht _ (ok.block bo.kind sh H C cl fp)).pts) (fun sh H C cl fp => (c.he _ (ok.block bo.kind sh H C cl fp)).pe) c.hs, ?_⟩
  intro B F H σ ρ D E h
  exact SimL.thenS (sim_lcC si) E h fun o ρ1 q F1 H1 g1 E1 a1 a2 a3 a4 h1 => h1 F1 H1 _ Gr.refl (Kp.set hp) (E1.setOwn a3 a1 a2 fun j o' _ => a4 j o')
def sSetF (i : Nat) (m : M Ob) : MS := sSet i (mLd m)
theorem ds_setCF (ok : Ok g s k W X) (i : Nat) {x : Str} {py spos : Pos} {elt tg iter : Expr} {ifs : List Expr} {scope : Scope} {own : List (Str × Nat)} {mi : M (List D)} {gs : D → Rho → Option Rho} {test : M Bool} {me : M D} (c : DC lo g s k W X elt tg iter ifs scope own mi gs test me)
    (hN : s.N[i]? = some x := by rfl) (hl : isLocal s.sc x = true := by decide +kernel) (hp : i ∉ pin := by decide) (hln : (py.line == pos.line) = true := by rfl) (ha : (scope.names.any fun (n, k) => n == x && (k == .local || k == .cell)) = false := by decide +kernel) :
    DS g W pin X (.Assign [.Name x py] (.ListComp elt [⟨tg, iter, ifs, 0⟩] scope pos) spos) (sSet i (mLd (mComp s.N.length mi gs test me (own.map (·.2))))) := by
  have bo : BlkOk s.N s.sc scope own := blkOk_by c.hb
  obtain ⟨wi, pi, si⟩ := c.hi
  have hlX : X.env.scope.names.lookup x = some .local := by rw [ok.hsc]; exact isLocal_of hl
  refine ⟨_, ps_setLc (own := own) ok.calm ok.ndX (ok.at hN) hlX (sw_true (by rw [ok.hsc]; exact ok.kind) hlX hln ha) pi (by rw [ok.hN, ok.hsc]; exact bo) (fun sh H C cl fp => (c.hg _ (ok.block bo.kind sh H C cl fp)).pg) (fun sh H C cl fp => (c.ht _ (ok.block bo.kind sh H C cl fp)).pts) (fun sh H C cl fp => (c.he _ (ok.block bo.kind sh H C cl fp)).pe) c.hs, ?_⟩
  intro B F H σ ρ D E h
  refine sim_lcC si B F H σ ρ _ E ?_
  unfold sSet mLd at h
  cases ec : mComp s.N.length mi gs test me (own.map (·.2)) ρ with
  | bad => rw [ec] at h; exact h
  | exc x ρ1 => rw [ec] at h; exact fun C F' H' e g' E' => h C F' H' σ e g' Kp.refl E'
  | ok o ρ1 =>
    rw [ec] at h
    intro q F1 H1 g1 E1 hF hB hO hq
    obtain ⟨u, hu⟩ := hO.ex
    exact h (upd F1 q u) H1 _ (g1.trans (Gr.freeze hF hB)) (Kp.set hp) ((E1.freeze hu hF hq).setVal (hO.rp hu hF))
/-- a target that is a cell (a name that a comprehension reads): the plain way -/
theorem sw_cell {elt : Expr} {gs : List Comprehension} {scope : Scope} {pos py : Pos} {y : Str} {l : Nat} {env : PySem.Env} (hk : env.scope.kind = .function) (hy : env.scope.names.lookup y = some .cell) : swapsWith (.ListComp elt gs scope pos) (some (.Name y py)) l env = pure false := by
  have ky : env.kindOf y = some .cell := hy
  have hb : env.blockKind = .function := by unfold Env.blockKind; rw [hk]; rfl
  unfold swapsWith
  simp only [hb, ky]
  rfl
def isCell (sc : Scope) (x : Str) : Bool := match sc.names.lookup x with
  | some .cell => true
  | _ => false
theorem isCell_of {sc : Scope} {x : Str} (h : isCell sc x = true) : sc.names.lookup x = some .cell := by
  unfold isCell at h
  split at h
  · assumption
  · cases h
theorem Ok.swc (ok : Ok g s k W X) {elt : Expr} {gs : List Comprehension} {scope : Scope} {pos py : Pos} {y : Str} {l : Nat} (h : isCell s.sc y = true := by decide +kernel) : swapsWith (.ListComp elt gs scope pos) (some (.Name y py)) l X.env = pure false :=
  sw_cell (by rw [ok.hsc]; exact ok.kind) (by rw [ok.hsc]; exact isCell_of h)
end
end DX

set_option maxHeartbeats 1000000
namespace DX
open PySem PySem.Spec PyProof.Rows L2

inductive FR where
  | ok (d : D)
  | exc (s : Str)
  | bad
def PoF (K : KC) (mg : Str → Option Value) (F H : Hp) (Q : VK) (E : XK) : FR → Prop
  | .ok d => ∀ v F' H', Grow F H F' H' → Rp K F' v d → Q v H'
  | .exc x => ∀ C F' H', mg x = some (.ref C) → Grow F H F' H' → E (.ref C) none H'
  | .bad => False
def spD (K : KC) (mg : Str → Option Value) (n : Nat) (fn : List D → FR) : Sp := fun vs H Q E => ∃ F ds, Sub F H ∧ RpA K F vs ds ∧ ds.length = n ∧ PoF K mg F H Q E (fn ds)
/-- a def of the module by what it does -/
structure FD (g : GC) (x : Str) (k : Nat) (ps : List Str) (fn : List D → FR) : Prop where
  ex : ∃ f fd, g.mg x = some (.ref f) ∧ PySem.W.keepIn g.K.K (.ref f) = true ∧ Binds g.K.K fd ps [] ∧ FnOk g.K.P g.K.w g.K.K g.mg g.base (L2.CX g.K.P g.K.w) k f fd ps (spD g.K g.mg ps.length fn)
def mCall (n : Nat) (fn : List D → FR) (ma : M (List D)) : M D := fun ρ => bnd (ma ρ) fun ds ρ1 => if ds.length = n then (match fn ds with
  | .ok d => .ok d ρ1
  | .exc s => .exc s ρ1
  | .bad => .bad) else .bad
section
variable {g : GC} {s : SS} {k : Nat} {W : WX} {pin : List Nat} {X : Cx} {pos p : Pos} {e : Expr} {es : List Expr} {ma : M (List D)}
theorem dm_call (ok : Ok g s k W X) {x : Str} {j : Nat} {ps : List Str} {fn : List D → FR} (F : FD g x j ps fn) (ha : DA g W X (e :: es) ma) (hj : j ≤ k := by decide) (hg : gloB s.sc x = true := by decide +kernel) (hd : (x == ("__debug__" : Str)) = false := by decide +kernel)
    (he : starEach (e :: es) X.env = (false, eval e X.env) :: starEach es X.env := by rfl) (hpl : (backTo pos (starEach es X.env)).any (·.1) = false := by rfl) : DM g W X (.Call (.Name x p) (e :: es) [] pos) (mCall ps.length fn ma) := by
  obtain ⟨f, fd, hm, hk, hb, fo⟩ := F.ex
  obtain ⟨t, pt, st⟩ := ha
  have fo' : FnOk X.prog X.w X.K X.mg X.base (L2.CX X.prog X.w) j f fd ps (spD g.K g.mg ps.length fn) := by
    rw [ok.hP, ok.hw, ok.hK, ok.hmg, ok.hbase]; exact fo
  refine ⟨_, pe_callS (E := WE W) fo' (ok.room.mono hj) (ok.glo hg) (by rw [ok.hmg]; exact hm) (by rw [ok.hK]; exact hk) (by rw [ok.hK]; exact hb) (fun σ => passAt ok.tk σ) pt hd he hpl, fun B F H σ ρ Q E h => ?_⟩
  refine st.then (R := PoE g.K g.mg W B F σ Q) E (fun x ρ' z => z) (fun z => z) h fun ds ρ1 vs F1 H1 g1 E1 r1 h1 => ?_
  by_cases hl : ds.length = ps.length
  · rw [if_pos hl] at h1
    refine ⟨F1, ds, E1.sub, r1, hl, ?_⟩
    have h1 := PoE.later g1 h1
    cases ef : fn ds with
    | ok d => rw [ef] at h1; exact fun v F' H' gw r => h1 v F' H' (gw.gr E1.subB) (E1.grow gw) r
    | exc x => rw [ef] at h1; exact fun C F' H' e gw => h1 C F' H' e (gw.gr E1.subB) (E1.grow gw)
    | bad => rw [ef] at h1; exact h1
  · rw [if_neg hl] at h1; exact h1.elim
end

/-! ### a def by its body -/
def rho0 (N : Nat) (ds : List D) : Rho := ds.map .val ++ List.replicate (N - ds.length) .no
def runF (N : Nat) (m : MS) (ds : List D) : FR := match m (rho0 N ds) with
  | .ret d _ => .ok d
  | .next _ => .ok .none
  | .exc s _ => .exc s
  | _ => .bad
theorem map_get_val {ds : List D} {n i : Nat} {d : D} (h : (ds.map Cell.val ++ List.replicate n Cell.no)[i]? = some (.val d)) : ds[i]? = some d := by
  by_cases hi : i < ds.length
  · rw [List.getElem?_append_left (by simpa using hi), List.getElem?_map] at h
    cases e : ds[i]? with
    | none => rw [e] at h; cases h
    | some x => rw [e] at h; cases h; rfl
  · rw [List.getElem?_append_right (by simpa using hi), List.getElem?_replicate] at h
    split at h <;> cases h
theorem map_get_own {ds : List D} {n i : Nat} {o : Ob} (h : (ds.map Cell.val ++ List.replicate n Cell.no)[i]? = some (.own o)) : False := by
  by_cases hi : i < ds.length
  · rw [List.getElem?_append_left (by simpa using hi), List.getElem?_map] at h
    cases e : ds[i]? with
    | none => rw [e] at h; cases h
    | some x => rw [e] at h; cases h
  · rw [List.getElem?_append_right (by simpa using hi), List.getElem?_replicate] at h
    split at h <;> cases h
theorem env_start {K : KC} {F H : Hp} {vs : List V} {ds : List D} {N : List Str} (s : Sub F H) (r : RpA K F vs ds) (hN : ds.length ≤ N.length) : Env K H F H (L2.start N vs) (rho0 N.length ds) := by
  have hl := r.length
  refine ⟨Sub.refl H, s, ?_, fun i d e => ?_, fun i o e => (map_get_own e).elim, fun i j o o' q _ e1 _ _ _ => (map_get_own e1).elim⟩
  · unfold rho0 L2.start
    rw [List.length_append, List.length_append, List.length_map, List.length_map, List.length_replicate, List.length_replicate]
    omega
  · have e := map_get_val e
    obtain ⟨v, h1, h2⟩ := r.get e
    refine ⟨v, ?_, h2⟩
    unfold L2.start
    have hi : i < vs.length := (List.getElem?_eq_some_iff.mp h1).1
    rw [List.getElem?_append_left (by simpa using hi), List.getElem?_map, h1]
    rfl
section
variable {g : GC} {x : Str} {params : Arguments} {body : List Stmt} {scope : Scope} {f : Addr} {fd : FuncData} {N ps : List Str} {k : Nat} {m : MS}
theorem ok_body {sc : Scope} {nm : Str} {cdv : Value} {A : Around} {outer : List PySem.Env} {s : Shared} {H : Hp} {E : XK} (S : FnScope N ps sc) (hr : Room k (A.deeper (envOfC nm sc s.heap.objs.size f cdv))) :
    Ok g ⟨N, sc, none⟩ k (fun cls d _ H => E cls d H) (cxOf (L2.CX g.K.P g.K.w) g.K.P g.K.w g.K.K g.mg g.base N nm sc f cdv A outer s H E) where
  hP := rfl
  hw := rfl
  hK := rfl
  hmg := rfl
  hbase := rfl
  hN := rfl
  hsc := rfl
  kind := S.kind
  hfn := fun _ _ => rfl
  calm := rfl
  room := hr
  nd := S.nd
  tk := takes_of rfl rfl rfl rfl
  po := passes_of rfl
theorem fd_ok (F : FunD g.K.K x x params body scope [] [] f fd) (S : FnScope N ps scope)
    (hbody : ∀ (W : WX) (X : Cx), Ok g ⟨N, scope, none⟩ k W X → DSs g W [] X body m) : FnOk g.K.P g.K.w g.K.K g.mg g.base (L2.CX g.K.P g.K.w) (k + 1) f fd ps (spD g.K g.mg ps.length (runF N.length m)) := by
  refine F.ok S (fun vs H Q E h => ?_) (fun cdv A outer s H vs Q E hr h => ?_)
  · obtain ⟨F, ds, _, r, hl, _⟩ := h
    rw [r.length, hl]
  · obtain ⟨F0, ds, hs, r, hl, po⟩ := h
    have hpN : ps.length ≤ N.length := by have := congrArg List.length S.pre; rw [List.length_take] at this; omega
    obtain ⟨t, pt, st⟩ := hbody (fun cls d _ H => E cls d H) _ (ok_body (g := g) (E := E) (outer := outer) (H := H) S hr)
    refine ⟨t, pt, ?_⟩
    refine st H F0 H (L2.start N vs) (rho0 N.length ds) _ (env_start hs r (by omega)) ?_
    have gw : ∀ {F' H' : Hp} {σ' : L2.St} {ρ' : Rho}, Gr H F0 F' → Env g.K H F' H' σ' ρ' → Grow F0 H F' H' := fun gr E => ⟨gr.sub, E.subB, E.sub, gr.new⟩
    unfold runF at po
    cases em : m (rho0 N.length ds) with
    | next ρ' => rw [em] at po; exact fun F' H' σ' gr _ E' => po .non F' H' (gw gr E') .non
    | ret d ρ' => rw [em] at po; exact fun v F' H' σ' gr _ E' r => po v F' H' (gw gr E') r
    | brk ρ' => rw [em] at po; exact po.elim
    | cont ρ' => rw [em] at po; exact po.elim
    | exc y ρ' => rw [em] at po; exact fun C F' H' σ' e gr _ E' => po C F' H' e (gw gr E')
    | bad => rw [em] at po; exact po.elim
theorem fd_mk (F : FunD g.K.K x x params body scope [] [] f fd) (S : FnScope N ps scope) (hm : g.mg x = some (.ref f))
    (hb : ∀ (kV doc pm : Value) (an : Option Addr) (cdv ct : Value) (us : List Value), us.length = ps.length → bindArgs (PySem.W.fnOf x x params body scope .none kV doc pm an cdv ct) ⟨us, []⟩ = pure (ps.zip us))
    (hbody : ∀ (W : WX) (X : Cx), Ok g ⟨N, scope, none⟩ k W X → DSs g W [] X body m) : FD g x (k + 1) ps (runF N.length m) :=
  ⟨f, fd, hm, F.kp, F.bindsN hb, fd_ok F S hbody⟩
end

/-! ### raise -/
structure ExF (g : GC) (x : Str) : Prop where
  ex : ∃ C, g.mg x = some (.ref C) ∧ PySem.W.excIn g.K.K C He.veBase "ValueError.__new__" = true ∧ PySem.W.keepIn g.K.K (.ref C) = true ∧ PySem.W.subIn g.K.K (.ref C) (.type "BaseException") = some true ∧ PySem.W.typeIn g.K.K (.ref C) = some (.type "type")
def sRaise (x : Str) : MS := fun ρ => .exc x ρ
section
variable {g : GC} {s : SS} {k : Nat} {W : WX} {pin : List Nat} {X : Cx} {pos p p2 p3 : Pos}
theorem ds_raise (ok : Ok g s k W X) {x m : Str} {j : Nat} (h : ExF g x) (hg : gloB s.sc x = true := by decide +kernel) (hd : (x == ("__debug__" : Str)) = false := by decide +kernel) : DS g W pin X (.Raise (some (.Call (.Name x p) [.Constant (.str m) j p2] [] p3)) none pos) (sRaise x) := by
  obtain ⟨C, hC, q, kC, sb, ty⟩ := h.ex
  refine ⟨_, ps_raise ok.calm ok.tk (pmk_own PySem.F.excBase_ValueError (by rw [ok.hK]; exact q) (by rw [ok.hmg]; exact hC) (by rw [ok.hK]; exact kC) (raises_own (by rw [ok.hK]; exact sb) (by rw [ok.hK]; exact ty)) (ok.glo hg) hd), fun B F H σ ρ D E h => ?_⟩
  exact h C F H σ hC Gr.refl Kp.refl E
end

/-! ### defs that change a list that they are given: script, town, .. -/
inductive FRT where
  | ok (d : D) (ts : List D)
  | exc (s : Str) (ts : List D)
  | bad
structure GrowT (q : Addr) (F H F' H' : Hp) : Prop where
  subF : Sub F F'
  subH : ∀ a o, a ≠ q → H a = some o → H' a = some o
  sub : Sub F' H'
  new : ∀ a, F' a ≠ none → F a ≠ none ∨ H a = none
def PoFT (K : KC) (mg : Str → Option Value) (q : Addr) (F H : Hp) (Q : VK) (E : XK) : FRT → Prop
  | .ok d ts => ∀ v F' H', GrowT q F H F' H' → F' q = none → OR K F' H' q (.lst ts) → Rp K F' v d → Q v H'
  | .exc x ts => ∀ C F' H', mg x = some (.ref C) → GrowT q F H F' H' → F' q = none → OR K F' H' q (.lst ts) → E (.ref C) none H'
  | .bad => False
def spT (K : KC) (mg : Str → Option Value) (n : Nat) (fn : D → List D → List D → FRT) : Sp := fun vs H Q E => ∃ F v0 q vr d0 ts dr, vs = v0 :: .ref q :: vr ∧ Sub F H ∧ Rp K F v0 d0 ∧ F q = none ∧ OR K F H q (.lst ts) ∧ RpA K F vr dr ∧ dr.length + 2 = n ∧ PoFT K mg q F H Q E (fn d0 ts dr)
structure FT (g : GC) (x : Str) (k : Nat) (ps : List Str) (fn : D → List D → List D → FRT) : Prop where
  ex : ∃ f fd, g.mg x = some (.ref f) ∧ PySem.W.keepIn g.K.K (.ref f) = true ∧ Binds g.K.K fd ps [] ∧ FnOk g.K.P g.K.w g.K.K g.mg g.base (L2.CX g.K.P g.K.w) k f fd ps (spT g.K g.mg ps.length fn)
def ownL (ρ : Rho) (j : Nat) : Option (List D) := match ρ[j]? with
  | some (.own (.lst ts)) => some ts
  | _ => none
theorem ownL_of {ρ : Rho} {j : Nat} {ts : List D} (h : ownL ρ j = some ts) : ρ[j]? = some (.own (.lst ts)) := by
  unfold ownL at h
  split at h
  · cases h; assumption
  · cases h
def callT (fn : D → List D → List D → FRT) (d0 : D) (j : Nat) (dr : List D) (ρ : Rho) : MR D := match ownL ρ j with
  | some ts => (match fn d0 ts dr with
    | .ok d ts' => .ok d (ρ.set j (.own (.lst ts')))
    | .exc s ts' => .exc s (ρ.set j (.own (.lst ts')))
    | .bad => .bad)
  | none => .bad
def mCallT (n : Nat) (fn : D → List D → List D → FRT) (m0 : M D) (j : Nat) (mr : M (List D)) : M D := fun ρ => bnd (m0 ρ) fun d0 ρ1 => match ownL ρ1 j with
  | some _ => bnd (mr ρ1) fun dr ρ2 => if dr.length + 2 = n then callT fn d0 j dr ρ2 else .bad
  | none => .bad
section
variable {g : GC} {s : SS} {k : Nat} {W : WX} {pin : List Nat} {X : Cx} {pos p pt : Pos} {e : Expr} {es : List Expr} {m0 : M D} {mr : M (List D)}
/-- behind a call that changed q alone -/
theorem Env.afterT {K : KC} {B F H F' H' : Hp} {σ : L2.St} {ρ : Rho} {j : Nat} {q : Addr} {o : Ob} {ts : List D} (E : Env K B F H σ ρ) (ho : ρ[j]? = some (.own o)) (hs : σ[j]? = some (some (.ref q))) (gt : GrowT q F H F' H') (nq : F' q = none) (hO : OR K F' H' q (.lst ts)) :
    Env K B F' H' σ (ρ.set j (.own (.lst ts))) ∧ Gr B F F' := by
  obtain ⟨q', h1, h2, h3, h4⟩ := E.own j o ho
  rw [hs] at h1; cases h1
  have hl : j < ρ.length := (List.getElem?_eq_some_iff.mp ho).1
  have subB : Sub B H' := fun a u e => gt.subH a u (fun z => by rw [z, h3] at e; cases e) (E.subB a u e)
  refine ⟨⟨subB, gt.sub, by simp [E.len], fun i d e => ?_, fun i o1 e => ?_, fun i i' o1 o2 q' hii e1 e2 e3 e4 => ?_⟩, gt.subF, fun a h => (gt.new a h).imp id fun z => E.subB.nn z⟩
  · by_cases hj : j = i
    · subst hj; rw [List.getElem?_set_self hl] at e; cases e
    · rw [List.getElem?_set_ne hj] at e
      obtain ⟨v, a1, a2⟩ := E.val i d e
      exact ⟨v, a1, a2.mono gt.subF⟩
  · by_cases hj : j = i
    · subst hj; rw [List.getElem?_set_self hl] at e; cases e
      exact ⟨q, hs, nq, h3, hO⟩
    · rw [List.getElem?_set_ne hj] at e
      obtain ⟨q2, a1, a2, a3, a4⟩ := E.own i o1 e
      have ne : q2 ≠ q := fun z => by subst z; exact E.inj j i o o1 q2 hj ho e hs a1
      obtain ⟨u, hu⟩ := a4.ex
      refine ⟨q2, a1, ?_, a3, a4.mono gt.subF (by rw [gt.subH q2 u ne hu, hu])⟩
      cases z : F' q2 with
      | none => rfl
      | some y =>
        rcases gt.new q2 (by rw [z]; exact fun z => nomatch z) with b | b
        · exact absurd a2 b
        · rw [hu] at b; cases b
  · have gg : ∀ (i : Nat) (o1 : Ob), (ρ.set j (.own (.lst ts)))[i]? = some (.own o1) → ∃ o3, ρ[i]? = some (.own o3) := fun i o1 e => by
      by_cases hj : j = i
      · subst hj; exact ⟨_, ho⟩
      · rw [List.getElem?_set_ne hj] at e; exact ⟨_, e⟩
    obtain ⟨x1, f1⟩ := gg i o1 e1
    obtain ⟨x2, f2⟩ := gg i' o2 e2
    exact E.inj i i' x1 x2 q' hii f1 f2 e3 e4
theorem dm_callTown (ok : Ok g s k W X) {x tn : Str} {jj : Nat} {ps : List Str} {fn : D → List D → List D → FRT} (F : FT g x jj ps fn) (h0 : DM g W X e m0) (j' : Nat) (hr : DA g W X es mr) (hN : s.N[j']? = some tn := by rfl) (hv : visB s.sc tn = true := by decide +kernel) (hdt : (tn == ("__debug__" : Str)) = false := by decide +kernel)
    (hcd : (tn == ("__classdict__" : Str)) = false := by decide +kernel) (hj : jj ≤ k := by decide) (hg : gloB s.sc x = true := by decide +kernel) (hd : (x == ("__debug__" : Str)) = false := by decide +kernel)
    (he : starEach (e :: .Name tn pt :: es) X.env = (false, eval e X.env) :: starEach (.Name tn pt :: es) X.env := by rfl) (he2 : starEach (.Name tn pt :: es) X.env = (false, eval (.Name tn pt) X.env) :: starEach es X.env := by rfl) (hpl : (backTo pos (starEach (.Name tn pt :: es) X.env)).any (·.1) = false := by rfl) :
    DM g W X (.Call (.Name x p) (e :: .Name tn pt :: es) [] pos) (mCallT ps.length fn m0 j' mr) := by
  obtain ⟨f, fd, hm, hk, hb, fo⟩ := F.ex
  obtain ⟨t0, p0, s0⟩ := h0
  obtain ⟨tr, pr, sr⟩ := hr
  have fo' : FnOk X.prog X.w X.K X.mg X.base (L2.CX X.prog X.w) jj f fd ps (spT g.K g.mg ps.length fn) := by
    rw [ok.hP, ok.hw, ok.hK, ok.hmg, ok.hbase]; exact fo
  refine ⟨_, pe_callS (E := WE W) fo' (ok.room.mono hj) (ok.glo hg) (by rw [ok.hmg]; exact hm) (by rw [ok.hK]; exact hk) (by rw [ok.hK]; exact hb) (fun σ => passAt ok.tk σ) (pa_cons p0 (pa_cons (pe_var (ok.at hN) (ok.vis hv) hdt hcd) pr he2) he) hd he hpl, fun B F H σ ρ Q E h => ?_⟩
  refine s0.then (R := PoE g.K g.mg W B F σ Q) E (fun x ρ' z => z) (fun z => z) h fun d0 ρ1 v0 F1 H1 g1 E1 r1 h1 => ?_
  have h1 := PoE.later g1 h1
  cases eo : ownL ρ1 j' with
  | none => rw [eo] at h1; exact h1.elim
  | some ts0 =>
  rw [eo] at h1
  simp only at h1
  obtain ⟨q, hq, hq2, hq3, hq4⟩ := E1.own j' _ (ownL_of eo)
  refine ⟨.ref q, hq, ?_⟩
  refine sr.then (R := PoE g.K g.mg W B F1 σ Q) E1 (fun x ρ' z => z) (fun z => z) h1 fun dr ρ2 vr F2 H2 g2 E2 r2 h2 => ?_
  have h2 := PoE.later g2 h2
  by_cases hl : dr.length + 2 = ps.length
  · rw [if_pos hl] at h2
    unfold callT at h2
    cases eo2 : ownL ρ2 j' with
    | none => rw [eo2] at h2; exact h2.elim
    | some ts =>
    rw [eo2] at h2
    simp only at h2
    have ho := ownL_of eo2
    obtain ⟨q2, b1, b2, b3, b4⟩ := E2.own j' _ ho
    rw [hq] at b1; cases b1
    refine ⟨F2, v0, q, vr, d0, ts, dr, rfl, E2.sub, r1.mono g2.sub, b2, b4, r2, hl, ?_⟩
    cases ef : fn d0 ts dr with
    | ok d ts' =>
      rw [ef] at h2
      intro v F' H' gt nq hO r
      obtain ⟨E3, g3⟩ := E2.afterT ho hq gt nq hO
      exact h2 v F' H' g3 E3 r
    | exc y ts' =>
      rw [ef] at h2
      intro C F' H' e gt nq hO
      obtain ⟨E3, g3⟩ := E2.afterT ho hq gt nq hO
      exact h2 C F' H' e g3 E3
    | bad => rw [ef] at h2; exact h2
  · rw [if_neg hl] at h2; exact h2.elim
end
/-! .. by their bodies -/
def rhoT (N : Nat) (d0 : D) (ts : List D) (dr : List D) : Rho := .val d0 :: .own (.lst ts) :: (dr.map .val ++ List.replicate (N - 2 - dr.length) .no)
def runT (N : Nat) (m : MS) (d0 : D) (ts dr : List D) : FRT := match m (rhoT N d0 ts dr) with
  | .ret d ρ' => (match ownL ρ' 1 with
    | some ts' => .ok d ts'
    | none => .bad)
  | .next ρ' => (match ownL ρ' 1 with
    | some ts' => .ok .none ts'
    | none => .bad)
  | .exc s ρ' => (match ownL ρ' 1 with
    | some ts' => .exc s ts'
    | none => .bad)
  | _ => .bad
section
variable {g : GC} {x : Str} {params : Arguments} {body : List Stmt} {scope : Scope} {f : Addr} {fd : FuncData} {N ps : List Str} {k : Nat} {m : MS}
theorem env_startT {K : KC} {F H : Hp} {v0 : V} {q : Addr} {vr : List V} {d0 : D} {ts dr : List D} {N : List Str} (s : Sub F H) (r0 : Rp K F v0 d0) (nq : F q = none) (hO : OR K F H q (.lst ts)) (r : RpA K F vr dr) (hN : dr.length + 2 ≤ N.length) :
    Env K (fun a => if a = q then none else H a) F H (L2.start N (v0 :: .ref q :: vr)) (rhoT N.length d0 ts dr) := by
  have hl := r.length
  refine ⟨fun a o e => ?_, s, ?_, fun i d e => ?_, fun i o e => ?_, fun i j o o' q' hij e1 e2 e3 e4 => ?_⟩
  · have e : (if a = q then none else H a) = some o := e
    split at e
    · cases e
    · exact e
  · unfold rhoT L2.start
    simp only [List.length_cons, List.length_append, List.length_map, List.length_replicate]
    omega
  · unfold L2.start
    match i, e with
    | 0, e => cases e; exact ⟨v0, rfl, r0⟩
    | 1, e => cases e
    | i + 2, e =>
      have e := map_get_val e
      obtain ⟨v, h1, h2⟩ := r.get e
      refine ⟨v, ?_, h2⟩
      have hi : i < vr.length := (List.getElem?_eq_some_iff.mp h1).1
      show (vr.map some ++ _)[i]? = _
      rw [List.getElem?_append_left (by simpa using hi), List.getElem?_map, h1]
      rfl
  · match i, e with
    | 0, e => cases e
    | 1, e => cases e; exact ⟨q, rfl, nq, by simp, hO⟩
    | i + 2, e => exact (map_get_own e).elim
  · have one : ∀ (i : Nat) (o : Ob), (rhoT N.length d0 ts dr)[i]? = some (.own o) → i = 1 := fun i o e => by
      match i, e with
      | 0, e => cases e
      | 1, _ => rfl
      | i + 2, e => exact (map_get_own e).elim
    exact hij ((one i o e1).trans (one j o' e2).symm)
theorem ft_mk (F : FunD g.K.K x x params body scope [] [] f fd) (S : FnScope N ps scope) (hm : g.mg x = some (.ref f))
    (hb : ∀ (kV doc pm : Value) (an : Option Addr) (cdv ct : Value) (us : List Value), us.length = ps.length → bindArgs (PySem.W.fnOf x x params body scope .none kV doc pm an cdv ct) ⟨us, []⟩ = pure (ps.zip us))
    (hbody : ∀ (W : WX) (X : Cx), Ok g ⟨N, scope, none⟩ k W X → DSs g W [1] X body m) : FT g x (k + 1) ps (runT N.length m) := by
  refine ⟨f, fd, hm, F.kp, F.bindsN hb, F.ok S (fun vs H Q E h => ?_) (fun cdv A outer s H vs Q E hr h => ?_)⟩
  · obtain ⟨F, v0, q, vr, d0, ts, dr, rfl, _, _, _, _, r, hl, _⟩ := h
    simp only [List.length_cons]
    rw [r.length]; omega
  · obtain ⟨F0, v0, q, vr, d0, ts, dr, rfl, hs, r0, nq, hO, r, hl, po⟩ := h
    have hpN : ps.length ≤ N.length := by have := congrArg List.length S.pre; rw [List.length_take] at this; omega
    obtain ⟨t, pt, st⟩ := hbody (fun cls d _ H => E cls d H) _ (ok_body (g := g) (E := E) (outer := outer) (H := H) S hr)
    refine ⟨t, pt, ?_⟩
    refine st _ F0 H (L2.start N (v0 :: .ref q :: vr)) (rhoT N.length d0 ts dr) _ (env_startT hs r0 nq hO r (by omega)) ?_
    have gw : ∀ {F' H' : Hp} {σ' : L2.St} {ρ' : Rho} {ts' : List D}, Gr (fun a => if a = q then none else H a) F0 F' → Kp [1] (L2.start N (v0 :: .ref q :: vr)) σ' → Env g.K (fun a => if a = q then none else H a) F' H' σ' ρ' → ownL ρ' 1 = some ts' →
        GrowT q F0 H F' H' ∧ F' q = none ∧ OR g.K F' H' q (.lst ts') := fun {F' H' σ' ρ' ts'} gr kp E eo => by
      obtain ⟨q', a1, a2, a3, a4⟩ := E.own 1 _ (ownL_of eo)
      have e1 := kp.2 1 (by simp)
      rw [a1] at e1
      cases (show some (some (V.ref q')) = some (some (V.ref q)) from e1)
      refine ⟨⟨gr.sub, fun a o ne e => E.subB a o (by show (if a = q then none else H a) = _; rw [if_neg ne]; exact e), E.sub, fun a h => (gr.new a h).imp id fun z => ?_⟩, a2, a4⟩
      have z : (if a = q then none else H a) = none := z
      split at z
      · rename_i ea; subst ea; exact absurd a2 h
      · exact z
    unfold runT at po
    cases em : m (rhoT N.length d0 ts dr) with
    | next ρ' =>
      rw [em] at po
      simp only at po
      cases eo : ownL ρ' 1 with
      | none => rw [eo] at po; exact po.elim
      | some ts' => rw [eo] at po; exact fun F' H' σ' gr kp E' => po .non F' H' (gw gr kp E' eo).1 (gw gr kp E' eo).2.1 (gw gr kp E' eo).2.2 .non
    | ret d ρ' =>
      rw [em] at po
      simp only at po
      cases eo : ownL ρ' 1 with
      | none => rw [eo] at po; exact po.elim
      | some ts' => rw [eo] at po; exact fun v F' H' σ' gr kp E' r => po v F' H' (gw gr kp E' eo).1 (gw gr kp E' eo).2.1 (gw gr kp E' eo).2.2 r
    | brk ρ' => rw [em] at po; exact po.elim
    | cont ρ' => rw [em] at po; exact po.elim
    | exc y ρ' =>
      rw [em] at po
      simp only at po
      cases eo : ownL ρ' 1 with
      | none => rw [eo] at po; exact po.elim
      | some ts' => rw [eo] at po; exact fun C F' H' σ' e gr kp E' => po C F' H' e (gw gr kp E' eo).1 (gw gr kp E' eo).2.1 (gw gr kp E' eo).2.2
    | bad => rw [em] at po; exact po.elim
end
end DX

set_option maxHeartbeats 1000000
namespace DX
open PySem PySem.Spec PyProof.Rows L2

section
variable {g : GC} {s : SS} {k : Nat} {W : WX} {pin : List Nat} {X : Cx} {pos p px apos cpos : Pos} {a b c e : Expr} {ma mb mc : M D}
/-- a name's place, for a slot of one's own -/
structure Sl (s : SS) (i : Nat) (x : Str) : Prop where
  hN : s.N[i]? = some x := by rfl
  hv : visB s.sc x = true := by decide +kernel
  hd : (x == ("__debug__" : Str)) = false := by decide +kernel
  hcd : (x == ("__classdict__" : Str)) = false := by decide +kernel
theorem Sl.pe {i : Nat} {x : Str} (h : Sl s i x) (ok : Ok g s k W X) : PE X (.Name x pos) (tVar i) := pe_var (ok.at h.hN) (ok.vis h.hv) h.hd h.hcd
/-- an own list as it stands -/
theorem Env.ownLst {K : KC} {B F H : Hp} {σ : L2.St} {ρ : Rho} {i : Nat} {ds : List D} (E : Env K B F H σ ρ) (h : ownL ρ i = some ds) : ∃ q vs, σ[i]? = some (some (.ref q)) ∧ F q = none ∧ B q = none ∧ H q = some (.lst vs) ∧ vs.length ≤ sizeLine ∧ RpA K F vs ds := by
  obtain ⟨q, h1, h2, h3, vs, h4, h5, h6⟩ := E.own i _ (ownL_of h)
  exact ⟨q, vs, h1, h2, h3, h4, h5, h6⟩

/-! x.append(e) -/
def sAppend (i : Nat) (me : M D) : MS := fun ρ => match ownL ρ i with
  | some _ => sBnd (me ρ) fun d ρ1 => (match ownL ρ1 i with
    | some ds => if ds.length < sizeLine then .next (ρ1.set i (.own (.lst (ds ++ [d])))) else .bad
    | none => .bad)
  | none => .bad
theorem ds_append (ok : Ok g s k W X) (i : Nat) {x : Str} (sl : Sl s i x) (he : DM g W X e ma)
    (hfew : ((backTo cpos (starEach [e] X.env)).all (fun x => !x.1) && (backToKw cpos (keywordEach [] X.env)).all (fun x => x.1.isSome)
      && decide ([e].length + ([] : List Keyword).length + (if ([] : List Keyword).isEmpty then 0 else 1) < 30)) = true := by rfl)
    (hline : (apos.endLine == cpos.line) = true := by rfl) (hs : starEach [e] X.env = (false, eval e X.env) :: starEach [] X.env := by rfl) :
    DS g W pin X (.Expr (.Call (.Attribute (.Name x px) "append" apos) [e] [] cpos) pos) (sAppend i ma) := by
  obtain ⟨t, pt, st⟩ := he
  refine ⟨_, ps_expr (pe_bm PySem.F.plainAttrs_list PySem.F.slot_list_append PySem.F.type_list_append mt_append (sl.pe ok) (pa_cons pt pa_nil hs) rfl hfew hline hs rfl), fun B F H σ ρ D E h => ?_⟩
  unfold sAppend at h
  cases e0 : ownL ρ i with
  | none => rw [e0] at h; exact h.elim
  | some ds0 =>
  rw [e0] at h
  simp only at h
  obtain ⟨q, vs0, hq, a2, a3, a4, a5, a6⟩ := E.ownLst e0
  refine ⟨.ref q, hq, .inl ⟨rfl, _, .inl (.inl a4)⟩, ?_⟩
  refine st.thenS E h fun d ρ1 v F1 H1 g1 E1 r1 h1 => ?_
  cases e1 : ownL ρ1 i with
  | none => rw [e1] at h1; exact h1.elim
  | some ds =>
  rw [e1] at h1
  simp only at h1
  obtain ⟨q', vs, hq', b2, b3, b4, b5, b6⟩ := E1.ownLst e1
  rw [hq] at hq'; cases hq'
  by_cases hz : ds.length < sizeLine
  · rw [if_pos hz] at h1
    refine ⟨q, vs, v, rfl, rfl, b4, by rw [b6.length]; exact hz, ?_⟩
    exact h1 F1 _ σ Gr.refl Kp.refl (E1.write (ownL_of e1) hq ⟨vs ++ [v], upd_same, by rw [List.length_append, b6.length]; simp; omega, b6.append (.cons r1 .nil)⟩)
  · rw [if_neg hz] at h1; exact h1.elim

/-! x[e], x an own list -/
def mIxO (i : Nat) (mb : M D) : M D := fun ρ => match ownL ρ i with
  | some _ => bnd (mb ρ) fun d ρ1 => (match ownL ρ1 i with
    | some ds => lft (fIx (.list ds) d) ρ1
    | none => .bad)
  | none => .bad
theorem dm_ixO (ok : Ok g s k W X) (i : Nat) {x : Str} (sl : Sl s i x) (hb : DM g W X b mb) (hs : PlainIx b := by exact fun _ _ => rfl) : DM g W X (.Subscript (.Name x px) b pos) (mIxO i mb) := by
  obtain ⟨tb, pb, sb⟩ := hb
  refine ⟨_, pe_ix ix_seq (sl.pe ok) pb hs, fun B F H σ ρ Q E h => ?_⟩
  unfold mIxO at h
  cases e0 : ownL ρ i with
  | none => rw [e0] at h; exact h.elim
  | some ds0 =>
  rw [e0] at h
  simp only at h
  obtain ⟨q, vs0, hq, _⟩ := E.ownLst e0
  refine ⟨.ref q, hq, ?_⟩
  refine sb.then (R := PoE g.K g.mg W B F σ Q) E (fun x ρ' z => z) (fun z => z) h fun d ρ1 v F1 H1 g1 E1 r1 h1 => ?_
  cases e1 : ownL ρ1 i with
  | none => rw [e1] at h1; exact h1.elim
  | some ds =>
  rw [e1] at h1
  simp only at h1
  obtain ⟨q', vs, hq', b2, b3, b4, b5, b6⟩ := E1.ownLst e1
  rw [hq] at hq'; cases hq'
  cases ef : fIx (.list ds) d with
  | none => rw [ef] at h1; exact h1.elim
  | some z =>
  rw [ef] at h1
  unfold fIx at ef
  split at ef
  · rename_i heq; cases heq
    cases r1
    obtain ⟨v, e2, r2⟩ := b6.atI ef
    exact .inl ⟨q, vs, _, v, rfl, rfl, .inl (.inl b4), e2, h1 v F1 H1 g1 E1 r2⟩
  · rename_i heq; cases heq
  · rename_i heq; cases heq
  · cases ef

/-! a comparison with an own list on one side: the value is a bool -/
/-- the list as if it were frozen -/
theorem Env.asF {K : KC} {B F H : Hp} {σ : L2.St} {ρ : Rho} {i : Nat} {ds : List D} (E : Env K B F H σ ρ) (h : ownL ρ i = some ds) : ∃ q vs, σ[i]? = some (some (.ref q)) ∧ Sub F (upd F q (.lst vs)) ∧ Sub (upd F q (.lst vs)) H ∧ Rp K (upd F q (.lst vs)) (.ref q) (.list ds) := by
  obtain ⟨q, vs, h1, h2, h3, h4, h5, h6⟩ := E.ownLst h
  exact ⟨q, vs, h1, Sub.new h2, E.sub.add h4, .lst (.inl (.inl upd_same)) h5 (h6.mono (Sub.new h2))⟩
theorem Grow.keepF {F F1 H F' H' : Hp} (s : Sub F H) (g : Grow F1 H F' H') : Grow F H F H' := ⟨Sub.refl F, g.subH, s.trans g.subH, fun _ h => .inl h⟩
def onlyB (o : Option D) (ρ : Rho) : MR D := match o with
  | some (.bool b) => .ok (.bool b) ρ
  | _ => .bad
def mCmpOR (f : D → D → Option D) (ma : M D) (i : Nat) : M D := fun ρ => bnd (ma ρ) fun d ρ1 => match ownL ρ1 i with
  | some ds => onlyB (f d (.list ds)) ρ1
  | none => .bad
def mCmpOL (f : D → D → Option D) (i : Nat) (mb : M D) : M D := fun ρ => match ownL ρ i with
  | some _ => bnd (mb ρ) fun d ρ1 => (match ownL ρ1 i with
    | some ds => onlyB (f (.list ds) d) ρ1
    | none => .bad)
  | none => .bad
theorem sim_cmpOR {K : KC} {mg : Str → Option Value} {W : WX} {r : R2} {f : D → D → Option D} {ta : TE} {ma : M D} {i : Nat} (hr : RV2 K r f) (ha : SimE K mg W ta ma) : SimE K mg W (tOp r ta (tVar i)) (mCmpOR f ma i) := by
  intro B F H σ ρ Q E h
  refine ha.then (R := PoE K mg W B F σ Q) E (fun x ρ' z => z) (fun z => z) h fun d ρ1 v F1 H1 g1 E1 r1 h1 => ?_
  have h1 := PoE.later g1 h1
  cases e1 : ownL ρ1 i with
  | none => rw [e1] at h1; exact h1.elim
  | some ds =>
  rw [e1] at h1
  simp only at h1
  obtain ⟨q, vs, hq, s1, s2, rq⟩ := E1.asF e1
  refine ⟨.ref q, hq, ?_⟩
  cases ef : f d (.list ds) with
  | none => rw [ef] at h1; exact h1.elim
  | some z =>
  rw [ef] at h1
  unfold onlyB at h1
  split at h1
  · rename_i hz; cases hz
    refine hr _ H1 v (.ref q) d (.list ds) _ Q s2 (r1.mono s1) rq ef fun y F' H' gw ry => ?_
    cases ry
    have gk := Grow.keepF E1.sub gw
    exact h1 _ F1 H' Gr.refl (E1.grow gk) (.bl _)
  · exact h1.elim
theorem sim_cmpOL {K : KC} {mg : Str → Option Value} {W : WX} {r : R2} {f : D → D → Option D} {tb : TE} {mb : M D} {i : Nat} (hr : RV2 K r f) (hb : SimE K mg W tb mb) : SimE K mg W (tOp r (tVar i) tb) (mCmpOL f i mb) := by
  intro B F H σ ρ Q E h
  unfold mCmpOL at h
  cases e0 : ownL ρ i with
  | none => rw [e0] at h; exact h.elim
  | some ds0 =>
  rw [e0] at h
  simp only at h
  obtain ⟨q, vs0, hq, _⟩ := E.ownLst e0
  refine ⟨.ref q, hq, ?_⟩
  refine hb.then (R := PoE K mg W B F σ Q) E (fun x ρ' z => z) (fun z => z) h fun d ρ1 v F1 H1 g1 E1 r1 h1 => ?_
  have h1 := PoE.later g1 h1
  cases e1 : ownL ρ1 i with
  | none => rw [e1] at h1; exact h1.elim
  | some ds =>
  rw [e1] at h1
  simp only at h1
  obtain ⟨q', vs, hq', s1, s2, rq⟩ := E1.asF e1
  rw [hq] at hq'; cases hq'
  cases ef : f (.list ds) d with
  | none => rw [ef] at h1; exact h1.elim
  | some z =>
  rw [ef] at h1
  unfold onlyB at h1
  split at h1
  · rename_i hz; cases hz
    refine hr _ H1 (.ref q) v (.list ds) d _ Q s2 rq (r1.mono s1) ef fun y F' H' gw ry => ?_
    cases ry
    have gk := Grow.keepF E1.sub gw
    exact h1 _ F1 H' Gr.refl (E1.grow gk) (.bl _)
  · exact h1.elim
theorem dm_cmpOR (ok : Ok g s k W X) {op : CmpOp} {f : D → D → Option D} (hc : CmpR g X op f) (ha : DM g W X a ma) (i : Nat) {x : Str} (sl : Sl s i x) (hm : behindInMarks op (.Name x px) = false := by first | exact nomark _ | rfl) : DM g W X (.Compare a [op] [.Name x px] pos) (mCmpOR f ma i) := by
  obtain ⟨r, ho, hr⟩ := hc.ex
  obtain ⟨ta, pa, sa⟩ := ha
  exact ⟨_, pe_cmpR ho pa (sl.pe ok) hm, sim_cmpOR hr sa⟩
theorem dt_cmpOR (ok : Ok g s k W X) {op : CmpOp} {f : D → D → Option D} (hc : CmpR g X op f) (ha : DM g W X a ma) (i : Nat) {x : Str} (sl : Sl s i x) (hm : behindInMarks op (.Name x px) = false := by first | exact nomark _ | rfl) : DT g W X (.Compare a [op] [.Name x px] pos) (asB (mCmpOR f ma i)) := by
  obtain ⟨r, ho, hr⟩ := hc.ex
  obtain ⟨ta, pa, sa⟩ := ha
  exact ⟨_, pt_cmpR ho pa (sl.pe ok) hm, (sim_cmpOR hr sa).test⟩
theorem dm_cmpOL (ok : Ok g s k W X) {op : CmpOp} {f : D → D → Option D} (hc : CmpR g X op f) (i : Nat) {x : Str} (sl : Sl s i x) (hb : DM g W X b mb) (hm : behindInMarks op b = false := by first | exact nomark _ | rfl) : DM g W X (.Compare (.Name x px) [op] [b] pos) (mCmpOL f i mb) := by
  obtain ⟨r, ho, hr⟩ := hc.ex
  obtain ⟨tb, pb, sb⟩ := hb
  exact ⟨_, pe_cmpR ho (sl.pe ok) pb hm, sim_cmpOL hr sb⟩
theorem dt_cmpOL (ok : Ok g s k W X) {op : CmpOp} {f : D → D → Option D} (hc : CmpR g X op f) (i : Nat) {x : Str} (sl : Sl s i x) (hb : DM g W X b mb) (hm : behindInMarks op b = false := by first | exact nomark _ | rfl) : DT g W X (.Compare (.Name x px) [op] [b] pos) (asB (mCmpOL f i mb)) := by
  obtain ⟨r, ho, hr⟩ := hc.ex
  obtain ⟨tb, pb, sb⟩ := hb
  exact ⟨_, pt_cmpR ho (sl.pe ok) pb hm, (sim_cmpOL hr sb).test⟩

/-! len(x) -/
def mLenO (i : Nat) : M D := fun ρ => match ownL ρ i with
  | some ds => .ok (.int ds.length) ρ
  | none => .bad
theorem dm_lenO (ok : Ok g s k W X) (bf : BF g) (i : Nat) {x : Str} (sl : Sl s i x) (hg : gloB s.sc "len" = true := by decide +kernel) : DM g W X (.Call (.Name "len" p) [.Name x px] [] pos) (mLenO i) := by
  refine ⟨_, pe_callB call_len (ok.glo hg) (by rw [ok.hmg]; exact bf.len) PySem.boot_len (pa_cons (sl.pe ok) pa_nil) (by decide +kernel) (by decide +kernel) rfl rfl, fun B F H σ ρ Q E h => ?_⟩
  unfold mLenO at h
  cases e0 : ownL ρ i with
  | none => rw [e0] at h; exact h.elim
  | some ds =>
  rw [e0] at h
  simp only at h
  obtain ⟨q, vs, hq, b2, b3, b4, b5, b6⟩ := E.ownLst e0
  refine ⟨.ref q, hq, .ref q, vs.length, rfl, .inl ⟨vs, .inl (.inl b4), rfl⟩, ?_⟩
  rw [b6.length]
  exact h _ F H Gr.refl E (.int _)

/-! x + e, x an own list: a new list -/
def mCatO (i : Nat) (mb : M D) : M Ob := fun ρ => match ownL ρ i with
  | some _ => bnd (mb ρ) fun d ρ1 => (match ownL ρ1 i with
    | some ds => lft (fCat (.list ds) d) ρ1
    | none => .bad)
  | none => .bad
theorem dl_catO (ok : Ok g s k W X) (i : Nat) {x : Str} (sl : Sl s i x) (hb : DM g W X b mb) : DL g W X (.BinOp (.Name x px) .Add b pos) (mCatO i mb) := by
  obtain ⟨tb, pb, sb⟩ := hb
  refine ⟨_, pe_op op_catR (sl.pe ok) pb, fun B F H σ ρ Q E h => ?_⟩
  unfold mCatO at h
  cases e0 : ownL ρ i with
  | none => rw [e0] at h; exact h.elim
  | some ds0 =>
  rw [e0] at h
  simp only at h
  obtain ⟨q, vs0, hq, _⟩ := E.ownLst e0
  refine ⟨.ref q, hq, ?_⟩
  refine sb.then (R := PoL g.K g.mg W B F σ Q) E (fun x ρ' z => z) (fun z => z) h fun d ρ1 v F1 H1 g1 E1 r1 h1 => ?_
  have h1 := PoL.later g1 h1
  cases e1 : ownL ρ1 i with
  | none => rw [e1] at h1; exact h1.elim
  | some ds =>
  rw [e1] at h1
  simp only at h1
  obtain ⟨q', vs, hq', b2, b3, b4, b5, b6⟩ := E1.ownLst e1
  rw [hq] at hq'; cases hq'
  cases ef : fCat (.list ds) d with
  | none => rw [ef] at h1; exact h1.elim
  | some z =>
  rw [ef] at h1
  unfold fCat at ef
  split at ef
  · rename_i heq; cases heq
    split at ef
    · rename_i hz
      cases ef
      cases r1 with
      | lst h2 z2 r2 =>
      rename_i p2 ys
      refine ⟨q, p2, vs, ys, rfl, rfl, .inl (.inl b4), by rw [ok.hK]; exact h2.mono E1.sub, by rw [b6.length, r2.length]; exact hz, fun p np => ?_⟩
      have gw : Grow F1 H1 F1 (upd H1 p (.lst (vs ++ ys))) := Grow.made E1.sub np
      exact h1 p F1 _ Gr.refl (E1.grow gw) (E1.sub.nn np) (E1.subB.nn np) ⟨_, upd_same, by rw [List.length_append, b6.length, r2.length]; exact hz, b6.append r2⟩ (fresh_own E1 np)
    · cases ef
  · cases ef

/-! x[i] = e, x an own list -/
def sPutO (i : Nat) (mj : M D) (me : M D) : MS := fun ρ => sBnd (me ρ) fun d ρ1 => (match ownL ρ1 i with
  | some _ => sBnd (mj ρ1) fun j ρ2 => (match j, ownL ρ2 i with
    | .int jj, some ds => (match ixN ds.length jj with
      | some n => .next (ρ2.set i (.own (.lst (ds.set n d))))
      | none => .bad)
    | _, _ => .bad)
  | none => .bad)
theorem ds_putO (ok : Ok g s k W X) (i : Nat) {x : Str} (sl : Sl s i x) (hj : DM g W X b mb) (he : DM g W X e ma)
    (ha : ∀ v, assign (.Subscript (.Name x px) b p) X.env v = (do
      let ov ← holding [v] (eval (.Name x px) X.env)
      let iv ← holding [v, ov] (eval b X.env)
      standAt p
      holding [v, ov, iv] (setItem ov iv v)
      release [v, ov, iv] []) := by intro _; rfl)
    (hs : swapsWithSole [.Subscript (.Name x px) b p] e pos.line X.env = pure false := by rfl) (hw : swappedStores [.Subscript (.Name x px) b p] e X.env = pure none := by rfl) (h1 : (assignEach [.Subscript (.Name x px) b p] X.env).map (·.2) = [assign (.Subscript (.Name x px) b p) X.env] := by rfl) :
    DS g W pin X (.Assign [.Subscript (.Name x px) b p] e pos) (sPutO i mb ma) := by
  obtain ⟨tj, pj, sj⟩ := hj
  obtain ⟨te, pe, se⟩ := he
  refine ⟨_, ps_asg pe (pg_sub (sl.pe ok) pj set_list ha) hs hw h1, fun B F H σ ρ D E h => ?_⟩
  refine se.thenS E h fun d ρ1 v F1 H1 g1 E1 r1 h1 => ?_
  cases e1 : ownL ρ1 i with
  | none => rw [e1] at h1; exact h1.elim
  | some ds0 =>
  rw [e1] at h1
  simp only at h1
  obtain ⟨q, vs0, hq, _⟩ := E1.ownLst e1
  refine ⟨.ref q, hq, ?_⟩
  refine sj.thenS E1 h1 fun j ρ2 w F2 H2 g2 E2 r2 h2 => ?_
  cases e2 : ownL ρ2 i with
  | none => rw [e2] at h2; cases j <;> exact h2.elim
  | some ds =>
  rw [e2] at h2
  cases r2 <;> first
    | exact False.elim h2
    | skip
  rename_i jj
  simp only at h2
  obtain ⟨q', vs, hq', b2, b3, b4, b5, b6⟩ := E2.ownLst e2
  rw [hq] at hq'; cases hq'
  cases en : ixN ds.length jj with
  | none => rw [en] at h2; exact h2.elim
  | some n =>
  rw [en] at h2
  refine ⟨q, vs, jj, n, rfl, rfl, b4, by rw [b6.length]; exact en, ?_⟩
  exact h2 F2 _ σ Gr.refl Kp.refl (E2.write (ownL_of e2) hq ⟨vs.set n v, upd_same, by rw [List.length_set]; exact b5, RpA.set (r1.mono g2.sub) n b6⟩)
end
end DX

set_option maxHeartbeats 1000000
namespace DX
open PySem PySem.Spec PyProof.Rows L2

/-! ### dicts with tuples as keys, by their objects -/
section
variable {P : Program} {w : World} {H : Hp} {h : Heap} {a : Addr}
theorem dicAt_stay {es : List DEnt} : ∀ h1 h2 : Heap, DicAt P w a es h1 → (∀ o, h1.get? a = some o → h2.get? a = some o) → DicAt P w a es h2 := fun h1 h2 d k => by
  obtain ⟨z, y, xs, r, o, ds, ep, e, c⟩ := d
  exact ⟨z, y, xs, r, o, ds, ep, k o e, c⟩
theorem dicAt_ok {es : List DEnt} (d : DicAt P w a es h) : ObjOk P w H h a (DicO P w a es) := by
  refine ⟨d, ?_, dicAt_stay⟩
  obtain ⟨z, y, xs, r, o, ds, ep, e, c⟩ := d
  exact ⟨o, e⟩
theorem keyZ {ks : List Key} {b : Addr} {o : Obj} (ok : HOk P w H h) (e : H b = some (.frz o (.tup (ks.map kV)))) : (tupleKind (mixKind P w)).is h ks b := by
  obtain ⟨_, _, its, r, ob, h1, h2, n, h3⟩ := (show ObjOk P w H h b (.frz o (.tup (ks.map kV))) from ok b _ e)
  exact ⟨ob, its.toArray, n, h1, h2, h3, by simpa using items_are r⟩
/-- what the model's rules ask of such a dict -/
theorem dicZ {es : List DEnt} (ok : HOk P w H h) (e : H a = some (DicO P w a es)) (hk : ∀ x ∈ es, ∃ o, H x.b = some (.frz o (.tup (x.k.map kV)))) :
    es.length ≤ sizeLine ∧ (a == sysModules) = false ∧ ∃ xs, Paired DRel es xs ∧ h.DictOfH (tupleKind (mixKind P w)) a xs := by
  obtain ⟨⟨z, y, xs, r, o, ds, ep, h1, h2, h3, h4, h5⟩, _, _⟩ := (show ObjOk P w H h a (DicO P w a es) from ok a _ e)
  refine ⟨z, y, xs, r, o, ds, ep, h1, h2, h3, h4, fun x hx => ?_, h5⟩
  have all : ∀ {l : List DEnt} {m : List (List Key × Addr × Value)}, Paired DRel l m → (∀ x ∈ l, ∃ o, H x.b = some (.frz o (.tup (x.k.map kV)))) → ∀ x ∈ m, (tupleKind (mixKind P w)).is h x.1 x.2.1 := by
    intro l m q
    induction q with
    | nil => intro _ x hx; exact nomatch hx
    | @cons p q ps qs hq t ih =>
      intro hl x hx
      rcases List.mem_cons.mp hx with e | hx
      · subst e
        obtain ⟨o, ho⟩ := hl p List.mem_cons_self
        rw [← hq.1, ← hq.2.1]
        exact keyZ ok ho
      · exact ih (fun y hy => hl y (List.mem_cons_of_mem _ hy)) x hx
  exact all r hk x hx
end
/-! entries -/
def findE (es : List DEnt) (k : List Key) : Option V := (es.find? fun e => decide (e.k = k)).map DEnt.v
def putE (es : List DEnt) (k : List Key) (b : Addr) (v : V) : List DEnt := if (findE es k).isSome then es.map (fun e => if e.k = k then ⟨e.k, e.b, v⟩ else e) else es ++ [⟨k, b, v⟩]
theorem findE_rel : ∀ {es : List DEnt} {xs : List (List Key × Addr × Value)}, Paired DRel es xs → ∀ k, RelO (findE es k) ((atKey xs k).map (·.2))
  | _, _, .nil, k => True.intro
  | _, _, .cons (a := e) (b := x) (l₁ := es) (l₂ := xs) h t, k => by
    by_cases hk : e.k = k
    · have hx : x.1 = k := h.1.symm.trans hk
      have e1 : findE (e :: es) k = some e.v := by simp [findE, List.find?_cons, hk]
      have e2 : atKey (x :: xs) k = some x.2 := by simp [atKey, List.find?_cons, hx]
      rw [e1, e2]; exact h.2.2
    · have hx : ¬ x.1 = k := fun z => hk (h.1.trans z)
      have e1 : findE (e :: es) k = findE es k := by simp [findE, List.find?_cons, hk]
      have e2 : atKey (x :: xs) k = atKey xs k := by simp [atKey, List.find?_cons, hx]
      rw [e1, e2]; exact findE_rel t k
theorem putE_rel {es : List DEnt} {xs : List (List Key × Addr × Value)} (r : Paired DRel es xs) (k : List Key) (b : Addr) {v : V} {u : Value} (rv : RelV v u) : Paired DRel (putE es k b v) (storedH xs k b u) := by
  have e : (findE es k).isSome = (atKey xs k).isSome := by rw [(findE_rel r k).isSome_eq, Option.isSome_map]
  unfold putE storedH
  rw [e]
  by_cases q : (atKey xs k).isSome = true
  · rw [if_pos q, if_pos q]
    clear e q
    induction r with
    | nil => exact .nil
    | @cons p y ps ys h t ih =>
      rw [List.map_cons, List.map_cons]
      refine .cons ?_ ih
      unfold putAt
      by_cases hk : p.k = k
      · rw [if_pos hk, if_pos (h.1.symm.trans hk)]; exact ⟨h.1, h.2.1, rv⟩
      · rw [if_neg hk, if_neg (fun z => hk (h.1.trans z))]; exact h
  · rw [if_neg q, if_neg q]; exact Paired.snoc r ⟨rfl, rfl, rv⟩
theorem putE_len (es : List DEnt) (k : List Key) (b : Addr) (v : V) : (putE es k b v).length ≤ es.length + 1 := by
  unfold putE
  split
  · rw [List.length_map]; omega
  · rw [List.length_append]; simp

/-! rules by values -/
/-- the key at b -/
def KeyAt (H : Hp) (b : Addr) (k : List Key) : Prop := ∃ o, H b = some (.frz o (.tup (k.map kV)))
def DicH (P : Program) (w : World) (H : Hp) (a : Addr) (es : List DEnt) : Prop := H a = some (DicO P w a es) ∧ ∀ x ∈ es, ∃ o, H x.b = some (.frz o (.tup (x.k.map kV)))
section
variable {X : Cx}
def rInT (P : Program) (w : World) (neg : Bool) : R2 := fun x y H Q => ∃ a b es k, x = .ref b ∧ y = .ref a ∧ KeyAt H b k ∧ DicH P w H a es ∧ Q (.bl (xor neg (findE es k).isSome)) H
theorem op_inT (hu : X.A.units + 65 < cLine) : OpR X (compareOp .In) (rInT X.prog X.w false) := by
  intro pins s σ H x y v u Q I rx ry h
  obtain ⟨a, b, es, k, rfl, rfl, ⟨o, hk⟩, ⟨hd, he⟩, q⟩ := h
  rw [Bool.false_xor] at q
  cases rx
  cases ry
  obtain ⟨z, hm, xs, rel, dd⟩ := dicZ I.hok hd he
  refine wpAny_in_heap (tupleKind_room_in1 (by omega)) (keyZ I.hok hk) hm dd ?_
  have e := (findE_rel rel k).isSome_eq
  rw [Option.isSome_map] at e
  rw [← e]
  exact ⟨.bl _, H, I.tok _, rfl, q⟩
theorem op_notInT (hu : X.A.units + 65 < cLine) : OpR X (compareOp .NotIn) (rInT X.prog X.w true) := by
  intro pins s σ H x y v u Q I rx ry h
  obtain ⟨a, b, es, k, rfl, rfl, ⟨o, hk⟩, ⟨hd, he⟩, q⟩ := h
  rw [Bool.true_xor] at q
  cases rx
  cases ry
  obtain ⟨z, hm, xs, rel, dd⟩ := dicZ I.hok hd he
  refine wpAny_notIn_heap (tupleKind_room_in1 (by omega)) (keyZ I.hok hk) hm dd ?_
  have e := (findE_rel rel k).isSome_eq
  rw [Option.isSome_map] at e
  rw [← e]
  exact ⟨.bl _, H, I.tok _, rfl, q⟩
/-- d[k] = v -/
def rSetT (P : Program) (w : World) : V → V → V → Hp → (Hp → Prop) → Prop := fun o i v H Q => ∃ a b es k, o = .ref a ∧ i = .ref b ∧ KeyAt H b k ∧ DicH P w H a es ∧ es.length < sizeLine ∧ Q (upd H a (DicO P w a (putE es k b v)))
theorem set_T (hu : X.A.units + 65 < cLine) : PSet X (rSetT X.prog X.w) := by
  intro pins s σ H o i v ov iv u Q I ro ri rv h
  obtain ⟨a, b, es, k, rfl, rfl, ⟨ob, hk⟩, ⟨hd, he⟩, hl, q⟩ := h
  cases ro
  cases ri
  obtain ⟨z, hm, xs, rel, dd⟩ := dicZ I.hok hd he
  have hz : xs.length ≤ sizeLine := by rw [← Paired.length rel]; exact z
  have hl' : (putE es k b v).length ≤ sizeLine := by have := putE_len es k b v; omega
  refine wpAny_setItem_heap (hsz := hz) (tupleKind_room_in1 (by omega)) (keyZ I.hok hk) dd fun h' dd' hs => ⟨_, ?_, q⟩
  obtain ⟨ob', es', ep, hq, h2, h3, h4, _, h5⟩ := dd'
  exact d_write I (by rw [hd]; exact True.intro) hs ⟨ob', hq⟩ (dicAt_ok ⟨hl', hm, _, putE_rel rel k b rv, ob', es', ep, hq, h2, h3, h4, h5⟩)
end

/-! ### dict(l), l a list of pairs (tuple, value) -/
def mergedH (acc : List (List Key × Addr × Value)) (rest : List (List Key × Addr × Value)) : List (List Key × Addr × Value) := rest.foldl (fun a q => storedH a q.1 q.2.1 q.2.2) acc
theorem storedH_len (xs : List (List Key × Addr × Value)) (k : List Key) (b : Addr) (u : Value) : (storedH xs k b u).length ≤ xs.length + 1 := by
  unfold storedH
  split
  · rw [List.length_map]; omega
  · rw [List.length_append]; simp
theorem isK_keeps {prog : Program} {w : World} {h h' : Heap} {ks : List Key} {b : Addr} (x : (tupleKind (mixKind prog w)).is h ks b) (k : ∀ o, h.get? b = some o → h'.get? b = some o) : (tupleKind (mixKind prog w)).is h' ks b := by
  obtain ⟨o, its, n, e, c⟩ := x
  exact ⟨o, its, n, k o e, c⟩
theorem dictH_keeps {prog : Program} {w : World} {h h' : Heap} {S : Addr} {acc : List (List Key × Addr × Value)} (x : h.DictOfH (tupleKind (mixKind prog w)) S acc) (kS : ∀ o, h.get? S = some o → h'.get? S = some o) (kx : ∀ x ∈ acc, ∀ o, h.get? x.2.1 = some o → h'.get? x.2.1 = some o) :
    h'.DictOfH (tupleKind (mixKind prog w)) S acc := by
  obtain ⟨o, es, ep, e, c1, c2, c3, c4, c5⟩ := x
  exact ⟨o, es, ep, kS o e, c1, c2, c3, fun y hy => isK_keeps (c4 y hy) (kx y hy), c5⟩
theorem storedH_keys {xs : List (List Key × Addr × Value)} {k : List Key} {b : Addr} {u : Value} {P : Addr → Prop} (h : ∀ x ∈ xs, P x.2.1) (hb : P b) : ∀ x ∈ storedH xs k b u, P x.2.1 := by
  intro x hx
  unfold storedH at hx
  split at hx
  · obtain ⟨y, hy, e⟩ := List.mem_map.mp hx
    unfold putAt at e
    split at e
    · rw [← e]; exact h y hy
    · rw [← e]; exact h y hy
  · rcases List.mem_append.mp hx with hx | hx
    · exact h x hx
    · simp at hx; rw [hx]; exact hb
section
variable {prog : Program} {w : World} {A : Around} {E : Value → Shared → Prop}
theorem upd_loopT {R : Result → Shared → Prop} {S I l : Addr} {items : Array Value} {res : Value} (hh : A.handled = none) (hu : A.units + 3 < cLine) (hlI : l ≠ I) (hSI : S ≠ I) (hSl : S ≠ l) :
    ∀ (rest : List (List Key × Addr × Value)) (i : Nat) (acc : List (List Key × Addr × Value)) (ix : Int) (t : Tok) (s : Shared), items.size = i + rest.length → acc.length + rest.length ≤ sizeLine →
      (∀ (j : Nat) (q : List Key × Addr × Value), rest[j]? = some q → ∃ (b : Addr), items[i + j]? = some (.ref b) ∧ b ≠ S ∧ b ≠ I ∧ q.2.1 ≠ S ∧ q.2.1 ≠ I ∧ IsTup s.heap b #[.ref q.2.1, q.2.2] ∧ (tupleKind (mixKind prog w)).is s.heap q.1 q.2.1) →
      s.heap.IsListIter I l i → s.heap.IsList l items → s.heap.DictOfH (tupleKind (mixKind prog w)) S acc → (∀ x ∈ acc, x.2.1 ≠ I ∧ x.2.1 ≠ S) →
      (∀ h' tk, h'.DictOfH (tupleKind (mixKind prog w)) S (mergedH acc rest) → (∀ b o, b ≠ S → b ≠ I → s.heap.get? b = some o → h'.get? b = some o) → R (.ok (.ret res)) { s with heap := h', toks := tk }) →
      codeAny (model prog w) A (.builtin "dict.update.loop" ⟨[.ref S, .ref I, .int ix t, res], []⟩) R s
  | [], i, acc, ix, t, s, hsz, hln, ht, hit, hl, hm, hacc, hR => by
    refine codeAny_builtin ud_entry ?_
    rw [Around.under_plainId ud_plain _]
    show wpAny _ A.in1 (pyNext (.ref I) >>= _) _ _ s
    refine wpAny_bind (wpAny_pyNext_list_end (A := A.in1) hh hit hl (by first | exact Array.getElem?_eq_none (Nat.le_of_eq hsz) | (simp at hsz; simp; omega)) fun h' he => ?_)
    show wpAny _ A.in1 (Builtin.Dict.addKeywords S [] >>= _) _ _ _
    refine wpAny_bind (wpAny_pure (wpAny_pure ?_))
    exact hR h' s.toks (dictH_keeps hm (fun o e => he S o hSI e) fun x hx o e => he _ o (hacc x hx).1 e) fun b o _ hb e => he b o hb e
  | q :: rest, i, acc, ix, t, s, hsz, hln, ht, hit, hl, hm, hacc, hR => by
    obtain ⟨b, hb, hbS, hbI, hqS, hqI, htup, hk⟩ := ht 0 q rfl
    rw [List.length_cons] at hsz hln
    refine codeAny_builtin ud_entry ?_
    rw [Around.under_plainId ud_plain _]
    show wpAny _ A.in1 (pyNext (.ref I) >>= _) _ _ s
    refine wpAny_bind (wpAny_pyNext_list_item (x := .ref b) hit hl (by simpa using hb) fun h1 hit1 hs1 => ?_)
    have ht1 : IsTup h1 b #[.ref q.2.1, q.2.2] := htup.extBut hs1.extBut hbI
    have hl1 : h1.IsList l items := hl.extBut hs1.extBut hlI
    have hm1 : h1.DictOfH (tupleKind (mixKind prog w)) S acc := dictH_keeps hm (fun o e => hs1.extBut S o hSI e) fun x hx o e => hs1.extBut _ o (hacc x hx).1 e
    have hk1 : (tupleKind (mixKind prog w)).is h1 q.1 q.2.1 := isK_keeps hk fun o e => hs1.extBut _ o hqI e
    obtain ⟨o, ho, hc, n, hd⟩ := id ht1
    show wpAny _ A.in1 (holding [Value.ref b] _ >>= _) _ _ _
    refine wpAny_bind (wpAny_holding ?_)
    refine wpAny_bind (wpAny_tryCatch ?_)
    unfold Builtin.Dict.pairItems
    refine wpAny_bind (wpAny_typeOf (T := "tuple") ⟨o, ho, hc⟩ ?_)
    rw [if_pos (by first | decide | rfl | simp)]
    refine wpAny_bind (wpAny_seqItems ho hd (wpAny_pure ?_))
    show wpAny _ A.in1 (holding [Value.ref q.2.1, q.2.2] (dictSet S (.ref q.2.1) q.2.2)) _ _ _
    refine wpAny_holding (wpAny_dictSet_heap (knd := tupleKind (mixKind prog w)) (k := q.1) (by show A.units + 1 < cLine; omega) hk1 hm1 (fun h2 hm2 hs2 => ?_) (by omega))
    refine wpAny_pure ⟨plainId_quiet ud_plain _, upd_loopT (items := items) hh hu hlI hSI hSl rest (i + 1) (storedH acc q.1 q.2.1 q.2.2) (ix + 1) 0 _ (show items.size = i + 1 + rest.length by omega) ?_ (fun j q' e => ?_) ?_ ?_ hm2 ?_ fun h' tk hd' k => ?_⟩
    · have z := storedH_len acc q.1 q.2.1 q.2.2
      omega
    · obtain ⟨b', hb', hbS', hbI', hqS', hqI', htup', hk'⟩ := ht (j + 1) q' (by simpa using e)
      refine ⟨b', ?_, hbS', hbI', hqS', hqI', (htup'.extBut hs1.extBut hbI').extBut hs2.extBut hbS', isK_keeps (isK_keeps hk' fun o e => hs1.extBut _ o hqI' e) fun o e => hs2.extBut _ o hqS' e⟩
      rw [show i + 1 + j = i + (j + 1) by omega]
      exact hb'
    · exact hit1.at fun o' e => hs2.extBut I o' (Ne.symm hSI) e
    · exact hl1.extBut hs2.extBut (Ne.symm hSl)
    · exact storedH_keys (P := fun a => a ≠ I ∧ a ≠ S) hacc ⟨hqI, hqS⟩
    · exact hR h' tk hd' fun c oc h3 h4 e => k c oc h3 h4 (hs2.extBut c oc h3 (hs1.extBut c oc h4 e))

/-- dict(l) of a list of pairs -/
theorem call_dict_pairsT {s : Shared} {l : Addr} {ol : Obj} {items : Array Value} {n : Nat} {prs : List (List Key × Addr × Value)} {Q : Value → Shared → Prop} (hh : A.handled = none) (hu : A.units + 6 < cLine) (hl : s.heap.get? l = some ol) (hc : ol.cls = .type "list") (hd : ol.dict = none)
    (hdat : ol.data = .seq items n) (hsz : items.size = prs.length) (hln : prs.length ≤ sizeLine)
    (ht : ∀ (j : Nat) (q : List Key × Addr × Value), prs[j]? = some q → ∃ (b : Addr), items[j]? = some (.ref b) ∧ IsTup s.heap b #[.ref q.2.1, q.2.2] ∧ (tupleKind (mixKind prog w)).is s.heap q.1 q.2.1)
    (h : ∀ h' tk, h'.DictOfH (tupleKind (mixKind prog w)) s.heap.objs.size (mergedH [] prs) → (∀ b o, s.heap.get? b = some o → h'.get? b = some o) → Q (.ref s.heap.objs.size) { s with heap := h', toks := tk }) :
    wpAny (model prog w) A (call (.type "dict") [.ref l]) Q E s := by
  refine callType_codes (Q₁ := fun obj s₁ => obj = .ref s.heap.objs.size ∧ s₁ = { s with heap := s.heap.push { cls := .type "dict", data := .dict #[] } }) PySem.F.kt_called_dict (PySem.F.kt_typeCall_dict_1 _) PySem.F.entry_dict_init (kt_code_dict_new _ ⟨rfl, rfl⟩) ?_
  rintro obj s₁ ⟨rfl, rfl⟩
  have hnew : (s.heap.push { cls := .type "dict", data := .dict #[] }).DictOfH (tupleKind (mixKind prog w)) s.heap.objs.size [] := Heap.DictOfH.new s.heap
  have hty : ({ s with heap := s.heap.push { cls := .type "dict", data := .dict #[] } } : Shared).TypeIs (.ref s.heap.objs.size) "dict" := ⟨_, Heap.get?_push_size _ rfl, rfl⟩
  have k0 : ∀ b o, s.heap.get? b = some o → (s.heap.push { cls := .type "dict", data := .dict #[] }).get? b = some o := fun b o e => Heap.get?_push_of_some _ e
  refine ⟨hty, PySem.F.args_dict_init_2 _ _, ?_⟩
  unfold Builtin.«dict.__init__»
  refine wpAny_bind ?_
  unfold Builtin.Dict.selfAndRest
  refine wpAny_bind (wpAny_notOrdered_dict hty ?_)
  show wpAny _ _ (pure (s.heap.objs.size, [Value.ref l])) _ _ _
  refine wpAny_pure ?_
  show wpAny _ _ (Builtin.Dict.updateFrom "dict.__init__" s.heap.objs.size (.ref l) [] .none) _ _ _
  unfold Builtin.Dict.updateFrom
  refine wpAny_bind (wpAny_typeOf (T := "list") ⟨ol, k0 _ _ hl, hc⟩ ?_)
  rw [if_pos (by first | decide | rfl | simp)]
  refine wpAny_bind (miss_list (k0 _ _ hl) hc hdat hd hh fun h1 tk1 hk1 => ?_)
  rw [if_pos (show (none : Option Value).isNone = true from rfl)]
  refine wpAny_bind (wpAny_rule ?_)
  have hl1 : h1.IsList l items := ⟨ol, hk1 _ _ (k0 _ _ hl), hc, n, hdat⟩
  have hS1 : s.heap.objs.size < h1.objs.size := by
    have e : (s.heap.push { cls := .type "dict", data := .dict #[] }).get? s.heap.objs.size = some { cls := .type "dict", data := .dict #[] } := Heap.get?_push_size _ rfl
    exact Heap.lt_size (hk1 _ _ e)
  refine wpAny_bind (wpAny_pyIter_list hl1 ?_)
  have k2 : ∀ b o, h1.get? b = some o → (h1.push { cls := .type "list_iterator", data := .fields #[.ref l, .int 0 0] }).get? b = some o := fun b o e => Heap.get?_push_of_some _ e
  have hlt : l < s.heap.objs.size := Heap.lt_size hl
  have ka : ∀ b o, s.heap.get? b = some o → (h1.push { cls := .type "list_iterator", data := .fields #[.ref l, .int 0 0] }).get? b = some o := fun b o z => k2 _ _ (hk1 _ _ (k0 _ _ z))
  have key := upd_loopT (prog := prog) (w := w) (A := A.in1) (R := wants (fun r s₂ => r = .none ∧ Q (.ref s.heap.objs.size) s₂) E) (S := s.heap.objs.size) (I := h1.objs.size) (l := l) (items := items) (res := Value.none) hh (by show A.units + 1 + 3 < cLine; omega)
    (Nat.ne_of_lt (Nat.lt_trans hlt hS1)) (Nat.ne_of_lt hS1) (Nat.ne_of_gt hlt) prs 0 [] 0 0
    { s with heap := h1.push { cls := .type "list_iterator", data := .fields #[.ref l, .int 0 0] }, toks := tk1 } (by rw [hsz, Nat.zero_add]) (by rw [List.length_nil, Nat.zero_add]; exact hln)
    (fun j q e => by
      obtain ⟨b, e1, e2, e3⟩ := ht j q e
      have hb : b < s.heap.objs.size := e2.lt
      have hq : q.2.1 < s.heap.objs.size := by obtain ⟨o, its, n, e, _⟩ := e3; exact Heap.lt_size e
      exact ⟨b, by rw [Nat.zero_add]; exact e1, Nat.ne_of_lt hb, Nat.ne_of_lt (Nat.lt_trans hb hS1), Nat.ne_of_lt hq, Nat.ne_of_lt (Nat.lt_trans hq hS1), e2.keeps ka, isK_keeps e3 fun o e => ka _ o e⟩)
    ⟨_, Heap.get?_push_size _ rfl, rfl, rfl⟩ (hl1.at fun o e => k2 _ _ e) (dictH_keeps hnew (fun o e => k2 _ _ (hk1 _ _ e)) fun x hx => nomatch hx) (fun x hx => nomatch hx)
    (fun h' tk hd' k => ⟨rfl, h h' tk hd' fun b o e => k b o (Nat.ne_of_lt (Heap.lt_size e)) (Nat.ne_of_lt (Nat.lt_trans (Heap.lt_size e) hS1)) (ka _ _ e)⟩)
  first
    | exact wpAny_pure ⟨plainId_quiet ud_plain _, key⟩
    | exact wpAny_bind (wpAny_pure (wpAny_pure ⟨plainId_quiet ud_plain _, key⟩))
end

/-! ### as data -/
def lookT (kvs : List (List Int × D)) (k : List Int) : Option D := (kvs.find? fun p => decide (p.1 = k)).map (·.2)
def putT (kvs : List (List Int × D)) (k : List Int) (v : D) : List (List Int × D) := if (lookT kvs k).isSome then kvs.map (fun p => if p.1 = k then (p.1, v) else p) else kvs ++ [(k, v)]
def keyT : D → Option (List Int)
  | .tuple ds => intsOf ds
  | _ => none
def pairsT : List D → Option (List (List Int × D))
  | [] => some []
  | .tuple [k, v] :: r => match keyT k, pairsT r with
    | some ns, some ps => some ((ns, v) :: ps)
    | _, _ => none
  | _ :: _ => none
def mergeT (kvs : List (List Int × D)) : List (List Int × D) := kvs.foldl (fun a p => putT a p.1 p.2) []
def fDictT : List D → Option Ob
  | [.list ds] => (pairsT ds).map fun kvs => .dT (mergeT kvs)
  | _ => none
def toK (ns : List Int) : List Key := ns.map Sum.inl
theorem toK_inj : ∀ {a b : List Int}, toK a = toK b → a = b
  | [], [], _ => rfl
  | [], _ :: _, h => by simp [toK] at h
  | _ :: _, [], h => by simp [toK] at h
  | x :: a, y :: b, h => by
    simp only [toK, List.map_cons, List.cons.injEq] at h
    rw [Sum.inl.inj h.1, toK_inj (a := a) (b := b) h.2]
theorem toK_kV (ns : List Int) : (toK ns).map kV = ns.map V.int := by
  simp [toK, List.map_map]; intro a _; rfl
/-- entries and data -/
def RT (K : KC) (F : Hp) (es : List DEnt) (kvs : List (List Int × D)) : Prop := es.map DEnt.k = kvs.map (fun p => toK p.1) ∧ RpA K F (es.map DEnt.v) (kvs.map (·.2))
section
variable {K : KC} {F : Hp}
theorem RT.cons {e : DEnt} {es : List DEnt} {p : List Int × D} {kvs : List (List Int × D)} (hk : e.k = toK p.1) (hv : Rp K F e.v p.2) (h : RT K F es kvs) : RT K F (e :: es) (p :: kvs) :=
  ⟨by simp [hk, h.1], .cons hv h.2⟩
theorem RT.uncons {e : DEnt} {es : List DEnt} {p : List Int × D} {kvs : List (List Int × D)} (h : RT K F (e :: es) (p :: kvs)) : e.k = toK p.1 ∧ Rp K F e.v p.2 ∧ RT K F es kvs := by
  obtain ⟨h1, h2⟩ := h
  simp only [List.map_cons, List.cons.injEq] at h1
  cases h2 with
  | cons a b => exact ⟨h1.1, a, h1.2, b⟩
theorem RT.len {es : List DEnt} {kvs : List (List Int × D)} (h : RT K F es kvs) : es.length = kvs.length := by
  have := congrArg List.length h.1
  simpa using this
theorem RT.find : ∀ {es : List DEnt} {kvs : List (List Int × D)}, RT K F es kvs → ∀ k, (findE es (toK k)).isSome = (lookT kvs k).isSome ∧ ∀ d, lookT kvs k = some d → ∃ v, findE es (toK k) = some v ∧ Rp K F v d
  | [], [], _, k => ⟨rfl, fun d h => by simp [lookT] at h⟩
  | [], _ :: _, h, _ => by simp [RT] at h
  | _ :: _, [], h, _ => by simp [RT] at h
  | e :: es, p :: kvs, h, k => by
    obtain ⟨h1, h2, h3⟩ := h.uncons
    by_cases hp : p.1 = k
    · have he : e.k = toK k := by rw [h1, hp]
      have a1 : findE (e :: es) (toK k) = some e.v := by simp [findE, List.find?_cons, he]
      have a2 : lookT (p :: kvs) k = some p.2 := by simp [lookT, List.find?_cons, hp]
      rw [a1, a2]
      exact ⟨rfl, fun d hd => by cases hd; exact ⟨_, rfl, h2⟩⟩
    · have he : ¬ e.k = toK k := fun z => hp (toK_inj (h1.symm.trans z))
      have a1 : findE (e :: es) (toK k) = findE es (toK k) := by simp [findE, List.find?_cons, he]
      have a2 : lookT (p :: kvs) k = lookT kvs k := by simp [lookT, List.find?_cons, hp]
      rw [a1, a2]
      exact RT.find h3 k
theorem RT.repl {v : V} {d : D} (hv : Rp K F v d) (k : List Int) : ∀ {es : List DEnt} {kvs : List (List Int × D)}, RT K F es kvs → RT K F (es.map fun e => if e.k = toK k then ⟨e.k, e.b, v⟩ else e) (kvs.map fun p => if p.1 = k then (p.1, d) else p)
  | [], [], h => h
  | [], _ :: _, h => by simp [RT] at h
  | _ :: _, [], h => by simp [RT] at h
  | e :: es, p :: kvs, h => by
    obtain ⟨h1, h2, h3⟩ := h.uncons
    rw [List.map_cons, List.map_cons]
    refine RT.cons ?_ ?_ (RT.repl hv k h3)
    · by_cases hp : p.1 = k
      · rw [if_pos hp, if_pos (by rw [h1, hp])]; exact h1
      · rw [if_neg hp, if_neg (fun z => hp (toK_inj (h1.symm.trans z)))]; exact h1
    · by_cases hp : p.1 = k
      · rw [if_pos hp, if_pos (by rw [h1, hp])]; exact hv
      · rw [if_neg hp, if_neg (fun z => hp (toK_inj (h1.symm.trans z)))]; exact h2
theorem RT.put {es : List DEnt} {kvs : List (List Int × D)} {v : V} {d : D} (h : RT K F es kvs) (k : List Int) (b : Addr) (hv : Rp K F v d) : RT K F (putE es (toK k) b v) (putT kvs k d) := by
  unfold putE putT
  rw [(h.find k).1]
  split
  · exact h.repl hv k
  · refine ⟨by simp [h.1], ?_⟩
    rw [List.map_append, List.map_append]
    exact h.2.append (.cons hv .nil)
theorem putE_keys {es : List DEnt} {k : List Key} {b : Addr} {v : V} {P : Addr → List Key → Prop} (h : ∀ x ∈ es, P x.b x.k) (hb : P b k) : ∀ x ∈ putE es k b v, P x.b x.k := by
  intro x hx
  unfold putE at hx
  split at hx
  · obtain ⟨y, hy, e⟩ := List.mem_map.mp hx
    split at e
    · rw [← e]; exact h y hy
    · rw [← e]; exact h y hy
  · rcases List.mem_append.mp hx with hx | hx
    · exact h x hx
    · simp at hx; rw [hx]; exact hb
theorem keyT_at {H : Hp} {v : V} {d : D} {ns : List Int} (s : Sub F H) (r : Rp K F v d) (h : keyT d = some ns) : ∃ b, v = .ref b ∧ KeyAt H b (toK ns) ∧ KeyAt F b (toK ns) := by
  unfold keyT at h
  split at h
  · rw [intsOf_eq h] at r
    cases r with
    | tup h1 n1 z1 r1 =>
      rw [r1.ints] at h1
      rw [← toK_kV] at h1
      exact ⟨_, rfl, ⟨_, s _ _ h1⟩, ⟨_, h1⟩⟩
  · cases h
end
/-- merging entries -/
def mergeE (l : List DEnt) (acc : List DEnt) : List DEnt := l.foldl (fun a e => putE a e.k e.b e.v) acc
theorem mergeE_rel : ∀ {l : List DEnt} {xs : List (List Key × Addr × Value)} {acc : List DEnt} {ax : List (List Key × Addr × Value)}, Paired DRel l xs → Paired DRel acc ax → Paired DRel (mergeE l acc) (mergedH ax xs)
  | _, _, _, _, .nil, h => h
  | _, _, acc, ax, .cons (a := e) (b := x) h t, k => by
    show Paired DRel (mergeE _ (putE acc e.k e.b e.v)) (mergedH (storedH ax x.1 x.2.1 x.2.2) _)
    refine mergeE_rel t ?_
    rw [← h.1, ← h.2.1]
    exact putE_rel k e.k e.b h.2.2
theorem mergeE_len : ∀ (l acc : List DEnt), (mergeE l acc).length ≤ acc.length + l.length
  | [], acc => Nat.le_refl _
  | e :: l, acc => by
    have h := mergeE_len l (putE acc e.k e.b e.v)
    have h2 := putE_len acc e.k e.b e.v
    show (mergeE l (putE acc e.k e.b e.v)).length ≤ _
    simp only [List.length_cons]
    omega
theorem mergeE_keys {P : Addr → List Key → Prop} : ∀ {l acc : List DEnt}, (∀ x ∈ l, P x.b x.k) → (∀ x ∈ acc, P x.b x.k) → ∀ x ∈ mergeE l acc, P x.b x.k
  | [], _, _, h => h
  | e :: l, acc, h1, h2 => mergeE_keys (l := l) (acc := putE acc e.k e.b e.v) (fun x hx => h1 x (List.mem_cons_of_mem _ hx)) (putE_keys h2 (h1 e List.mem_cons_self))
theorem mergeE_RT {K : KC} {F : Hp} : ∀ {l : List DEnt} {kvs : List (List Int × D)} {acc : List DEnt} {ak : List (List Int × D)}, RT K F l kvs → RT K F acc ak → RT K F (mergeE l acc) (kvs.foldl (fun a p => putT a p.1 p.2) ak)
  | [], [], _, _, _, h => h
  | [], _ :: _, _, _, h, _ => by simp [RT] at h
  | _ :: _, [], _, _, h, _ => by simp [RT] at h
  | e :: l, p :: kvs, acc, ak, h, k => by
    obtain ⟨h1, h2, h3⟩ := h.uncons
    show RT K F (mergeE l (putE acc e.k e.b e.v)) (kvs.foldl (fun a p => putT a p.1 p.2) (putT ak p.1 p.2))
    refine mergeE_RT h3 ?_
    rw [h1]
    exact k.put p.1 e.b h2
section
variable {X : Cx}
/-- dict(l) of a list of pairs (tuple, value) -/
def rDictT (K : PySem.W.Frag) (P : Program) (w : World) : List V → Hp → VK → Prop := fun xs H Q => ∃ (a : Addr) (ps : List Addr) (l : List DEnt), xs = [.ref a] ∧ SqL K H a (ps.map V.ref) ∧ Paired (fun p (e : DEnt) => SqT K H p [.ref e.b, e.v]) ps l ∧ (∀ e ∈ l, KeyAt H e.b e.k) ∧
  ∀ p, H p = none → Q (.ref p) (upd H p (DicO P w p (mergeE l [])))
theorem pairs_ofT {pins : List (Addr × Obj)} {σ : L2.St} {H : Hp} {s : Shared} (I : Inv X pins σ H s) : ∀ {ps : List Addr} {l : List DEnt}, Paired (fun p (e : DEnt) => SqT X.K H p [.ref e.b, e.v]) ps l → (∀ e ∈ l, KeyAt H e.b e.k) →
    ∃ prs : List (List Key × Addr × Value), Paired DRel l prs ∧ prs.length = ps.length ∧ ∀ (j : Nat) (q : List Key × Addr × Value), prs[j]? = some q → ∃ (b : Addr), ps[j]? = some b ∧ IsTup s.heap b #[.ref q.2.1, q.2.2] ∧ (tupleKind (mixKind X.prog X.w)).is s.heap q.1 q.2.1
  | _, _, .nil, _ => ⟨[], .nil, rfl, fun j q e => by simp at e⟩
  | _, _, .cons (a := p) (b := e) h t, hk => by
    obtain ⟨prs, r, hl, hp⟩ := pairs_ofT I t fun x hx => hk x (List.mem_cons_of_mem _ hx)
    obtain ⟨its, rv, ht, _⟩ := I.tuple h
    obtain ⟨u, y, ei, ru, ry⟩ := vals2 rv
    subst ei
    cases ru
    obtain ⟨o, ho⟩ := hk e List.mem_cons_self
    refine ⟨(e.k, e.b, y) :: prs, .cons ⟨rfl, rfl, ry⟩ r, by rw [List.length_cons, List.length_cons, hl], fun j q e' => ?_⟩
    cases j with
    | zero =>
      have e2 : (e.k, e.b, y) = q := Option.some.inj e'
      subst e2
      exact ⟨p, rfl, ht, keyZ I.hok ho⟩
    | succ j =>
      obtain ⟨b, e1, e2, e3⟩ := hp j q (by simpa using e')
      exact ⟨b, by simpa using e1, e2, e3⟩
theorem call_dictT (hcalm : X.calm = true) (hu : X.A.units + 65 < cLine) : CallR X (.type "dict") (rDictT X.K X.prog X.w) := by
  intro pins s σ H xs us Q I r q
  obtain ⟨a, ps, l, ex, hq, hp, hk, q⟩ := q
  subst ex
  obtain ⟨u, eu, rx⟩ := vals1 r
  subst eu
  cases rx
  obtain ⟨its, rv, pl, hz⟩ := I.list hq
  have ei := refs_at rv
  subst ei
  rw [List.length_map] at hz
  obtain ⟨prs, rel, hl, hpr⟩ := pairs_ofT I hp hk
  obtain ⟨o, n, ho, hc, hd, hdat⟩ := pl
  refine call_dict_pairsT (prs := prs) (I.ok.hd hcalm) (by omega) ho hc hd hdat (by simp [hl]) (by rw [hl]; exact hz) (fun j q' e => ?_) fun h' tk hd' k => ?_
  · obtain ⟨b, e1, e2, e3⟩ := hpr j q' e
    exact ⟨b, by simp [e1], e2, e3⟩
  · have hm : (s.heap.objs.size == sysModules) = false := beq_eq_false_iff_ne.mpr (Nat.ne_of_gt I.big)
    have hlen : (mergeE l []).length ≤ sizeLine := by
      refine Nat.le_trans (mergeE_len l []) ?_
      rw [List.length_nil, Nat.zero_add, Paired.length rel, hl]
      exact hz
    obtain ⟨o', es', ep, h1, h2, h3, h4, _, h6⟩ := hd'
    exact ⟨.ref s.heap.objs.size, upd H s.heap.objs.size (DicO X.prog X.w s.heap.objs.size (mergeE l [])), I.laid (t' := tk) k (Nat.le_refl _) (dicAt_ok ⟨hlen, hm, mergedH [] prs, mergeE_rel rel .nil, o', es', ep, h1, h2, h3, h4, h6⟩), rfl, q _ (I.hok.fresh (Nat.le_refl _))⟩
end
/-- a list of pairs of data, taken apart -/
theorem pairsT_at {K : KC} {F H : Hp} (s : Sub F H) : ∀ {ds : List D} {vs : List V} {kvs : List (List Int × D)}, RpA K F vs ds → pairsT ds = some kvs →
    ∃ (ps : List Addr) (l : List DEnt), vs = ps.map V.ref ∧ Paired (fun p (e : DEnt) => SqT K.K H p [.ref e.b, e.v]) ps l ∧ (∀ e ∈ l, KeyAt H e.b e.k) ∧ (∀ e ∈ l, KeyAt F e.b e.k) ∧ RT K F l kvs
  | [], _, kvs, r, h => by
    cases r
    simp [pairsT] at h
    subst h
    exact ⟨[], [], rfl, .nil, fun _ z => absurd z (by simp), fun _ z => absurd z (by simp), rfl, .nil⟩
  | d :: ds, _, kvs, r, h => by
    cases r with
    | cons r1 r2 =>
    rename_i v vs
    unfold pairsT at h
    split at h
    · rename_i heq; cases heq
    · rename_i k v' rr heq
      cases heq
      split at h
      · rename_i ns ps e1 e2
        cases h
        obtain ⟨ps', l, rfl, hp, hk, hkF, hrt⟩ := pairsT_at s r2 e2
        cases r1 with
        | tup h1 n1 z1 rr =>
        rename_i p o xs
        obtain ⟨v1, v2, rfl, q1, q2⟩ := rp2 rr
        obtain ⟨b, rfl, kH, kF⟩ := keyT_at s q1 e1
        exact ⟨p :: ps', ⟨toK ns, b, v2⟩ :: l, rfl, .cons (.inl (.inr ⟨_, s _ _ h1⟩)) hp, fun e he => by
          rcases List.mem_cons.mp he with rfl | he
          · exact kH
          · exact hk e he, fun e he => by
          rcases List.mem_cons.mp he with rfl | he
          · exact kF
          · exact hkF e he, RT.cons rfl q2 hrt⟩
      · cases h
    · cases h
section
variable {g : GC} {s : SS} {k : Nat} {W : WX} {pin : List Nat} {X : Cx} {pos p px : Pos} {a b e : Expr} {ma mb : M D} {na : M (List D)}
theorem dl_dictT (ok : Ok g s k W X) (bf : BF g) (ha : DA g W X [a] na) (hg : gloB s.sc "dict" = true := by decide +kernel) (hs : starEach [a] X.env = [(false, eval a X.env)] := by rfl) : DL g W X (.Call (.Name "dict" p) [a] [] pos) (mAppL fDictT na) :=
  dl_callT ok (call_dictT ok.calm ok.units) (fun F H xs ds z Q s rx h q => by
    unfold fDictT at h
    split at h
    · rename_i ds'
      obtain ⟨v, rfl, r⟩ := rp1 rx
      cases r with
      | lst h1 z1 r1 =>
      cases ep : pairsT ds' with
      | none => rw [ep] at h; cases h
      | some kvs =>
      rw [ep] at h
      cases h
      obtain ⟨ps, l, rfl, hp, hk, hkF, hrt⟩ := pairsT_at s r1 ep
      refine ⟨_, ps, l, rfl, by rw [ok.hK]; exact (h1.mono s).sq, by rw [ok.hK]; exact hp, hk, fun p np => ?_⟩
      have m0 : RT g.K F (mergeE l []) (mergeT kvs) := mergeE_RT hrt ⟨rfl, .nil⟩
      refine q p F _ (Grow.made s np) np (s.nn np) ⟨mergeE l [], ?_, fun x hx => mergeE_keys (P := fun b k => ∃ o, F b = some (.frz o (.tup (k.map kV)))) hkF (fun _ z => absurd z (by simp)) x hx, m0.1, m0.2⟩
      rw [upd_same, ok.hP, ok.hw]
    · cases h) bf.dict (by decide +kernel) ha hg (he := hs)
def ownT (ρ : Rho) (i : Nat) : Option (List (List Int × D)) := match ρ[i]? with
  | some (.own (.dT kvs)) => some kvs
  | _ => none
theorem ownT_of {ρ : Rho} {i : Nat} {kvs : List (List Int × D)} (h : ownT ρ i = some kvs) : ρ[i]? = some (.own (.dT kvs)) := by
  unfold ownT at h
  split at h
  · cases h; assumption
  · cases h
def mInT (neg : Bool) (ma : M D) (i : Nat) : M D := fun ρ => bnd (ma ρ) fun d ρ1 => match keyT d, ownT ρ1 i with
  | some ns, some kvs => .ok (.bool (xor neg (lookT kvs ns).isSome)) ρ1
  | _, _ => .bad
theorem sim_inT {K : KC} {mg : Str → Option Value} {neg : Bool} {ta : TE} {ma : M D} {i : Nat} (ha : SimE K mg W ta ma) : SimE K mg W (tOp (rInT K.P K.w neg) ta (tVar i)) (mInT neg ma i) := by
  intro B F H σ ρ Q E h
  refine ha.then (R := PoE K mg W B F σ Q) E (fun x ρ' z => z) (fun z => z) h fun d ρ1 v F1 H1 g1 E1 r1 h1 => ?_
  have h1 := PoE.later g1 h1
  cases ek : keyT d with
  | none => rw [ek] at h1; exact h1.elim
  | some ns =>
  cases eo : ownT ρ1 i with
  | none => rw [ek, eo] at h1; exact h1.elim
  | some kvs =>
  rw [ek, eo] at h1
  obtain ⟨q, a1, a2, a3, es, a4, a5, a6, a7⟩ := E1.own i _ (ownT_of eo)
  obtain ⟨b, rfl, kH, _⟩ := keyT_at E1.sub r1 ek
  refine ⟨.ref q, a1, q, b, es, toK ns, rfl, rfl, kH, ⟨a4, fun x hx => (a5 x hx).imp fun o ho => E1.sub _ _ ho⟩, ?_⟩
  have rt : RT K F1 es kvs := ⟨a6, a7⟩
  rw [(rt.find ns).1]
  exact h1 _ F1 H1 Gr.refl E1 (.bl _)
theorem dm_inT (ok : Ok g s k W X) (ha : DM g W X a ma) (i : Nat) {x : Str} (sl : Sl s i x) : DM g W X (.Compare a [.In] [.Name x px] pos) (mInT false ma i) := by
  obtain ⟨ta, pa, sa⟩ := ha
  refine ⟨_, pe_cmpR (op_inT ok.units) pa (sl.pe ok) rfl, ?_⟩
  rw [ok.hP, ok.hw]
  exact sim_inT sa
theorem dm_notinT (ok : Ok g s k W X) (ha : DM g W X a ma) (i : Nat) {x : Str} (sl : Sl s i x) : DM g W X (.Compare a [.NotIn] [.Name x px] pos) (mInT true ma i) := by
  obtain ⟨ta, pa, sa⟩ := ha
  refine ⟨_, pe_cmpR (op_notInT ok.units) pa (sl.pe ok) rfl, ?_⟩
  rw [ok.hP, ok.hw]
  exact sim_inT sa
theorem dt_inT (ok : Ok g s k W X) (ha : DM g W X a ma) (i : Nat) {x : Str} (sl : Sl s i x) : DT g W X (.Compare a [.In] [.Name x px] pos) (asB (mInT false ma i)) := by
  obtain ⟨ta, pa, sa⟩ := ha
  refine ⟨_, pt_cmpR (op_inT ok.units) pa (sl.pe ok) rfl, ?_⟩
  rw [ok.hP, ok.hw]
  exact (sim_inT sa).test
theorem dt_notinT (ok : Ok g s k W X) (ha : DM g W X a ma) (i : Nat) {x : Str} (sl : Sl s i x) : DT g W X (.Compare a [.NotIn] [.Name x px] pos) (asB (mInT true ma i)) := by
  obtain ⟨ta, pa, sa⟩ := ha
  refine ⟨_, pt_cmpR (op_notInT ok.units) pa (sl.pe ok) rfl, ?_⟩
  rw [ok.hP, ok.hw]
  exact (sim_inT sa).test
/-! d[k] = e -/
def sPutT (i : Nat) (mk : M D) (me : M D) : MS := fun ρ => sBnd (me ρ) fun d ρ1 => (match ownT ρ1 i with
  | some _ => sBnd (mk ρ1) fun kd ρ2 => (match keyT kd, ownT ρ2 i with
    | some ns, some kvs => if kvs.length < sizeLine then .next (ρ2.set i (.own (.dT (putT kvs ns d)))) else .bad
    | _, _ => .bad)
  | none => .bad)
theorem ds_putT (ok : Ok g s k W X) (i : Nat) {x : Str} (sl : Sl s i x) (hk : DM g W X b mb) (he : DM g W X e ma)
    (ha : ∀ v, assign (.Subscript (.Name x px) b p) X.env v = (do
      let ov ← holding [v] (eval (.Name x px) X.env)
      let iv ← holding [v, ov] (eval b X.env)
      standAt p
      holding [v, ov, iv] (setItem ov iv v)
      release [v, ov, iv] []) := by intro _; rfl)
    (hs : swapsWithSole [.Subscript (.Name x px) b p] e pos.line X.env = pure false := by rfl) (hw : swappedStores [.Subscript (.Name x px) b p] e X.env = pure none := by rfl) (h1 : (assignEach [.Subscript (.Name x px) b p] X.env).map (·.2) = [assign (.Subscript (.Name x px) b p) X.env] := by rfl) :
    DS g W pin X (.Assign [.Subscript (.Name x px) b p] e pos) (sPutT i mb ma) := by
  obtain ⟨tj, pj, sj⟩ := hk
  obtain ⟨te, pe, se⟩ := he
  refine ⟨_, ps_asg pe (pg_sub (sl.pe ok) pj (set_T ok.units) ha) hs hw h1, fun B F H σ ρ D E h => ?_⟩
  refine se.thenS E h fun d ρ1 v F1 H1 g1 E1 r1 h1 => ?_
  cases e1 : ownT ρ1 i with
  | none => rw [e1] at h1; exact h1.elim
  | some kv0 =>
  rw [e1] at h1
  simp only at h1
  obtain ⟨q, hq, _⟩ := E1.own i _ (ownT_of e1)
  refine ⟨.ref q, hq, ?_⟩
  refine sj.thenS E1 h1 fun kd ρ2 w F2 H2 g2 E2 r2 h2 => ?_
  cases ek : keyT kd with
  | none => rw [ek] at h2; exact h2.elim
  | some ns =>
  cases e2 : ownT ρ2 i with
  | none => rw [ek, e2] at h2; exact h2.elim
  | some kvs =>
  rw [ek, e2] at h2
  simp only at h2
  obtain ⟨q', a1, a2, a3, es, a4, a5, a6, a7⟩ := E2.own i _ (ownT_of e2)
  rw [hq] at a1; cases a1
  have rt : RT g.K F2 es kvs := ⟨a6, a7⟩
  obtain ⟨b, rfl, kH, kF⟩ := keyT_at E2.sub r2 ek
  by_cases hz : kvs.length < sizeLine
  · rw [if_pos hz] at h2
    have rt2 := rt.put ns b (r1.mono g2.sub)
    refine ⟨q, b, es, toK ns, rfl, rfl, kH, ⟨by rw [ok.hP, ok.hw]; exact a4, fun x hx => (a5 x hx).imp fun o ho => E2.sub _ _ ho⟩, by rw [rt.len]; exact hz, ?_⟩
    refine h2 F2 _ σ Gr.refl Kp.refl (E2.write (ownT_of e2) hq ⟨putE es (toK ns) b v, ?_, fun x hx => putE_keys (P := fun b k => ∃ o, F2 b = some (.frz o (.tup (k.map kV)))) a5 kF x hx, rt2.1, rt2.2⟩)
    rw [upd_same, ok.hP, ok.hw]
  · rw [if_neg hz] at h2; exact h2.elim
end
end DX

set_option maxHeartbeats 1000000
namespace DX
open PySem PySem.Spec PyProof.Rows L2

def dedupI (ns : List Int) : List Int := ns.foldl step_dedup []
theorem range_getD (ns : List Int) : (List.range ns.length).map (fun i => ns.getD i 0) = ns := by
  apply List.ext_getElem?
  intro i
  rw [List.getElem?_map]
  by_cases hi : i < ns.length
  · rw [List.getElem?_range hi]; simp [hi]
  · rw [List.getElem?_eq_none (by simpa using hi), List.getElem?_eq_none (by omega)]; rfl
theorem firstMet_all (ns : List Int) : firstMet (fun i => ns.getD i 0) ns.length = dedupI ns := by
  unfold firstMet dedupI
  rw [range_getD]
theorem dedupI_len (ns : List Int) : (dedupI ns).length ≤ ns.length := by
  rw [← firstMet_all]; exact firstMet_length_le _ _
theorem intsAre_vals : ∀ {ns : List Int} {us : List Value}, Vals (ns.map V.int) us → PyProof.Rows.IntsAre us ns
  | [], _, .nil => .nil
  | n :: ns, _, .cons r t => by
    obtain ⟨k, rfl⟩ := r
    exact .cons n k (intsAre_vals t)
section
variable {X : Cx}
def tLenS (K : PySem.W.Frag) (ta : TE) : TE := fun σ H Q => ta σ H fun x H1 => ∃ (l : Addr) (ns : List Int), x = .ref l ∧ SqL K H1 l (ns.map V.int) ∧ ns.length ≤ 4000 ∧ Q (.int ((dedupI ns).length : Nat)) H1
theorem pe_lenS {a : Expr} {ta : TE} {p p2 q pos : Pos} (hg : Gl X "len") (hm : X.mg "len" = none) (hg2 : Gl X "set") (hm2 : X.mg "set" = none) (ha : PE X a ta) (hc : X.calm = true)
    (na : starEach [a] X.env = (false, eval a X.env) :: starEach [] X.env := by rfl) : PE X (.Call (.Name "len" p) [.Call (.Name "set" p2) [a] [] q] [] pos) (tLenS X.K ta) := by
  refine ⟨fun pins s σ H Q I h => ?_⟩
  refine Call_ (ld_blt I hg hm boot_len ?_)
  refine PyProof.Rows.callWith_builtin1 (PyProof.Rows.args_cons ?_ rfl) rfl rfl
  refine Call_ (ld_blt I hg2 hm2 boot_set ?_)
  refine PyProof.Rows.callWith_type1 (PyProof.Rows.args_cons (thn (ha.run pins s σ H _ I h) fun v s1 ⟨x, H1, I1, r1, q1⟩ => PyProof.Rows.args_nil ?_) na) na rfl
  obtain ⟨l, ns, rfl, hq, hl, q1⟩ := q1
  cases r1
  obtain ⟨its, r, pl, hz⟩ := I1.list hq
  have hlen : its.toArray.size = ns.length := by rw [List.size_toArray, ← r.length, List.length_map]
  refine call_set_list (I1.ok.hd hc) pl.isList (by simpa using intsAre_vals r) (by rw [hlen]; unfold scanBound; omega) fun h' tk hS hk => ?_
  refine PyProof.Rows.args_nil ?_
  rw [hlen, firstMet_all] at hS
  obtain ⟨o, es, ep, t, ho, hex, hd, _, _, _, hf, hn⟩ := hS
  have I2 : Inv X pins σ H1 { s1 with heap := h', toks := tk } := I1.kept fun b o e => hk b o (Heap.lt_size e) e
  have hle := dedupI_len ns
  exact call_len_set ho hex hd hf (by rw [hn] <;> omega) ⟨.int (dedupI ns).length, H1, I2.tok _, ⟨_, by rw [hn]⟩, q1⟩
end
def fLenS : D → Option D
  | .list ds => match intsOf ds with
    | some ns => if ns.length ≤ 4000 then some (.int ((dedupI ns).length : Nat)) else none
    | none => none
  | _ => none
section
variable {g : GC} {s : SS} {k : Nat} {W : WX} {X : Cx} {pos p p2 q : Pos} {a : Expr} {ma : M D}
theorem dm_lenS (ok : Ok g s k W X) (bf : BF g) (ha : DM g W X a ma) (hg : gloB s.sc "len" = true := by decide +kernel) (hg2 : gloB s.sc "set" = true := by decide +kernel) (hs : starEach [a] X.env = (false, eval a X.env) :: starEach [] X.env := by rfl) :
    DM g W X (.Call (.Name "len" p) [.Call (.Name "set" p2) [a] [] q] [] pos) (mUn fLenS ma) := by
  obtain ⟨t, pt, st⟩ := ha
  refine ⟨_, pe_lenS (ok.glo hg) (by rw [ok.hmg]; exact bf.len) (ok.glo hg2) (by rw [ok.hmg]; exact bf.set) pt ok.calm hs, ?_⟩
  refine SimE.un (r := fun x H1 Q => ∃ (l : Addr) (ns : List Int), x = .ref l ∧ SqL X.K H1 l (ns.map V.int) ∧ ns.length ≤ 4000 ∧ Q (.int ((dedupI ns).length : Nat)) H1) ?_ st
  intro F H x d z Q s rx h q
  unfold fLenS at h
  split at h
  · split at h
    · rename_i ds ns e
      split at h
      · cases h
        rw [intsOf_eq e] at rx
        cases rx with
        | lst h1 z1 r1 =>
        rw [r1.ints] at h1
        exact ⟨_, ns, rfl, by first | exact (h1.mono s).sq | (rw [ok.hK]; exact (h1.mono s).sq), by assumption, gz s q (.int _)⟩
      · cases h
    · cases h
  · cases h
end
end DX

set_option maxHeartbeats 1000000
namespace DX
open PySem PySem.Spec PyProof.Rows L2
/-! ### a walk over a list or a tuple -/
section
variable {X : Cx} {tg : Expr}
def iSeqT (K : PySem.W.Frag) (tl : TE) : TI := fun σ H R => tl σ H fun x H1 => ∃ a, x = .ref a ∧ (((∃ xs, SqL K H1 a xs) ∧ R (Itl K a) H1) ∨ ((∃ xs, SqT K H1 a xs) ∧ R (Itt K a) H1))
theorem pi_seq {l : Expr} {tl : TE} (hl : PE X l tl) : PI X tg l (iSeqT X.K tl) := by
  refine ⟨fun pins s σ H R I h => ?_⟩
  refine thn (hl.run pins s σ H _ I h) fun v s1 ⟨x, H1, I1, r1, q1⟩ => ?_
  obtain ⟨a, e, q⟩ := q1
  subst e
  cases r1
  rcases q with ⟨⟨xs, hq⟩, q⟩ | ⟨⟨xs, hq⟩, q⟩
  · obtain ⟨its, rv, p, hz⟩ := I1.list hq
    refine wpAny_pyIter_list p.isList ?_
    refine ⟨s1.heap.objs.size, [s1.heap.objs.size], _, _, H1, rfl, I1.kept (t' := s1.toks) fun b o e => Heap.get?_push_of_some _ e, turn_list a _, ⟨_, Heap.get?_push_size _ rfl, rfl, rfl⟩, fun b hb => ?_, q⟩
    have e : b = s1.heap.objs.size := by simpa using hb
    subst e
    exact I1.fpOk (Nat.le_refl _) (I1.hok.fresh (Nat.le_refl _))
  · obtain ⟨its, rv, p, hz⟩ := I1.tuple hq
    refine wpAny_pyIter_tuple (show s1.heap.IsTuple a its.toArray from p) ?_
    refine ⟨s1.heap.objs.size, [s1.heap.objs.size], _, _, H1, rfl, I1.kept (t' := s1.toks) fun b o e => Heap.get?_push_of_some _ e, turn_tuple a _, ⟨_, Heap.get?_push_size _ rfl, rfl, rfl⟩, fun b hb => ?_, q⟩
    have e : b = s1.heap.objs.size := by simpa using hb
    subst e
    exact I1.fpOk (Nat.le_refl _) (I1.hok.fresh (Nat.le_refl _))
end
def iSeq (m : M D) : M (List D) := fun ρ => bnd (m ρ) fun d ρ1 => lft (seqD d) ρ1
section
variable {g : GC} {s : SS} {k : Nat} {W : WX} {pin : List Nat} {X : Cx} {pos : Pos} {lo : Bool}
theorem di_seq (ok : Ok g s k W X) {tg l : Expr} {m : M D} (h : DM g W X l m) : DI lo g W X tg l (iSeq m) := by
  obtain ⟨t, p, q⟩ := h
  refine ⟨_, pi_seq p, fun B F H σ ρ R E h => ?_⟩
  refine q B F H σ ρ _ E ?_
  unfold iSeq at h
  cases e : m ρ with
  | bad => rw [e] at h; exact h
  | exc x ρ1 => rw [e] at h; exact h
  | ok d ρ1 =>
    rw [e] at h
    intro v F' H' g' E' r
    cases r <;> first
      | exact False.elim h
      | skip
    · rename_i h1 z1 r1
      exact ⟨_, rfl, .inl ⟨⟨_, by rw [ok.hK]; exact (h1.mono E'.sub).sq⟩, h _ F' H' g' E' (by rw [ok.hK]; exact itr_list h1 r1 lo)⟩⟩
    · rename_i h1 n1 z1 r1
      exact ⟨_, rfl, .inr ⟨⟨_, .inl (.inr ⟨_, E'.sub _ _ h1⟩)⟩, h _ F' H' g' E' (itr_tup (.inr ⟨_, h1⟩) r1 lo)⟩⟩
end
end DX

set_option maxHeartbeats 1000000
namespace DX
open PySem PySem.Spec PyProof.Rows L2

/-! ### a op b op c op d -/
section
variable {X : Cx} {pos : Pos} {a b c d : Expr} {ta tb tc td : TE}
def tCh3 (r1 r2 r3 : R2) (ta tb tc td : TE) : TE := fun σ H Q => ta σ H fun x H1 => tb σ H1 fun y H2 => r1 x y H2 fun z H3 => ∃ k, z = .bl k ∧
  (if k = true then tc σ H3 fun w H4 => r2 y w H4 fun z2 H5 => ∃ k2, z2 = .bl k2 ∧ (if k2 = true then td σ H5 fun u H6 => r3 w u H6 Q else Q (.bl false) H5) else Q (.bl false) H3)
theorem pe_ch3 {o1 o2 o3 : CmpOp} {r1 r2 r3 : R2} (h1 : OpR X (compareOp o1) r1) (h2 : OpR X (compareOp o2) r2) (h3 : OpR X (compareOp o3) r3) (ha : PE X a ta) (hb : PE X b tb) (hc : PE X c tc) (hd : PE X d td)
    (hm : lastMarks [o1, o2, o3] [b, c, d] = false := by with_unfolding_all rfl) : PE X (.Compare a [o1, o2, o3] [b, c, d] pos) (tCh3 r1 r2 r3 ta tb tc td) := by
  refine ⟨fun pins s σ H Q I h => ?_⟩
  refine Compare_chain (thn (ha.run pins s σ H _ I h) fun v s1 ⟨x, H1, I1, rr1, q1⟩ => chain_link (thn (hb.run pins s1 σ H1 _ I1 q1) fun u s2 ⟨y, H2, I2, rr2, q2⟩ =>
    thn (h1 pins s2 σ H2 x y v u _ I2 rr1 rr2 q2) fun e s3 ⟨z, H3, I3, rr3, k, ee, q3⟩ => ?_)) hm
  subst ee
  cases rr3
  refine wpAny_truthy_bool ?_
  cases k with
  | false => exact ite_ff ⟨.bl false, H3, I3, rfl, q3⟩
  | true =>
    refine ite_tt (chain_link (thn (hc.run pins s3 σ H3 _ I3 q3) fun w s4 ⟨z', H4, I4, r4, q4⟩ => thn (h2 pins s4 σ H4 y z' u w _ I4 rr2 r4 q4) fun e2 s5 ⟨z2, H5, I5, r5, k2, ee2, q5⟩ => ?_))
    subst ee2
    cases r5
    refine wpAny_truthy_bool ?_
    cases k2 with
    | false => exact ite_ff ⟨.bl false, H5, I5, rfl, q5⟩
    | true => exact ite_tt (chain_last (thn (hd.run pins s5 σ H5 _ I5 q5) fun w2 s6 ⟨z3, H6, I6, r6, q6⟩ => h3 pins s6 σ H6 z' z3 w w2 Q I6 r4 r6 q6))
theorem pt_ch3 {o1 o2 o3 : CmpOp} {r1 r2 r3 : R2} (h1 : OpR X (compareOp o1) r1) (h2 : OpR X (compareOp o2) r2) (h3 : OpR X (compareOp o3) r3) (ha : PE X a ta) (hb : PE X b tb) (hc : PE X c tc) (hd : PE X d td)
    (hm : lastMarks [o1, o2, o3] [b, c, d] = false := by with_unfolding_all rfl) : PT X (.Compare a [o1, o2, o3] [b, c, d] pos) (tTest (tCh3 r1 r2 r3 ta tb tc td)) := by
  refine ⟨fun pins s σ H Q I h => ?_⟩
  refine isTrue_chain (thn (ha.run pins s σ H _ I h) fun v s1 ⟨x, H1, I1, rr1, q1⟩ => test_link (thn (hb.run pins s1 σ H1 _ I1 q1) fun u s2 ⟨y, H2, I2, rr2, q2⟩ =>
    thn (h1 pins s2 σ H2 x y v u _ I2 rr1 rr2 q2) fun e s3 ⟨z, H3, I3, rr3, k, ee, q3⟩ => ?_)) hm
  subst ee
  cases rr3
  refine wpAny_truthy_bool ?_
  cases k with
  | false => obtain ⟨k', e', q'⟩ := q3; cases e'; exact ite_ff ⟨H3, I3, q'⟩
  | true =>
    refine ite_tt (test_link (thn (hc.run pins s3 σ H3 _ I3 q3) fun w s4 ⟨z', H4, I4, r4, q4⟩ => thn (h2 pins s4 σ H4 y z' u w _ I4 rr2 r4 q4) fun e2 s5 ⟨z2, H5, I5, r5, k2, ee2, q5⟩ => ?_))
    subst ee2
    cases r5
    refine wpAny_truthy_bool ?_
    cases k2 with
    | false => obtain ⟨k', e', q'⟩ := q5; cases e'; exact ite_ff ⟨H5, I5, q'⟩
    | true =>
      refine ite_tt (test_last (thn (hd.run pins s5 σ H5 _ I5 q5) fun w2 s6 ⟨z3, H6, I6, r6, q6⟩ => thn (h3 pins s6 σ H6 z' z3 w w2 _ I6 r4 r6 q6) fun d' s7 ⟨z4, H7, I7, r7, k3, e3, q7⟩ => ?_))
      subst e3
      cases r7
      exact wpAny_truthy_bool ⟨H7, I7, q7⟩
end
def mCh3 (f1 f2 f3 : D → D → Option D) (ma mb mc md : M D) : M D := fun ρ => bnd (ma ρ) fun x ρ1 => bnd (mb ρ1) fun y ρ2 => match f1 x y with
  | some (.bool true) => bnd (mc ρ2) fun z ρ3 => (match f2 y z with
    | some (.bool true) => bnd (md ρ3) fun w ρ4 => lft (f3 z w) ρ4
    | some (.bool false) => .ok (.bool false) ρ3
    | _ => .bad)
  | some (.bool false) => .ok (.bool false) ρ2
  | _ => .bad
theorem SimE.ch3 {K : KC} {mg : Str → Option Value} {W : WX} {r1 r2 r3 : R2} {f1 f2 f3 : D → D → Option D} {ta tb tc td : TE} {ma mb mc md : M D} (hr1 : RV2 K r1 f1) (hr2 : RV2 K r2 f2) (hr3 : RV2 K r3 f3) (ha : SimE K mg W ta ma) (hb : SimE K mg W tb mb) (hc : SimE K mg W tc mc) (hd : SimE K mg W td md) :
    SimE K mg W (tCh3 r1 r2 r3 ta tb tc td) (mCh3 f1 f2 f3 ma mb mc md) := by
  intro B F H σ ρ Q E h
  refine ha.then (R := PoE K mg W B F σ Q) E (fun x ρ' z => z) (fun z => z) h fun x ρ1 v F1 H1 g1 E1 r1 h1 => ?_
  refine hb.then (R := PoE K mg W B F1 σ Q) E1 (fun x ρ' z => z) (fun z => z) (h1.later g1) fun y ρ2 u F2 H2 g2 E2 r2 h2 => ?_
  have h2 := PoE.later g2 h2
  split at h2
  · rename_i ez
    refine hr1 F2 H2 v u x y _ _ E2.sub (r1.mono g2.sub) r2 ez fun z F3 H3 gw rz => ?_
    cases rz
    refine ⟨true, rfl, ?_⟩
    rw [if_pos rfl]
    have E3 := E2.grow gw
    have g3 := gw.gr E2.subB
    refine hc.then (R := PoE K mg W B F3 σ Q) E3 (fun x ρ' z => z) (fun z => z) (h2.later g3) fun w ρ3 t F4 H4 g4 E4 r4 h4 => ?_
    have h4 := PoE.later g4 h4
    have ry4 := (r2.mono gw.subF).mono g4.sub
    split at h4
    · rename_i ez2
      refine hr2 F4 H4 u t y w _ _ E4.sub ry4 r4 ez2 fun z F5 H5 gw5 rz => ?_
      cases rz
      refine ⟨true, rfl, ?_⟩
      rw [if_pos rfl]
      have E5 := E4.grow gw5
      have g5 := gw5.gr E4.subB
      refine hd.then (R := PoE K mg W B F5 σ Q) E5 (fun x ρ' z => z) (fun z => z) (h4.later g5) fun o ρ5 p F6 H6 g6 E6 r6 h6 => ?_
      cases ew : f3 w o with
      | none => rw [ew] at h6; exact h6.elim
      | some oo =>
        rw [ew] at h6
        exact hr3 F6 H6 t p w o oo Q E6.sub ((r4.mono gw5.subF).mono g6.sub) r6 ew fun q F' H' gw' rq => (PoE.later g6 h6) q F' H' (gw'.gr E6.subB) (E6.grow gw') rq
    · rename_i ez2
      refine hr2 F4 H4 u t y w _ _ E4.sub ry4 r4 ez2 fun z F5 H5 gw5 rz => ?_
      cases rz
      refine ⟨false, rfl, ?_⟩
      rw [if_neg (by decide)]
      exact h4 _ F5 H5 (gw5.gr E4.subB) (E4.grow gw5) (.bl false)
    · exact h4.elim
  · rename_i ez
    refine hr1 F2 H2 v u x y _ _ E2.sub (r1.mono g2.sub) r2 ez fun z F3 H3 gw rz => ?_
    cases rz
    refine ⟨false, rfl, ?_⟩
    rw [if_neg (by decide)]
    exact h2 _ F3 H3 (gw.gr E2.subB) (E2.grow gw) (.bl false)
  · exact h2.elim
section
variable {g : GC} {s : SS} {k : Nat} {W : WX} {pin : List Nat} {X : Cx} {pos p : Pos} {a b c d e : Expr} {es : List Expr} {ma mb mc md : M D} {na : M (List D)}
theorem dm_ch3 {o1 o2 o3 : CmpOp} {f1 f2 f3 : D → D → Option D} (h1 : CmpR g X o1 f1) (h2 : CmpR g X o2 f2) (h3 : CmpR g X o3 f3) (ha : DM g W X a ma) (hb : DM g W X b mb) (hc : DM g W X c mc) (hd : DM g W X d md) (hm : lastMarks [o1, o2, o3] [b, c, d] = false := by with_unfolding_all rfl) :
    DM g W X (.Compare a [o1, o2, o3] [b, c, d] pos) (mCh3 f1 f2 f3 ma mb mc md) := by
  obtain ⟨r1, ho1, hr1⟩ := h1.ex
  obtain ⟨r2, ho2, hr2⟩ := h2.ex
  obtain ⟨r3, ho3, hr3⟩ := h3.ex
  obtain ⟨ta, pa, sa⟩ := ha
  obtain ⟨tb, pb, sb⟩ := hb
  obtain ⟨tc, pc, sc⟩ := hc
  obtain ⟨td, pd, sd⟩ := hd
  exact ⟨_, pe_ch3 ho1 ho2 ho3 pa pb pc pd hm, SimE.ch3 hr1 hr2 hr3 sa sb sc sd⟩
theorem dt_ch3 {o1 o2 o3 : CmpOp} {f1 f2 f3 : D → D → Option D} (h1 : CmpR g X o1 f1) (h2 : CmpR g X o2 f2) (h3 : CmpR g X o3 f3) (ha : DM g W X a ma) (hb : DM g W X b mb) (hc : DM g W X c mc) (hd : DM g W X d md) (hm : lastMarks [o1, o2, o3] [b, c, d] = false := by with_unfolding_all rfl) :
    DT g W X (.Compare a [o1, o2, o3] [b, c, d] pos) (asB (mCh3 f1 f2 f3 ma mb mc md)) := by
  obtain ⟨r1, ho1, hr1⟩ := h1.ex
  obtain ⟨r2, ho2, hr2⟩ := h2.ex
  obtain ⟨r3, ho3, hr3⟩ := h3.ex
  obtain ⟨ta, pa, sa⟩ := ha
  obtain ⟨tb, pb, sb⟩ := hb
  obtain ⟨tc, pc, sc⟩ := hc
  obtain ⟨td, pd, sd⟩ := hd
  exact ⟨_, pt_ch3 ho1 ho2 ho3 pa pb pc pd hm, (SimE.ch3 hr1 hr2 hr3 sa sb sc sd).test⟩

/-! ### a new list times an int -/
theorem RpA.flat {K : KC} {F : Hp} {vs : List V} {ds : List D} (h : RpA K F vs ds) : ∀ n : Nat, RpA K F (List.replicate n vs).flatten (List.replicate n ds).flatten
  | 0 => .nil
  | n + 1 => by
    rw [List.replicate_succ, List.replicate_succ, List.flatten_cons, List.flatten_cons]
    exact h.append (RpA.flat h n)
def repO (o : Ob) (d : D) (ρ : Rho) : MR Ob := match o, d with
  | .lst ds, .int n => if -(2 ^ 63) ≤ n ∧ n < 2 ^ 63 ∧ ds.length * n.toNat ≤ sizeLine then .ok (.lst (List.replicate n.toNat ds).flatten) ρ else .bad
  | _, _ => .bad
def mRep (mo : M Ob) (mb : M D) : M Ob := fun ρ => bnd (mo ρ) fun o ρ1 => bnd (mb ρ1) fun d ρ2 => repO o d ρ2
theorem flat_len {α : Type} (l : List α) : ∀ n : Nat, (List.replicate n l).flatten.length = l.length * n
  | 0 => rfl
  | n + 1 => by rw [List.replicate_succ, List.flatten_cons, List.length_append, flat_len l n, Nat.mul_succ]; omega
theorem dl_rep {mo : M Ob} (ha : DL g W X a mo) (hb : DM g W X b mb) : DL g W X (.BinOp a .Mult b pos) (mRep mo mb) := by
  obtain ⟨ta, pa, sa⟩ := ha
  obtain ⟨tb, pb, sb⟩ := hb
  refine ⟨_, pe_op op_rep pa pb, fun B F H σ ρ Q E h => ?_⟩
  refine sa B F H σ ρ _ E ?_
  unfold mRep at h
  cases e0 : mo ρ with
  | bad => rw [e0] at h; exact h
  | exc x ρ1 => rw [e0] at h; exact h
  | ok o ρ1 =>
  rw [e0] at h
  simp only [bnd_ok] at h
  intro q F1 H1 g1 E1 nF nB hO hq
  have h := PoL.later g1 h
  obtain ⟨u, hu⟩ := hO.ex
  have E1' := E1.addB hu hq
  refine sb (upd B q u) F1 H1 σ ρ1 _ E1' ?_
  cases e1 : mb ρ1 with
  | bad => rw [e1] at h; exact h
  | exc x ρ2 => rw [e1] at h; exact fun C F' H' ee gg EE => h C F' H' ee gg.dropB (EE.dropB nB)
  | ok d ρ2 =>
  rw [e1] at h
  simp only [bnd_ok] at h
  intro v F2 H2 g2 E2 r2
  unfold repO at h
  split at h
  · split at h
    · rename_i ds n hh hz
      obtain ⟨vs, h1, h2, h3⟩ := hO
      rw [h1] at hu; cases hu
      cases r2
      have hq2 : H2 q = some (.lst vs) := E2.subB _ _ upd_same
      have h3' := h3.mono g2.sub
      refine ⟨q, n, vs, rfl, rfl, hq2, hz.1, hz.2.1, by rw [h3.length]; exact hz.2.2, fun p np => ?_⟩
      have E2' := E2.dropB nB
      have gw : Grow F2 H2 F2 (upd H2 p (.lst (List.replicate n.toNat vs).flatten)) := Grow.made E2.sub np
      exact (PoL.later g2.dropB h) p F2 _ Gr.refl (E2'.grow gw) (E2.sub.nn np) (E2'.subB.nn np) ⟨_, upd_same, by rw [flat_len, h3.length]; exact hz.2.2, h3'.flat _⟩ (fresh_own E2' np)
    · exact h.elim
  · exact h.elim

/-! ### defs whose value is a new object -/
inductive FRL where
  | ok (o : Ob)
  | exc (s : Str)
  | bad
def PoFL (K : KC) (mg : Str → Option Value) (F H : Hp) (Q : VK) (E : XK) : FRL → Prop
  | .ok o => ∀ q F' H', Grow F H F' H' → H q = none → F' q = none → OR K F' H' q o → Q (.ref q) H'
  | .exc x => ∀ C F' H', mg x = some (.ref C) → Grow F H F' H' → E (.ref C) none H'
  | .bad => False
def spL (K : KC) (mg : Str → Option Value) (n : Nat) (fn : List D → FRL) : Sp := fun vs H Q E => ∃ F ds, Sub F H ∧ RpA K F vs ds ∧ ds.length = n ∧ PoFL K mg F H Q E (fn ds)
structure FL (g : GC) (x : Str) (k : Nat) (ps : List Str) (fn : List D → FRL) : Prop where
  ex : ∃ f fd, g.mg x = some (.ref f) ∧ PySem.W.keepIn g.K.K (.ref f) = true ∧ Binds g.K.K fd ps [] ∧ FnOk g.K.P g.K.w g.K.K g.mg g.base (L2.CX g.K.P g.K.w) k f fd ps (spL g.K g.mg ps.length fn)
def mCallL (n : Nat) (fn : List D → FRL) (ma : M (List D)) : M Ob := fun ρ => bnd (ma ρ) fun ds ρ1 => if ds.length = n then (match fn ds with
  | .ok d => .ok d ρ1
  | .exc s => .exc s ρ1
  | .bad => .bad) else .bad
theorem dl_call (ok : Ok g s k W X) {x : Str} {j : Nat} {ps : List Str} {fn : List D → FRL} (F : FL g x j ps fn) (ha : DA g W X (e :: es) na) (hj : j ≤ k := by decide) (hg : gloB s.sc x = true := by decide +kernel) (hd : (x == ("__debug__" : Str)) = false := by decide +kernel)
    (he : starEach (e :: es) X.env = (false, eval e X.env) :: starEach es X.env := by rfl) (hpl : (backTo pos (starEach es X.env)).any (·.1) = false := by rfl) : DL g W X (.Call (.Name x p) (e :: es) [] pos) (mCallL ps.length fn na) := by
  obtain ⟨f, fd, hm, hk, hb, fo⟩ := F.ex
  obtain ⟨t, pt, st⟩ := ha
  have fo' : FnOk X.prog X.w X.K X.mg X.base (L2.CX X.prog X.w) j f fd ps (spL g.K g.mg ps.length fn) := by
    rw [ok.hP, ok.hw, ok.hK, ok.hmg, ok.hbase]; exact fo
  refine ⟨_, pe_callS (E := WE W) fo' (ok.room.mono hj) (ok.glo hg) (by rw [ok.hmg]; exact hm) (by rw [ok.hK]; exact hk) (by rw [ok.hK]; exact hb) (fun σ => passAt ok.tk σ) pt hd he hpl, fun B F H σ ρ Q E h => ?_⟩
  refine st.then (R := PoL g.K g.mg W B F σ Q) E (fun x ρ' z => z) (fun z => z) h fun ds ρ1 vs F1 H1 g1 E1 r1 h1 => ?_
  by_cases hl : ds.length = ps.length
  · rw [if_pos hl] at h1
    refine ⟨F1, ds, E1.sub, r1, hl, ?_⟩
    have h1 := PoL.later g1 h1
    cases ef : fn ds with
    | ok d => rw [ef] at h1; exact fun q F' H' gw nH nF' hO => h1 q F' H' (gw.gr E1.subB) (E1.grow gw) nF' (E1.subB.nn nH) hO (fresh_own E1 nH)
    | exc x => rw [ef] at h1; exact fun C F' H' e gw => h1 C F' H' e (gw.gr E1.subB) (E1.grow gw)
    | bad => rw [ef] at h1; exact h1
  · rw [if_neg hl] at h1; exact h1.elim
def runL (N : Nat) (m : M Ob) (ds : List D) : FRL := match m (rho0 N ds) with
  | .ok o _ => .ok o
  | .exc s _ => .exc s
  | .bad => .bad
end
section
variable {g : GC} {x : Str} {params : Arguments} {body : List Stmt} {scope : Scope} {f : Addr} {fd : FuncData} {N ps : List Str} {k : Nat} {m : M Ob} {e : Expr} {pos : Pos}
theorem fl_mk (F : FunD g.K.K x x params body scope [] [] f fd) (S : FnScope N ps scope) (hm : g.mg x = some (.ref f))
    (hb : ∀ (kV doc pm : Value) (an : Option Addr) (cdv ct : Value) (us : List Value), us.length = ps.length → bindArgs (PySem.W.fnOf x x params body scope .none kV doc pm an cdv ct) ⟨us, []⟩ = pure (ps.zip us))
    (hr : body = [.Return (some e) pos]) (hbody : ∀ (W : WX) (X : Cx), Ok g ⟨N, scope, none⟩ k W X → DL g W X e m) : FL g x (k + 1) ps (runL N.length m) := by
  refine ⟨f, fd, hm, F.kp, F.bindsN hb, F.ok S (fun vs H Q E h => ?_) (fun cdv A outer s H vs Q E hr' h => ?_)⟩
  · obtain ⟨F, ds, _, r, hl, _⟩ := h
    rw [r.length, hl]
  · obtain ⟨F0, ds, hs, r, hl, po⟩ := h
    have hpN : ps.length ≤ N.length := by have := congrArg List.length S.pre; rw [List.length_take] at this; omega
    obtain ⟨t, pt, st⟩ := hbody (fun cls d _ H => E cls d H) _ (ok_body (g := g) (E := E) (outer := outer) (H := H) S hr')
    subst hr
    refine ⟨_, pss_one (ps_ret pt), ?_⟩
    refine st H F0 H (L2.start N vs) (rho0 N.length ds) _ (env_start hs r (by omega)) ?_
    have gw : ∀ {F' H' : Hp} {σ' : L2.St} {ρ' : Rho}, Gr H F0 F' → Env g.K H F' H' σ' ρ' → Grow F0 H F' H' := fun gr E => ⟨gr.sub, E.subB, E.sub, gr.new⟩
    unfold runL at po
    cases em : m (rho0 N.length ds) with
    | ok o ρ' => rw [em] at po; exact fun q F' H' gr E' nF' nB hO _ => po q F' H' (gw gr E') nB nF' hO
    | exc y ρ' => rw [em] at po; exact fun C F' H' e gr E' => po C F' H' e (gw gr E')
    | bad => rw [em] at po; exact po.elim
end
/-- the expression of a def that is one return -/
def retE (st : Stmt) : Expr := match defBody st with
  | [.Return (some e) _] => e
  | _ => .Name "" ⟨0, 0, 0, 0⟩
def retP (st : Stmt) : Pos := match defBody st with
  | [.Return (some _) p] => p
  | _ => ⟨0, 0, 0, 0⟩
section
def noStar : Expr → Bool
  | .Starred _ _ => false
  | _ => true
variable {g : GC} {s : SS} {k : Nat} {W : WX} {X : Cx}
theorem Ok.ss2 (ok : Ok g s k W X) {x y : Str} {a b : Expr} {px py pt pt2 : Pos} {kt k2 : Nat} (hx : isLocal s.sc x = true := by decide +kernel) (hy : isLocal s.sc y = true := by decide +kernel) (hl : (py.line == px.line) = true := by rfl) (hne : (x == y) = false := by decide +kernel)
    (hs : noStar a = true := by rfl) (hs2 : noStar b = true := by rfl) (h1 : [a, b].all (foldedForSure 8) = false := by rfl) (h2 : [a, b].all (constantsAlone 8) = false := by rfl) :
    swappedStores [.Tuple [.Name x px, .Name y py] kt pt] (.Tuple [a, b] k2 pt2) X.env = pure (some [x, y]) := by
  have hb : X.env.blockKind = .function := by unfold Env.blockKind; rw [ok.hsc, ok.kind]; rfl
  have kx : X.env.kindOf x = some .local := by show X.env.scope.names.lookup x = _; rw [ok.hsc]; exact isLocal_of hx
  have ky : X.env.kindOf y = some .local := by show X.env.scope.names.lookup y = _; rw [ok.hsc]; exact isLocal_of hy
  have hyx : (y == x) = false := by
    cases e : (y == x) with
    | false => rfl
    | true => rw [beq_iff_eq] at e; rw [e, beq_self_eq_true] at hne; exact hne
  unfold swappedStores
  simp only [hb, kx, ky, h1, h2, List.length_cons, List.length_nil, List.filterMap_cons, List.filterMap_nil, Expr.pos, List.head?_cons, Option.map_some, Option.getD_some, hl, beq_self_eq_true, Bool.and_self, if_true]
  have st : ∀ e : Expr, noStar e = true → (match e with | .Starred .. => true | _ => false) = false := fun e h => by cases e <;> first | rfl | cases h
  simp only [List.any_cons, List.any_nil, List.eraseDups_cons, List.filter_cons, hyx]
  refine (if_neg (by decide)).trans ((if_neg ?_).trans (if_neg ?_))
  · intro h
    rw [Bool.or_false, Bool.or_eq_true] at h
    rcases h with h | h
    · exact Bool.false_ne_true ((st a hs).symm.trans h)
    · exact Bool.false_ne_true ((st b hs2).symm.trans h)
  · simp [List.eraseDups_cons]
/-- two targets of which the first or the second is no plain local -/
def notLoc (sc : Scope) : Expr → Bool
  | .Name x _ => !isLocal sc x
  | _ => true
theorem Ok.ss0 (ok : Ok g s k W X) {t1 t2 a b : Expr} {pt pt2 : Pos} {kt k2 : Nat} (h : (notLoc s.sc t1 || notLoc s.sc t2) = true := by decide +kernel) :
    swappedStores [.Tuple [t1, t2] kt pt] (.Tuple [a, b] k2 pt2) X.env = pure none := by
  have hb : X.env.blockKind = .function := by unfold Env.blockKind; rw [ok.hsc, ok.kind]; rfl
  unfold swappedStores
  simp only [hb]
  split
  · rfl
  split
  · rfl
  split
  · rfl
  rename_i h1 h2 h3
  exfalso
  apply h3
  have gen : ∀ (f : Expr → Option Str), (f t1 = none ∨ f t2 = none) → (List.filterMap f [t1, t2]).length ≤ 1 := fun f hf => by
    rcases hf with hf | hf
    · rw [List.filterMap_cons_none hf]
      exact Nat.le_trans (List.length_filterMap_le f _) (Nat.le_refl _)
    · have e : List.filterMap f [t2] = [] := by rw [List.filterMap_cons_none hf]; rfl
      cases q : f t1 with
      | none => rw [List.filterMap_cons_none q, e]; exact Nat.zero_le _
      | some z => rw [List.filterMap_cons_some q, e]; exact Nat.le_refl _
  have kl : ∀ x, isLocal s.sc x = false → (X.env.kindOf x == some .local) = false := fun x this => by
    show (X.env.scope.names.lookup x == some .local) = false
    rw [ok.hsc]
    unfold isLocal at this
    cases q : s.sc.names.lookup x with
    | none => rfl
    | some kk => rw [q] at this; cases kk <;> first | rfl | cases this
  rw [Bool.or_eq_true] at h
  rw [Bool.or_eq_true]
  refine .inl (bne_iff_ne.mpr (Nat.ne_of_lt (Nat.lt_of_le_of_lt (gen _ ?_) (by decide : 1 < 2))))
  rcases h with h | h
  · left
    cases t1 <;> first | rfl | skip
    rename_i x p
    simp [kl x (by simpa [notLoc] using h)]
  · right
    cases t2 <;> first | rfl | skip
    rename_i x p
    simp [kl x (by simpa [notLoc] using h)]
end
end DX

set_option maxHeartbeats 1000000
namespace DX
open PySem PySem.Spec PyProof.Rows L2
/-- the law's call, from what its def does as data -/
theorem walk_dx {l : PySem.W.OpenLaw} {n k : Nat} {q : Program} {loose : List Str} {XP : (Str → Option Value) → Heap → Prop} {YP : World → Heap → Prop} {d : DefRec} {x : Str} {fn : List D → FR}
    (hn : l.most = some n) (hn2 : n ≤ sizeLine) (hdf : d.params.defaults = []) (hr : Room k callerA)
    (T : ∀ ns : List Int, ns.length ≤ n → fn [.list (ns.map .int)] = .ok (.bool true))
    (F : ∀ (w : World) (mg : Str → Option Value) (fa : Addr) (h : Heap), YP w h → h.Ns mainGlobals mg → mg d.name = some (.ref fa) →
      ∃ (K : PySem.W.Frag) (fd : FuncData), K.In h ∧ (∀ (s : Shared) (u : Value), BindsTo s fd ⟨[u], []⟩ [(x, u)]) ∧
        ∀ base : Heap, FnOk l.prog w K mg base (L2.CX l.prog w) k fa fd [x] (spD ⟨l.prog, w, K⟩ mg 1 fn)) :
    PySem.W.WalkO q loose XP YP l.row.toRowW d [] (fun f vs => PySem.call f vs) := by
  refine Att.attach_call hn hdf fun w s₀ s₁ mg mb fa o pm cd doc a vs ns G Y ho hd hcd hmg hobj hints hlen hg => ?_
  obtain ⟨K, fd, KX, hb, hF⟩ := F w mg fa _ Y G.T.g hmg
  refine law_call KX G.T.g G.T.b G.T.builtins G.T.nolimit hg hobj hints (Nat.le_trans hlen hn2) hr (fun base _ _ => hF base) hb (fun H hO hS => ?_) fun H e s' => ?_
  · have hl : LsAt K H a (ns.map V.int) := by
      rcases hS with hS | ⟨o, its, m, hk, _, _, hd', hz, hv⟩
      · exact .inl hS
      · have e := KX a o hk
        rw [hobj] at e
        cases e
        cases hd'
        exact .inr ⟨_, _, hk, hz, hv⟩
    refine ⟨H, [.list (ns.map .int)], Sub.refl H, .cons (.lst hl (by rw [List.length_map]; exact Nat.le_trans hlen hn2) (RpA.ofInts ns)) .nil, rfl, ?_⟩
    rw [T ns hlen]
    intro v F' H' gw r
    cases r
    rfl
  · rintro ⟨_, _, _, _, _, _, _, _, _, _, _, _, z⟩
    exact z
end DX

set_option maxHeartbeats 1000000
namespace DX
open PySem PySem.Spec PyProof.Rows L2
def thn2 (r : SR) (b : MS) : SR := match r with
  | .next ρ1 => b ρ1
  | r => r
theorem thn2_congr {r r' : SR} (h : r = r') (b : MS) : thn2 r b = thn2 r' b := by rw [h]
@[simp] theorem thn2_next (ρ : Rho) (b : MS) : thn2 (.next ρ) b = b ρ := rfl
@[simp] theorem thn2_ret (d : D) (ρ : Rho) (b : MS) : thn2 (.ret d ρ) b = .ret d ρ := rfl
@[simp] theorem thn2_brk (ρ : Rho) (b : MS) : thn2 (.brk ρ) b = .brk ρ := rfl
@[simp] theorem thn2_cont (ρ : Rho) (b : MS) : thn2 (.cont ρ) b = .cont ρ := rfl
@[simp] theorem thn2_exc (x : Str) (ρ : Rho) (b : MS) : thn2 (.exc x ρ) b = .exc x ρ := rfl
@[simp] theorem thn2_bad (b : MS) : thn2 .bad b = .bad := rfl
/-- the value of a call -/
def frM (r : FR) (ρ : Rho) : MR D := match r with
  | .ok d => .ok d ρ
  | .exc s => .exc s ρ
  | .bad => .bad
@[simp] theorem frM_ok (d : D) (ρ : Rho) : frM (.ok d) ρ = .ok d ρ := rfl
@[simp] theorem frM_exc (d : Str) (ρ : Rho) : frM (.exc d) ρ = .exc d ρ := rfl
def frLM (r : FRL) (ρ : Rho) : MR Ob := match r with
  | .ok d => .ok d ρ
  | .exc s => .exc s ρ
  | .bad => .bad
@[simp] theorem frLM_ok (d : Ob) (ρ : Rho) : frLM (.ok d) ρ = .ok d ρ := rfl
def frTM (r : FRT) (j : Nat) (ρ : Rho) : MR D := match r with
  | .ok d ts' => .ok d (ρ.set j (.own (.lst ts')))
  | .exc s ts' => .exc s (ρ.set j (.own (.lst ts')))
  | .bad => .bad
@[simp] theorem frTM_ok (d : D) (ts : List D) (j : Nat) (ρ : Rho) : frTM (.ok d ts) j ρ = .ok d (ρ.set j (.own (.lst ts))) := rfl
/-- the result of a body -/
def outF (r : SR) : FR := match r with
  | .ret d _ => .ok d
  | .next _ => .ok .none
  | .exc s _ => .exc s
  | _ => .bad
@[simp] theorem outF_ret (d : D) (ρ : Rho) : outF (.ret d ρ) = .ok d := rfl
@[simp] theorem outF_next (ρ : Rho) : outF (.next ρ) = .ok .none := rfl
@[simp] theorem outF_exc (x : Str) (ρ : Rho) : outF (.exc x ρ) = .exc x := rfl
theorem runF_eq (N : Nat) (m : MS) (ds : List D) : runF N m ds = outF (m (rho0 N ds)) := rfl
def outT (r : SR) : FRT := match r with
  | .ret d ρ' => (match ownL ρ' 1 with
    | some ts' => .ok d ts'
    | none => .bad)
  | .next ρ' => (match ownL ρ' 1 with
    | some ts' => .ok .none ts'
    | none => .bad)
  | .exc s ρ' => (match ownL ρ' 1 with
    | some ts' => .exc s ts'
    | none => .bad)
  | _ => .bad
@[simp] theorem outT_ret (d : D) (c : Cell) (ts : List D) (ρ : Rho) : outT (.ret d (c :: .own (.lst ts) :: ρ)) = .ok d ts := rfl
@[simp] theorem outT_next (c : Cell) (ts : List D) (ρ : Rho) : outT (.next (c :: .own (.lst ts) :: ρ)) = .ok .none ts := rfl
theorem runT_eq (N : Nat) (m : MS) (d0 : D) (ts ds : List D) : runT N m d0 ts ds = outT (m (rhoT N d0 ts ds)) := rfl
def outL (r : MR Ob) : FRL := match r with
  | .ok o _ => .ok o
  | .exc s _ => .exc s
  | .bad => .bad
@[simp] theorem outL_ok (o : Ob) (ρ : Rho) : outL (.ok o ρ) = .ok o := rfl
theorem runL_eq (N : Nat) (m : M Ob) (ds : List D) : runL N m ds = outL (m (rho0 N ds)) := rfl
def kUn (r : MR D) (f : D → Option D) : MR D := match r with
  | .ok d ρ => lft (f d) ρ
  | .exc s ρ => .exc s ρ
  | .bad => .bad
@[simp] theorem kUn_ok0 (f : D → Option D) (d : D) (ρ : Rho) : kUn (.ok d ρ) f = lft (f d) ρ := id rfl
@[simp] theorem kUn_exc (f : D → Option D) (s : Str) (ρ : Rho) : kUn (.exc s ρ) f = .exc s ρ := id rfl
@[simp] theorem kUn_bad (f : D → Option D) : kUn .bad f = .bad := id rfl
def kBin2 (r : MR D) (f : D → D → Option D) (x : D) : MR D := match r with
  | .ok d ρ => lft (f x d) ρ
  | .exc s ρ => .exc s ρ
  | .bad => .bad
@[simp] theorem kBin2_ok0 (f : D → D → Option D) (x : D) (d : D) (ρ : Rho) : kBin2 (.ok d ρ) f x = lft (f x d) ρ := id rfl
@[simp] theorem kBin2_exc (f : D → D → Option D) (x : D) (s : Str) (ρ : Rho) : kBin2 (.exc s ρ) f x = .exc s ρ := id rfl
@[simp] theorem kBin2_bad (f : D → D → Option D) (x : D) : kBin2 .bad f x = .bad := id rfl
def kBin (r : MR D) (f : D → D → Option D) (mb : M D) : MR D := match r with
  | .ok d ρ => kBin2 (mb ρ) f d
  | .exc s ρ => .exc s ρ
  | .bad => .bad
@[simp] theorem kBin_ok0 (f : D → D → Option D) (mb : M D) (d : D) (ρ : Rho) : kBin (.ok d ρ) f mb = kBin2 (mb ρ) f d := id rfl
@[simp] theorem kBin_exc (f : D → D → Option D) (mb : M D) (s : Str) (ρ : Rho) : kBin (.exc s ρ) f mb = .exc s ρ := id rfl
@[simp] theorem kBin_bad (f : D → D → Option D) (mb : M D) : kBin .bad f mb = .bad := id rfl
def kBinL2 (r : MR D) (f : D → D → Option Ob) (x : D) : MR Ob := match r with
  | .ok d ρ => lft (f x d) ρ
  | .exc s ρ => .exc s ρ
  | .bad => .bad
@[simp] theorem kBinL2_ok0 (f : D → D → Option Ob) (x : D) (d : D) (ρ : Rho) : kBinL2 (.ok d ρ) f x = lft (f x d) ρ := id rfl
@[simp] theorem kBinL2_exc (f : D → D → Option Ob) (x : D) (s : Str) (ρ : Rho) : kBinL2 (.exc s ρ) f x = .exc s ρ := id rfl
@[simp] theorem kBinL2_bad (f : D → D → Option Ob) (x : D) : kBinL2 .bad f x = .bad := id rfl
def kBinL (r : MR D) (f : D → D → Option Ob) (mb : M D) : MR Ob := match r with
  | .ok d ρ => kBinL2 (mb ρ) f d
  | .exc s ρ => .exc s ρ
  | .bad => .bad
@[simp] theorem kBinL_ok0 (f : D → D → Option Ob) (mb : M D) (d : D) (ρ : Rho) : kBinL (.ok d ρ) f mb = kBinL2 (mb ρ) f d := id rfl
@[simp] theorem kBinL_exc (f : D → D → Option Ob) (mb : M D) (s : Str) (ρ : Rho) : kBinL (.exc s ρ) f mb = .exc s ρ := id rfl
@[simp] theorem kBinL_bad (f : D → D → Option Ob) (mb : M D) : kBinL .bad f mb = .bad := id rfl
def kApp (r : MR (List D)) (f : List D → Option D) : MR D := match r with
  | .ok ds ρ => lft (f ds) ρ
  | .exc s ρ => .exc s ρ
  | .bad => .bad
@[simp] theorem kApp_ok0 (f : List D → Option D) (ds : List D) (ρ : Rho) : kApp (.ok ds ρ) f = lft (f ds) ρ := id rfl
@[simp] theorem kApp_exc (f : List D → Option D) (s : Str) (ρ : Rho) : kApp (.exc s ρ) f = .exc s ρ := id rfl
@[simp] theorem kApp_bad (f : List D → Option D) : kApp .bad f = .bad := id rfl
def kAppL (r : MR (List D)) (f : List D → Option Ob) : MR Ob := match r with
  | .ok ds ρ => lft (f ds) ρ
  | .exc s ρ => .exc s ρ
  | .bad => .bad
@[simp] theorem kAppL_ok0 (f : List D → Option Ob) (ds : List D) (ρ : Rho) : kAppL (.ok ds ρ) f = lft (f ds) ρ := id rfl
@[simp] theorem kAppL_exc (f : List D → Option Ob) (s : Str) (ρ : Rho) : kAppL (.exc s ρ) f = .exc s ρ := id rfl
@[simp] theorem kAppL_bad (f : List D → Option Ob) : kAppL .bad f = .bad := id rfl
def kCons2 (r : MR (List D)) (x : D) : MR (List D) := match r with
  | .ok ds ρ => .ok (x :: ds) ρ
  | .exc s ρ => .exc s ρ
  | .bad => .bad
@[simp] theorem kCons2_ok0 (x : D) (ds : List D) (ρ : Rho) : kCons2 (.ok ds ρ) x = .ok (x :: ds) ρ := id rfl
@[simp] theorem kCons2_exc (x : D) (s : Str) (ρ : Rho) : kCons2 (.exc s ρ) x = .exc s ρ := id rfl
@[simp] theorem kCons2_bad (x : D) : kCons2 .bad x = .bad := id rfl
def kCons (r : MR D) (na : M (List D)) : MR (List D) := match r with
  | .ok d ρ => kCons2 (na ρ) d
  | .exc s ρ => .exc s ρ
  | .bad => .bad
@[simp] theorem kCons_ok0 (na : M (List D)) (d : D) (ρ : Rho) : kCons (.ok d ρ) na = kCons2 (na ρ) d := id rfl
@[simp] theorem kCons_exc (na : M (List D)) (s : Str) (ρ : Rho) : kCons (.exc s ρ) na = .exc s ρ := id rfl
@[simp] theorem kCons_bad (na : M (List D)) : kCons .bad na = .bad := id rfl
def kTup (r : MR (List D))  : MR D := match r with
  | .ok ds ρ => if ds.length ≤ sizeLine then .ok (.tuple ds) ρ else .bad
  | .exc s ρ => .exc s ρ
  | .bad => .bad
@[simp] theorem kTup_ok0  (ds : List D) (ρ : Rho) : kTup (.ok ds ρ)  = if ds.length ≤ sizeLine then .ok (.tuple ds) ρ else .bad := id rfl
@[simp] theorem kTup_exc  (s : Str) (ρ : Rho) : kTup (.exc s ρ)  = .exc s ρ := id rfl
@[simp] theorem kTup_bad  : kTup .bad  = .bad := id rfl
def kLst (r : MR (List D))  : MR Ob := match r with
  | .ok ds ρ => if ds.length ≤ sizeLine then .ok (.lst ds) ρ else .bad
  | .exc s ρ => .exc s ρ
  | .bad => .bad
@[simp] theorem kLst_ok0  (ds : List D) (ρ : Rho) : kLst (.ok ds ρ)  = if ds.length ≤ sizeLine then .ok (.lst ds) ρ else .bad := id rfl
@[simp] theorem kLst_exc  (s : Str) (ρ : Rho) : kLst (.exc s ρ)  = .exc s ρ := id rfl
@[simp] theorem kLst_bad  : kLst .bad  = .bad := id rfl
def kLd (r : MR Ob)  : MR D := match r with
  | .ok o ρ => .ok o.d ρ
  | .exc s ρ => .exc s ρ
  | .bad => .bad
@[simp] theorem kLd_ok0  (o : Ob) (ρ : Rho) : kLd (.ok o ρ)  = .ok o.d ρ := id rfl
@[simp] theorem kLd_exc  (s : Str) (ρ : Rho) : kLd (.exc s ρ)  = .exc s ρ := id rfl
@[simp] theorem kLd_bad  : kLd .bad  = .bad := id rfl
def kAnd (r : MR D) (mb : M D) : MR D := match r with
  | .ok (.bool true) ρ => mb ρ
  | .ok (.bool false) ρ => .ok (.bool false) ρ
  | .ok _ _ => .bad
  | .exc s ρ => .exc s ρ
  | .bad => .bad
@[simp] theorem kAnd_ok0 (mb : M D)  (ρ : Rho) : kAnd (.ok (.bool true) ρ) mb = mb ρ := id rfl
@[simp] theorem kAnd_ok1 (mb : M D)  (ρ : Rho) : kAnd (.ok (.bool false) ρ) mb = .ok (.bool false) ρ := id rfl
@[simp] theorem kAnd_exc (mb : M D) (s : Str) (ρ : Rho) : kAnd (.exc s ρ) mb = .exc s ρ := id rfl
@[simp] theorem kAnd_bad (mb : M D) : kAnd .bad mb = .bad := id rfl
def kOr (r : MR D) (mb : M D) : MR D := match r with
  | .ok (.bool true) ρ => .ok (.bool true) ρ
  | .ok (.bool false) ρ => mb ρ
  | .ok _ _ => .bad
  | .exc s ρ => .exc s ρ
  | .bad => .bad
@[simp] theorem kOr_ok0 (mb : M D)  (ρ : Rho) : kOr (.ok (.bool true) ρ) mb = .ok (.bool true) ρ := id rfl
@[simp] theorem kOr_ok1 (mb : M D)  (ρ : Rho) : kOr (.ok (.bool false) ρ) mb = mb ρ := id rfl
@[simp] theorem kOr_exc (mb : M D) (s : Str) (ρ : Rho) : kOr (.exc s ρ) mb = .exc s ρ := id rfl
@[simp] theorem kOr_bad (mb : M D) : kOr .bad mb = .bad := id rfl
def kNot (r : MR D)  : MR D := match r with
  | .ok (.bool b) ρ => .ok (.bool (!b)) ρ
  | .ok _ _ => .bad
  | .exc s ρ => .exc s ρ
  | .bad => .bad
@[simp] theorem kNot_ok0  (b : Bool) (ρ : Rho) : kNot (.ok (.bool b) ρ)  = .ok (.bool (!b)) ρ := id rfl
@[simp] theorem kNot_exc  (s : Str) (ρ : Rho) : kNot (.exc s ρ)  = .exc s ρ := id rfl
@[simp] theorem kNot_bad  : kNot .bad  = .bad := id rfl
def kAsB (r : MR D)  : MR Bool := match r with
  | .ok (.bool b) ρ => .ok b ρ
  | .ok _ _ => .bad
  | .exc s ρ => .exc s ρ
  | .bad => .bad
@[simp] theorem kAsB_ok0  (b : Bool) (ρ : Rho) : kAsB (.ok (.bool b) ρ)  = .ok b ρ := id rfl
@[simp] theorem kAsB_exc  (s : Str) (ρ : Rho) : kAsB (.exc s ρ)  = .exc s ρ := id rfl
@[simp] theorem kAsB_bad  : kAsB .bad  = .bad := id rfl
def kTAnd (r : MR Bool) (mb : M Bool) : MR Bool := match r with
  | .ok true ρ => mb ρ
  | .ok false ρ => .ok false ρ
  | .exc s ρ => .exc s ρ
  | .bad => .bad
@[simp] theorem kTAnd_ok0 (mb : M Bool)  (ρ : Rho) : kTAnd (.ok true ρ) mb = mb ρ := id rfl
@[simp] theorem kTAnd_ok1 (mb : M Bool)  (ρ : Rho) : kTAnd (.ok false ρ) mb = .ok false ρ := id rfl
@[simp] theorem kTAnd_exc (mb : M Bool) (s : Str) (ρ : Rho) : kTAnd (.exc s ρ) mb = .exc s ρ := id rfl
@[simp] theorem kTAnd_bad (mb : M Bool) : kTAnd .bad mb = .bad := id rfl
def kTOr (r : MR Bool) (mb : M Bool) : MR Bool := match r with
  | .ok true ρ => .ok true ρ
  | .ok false ρ => mb ρ
  | .exc s ρ => .exc s ρ
  | .bad => .bad
@[simp] theorem kTOr_ok0 (mb : M Bool)  (ρ : Rho) : kTOr (.ok true ρ) mb = .ok true ρ := id rfl
@[simp] theorem kTOr_ok1 (mb : M Bool)  (ρ : Rho) : kTOr (.ok false ρ) mb = mb ρ := id rfl
@[simp] theorem kTOr_exc (mb : M Bool) (s : Str) (ρ : Rho) : kTOr (.exc s ρ) mb = .exc s ρ := id rfl
@[simp] theorem kTOr_bad (mb : M Bool) : kTOr .bad mb = .bad := id rfl
def kTNot (r : MR Bool)  : MR Bool := match r with
  | .ok b ρ => .ok (!b) ρ
  | .exc s ρ => .exc s ρ
  | .bad => .bad
@[simp] theorem kTNot_ok0  (b : Bool) (ρ : Rho) : kTNot (.ok b ρ)  = .ok (!b) ρ := id rfl
@[simp] theorem kTNot_exc  (s : Str) (ρ : Rho) : kTNot (.exc s ρ)  = .exc s ρ := id rfl
@[simp] theorem kTNot_bad  : kTNot .bad  = .bad := id rfl
def kIf (r : MR Bool) (ma : M D) (mb : M D) : MR D := match r with
  | .ok true ρ => ma ρ
  | .ok false ρ => mb ρ
  | .exc s ρ => .exc s ρ
  | .bad => .bad
@[simp] theorem kIf_ok0 (ma : M D) (mb : M D)  (ρ : Rho) : kIf (.ok true ρ) ma mb = ma ρ := id rfl
@[simp] theorem kIf_ok1 (ma : M D) (mb : M D)  (ρ : Rho) : kIf (.ok false ρ) ma mb = mb ρ := id rfl
@[simp] theorem kIf_exc (ma : M D) (mb : M D) (s : Str) (ρ : Rho) : kIf (.exc s ρ) ma mb = .exc s ρ := id rfl
@[simp] theorem kIf_bad (ma : M D) (mb : M D) : kIf .bad ma mb = .bad := id rfl
def kCh2 (o : Option D) (ρ : Rho) (mc : M D) (f : D → D → Option D) (y : D) : MR D := match o with
  | some (.bool true) => kBin2 (mc ρ) f y
  | some (.bool false) => .ok (.bool false) ρ
  | _ => .bad
@[simp] theorem kCh2_t (ρ : Rho) (mc : M D) (f : D → D → Option D) (y : D) : kCh2 (some (.bool true)) ρ mc f y = kBin2 (mc ρ) f y := id rfl
@[simp] theorem kCh2_f (ρ : Rho) (mc : M D) (f : D → D → Option D) (y : D) : kCh2 (some (.bool false)) ρ mc f y = .ok (.bool false) ρ := id rfl
def kChB (r : MR D) (f : D → D → Option D) (g : D → D → Option D) (x : D) (mc : M D) : MR D := match r with
  | .ok d ρ => kCh2 (f x d) ρ mc g d
  | .exc s ρ => .exc s ρ
  | .bad => .bad
@[simp] theorem kChB_ok0 (f : D → D → Option D) (g : D → D → Option D) (x : D) (mc : M D) (d : D) (ρ : Rho) : kChB (.ok d ρ) f g x mc = kCh2 (f x d) ρ mc g d := id rfl
@[simp] theorem kChB_exc (f : D → D → Option D) (g : D → D → Option D) (x : D) (mc : M D) (s : Str) (ρ : Rho) : kChB (.exc s ρ) f g x mc = .exc s ρ := id rfl
@[simp] theorem kChB_bad (f : D → D → Option D) (g : D → D → Option D) (x : D) (mc : M D) : kChB .bad f g x mc = .bad := id rfl
def kCh (r : MR D) (f : D → D → Option D) (g : D → D → Option D) (mb : M D) (mc : M D) : MR D := match r with
  | .ok d ρ => kChB (mb ρ) f g d mc
  | .exc s ρ => .exc s ρ
  | .bad => .bad
@[simp] theorem kCh_ok0 (f : D → D → Option D) (g : D → D → Option D) (mb : M D) (mc : M D) (d : D) (ρ : Rho) : kCh (.ok d ρ) f g mb mc = kChB (mb ρ) f g d mc := id rfl
@[simp] theorem kCh_exc (f : D → D → Option D) (g : D → D → Option D) (mb : M D) (mc : M D) (s : Str) (ρ : Rho) : kCh (.exc s ρ) f g mb mc = .exc s ρ := id rfl
@[simp] theorem kCh_bad (f : D → D → Option D) (g : D → D → Option D) (mb : M D) (mc : M D) : kCh .bad f g mb mc = .bad := id rfl
def kC3 (o : Option D) (ρ : Rho) (mc md : M D) (g h : D → D → Option D) (y : D) : MR D := match o with
  | some (.bool true) => kChB (mc ρ) g h y md
  | some (.bool false) => .ok (.bool false) ρ
  | _ => .bad
@[simp] theorem kC3_t (ρ : Rho) (mc md : M D) (g h : D → D → Option D) (y : D) : kC3 (some (.bool true)) ρ mc md g h y = kChB (mc ρ) g h y md := id rfl
@[simp] theorem kC3_f (ρ : Rho) (mc md : M D) (g h : D → D → Option D) (y : D) : kC3 (some (.bool false)) ρ mc md g h y = .ok (.bool false) ρ := id rfl
def kC3B (r : MR D) (f : D → D → Option D) (g : D → D → Option D) (h : D → D → Option D) (x : D) (mc : M D) (md : M D) : MR D := match r with
  | .ok d ρ => kC3 (f x d) ρ mc md g h d
  | .exc s ρ => .exc s ρ
  | .bad => .bad
@[simp] theorem kC3B_ok0 (f : D → D → Option D) (g : D → D → Option D) (h : D → D → Option D) (x : D) (mc : M D) (md : M D) (d : D) (ρ : Rho) : kC3B (.ok d ρ) f g h x mc md = kC3 (f x d) ρ mc md g h d := id rfl
@[simp] theorem kC3B_exc (f : D → D → Option D) (g : D → D → Option D) (h : D → D → Option D) (x : D) (mc : M D) (md : M D) (s : Str) (ρ : Rho) : kC3B (.exc s ρ) f g h x mc md = .exc s ρ := id rfl
@[simp] theorem kC3B_bad (f : D → D → Option D) (g : D → D → Option D) (h : D → D → Option D) (x : D) (mc : M D) (md : M D) : kC3B .bad f g h x mc md = .bad := id rfl
def kC3A (r : MR D) (f : D → D → Option D) (g : D → D → Option D) (h : D → D → Option D) (mb : M D) (mc : M D) (md : M D) : MR D := match r with
  | .ok d ρ => kC3B (mb ρ) f g h d mc md
  | .exc s ρ => .exc s ρ
  | .bad => .bad
@[simp] theorem kC3A_ok0 (f : D → D → Option D) (g : D → D → Option D) (h : D → D → Option D) (mb : M D) (mc : M D) (md : M D) (d : D) (ρ : Rho) : kC3A (.ok d ρ) f g h mb mc md = kC3B (mb ρ) f g h d mc md := id rfl
@[simp] theorem kC3A_exc (f : D → D → Option D) (g : D → D → Option D) (h : D → D → Option D) (mb : M D) (mc : M D) (md : M D) (s : Str) (ρ : Rho) : kC3A (.exc s ρ) f g h mb mc md = .exc s ρ := id rfl
@[simp] theorem kC3A_bad (f : D → D → Option D) (g : D → D → Option D) (h : D → D → Option D) (mb : M D) (mc : M D) (md : M D) : kC3A .bad f g h mb mc md = .bad := id rfl
def kCall (r : MR (List D)) (n : Nat) (fn : List D → FR) : MR D := match r with
  | .ok ds ρ => if ds.length = n then frM (fn ds) ρ else .bad
  | .exc s ρ => .exc s ρ
  | .bad => .bad
@[simp] theorem kCall_ok0 (n : Nat) (fn : List D → FR) (ds : List D) (ρ : Rho) : kCall (.ok ds ρ) n fn = if ds.length = n then frM (fn ds) ρ else .bad := id rfl
@[simp] theorem kCall_exc (n : Nat) (fn : List D → FR) (s : Str) (ρ : Rho) : kCall (.exc s ρ) n fn = .exc s ρ := id rfl
@[simp] theorem kCall_bad (n : Nat) (fn : List D → FR) : kCall .bad n fn = .bad := id rfl
def kCallL (r : MR (List D)) (n : Nat) (fn : List D → FRL) : MR Ob := match r with
  | .ok ds ρ => if ds.length = n then frLM (fn ds) ρ else .bad
  | .exc s ρ => .exc s ρ
  | .bad => .bad
@[simp] theorem kCallL_ok0 (n : Nat) (fn : List D → FRL) (ds : List D) (ρ : Rho) : kCallL (.ok ds ρ) n fn = if ds.length = n then frLM (fn ds) ρ else .bad := id rfl
@[simp] theorem kCallL_exc (n : Nat) (fn : List D → FRL) (s : Str) (ρ : Rho) : kCallL (.exc s ρ) n fn = .exc s ρ := id rfl
@[simp] theorem kCallL_bad (n : Nat) (fn : List D → FRL) : kCallL .bad n fn = .bad := id rfl
def kCallT2 (r : MR (List D)) (n : Nat) (fn : D → List D → List D → FRT) (x : D) (j : Nat) : MR D := match r with
  | .ok ds ρ => if ds.length + 2 = n then callT fn x j ds ρ else .bad
  | .exc s ρ => .exc s ρ
  | .bad => .bad
@[simp] theorem kCallT2_ok0 (n : Nat) (fn : D → List D → List D → FRT) (x : D) (j : Nat) (ds : List D) (ρ : Rho) : kCallT2 (.ok ds ρ) n fn x j = if ds.length + 2 = n then callT fn x j ds ρ else .bad := id rfl
@[simp] theorem kCallT2_exc (n : Nat) (fn : D → List D → List D → FRT) (x : D) (j : Nat) (s : Str) (ρ : Rho) : kCallT2 (.exc s ρ) n fn x j = .exc s ρ := id rfl
@[simp] theorem kCallT2_bad (n : Nat) (fn : D → List D → List D → FRT) (x : D) (j : Nat) : kCallT2 .bad n fn x j = .bad := id rfl
def kCallT (r : MR D) (n : Nat) (fn : D → List D → List D → FRT) (j : Nat) (na : M (List D)) : MR D := match r with
  | .ok d ρ => if (ownL ρ j).isSome then kCallT2 (na ρ) n fn d j else .bad
  | .exc s ρ => .exc s ρ
  | .bad => .bad
@[simp] theorem kCallT_ok0 (n : Nat) (fn : D → List D → List D → FRT) (j : Nat) (na : M (List D)) (d : D) (ρ : Rho) : kCallT (.ok d ρ) n fn j na = if (ownL ρ j).isSome then kCallT2 (na ρ) n fn d j else .bad := id rfl
@[simp] theorem kCallT_exc (n : Nat) (fn : D → List D → List D → FRT) (j : Nat) (na : M (List D)) (s : Str) (ρ : Rho) : kCallT (.exc s ρ) n fn j na = .exc s ρ := id rfl
@[simp] theorem kCallT_bad (n : Nat) (fn : D → List D → List D → FRT) (j : Nat) (na : M (List D)) : kCallT .bad n fn j na = .bad := id rfl
def kOS (r : MR D)  : MR (Option Int) := match r with
  | .ok (.int i) ρ => .ok (some i) ρ
  | .ok _ _ => .bad
  | .exc s ρ => .exc s ρ
  | .bad => .bad
@[simp] theorem kOS_ok0  (i : Int) (ρ : Rho) : kOS (.ok (.int i) ρ)  = .ok (some i) ρ := id rfl
@[simp] theorem kOS_exc  (s : Str) (ρ : Rho) : kOS (.exc s ρ)  = .exc s ρ := id rfl
@[simp] theorem kOS_bad  : kOS .bad  = .bad := id rfl
def kSl3 (r : MR (Option Int)) (x : D) (lo : Option Int) : MR D := match r with
  | .ok v ρ => lft (fSl x lo v) ρ
  | .exc s ρ => .exc s ρ
  | .bad => .bad
@[simp] theorem kSl3_ok0 (x : D) (lo : Option Int) (v : Option Int) (ρ : Rho) : kSl3 (.ok v ρ) x lo = lft (fSl x lo v) ρ := id rfl
@[simp] theorem kSl3_exc (x : D) (lo : Option Int) (s : Str) (ρ : Rho) : kSl3 (.exc s ρ) x lo = .exc s ρ := id rfl
@[simp] theorem kSl3_bad (x : D) (lo : Option Int) : kSl3 .bad x lo = .bad := id rfl
def kSl2 (r : MR (Option Int)) (x : D) (mh : M (Option Int)) : MR D := match r with
  | .ok v ρ => kSl3 (mh ρ) x v
  | .exc s ρ => .exc s ρ
  | .bad => .bad
@[simp] theorem kSl2_ok0 (x : D) (mh : M (Option Int)) (v : Option Int) (ρ : Rho) : kSl2 (.ok v ρ) x mh = kSl3 (mh ρ) x v := id rfl
@[simp] theorem kSl2_exc (x : D) (mh : M (Option Int)) (s : Str) (ρ : Rho) : kSl2 (.exc s ρ) x mh = .exc s ρ := id rfl
@[simp] theorem kSl2_bad (x : D) (mh : M (Option Int)) : kSl2 .bad x mh = .bad := id rfl
def kSl (r : MR D) (ml : M (Option Int)) (mh : M (Option Int)) : MR D := match r with
  | .ok d ρ => kSl2 (ml ρ) d mh
  | .exc s ρ => .exc s ρ
  | .bad => .bad
@[simp] theorem kSl_ok0 (ml : M (Option Int)) (mh : M (Option Int)) (d : D) (ρ : Rho) : kSl (.ok d ρ) ml mh = kSl2 (ml ρ) d mh := id rfl
@[simp] theorem kSl_exc (ml : M (Option Int)) (mh : M (Option Int)) (s : Str) (ρ : Rho) : kSl (.exc s ρ) ml mh = .exc s ρ := id rfl
@[simp] theorem kSl_bad (ml : M (Option Int)) (mh : M (Option Int)) : kSl .bad ml mh = .bad := id rfl
def kSeqD (r : MR D)  : MR (List D) := match r with
  | .ok d ρ => lft (seqD d) ρ
  | .exc s ρ => .exc s ρ
  | .bad => .bad
@[simp] theorem kSeqD_ok0  (d : D) (ρ : Rho) : kSeqD (.ok d ρ)  = lft (seqD d) ρ := id rfl
@[simp] theorem kSeqD_exc  (s : Str) (ρ : Rho) : kSeqD (.exc s ρ)  = .exc s ρ := id rfl
@[simp] theorem kSeqD_bad  : kSeqD .bad  = .bad := id rfl
def kLD (r : MR (List D)) (f : List D → Option (List D)) : MR (List D) := match r with
  | .ok ds ρ => lft (f ds) ρ
  | .exc s ρ => .exc s ρ
  | .bad => .bad
@[simp] theorem kLD_ok0 (f : List D → Option (List D)) (ds : List D) (ρ : Rho) : kLD (.ok ds ρ) f = lft (f ds) ρ := id rfl
@[simp] theorem kLD_exc (f : List D → Option (List D)) (s : Str) (ρ : Rho) : kLD (.exc s ρ) f = .exc s ρ := id rfl
@[simp] theorem kLD_bad (f : List D → Option (List D)) : kLD .bad f = .bad := id rfl
def kRep2 (r : MR D) (o : Ob) : MR Ob := match r with
  | .ok d ρ => repO o d ρ
  | .exc s ρ => .exc s ρ
  | .bad => .bad
@[simp] theorem kRep2_ok0 (o : Ob) (d : D) (ρ : Rho) : kRep2 (.ok d ρ) o = repO o d ρ := id rfl
@[simp] theorem kRep2_exc (o : Ob) (s : Str) (ρ : Rho) : kRep2 (.exc s ρ) o = .exc s ρ := id rfl
@[simp] theorem kRep2_bad (o : Ob) : kRep2 .bad o = .bad := id rfl
def kRep (r : MR Ob) (mb : M D) : MR Ob := match r with
  | .ok o ρ => kRep2 (mb ρ) o
  | .exc s ρ => .exc s ρ
  | .bad => .bad
@[simp] theorem kRep_ok0 (mb : M D) (o : Ob) (ρ : Rho) : kRep (.ok o ρ) mb = kRep2 (mb ρ) o := id rfl
@[simp] theorem kRep_exc (mb : M D) (s : Str) (ρ : Rho) : kRep (.exc s ρ) mb = .exc s ρ := id rfl
@[simp] theorem kRep_bad (mb : M D) : kRep .bad mb = .bad := id rfl
def kSIf (r : MR Bool) (a : MS) (c : MS) : SR := match r with
  | .ok true ρ => a ρ
  | .ok false ρ => c ρ
  | .exc s ρ => .exc s ρ
  | .bad => .bad
@[simp] theorem kSIf_ok0 (a : MS) (c : MS)  (ρ : Rho) : kSIf (.ok true ρ) a c = a ρ := id rfl
@[simp] theorem kSIf_ok1 (a : MS) (c : MS)  (ρ : Rho) : kSIf (.ok false ρ) a c = c ρ := id rfl
@[simp] theorem kSIf_exc (a : MS) (c : MS) (s : Str) (ρ : Rho) : kSIf (.exc s ρ) a c = .exc s ρ := id rfl
@[simp] theorem kSIf_bad (a : MS) (c : MS) : kSIf .bad a c = .bad := id rfl
def kRet (r : MR D)  : SR := match r with
  | .ok d ρ => .ret d ρ
  | .exc s ρ => .exc s ρ
  | .bad => .bad
@[simp] theorem kRet_ok0  (d : D) (ρ : Rho) : kRet (.ok d ρ)  = .ret d ρ := id rfl
@[simp] theorem kRet_exc  (s : Str) (ρ : Rho) : kRet (.exc s ρ)  = .exc s ρ := id rfl
@[simp] theorem kRet_bad  : kRet .bad  = .bad := id rfl
def kSet (r : MR D) (i : Nat) : SR := match r with
  | .ok d ρ => .next (ρ.set i (.val d))
  | .exc s ρ => .exc s ρ
  | .bad => .bad
@[simp] theorem kSet_ok0 (i : Nat) (d : D) (ρ : Rho) : kSet (.ok d ρ) i = .next (ρ.set i (.val d)) := id rfl
@[simp] theorem kSet_exc (i : Nat) (s : Str) (ρ : Rho) : kSet (.exc s ρ) i = .exc s ρ := id rfl
@[simp] theorem kSet_bad (i : Nat) : kSet .bad i = .bad := id rfl
def kSetL (r : MR Ob) (i : Nat) : SR := match r with
  | .ok o ρ => .next (ρ.set i (.own o))
  | .exc s ρ => .exc s ρ
  | .bad => .bad
@[simp] theorem kSetL_ok0 (i : Nat) (o : Ob) (ρ : Rho) : kSetL (.ok o ρ) i = .next (ρ.set i (.own o)) := id rfl
@[simp] theorem kSetL_exc (i : Nat) (s : Str) (ρ : Rho) : kSetL (.exc s ρ) i = .exc s ρ := id rfl
@[simp] theorem kSetL_bad (i : Nat) : kSetL .bad i = .bad := id rfl
def kDrop (r : MR D)  : SR := match r with
  | .ok d ρ => .next ρ
  | .exc s ρ => .exc s ρ
  | .bad => .bad
@[simp] theorem kDrop_ok0  (d : D) (ρ : Rho) : kDrop (.ok d ρ)  = .next ρ := id rfl
@[simp] theorem kDrop_exc  (s : Str) (ρ : Rho) : kDrop (.exc s ρ)  = .exc s ρ := id rfl
@[simp] theorem kDrop_bad  : kDrop .bad  = .bad := id rfl
def unpK (o : Option Rho) : SR := match o with
  | some ρ => .next ρ
  | none => .bad
@[simp] theorem unpK_some (ρ : Rho) : unpK (some ρ) = .next ρ := id rfl
def kUnp (r : MR D) (gs : D → Rho → Option Rho) : SR := match r with
  | .ok d ρ => unpK (gs d ρ)
  | .exc s ρ => .exc s ρ
  | .bad => .bad
@[simp] theorem kUnp_ok0 (gs : D → Rho → Option Rho) (d : D) (ρ : Rho) : kUnp (.ok d ρ) gs = unpK (gs d ρ) := id rfl
@[simp] theorem kUnp_exc (gs : D → Rho → Option Rho) (s : Str) (ρ : Rho) : kUnp (.exc s ρ) gs = .exc s ρ := id rfl
@[simp] theorem kUnp_bad (gs : D → Rho → Option Rho) : kUnp .bad gs = .bad := id rfl
def parK (ds : List D) (i j : Nat) (ρ : Rho) : SR := match ds with
  | [x, y] => .next ((ρ.set i (.val x)).set j (.val y))
  | _ => .bad
@[simp] theorem parK_2 (x y : D) (i j : Nat) (ρ : Rho) : parK [x, y] i j ρ = .next ((ρ.set i (.val x)).set j (.val y)) := id rfl
def kPar (r : MR (List D)) (i : Nat) (j : Nat) : SR := match r with
  | .ok ds ρ => parK ds i j ρ
  | .exc s ρ => .exc s ρ
  | .bad => .bad
@[simp] theorem kPar_ok0 (i : Nat) (j : Nat) (ds : List D) (ρ : Rho) : kPar (.ok ds ρ) i j = parK ds i j ρ := id rfl
@[simp] theorem kPar_exc (i : Nat) (j : Nat) (s : Str) (ρ : Rho) : kPar (.exc s ρ) i j = .exc s ρ := id rfl
@[simp] theorem kPar_bad (i : Nat) (j : Nat) : kPar .bad i j = .bad := id rfl
def kFor (r : MR (List D)) (gs : D → Rho → Option Rho) (body : MS) : SR := match r with
  | .ok ds ρ => forL gs body ds ρ
  | .exc s ρ => .exc s ρ
  | .bad => .bad
@[simp] theorem kFor_ok0 (gs : D → Rho → Option Rho) (body : MS) (ds : List D) (ρ : Rho) : kFor (.ok ds ρ) gs body = forL gs body ds ρ := id rfl
@[simp] theorem kFor_exc (gs : D → Rho → Option Rho) (body : MS) (s : Str) (ρ : Rho) : kFor (.exc s ρ) gs body = .exc s ρ := id rfl
@[simp] theorem kFor_bad (gs : D → Rho → Option Rho) (body : MS) : kFor .bad gs body = .bad := id rfl
def apK (o : Option (List D)) (i : Nat) (d : D) (ρ : Rho) : SR := match o with
  | some ds => if ds.length < sizeLine then .next (ρ.set i (.own (.lst (ds ++ [d])))) else .bad
  | none => .bad
@[simp] theorem apK_some (ds : List D) (i : Nat) (d : D) (ρ : Rho) : apK (some ds) i d ρ = if ds.length < sizeLine then .next (ρ.set i (.own (.lst (ds ++ [d])))) else .bad := id rfl
def kApnd (r : MR D) (i : Nat) : SR := match r with
  | .ok d ρ => apK (ownL ρ i) i d ρ
  | .exc s ρ => .exc s ρ
  | .bad => .bad
@[simp] theorem kApnd_ok0 (i : Nat) (d : D) (ρ : Rho) : kApnd (.ok d ρ) i = apK (ownL ρ i) i d ρ := id rfl
@[simp] theorem kApnd_exc (i : Nat) (s : Str) (ρ : Rho) : kApnd (.exc s ρ) i = .exc s ρ := id rfl
@[simp] theorem kApnd_bad (i : Nat) : kApnd .bad i = .bad := id rfl
def ixK (o : Option (List D)) (d : D) (ρ : Rho) : MR D := match o with
  | some ds => lft (fIx (.list ds) d) ρ
  | none => .bad
@[simp] theorem ixK_some (ds : List D) (d : D) (ρ : Rho) : ixK (some ds) d ρ = lft (fIx (.list ds) d) ρ := id rfl
def kIxO (r : MR D) (i : Nat) : MR D := match r with
  | .ok d ρ => ixK (ownL ρ i) d ρ
  | .exc s ρ => .exc s ρ
  | .bad => .bad
@[simp] theorem kIxO_ok0 (i : Nat) (d : D) (ρ : Rho) : kIxO (.ok d ρ) i = ixK (ownL ρ i) d ρ := id rfl
@[simp] theorem kIxO_exc (i : Nat) (s : Str) (ρ : Rho) : kIxO (.exc s ρ) i = .exc s ρ := id rfl
@[simp] theorem kIxO_bad (i : Nat) : kIxO .bad i = .bad := id rfl
def putK2 (o : Option Nat) (ds : List D) (i : Nat) (d : D) (ρ : Rho) : SR := match o with
  | some n => .next (ρ.set i (.own (.lst (ds.set n d))))
  | none => .bad
@[simp] theorem putK2_some (n : Nat) (ds : List D) (i : Nat) (d : D) (ρ : Rho) : putK2 (some n) ds i d ρ = .next (ρ.set i (.own (.lst (ds.set n d)))) := id rfl
def putK (j : D) (o : Option (List D)) (i : Nat) (d : D) (ρ : Rho) : SR := match j, o with
  | .int jj, some ds => putK2 (ixN ds.length jj) ds i d ρ
  | _, _ => .bad
@[simp] theorem putK_some (jj : Int) (ds : List D) (i : Nat) (d : D) (ρ : Rho) : putK (.int jj) (some ds) i d ρ = putK2 (ixN ds.length jj) ds i d ρ := id rfl
def kPut2 (r : MR D) (i : Nat) (x : D) : SR := match r with
  | .ok d ρ => putK d (ownL ρ i) i x ρ
  | .exc s ρ => .exc s ρ
  | .bad => .bad
@[simp] theorem kPut2_ok0 (i : Nat) (x : D) (d : D) (ρ : Rho) : kPut2 (.ok d ρ) i x = putK d (ownL ρ i) i x ρ := id rfl
@[simp] theorem kPut2_exc (i : Nat) (x : D) (s : Str) (ρ : Rho) : kPut2 (.exc s ρ) i x = .exc s ρ := id rfl
@[simp] theorem kPut2_bad (i : Nat) (x : D) : kPut2 .bad i x = .bad := id rfl
def kPut (r : MR D) (i : Nat) (mb : M D) : SR := match r with
  | .ok d ρ => if (ownL ρ i).isSome then kPut2 (mb ρ) i d else .bad
  | .exc s ρ => .exc s ρ
  | .bad => .bad
@[simp] theorem kPut_ok0 (i : Nat) (mb : M D) (d : D) (ρ : Rho) : kPut (.ok d ρ) i mb = if (ownL ρ i).isSome then kPut2 (mb ρ) i d else .bad := id rfl
@[simp] theorem kPut_exc (i : Nat) (mb : M D) (s : Str) (ρ : Rho) : kPut (.exc s ρ) i mb = .exc s ρ := id rfl
@[simp] theorem kPut_bad (i : Nat) (mb : M D) : kPut .bad i mb = .bad := id rfl
def inK (o : Option (List Int)) (t : Option (List (List Int × D))) (neg : Bool) (ρ : Rho) : MR D := match o, t with
  | some ns, some kvs => .ok (.bool (xor neg (lookT kvs ns).isSome)) ρ
  | _, _ => .bad
@[simp] theorem inK_some (ns : List Int) (kvs : List (List Int × D)) (neg : Bool) (ρ : Rho) : inK (some ns) (some kvs) neg ρ = .ok (.bool (xor neg (lookT kvs ns).isSome)) ρ := id rfl
def kInT (r : MR D) (neg : Bool) (i : Nat) : MR D := match r with
  | .ok d ρ => inK (keyT d) (ownT ρ i) neg ρ
  | .exc s ρ => .exc s ρ
  | .bad => .bad
@[simp] theorem kInT_ok0 (neg : Bool) (i : Nat) (d : D) (ρ : Rho) : kInT (.ok d ρ) neg i = inK (keyT d) (ownT ρ i) neg ρ := id rfl
@[simp] theorem kInT_exc (neg : Bool) (i : Nat) (s : Str) (ρ : Rho) : kInT (.exc s ρ) neg i = .exc s ρ := id rfl
@[simp] theorem kInT_bad (neg : Bool) (i : Nat) : kInT .bad neg i = .bad := id rfl
section
variable {ρ ρ1 ρ2 : Rho} {m ma mb mc md : M D} {na : M (List D)} {i j n : Nat} {d e : D} {ds es : List D}
/-! ### what the forms give, at an environment -/
@[simp] theorem ev_var : mVar i ρ = match ρ[i]? with | some (.val d) => .ok d ρ | _ => .bad := id rfl
@[simp] theorem ev_frz : mFrz i ρ = match ρ[i]? with | some (.val d) => .ok d ρ | some (.own o) => .ok o.d (ρ.set i (.val o.d)) | _ => .bad := id rfl
@[simp] theorem ev_c : mC d ρ = .ok d ρ := id rfl
@[simp] theorem ev_bin {f : D → D → Option D} : mBin f ma mb ρ = kBin (ma ρ) f mb := by
  unfold mBin; cases ma ρ <;> try rfl
  rename_i a r; show bnd (mb r) _ = kBin2 (mb r) f a; cases mb r <;> rfl
@[simp] theorem ev_un {f : D → Option D} : mUn f ma ρ = kUn (ma ρ) f := by unfold mUn; cases ma ρ <;> rfl
@[simp] theorem ev_app {f : List D → Option D} : mApp f na ρ = kApp (na ρ) f := by unfold mApp; cases na ρ <;> rfl
@[simp] theorem ev_appL {f : List D → Option Ob} : mAppL f na ρ = kAppL (na ρ) f := by unfold mAppL; cases na ρ <;> rfl
@[simp] theorem ev_binL {f : D → D → Option Ob} : mBinL f ma mb ρ = kBinL (ma ρ) f mb := by
  unfold mBinL; cases ma ρ <;> try rfl
  rename_i a r; show bnd (mb r) _ = kBinL2 (mb r) f a; cases mb r <;> rfl
@[simp] theorem ev_nil : mNil ρ = .ok [] ρ := id rfl
@[simp] theorem ev_cons : mCons ma na ρ = kCons (ma ρ) na := by
  unfold mCons; cases ma ρ <;> try rfl
  rename_i a r; show bnd (na r) _ = kCons2 (na r) a; cases na r <;> rfl
@[simp] theorem ev_tup : mTup na ρ = kTup (na ρ) := by unfold mTup; cases na ρ <;> rfl
@[simp] theorem ev_lst : mLst na ρ = kLst (na ρ) := by unfold mLst; cases na ρ <;> rfl
@[simp] theorem ev_ld {mo : M Ob} : mLd mo ρ = kLd (mo ρ) := by unfold mLd; cases mo ρ <;> rfl
@[simp] theorem ob_lst : (Ob.lst ds).d = .list ds := rfl
@[simp] theorem ev_andV : mAndV ma mb ρ = kAnd (ma ρ) mb := by
  unfold mAndV; cases ma ρ <;> try rfl
  rename_i a r; cases a <;> try rfl
  rename_i b; cases b <;> rfl
@[simp] theorem ev_orV : mOrV ma mb ρ = kOr (ma ρ) mb := by
  unfold mOrV; cases ma ρ <;> try rfl
  rename_i a r; cases a <;> try rfl
  rename_i b; cases b <;> rfl
@[simp] theorem ev_notV : mNotV ma ρ = kNot (ma ρ) := by
  unfold mNotV; cases ma ρ <;> try rfl
  rename_i a r; cases a <;> rfl
@[simp] theorem ev_asB : asB ma ρ = kAsB (ma ρ) := by
  unfold asB; cases ma ρ <;> try rfl
  rename_i a r; cases a <;> rfl
@[simp] theorem ev_tAnd {a b : M Bool} : tAndM a b ρ = kTAnd (a ρ) b := by
  unfold tAndM; cases a ρ <;> try rfl
  rename_i a r; cases a <;> rfl
@[simp] theorem ev_tOr {a b : M Bool} : tOrM a b ρ = kTOr (a ρ) b := by
  unfold tOrM; cases a ρ <;> try rfl
  rename_i a r; cases a <;> rfl
@[simp] theorem ev_tNot {a : M Bool} : tNotM a ρ = kTNot (a ρ) := by unfold tNotM; cases a ρ <;> rfl
@[simp] theorem ev_yes : tYesM ρ = .ok true ρ := id rfl
@[simp] theorem ev_if {c : M Bool} : mIf c ma mb ρ = kIf (c ρ) ma mb := by
  unfold mIf; cases c ρ <;> try rfl
  rename_i a r; cases a <;> rfl
theorem kCh2_eq {f f' : D → D → Option D} {x y : D} {r : Rho} : (match f x y with
  | some (.bool true) => bnd (mc r) fun z ρ3 => lft (f' y z) ρ3
  | some (.bool false) => .ok (.bool false) r
  | _ => .bad) = kCh2 (f x y) r mc f' y := by
  cases f x y with
  | none => rfl
  | some o =>
    cases o <;> try rfl
    rename_i b; cases b <;> try rfl
    show bnd (mc r) _ = kBin2 (mc r) f' y; cases mc r <;> rfl
@[simp] theorem ev_chain {f f' : D → D → Option D} : mChain f f' ma mb mc ρ = kCh (ma ρ) f f' mb mc := by
  unfold mChain; cases ma ρ <;> try rfl
  rename_i a r; show bnd (mb r) _ = kChB (mb r) f f' a mc; cases mb r <;> try rfl
  exact kCh2_eq
@[simp] theorem ev_ch3 {f1 f2 f3 : D → D → Option D} : mCh3 f1 f2 f3 ma mb mc md ρ = kC3A (ma ρ) f1 f2 f3 mb mc md := by
  unfold mCh3; cases ma ρ <;> try rfl
  rename_i a r; show bnd (mb r) _ = kC3B (mb r) f1 f2 f3 a mc md; cases mb r <;> try rfl
  rename_i y r2
  show (match f1 a y with
  | some (.bool true) => _
  | some (.bool false) => _
  | _ => _) = kC3 (f1 a y) r2 mc md f2 f3 y
  cases f1 a y with
  | none => rfl
  | some o =>
    cases o <;> try rfl
    rename_i b; cases b <;> try rfl
    show bnd (mc r2) _ = kChB (mc r2) f2 f3 y md; cases mc r2 <;> try rfl
    exact kCh2_eq
@[simp] theorem ev_isi {T : String} : mIsi T ma ρ = kUn (ma ρ) (fIsi T) := ev_un
@[simp] theorem ev_call {fn : List D → FR} : mCall n fn na ρ = kCall (na ρ) n fn := by unfold mCall; cases na ρ <;> rfl
@[simp] theorem ev_callL {fn : List D → FRL} : mCallL n fn na ρ = kCallL (na ρ) n fn := by unfold mCallL; cases na ρ <;> rfl
@[simp] theorem ev_oNo : oNo ρ = .ok none ρ := id rfl
@[simp] theorem ev_oSome : oSome ma ρ = kOS (ma ρ) := by
  unfold oSome; cases ma ρ <;> try rfl
  rename_i a r; cases a <;> rfl
@[simp] theorem ev_sl {ml mh : M (Option Int)} : mSl ma ml mh ρ = kSl (ma ρ) ml mh := by
  unfold mSl; cases ma ρ <;> try rfl
  rename_i a r; show bnd (ml r) _ = kSl2 (ml r) a mh; cases ml r <;> try rfl
  rename_i v r2; show bnd (mh r2) _ = kSl3 (mh r2) a v; cases mh r2 <;> rfl
@[simp] theorem ev_rep {mo : M Ob} : mRep mo mb ρ = kRep (mo ρ) mb := by
  unfold mRep; cases mo ρ <;> try rfl
  rename_i a r; show bnd (mb r) _ = kRep2 (mb r) a; cases mb r <;> rfl
@[simp] theorem ev_iSeq : iSeq ma ρ = kSeqD (ma ρ) := by unfold iSeq; cases ma ρ <;> rfl
@[simp] theorem ev_iRange1 : iRange1 na ρ = kLD (na ρ) rng1 := by unfold iRange1; cases na ρ <;> rfl
@[simp] theorem ev_iRange2 : iRange2 na ρ = kLD (na ρ) rng2 := by unfold iRange2; cases na ρ <;> rfl
@[simp] theorem seqD_list : seqD (.list ds) = some ds := rfl
@[simp] theorem seqD_tuple : seqD (.tuple ds) = some ds := rfl
/-! statements -/
@[simp] theorem ev_next : sNext ρ = .next ρ := id rfl
@[simp] theorem ev_seq {a b : MS} : sSeq a b ρ = thn2 (a ρ) b := id rfl
@[simp] theorem ev_sIf {c : M Bool} {a b : MS} : sIf c a b ρ = kSIf (c ρ) a b := by
  unfold sIf; cases c ρ <;> try rfl
  rename_i a r; cases a <;> rfl
@[simp] theorem ev_ret : sRet m ρ = kRet (m ρ) := by unfold sRet; cases m ρ <;> rfl
@[simp] theorem ev_retN : sRetN ρ = .ret .none ρ := id rfl
@[simp] theorem ev_set : sSet i m ρ = kSet (m ρ) i := by unfold sSet; cases m ρ <;> rfl
@[simp] theorem ev_setL {mo : M Ob} : sSetL i mo ρ = kSetL (mo ρ) i := by unfold sSetL; cases mo ρ <;> rfl
@[simp] theorem ev_drop : sDrop m ρ = kDrop (m ρ) := by unfold sDrop; cases m ρ <;> rfl
@[simp] theorem ev_brk : sBrk ρ = .brk ρ := id rfl
@[simp] theorem ev_cont : sCont ρ = .cont ρ := id rfl
@[simp] theorem ev_raise {x : Str} : sRaise x ρ = .exc x ρ := id rfl
@[simp] theorem ev_unp {gs : D → Rho → Option Rho} : sUnp m gs ρ = kUnp (m ρ) gs := by
  unfold sUnp; cases m ρ <;> try rfl
@[simp] theorem ev_par : sPar i j na ρ = kPar (na ρ) i j := by unfold sPar; cases na ρ <;> rfl
@[simp] theorem ev_for {mi : M (List D)} {gs : D → Rho → Option Rho} {body : MS} : sFor mi gs body ρ = kFor (mi ρ) gs body := by unfold sFor; cases mi ρ <;> rfl
@[simp] theorem ev_gSet : gSet i d ρ = some (ρ.set i (.val d)) := id rfl
@[simp] theorem ev_gTup {r : List D → Rho → Option Rho} : gTupD r (.tuple ds) ρ = r ds ρ := id rfl
@[simp] theorem ev_gsNil : gsNil [] ρ = some ρ := id rfl
def gsK (o : Option Rho) (r : List D → Rho → Option Rho) (ds : List D) : Option Rho := match o with
  | some ρ1 => r ds ρ1
  | none => none
@[simp] theorem gsK_some {r : List D → Rho → Option Rho} : gsK (some ρ) r ds = r ds ρ := id rfl
@[simp] theorem ev_gsCons {f : D → Rho → Option Rho} {r : List D → Rho → Option Rho} : gsCons f r (d :: ds) ρ = gsK (f d ρ) r ds := id rfl
@[simp] theorem ev_ownL : ownL ρ i = match ρ[i]? with | some (.own (.lst ts)) => some ts | _ => none := by
  unfold ownL; split <;> simp_all
@[simp] theorem ev_append : sAppend i ma ρ = if (ownL ρ i).isSome then kApnd (ma ρ) i else .bad := by
  unfold sAppend; cases ownL ρ i <;> try rfl
  rename_i v
  show sBnd (ma ρ) _ = kApnd (ma ρ) i
  cases ma ρ <;> rfl
@[simp] theorem ev_ixO : mIxO i mb ρ = if (ownL ρ i).isSome then kIxO (mb ρ) i else .bad := by
  unfold mIxO; cases ownL ρ i <;> try rfl
  rename_i v
  show bnd (mb ρ) _ = kIxO (mb ρ) i
  cases mb ρ <;> rfl
@[simp] theorem ev_lenO : mLenO i ρ = match ownL ρ i with | some ds => .ok (.int ds.length) ρ | none => .bad := id rfl
@[simp] theorem ev_putO : sPutO i mb ma ρ = kPut (ma ρ) i mb := by
  unfold sPutO; cases ma ρ <;> try rfl
  rename_i d r
  show _ = if (ownL r i).isSome then kPut2 (mb r) i d else .bad
  rw [sBnd_ok]
  cases ownL r i <;> try rfl
  show sBnd (mb r) _ = kPut2 (mb r) i d
  cases mb r <;> rfl
@[simp] theorem ev_callT {fn : D → List D → List D → FRT} : mCallT n fn ma j na ρ = kCallT (ma ρ) n fn j na := by
  unfold mCallT; cases ma ρ <;> try rfl
  rename_i d r
  show _ = if (ownL r j).isSome then kCallT2 (na r) n fn d j else .bad
  rw [bnd_ok]
  cases ownL r j <;> try rfl
  show bnd (na r) _ = kCallT2 (na r) n fn d j
  cases na r <;> rfl
def ctK (o : Option (List D)) (fn : D → List D → List D → FRT) (d : D) (j : Nat) (ds : List D) (ρ : Rho) : MR D := match o with
  | some ts => frTM (fn d ts ds) j ρ
  | none => .bad
@[simp] theorem ctK_some {ts : List D} {fn : D → List D → List D → FRT} : ctK (some ts) fn d j ds ρ = frTM (fn d ts ds) j ρ := id rfl
@[simp] theorem ev_callT' {fn : D → List D → List D → FRT} : callT fn d j ds ρ = ctK (ownL ρ j) fn d j ds ρ := by
  unfold callT ctK; cases ownL ρ j <;> rfl
end
section
variable {ρ : Rho} {ma : M D} {i : Nat} {ds : List D}
@[simp] theorem ev_ownT : ownT ρ i = match ρ[i]? with | some (.own (.dT ts)) => some ts | _ => none := by
  unfold ownT; split <;> simp_all
@[simp] theorem ev_inT {neg : Bool} : mInT neg ma i ρ = kInT (ma ρ) neg i := by
  unfold mInT; cases ma ρ <;> rfl
@[simp] theorem keyT_tup : keyT (.tuple ds) = intsOf ds := id rfl
@[simp] theorem intsOf_nil : intsOf [] = some [] := id rfl
@[simp] theorem intsOf_cons (i : Int) : intsOf (.int i :: ds) = (intsOf ds).map (i :: ·) := id rfl
end
/-! ### types -/
theorem kit_none_int : kitB (tyD .none) "int" = some false := by decide +kernel
@[simp] theorem isi_none_int  : fIsi "int" .none = some (.bool false) := congrArg (Option.map PyData.bool) kit_none_int
theorem kit_bool_int : kitB (tyD (.bool true)) "int" = some true := by decide +kernel
@[simp] theorem isi_bool_int {b : Bool} : fIsi "int" (.bool b) = some (.bool true) := congrArg (Option.map PyData.bool) kit_bool_int
theorem kit_int_int : kitB (tyD (.int 0)) "int" = some true := by decide +kernel
@[simp] theorem isi_int_int {i : Int} : fIsi "int" (.int i) = some (.bool true) := congrArg (Option.map PyData.bool) kit_int_int
theorem kit_str_int : kitB (tyD (.str ⟨#[]⟩)) "int" = some false := by decide +kernel
@[simp] theorem isi_str_int {z : Str} : fIsi "int" (.str z) = some (.bool false) := congrArg (Option.map PyData.bool) kit_str_int
theorem kit_list_int : kitB (tyD (.list [])) "int" = some false := by decide +kernel
@[simp] theorem isi_list_int {ds : List D} : fIsi "int" (.list ds) = some (.bool false) := congrArg (Option.map PyData.bool) kit_list_int
theorem kit_tuple_int : kitB (tyD (.tuple [])) "int" = some false := by decide +kernel
@[simp] theorem isi_tuple_int {ds : List D} : fIsi "int" (.tuple ds) = some (.bool false) := congrArg (Option.map PyData.bool) kit_tuple_int
theorem kit_none_bool : kitB (tyD .none) "bool" = some false := by decide +kernel
@[simp] theorem isi_none_bool  : fIsi "bool" .none = some (.bool false) := congrArg (Option.map PyData.bool) kit_none_bool
theorem kit_bool_bool : kitB (tyD (.bool true)) "bool" = some true := by decide +kernel
@[simp] theorem isi_bool_bool {b : Bool} : fIsi "bool" (.bool b) = some (.bool true) := congrArg (Option.map PyData.bool) kit_bool_bool
theorem kit_int_bool : kitB (tyD (.int 0)) "bool" = some false := by decide +kernel
@[simp] theorem isi_int_bool {i : Int} : fIsi "bool" (.int i) = some (.bool false) := congrArg (Option.map PyData.bool) kit_int_bool
theorem kit_str_bool : kitB (tyD (.str ⟨#[]⟩)) "bool" = some false := by decide +kernel
@[simp] theorem isi_str_bool {z : Str} : fIsi "bool" (.str z) = some (.bool false) := congrArg (Option.map PyData.bool) kit_str_bool
theorem kit_list_bool : kitB (tyD (.list [])) "bool" = some false := by decide +kernel
@[simp] theorem isi_list_bool {ds : List D} : fIsi "bool" (.list ds) = some (.bool false) := congrArg (Option.map PyData.bool) kit_list_bool
theorem kit_tuple_bool : kitB (tyD (.tuple [])) "bool" = some false := by decide +kernel
@[simp] theorem isi_tuple_bool {ds : List D} : fIsi "bool" (.tuple ds) = some (.bool false) := congrArg (Option.map PyData.bool) kit_tuple_bool
theorem kit_none_tuple : kitB (tyD .none) "tuple" = some false := by decide +kernel
@[simp] theorem isi_none_tuple  : fIsi "tuple" .none = some (.bool false) := congrArg (Option.map PyData.bool) kit_none_tuple
theorem kit_bool_tuple : kitB (tyD (.bool true)) "tuple" = some false := by decide +kernel
@[simp] theorem isi_bool_tuple {b : Bool} : fIsi "tuple" (.bool b) = some (.bool false) := congrArg (Option.map PyData.bool) kit_bool_tuple
theorem kit_int_tuple : kitB (tyD (.int 0)) "tuple" = some false := by decide +kernel
@[simp] theorem isi_int_tuple {i : Int} : fIsi "tuple" (.int i) = some (.bool false) := congrArg (Option.map PyData.bool) kit_int_tuple
theorem kit_str_tuple : kitB (tyD (.str ⟨#[]⟩)) "tuple" = some false := by decide +kernel
@[simp] theorem isi_str_tuple {z : Str} : fIsi "tuple" (.str z) = some (.bool false) := congrArg (Option.map PyData.bool) kit_str_tuple
theorem kit_list_tuple : kitB (tyD (.list [])) "tuple" = some false := by decide +kernel
@[simp] theorem isi_list_tuple {ds : List D} : fIsi "tuple" (.list ds) = some (.bool false) := congrArg (Option.map PyData.bool) kit_list_tuple
theorem kit_tuple_tuple : kitB (tyD (.tuple [])) "tuple" = some true := by decide +kernel
@[simp] theorem isi_tuple_tuple {ds : List D} : fIsi "tuple" (.tuple ds) = some (.bool true) := congrArg (Option.map PyData.bool) kit_tuple_tuple
theorem kit_none_str : kitB (tyD .none) "str" = some false := by decide +kernel
@[simp] theorem isi_none_str  : fIsi "str" .none = some (.bool false) := congrArg (Option.map PyData.bool) kit_none_str
theorem kit_bool_str : kitB (tyD (.bool true)) "str" = some false := by decide +kernel
@[simp] theorem isi_bool_str {b : Bool} : fIsi "str" (.bool b) = some (.bool false) := congrArg (Option.map PyData.bool) kit_bool_str
theorem kit_int_str : kitB (tyD (.int 0)) "str" = some false := by decide +kernel
@[simp] theorem isi_int_str {i : Int} : fIsi "str" (.int i) = some (.bool false) := congrArg (Option.map PyData.bool) kit_int_str
theorem kit_str_str : kitB (tyD (.str ⟨#[]⟩)) "str" = some true := by decide +kernel
@[simp] theorem isi_str_str {z : Str} : fIsi "str" (.str z) = some (.bool true) := congrArg (Option.map PyData.bool) kit_str_str
theorem kit_list_str : kitB (tyD (.list [])) "str" = some false := by decide +kernel
@[simp] theorem isi_list_str {ds : List D} : fIsi "str" (.list ds) = some (.bool false) := congrArg (Option.map PyData.bool) kit_list_str
theorem kit_tuple_str : kitB (tyD (.tuple [])) "str" = some false := by decide +kernel
@[simp] theorem isi_tuple_str {ds : List D} : fIsi "str" (.tuple ds) = some (.bool false) := congrArg (Option.map PyData.bool) kit_tuple_str
theorem kit_none_list : kitB (tyD .none) "list" = some false := by decide +kernel
@[simp] theorem isi_none_list  : fIsi "list" .none = some (.bool false) := congrArg (Option.map PyData.bool) kit_none_list
theorem kit_bool_list : kitB (tyD (.bool true)) "list" = some false := by decide +kernel
@[simp] theorem isi_bool_list {b : Bool} : fIsi "list" (.bool b) = some (.bool false) := congrArg (Option.map PyData.bool) kit_bool_list
theorem kit_int_list : kitB (tyD (.int 0)) "list" = some false := by decide +kernel
@[simp] theorem isi_int_list {i : Int} : fIsi "list" (.int i) = some (.bool false) := congrArg (Option.map PyData.bool) kit_int_list
theorem kit_str_list : kitB (tyD (.str ⟨#[]⟩)) "list" = some false := by decide +kernel
@[simp] theorem isi_str_list {z : Str} : fIsi "list" (.str z) = some (.bool false) := congrArg (Option.map PyData.bool) kit_str_list
theorem kit_list_list : kitB (tyD (.list [])) "list" = some true := by decide +kernel
@[simp] theorem isi_list_list {ds : List D} : fIsi "list" (.list ds) = some (.bool true) := congrArg (Option.map PyData.bool) kit_list_list
theorem kit_tuple_list : kitB (tyD (.tuple [])) "list" = some false := by decide +kernel
@[simp] theorem isi_tuple_list {ds : List D} : fIsi "list" (.tuple ds) = some (.bool false) := congrArg (Option.map PyData.bool) kit_tuple_list
end DX

set_option maxHeartbeats 1000000
namespace DX
open PySem PySem.Spec PyProof.Rows L2
/-! ### loops over data that tell things of a type -/
section
variable {α : Type} {gs : D → Rho → Option Rho} {body : MS} {e : α → D}
theorem forL_any (p : α → Bool) (d : D) (I : Rho → Prop) : ∀ (ys : List α) (ρ : Rho), I ρ →
    (∀ y ∈ ys, ∀ ρ, I ρ → ∃ ρ1, gs (e y) ρ = some ρ1 ∧ (p y = true → ∃ ρ', body ρ1 = .ret d ρ') ∧ (p y = false → ∃ ρ2, (body ρ1 = .next ρ2 ∨ body ρ1 = .cont ρ2) ∧ I ρ2)) →
    (ys.any p = true → ∃ ρ', forL gs body (ys.map e) ρ = .ret d ρ') ∧ (ys.any p = false → ∃ ρ', forL gs body (ys.map e) ρ = .next ρ' ∧ I ρ')
  | [], ρ, h0, _ => ⟨fun h => by simp at h, fun _ => ⟨ρ, rfl, h0⟩⟩
  | y :: ys, ρ, h0, st => by
    obtain ⟨ρ1, e1, hp, hn⟩ := st y List.mem_cons_self ρ h0
    have un : forL gs body ((y :: ys).map e) ρ = match body ρ1 with
      | .next ρ2 => forL gs body (ys.map e) ρ2
      | .cont ρ2 => forL gs body (ys.map e) ρ2
      | .brk ρ2 => .next ρ2
      | r => r := by rw [List.map_cons, forL, e1] <;> rfl
    cases q : p y with
    | true =>
      obtain ⟨ρ', e2⟩ := hp q
      refine ⟨fun _ => ⟨ρ', by rw [un, e2]⟩, fun h => by simp [q] at h⟩
    | false =>
      obtain ⟨ρ2, e2, h2⟩ := hn q
      obtain ⟨a, b⟩ := forL_any p d I ys ρ2 h2 fun z hz => st z (List.mem_cons_of_mem _ hz)
      have un2 : forL gs body ((y :: ys).map e) ρ = forL gs body (ys.map e) ρ2 := by
        rw [un]; rcases e2 with e2 | e2 <;> rw [e2]
      rw [un2, List.any_cons, q, Bool.false_or]
      exact ⟨a, b⟩
theorem forL_next (I : Nat → Rho → Prop) : ∀ (ys : List α) (k : Nat) (ρ : Rho), I k ρ →
    (∀ i y, ys[i]? = some y → ∀ ρ, I (k + i) ρ → ∃ ρ1 ρ2, gs (e y) ρ = some ρ1 ∧ (body ρ1 = .next ρ2 ∨ body ρ1 = .cont ρ2) ∧ I (k + i + 1) ρ2) →
    ∃ ρ', forL gs body (ys.map e) ρ = .next ρ' ∧ I (k + ys.length) ρ'
  | [], k, ρ, h0, _ => ⟨ρ, rfl, h0⟩
  | y :: ys, k, ρ, h0, st => by
    obtain ⟨ρ1, ρ2, e1, e2, h2⟩ := st 0 y rfl ρ h0
    obtain ⟨ρ', e3, h3⟩ := forL_next I ys (k + 1) ρ2 h2 fun i z hz ρ hρ => by
      have := st (i + 1) z (by simpa using hz) ρ (by rw [show k + (i + 1) = k + 1 + i by omega]; exact hρ)
      rw [show k + (i + 1) + 1 = k + 1 + i + 1 by omega] at this
      exact this
    refine ⟨ρ', ?_, by rw [show k + (y :: ys).length = k + 1 + ys.length by simp; omega]; exact h3⟩
    rw [List.map_cons, forL, e1]
    rcases e2 with e2 | e2 <;> simp only [e2] <;> exact e3
end

/-! ### comprehensions -/
theorem wipeR_get_in {ρ : Rho} {i : Nat} : ∀ {vs : List Nat}, i ∉ vs → (wipeR ρ vs)[i]? = ρ[i]?
  | [], _ => rfl
  | v :: vs, h => by
    unfold wipeR
    rw [List.getElem?_set_ne (fun e => h (by rw [e]; exact List.mem_cons_self))]
    exact wipeR_get_in fun z => h (List.mem_cons_of_mem _ z)
theorem unw_get_in {ρ1 ρ2 : Rho} {i : Nat} : ∀ {vs : List Nat}, i ∈ vs → i < ρ2.length → (unw ρ1 vs ρ2)[i]? = some (ρ1.getD i .no)
  | v :: vs, h, hl => by
    unfold unw
    by_cases hi : v = i
    · subst hi; rw [List.getElem?_set_self (by rw [unw_length]; exact hl)]
    · rw [List.getElem?_set_ne hi]
      exact unw_get_in (by cases h with | head => exact absurd rfl hi | tail _ h => exact h) hl
theorem unw_wipe {ρ1 ρ2 : Rho} {vs : List Nat} (h : ρ2 = wipeR ρ1 vs) : unw ρ1 vs ρ2 = ρ1 := by
  have hl : ρ2.length = ρ1.length := by rw [h, wipeR_length]
  apply List.ext_getElem?
  intro i
  by_cases hi : i ∈ vs
  · by_cases hlt : i < ρ1.length
    · rw [unw_get_in hi (by omega), List.getD_eq_getElem?_getD, List.getElem?_eq_getElem hlt]; rfl
    · rw [List.getElem?_eq_none (by rw [unw_length]; omega), List.getElem?_eq_none (by omega)]
  · rw [unw_out hi, h, wipeR_get_in hi]
section
variable {α : Type} {gs : D → Rho → Option Rho} {test : M Bool} {elt : M D} {vs : List Nat} {e f : α → D} {mi : M (List D)} {n : Nat}
theorem compL_pure (t : α → Bool) {ρ : Rho} : ∀ (ys : List α), (∀ y ∈ ys, ∃ ρ1, gs (e y) ρ = some ρ1 ∧ wipeR ρ1 vs = ρ ∧ test ρ1 = .ok (t y) ρ1 ∧ (t y = true → elt ρ1 = .ok (f y) ρ1)) →
    compL gs test elt vs (ys.map e) ρ = .ok ((ys.filter t).map f) ρ
  | [], _ => rfl
  | y :: ys, h => by
    obtain ⟨ρ1, e1, e2, e3, e4⟩ := h y List.mem_cons_self
    rw [List.map_cons, compL, e1]
    simp only [e3, cBnd_ok]
    have ih := compL_pure t ys fun z hz => h z (List.mem_cons_of_mem _ hz)
    cases q : t y with
    | true => simp only [e4 q, cBnd_ok, e2, ih, List.filter_cons, q, if_true, List.map_cons]
    | false => simp only [e2, ih, List.filter_cons, q]; rfl
theorem mComp_pure (t : α → Bool) (ys : List α) {ρ : Rho} (hi : mi ρ = .ok (ys.map e) ρ) (hno : noOwn ρ vs = true) (hl : ys.length ≤ sizeLine) (hn : ρ.length ≤ n)
    (h : ∀ y ∈ ys, ∃ ρ1, gs (e y) (wipeR ρ vs) = some ρ1 ∧ wipeR ρ1 vs = wipeR ρ vs ∧ test ρ1 = .ok (t y) ρ1 ∧ (t y = true → elt ρ1 = .ok (f y) ρ1)) :
    mComp n mi gs test elt vs ρ = .ok (.lst ((ys.filter t).map f)) ρ := by
  unfold mComp
  rw [hi]
  simp only [bnd_ok]
  rw [if_pos ⟨hno, by rw [List.length_map]; exact hl, hn⟩, compL_pure t ys h]
  simp only [cBnd_ok]
  rw [unw_wipe rfl]
theorem mComp_map (ys : List α) {ρ : Rho} (hi : mi ρ = .ok (ys.map e) ρ) (hno : noOwn ρ vs = true) (hl : ys.length ≤ sizeLine) (hn : ρ.length ≤ n)
    (h : ∀ y ∈ ys, ∃ ρ1, gs (e y) (wipeR ρ vs) = some ρ1 ∧ wipeR ρ1 vs = wipeR ρ vs ∧ elt ρ1 = .ok (f y) ρ1) :
    mComp n mi gs tYesM elt vs ρ = .ok (.lst (ys.map f)) ρ := by
  have := mComp_pure (test := tYesM) (f := f) (fun _ => true) ys hi hno hl hn fun y hy => by
    obtain ⟨ρ1, a, b, c⟩ := h y hy
    exact ⟨ρ1, a, b, rfl, fun _ => c⟩
  rw [this, List.filter_eq_self.mpr fun _ _ => rfl]
end

/-! ### equality -/
theorem eqvAll_map {α : Type} [DecidableEq α] {e : α → D} (h : ∀ a b, PyData.eqv (e a) (e b) = decide (a = b)) : ∀ as bs : List α, PyData.eqvAll (as.map e) (bs.map e) = decide (as = bs)
  | [], [] => by simp [PyData.eqvAll]
  | [], b :: bs => by simp [PyData.eqvAll]
  | a :: as, [] => by simp [PyData.eqvAll]
  | a :: as, b :: bs => by
    have ih := eqvAll_map h as bs
    simp only [List.map_cons, PyData.eqvAll, h, ih]
    by_cases h1 : a = b <;> by_cases h2 : as = bs <;> simp [h1, h2]
@[simp] theorem eqv_int (i j : Int) : PyData.eqv (.int i) (.int j) = decide (i = j) := by
  rw [PyData.eqv]; by_cases h : i = j <;> simp [h]
@[simp] theorem eqv_bool (i j : Bool) : PyData.eqv (.bool i) (.bool j) = (i == j) := by rw [PyData.eqv]
@[simp] theorem eqv_tuple (a b : List D) : PyData.eqv (.tuple a) (.tuple b) = PyData.eqvAll a b := by rw [PyData.eqv]
@[simp] theorem eqv_list (a b : List D) : PyData.eqv (.list a) (.list b) = PyData.eqvAll a b := by rw [PyData.eqv]
@[simp] theorem eqvAll_nil : PyData.eqvAll [] [] = true := by rw [PyData.eqvAll]
@[simp] theorem eqvAll_cons (a b : D) (as bs : List D) : PyData.eqvAll (a :: as) (b :: bs) = (PyData.eqv a b && PyData.eqvAll as bs) := by rw [PyData.eqvAll]
@[simp] theorem eqvAll_nc (b : D) (bs : List D) : PyData.eqvAll [] (b :: bs) = false := by rw [PyData.eqvAll]
@[simp] theorem eqvAll_cn (b : D) (bs : List D) : PyData.eqvAll (b :: bs) [] = false := by rw [PyData.eqvAll]
/-! ### shapes -/
def Sh (k : Nat) (d : D) : Prop := d.canLay0 = true ∧ d.depth ≤ k
theorem sh_int {k : Nat} {i : Int} : Sh k (.int i) := ⟨by rw [PyData.canLay0], by rw [PyData.depth]; exact Nat.zero_le _⟩
theorem sh_bool {k : Nat} {i : Bool} : Sh k (.bool i) := ⟨by rw [PyData.canLay0], by rw [PyData.depth]; exact Nat.zero_le _⟩
theorem sh_none {k : Nat} : Sh k .none := ⟨by rw [PyData.canLay0], by rw [PyData.depth]; exact Nat.zero_le _⟩
theorem sh_all {k : Nat} : ∀ {ds : List D}, (∀ d ∈ ds, Sh k d) → PyData.canLayAll0 ds = true ∧ PyData.depthAll ds ≤ k
  | [], _ => ⟨by rw [PyData.canLayAll0], by rw [PyData.depthAll]; exact Nat.zero_le _⟩
  | d :: ds, h => by
    obtain ⟨a, b⟩ := sh_all fun x hx => h x (List.mem_cons_of_mem _ hx)
    obtain ⟨a1, b1⟩ := h d List.mem_cons_self
    exact ⟨by rw [PyData.canLayAll0, a, a1]; rfl, by rw [PyData.depthAll]; omega⟩
theorem sh_list {k : Nat} {ds : List D} (h : ∀ d ∈ ds, Sh k d) : Sh (k + 1) (.list ds) := by
  obtain ⟨a, b⟩ := sh_all h
  exact ⟨by rw [PyData.canLay0]; exact a, by rw [PyData.depth]; omega⟩
theorem sh_tuple {k : Nat} {ds : List D} (h : ∀ d ∈ ds, Sh k d) : Sh (k + 1) (.tuple ds) := by
  obtain ⟨a, b⟩ := sh_all h
  exact ⟨by rw [PyData.canLay0]; exact a, by rw [PyData.depth]; omega⟩
theorem Sh.up {k k' : Nat} {d : D} (h : Sh k d) (hk : k ≤ k' := by decide) : Sh k' d := ⟨h.1, Nat.le_trans h.2 hk⟩
theorem Sh.s {k : Nat} {d : D} (h : Sh k d) (hk : k ≤ 64) : SeqAt.shaped d = true := by
  unfold SeqAt.shaped
  rw [h.1, Bool.true_and, decide_eq_true_eq]
  exact Nat.le_trans h.2 hk
theorem fEq_sh {k : Nat} {d e : D} (h1 : Sh k d) (h2 : Sh k e) (hk : k ≤ 64 := by decide) : fEq d e = some (.bool (PyData.eqv d e)) := by
  unfold fEq; rw [h1.s hk, h2.s hk]; rfl
theorem fNe_sh {k : Nat} {d e : D} (h1 : Sh k d) (h2 : Sh k e) (hk : k ≤ 64 := by decide) : fNe d e = some (.bool (!PyData.eqv d e)) := by
  unfold fNe; rw [h1.s hk, h2.s hk]; rfl
theorem fInT_sh {k : Nat} {d : D} {ds : List D} (h1 : Sh k d) (h2 : Sh k (.tuple ds)) (hk : k ≤ 64 := by decide) : fIn d (.tuple ds) = some (.bool (ds.any fun z => PyData.eqv z d)) := by
  show (if (SeqAt.shaped d && SeqAt.shaped _) = true then _ else _) = _
  rw [h1.s hk, h2.s hk]; simp
theorem fInL_sh {k : Nat} {d : D} {ds : List D} (h1 : Sh k d) (h2 : Sh k (.list ds)) (hk : k ≤ 64 := by decide) : fIn d (.list ds) = some (.bool (ds.any fun z => PyData.eqv z d)) := by
  show (if (SeqAt.shaped d && SeqAt.shaped _) = true then _ else _) = _
  rw [h1.s hk, h2.s hk]; simp
@[simp] theorem fEq_int (i j : Int) : fEq (.int i) (.int j) = some (.bool (decide (i = j))) := by rw [fEq_sh (k := 0) sh_int sh_int, eqv_int]
@[simp] theorem fNe_int (i j : Int) : fNe (.int i) (.int j) = some (.bool (!decide (i = j))) := by rw [fNe_sh (k := 0) sh_int sh_int, eqv_int]
@[simp] theorem fEq_bool (i j : Bool) : fEq (.bool i) (.bool j) = some (.bool (i == j)) := by rw [fEq_sh (k := 0) sh_bool sh_bool, eqv_bool]
@[simp] theorem fNe_bool (i j : Bool) : fNe (.bool i) (.bool j) = some (.bool (!(i == j))) := by rw [fNe_sh (k := 0) sh_bool sh_bool, eqv_bool]
@[simp] theorem fLt_int (i j : Int) : fLt (.int i) (.int j) = some (.bool (decide (i < j))) := rfl
@[simp] theorem fLe_int (i j : Int) : fLe (.int i) (.int j) = some (.bool (decide (i ≤ j))) := rfl
@[simp] theorem fGt_int (i j : Int) : fGt (.int i) (.int j) = some (.bool (decide (j < i))) := rfl
@[simp] theorem fGe_int (i j : Int) : fGe (.int i) (.int j) = some (.bool (decide (j ≤ i))) := rfl
@[simp] theorem fAdd_int (i j : Int) : fAdd (.int i) (.int j) = some (.int (i + j)) := rfl
@[simp] theorem fSub_int (i j : Int) : fSub (.int i) (.int j) = some (.int (i - j)) := rfl
@[simp] theorem fNeg_int (i : Int) : fNeg (.int i) = some (.int (-i)) := rfl
@[simp] theorem fLen_tuple (ds : List D) : fLen [.tuple ds] = some (.int ds.length) := rfl
@[simp] theorem fLen_list (ds : List D) : fLen [.list ds] = some (.int ds.length) := rfl
@[simp] theorem fAll_map {α : Type} (p : α → Bool) (ys : List α) : fAll [.list (ys.map fun y => .bool (p y))] = some (.bool (ys.all p)) := by
  have : ys.map (fun y => PyData.bool (p y)) = (ys.map p).map PyData.bool := by simp
  show (boolsOf _).map _ = _
  rw [this, boolsOf_map]
  simp [Function.comp_def]
@[simp] theorem fAny_map {α : Type} (p : α → Bool) (ys : List α) : fAny [.list (ys.map fun y => .bool (p y))] = some (.bool (ys.any p)) := by
  have : ys.map (fun y => PyData.bool (p y)) = (ys.map p).map PyData.bool := by simp
  show (boolsOf _).map _ = _
  rw [this, boolsOf_map]
  simp [Function.comp_def]
@[simp] theorem fTuple_list (ds : List D) : fTuple [.list ds] = some (.tuple ds) := rfl
@[simp] theorem fTuple_tuple (ds : List D) : fTuple [.tuple ds] = some (.tuple ds) := rfl
/-! ### places -/
theorem atI_nat {α : Type} (xs : List α) (i : Nat) : atI xs (i : Int) = xs[i]? := by
  unfold atI ixN
  rw [if_pos (by omega)]
  by_cases h : i < xs.length
  · rw [if_pos (by omega)]; simp
  · rw [if_neg (by omega), List.getElem?_eq_none (by omega)]; rfl
@[simp] theorem fIx_tuple (ds : List D) (i : Int) : fIx (.tuple ds) (.int i) = atI ds i := rfl
@[simp] theorem fIx_list (ds : List D) (i : Int) : fIx (.list ds) (.int i) = atI ds i := rfl
@[simp] theorem atI_0 {α : Type} (x : α) (xs : List α) : atI (x :: xs) 0 = some x := atI_nat (x :: xs) 0
@[simp] theorem atI_1 {α : Type} (x y : α) (xs : List α) : atI (x :: y :: xs) 1 = some y := atI_nat (x :: y :: xs) 1
@[simp] theorem atI_2 {α : Type} (x y z : α) (xs : List α) : atI (x :: y :: z :: xs) 2 = some z := atI_nat (x :: y :: z :: xs) 2
@[simp] theorem szl (n : Nat) : (n ≤ sizeLine) = (n ≤ 16777216) := by rw [show sizeLine = 16777216 from rfl]
theorem rng1_nat (n : Nat) (h : n < 2 ^ 62) : rng1 [.int n] = some ((List.range n).map fun (i : Nat) => .int (i : Int)) := by
  have e : rng1 [.int n] = if -(2 ^ 62) ≤ (n : Int) ∧ (n : Int) < 2 ^ 62 then some (rangeD 0 (n : Int).toNat) else none := by rw [rng1]
  rw [e, if_pos ⟨by omega, by omega⟩]
  simp [rangeD]
theorem fMul_ok {i j : Int} (h : (-(2 ^ 64) < i ∧ i < 2 ^ 64) ∨ (-(2 ^ 64) < j ∧ j < 2 ^ 64)) : fMul (.int i) (.int j) = some (.int (i * j)) := by
  rw [fMul, if_pos h]
theorem fDiv_ok {i j : Int} (h : 0 < j ∧ j < 1073741824) : fDiv (.int i) (.int j) = some (.int (i / j)) := by rw [fDiv, if_pos h]
theorem fMod_ok {i j : Int} (h : 0 < j) : fMod (.int i) (.int j) = some (.int (i % j)) := by rw [fMod, if_pos h]
theorem fPow_ok {i j : Int} (h : 0 ≤ j ∧ j ≤ 1000000 ∧ i.natAbs < 2 ^ 64) : fPow (.int i) (.int j) = some (.int (i ^ j.toNat)) := by rw [fPow, if_pos h]
theorem ixN_nat {n k : Nat} (h : k < n) : ixN n (k : Int) = some k := by
  unfold ixN; rw [if_pos (by omega), if_pos (by omega)]; simp
theorem fEq_nil (ns : List Int) : fEq (.list (ns.map .int)) (.list []) = some (.bool (decide (ns = []))) := by
  rw [fEq_sh (k := 1) (sh_list fun d hd => by obtain ⟨i, _, rfl⟩ := List.mem_map.mp hd; exact sh_int) (sh_list fun d hd => by cases hd), eqv_list]
  cases ns <;> simp
end DX

set_option maxHeartbeats 1000000
namespace LB
open PySem PySem.Spec PyProof.Rows L2 DX
def fuel : Nat := 100000
def m__law_town : M Ob := (mBinL fCat (mLd (mLst (mCons (mC (.int 0)) mNil))) (mLd (mAppL fList (mCons (mVar 0) mNil))))
def fn__law_town : List D → FRL := runL 1 m__law_town
def m__law_draw : MS := (sSeq (sPutO 1 (mC (.int 0)) (mBin fAdd (mIxO 1 (mC (.int 0))) (mC (.int 1))))
    (sSeq (sIf (asB (mBin fEq (mVar 0) (mLd (mLst mNil)))) (sRet (mBin fMod (mBin fDiv (mBin fMul (mBin fMul (mIxO 1 (mC (.int 0))) (mIxO 1 (mC (.int 0)))) (mC (.int 7))) (mC (.int 3))) (mVar 2))) sNext)
    (sSeq (sSet 3 (mBin fMod (mIxO 1 (mC (.int 0))) (mApp fLen (mCons (mVar 0) mNil))))
    (sSeq (sSet 4 (mIxO 1 (mBin fAdd (mC (.int 1)) (mVar 3))))
    (sSeq (sIf (tAndM (asB (mBin fGe (mBin fIx (mVar 0) (mVar 3)) (mBin fPow (mC (.int 10)) (mC (.int 18))))) (asB (mBin fGt (mVar 4) (mC (.int 0))))) (sSeq (sPutO 1 (mBin fAdd (mC (.int 1)) (mVar 3)) (mBin fDiv (mVar 4) (mVar 2)))
    (sRet (mBin fMod (mVar 4) (mVar 2)))) sNext)
    (sSeq (sSet 5 (mBin fMod (mBin fAdd (mBin fIx (mVar 0) (mVar 3)) (mBin fMul (mC (.int 104729)) (mIxO 1 (mC (.int 0))))) (mC (.int 4294967291))))
    (sSeq (sSet 5 (mBin fMod (mBin fPow (mVar 5) (mC (.int 5))) (mC (.int 4294967279))))
    (sRet (mBin fMod (mBin fDiv (mBin fMod (mBin fAdd (mBin fMul (mBin fDiv (mVar 5) (mC (.int 64))) (mC (.int 69621))) (mVar 5)) (mC (.int 4294967231))) (mC (.int 8))) (mVar 2))))))))))
def fn__law_draw : D → List D → List D → FRT := runT 6 m__law_draw
def m__law_pick : MS := (sRet (mBin fIx (mVar 2) (mCallT 3 fn__law_draw (mVar 0) 1 (mCons (mApp fLen (mCons (mVar 2) mNil)) mNil))))
def fn__law_pick : D → List D → List D → FRT := runT 3 m__law_pick
/-! ### draws -/
/-- the town: a count, then what is left of each number of the script -/
def Town (ns : List Int) (b : Nat) (ts : List D) : Prop := ∃ (c : Nat) (ls : List Int), ts = .int c :: ls.map .int ∧ c ≤ b ∧ ls.length = ns.length
theorem Town.mono {ns : List Int} {b b' : Nat} {ts : List D} (h : Town ns b ts) (hb : b ≤ b') : Town ns b' ts := by
  obtain ⟨c, ls, e, h1, h2⟩ := h
  exact ⟨c, ls, e, by omega, h2⟩
theorem town_ok (ns : List Int) (h : ns.length ≤ 63) : ∃ ts, fn__law_town [.list (ns.map .int)] = .ok (.lst ts) ∧ Town ns 0 ts := by
  refine ⟨.int 0 :: ns.map .int, ?_, 0, ns, rfl, Nat.le_refl _, rfl⟩
  have h1 : 1 + ns.length ≤ 16777216 := by omega
  simp [fn__law_town, runL_eq, m__law_town, rho0, fList, fCat, Ob.d, h1]
theorem draw_ok {ns : List Int} {b : Nat} {ts : List D} (h : Town ns b ts) (hb : b < 2 ^ 60) (lim : Int) (h0 : 0 < lim) (h1 : lim < 2 ^ 30) :
    ∃ (r : Int) (ts' : List D), fn__law_draw (.list (ns.map .int)) ts [.int lim] = .ok (.int r) ts' ∧ 0 ≤ r ∧ r < lim ∧ Town ns (b + 1) ts' := by
  obtain ⟨c, ls, rfl, hc, hl⟩ := h
  have bnd : ∀ x : Int, 0 ≤ x % lim ∧ x % lim < lim := fun x => ⟨Int.emod_nonneg _ (by omega), Int.emod_lt_of_pos _ h0⟩
  have m1 : fMul (.int ((c : Int) + 1)) (.int ((c : Int) + 1)) = some (.int (((c : Int) + 1) * ((c : Int) + 1))) := fMul_ok (.inl ⟨by omega, by omega⟩)
  have m2 : ∀ x : Int, fMul (.int x) (.int 7) = some (.int (x * 7)) := fun x => fMul_ok (.inr ⟨by decide, by decide⟩)
  have d3 : ∀ x : Int, fDiv (.int x) (.int 3) = some (.int (x / 3)) := fun x => fDiv_ok ⟨by decide, by decide⟩
  have ml : ∀ x : Int, fMod (.int x) (.int lim) = some (.int (x % lim)) := fun x => fMod_ok h0
  have dl : ∀ x : Int, fDiv (.int x) (.int lim) = some (.int (x / lim)) := fun x => fDiv_ok ⟨h0, by omega⟩
  by_cases hn : ns = []
  · refine ⟨((c : Int) + 1) * ((c : Int) + 1) * 7 / 3 % lim, .int ((c : Int) + 1) :: ls.map .int, ?_, (bnd _).1, (bnd _).2, c + 1, ls, by simp, by omega, hl⟩
    have e := fEq_nil ns
    rw [decide_eq_true hn] at e
    simp [fn__law_draw, runT_eq, m__law_draw, rhoT, ixN, e, m1, m2, d3, ml]
  · have e := fEq_nil ns
    rw [decide_eq_false hn] at e
    have hpos : 0 < ns.length := by cases ns with | nil => exact absurd rfl hn | cons _ _ => simp
    obtain ⟨k, hk, hkl⟩ : ∃ k : Nat, ((c : Int) + 1) % (ns.length : Int) = (k : Int) ∧ k < ns.length := by
      refine ⟨(((c : Int) + 1) % (ns.length : Int)).toNat, ?_, ?_⟩
      · rw [Int.toNat_of_nonneg (Int.emod_nonneg _ (by omega))]
      · have := Int.emod_lt_of_pos ((c : Int) + 1) (show (0 : Int) < ns.length by omega)
        have := Int.emod_nonneg ((c : Int) + 1) (show (ns.length : Int) ≠ 0 by omega)
        omega
    have mn : fMod (.int ((c : Int) + 1)) (.int (ns.length : Int)) = some (.int (k : Int)) := by rw [fMod_ok (by omega), hk]
    have a1 : atI (PyData.int ((c : Int) + 1) :: ls.map PyData.int) (1 + (k : Int)) = some (.int (ls[k]'(by omega))) := by
      rw [show (1 + (k : Int)) = ((k + 1 : Nat) : Int) by omega, DX.atI_nat]
      simp [List.getElem?_eq_getElem (show k < ls.length by omega)]
    have a2 : atI (ns.map PyData.int) (k : Int) = some (.int ns[k]) := by
      rw [DX.atI_nat]; simp [List.getElem?_eq_getElem hkl]
    have i1 : ixN (ls.length + 1) (1 + (k : Int)) = some (k + 1) := by
      rw [show (1 + (k : Int)) = ((k + 1 : Nat) : Int) by omega, ixN_nat (by omega)]
    have p1 : fPow (.int 10) (.int 18) = some (.int 1000000000000000000) := by rw [fPow_ok ⟨by decide, by decide, by decide⟩]; rfl
    generalize hx : ls[k]'(by omega) = x at a1
    generalize hy : ns[k] = y at a2
    by_cases hbig : (1000000000000000000 : Int) ≤ y ∧ 0 < x
    · refine ⟨x % lim, .int ((c : Int) + 1) :: (ls.set k (x / lim)).map .int, ?_, (bnd _).1, (bnd _).2, c + 1, ls.set k (x / lim), by simp, by omega, by simpa using hl⟩
      simp [fn__law_draw, runT_eq, m__law_draw, rhoT, ixN_nat, e, mn, a1, a2, p1, hbig.1, hbig.2, dl, i1, ml, show ixN (ls.length + 1) 0 = some 0 from ixN_nat (k := 0) (by omega), List.map_set]
    · refine ⟨((((((y + 104729 * ((c : Int) + 1)) % 4294967291) ^ 5 % 4294967279) / 64 * 69621 + ((y + 104729 * ((c : Int) + 1)) % 4294967291) ^ 5 % 4294967279) % 4294967231) / 8) % lim, .int ((c : Int) + 1) :: ls.map .int, ?_, (bnd _).1, (bnd _).2, c + 1, ls, by simp, by omega, hl⟩
      · have t1 : (kTAnd (kAsB (lft (fGe (.int y) (.int 1000000000000000000)) [Cell.val (PyData.list (ns.map PyData.int)), Cell.own (Ob.lst (PyData.int ((c : Int) + 1) :: ls.map PyData.int)), Cell.val (PyData.int lim), Cell.val (PyData.int k), Cell.val (PyData.int x), Cell.no])) (asB (mBin fGt (mVar 4) (mC (.int 0))))) = .ok false [Cell.val (PyData.list (ns.map PyData.int)), Cell.own (Ob.lst (PyData.int ((c : Int) + 1) :: ls.map PyData.int)), Cell.val (PyData.int lim), Cell.val (PyData.int k), Cell.val (PyData.int x), Cell.no] := by
          by_cases h2 : (1000000000000000000 : Int) ≤ y
          · have h3 : ¬ 0 < x := fun z => hbig ⟨h2, z⟩
            simp [h2, h3]
          · simp [h2]
        have m4 : fMul (.int 104729) (.int ((c : Int) + 1)) = some (.int (104729 * ((c : Int) + 1))) := fMul_ok (.inl ⟨by decide, by decide⟩)
        have r1 : ∀ z : Int, fMod (.int z) (.int 4294967291) = some (.int (z % 4294967291)) := fun z => fMod_ok (by decide)
        have r2 : ∀ z : Int, fMod (.int z) (.int 4294967279) = some (.int (z % 4294967279)) := fun z => fMod_ok (by decide)
        have r3 : ∀ z : Int, fMod (.int z) (.int 4294967231) = some (.int (z % 4294967231)) := fun z => fMod_ok (by decide)
        have r4 : ∀ z : Int, fDiv (.int z) (.int 64) = some (.int (z / 64)) := fun z => fDiv_ok ⟨by decide, by decide⟩
        have r5 : ∀ z : Int, fDiv (.int z) (.int 8) = some (.int (z / 8)) := fun z => fDiv_ok ⟨by decide, by decide⟩
        have r6 : ∀ z : Int, fMul (.int z) (.int 69621) = some (.int (z * 69621)) := fun z => fMul_ok (.inr ⟨by decide, by decide⟩)
        have p5 : fPow (.int ((y + 104729 * ((c : Int) + 1)) % 4294967291)) (.int 5) = some (.int (((y + 104729 * ((c : Int) + 1)) % 4294967291) ^ 5)) := by
          refine fPow_ok ⟨by decide, by decide, ?_⟩
          have u1 := Int.emod_nonneg (y + 104729 * ((c : Int) + 1)) (show (4294967291 : Int) ≠ 0 by decide)
          have u2 := Int.emod_lt_of_pos (y + 104729 * ((c : Int) + 1)) (show (0 : Int) < 4294967291 by decide)
          omega
        simp [fn__law_draw, runT_eq, m__law_draw, rhoT, e, mn, a1, a2, p1, ml, show ixN (ls.length + 1) 0 = some 0 from ixN_nat (k := 0) (by omega), -fGe_int, t1, m4, r1, r2, r3, r4, r5, r6, p5]
theorem draw_nat {ns : List Int} {b : Nat} {ts : List D} (h : Town ns b ts) (hb : b < 2 ^ 60) (lim : Nat) (h0 : 0 < lim) (h1 : lim < 2 ^ 30) :
    ∃ (r : Nat) (ts' : List D), fn__law_draw (.list (ns.map .int)) ts [.int lim] = .ok (.int r) ts' ∧ r < lim ∧ Town ns (b + 1) ts' := by
  obtain ⟨r, ts', e, g0, g1, t⟩ := draw_ok h hb lim (by omega) (by omega)
  refine ⟨r.toNat, ts', ?_, by omega, t⟩
  rw [e, Int.toNat_of_nonneg g0]
theorem pick_ok {ns : List Int} {b : Nat} {ts : List D} (h : Town ns b ts) (hb : b < 2 ^ 60) (cs : List D) (h0 : 0 < cs.length) (h1 : cs.length < 2 ^ 30) :
    ∃ (d : D) (ts' : List D), fn__law_pick (.list (ns.map .int)) ts [.list cs] = .ok d ts' ∧ d ∈ cs ∧ Town ns (b + 1) ts' := by
  obtain ⟨r, ts', e, g1, t⟩ := draw_nat h hb cs.length h0 h1
  refine ⟨cs[r], ts', ?_, List.getElem_mem _, t⟩
  have a : atI cs (r : Int) = some cs[r] := by rw [DX.atI_nat, List.getElem?_eq_getElem g1]
  simp [fn__law_pick, runT_eq, m__law_pick, rhoT, e, a]
end LB

set_option maxHeartbeats 1000000
namespace LB
open PySem PySem.Spec PyProof.Rows L2 DX
def m_is_between : MS := (sRet (mAndV (mIsi "int" (mVar 0)) (mAndV (mNotV (mIsi "bool" (mVar 0))) (mChain fLe fLe (mVar 1) (mVar 0) (mVar 2)))))
def fn_is_between : List D → FR := runF 3 m_is_between
def c1_is_pair : M Ob := mComp 3 (iSeq (mVar 1)) (gSet 2) tYesM (mCall 3 fn_is_between (mCons (mVar 2) (mCons (mC (.int 0)) (mCons (mBin fSub (mVar 0) (mC (.int 1))) mNil)))) [2]
def m_is_pair : MS := (sRet (mAndV (mIsi "tuple" (mVar 1)) (mAndV (mBin fEq (mApp fLen (mCons (mVar 1) mNil)) (mC (.int 2))) (mApp fAll (mCons (mLd c1_is_pair) mNil)))))
def fn_is_pair : List D → FR := runF 3 m_is_pair
def c1_is_ascending : M Ob := mComp 2 (iRange1 (mCons (mBin fSub (mApp fLen (mCons (mVar 0) mNil)) (mC (.int 1))) mNil)) (gSet 1) tYesM (mBin fLt (mBin fIx (mVar 0) (mVar 1)) (mBin fIx (mVar 0) (mBin fAdd (mVar 1) (mC (.int 1))))) [1]
def m_is_ascending : MS := (sRet (mApp fAll (mCons (mLd c1_is_ascending) mNil)))
def fn_is_ascending : List D → FR := runF 2 m_is_ascending
def c1_is_closed : M Ob := mComp 7 (iSeq (mVar 0)) (gSet 2) tYesM (mTup (mCons (mVar 2) (mCons (mC (.bool true)) mNil))) [2]
def b1_is_closed : MS := (sIf (tAndM (asB (mBin fEq (mVar 4) (mVar 5))) (asB (mInT true (mTup (mCons (mVar 3) (mCons (mVar 6) mNil))) 1))) (sRet (mC (.bool false))) sNext)
def l1_is_closed : MS := sFor (iSeq (mVar 0)) (gTupD (gsCons (gSet 5) (gsCons (gSet 6) gsNil))) b1_is_closed
def b2_is_closed : MS := (sSeq (sIf (asB (mBin fEq (mVar 3) (mVar 4))) (sRet (mC (.bool false))) sNext)
    l1_is_closed)
def l2_is_closed : MS := sFor (iSeq (mVar 0)) (gTupD (gsCons (gSet 3) (gsCons (gSet 4) gsNil))) b2_is_closed
def m_is_closed : MS := (sSeq (sSetL 1 (mAppL fDictT (mCons (mLd c1_is_closed) mNil)))
    (sSeq l2_is_closed
    (sRet (mC (.bool true)))))
def fn_is_closed : List D → FR := runF 7 m_is_closed
def c1_is_order : M Ob := mComp 4 (iSeq (mVar 2)) (gSet 3) tYesM (mCall 2 fn_is_pair (mCons (mVar 1) (mCons (mVar 3) mNil))) [3]
def m_is_order : MS := (sSeq (sIf (tOrM (tNotM (asB (mIsi "tuple" (mVar 0)))) (tOrM (asB (mBin fNe (mApp fLen (mCons (mVar 0) mNil)) (mC (.int 2)))) (tNotM (asB (mCall 3 fn_is_between (mCons (mBin fIx (mVar 0) (mC (.int 0))) (mCons (mC (.int 1)) (mCons (mC (.int 8)) mNil)))))))) (sRet (mC (.bool false))) sNext)
    (sSeq (sUnp (mVar 0) (gTupD (gsCons (gSet 1) (gsCons (gSet 2) gsNil))))
    (sSeq (sIf (tOrM (tNotM (asB (mIsi "tuple" (mVar 2)))) (tNotM (asB (mApp fAll (mCons (mLd c1_is_order) mNil))))) (sRet (mC (.bool false))) sNext)
    (sRet (mAndV (mCall 1 fn_is_ascending (mCons (mVar 2) mNil)) (mCall 1 fn_is_closed (mCons (mVar 2) mNil)))))))
def fn_is_order : List D → FR := runF 4 m_is_order
def m_check_order : MS := (sIf (tNotM (asB (mCall 1 fn_is_order (mCons (mVar 0) mNil)))) (sRaise "InvalidOrder") sNext)
def fn_check_order : List D → FR := runF 1 m_check_order
/-! ### orders as data -/
abbrev pD (p : Nat × Nat) : D := .tuple [.int p.1, .int p.2]
abbrev psD (ps : List (Nat × Nat)) : D := .tuple (ps.map pD)
abbrev oD (n : Nat) (ps : List (Nat × Nat)) : D := .tuple [.int n, psD ps]
theorem sh_pD (p : Nat × Nat) : Sh 1 (pD p) := sh_tuple fun d hd => by
  rcases List.mem_cons.mp hd with rfl | hd
  · exact sh_int
  · rcases List.mem_cons.mp hd with rfl | hd
    · exact sh_int
    · cases hd
theorem sh_psD (ps : List (Nat × Nat)) : Sh 2 (psD ps) := sh_tuple fun d hd => by
  obtain ⟨p, _, rfl⟩ := List.mem_map.mp hd
  exact sh_pD p
theorem sh_oD (n : Nat) (ps : List (Nat × Nat)) : Sh 3 (oD n ps) := sh_tuple fun d hd => by
  rcases List.mem_cons.mp hd with rfl | hd
  · exact sh_int
  · rcases List.mem_cons.mp hd with rfl | hd
    · exact sh_psD ps
    · cases hd
theorem eqv_pD (a b : Nat × Nat) : PyData.eqv (pD a) (pD b) = decide (a = b) := by
  obtain ⟨a1, a2⟩ := a
  obtain ⟨b1, b2⟩ := b
  by_cases h1 : a1 = b1 <;> by_cases h2 : a2 = b2 <;> simp [h1, h2] <;> omega
theorem eqv_psD (a b : List (Nat × Nat)) : PyData.eqv (psD a) (psD b) = decide (a = b) := by
  rw [eqv_tuple, eqvAll_map eqv_pD]
theorem any_pD (ps : List (Nat × Nat)) (p : Nat × Nat) : ((ps.map pD).any fun z => PyData.eqv z (pD p)) = decide (p ∈ ps) := by
  rw [List.any_map]
  have : ((fun z => PyData.eqv z (pD p)) ∘ pD) = fun q => decide (q = p) := by funext q; exact eqv_pD q p
  rw [this]
  by_cases h : p ∈ ps
  · rw [decide_eq_true h, List.any_eq_true]; exact ⟨p, h, by simp⟩
  · rw [decide_eq_false h, List.any_eq_false]; intro q hq; simp; rintro rfl; exact h hq
theorem between_ok (i lo hi : Int) : fn_is_between [.int i, .int lo, .int hi] = .ok (.bool (decide (lo ≤ i) && decide (i ≤ hi))) := by
  by_cases h : lo ≤ i <;> simp [fn_is_between, runF_eq, m_is_between, rho0, h]
theorem pair_ok (n : Nat) (p : Nat × Nat) : fn_is_pair [.int n, pD p] = .ok (.bool (decide (p.1 < n) && decide (p.2 < n))) := by
  have hc : c1_is_pair [.val (.int n), .val (pD p), .no] = .ok (.lst ([p.1, p.2].map fun i => .bool (decide (i < n)))) [.val (.int n), .val (pD p), .no] := by
    refine mComp_map (e := fun i : Nat => .int i) [p.1, p.2] (by simp) rfl (by simp) (by simp) fun y hy => ⟨_, rfl, rfl, ?_⟩
    simp [wipeR, between_ok]
    omega
  simp only [List.map_cons, List.map_nil] at hc
  simp [fn_is_pair, runF_eq, m_is_pair, rho0, hc, fAll, boolsOf]
def plt (p q : Nat × Nat) : Bool := if p.1 = q.1 then decide (p.2 < q.2) else decide (p.1 < q.1)
def ascB (ps : List (Nat × Nat)) : Bool := (List.range (ps.length - 1)).all fun k => plt (ps.getD k (0, 0)) (ps.getD (k + 1) (0, 0))
theorem lt_pD (p q : Nat × Nat) : fLt (pD p) (pD q) = some (.bool (plt p q)) := by
  have e : fLt (pD p) (pD q) = some (.bool (HT.lexLt [(p.1 : Int), (p.2 : Int)] [(q.1 : Int), (q.2 : Int)])) := rfl
  rw [e]
  by_cases h1 : p.1 = q.1
  · simp [HT.lexLt, plt, h1]; try omega
  · have : ¬ (p.1 : Int) = (q.1 : Int) := by omega
    simp [HT.lexLt, plt, h1, this]
theorem at_ps {ps : List (Nat × Nat)} {k : Nat} (h : k < ps.length) : atI (ps.map pD) (k : Int) = some (pD (ps.getD k (0, 0))) := by
  rw [DX.atI_nat, List.getElem?_map, List.getElem?_eq_getElem h, List.getD_eq_getElem?_getD, List.getElem?_eq_getElem h]; rfl
theorem ascending_ok (ps : List (Nat × Nat)) (hl : ps.length ≤ 1000) : fn_is_ascending [psD ps] = .ok (.bool (ascB ps)) := by
  have hc : c1_is_ascending [.val (psD ps), .no] = .ok (.lst ((List.range (ps.length - 1)).map fun k => .bool (plt (ps.getD k (0, 0)) (ps.getD (k + 1) (0, 0))))) [.val (psD ps), .no] := by
    refine mComp_map (e := fun i : Nat => .int i) (List.range (ps.length - 1)) ?_ rfl (by simp; omega) (by simp) fun k hk => ⟨_, rfl, rfl, ?_⟩
    · simp
      by_cases h0 : ps.length = 0
      · simp [h0]; rfl
      · rw [show (ps.length : Int) - 1 = ((ps.length - 1 : Nat) : Int) by omega, rng1_nat _ (by omega)]; rfl
    · have hk' : k < ps.length - 1 := List.mem_range.mp hk
      have e1 := at_ps (ps := ps) (k := k) (by omega)
      have e2 := at_ps (ps := ps) (k := k + 1) (by omega)
      rw [show ((k + 1 : Nat) : Int) = (k : Int) + 1 by omega] at e2
      simp [wipeR, e1, e2, lt_pD]
  simp [fn_is_ascending, runF_eq, m_is_ascending, rho0, hc]
  rfl

/-! closed -/
theorem lookT_put (kvs : List (List Int × D)) (k k' : List Int) (v : D) : (lookT (putT kvs k v) k').isSome = (decide (k' = k) || (lookT kvs k').isSome) := by
  have key : ∀ (l : List (List Int × D)) (a : List Int), (lookT l a).isSome = l.any fun p => decide (p.1 = a) := fun l a => by
    unfold lookT
    induction l with
    | nil => rfl
    | cons x xs ih => by_cases h : x.1 = a <;> simp_all [List.find?_cons]
  unfold putT
  split
  · rename_i h
    rw [key] at h
    rw [key, key, List.any_map]
    have e : ((fun p : List Int × D => decide (p.1 = k')) ∘ fun p => if p.1 = k then (p.1, v) else p) = fun p => decide (p.1 = k') := by
      funext p; simp only [Function.comp]; split <;> rfl
    rw [e]
    by_cases hk : k' = k
    · subst hk; simp [h]
    · simp [hk]
  · rw [key, key, List.any_append]
    by_cases hk : k' = k
    · subst hk; simp
    · have : ¬ k = k' := fun z => hk z.symm
      simp [hk, this]
theorem lookT_merge (kvs : List (List Int × D)) (k : List Int) : (lookT (mergeT kvs) k).isSome = kvs.any fun p => decide (p.1 = k) := by
  have g : ∀ (l acc : List (List Int × D)), (lookT (l.foldl (fun a p => putT a p.1 p.2) acc) k).isSome = ((l.any fun p => decide (p.1 = k)) || (lookT acc k).isSome) := fun l => by
    induction l with
    | nil => intro acc; simp
    | cons x xs ih =>
      intro acc
      rw [List.foldl_cons, ih, lookT_put, List.any_cons]
      have : decide (k = x.1) = decide (x.1 = k) := by by_cases h : k = x.1 <;> simp [h, eq_comm]
      rw [this]
      cases decide (x.1 = k) <;> cases (xs.any fun p => decide (p.1 = k)) <;> simp
  unfold mergeT
  rw [g]
  simp [lookT]
theorem pairsT_map (ps : List (Nat × Nat)) (v : D) : pairsT (ps.map fun p => .tuple [pD p, v]) = some (ps.map fun p => ([(p.1 : Int), (p.2 : Int)], v)) := by
  induction ps with
  | nil => rfl
  | cons p r ih => rw [List.map_cons, pairsT, ih]; rfl
theorem look_ps (ps : List (Nat × Nat)) (v : D) (a b : Nat) : (lookT (mergeT (ps.map fun p => ([(p.1 : Int), (p.2 : Int)], v))) [(a : Int), (b : Int)]).isSome = decide ((a, b) ∈ ps) := by
  rw [lookT_merge, List.any_map]
  by_cases h : (a, b) ∈ ps
  · rw [decide_eq_true h, List.any_eq_true]; exact ⟨_, h, by simp⟩
  · rw [decide_eq_false h, List.any_eq_false]
    rintro ⟨c, d⟩ hq
    simp only [Function.comp, decide_eq_true_eq, List.cons.injEq, and_true]
    rintro ⟨h1, h2⟩
    apply h
    have e1 : c = a := by omega
    have e2 : d = b := by omega
    rw [← e1, ← e2]; exact hq
def closB (ps : List (Nat × Nat)) : Bool := !(ps.any fun p => decide (p.1 = p.2) || ps.any fun q => decide (p.2 = q.1) && !decide ((p.1, q.2) ∈ ps))
theorem closed_ok (ps : List (Nat × Nat)) (hl : ps.length ≤ 1000) : fn_is_closed [psD ps] = .ok (.bool (closB ps)) := by
  have hc : c1_is_closed [.val (psD ps), .no, .no, .no, .no, .no, .no] = .ok (.lst (ps.map fun p => .tuple [pD p, .bool true])) [.val (psD ps), .no, .no, .no, .no, .no, .no] :=
    mComp_map (e := pD) ps (by simp) rfl (by simp; omega) (by simp) fun p hp => ⟨_, rfl, rfl, by simp [wipeR]⟩
  have hd : fDictT [.list (ps.map fun p => .tuple [pD p, .bool true])] = some (.dT (mergeT (ps.map fun p => ([(p.1 : Int), (p.2 : Int)], .bool true)))) := by
    show (pairsT _).map _ = _
    rw [pairsT_map]; rfl
  generalize hm : mergeT (ps.map fun p => ([(p.1 : Int), (p.2 : Int)], PyData.bool true)) = kvs at hd
  have hlk : ∀ a b : Nat, (lookT kvs [(a : Int), (b : Int)]).isSome = decide ((a, b) ∈ ps) := fun a b => by rw [← hm]; exact look_ps ps _ a b
  let I1 : Nat × Nat → Rho → Prop := fun p ρ => ∃ c5 c6, ρ = [.val (psD ps), .own (.dT kvs), .no, .val (.int p.1), .val (.int p.2), c5, c6]
  let I2 : Rho → Prop := fun ρ => ∃ c3 c4 c5 c6, ρ = [.val (psD ps), .own (.dT kvs), .no, c3, c4, c5, c6]
  have inner : ∀ (p : Nat × Nat) (ρ : Rho), I1 p ρ → _ := fun p ρ h0 => forL_any (gs := gTupD (gsCons (gSet 5) (gsCons (gSet 6) gsNil))) (body := b1_is_closed) (e := pD) (fun q : Nat × Nat => decide (p.2 = q.1) && !decide ((p.1, q.2) ∈ ps)) (.bool false) (I1 p) ps ρ h0 (by
    rintro q hq ρ ⟨c5, c6, rfl⟩
    refine ⟨_, rfl, ?_, ?_⟩
    · intro hp
      simp only [Bool.and_eq_true, decide_eq_true_eq, Bool.not_eq_true', decide_eq_false_iff_not] at hp
      exact ⟨_, by simp [b1_is_closed, hlk, hp.1, hp.2]; rfl⟩
    · intro hp
      refine ⟨[.val (psD ps), .own (.dT kvs), .no, .val (.int p.1), .val (.int p.2), .val (.int q.1), .val (.int q.2)], .inl ?_, _, _, rfl⟩
      by_cases h1 : p.2 = q.1
      · have h2 : (p.1, q.2) ∈ ps := by simpa [h1] using hp
        simp [b1_is_closed, hlk, h1, h2]
      · have h3 : ¬ (p.2 : Int) = (q.1 : Int) := by omega
        simp [b1_is_closed, h3])
  have outer := forL_any (gs := gTupD (gsCons (gSet 3) (gsCons (gSet 4) gsNil))) (body := b2_is_closed) (e := pD) (fun p : Nat × Nat => decide (p.1 = p.2) || ps.any fun q => decide (p.2 = q.1) && !decide ((p.1, q.2) ∈ ps)) (.bool false) I2 ps [.val (psD ps), .own (.dT kvs), .no, .no, .no, .no, .no] ⟨_, _, _, _, rfl⟩ (by
    rintro p hp ρ ⟨c3, c4, c5, c6, rfl⟩
    refine ⟨_, rfl, ?_, ?_⟩
    · intro h
      by_cases h1 : p.1 = p.2
      · exact ⟨_, by simp [b2_is_closed, h1]; rfl⟩
      · have h2 : ¬ (p.1 : Int) = (p.2 : Int) := by omega
        have h3 := (inner p _ ⟨c5, c6, rfl⟩).1 (by simpa [h1] using h)
        obtain ⟨ρ', e'⟩ := h3
        exact ⟨ρ', by simp [b2_is_closed, h2, l1_is_closed]; exact e'⟩
    · intro h
      rw [Bool.or_eq_false_iff] at h
      have h1 : ¬ p.1 = p.2 := by simpa using h.1
      have h2 : ¬ (p.1 : Int) = (p.2 : Int) := by omega
      obtain ⟨ρ', e', c5', c6', rfl⟩ := (inner p _ ⟨c5, c6, rfl⟩).2 h.2
      exact ⟨_, .inl (by simp [b2_is_closed, h2, l1_is_closed]; exact e'), _, _, _, _, rfl⟩)
  have start : fn_is_closed [psD ps] = outF (thn2 (forL (gTupD (gsCons (gSet 3) (gsCons (gSet 4) gsNil))) b2_is_closed (ps.map pD) [.val (psD ps), .own (.dT kvs), .no, .no, .no, .no, .no]) (sRet (mC (.bool true)))) := by
    simp [fn_is_closed, runF_eq, m_is_closed, rho0, hc, hd, l2_is_closed]
  rw [start]
  unfold closB
  cases h : ps.any fun p : Nat × Nat => decide (p.1 = p.2) || ps.any fun q => decide (p.2 = q.1) && !decide ((p.1, q.2) ∈ ps) with
  | true => obtain ⟨ρ', e'⟩ := outer.1 h; rw [e']; rfl
  | false => obtain ⟨ρ', e', _⟩ := outer.2 h; rw [e']; rfl
def ordB (n : Nat) (ps : List (Nat × Nat)) : Bool := decide (1 ≤ n) && decide (n ≤ 8) && (ps.all fun p => decide (p.1 < n) && decide (p.2 < n)) && ascB ps && closB ps
theorem order_ok (n : Nat) (ps : List (Nat × Nat)) (hl : ps.length ≤ 1000) : fn_is_order [oD n ps] = .ok (.bool (ordB n ps)) := by
  have b1 := between_ok n 1 8
  have hc : c1_is_order [.val (oD n ps), .val (.int n), .val (psD ps), .no] = .ok (.lst (ps.map fun p => .bool (decide (p.1 < n) && decide (p.2 < n)))) [.val (oD n ps), .val (.int n), .val (psD ps), .no] :=
    mComp_map (e := pD) ps (by simp) rfl (by simp; omega) (by simp) fun p hp => ⟨_, rfl, rfl, by simp [wipeR, pair_ok]⟩
  have e1 : (decide ((1 : Int) ≤ (n : Int)) && decide ((n : Int) ≤ 8)) = (decide (1 ≤ n) && decide (n ≤ 8)) := by
    have a1 : ((1 : Int) ≤ (n : Int)) ↔ 1 ≤ n := by omega
    have a2 : ((n : Int) ≤ 8) ↔ n ≤ 8 := by omega
    simp only [a1, a2]
  rw [e1] at b1
  unfold ordB
  cases h1 : (decide (1 ≤ n) && decide (n ≤ 8)) with
  | false => rw [h1] at b1; simp [fn_is_order, runF_eq, m_is_order, rho0, b1]
  | true =>
    rw [h1] at b1
    have ha := fAll_map (fun p : Nat × Nat => decide (p.1 < n) && decide (p.2 < n)) ps
    cases h2 : (ps.all fun p => decide (p.1 < n) && decide (p.2 < n)) with
    | false => rw [h2] at ha; simp [fn_is_order, runF_eq, m_is_order, rho0, b1, hc, ha]
    | true =>
      rw [h2] at ha
      have hasc := ascending_ok ps hl
      cases h3 : ascB ps with
      | false => rw [h3] at hasc; simp [fn_is_order, runF_eq, m_is_order, rho0, b1, hc, ha, hasc]
      | true => rw [h3] at hasc; simp [fn_is_order, runF_eq, m_is_order, rho0, b1, hc, ha, hasc, closed_ok ps hl]
theorem check_ok (n : Nat) (ps : List (Nat × Nat)) (hl : ps.length ≤ 1000) (h : ordB n ps = true) : fn_check_order [oD n ps] = .ok .none := by
  have e := order_ok n ps hl
  rw [h] at e
  simp [fn_check_order, runF_eq, m_check_order, rho0, e]
end LB

set_option maxHeartbeats 1000000
namespace LB
open PySem PySem.Spec PyProof.Rows L2 DX
def c1_is_representation : M Ob := mComp 8 (iSeq (mVar 4)) (gSet 5) tYesM (mCall 3 fn_is_between (mCons (mVar 5) (mCons (mUn fNeg (mC (.int 100))) (mCons (mC (.int 100)) mNil)))) [5]
def b1_is_representation : MS := (sSeq (sIf (tOrM (tNotM (asB (mIsi "tuple" (mVar 4)))) (asB (mBin fNe (mApp fLen (mCons (mVar 4) mNil)) (mC (.int 2))))) (sRet (mC (.bool false))) sNext)
    (sIf (tOrM (tNotM (asB (mApp fAll (mCons (mLd c1_is_representation) mNil)))) (asB (mBin fGt (mBin fIx (mVar 4) (mC (.int 0))) (mBin fIx (mVar 4) (mC (.int 1)))))) (sRet (mC (.bool false))) sNext))
def l1_is_representation : MS := sFor (iSeq (mVar 1)) (gSet 4) b1_is_representation
def b2_is_representation : MS := (sIf (asB (mBin fNe (mBin fLt (mBin fIx (mBin fIx (mVar 1) (mVar 6)) (mC (.int 1))) (mBin fIx (mBin fIx (mVar 1) (mVar 7)) (mC (.int 0)))) (mBin fIn (mTup (mCons (mVar 6) (mCons (mVar 7) mNil))) (mVar 3)))) (sRet (mC (.bool false))) sNext)
def l2_is_representation : MS := sFor (iRange1 (mCons (mVar 2) mNil)) (gSet 7) b2_is_representation
def b3_is_representation : MS := l2_is_representation
def l3_is_representation : MS := sFor (iRange1 (mCons (mVar 2) mNil)) (gSet 6) b3_is_representation
def r5_is_representation : MS := (sRet (mC (.bool true)))
def r4_is_representation : MS := (sSeq l3_is_representation
    r5_is_representation)
def r3_is_representation : MS := (sSeq l1_is_representation
    r4_is_representation)
def r2_is_representation : MS := (sSeq (sIf (tOrM (tNotM (asB (mIsi "tuple" (mVar 1)))) (asB (mBin fNe (mApp fLen (mCons (mVar 1) mNil)) (mVar 2)))) (sRet (mC (.bool false))) sNext)
    r3_is_representation)
def r1_is_representation : MS := (sSeq (sUnp (mVar 0) (gTupD (gsCons (gSet 2) (gsCons (gSet 3) gsNil))))
    r2_is_representation)
def m_is_representation : MS := (sSeq (sDrop (mCall 1 fn_check_order (mCons (mVar 0) mNil)))
    r1_is_representation)
def fn_is_representation : List D → FR := runF 8 m_is_representation
def c1_is_unit_representation : M Ob := mComp 4 (iSeq (mVar 1)) (gTupD (gsCons (gSet 2) (gsCons (gSet 3) gsNil))) tYesM (mBin fSub (mVar 3) (mVar 2)) [2, 3]
def m_is_unit_representation : MS := (sSeq (sIf (tNotM (asB (mCall 2 fn_is_representation (mCons (mVar 0) (mCons (mVar 1) mNil))))) (sRet (mC (.bool false))) sNext)
    (sRet (mBin fEq (mUn fLenS (mLd c1_is_unit_representation)) (mC (.int 1)))))
def fn_is_unit_representation : List D → FR := runF 4 m_is_unit_representation
def c1__law_order_of_rows : M Ob := mComp 4 (iRange1 (mCons (mApp fLen (mCons (mVar 0) mNil)) mNil)) (gSet 3) (asB (mBin fLt (mBin fIx (mBin fIx (mVar 0) (mVar 2)) (mC (.int 1))) (mBin fIx (mBin fIx (mVar 0) (mVar 3)) (mC (.int 0))))) (mTup (mCons (mVar 2) (mCons (mVar 3) mNil))) [3]
def b1__law_order_of_rows : MS := (sSet 1 (mLd (mBinL fCat (mVar 1) (mLd c1__law_order_of_rows))))
def l1__law_order_of_rows : MS := sFor (iRange1 (mCons (mApp fLen (mCons (mVar 0) mNil)) mNil)) (gSet 2) b1__law_order_of_rows
def m__law_order_of_rows : MS := (sSeq (sSet 1 (mLd (mLst mNil)))
    (sSeq l1__law_order_of_rows
    (sRet (mTup (mCons (mApp fLen (mCons (mVar 0) mNil)) (mCons (mApp fTuple (mCons (mVar 1) mNil)) mNil))))))
def fn__law_order_of_rows : List D → FR := runF 4 m__law_order_of_rows
/-! ### intervals -/
abbrev iD (r : Int × Int) : D := .tuple [.int r.1, .int r.2]
theorem at_rows {rows : List (Int × Int)} {k : Nat} (h : k < rows.length) : atI (rows.map iD) (k : Int) = some (iD (rows.getD k (0, 0))) := by
  rw [DX.atI_nat, List.getElem?_map, List.getElem?_eq_getElem h, List.getD_eq_getElem?_getD, List.getElem?_eq_getElem h]; rfl
def befB (rows : List (Int × Int)) (a b : Nat) : Bool := decide ((rows.getD a (0, 0)).2 < (rows.getD b (0, 0)).1)
def goodR (r : Int × Int) : Bool := decide (-100 ≤ r.1) && decide (r.1 ≤ 100) && (decide (-100 ≤ r.2) && decide (r.2 ≤ 100)) && decide (r.1 ≤ r.2)
def repB (n : Nat) (ps : List (Nat × Nat)) (rows : List (Int × Int)) : Bool := !(rows.any fun r => !goodR r) && !((List.range n).any fun a => (List.range n).any fun b => !(befB rows a b == decide ((a, b) ∈ ps)))
theorem rep_ok {n : Nat} {ps : List (Nat × Nat)} (hl : ps.length ≤ 1000) (hn : n < 1000) (ho : ordB n ps = true) (rows : List (Int × Int)) (hr : rows.length = n) :
    fn_is_representation [oD n ps, .tuple (rows.map iD)] = .ok (.bool (repB n ps rows)) := by
  let I1 : Rho → Prop := fun ρ => ∃ c4, ρ = [.val (oD n ps), .val (.tuple (rows.map iD)), .val (.int n), .val (psD ps), c4, .no, .no, .no]
  let I2 : Rho → Prop := fun ρ => ∃ c4 c6 c7, ρ = [.val (oD n ps), .val (.tuple (rows.map iD)), .val (.int n), .val (psD ps), c4, .no, c6, c7]
  let I3 : Nat → Rho → Prop := fun a ρ => ∃ c4 c7, ρ = [.val (oD n ps), .val (.tuple (rows.map iD)), .val (.int n), .val (psD ps), c4, .no, .val (.int a), c7]
  have h1 := forL_any (gs := gSet 4) (body := b1_is_representation) (e := iD) (fun r : Int × Int => !goodR r) (.bool false) I1 rows [.val (oD n ps), .val (.tuple (rows.map iD)), .val (.int n), .val (psD ps), .no, .no, .no, .no] ⟨_, rfl⟩ (by
    rintro r hr ρ ⟨c4, rfl⟩
    refine ⟨_, rfl, ?_⟩
    have hc : c1_is_representation [.val (oD n ps), .val (.tuple (rows.map iD)), .val (.int n), .val (psD ps), .val (iD r), .no, .no, .no] = .ok (.lst ([r.1, r.2].map fun i => .bool (decide (-100 ≤ i) && decide (i ≤ 100)))) [.val (oD n ps), .val (.tuple (rows.map iD)), .val (.int n), .val (psD ps), .val (iD r), .no, .no, .no] :=
      mComp_map (e := fun i : Int => .int i) [r.1, r.2] (by simp) rfl (by simp) (by simp) fun i hi => ⟨_, rfl, rfl, by simp [wipeR, between_ok]⟩
    have ha := fAll_map (fun i : Int => decide (-100 ≤ i) && decide (i ≤ 100)) [r.1, r.2]
    rw [show [r.1, r.2].all (fun i : Int => decide (-100 ≤ i) && decide (i ≤ 100)) = (decide (-100 ≤ r.1) && decide (r.1 ≤ 100) && (decide (-100 ≤ r.2) && decide (r.2 ≤ 100))) by simp] at ha
    simp only [List.map_cons, List.map_nil] at ha
    unfold goodR
    cases hg : (decide (-100 ≤ r.1) && decide (r.1 ≤ 100) && (decide (-100 ≤ r.2) && decide (r.2 ≤ 100))) with
    | false =>
      rw [hg] at ha
      refine ⟨fun _ => ⟨_, by simp [b1_is_representation, hc, ha]; rfl⟩, fun h => by simp at h⟩
    | true =>
      rw [hg] at ha
      by_cases hle : r.1 ≤ r.2
      · refine ⟨fun h => by simp [hle] at h, fun _ => ⟨[.val (oD n ps), .val (.tuple (rows.map iD)), .val (.int n), .val (psD ps), .val (iD r), .no, .no, .no], .inl ?_, _, rfl⟩⟩
        have : ¬ r.2 < r.1 := by omega
        simp [b1_is_representation, hc, ha, this]
      · have : r.2 < r.1 := by omega
        exact ⟨fun _ => ⟨_, by simp [b1_is_representation, hc, ha, this]; rfl⟩, fun h => by simp [hle] at h⟩)
  have h2 : ∀ (a : Nat) (ρ : Rho), a < n → I3 a ρ → _ := fun a ρ ha h0 => forL_any (gs := gSet 7) (body := b2_is_representation) (e := fun i : Nat => .int i) (fun b => !(befB rows a b == decide ((a, b) ∈ ps))) (.bool false) (I3 a) (List.range n) ρ h0 (by
    rintro b hb ρ ⟨c4, c7, rfl⟩
    refine ⟨_, rfl, ?_⟩
    have hb' : b < n := List.mem_range.mp hb
    have e1 := at_rows (rows := rows) (k := a) (by omega)
    have e2 := at_rows (rows := rows) (k := b) (by omega)
    have e3 : fIn (.tuple [.int (a : Int), .int (b : Int)]) (psD ps) = some (.bool (decide ((a, b) ∈ ps))) := by
      rw [fInT_sh (k := 2) (sh_pD (a, b)).up (sh_psD ps), any_pD ps (a, b)]
    have e4 : decide ((rows.getD a (0, 0)).2 < (rows.getD b (0, 0)).1) = befB rows a b := rfl
    have e5 : b2_is_representation [.val (oD n ps), .val (.tuple (rows.map iD)), .val (.int n), .val (psD ps), c4, .no, .val (.int a), .val (.int b)] = kSIf (.ok (!(befB rows a b == decide ((a, b) ∈ ps))) [.val (oD n ps), .val (.tuple (rows.map iD)), .val (.int n), .val (psD ps), c4, .no, .val (.int a), .val (.int b)]) (sRet (mC (.bool false))) sNext := by
      simp only [b2_is_representation, ev_sIf, ev_asB, ev_bin, ev_var, ev_c, ev_tup, ev_cons, ev_nil]
      simp [e1, e2, e3, befB]
    refine ⟨fun h => ⟨_, e5.trans (by rw [h]; rfl)⟩, fun h => ⟨_, .inl (e5.trans (by rw [h]; rfl)), c4, .val (.int b), rfl⟩⟩)
  have h3 : ∀ (ρ : Rho), I2 ρ → _ := fun ρ h0 => forL_any (gs := gSet 6) (body := b3_is_representation) (e := fun i : Nat => .int i) (fun a => (List.range n).any fun b => !(befB rows a b == decide ((a, b) ∈ ps))) (.bool false) I2 (List.range n) ρ h0 (by
    rintro a ha ρ ⟨c4, c6, c7, rfl⟩
    refine ⟨_, rfl, ?_⟩
    have ha' := List.mem_range.mp ha
    have hh := h2 a [.val (oD n ps), .val (.tuple (rows.map iD)), .val (.int n), .val (psD ps), c4, .no, .val (.int a), c7] ha' ⟨c4, c7, rfl⟩
    have e : b3_is_representation [.val (oD n ps), .val (.tuple (rows.map iD)), .val (.int n), .val (psD ps), c4, .no, .val (.int a), c7] = forL (gSet 7) b2_is_representation ((List.range n).map fun i : Nat => .int i) [.val (oD n ps), .val (.tuple (rows.map iD)), .val (.int n), .val (psD ps), c4, .no, .val (.int a), c7] := by
      simp [b3_is_representation, l2_is_representation, rng1_nat n (by omega)]
    refine ⟨fun h => ?_, fun h => ?_⟩
    · obtain ⟨ρ', q⟩ := hh.1 h; exact ⟨ρ', e.trans q⟩
    · obtain ⟨ρ', q, c4', c7', rfl⟩ := hh.2 h; exact ⟨_, .inl (e.trans q), c4', _, c7', rfl⟩)
  have st : fn_is_representation [oD n ps, .tuple (rows.map iD)] = outF (thn2 (forL (gSet 4) b1_is_representation (rows.map iD) [.val (oD n ps), .val (.tuple (rows.map iD)), .val (.int n), .val (psD ps), .no, .no, .no, .no]) r4_is_representation) := by
    simp [fn_is_representation, runF_eq, m_is_representation, r1_is_representation, r2_is_representation, r3_is_representation, rho0, check_ok n ps hl ho, hr, l1_is_representation]
  rw [st]
  unfold repB
  cases q1 : rows.any fun r => !goodR r with
  | true => obtain ⟨ρ', e⟩ := h1.1 q1; rw [e]; rfl
  | false =>
    obtain ⟨ρ', e, c4, rfl⟩ := h1.2 q1
    rw [e]
    have h3' := h3 [.val (oD n ps), .val (.tuple (rows.map iD)), .val (.int n), .val (psD ps), c4, .no, .no, .no] ⟨_, _, _, rfl⟩
    have e3 : l3_is_representation [.val (oD n ps), .val (.tuple (rows.map iD)), .val (.int n), .val (psD ps), c4, .no, .no, .no] = forL (gSet 6) b3_is_representation ((List.range n).map fun i : Nat => .int i) [.val (oD n ps), .val (.tuple (rows.map iD)), .val (.int n), .val (psD ps), c4, .no, .no, .no] := by
      simp [l3_is_representation, rng1_nat n (by omega)]
    rw [thn2_next, r4_is_representation, ev_seq, e3]
    cases q2 : (List.range n).any fun a => (List.range n).any fun b => !(befB rows a b == decide ((a, b) ∈ ps)) with
    | true => obtain ⟨ρ', e⟩ := h3'.1 q2; rw [e]; rfl
    | false => obtain ⟨ρ', e, _⟩ := h3'.2 q2; rw [e]; rfl
def unitB (rows : List (Int × Int)) : Bool := decide (((dedupI (rows.map fun r => r.2 - r.1)).length : Int) = 1)
theorem lenS_rows (rows : List (Int × Int)) (h : rows.length ≤ 1000) : fLenS (.list (rows.map fun r => .int (r.2 - r.1))) = some (.int ((dedupI (rows.map fun r => r.2 - r.1)).length : Nat)) := by
  have e : rows.map (fun r => PyData.int (r.2 - r.1)) = (rows.map fun r => r.2 - r.1).map PyData.int := by simp
  rw [e]
  unfold fLenS
  simp only [intsOf_map]
  rw [if_pos (by simp; omega)]
theorem unit_ok {n : Nat} {ps : List (Nat × Nat)} (hl : ps.length ≤ 1000) (hn : n < 1000) (ho : ordB n ps = true) (rows : List (Int × Int)) (hr : rows.length = n) :
    fn_is_unit_representation [oD n ps, .tuple (rows.map iD)] = .ok (.bool (repB n ps rows && unitB rows)) := by
  have e := rep_ok hl hn ho rows hr
  have hc : c1_is_unit_representation [.val (oD n ps), .val (.tuple (rows.map iD)), .no, .no] = .ok (.lst (rows.map fun r => .int (r.2 - r.1))) [.val (oD n ps), .val (.tuple (rows.map iD)), .no, .no] :=
    mComp_map (e := iD) rows (by simp) rfl (by simp; omega) (by simp) fun r hr => ⟨_, rfl, rfl, by simp [wipeR]⟩
  have hs := lenS_rows rows (by omega)
  cases q : repB n ps rows with
  | false => rw [q] at e; simp [fn_is_unit_representation, runF_eq, m_is_unit_representation, rho0, e]
  | true => rw [q] at e; simp [fn_is_unit_representation, runF_eq, m_is_unit_representation, rho0, e, hc, hs, unitB]
/-! the order of some rows -/
def rowP (rows : List (Int × Int)) (a : Nat) : List (Nat × Nat) := ((List.range rows.length).filter fun b => befB rows a b).map fun b => (a, b)
def rowsP (rows : List (Int × Int)) : List (Nat × Nat) := (List.range rows.length).flatMap (rowP rows)
theorem rowP_len (rows : List (Int × Int)) (a : Nat) : (rowP rows a).length ≤ rows.length := by
  unfold rowP; rw [List.length_map]; exact Nat.le_trans (List.length_filter_le _ _) (by simp)
theorem flat_le (rows : List (Int × Int)) : ∀ l : List Nat, (l.flatMap (rowP rows)).length ≤ l.length * rows.length
  | [] => by simp
  | a :: l => by
    rw [List.flatMap_cons, List.length_append, List.length_cons, Nat.succ_mul]
    have := rowP_len rows a
    have := flat_le rows l
    omega
theorem order_rows_ok (rows : List (Int × Int)) (hr : rows.length ≤ 8) (X : D) (hX : X = .list (rows.map iD) ∨ X = .tuple (rows.map iD)) :
    fn__law_order_of_rows [X] = .ok (oD rows.length (rowsP rows)) := by
  have hlen : fLen [X] = some (.int (rows.length : Int)) := by rcases hX with rfl | rfl <;> simp
  have hix : ∀ k : Nat, k < rows.length → fIx X (.int k) = some (iD (rows.getD k (0, 0))) := fun k hk => by
    rcases hX with rfl | rfl
    · exact at_rows hk
    · exact at_rows hk
  let I : Nat → Rho → Prop := fun k ρ => ∃ c2, ρ = [.val X, .val (.list (((List.range k).flatMap (rowP rows)).map pD)), c2, .no]
  have h1 := forL_next (gs := gSet 2) (body := b1__law_order_of_rows) (e := fun i : Nat => .int i) I (List.range rows.length) 0 [.val X, .val (.list []), .no, .no] ⟨_, rfl⟩ (by
    rintro i a ha ρ ⟨c2, rfl⟩
    have hi : i < rows.length := by
      have := (List.getElem?_eq_some_iff.mp ha).1
      simpa using this
    have ea : a = i := by rw [List.getElem?_range hi] at ha; cases ha; rfl
    subst ea
    refine ⟨_, [.val X, .val (.list (((List.range (a + 1)).flatMap (rowP rows)).map pD)), .val (.int a), .no], rfl, .inl ?_, by rw [Nat.zero_add]; exact ⟨_, rfl⟩⟩
    rw [Nat.zero_add]
    have hc : c1__law_order_of_rows [.val X, .val (.list (((List.range a).flatMap (rowP rows)).map pD)), .val (.int a), .no] = .ok (.lst ((rowP rows a).map pD)) [.val X, .val (.list (((List.range a).flatMap (rowP rows)).map pD)), .val (.int a), .no] := by
      have := mComp_pure (mi := iRange1 (mCons (mApp fLen (mCons (mVar 0) mNil)) mNil)) (gs := gSet 3) (test := asB (mBin fLt (mBin fIx (mBin fIx (mVar 0) (mVar 2)) (mC (.int 1))) (mBin fIx (mBin fIx (mVar 0) (mVar 3)) (mC (.int 0))))) (elt := mTup (mCons (mVar 2) (mCons (mVar 3) mNil))) (vs := [3]) (n := 4) (e := fun i : Nat => .int i) (f := fun b : Nat => pD (a, b)) (fun b => befB rows a b) (List.range rows.length) (ρ := [.val X, .val (.list (((List.range a).flatMap (rowP rows)).map pD)), .val (.int a), .no])
        (by simp [hlen, rng1_nat rows.length (by omega)]) rfl (by simp; omega) (by simp) (fun b hb => by
          have hb' : b < rows.length := List.mem_range.mp hb
          exact ⟨_, rfl, rfl, by simp [wipeR, hix a hi, hix b hb', befB], fun _ => by simp [wipeR]⟩)
      unfold c1__law_order_of_rows
      rw [this]
      unfold rowP
      rw [List.map_map]
      rfl
    have hlen1 : ((List.range a).flatMap (rowP rows)).length + (rowP rows a).length ≤ 16777216 := by
      have a1 := flat_le rows (List.range a)
      have a2 := rowP_len rows a
      rw [List.length_range] at a1
      have a3 : a * rows.length ≤ 8 * 8 := Nat.mul_le_mul (by omega) hr
      omega
    simp [b1__law_order_of_rows, hc, fCat, hlen1, List.range_succ, Ob.d, -List.length_flatMap])
  obtain ⟨ρ', e, c2, hρ⟩ := h1
  rw [Nat.zero_add, List.length_range] at hρ
  simp [fn__law_order_of_rows, runF_eq, m__law_order_of_rows, rho0, l1__law_order_of_rows, hlen, rng1_nat rows.length (by omega), Ob.d]
  rw [e, hρ]
  simp [hlen, rowsP]
end LB

set_option maxHeartbeats 4000000
namespace LW
open PySem PySem.Spec PyProof.Rows L2 DX LB
def top (i : Nat) : Stmt := PySem.Challenge.pw_orderdims_k61_interval_judges.main.body.getD i (.Pass ⟨0, 0, 0, 0⟩)

abbrev s__law_draw : SS := ⟨["script", "town", "limit", "at", "left", "number"], defScope (top 16), none⟩
theorem S__law_draw : FnScope ["script", "town", "limit", "at", "left", "number"] ["script", "town", "limit"] (defScope (top 16)) := ⟨rfl, rfl, rfl, by decide +kernel, rfl, by decide +kernel, by decide +kernel⟩
theorem d__law_draw {g : GC} {W : WX} {X : Cx} (bf : BF g)  (ok : Ok g s__law_draw 0 W X) : DSs g W [1] X (defBody (top 16)) m__law_draw :=
  (dss_cons (ds_putO ok 1 {} dm_int (dm_add ok (dm_ixO ok 1 {} dm_int) dm_int))
    (dss_cons (ds_if (dt_cmp (cr_eq ok) (dm_var ok 0) ((dl_lst da_nil)).dm) (dss_one (ds_ret (dm_mod (dm_div (dm_mul (dm_mul (dm_ixO ok 1 {} dm_int) (dm_ixO ok 1 {} dm_int)) dm_int) dm_int) (dm_var ok 2)))) dss_nil)
    (dss_cons (ds_set ok 3 (dm_mod (dm_ixO ok 1 {} dm_int) (dm_len ok bf (da_cons (dm_var ok 0) da_nil))))
    (dss_cons (ds_set ok 4 (dm_ixO ok 1 {} (dm_add ok dm_int (dm_var ok 3))))
    (dss_cons (ds_if ((dw_and (dt_cmp cr_ge (dm_ix ok (dm_var ok 0) (dm_var ok 3)) (dm_pow dm_int dm_int)) (dw_and1 (dt_cmp cr_gt (dm_var ok 4) dm_int)))).dt (dss_cons (ds_putO ok 1 {} (dm_add ok dm_int (dm_var ok 3)) (dm_div (dm_var ok 4) (dm_var ok 2)))
    (dss_one (ds_ret (dm_mod (dm_var ok 4) (dm_var ok 2))))) dss_nil)
    (dss_cons (ds_set ok 5 (dm_mod (dm_add ok (dm_ix ok (dm_var ok 0) (dm_var ok 3)) (dm_mul dm_int (dm_ixO ok 1 {} dm_int))) dm_int))
    (dss_cons (ds_set ok 5 (dm_mod (dm_pow (dm_var ok 5) dm_int) dm_int))
    (dss_one (ds_ret (dm_mod (dm_div (dm_mod (dm_add ok (dm_mul (dm_div (dm_var ok 5) dm_int) dm_int) (dm_var ok 5)) dm_int) dm_int) (dm_var ok 2)))))))))))

abbrev s__law_order_of_rows : SS := ⟨["rows", "pairs", "a", "b"], defScope (top 18), none⟩
theorem S__law_order_of_rows : FnScope ["rows", "pairs", "a", "b"] ["rows"] (defScope (top 18)) := ⟨rfl, rfl, rfl, by decide +kernel, rfl, by decide +kernel, by decide +kernel⟩
theorem d__law_order_of_rows {g : GC} {W : WX} {X : Cx} (bf : BF g)  (ok : Ok g s__law_order_of_rows 0 W X) : DSs g W [] X (defBody (top 18)) m__law_order_of_rows :=
  (dss_cons (ds_set ok 1 ((dl_lst da_nil)).dm)
    (dss_cons (ds_for (lo := false) ok (di_range1 ok bf (da_cons (dm_len ok bf (da_cons (dm_var ok 0) da_nil)) da_nil)) (dg_name ok 2) (dss_one (ds_set ok 1 ((dl_cat ok (dm_var ok 1) ((dl_comp ok (lo := false) (own := [("b", 3)]) { hi := (di_range1 ok bf (da_cons (dm_len ok bf (da_cons (dm_var ok 0) da_nil)) da_nil)), hg := fun _ ok1 => (dg_name ok1 3), ht := fun _ ok1 => (dts_one (dt_cmp (cr_lt ok1) (dm_ix ok1 (dm_ix ok1 (dm_var ok1 0) (dm_var ok1 2)) dm_int) (dm_ix ok1 (dm_ix ok1 (dm_var ok1 0) (dm_var ok1 3)) dm_int))), he := fun _ ok1 => (dm_tup (da_cons (dm_var ok1 2) (da_cons (dm_var ok1 3) da_nil))) })).dm)).dm)))
    (dss_one (ds_ret (dm_tup (da_cons (dm_len ok bf (da_cons (dm_var ok 0) da_nil)) (da_cons (dm_tuple ok bf (da_cons (dm_var ok 1) da_nil)) da_nil)))))))

abbrev s__law_pick : SS := ⟨["script", "town", "choices"], defScope (top 17), none⟩
theorem S__law_pick : FnScope ["script", "town", "choices"] ["script", "town", "choices"] (defScope (top 17)) := ⟨rfl, rfl, rfl, by decide +kernel, rfl, by decide +kernel, by decide +kernel⟩
theorem d__law_pick {g : GC} {W : WX} {X : Cx} (bf : BF g) (F__law_draw : FT g "_law_draw" 1 ["script", "town", "limit"] fn__law_draw) (ok : Ok g s__law_pick 1 W X) : DSs g W [1] X (defBody (top 17)) m__law_pick :=
  (dss_one (ds_ret (dm_ix ok (dm_var ok 2) (dm_callTown ok F__law_draw (dm_var ok 0) 1 (da_cons (dm_len ok bf (da_cons (dm_var ok 2) da_nil)) da_nil)))))

abbrev s__law_town : SS := ⟨["script"], defScope (top 15), none⟩
theorem S__law_town : FnScope ["script"] ["script"] (defScope (top 15)) := ⟨rfl, rfl, rfl, by decide +kernel, rfl, by decide +kernel, by decide +kernel⟩
theorem d__law_town {g : GC} {W : WX} {X : Cx} (bf : BF g)  (ok : Ok g s__law_town 0 W X) : DL g W X (retE (top 15)) m__law_town :=
  (dl_cat ok ((dl_lst (da_cons dm_int da_nil))).dm ((dl_list ok bf (da_cons (dm_var ok 0) da_nil))).dm)

abbrev s_is_ascending : SS := ⟨["values", "k"], defScope (top 7), none⟩
theorem S_is_ascending : FnScope ["values", "k"] ["values"] (defScope (top 7)) := ⟨rfl, rfl, rfl, by decide +kernel, rfl, by decide +kernel, by decide +kernel⟩
theorem d_is_ascending {g : GC} {W : WX} {X : Cx} (bf : BF g)  (ok : Ok g s_is_ascending 0 W X) : DSs g W [] X (defBody (top 7)) m_is_ascending :=
  (dss_one (ds_ret (dm_all ok bf (da_cons ((dl_comp ok (lo := false) (own := [("k", 1)]) { hi := (di_range1 ok bf (da_cons (dm_sub (dm_len ok bf (da_cons (dm_var ok 0) da_nil)) dm_int) da_nil)), hg := fun _ ok1 => (dg_name ok1 1), ht := fun _ ok1 => dts_nil, he := fun _ ok1 => (dm_cmp (cr_lt ok1) (dm_ix ok1 (dm_var ok1 0) (dm_var ok1 1)) (dm_ix ok1 (dm_var ok1 0) (dm_add ok1 (dm_var ok1 1) dm_int))) })).dm da_nil))))

abbrev s_is_between : SS := ⟨["value", "low", "high"], defScope (top 5), none⟩
theorem S_is_between : FnScope ["value", "low", "high"] ["value", "low", "high"] (defScope (top 5)) := ⟨rfl, rfl, rfl, by decide +kernel, rfl, by decide +kernel, by decide +kernel⟩
theorem d_is_between {g : GC} {W : WX} {X : Cx} (bf : BF g)  (ok : Ok g s_is_between 0 W X) : DSs g W [] X (defBody (top 5)) m_is_between :=
  (dss_one (ds_ret (dm_and (dm_isi ok bf "int" "int" (by decide +kernel) bf.int (dm_var ok 0)) (dm_and (dm_not (dm_isi ok bf "bool" "bool" (by decide +kernel) bf.bool (dm_var ok 0))) (dm_one (dm_chain cr_le cr_le (dm_var ok 1) (dm_var ok 0) (dm_var ok 2)))))))

abbrev s_is_closed : SS := ⟨["pairs", "there", "pair", "a", "b", "c", "d"], defScope (top 8), none⟩
theorem S_is_closed : FnScope ["pairs", "there", "pair", "a", "b", "c", "d"] ["pairs"] (defScope (top 8)) := ⟨rfl, rfl, rfl, by decide +kernel, rfl, by decide +kernel, by decide +kernel⟩
theorem d_is_closed {g : GC} {W : WX} {X : Cx} (bf : BF g)  (ok : Ok g s_is_closed 0 W X) : DSs g W [] X (defBody (top 8)) m_is_closed :=
  (dss_cons (ds_setL ok 1 (dl_dictT ok bf (da_cons ((dl_comp ok (lo := false) (own := [("pair", 2)]) { hi := (di_seq ok (dm_var ok 0)), hg := fun _ ok1 => (dg_name ok1 2), ht := fun _ ok1 => dts_nil, he := fun _ ok1 => (dm_tup (da_cons (dm_var ok1 2) (da_cons dm_bool da_nil))) })).dm da_nil)))
    (dss_cons (ds_for (lo := false) ok (di_seq ok (dm_var ok 0)) (dg_tup ok (dgs_cons (dg_name ok 3) (dgs_cons (dg_name ok 4) dgs_nil)) (gsCons_len (gsCons_len (fun _ _ _ h => gsNil_len h)))) (dss_cons (ds_if (dt_cmp (cr_eq ok) (dm_var ok 3) (dm_var ok 4)) (dss_one (ds_ret dm_bool)) dss_nil)
    (dss_one (ds_for (lo := false) ok (di_seq ok (dm_var ok 0)) (dg_tup ok (dgs_cons (dg_name ok 5) (dgs_cons (dg_name ok 6) dgs_nil)) (gsCons_len (gsCons_len (fun _ _ _ h => gsNil_len h)))) (dss_one (ds_if ((dw_and (dt_cmp (cr_eq ok) (dm_var ok 4) (dm_var ok 5)) (dw_and1 (dt_notinT ok (dm_tup (da_cons (dm_var ok 3) (da_cons (dm_var ok 6) da_nil))) 1 {})))).dt (dss_one (ds_ret dm_bool)) dss_nil))))))
    (dss_one (ds_ret dm_bool))))

abbrev s_is_pair : SS := ⟨["size", "value", "one"], defScope (top 6), none⟩
theorem S_is_pair : FnScope ["size", "value", "one"] ["size", "value"] (defScope (top 6)) := ⟨rfl, rfl, rfl, by decide +kernel, rfl, by decide +kernel, by decide +kernel⟩
theorem d_is_pair {g : GC} {W : WX} {X : Cx} (bf : BF g) (F_is_between : FD g "is_between" 1 ["value", "low", "high"] fn_is_between) (ok : Ok g s_is_pair 1 W X) : DSs g W [] X (defBody (top 6)) m_is_pair :=
  (dss_one (ds_ret (dm_and (dm_isi ok bf "tuple" "tuple" (by decide +kernel) bf.tuple (dm_var ok 1)) (dm_and (dm_cmp (cr_eq ok) (dm_len ok bf (da_cons (dm_var ok 1) da_nil)) dm_int) (dm_one (dm_all ok bf (da_cons ((dl_comp ok (lo := false) (own := [("one", 2)]) { hi := (di_seq ok (dm_var ok 1)), hg := fun _ ok1 => (dg_name ok1 2), ht := fun _ ok1 => dts_nil, he := fun _ ok1 => (dm_call ok1 F_is_between (da_cons (dm_var ok1 2) (da_cons dm_int (da_cons (dm_sub (dm_var ok1 0) dm_int) da_nil)))) })).dm da_nil)))))))

abbrev s_is_order : SS := ⟨["value", "size", "pairs", "pair"], defScope (top 9), none⟩
theorem S_is_order : FnScope ["value", "size", "pairs", "pair"] ["value"] (defScope (top 9)) := ⟨rfl, rfl, rfl, by decide +kernel, rfl, by decide +kernel, by decide +kernel⟩
theorem d_is_order {g : GC} {W : WX} {X : Cx} (bf : BF g) (F_is_ascending : FD g "is_ascending" 1 ["values"] fn_is_ascending) (F_is_between : FD g "is_between" 1 ["value", "low", "high"] fn_is_between) (F_is_closed : FD g "is_closed" 1 ["pairs"] fn_is_closed) (F_is_pair : FD g "is_pair" 2 ["size", "value"] fn_is_pair) (c_MOST : ∃ t, g.mg "MOST" = some (.int 8 t)) (ok : Ok g s_is_order 2 W X) : DSs g W [] X (defBody (top 9)) m_is_order :=
  (dss_cons (ds_if ((dw_or (dt_not (dt_val (dm_isi ok bf "tuple" "tuple" (by decide +kernel) bf.tuple (dm_var ok 0)))) (dw_or (dt_cmp (cr_ne ok) (dm_len ok bf (da_cons (dm_var ok 0) da_nil)) dm_int) (dw_or1 (dt_not (dt_val (dm_call ok F_is_between (da_cons (dm_ix ok (dm_var ok 0) dm_int) (da_cons dm_int (da_cons (dm_gint ok c_MOST) da_nil)))))))))).dt (dss_one (ds_ret dm_bool)) dss_nil)
    (dss_cons (ds_unp (dm_var ok 0) (dg_tup ok (dgs_cons (dg_name ok 1) (dgs_cons (dg_name ok 2) dgs_nil)) (gsCons_len (gsCons_len (fun _ _ _ h => gsNil_len h)))))
    (dss_cons (ds_if ((dw_or (dt_not (dt_val (dm_isi ok bf "tuple" "tuple" (by decide +kernel) bf.tuple (dm_var ok 2)))) (dw_or1 (dt_not (dt_val (dm_all ok bf (da_cons ((dl_comp ok (lo := false) (own := [("pair", 3)]) { hi := (di_seq ok (dm_var ok 2)), hg := fun _ ok1 => (dg_name ok1 3), ht := fun _ ok1 => dts_nil, he := fun _ ok1 => (dm_call ok1 F_is_pair (da_cons (dm_var ok1 1) (da_cons (dm_var ok1 3) da_nil))) })).dm da_nil))))))).dt (dss_one (ds_ret dm_bool)) dss_nil)
    (dss_one (ds_ret (dm_and (dm_call ok F_is_ascending (da_cons (dm_var ok 2) da_nil)) (dm_one (dm_call ok F_is_closed (da_cons (dm_var ok 2) da_nil)))))))))

abbrev s_check_order : SS := ⟨["value"], defScope (top 10), none⟩
theorem S_check_order : FnScope ["value"] ["value"] (defScope (top 10)) := ⟨rfl, rfl, rfl, by decide +kernel, rfl, by decide +kernel, by decide +kernel⟩
theorem d_check_order {g : GC} {W : WX} {X : Cx} (bf : BF g) (F_is_order : FD g "is_order" 3 ["value"] fn_is_order) (X_InvalidOrder : ExF g "InvalidOrder") (ok : Ok g s_check_order 3 W X) : DSs g W [] X (defBody (top 10)) m_check_order :=
  (dss_one (ds_if (dt_not (dt_val (dm_call ok F_is_order (da_cons (dm_var ok 0) da_nil)))) (dss_one (ds_raise ok X_InvalidOrder)) dss_nil))

abbrev s_is_representation : SS := ⟨["order", "value", "size", "pairs", "interval", "end", "a", "b"], defScope (top 12), none⟩
theorem S_is_representation : FnScope ["order", "value", "size", "pairs", "interval", "end", "a", "b"] ["order", "value"] (defScope (top 12)) := ⟨rfl, rfl, rfl, by decide +kernel, rfl, by decide +kernel, by decide +kernel⟩
theorem d_is_representation {g : GC} {W : WX} {X : Cx} (bf : BF g) (F_check_order : FD g "check_order" 4 ["value"] fn_check_order) (F_is_between : FD g "is_between" 1 ["value", "low", "high"] fn_is_between) (ok : Ok g s_is_representation 4 W X) : DSs g W [] X (defBody (top 12)) m_is_representation :=
  (dss_cons (ds_expr (dm_call ok F_check_order (da_cons (dm_var ok 0) da_nil)))
    (dss_cons (ds_unp (dm_var ok 0) (dg_tup ok (dgs_cons (dg_name ok 2) (dgs_cons (dg_name ok 3) dgs_nil)) (gsCons_len (gsCons_len (fun _ _ _ h => gsNil_len h)))))
    (dss_cons (ds_if ((dw_or (dt_not (dt_val (dm_isi ok bf "tuple" "tuple" (by decide +kernel) bf.tuple (dm_var ok 1)))) (dw_or1 (dt_cmp (cr_ne ok) (dm_len ok bf (da_cons (dm_var ok 1) da_nil)) (dm_var ok 2))))).dt (dss_one (ds_ret dm_bool)) dss_nil)
    (dss_cons (ds_for (lo := false) ok (di_seq ok (dm_var ok 1)) (dg_name ok 4) (dss_cons (ds_if ((dw_or (dt_not (dt_val (dm_isi ok bf "tuple" "tuple" (by decide +kernel) bf.tuple (dm_var ok 4)))) (dw_or1 (dt_cmp (cr_ne ok) (dm_len ok bf (da_cons (dm_var ok 4) da_nil)) dm_int)))).dt (dss_one (ds_ret dm_bool)) dss_nil)
    (dss_one (ds_if ((dw_or (dt_not (dt_val (dm_all ok bf (da_cons ((dl_comp ok (lo := false) (own := [("end", 5)]) { hi := (di_seq ok (dm_var ok 4)), hg := fun _ ok1 => (dg_name ok1 5), ht := fun _ ok1 => dts_nil, he := fun _ ok1 => (dm_call ok1 F_is_between (da_cons (dm_var ok1 5) (da_cons (dm_neg dm_int) (da_cons dm_int da_nil)))) })).dm da_nil)))) (dw_or1 (dt_cmp cr_gt (dm_ix ok (dm_var ok 4) dm_int) (dm_ix ok (dm_var ok 4) dm_int))))).dt (dss_one (ds_ret dm_bool)) dss_nil))))
    (dss_cons (ds_for (lo := false) ok (di_range1 ok bf (da_cons (dm_var ok 2) da_nil)) (dg_name ok 6) (dss_one (ds_for (lo := false) ok (di_range1 ok bf (da_cons (dm_var ok 2) da_nil)) (dg_name ok 7) (dss_one (ds_if (dt_cmp (cr_ne ok) (dm_cmp (cr_lt ok) (dm_ix ok (dm_ix ok (dm_var ok 1) (dm_var ok 6)) dm_int) (dm_ix ok (dm_ix ok (dm_var ok 1) (dm_var ok 7)) dm_int)) (dm_cmp (cr_in ok) (dm_tup (da_cons (dm_var ok 6) (da_cons (dm_var ok 7) da_nil))) (dm_var ok 3))) (dss_one (ds_ret dm_bool)) dss_nil)))))
    (dss_one (ds_ret dm_bool)))))))

abbrev s_is_unit_representation : SS := ⟨["order", "value", "left", "right"], defScope (top 13), none⟩
theorem S_is_unit_representation : FnScope ["order", "value", "left", "right"] ["order", "value"] (defScope (top 13)) := ⟨rfl, rfl, rfl, by decide +kernel, rfl, by decide +kernel, by decide +kernel⟩
theorem d_is_unit_representation {g : GC} {W : WX} {X : Cx} (bf : BF g) (F_is_representation : FD g "is_representation" 5 ["order", "value"] fn_is_representation) (ok : Ok g s_is_unit_representation 5 W X) : DSs g W [] X (defBody (top 13)) m_is_unit_representation :=
  (dss_cons (ds_if (dt_not (dt_val (dm_call ok F_is_representation (da_cons (dm_var ok 0) (da_cons (dm_var ok 1) da_nil))))) (dss_one (ds_ret dm_bool)) dss_nil)
    (dss_one (ds_ret (dm_cmp (cr_eq ok) (dm_lenS ok bf ((dl_comp ok (lo := false) (own := [("left", 2), ("right", 3)]) { hi := (di_seq ok (dm_var ok 1)), hg := fun _ ok1 => (dg_tup ok1 (dgs_cons (dg_name ok1 2) (dgs_cons (dg_name ok1 3) dgs_nil)) (gsCons_len (gsCons_len (fun _ _ _ h => gsNil_len h)))), ht := fun _ ok1 => dts_nil, he := fun _ ok1 => (dm_sub (dm_var ok1 3) (dm_var ok1 2)) })).dm) dm_int))))

abbrev s_law : SS := ⟨["script", "town", "size", "start", "length", "rows", "k", "left", "order", "now", "due", "same", "ways", "other", "at", "by", "right", "row", "flat", "goods", "good", "bads", "bad"], defScope (top 19), none⟩
def b1_law : MS := (sSeq (sSet 7 (mBin fAdd (mVar 3) (mCallT 3 fn__law_draw (mVar 0) 1 (mCons (mC (.int 9)) mNil))))
    (sAppend 5 (mTup (mCons (mVar 7) (mCons (mBin fAdd (mBin fAdd (mVar 7) (mVar 4)) (mBin fMul (mCallT 3 fn__law_draw (mVar 0) 1 (mCons (mC (.int 2)) mNil)) (mCallT 3 fn__law_draw (mVar 0) 1 (mCons (mC (.int 2)) mNil)))) mNil)))))
def l1_law : MS := sFor (iRange1 (mCons (mVar 2) mNil)) (gSet 6) b1_law
def c1_law : M Ob := mComp 23 (iSeq (mVar 9)) (gSet 17) (tNotM (asB (mCh3 fLt fLe fLt (mUn fNeg (mC (.int 101))) (mBin fIx (mVar 17) (mC (.int 0))) (mBin fIx (mVar 17) (mC (.int 1))) (mC (.int 101))))) (mVar 17) [17]
def c2_law : M Ob := mComp 23 (iSeq (mVar 9)) (gSet 17) tYesM (mBin fSub (mBin fIx (mVar 17) (mC (.int 1))) (mBin fIx (mVar 17) (mC (.int 0)))) [17]
def u1_law : MS := (sSet 9 (mBin fAdd (mBin fAdd (mSl (mVar 9) oNo (oSome (mVar 14))) (mTup (mCons (mVar 13) mNil))) (mSl (mVar 9) (oSome (mBin fAdd (mVar 14) (mC (.int 1)))) oNo)))
def u2_law : MS := (sSeq (sSet 13 (mCallT 3 fn__law_pick (mVar 0) 1 (mCons (mVar 12) mNil)))
    u1_law)
def u3_law : MS := (sSeq (sSet 12 (mLd (mLst (mCons (mTup (mCons (mBin fAdd (mVar 7) (mVar 15)) (mCons (mVar 16) mNil))) (mCons (mTup (mCons (mVar 7) (mCons (mBin fAdd (mVar 16) (mVar 15)) mNil))) (mCons (mTup (mCons (mBin fAdd (mVar 7) (mVar 15)) (mCons (mBin fAdd (mVar 16) (mVar 15)) mNil))) (mCons (mTup (mCons (mBin fAdd (mVar 16) (mC (.int 1))) (mCons (mVar 7) mNil))) mNil)))))))
    u2_law)
def u4_law : MS := (sSeq (sUnp (mBin fIx (mFrz 5) (mVar 14)) (gTupD (gsCons (gSet 7) (gsCons (gSet 16) gsNil))))
    u3_law)
def u5_law : MS := (sSeq (sPar 14 15 (mCons (mCallT 3 fn__law_draw (mVar 0) 1 (mCons (mVar 2) mNil)) (mCons (mBin fSub (mCallT 3 fn__law_draw (mVar 0) 1 (mCons (mC (.int 3)) mNil)) (mC (.int 1))) mNil)))
    u4_law)
def u6_law : MS := (sSeq (sIf (tOrM (asB (mBin fNe (mCall 2 fn_is_representation (mCons (mVar 8) (mCons (mVar 9) mNil))) (mVar 10))) (asB (mBin fNe (mCall 2 fn_is_unit_representation (mCons (mVar 8) (mCons (mVar 9) mNil))) (mAndV (mVar 10) (mVar 11))))) (sRet (mC (.bool false))) sNext)
    u5_law)
def u7_law : MS := (sSeq (sSet 11 (mBin fEq (mUn fLenS (mLd c2_law)) (mC (.int 1))))
    u6_law)
def u8_law : MS := (sSeq (sSet 10 (mAndV (mVar 10) (mBin fEq (mCall 1 fn__law_order_of_rows (mCons (mVar 9) mNil)) (mVar 8))))
    u7_law)
def b2_law : MS := (sSeq (sSet 10 (mAndV (mBin fEq (mApp fLen (mCons (mVar 9) mNil)) (mVar 2)) (mBin fEq (mLd c1_law) (mLd (mLst mNil)))))
    u8_law)
def l2_law : MS := sFor (iRange1 (mCons (mC (.int 8)) mNil)) (gSet 6) b2_law
def c3_law : M Ob := mComp 23 (iSeq (mVar 19)) (gSet 20) tYesM (mCall 2 fn_is_representation (mCons (mVar 18) (mCons (mVar 20) mNil))) [20]
def c4_law : M Ob := mComp 23 (iSeq (mVar 19)) (gSet 20) tYesM (mCall 2 fn_is_unit_representation (mCons (mVar 18) (mCons (mVar 20) mNil))) [20]
def c5_law : M Ob := mComp 23 (iSeq (mVar 21)) (gSet 22) (asB (mBin fIsNot (mCall 2 fn_is_representation (mCons (mVar 18) (mCons (mVar 22) mNil))) (mC (.bool false)))) (mVar 22) [22]
def c6_law : M Ob := mComp 23 (iSeq (mVar 21)) (gSet 22) (asB (mBin fIsNot (mCall 2 fn_is_unit_representation (mCons (mVar 18) (mCons (mVar 22) mNil))) (mC (.bool false)))) (mVar 22) [22]
def r16_law : MS := (sRet (mBin fEq (mLd c6_law) (mLd (mLst mNil))))
def r15_law : MS := (sSeq (sIf (asB (mBin fNe (mLd c5_law) (mLd (mLst mNil)))) (sRet (mC (.bool false))) sNext)
    r16_law)
def r14_law : MS := (sSeq (sSet 21 (mLd (mBinL fCat (mVar 21) (mLd (mLst (mCons (mTup (mCons (mTup (mCons (mC (.int 0)) (mCons (mC (.int 1)) mNil))) (mCons (mTup (mCons (mC (.int 0)) (mCons (mC (.int 1)) mNil))) (mCons (mTup (mCons (mC (.int 0)) (mCons (mC (.int 1)) mNil))) mNil)))) (mCons (mTup (mCons (mTup (mCons (mC (.int 0)) (mCons (mC (.int 1)) mNil))) (mCons (mTup (mCons (mC (.int 2)) (mCons (mC (.int 3)) mNil))) mNil))) mNil)))))))
    r15_law)
def r13_law : MS := (sSeq (sSet 21 (mLd (mBinL fCat (mVar 21) (mLd (mLst (mCons (mTup (mCons (mTup (mCons (mC (.int 0)) (mCons (mC (.int 101)) mNil))) (mCons (mTup (mCons (mC (.int 0)) (mCons (mC (.int 1)) mNil))) mNil))) (mCons (mTup (mCons (mTup (mCons (mUn fNeg (mC (.int 101))) (mCons (mC (.int 0)) mNil))) (mCons (mTup (mCons (mC (.int 0)) (mCons (mC (.int 0)) mNil))) mNil))) (mCons (mTup (mCons (mTup (mCons (mC (.int 0)) (mCons (mC (.bool true)) mNil))) (mCons (mTup (mCons (mC (.int 0)) (mCons (mC (.int 1)) mNil))) mNil))) (mCons (mTup (mCons (mTup (mCons (mC (.int 0)) (mCons (mC .none) mNil))) (mCons (mTup (mCons (mC (.int 0)) (mCons (mC (.int 1)) mNil))) mNil))) mNil)))))))))
    r14_law)
def r12_law : MS := (sSeq (sSet 21 (mLd (mLst (mCons (mC .none) (mCons (mC (.int 5)) (mCons (mTup mNil) (mCons (mTup (mCons (mTup (mCons (mC (.int 0)) (mCons (mC (.int 1)) mNil))) mNil)) (mCons (mLd (mLst (mCons (mTup (mCons (mC (.int 0)) (mCons (mC (.int 1)) mNil))) (mCons (mTup (mCons (mC (.int 0)) (mCons (mC (.int 1)) mNil))) mNil)))) (mCons (mTup (mCons (mTup (mCons (mC (.int 0)) (mCons (mC (.int 1)) mNil))) (mCons (mLd (mLst (mCons (mC (.int 0)) (mCons (mC (.int 1)) mNil)))) mNil))) (mCons (mTup (mCons (mTup (mCons (mC (.int 0)) (mCons (mC (.int 1)) mNil))) (mCons (mTup (mCons (mC (.int 0)) (mCons (mC (.int 1)) (mCons (mC (.int 2)) mNil)))) mNil))) (mCons (mTup (mCons (mTup (mCons (mC (.int 0)) (mCons (mC (.int 1)) mNil))) (mCons (mTup (mCons (mC (.int 1)) (mCons (mC (.int 0)) mNil))) mNil))) mNil)))))))))))
    r13_law)
def r11_law : MS := (sSeq (sIf (asB (mBin fNe (mLd c4_law) (mLd (mLst (mCons (mC (.bool false)) (mCons (mC (.bool true)) (mCons (mC (.bool true)) (mCons (mC (.bool true)) mNil)))))))) (sRet (mC (.bool false))) sNext)
    r12_law)
def r10_law : MS := (sSeq (sIf (asB (mBin fNe (mLd c3_law) (mLd (mRep (mLst (mCons (mC (.bool true)) mNil)) (mC (.int 4)))))) (sRet (mC (.bool false))) sNext)
    r11_law)
def r9_law : MS := (sSeq (sSet 19 (mLd (mLst (mCons (mTup (mCons (mTup (mCons (mUn fNeg (mC (.int 100))) (mCons (mC (.int 100)) mNil))) (mCons (mTup (mCons (mC (.int 0)) (mCons (mC (.int 0)) mNil))) mNil))) (mCons (mTup (mCons (mTup (mCons (mUn fNeg (mC (.int 100))) (mCons (mUn fNeg (mC (.int 100))) mNil))) (mCons (mTup (mCons (mUn fNeg (mC (.int 100))) (mCons (mUn fNeg (mC (.int 100))) mNil))) mNil))) (mCons (mTup (mCons (mTup (mCons (mC (.int 100)) (mCons (mC (.int 100)) mNil))) (mCons (mTup (mCons (mC (.int 100)) (mCons (mC (.int 100)) mNil))) mNil))) (mCons (mTup (mCons (mTup (mCons (mC (.int 0)) (mCons (mC (.int 1)) mNil))) (mCons (mTup (mCons (mC (.int 1)) (mCons (mC (.int 2)) mNil))) mNil))) mNil)))))))
    r10_law)
def r8_law : MS := (sSeq (sSet 18 (mTup (mCons (mC (.int 2)) (mCons (mTup mNil) mNil))))
    r9_law)
def r7_law : MS := (sSeq l2_law
    r8_law)
def r6_law : MS := (sSeq (sSet 9 (mApp fTuple (mCons (mFrz 5) mNil)))
    r7_law)
def r5_law : MS := (sSeq (sSet 8 (mCall 1 fn__law_order_of_rows (mCons (mFrz 5) mNil)))
    r6_law)
def r4_law : MS := (sSeq l1_law
    r5_law)
def r3_law : MS := (sSeq (sSetL 5 (mLst mNil))
    r4_law)
def r2_law : MS := (sSeq (sPar 3 4 (mCons (mCallT 3 fn__law_pick (mVar 0) 1 (mCons (mLd (mLst (mCons (mUn fNeg (mC (.int 100))) (mCons (mC (.int 0)) (mCons (mC (.int 88)) (mCons (mUn fNeg (mC (.int 3))) mNil)))))) mNil)) (mCons (mCallT 3 fn__law_draw (mVar 0) 1 (mCons (mC (.int 4)) mNil)) mNil)))
    r3_law)
def r1_law : MS := (sSeq (sSet 2 (mBin fAdd (mC (.int 1)) (mCallT 3 fn__law_draw (mVar 0) 1 (mCons (mC (.int 7)) mNil))))
    r2_law)
def m_law : MS := (sSeq (sSetL 1 (mCallL 1 fn__law_town (mCons (mVar 0) mNil)))
    r1_law)
def fn_law : List D → FR := runF 23 m_law
theorem S_law : FnScope ["script", "town", "size", "start", "length", "rows", "k", "left", "order", "now", "due", "same", "ways", "other", "at", "by", "right", "row", "flat", "goods", "good", "bads", "bad"] ["script"] (defScope (top 19)) := ⟨rfl, rfl, rfl, by decide +kernel, rfl, by decide +kernel, by decide +kernel⟩
theorem d_law {g : GC} {W : WX} {X : Cx} (bf : BF g) (F__law_draw : FT g "_law_draw" 1 ["script", "town", "limit"] fn__law_draw) (F__law_order_of_rows : FD g "_law_order_of_rows" 1 ["rows"] fn__law_order_of_rows) (F__law_pick : FT g "_law_pick" 2 ["script", "town", "choices"] fn__law_pick) (F__law_town : FL g "_law_town" 1 ["script"] fn__law_town) (F_is_representation : FD g "is_representation" 5 ["order", "value"] fn_is_representation) (F_is_unit_representation : FD g "is_unit_representation" 6 ["order", "value"] fn_is_unit_representation) (ok : Ok g s_law 6 W X) : DSs g W [] X (defBody (top 19)) m_law :=
  (dss_cons (ds_setL ok 1 (dl_call ok F__law_town (da_cons (dm_var ok 0) da_nil)))
    (dss_cons (ds_set ok 2 (dm_add ok dm_int (dm_callTown ok F__law_draw (dm_var ok 0) 1 (da_cons dm_int da_nil))))
    (dss_cons (ds_par ok 3 4 (da_cons (dm_callTown ok F__law_pick (dm_var ok 0) 1 (da_cons ((dl_lst (da_cons (dm_neg dm_int) (da_cons dm_int (da_cons dm_int (da_cons (dm_neg dm_int) da_nil)))))).dm da_nil)) (da_cons (dm_callTown ok F__law_draw (dm_var ok 0) 1 (da_cons dm_int da_nil)) da_nil)) (hw := ok.ss2))
    (dss_cons (ds_setL ok 5 (dl_lst da_nil))
    (dss_cons (ds_for (lo := false) ok (di_range1 ok bf (da_cons (dm_var ok 2) da_nil)) (dg_name ok 6) (dss_cons (ds_set ok 7 (dm_add ok (dm_var ok 3) (dm_callTown ok F__law_draw (dm_var ok 0) 1 (da_cons dm_int da_nil))))
    (dss_one (ds_append ok 5 {} (dm_tup (da_cons (dm_var ok 7) (da_cons (dm_add ok (dm_add ok (dm_var ok 7) (dm_var ok 4)) (dm_mul (dm_callTown ok F__law_draw (dm_var ok 0) 1 (da_cons dm_int da_nil)) (dm_callTown ok F__law_draw (dm_var ok 0) 1 (da_cons dm_int da_nil)))) da_nil)))))))
    (dss_cons (ds_set ok 8 (dm_call ok F__law_order_of_rows (da_cons (dm_frz ok 5) da_nil)))
    (dss_cons (ds_set ok 9 (dm_tuple ok bf (da_cons (dm_frz ok 5) da_nil)))
    (dss_cons (ds_for (lo := false) ok (di_range1 ok bf (da_cons dm_int da_nil)) (dg_name ok 6) (dss_cons (ds_set ok 10 (dm_and (dm_cmp (cr_eq ok) (dm_len ok bf (da_cons (dm_var ok 9) da_nil)) (dm_var ok 2)) (dm_one (dm_cmp (cr_eq ok) ((dl_comp ok (lo := false) (own := [("row", 17)]) { hi := (di_seq ok (dm_var ok 9)), hg := fun _ ok1 => (dg_name ok1 17), ht := fun _ ok1 => (dts_one (dt_not (dt_ch3 (cr_lt ok1) cr_le (cr_lt ok1) (dm_neg dm_int) (dm_ix ok1 (dm_var ok1 17) dm_int) (dm_ix ok1 (dm_var ok1 17) dm_int) dm_int))), he := fun _ ok1 => (dm_var ok1 17) })).dm ((dl_lst da_nil)).dm))))
    (dss_cons (ds_set ok 10 (dm_and (dm_var ok 10) (dm_one (dm_cmp (cr_eq ok) (dm_call ok F__law_order_of_rows (da_cons (dm_var ok 9) da_nil)) (dm_var ok 8)))))
    (dss_cons (ds_set ok 11 (dm_cmp (cr_eq ok) (dm_lenS ok bf ((dl_comp ok (lo := false) (own := [("row", 17)]) { hi := (di_seq ok (dm_var ok 9)), hg := fun _ ok1 => (dg_name ok1 17), ht := fun _ ok1 => dts_nil, he := fun _ ok1 => (dm_sub (dm_ix ok1 (dm_var ok1 17) dm_int) (dm_ix ok1 (dm_var ok1 17) dm_int)) })).dm) dm_int))
    (dss_cons (ds_if ((dw_or (dt_cmp (cr_ne ok) (dm_call ok F_is_representation (da_cons (dm_var ok 8) (da_cons (dm_var ok 9) da_nil))) (dm_var ok 10)) (dw_or1 (dt_cmp (cr_ne ok) (dm_call ok F_is_unit_representation (da_cons (dm_var ok 8) (da_cons (dm_var ok 9) da_nil))) (dm_and (dm_var ok 10) (dm_one (dm_var ok 11))))))).dt (dss_one (ds_ret dm_bool)) dss_nil)
    (dss_cons (ds_par ok 14 15 (da_cons (dm_callTown ok F__law_draw (dm_var ok 0) 1 (da_cons (dm_var ok 2) da_nil)) (da_cons (dm_sub (dm_callTown ok F__law_draw (dm_var ok 0) 1 (da_cons dm_int da_nil)) dm_int) da_nil)) (hw := ok.ss2))
    (dss_cons (ds_unp (dm_ix ok (dm_frz ok 5) (dm_var ok 14)) (dg_tup ok (dgs_cons (dg_name ok 7) (dgs_cons (dg_name ok 16) dgs_nil)) (gsCons_len (gsCons_len (fun _ _ _ h => gsNil_len h)))))
    (dss_cons (ds_set ok 12 ((dl_lst (da_cons (dm_tup (da_cons (dm_add ok (dm_var ok 7) (dm_var ok 15)) (da_cons (dm_var ok 16) da_nil))) (da_cons (dm_tup (da_cons (dm_var ok 7) (da_cons (dm_add ok (dm_var ok 16) (dm_var ok 15)) da_nil))) (da_cons (dm_tup (da_cons (dm_add ok (dm_var ok 7) (dm_var ok 15)) (da_cons (dm_add ok (dm_var ok 16) (dm_var ok 15)) da_nil))) (da_cons (dm_tup (da_cons (dm_add ok (dm_var ok 16) dm_int) (da_cons (dm_var ok 7) da_nil))) da_nil)))))).dm)
    (dss_cons (ds_set ok 13 (dm_callTown ok F__law_pick (dm_var ok 0) 1 (da_cons (dm_var ok 12) da_nil)))
    (dss_one (ds_set ok 9 (dm_add ok (dm_add ok (dm_sl ok (dm_var ok 9) do_none (do_some (dm_var ok 14))) (dm_tup (da_cons (dm_var ok 13) da_nil))) (dm_sl ok (dm_var ok 9) (do_some (dm_add ok (dm_var ok 14) dm_int)) do_none)))))))))))))
    (dss_cons (ds_set ok 18 (dm_tup (da_cons dm_int (da_cons (dm_tup da_nil) da_nil))))
    (dss_cons (ds_set ok 19 ((dl_lst (da_cons (dm_tup (da_cons (dm_tup (da_cons (dm_neg dm_int) (da_cons dm_int da_nil))) (da_cons (dm_tup (da_cons dm_int (da_cons dm_int da_nil))) da_nil))) (da_cons (dm_tup (da_cons (dm_tup (da_cons (dm_neg dm_int) (da_cons (dm_neg dm_int) da_nil))) (da_cons (dm_tup (da_cons (dm_neg dm_int) (da_cons (dm_neg dm_int) da_nil))) da_nil))) (da_cons (dm_tup (da_cons (dm_tup (da_cons dm_int (da_cons dm_int da_nil))) (da_cons (dm_tup (da_cons dm_int (da_cons dm_int da_nil))) da_nil))) (da_cons (dm_tup (da_cons (dm_tup (da_cons dm_int (da_cons dm_int da_nil))) (da_cons (dm_tup (da_cons dm_int (da_cons dm_int da_nil))) da_nil))) da_nil)))))).dm)
    (dss_cons (ds_if (dt_cmp (cr_ne ok) ((dl_comp ok (lo := false) (own := [("good", 20)]) { hi := (di_seq ok (dm_var ok 19)), hg := fun _ ok1 => (dg_name ok1 20), ht := fun _ ok1 => dts_nil, he := fun _ ok1 => (dm_call ok1 F_is_representation (da_cons (dm_var ok1 18) (da_cons (dm_var ok1 20) da_nil))) })).dm ((dl_rep (dl_lst (da_cons dm_bool da_nil)) dm_int)).dm) (dss_one (ds_ret dm_bool)) dss_nil)
    (dss_cons (ds_if (dt_cmp (cr_ne ok) ((dl_comp ok (lo := false) (own := [("good", 20)]) { hi := (di_seq ok (dm_var ok 19)), hg := fun _ ok1 => (dg_name ok1 20), ht := fun _ ok1 => dts_nil, he := fun _ ok1 => (dm_call ok1 F_is_unit_representation (da_cons (dm_var ok1 18) (da_cons (dm_var ok1 20) da_nil))) })).dm ((dl_lst (da_cons dm_bool (da_cons dm_bool (da_cons dm_bool (da_cons dm_bool da_nil)))))).dm) (dss_one (ds_ret dm_bool)) dss_nil)
    (dss_cons (ds_set ok 21 ((dl_lst (da_cons dm_none (da_cons dm_int (da_cons (dm_tup da_nil) (da_cons (dm_tup (da_cons (dm_tup (da_cons dm_int (da_cons dm_int da_nil))) da_nil)) (da_cons ((dl_lst (da_cons (dm_tup (da_cons dm_int (da_cons dm_int da_nil))) (da_cons (dm_tup (da_cons dm_int (da_cons dm_int da_nil))) da_nil)))).dm (da_cons (dm_tup (da_cons (dm_tup (da_cons dm_int (da_cons dm_int da_nil))) (da_cons ((dl_lst (da_cons dm_int (da_cons dm_int da_nil)))).dm da_nil))) (da_cons (dm_tup (da_cons (dm_tup (da_cons dm_int (da_cons dm_int da_nil))) (da_cons (dm_tup (da_cons dm_int (da_cons dm_int (da_cons dm_int da_nil)))) da_nil))) (da_cons (dm_tup (da_cons (dm_tup (da_cons dm_int (da_cons dm_int da_nil))) (da_cons (dm_tup (da_cons dm_int (da_cons dm_int da_nil))) da_nil))) da_nil)))))))))).dm)
    (dss_cons (ds_set ok 21 ((dl_cat ok (dm_var ok 21) ((dl_lst (da_cons (dm_tup (da_cons (dm_tup (da_cons dm_int (da_cons dm_int da_nil))) (da_cons (dm_tup (da_cons dm_int (da_cons dm_int da_nil))) da_nil))) (da_cons (dm_tup (da_cons (dm_tup (da_cons (dm_neg dm_int) (da_cons dm_int da_nil))) (da_cons (dm_tup (da_cons dm_int (da_cons dm_int da_nil))) da_nil))) (da_cons (dm_tup (da_cons (dm_tup (da_cons dm_int (da_cons dm_bool da_nil))) (da_cons (dm_tup (da_cons dm_int (da_cons dm_int da_nil))) da_nil))) (da_cons (dm_tup (da_cons (dm_tup (da_cons dm_int (da_cons dm_none da_nil))) (da_cons (dm_tup (da_cons dm_int (da_cons dm_int da_nil))) da_nil))) da_nil)))))).dm)).dm)
    (dss_cons (ds_set ok 21 ((dl_cat ok (dm_var ok 21) ((dl_lst (da_cons (dm_tup (da_cons (dm_tup (da_cons dm_int (da_cons dm_int da_nil))) (da_cons (dm_tup (da_cons dm_int (da_cons dm_int da_nil))) (da_cons (dm_tup (da_cons dm_int (da_cons dm_int da_nil))) da_nil)))) (da_cons (dm_tup (da_cons (dm_tup (da_cons dm_int (da_cons dm_int da_nil))) (da_cons (dm_tup (da_cons dm_int (da_cons dm_int da_nil))) da_nil))) da_nil)))).dm)).dm)
    (dss_cons (ds_if (dt_cmp (cr_ne ok) ((dl_comp ok (lo := false) (own := [("bad", 22)]) { hi := (di_seq ok (dm_var ok 21)), hg := fun _ ok1 => (dg_name ok1 22), ht := fun _ ok1 => (dts_one (dt_cmp cr_isnot (dm_call ok1 F_is_representation (da_cons (dm_var ok1 18) (da_cons (dm_var ok1 22) da_nil))) dm_bool)), he := fun _ ok1 => (dm_var ok1 22) })).dm ((dl_lst da_nil)).dm) (dss_one (ds_ret dm_bool)) dss_nil)
    (dss_one (ds_ret (dm_cmp (cr_eq ok) ((dl_comp ok (lo := false) (own := [("bad", 22)]) { hi := (di_seq ok (dm_var ok 21)), hg := fun _ ok1 => (dg_name ok1 22), ht := fun _ ok1 => (dts_one (dt_cmp cr_isnot (dm_call ok1 F_is_unit_representation (da_cons (dm_var ok1 18) (da_cons (dm_var ok1 22) da_nil))) dm_bool)), he := fun _ ok1 => (dm_var ok1 22) })).dm ((dl_lst da_nil)).dm)))))))))))))))))))

end LW

set_option maxHeartbeats 1000000
namespace LW
open PySem PySem.Spec PyProof.Rows L2 DX LB
/-! ### the plain law -/
theorem mem_rowsP {rows : List (Int × Int)} {a b : Nat} : (a, b) ∈ rowsP rows ↔ a < rows.length ∧ b < rows.length ∧ befB rows a b = true := by
  unfold rowsP rowP
  simp only [List.mem_flatMap, List.mem_range, List.mem_map, List.mem_filter, Prod.mk.injEq]
  constructor
  · rintro ⟨a', h1, b', ⟨h2, h3⟩, rfl, rfl⟩; exact ⟨h1, h2, h3⟩
  · rintro ⟨h1, h2, h3⟩; exact ⟨a, h1, b, ⟨h2, h3⟩, rfl, rfl⟩
theorem rowsP_len (rows : List (Int × Int)) (h : rows.length ≤ 8) : (rowsP rows).length ≤ 1000 := by
  have := flat_le rows (List.range rows.length)
  rw [List.length_range] at this
  have a3 : rows.length * rows.length ≤ 8 * 8 := Nat.mul_le_mul h h
  unfold rowsP
  omega
theorem asc_of_pair {ps : List (Nat × Nat)} (h : ps.Pairwise fun p q => plt p q = true) : ascB ps = true := by
  unfold ascB
  rw [List.all_eq_true]
  intro k hk
  have hk' : k < ps.length - 1 := List.mem_range.mp hk
  have := List.pairwise_iff_getElem.mp h k (k + 1) (by omega) (by omega) (by omega)
  rw [List.getD_eq_getElem?_getD, List.getD_eq_getElem?_getD, List.getElem?_eq_getElem (by omega), List.getElem?_eq_getElem (by omega)]
  exact this
theorem rowsP_pair (rows : List (Int × Int)) : (rowsP rows).Pairwise fun p q => plt p q = true := by
  unfold rowsP
  rw [List.pairwise_flatMap]
  refine ⟨fun a ha => ?_, ?_⟩
  · unfold rowP
    rw [List.pairwise_map]
    refine List.Pairwise.imp (R := fun x y => x < y) ?_ (List.Pairwise.filter _ List.pairwise_lt_range)
    intro x y h
    simp [plt, h]
  · refine List.Pairwise.imp (R := fun x y => x < y) ?_ List.pairwise_lt_range
    intro x y h p hp q hq
    unfold rowP at hp hq
    obtain ⟨p2, _, rfl⟩ := List.mem_map.mp hp
    obtain ⟨q2, _, rfl⟩ := List.mem_map.mp hq
    simp [plt, h]
    omega
theorem getD_mem {α : Type} {xs : List α} {k : Nat} {d : α} (h : k < xs.length) : xs.getD k d ∈ xs := by
  rw [List.getD_eq_getElem?_getD, List.getElem?_eq_getElem h]; exact List.getElem_mem h
theorem rows_ord {rows : List (Int × Int)} (h1 : 1 ≤ rows.length) (h8 : rows.length ≤ 8) (h : ∀ r ∈ rows, r.1 ≤ r.2) : ordB rows.length (rowsP rows) = true := by
  unfold ordB
  have hb : ((rowsP rows).all fun p => decide (p.1 < rows.length) && decide (p.2 < rows.length)) = true := by
    rw [List.all_eq_true]
    rintro ⟨a, b⟩ hp
    have := mem_rowsP.mp hp
    simp [this.1, this.2.1]
  have hc : closB (rowsP rows) = true := by
    unfold closB
    rw [Bool.not_eq_true', List.any_eq_false]
    rintro ⟨a, b⟩ hp
    have hp' := mem_rowsP.mp hp
    have hab : (rows.getD a (0, 0)).2 < (rows.getD b (0, 0)).1 := by simpa [befB] using hp'.2.2
    simp only [Bool.or_eq_true, decide_eq_true_eq, List.any_eq_true, Bool.and_eq_true, Bool.not_eq_true', decide_eq_false_iff_not, not_or]
    refine ⟨?_, ?_⟩
    · rintro rfl
      have := h _ (getD_mem (d := (0, 0)) hp'.1)
      omega
    · rintro ⟨⟨c, d⟩, hq, hbc, hno⟩
      simp only at hbc
      subst hbc
      have hq' := mem_rowsP.mp hq
      have hbd : (rows.getD b (0, 0)).2 < (rows.getD d (0, 0)).1 := by simpa [befB] using hq'.2.2
      have := h _ (getD_mem (d := (0, 0)) hq'.1)
      apply hno
      refine mem_rowsP.mpr ⟨hp'.1, hq'.2.1, ?_⟩
      show decide ((rows.getD a (0, 0)).2 < (rows.getD d (0, 0)).1) = true
      rw [decide_eq_true_eq]
      omega
  rw [hb, hc, asc_of_pair (rowsP_pair rows), decide_eq_true h1, decide_eq_true h8]
  rfl
def badR (r : Int × Int) : Bool := !(decide (-101 < r.1) && (decide (r.1 ≤ r.2) && decide (r.2 < 101)))
theorem good_bad (r : Int × Int) : (!goodR r) = badR r := by
  unfold goodR badR
  congr 1
  rw [Bool.eq_iff_iff]
  simp only [Bool.and_eq_true, decide_eq_true_eq]
  omega
theorem rep_due (rows now : List (Int × Int)) (h : now.length = rows.length) : repB rows.length (rowsP rows) now = (decide (now.filter badR = []) && decide (rowsP now = rowsP rows)) := by
  unfold repB
  have e1 : (!(now.any fun r => !goodR r)) = decide (now.filter badR = []) := by
    simp only [good_bad]
    rw [Bool.eq_iff_iff, decide_eq_true_eq, Bool.not_eq_true', List.any_eq_false, List.filter_eq_nil_iff]
  have e2 : (!((List.range rows.length).any fun a => (List.range rows.length).any fun b => !(befB now a b == decide ((a, b) ∈ rowsP rows)))) = decide (rowsP now = rowsP rows) := by
    rw [Bool.eq_iff_iff, decide_eq_true_eq, Bool.not_eq_true', List.any_eq_false]
    constructor
    · intro hh
      have key : ∀ a b, a < rows.length → b < rows.length → befB now a b = befB rows a b := fun a b ha hb => by
        have := hh a (List.mem_range.mpr ha)
        rw [List.any_eq_true] at this
        have h2 : (befB now a b == decide ((a, b) ∈ rowsP rows)) = true := by
          cases q : (befB now a b == decide ((a, b) ∈ rowsP rows)) with
          | true => rfl
          | false => exact absurd ⟨b, List.mem_range.mpr hb, by rw [q]; rfl⟩ this
        rw [beq_iff_eq] at h2
        rw [h2]
        by_cases hm : (a, b) ∈ rowsP rows
        · rw [decide_eq_true hm, (mem_rowsP.mp hm).2.2]
        · rw [decide_eq_false hm]
          cases q : befB rows a b with
          | false => rfl
          | true => exact absurd (mem_rowsP.mpr ⟨ha, hb, q⟩) hm
      unfold rowsP
      rw [h]
      have e : ∀ a ∈ List.range rows.length, rowP now a = rowP rows a := fun a ha => by
        unfold rowP
        rw [h]
        congr 1
        apply List.filter_congr
        intro b hb
        exact key a b (List.mem_range.mp ha) (List.mem_range.mp hb)
      rw [List.flatMap_def, List.flatMap_def, List.map_congr_left e]
    · intro e a ha
      rw [List.any_eq_true]
      rintro ⟨b, hb, q⟩
      have ha' := List.mem_range.mp ha
      have hb' := List.mem_range.mp hb
      have : befB now a b = decide ((a, b) ∈ rowsP rows) := by
        rw [← e]
        by_cases hm : (a, b) ∈ rowsP now
        · rw [decide_eq_true hm, (mem_rowsP.mp hm).2.2]
        · rw [decide_eq_false hm]
          cases q : befB now a b with
          | false => rfl
          | true => exact absurd (mem_rowsP.mpr ⟨by omega, by omega, q⟩) hm
      rw [this] at q
      simp at q
  rw [e1, e2]
/-! ### the run -/
abbrev Sc (ns : List Int) : D := .list (ns.map .int)
abbrev C23 (ns : List Int) (ts : List D) (n : Nat) (st len : Int) (c5 c6 c7 c8 c9 c10 c11 c12 c13 c14 c15 c16 : Cell) : Rho :=
  [.val (Sc ns), .own (.lst ts), .val (.int n), .val (.int st), .val (.int len), c5, c6, c7, c8, c9, c10, c11, c12, c13, c14, c15, c16, .no, .no, .no, .no, .no, .no]
theorem loop1 {ns : List Int} {ts : List D} {n : Nat} {st len : Int} (hn : n ≤ 8) (hlen : 0 ≤ len) (hl4 : len < 4) (h : Town ns 3 ts) :
    ∃ (ts' : List D) (rows : List (Int × Int)) (c6 c7 : Cell), l1_law (C23 ns ts n st len (.own (.lst [])) .no .no .no .no .no .no .no .no .no .no .no) = .next (C23 ns ts' n st len (.own (.lst (rows.map iD))) c6 c7 .no .no .no .no .no .no .no .no .no) ∧
      Town ns 100 ts' ∧ rows.length = n ∧ ∀ r ∈ rows, r.1 ≤ r.2 := by
  let I : Nat → Rho → Prop := fun k ρ => ∃ (ts' : List D) (rows : List (Int × Int)) (c6 c7 : Cell), ρ = C23 ns ts' n st len (.own (.lst (rows.map iD))) c6 c7 .no .no .no .no .no .no .no .no .no ∧ Town ns (3 + 3 * k) ts' ∧ rows.length = k ∧ ∀ r ∈ rows, r.1 ≤ r.2
  have h1 := forL_next (gs := gSet 6) (body := b1_law) (e := fun i : Nat => .int i) I (List.range n) 0 (C23 ns ts n st len (.own (.lst [])) .no .no .no .no .no .no .no .no .no .no .no) ⟨ts, [], _, _, rfl, h, rfl, fun r hr => by cases hr⟩ (by
    rintro i a ha ρ ⟨ts1, rows, c6, c7, rfl, ht, hr, hle⟩
    have hi : i < n := by
      have := (List.getElem?_eq_some_iff.mp ha).1
      simpa using this
    obtain ⟨r1, ts2, d1, g1, g2, t1⟩ := draw_ok ht (by omega) 9 (by decide) (by decide)
    obtain ⟨r2, ts3, d2, g3, g4, t2⟩ := draw_ok t1 (by omega) 2 (by decide) (by decide)
    obtain ⟨r3, ts4, d3, g5, g6, t3⟩ := draw_ok t2 (by omega) 2 (by decide) (by decide)
    have hm : fMul (.int r2) (.int r3) = some (.int (r2 * r3)) := fMul_ok (.inl ⟨by omega, by omega⟩)
    have hge : 0 ≤ r2 * r3 := Int.mul_nonneg g3 g5
    refine ⟨_, C23 ns ts4 n st len (.own (.lst ((rows ++ [(st + r1, st + r1 + len + r2 * r3)]).map iD))) (.val (.int a)) (.val (.int (st + r1))) .no .no .no .no .no .no .no .no .no, rfl, .inl ?_, ts4, _, _, _, rfl, ?_, ?_, ?_⟩
    · have hl : rows.length < sizeLine := by rw [hr]; show 0 + i < 16777216; omega
      simp [b1_law, d1, d2, d3, hm, hl]
    · rw [show 3 + 3 * (0 + i + 1) = 3 + 3 * (0 + i) + 1 + 1 + 1 by omega]; exact t3
    · simp [hr]
    · intro r hr'
      rcases List.mem_append.mp hr' with h' | h'
      · exact hle r h'
      · simp at h'; subst h'; show st + r1 ≤ st + r1 + len + r2 * r3; omega)
  obtain ⟨ρ', e, ts', rows, c6, c7, rfl, t, hr, hle⟩ := h1
  rw [Nat.zero_add, List.length_range] at hr t
  refine ⟨ts', rows, c6, c7, ?_, t.mono (by omega), hr, hle⟩
  have : l1_law (C23 ns ts n st len (.own (.lst [])) .no .no .no .no .no .no .no .no .no .no .no) = forL (gSet 6) b1_law ((List.range n).map fun i : Nat => .int i) (C23 ns ts n st len (.own (.lst [])) .no .no .no .no .no .no .no .no .no .no .no) := by
    simp [l1_law, rng1_nat n (by omega)]
  rw [this]
  exact e
theorem due_eq (n : Nat) (rows now : List (Int × Int)) (hr : rows.length = n) (hnow : now.length = n) : repB n (rowsP rows) now = (decide (now.filter badR = []) && decide (rowsP now = rowsP rows)) := by
  subst hr; exact rep_due rows now hnow
theorem step2 {ns : List Int} {ts1 ts2 ts3 ts4 : List D} {n a r1 : Nat} {st len r2 : Int} {rows now : List (Int × Int)} {row p : Int × Int} {c7 c10 c11 c12 c13 c14 c15 c16 : Cell} (hn1 : 1 ≤ n) (hn : n ≤ 8) (hr : rows.length = n) (hle : ∀ r ∈ rows, r.1 ≤ r.2) (hnow : now.length = n)
    (d1 : fn__law_draw (.list (ns.map .int)) ts1 [.int n] = .ok (.int r1) ts2) (d2 : fn__law_draw (.list (ns.map .int)) ts2 [.int 3] = .ok (.int r2) ts3) (hrow : atI (rows.map iD) (r1 : Int) = some (iD row))
    (d3 : fn__law_pick (.list (ns.map .int)) ts3 [.list [iD (row.1 + (r2 - 1), row.2), iD (row.1, row.2 + (r2 - 1)), iD (row.1 + (r2 - 1), row.2 + (r2 - 1)), iD (row.2 + 1, row.1)]] = .ok (iD p) ts4) (g1 : r1 < n) :
    b2_law (C23 ns ts1 n st len (.val (.list (rows.map iD))) (.val (.int a)) c7 (.val (oD n (rowsP rows))) (.val (.tuple (now.map iD))) c10 c11 c12 c13 c14 c15 c16) =
      .next (C23 ns ts4 n st len (.val (.list (rows.map iD))) (.val (.int a)) (.val (.int row.1)) (.val (oD n (rowsP rows))) (.val (.tuple ((now.take r1 ++ p :: now.drop (r1 + 1)).map iD))) (.val (.bool (repB n (rowsP rows) now))) (.val (.bool (unitB now))) (.val (.list [iD (row.1 + (r2 - 1), row.2), iD (row.1, row.2 + (r2 - 1)), iD (row.1 + (r2 - 1), row.2 + (r2 - 1)), iD (row.2 + 1, row.1)])) (.val (iD p)) (.val (.int r1)) (.val (.int (r2 - 1))) (.val (.int row.2))) := by
  have ho : ordB n (rowsP rows) = true := by subst hr; exact rows_ord hn1 hn hle
  have hpl : (rowsP rows).length ≤ 1000 := rowsP_len rows (by omega)
  have rp := rep_ok hpl (by omega) ho now hnow
  have un := unit_ok hpl (by omega) ho now hnow
  have on := order_rows_ok now (by omega) (.tuple (now.map iD)) (.inr rfl)
  rw [hnow] at on
  have hdue := due_eq n rows now hr hnow
  generalize repB n (rowsP rows) now = due at *
  have q1 : ∀ c10 c11 c12 c13 c14 c15 c16, c1_law (C23 ns ts1 n st len (.val (.list (rows.map iD))) (.val (.int a)) c7 (.val (oD n (rowsP rows))) (.val (.tuple (now.map iD))) c10 c11 c12 c13 c14 c15 c16) = .ok (.lst ((now.filter badR).map iD)) (C23 ns ts1 n st len (.val (.list (rows.map iD))) (.val (.int a)) c7 (.val (oD n (rowsP rows))) (.val (.tuple (now.map iD))) c10 c11 c12 c13 c14 c15 c16) := fun c10 c11 c12 c13 c14 c15 c16 => by
    refine mComp_pure (e := iD) (f := iD) badR now (by simp) rfl (by simp; omega) (by simp) fun r hr => ⟨_, rfl, rfl, ?_, fun _ => by simp [wipeR]⟩
    by_cases h1 : -101 < r.1 <;> by_cases h2 : r.1 ≤ r.2 <;> simp [wipeR, badR, h1, h2]
  have q2 : ∀ c10 c11 c12 c13 c14 c15 c16, c2_law (C23 ns ts1 n st len (.val (.list (rows.map iD))) (.val (.int a)) c7 (.val (oD n (rowsP rows))) (.val (.tuple (now.map iD))) c10 c11 c12 c13 c14 c15 c16) = .ok (.lst (now.map fun r => .int (r.2 - r.1))) (C23 ns ts1 n st len (.val (.list (rows.map iD))) (.val (.int a)) c7 (.val (oD n (rowsP rows))) (.val (.tuple (now.map iD))) c10 c11 c12 c13 c14 c15 c16) := fun c10 c11 c12 c13 c14 c15 c16 =>
    mComp_map (e := iD) now (by simp) rfl (by simp; omega) (by simp) fun r hr => ⟨_, rfl, rfl, by simp [wipeR]⟩
  have q3 : fEq (.list ((now.filter badR).map iD)) (.list []) = some (.bool (decide (now.filter badR = []))) := by
    rw [fEq_sh (k := 2) (sh_list fun d hd => by
      obtain ⟨r, _, rfl⟩ := List.mem_map.mp hd
      exact sh_tuple fun d hd => by
        simp only [List.mem_cons, List.not_mem_nil, or_false] at hd
        rcases hd with rfl | rfl <;> exact sh_int) (sh_list fun d hd => by cases hd), eqv_list]
    cases now.filter badR <;> simp
  have q4 : fEq (oD n (rowsP now)) (oD n (rowsP rows)) = some (.bool (decide (rowsP now = rowsP rows))) := by
    rw [fEq_sh (k := 3) (sh_oD _ _) (sh_oD _ _), eqv_tuple]
    rw [eqvAll_cons, eqvAll_cons, eqv_psD]
    simp
  have q5 := lenS_rows now (by omega)
  have q6 : fEq (.int ((dedupI (now.map fun r => r.2 - r.1)).length : Nat)) (.int 1) = some (.bool (unitB now)) := by rw [fEq_int]; rfl
  have q7 : fSl (.tuple (now.map iD)) none (some (r1 : Int)) = some (.tuple ((now.take r1).map iD)) := by
    show some (PyData.tuple (DX.cutD _ _ _)) = _
    unfold DX.cutD
    rw [HT.sIx_none, HT.sIx_nat, List.drop_zero, List.length_map, ← List.map_take, Nat.sub_zero, Nat.min_eq_left (by omega)]
  have q8 : fSl (.tuple (now.map iD)) (some ((r1 : Int) + 1)) none = some (.tuple ((now.drop (r1 + 1)).map iD)) := by
    show some (PyData.tuple (DX.cutD _ _ _)) = _
    unfold DX.cutD
    rw [HT.sIx_none, show ((r1 : Int) + 1) = ((r1 + 1 : Nat) : Int) by omega, HT.sIx_nat, List.length_map, Nat.min_eq_left (by omega), ← List.map_drop, List.take_of_length_le (by simp)]
  have q9 : ∀ x y : List (Int × Int), x.length + y.length ≤ 1000 → fAdd (.tuple (x.map iD)) (.tuple (y.map iD)) = some (.tuple ((x ++ y).map iD)) := fun x y h => by
    show (if _ then _ else _) = _
    rw [if_pos (by simp; omega), List.map_append]
  have q10 := q9 (now.take r1) [p] (by simp; omega)
  have q11 := q9 (now.take r1 ++ [p]) (now.drop (r1 + 1)) (by simp; omega)
  rw [List.map_cons, List.map_nil] at q10
  rw [List.append_assoc] at q11
  have A : b2_law (C23 ns ts1 n st len (.val (.list (rows.map iD))) (.val (.int a)) c7 (.val (oD n (rowsP rows))) (.val (.tuple (now.map iD))) c10 c11 c12 c13 c14 c15 c16) = u6_law (C23 ns ts1 n st len (.val (.list (rows.map iD))) (.val (.int a)) c7 (.val (oD n (rowsP rows))) (.val (.tuple (now.map iD))) (.val (.bool due)) (.val (.bool (unitB now))) c12 c13 c14 c15 c16) := by
    have A1 : sSet 10 (mAndV (mBin fEq (mApp fLen (mCons (mVar 9) mNil)) (mVar 2)) (mBin fEq (mLd c1_law) (mLd (mLst mNil)))) (C23 ns ts1 n st len (.val (.list (rows.map iD))) (.val (.int a)) c7 (.val (oD n (rowsP rows))) (.val (.tuple (now.map iD))) c10 c11 c12 c13 c14 c15 c16) = .next (C23 ns ts1 n st len (.val (.list (rows.map iD))) (.val (.int a)) c7 (.val (oD n (rowsP rows))) (.val (.tuple (now.map iD))) (.val (.bool (decide (now.filter badR = [])))) c11 c12 c13 c14 c15 c16) := by
      simp [q1, q3, hnow]
    have A2 : sSet 10 (mAndV (mVar 10) (mBin fEq (mCall 1 fn__law_order_of_rows (mCons (mVar 9) mNil)) (mVar 8))) (C23 ns ts1 n st len (.val (.list (rows.map iD))) (.val (.int a)) c7 (.val (oD n (rowsP rows))) (.val (.tuple (now.map iD))) (.val (.bool (decide (now.filter badR = [])))) c11 c12 c13 c14 c15 c16) = .next (C23 ns ts1 n st len (.val (.list (rows.map iD))) (.val (.int a)) c7 (.val (oD n (rowsP rows))) (.val (.tuple (now.map iD))) (.val (.bool due)) c11 c12 c13 c14 c15 c16) := by
      rw [hdue]
      cases decide (now.filter badR = []) with
      | true => simp [on, q4]
      | false => simp
    have A3 : sSet 11 (mBin fEq (mUn fLenS (mLd c2_law)) (mC (.int 1))) (C23 ns ts1 n st len (.val (.list (rows.map iD))) (.val (.int a)) c7 (.val (oD n (rowsP rows))) (.val (.tuple (now.map iD))) (.val (.bool due)) c11 c12 c13 c14 c15 c16) = .next (C23 ns ts1 n st len (.val (.list (rows.map iD))) (.val (.int a)) c7 (.val (oD n (rowsP rows))) (.val (.tuple (now.map iD))) (.val (.bool due)) (.val (.bool (unitB now))) c12 c13 c14 c15 c16) := by
      simp [q2, q5, unitB]
    rw [b2_law, ev_seq, A1, thn2_next, u8_law, ev_seq, A2, thn2_next, u7_law, ev_seq, A3, thn2_next]
  have B : u6_law (C23 ns ts1 n st len (.val (.list (rows.map iD))) (.val (.int a)) c7 (.val (oD n (rowsP rows))) (.val (.tuple (now.map iD))) (.val (.bool due)) (.val (.bool (unitB now))) c12 c13 c14 c15 c16) = u5_law (C23 ns ts1 n st len (.val (.list (rows.map iD))) (.val (.int a)) c7 (.val (oD n (rowsP rows))) (.val (.tuple (now.map iD))) (.val (.bool due)) (.val (.bool (unitB now))) c12 c13 c14 c15 c16) := by
    cases due with
    | true => simp [u6_law, rp, un]
    | false => simp [u6_law, rp, un]
  have C : u5_law (C23 ns ts1 n st len (.val (.list (rows.map iD))) (.val (.int a)) c7 (.val (oD n (rowsP rows))) (.val (.tuple (now.map iD))) (.val (.bool due)) (.val (.bool (unitB now))) c12 c13 c14 c15 c16) = u2_law (C23 ns ts3 n st len (.val (.list (rows.map iD))) (.val (.int a)) (.val (.int row.1)) (.val (oD n (rowsP rows))) (.val (.tuple (now.map iD))) (.val (.bool due)) (.val (.bool (unitB now))) (.val (.list [iD (row.1 + (r2 - 1), row.2), iD (row.1, row.2 + (r2 - 1)), iD (row.1 + (r2 - 1), row.2 + (r2 - 1)), iD (row.2 + 1, row.1)])) c13 (.val (.int r1)) (.val (.int (r2 - 1))) (.val (.int row.2))) := by
    simp [u5_law, u4_law, u3_law, d1, d2, hrow, Ob.d]
  have E : u2_law (C23 ns ts3 n st len (.val (.list (rows.map iD))) (.val (.int a)) (.val (.int row.1)) (.val (oD n (rowsP rows))) (.val (.tuple (now.map iD))) (.val (.bool due)) (.val (.bool (unitB now))) (.val (.list [iD (row.1 + (r2 - 1), row.2), iD (row.1, row.2 + (r2 - 1)), iD (row.1 + (r2 - 1), row.2 + (r2 - 1)), iD (row.2 + 1, row.1)])) c13 (.val (.int r1)) (.val (.int (r2 - 1))) (.val (.int row.2))) = .next (C23 ns ts4 n st len (.val (.list (rows.map iD))) (.val (.int a)) (.val (.int row.1)) (.val (oD n (rowsP rows))) (.val (.tuple ((now.take r1 ++ ([p] ++ now.drop (r1 + 1))).map iD))) (.val (.bool due)) (.val (.bool (unitB now))) (.val (.list [iD (row.1 + (r2 - 1), row.2), iD (row.1, row.2 + (r2 - 1)), iD (row.1 + (r2 - 1), row.2 + (r2 - 1)), iD (row.2 + 1, row.1)])) (.val (iD p)) (.val (.int r1)) (.val (.int (r2 - 1))) (.val (.int row.2))) := by
    generalize (now.take r1 ++ ([p] ++ now.drop (r1 + 1))).map iD = z at *
    generalize (now.take r1).map iD = z1 at *
    generalize (now.drop (r1 + 1)).map iD = z2 at *
    generalize (now.take r1 ++ [p]).map iD = z3 at *
    generalize now.map iD = z4 at *
    simp [u2_law, u1_law, d3, q7, q8, q10, q11]
  exact A.trans (B.trans (C.trans E))
theorem loop2 {ns : List Int} {ts : List D} {n : Nat} {st len : Int} {rows : List (Int × Int)} {c6 c7 : Cell} (hn1 : 1 ≤ n) (hn : n ≤ 8) (hr : rows.length = n) (hle : ∀ r ∈ rows, r.1 ≤ r.2) (h : Town ns 100 ts) :
    ∃ ts' c6' c7' c9 c10 c11 c12 c13 c14 c15 c16, l2_law (C23 ns ts n st len (.val (.list (rows.map iD))) c6 c7 (.val (oD n (rowsP rows))) (.val (.tuple (rows.map iD))) .no .no .no .no .no .no .no) =
      .next (C23 ns ts' n st len (.val (.list (rows.map iD))) c6' c7' (.val (oD n (rowsP rows))) c9 c10 c11 c12 c13 c14 c15 c16) := by
  let I : Nat → Rho → Prop := fun k ρ => ∃ (ts' : List D) (now : List (Int × Int)) (c6 c7 c10 c11 c12 c13 c14 c15 c16 : Cell), ρ = C23 ns ts' n st len (.val (.list (rows.map iD))) c6 c7 (.val (oD n (rowsP rows))) (.val (.tuple (now.map iD))) c10 c11 c12 c13 c14 c15 c16 ∧ Town ns (100 + 3 * k) ts' ∧ now.length = n
  have h1 := forL_next (gs := gSet 6) (body := b2_law) (e := fun i : Nat => .int i) I (List.range 8) 0 (C23 ns ts n st len (.val (.list (rows.map iD))) c6 c7 (.val (oD n (rowsP rows))) (.val (.tuple (rows.map iD))) .no .no .no .no .no .no .no) ⟨ts, rows, _, _, _, _, _, _, _, _, _, rfl, h, hr⟩ (by
    rintro i a ha ρ ⟨ts1, now, c6, c7, c10, c11, c12, c13, c14, c15, c16, rfl, ht, hnow⟩
    have hi : i < 8 := by
      have := (List.getElem?_eq_some_iff.mp ha).1
      simpa using this
    obtain ⟨r1, ts2, d1, g1, t1⟩ := draw_nat ht (by omega) n (by omega) (by omega)
    obtain ⟨r2, ts3, d2, g3, g4, t2⟩ := draw_ok t1 (by omega) 3 (by decide) (by decide)
    have hrow := at_rows (rows := rows) (k := r1) (by omega)
    generalize rows.getD r1 (0, 0) = row at hrow
    obtain ⟨d, ts4, d3, g5, t3⟩ := pick_ok t2 (by omega) [iD (row.1 + (r2 - 1), row.2), iD (row.1, row.2 + (r2 - 1)), iD (row.1 + (r2 - 1), row.2 + (r2 - 1)), iD (row.2 + 1, row.1)] (by simp) (by simp)
    obtain ⟨p, rfl⟩ : ∃ p, d = iD p := by
      simp only [List.mem_cons, List.not_mem_nil, or_false] at g5
      rcases g5 with h | h | h | h <;> exact ⟨_, h⟩
    refine ⟨_, C23 ns ts4 n st len (.val (.list (rows.map iD))) (.val (.int a)) (.val (.int row.1)) (.val (oD n (rowsP rows))) (.val (.tuple ((now.take r1 ++ p :: now.drop (r1 + 1)).map iD))) (.val (.bool (repB n (rowsP rows) now))) (.val (.bool (unitB now))) (.val (.list [iD (row.1 + (r2 - 1), row.2), iD (row.1, row.2 + (r2 - 1)), iD (row.1 + (r2 - 1), row.2 + (r2 - 1)), iD (row.2 + 1, row.1)])) (.val (iD p)) (.val (.int r1)) (.val (.int (r2 - 1))) (.val (.int row.2)), rfl, .inl ?_, ts4, _, _, _, _, _, _, _, _, _, _, rfl, ?_, ?_⟩
    · exact step2 hn1 hn hr hle hnow d1 d2 hrow d3 g1
    · rw [show 100 + 3 * (0 + i + 1) = 100 + 3 * (0 + i) + 1 + 1 + 1 by omega]; exact t3
    · simp [hnow]; omega)
  obtain ⟨ρ', e, ts', now, c6', c7', c10, c11, c12, c13, c14, c15, c16, rfl, t, _⟩ := h1
  refine ⟨ts', c6', c7', .val (.tuple (now.map iD)), c10, c11, c12, c13, c14, c15, c16, ?_⟩
  have : l2_law (C23 ns ts n st len (.val (.list (rows.map iD))) c6 c7 (.val (oD n (rowsP rows))) (.val (.tuple (rows.map iD))) .no .no .no .no .no .no .no) = forL (gSet 6) b2_law ((List.range 8).map fun i : Nat => .int i) (C23 ns ts n st len (.val (.list (rows.map iD))) c6 c7 (.val (oD n (rowsP rows))) (.val (.tuple (rows.map iD))) .no .no .no .no .no .no .no) := by
    simp [l2_law, show rng1 [.int 8] = some ((List.range 8).map fun i : Nat => .int i) from rng1_nat 8 (by decide)]
  rw [this]
  exact e
theorem law_true : ∀ ns : List Int, ns.length ≤ 63 → fn_law [.list (ns.map .int)] = .ok (.bool true) := by
  intro ns hns
  obtain ⟨ts0, e0, t0⟩ := town_ok ns hns
  obtain ⟨r, ts1, e1, g1, t1⟩ := draw_nat t0 (by omega) 7 (by decide) (by decide)
  obtain ⟨d, ts2, e2, g2, t2⟩ := pick_ok t1 (by omega) [.int (-100), .int 0, .int 88, .int (-3)] (by simp) (by simp)
  obtain ⟨st, hst⟩ : ∃ st : Int, d = .int st := by simp at g2; rcases g2 with h | h | h | h <;> exact ⟨_, h⟩
  subst hst
  obtain ⟨len, ts3, e3, g3, g4, t3⟩ := draw_ok t2 (by omega) 4 (by decide) (by decide)
  obtain ⟨ts4, rows, c6, c7, e4, t4, hr, hle⟩ := loop1 (st := st) (n := 1 + r) (by omega) g3 g4 t3
  obtain ⟨ts5, c6', c7', c9, c10, c11, c12, c13, c14, c15, c16, e5⟩ := loop2 (c6 := c6) (c7 := c7) (st := st) (len := len) (n := 1 + r) (by omega) (by omega) hr hle t4
  have o1 := order_rows_ok rows (by omega) (.list (rows.map iD)) (.inl rfl)
  rw [hr] at o1
  have e1' : fn__law_draw (.list (ns.map .int)) ts0 [.int 7] = .ok (.int r) ts1 := e1
  have p1 : sSetL 1 (mCallL 1 fn__law_town (mCons (mVar 0) mNil)) [.val (Sc ns), .no, .no, .no, .no, .no, .no, .no, .no, .no, .no, .no, .no, .no, .no, .no, .no, .no, .no, .no, .no, .no, .no] = .next [.val (Sc ns), .own (.lst ts0), .no, .no, .no, .no, .no, .no, .no, .no, .no, .no, .no, .no, .no, .no, .no, .no, .no, .no, .no, .no, .no] := by
    simp [e0]
  have p2 : sSet 2 (mBin fAdd (mC (.int 1)) (mCallT 3 fn__law_draw (mVar 0) 1 (mCons (mC (.int 7)) mNil))) [.val (Sc ns), .own (.lst ts0), .no, .no, .no, .no, .no, .no, .no, .no, .no, .no, .no, .no, .no, .no, .no, .no, .no, .no, .no, .no, .no] = .next [.val (Sc ns), .own (.lst ts1), .val (.int ((1 + r : Nat) : Int)), .no, .no, .no, .no, .no, .no, .no, .no, .no, .no, .no, .no, .no, .no, .no, .no, .no, .no, .no, .no] := by
    simp [e1']
  have p3 : sPar 3 4 (mCons (mCallT 3 fn__law_pick (mVar 0) 1 (mCons (mLd (mLst (mCons (mUn fNeg (mC (.int 100))) (mCons (mC (.int 0)) (mCons (mC (.int 88)) (mCons (mUn fNeg (mC (.int 3))) mNil)))))) mNil)) (mCons (mCallT 3 fn__law_draw (mVar 0) 1 (mCons (mC (.int 4)) mNil)) mNil)) [.val (Sc ns), .own (.lst ts1), .val (.int ((1 + r : Nat) : Int)), .no, .no, .no, .no, .no, .no, .no, .no, .no, .no, .no, .no, .no, .no, .no, .no, .no, .no, .no, .no] = .next [.val (Sc ns), .own (.lst ts3), .val (.int ((1 + r : Nat) : Int)), .val (.int st), .val (.int len), .no, .no, .no, .no, .no, .no, .no, .no, .no, .no, .no, .no, .no, .no, .no, .no, .no, .no] := by
    simp [e2, e3, Ob.d]
  have p4 : sSetL 5 (mLst mNil) [.val (Sc ns), .own (.lst ts3), .val (.int ((1 + r : Nat) : Int)), .val (.int st), .val (.int len), .no, .no, .no, .no, .no, .no, .no, .no, .no, .no, .no, .no, .no, .no, .no, .no, .no, .no] = .next (C23 ns ts3 (1 + r) st len (.own (.lst [])) .no .no .no .no .no .no .no .no .no .no .no) := by
    simp
  have s1 : fn_law [.list (ns.map .int)] = outF (r4_law (C23 ns ts3 (1 + r) st len (.own (.lst [])) .no .no .no .no .no .no .no .no .no .no .no)) := by
    show outF (m_law [.val (Sc ns), .no, .no, .no, .no, .no, .no, .no, .no, .no, .no, .no, .no, .no, .no, .no, .no, .no, .no, .no, .no, .no, .no]) = _
    rw [m_law, ev_seq, p1, thn2_next, r1_law, ev_seq, p2, thn2_next, r2_law, ev_seq, p3, thn2_next, r3_law, ev_seq, p4, thn2_next]
  have s2 : r4_law (C23 ns ts3 (1 + r) st len (.own (.lst [])) .no .no .no .no .no .no .no .no .no .no .no) = r8_law (C23 ns ts5 (1 + r) st len (.val (.list (rows.map iD))) c6' c7' (.val (oD (1 + r) (rowsP rows))) c9 c10 c11 c12 c13 c14 c15 c16) := by
    rw [r4_law, ev_seq, e4, thn2_next, r5_law, ev_seq]
    have a1 : sSet 8 (mCall 1 fn__law_order_of_rows (mCons (mFrz 5) mNil)) (C23 ns ts4 (1 + r) st len (.own (.lst (rows.map iD))) c6 c7 .no .no .no .no .no .no .no .no .no) = .next (C23 ns ts4 (1 + r) st len (.val (.list (rows.map iD))) c6 c7 (.val (oD (1 + r) (rowsP rows))) .no .no .no .no .no .no .no .no) := by
      simp [Ob.d, o1]
    rw [a1, thn2_next, r6_law, ev_seq]
    have a2 : sSet 9 (mApp fTuple (mCons (mFrz 5) mNil)) (C23 ns ts4 (1 + r) st len (.val (.list (rows.map iD))) c6 c7 (.val (oD (1 + r) (rowsP rows))) .no .no .no .no .no .no .no .no) = .next (C23 ns ts4 (1 + r) st len (.val (.list (rows.map iD))) c6 c7 (.val (oD (1 + r) (rowsP rows))) (.val (.tuple (rows.map iD))) .no .no .no .no .no .no .no) := by
      simp [Ob.d]
    rw [a2, thn2_next, r7_law, ev_seq, e5, thn2_next]
  rw [s1, s2]
  kernel_rfl
end LW

set_option maxHeartbeats 0
namespace LW
open PySem PySem.Spec PyProof.Rows L2 DX LB
def dd (n : Str) (i : Nat) : He.DefD := ⟨(n, none), n, n, defArgs (top i), defBody (top i), defScope (top i), [], []⟩
def fnL : List He.DefD := [dd "_law_draw" 16, dd "_law_order_of_rows" 18, dd "_law_pick" 17, dd "_law_town" 15, dd "is_ascending" 7, dd "is_between" 5, dd "is_closed" 8, dd "is_pair" 6, dd "is_order" 9, dd "check_order" 10, dd "is_representation" 12, dd "is_unit_representation" 13, dd "law" 19]
def faL : List He.Fa := [.glo "_law_draw", .glo "_law_order_of_rows", .glo "_law_pick", .glo "_law_town", .glo "is_ascending", .glo "is_between", .glo "is_closed", .glo "is_pair", .glo "is_order", .glo "check_order", .glo "is_representation", .glo "is_unit_representation", .glo "law", .free "len", .free "all", .free "any", .free "isinstance", .free "int", .free "bool", .free "tuple", .free "str", .free "list", .free "dict", .free "set", .free "range", .free "sorted", .free "sum", .free "abs", .free "max", .free "min", .free "enumerate", .free "zip", .glo "InvalidOrder", .exc "InvalidOrder", .int "MOST" 8]
abbrev hk : PySem.W.Hook := He.hookD 4 faL fnL
def ob (s : PySem.W.SharedT) : He.AlD := He.obsDG 4 faL fnL (HandSHeadRun.getT s)
theorem ob_eq (s : PySem.W.SharedT) : ob s = hk.obs s.abs := He.obsDG_eq (HandSHeadRun.getT_eq s)
theorem run (w : World) : HandSHeadRun.RunEq (PySem.W.OpenLaw.row PySem.Challenge.rw_orderdims_k61_interval_judges) (PySem.W.view (PySem.W.OpenLaw.row PySem.Challenge.rw_orderdims_k61_interval_judges).prog [19]) hk ob 4000 ["DimensionError", "InvalidOrder", "is_between", "is_pair", "is_ascending", "is_closed", "is_order", "check_order", "is_representation", "is_unit_representation", "_law_town", "_law_draw", "_law_pick", "_law_order_of_rows", "MOST"] w := by
  intro os
  kernel_rfl
theorem facts {P : Program} {w : World} {K : PySem.W.Frag} {h : Heap} {mg : Str → Option Value} {f : Addr} (X : K.In h) (G : h.Ns mainGlobals mg) (hfa : mg "law" = some (.ref f)) (c : He.SaysD faL fnL K) :
    ∃ fd : FuncData, (∀ (s : Shared) (v : Value), BindsTo s fd ⟨[v], []⟩ [("script", v)]) ∧ ∀ base : Heap, FnOk P w K mg base (L2.CX P w) 7 f fd ["script"] (spD ⟨P, w, K⟩ mg 1 fn_law) := by
  obtain ⟨fd0, D0⟩ := c.def_ 0 (d := dd "_law_draw" 16) rfl
  obtain ⟨fd1, D1⟩ := c.def_ 1 (d := dd "_law_order_of_rows" 18) rfl
  obtain ⟨fd2, D2⟩ := c.def_ 2 (d := dd "_law_pick" 17) rfl
  obtain ⟨fd3, D3⟩ := c.def_ 3 (d := dd "_law_town" 15) rfl
  obtain ⟨fd4, D4⟩ := c.def_ 4 (d := dd "is_ascending" 7) rfl
  obtain ⟨fd5, D5⟩ := c.def_ 5 (d := dd "is_between" 5) rfl
  obtain ⟨fd6, D6⟩ := c.def_ 6 (d := dd "is_closed" 8) rfl
  obtain ⟨fd7, D7⟩ := c.def_ 7 (d := dd "is_pair" 6) rfl
  obtain ⟨fd8, D8⟩ := c.def_ 8 (d := dd "is_order" 9) rfl
  obtain ⟨fd9, D9⟩ := c.def_ 9 (d := dd "check_order" 10) rfl
  obtain ⟨fd10, D10⟩ := c.def_ 10 (d := dd "is_representation" 12) rfl
  obtain ⟨fd11, D11⟩ := c.def_ 11 (d := dd "is_unit_representation" 13) rfl
  obtain ⟨fd12, D12⟩ := c.def_ 12 (d := dd "law" 19) rfl
  have e := hfa.symm.trans (He.glo_ok X G (c.fact 12 (f := .glo "law") rfl))
  cases e
  have b := FunD.bindsA (ps := ["script"]) D12 fun _ _ _ _ _ _ us hl => match us, hl with | [_], _ => rfl
  refine ⟨fd12, fun s v => b s [v] rfl, fun base => ?_⟩
  let g : GC := ⟨⟨P, w, K⟩, mg, base⟩
  have bf : BF g := ⟨He.free_ok X G (c.fact 13 (f := .free "len") rfl), He.free_ok X G (c.fact 14 (f := .free "all") rfl), He.free_ok X G (c.fact 15 (f := .free "any") rfl), He.free_ok X G (c.fact 16 (f := .free "isinstance") rfl), He.free_ok X G (c.fact 17 (f := .free "int") rfl), He.free_ok X G (c.fact 18 (f := .free "bool") rfl), He.free_ok X G (c.fact 19 (f := .free "tuple") rfl), He.free_ok X G (c.fact 20 (f := .free "str") rfl), He.free_ok X G (c.fact 21 (f := .free "list") rfl), He.free_ok X G (c.fact 22 (f := .free "dict") rfl), He.free_ok X G (c.fact 23 (f := .free "set") rfl), He.free_ok X G (c.fact 24 (f := .free "range") rfl), He.free_ok X G (c.fact 25 (f := .free "sorted") rfl), He.free_ok X G (c.fact 26 (f := .free "sum") rfl), He.free_ok X G (c.fact 27 (f := .free "abs") rfl), He.free_ok X G (c.fact 28 (f := .free "max") rfl), He.free_ok X G (c.fact 29 (f := .free "min") rfl), He.free_ok X G (c.fact 30 (f := .free "enumerate") rfl), He.free_ok X G (c.fact 31 (f := .free "zip") rfl)⟩
  have X_InvalidOrder : ExF g "InvalidOrder" := ⟨_, He.glo_ok X G (c.fact 32 (f := .glo "InvalidOrder") rfl), He.exc_ok (c.fact 33 (f := .exc "InvalidOrder") rfl)⟩
  have c_MOST : ∃ t, g.mg "MOST" = some (.int 8 t) := He.int_ok X G (c.fact 34 (f := .int "MOST" 8) rfl)
  have F__law_draw : FT g "_law_draw" 1 ["script", "town", "limit"] fn__law_draw := ft_mk (g := g) D0 S__law_draw (He.glo_ok X G (c.fact 0 (f := .glo "_law_draw") rfl)) (fun _ _ _ _ _ _ us hl => match us, hl with | [_, _, _], _ => rfl) fun W X ok => d__law_draw bf ok
  have F__law_order_of_rows : FD g "_law_order_of_rows" 1 ["rows"] fn__law_order_of_rows := fd_mk (g := g) D1 S__law_order_of_rows (He.glo_ok X G (c.fact 1 (f := .glo "_law_order_of_rows") rfl)) (fun _ _ _ _ _ _ us hl => match us, hl with | [_], _ => rfl) fun W X ok => d__law_order_of_rows bf ok
  have F__law_pick : FT g "_law_pick" 2 ["script", "town", "choices"] fn__law_pick := ft_mk (g := g) D2 S__law_pick (He.glo_ok X G (c.fact 2 (f := .glo "_law_pick") rfl)) (fun _ _ _ _ _ _ us hl => match us, hl with | [_, _, _], _ => rfl) fun W X ok => d__law_pick bf F__law_draw ok
  have F__law_town : FL g "_law_town" 1 ["script"] fn__law_town := fl_mk (g := g) D3 S__law_town (He.glo_ok X G (c.fact 3 (f := .glo "_law_town") rfl)) (fun _ _ _ _ _ _ us hl => match us, hl with | [_], _ => rfl) (e := retE (top 15)) (pos := retP (top 15)) rfl fun W X ok => d__law_town bf ok
  have F_is_ascending : FD g "is_ascending" 1 ["values"] fn_is_ascending := fd_mk (g := g) D4 S_is_ascending (He.glo_ok X G (c.fact 4 (f := .glo "is_ascending") rfl)) (fun _ _ _ _ _ _ us hl => match us, hl with | [_], _ => rfl) fun W X ok => d_is_ascending bf ok
  have F_is_between : FD g "is_between" 1 ["value", "low", "high"] fn_is_between := fd_mk (g := g) D5 S_is_between (He.glo_ok X G (c.fact 5 (f := .glo "is_between") rfl)) (fun _ _ _ _ _ _ us hl => match us, hl with | [_, _, _], _ => rfl) fun W X ok => d_is_between bf ok
  have F_is_closed : FD g "is_closed" 1 ["pairs"] fn_is_closed := fd_mk (g := g) D6 S_is_closed (He.glo_ok X G (c.fact 6 (f := .glo "is_closed") rfl)) (fun _ _ _ _ _ _ us hl => match us, hl with | [_], _ => rfl) fun W X ok => d_is_closed bf ok
  have F_is_pair : FD g "is_pair" 2 ["size", "value"] fn_is_pair := fd_mk (g := g) D7 S_is_pair (He.glo_ok X G (c.fact 7 (f := .glo "is_pair") rfl)) (fun _ _ _ _ _ _ us hl => match us, hl with | [_, _], _ => rfl) fun W X ok => d_is_pair bf F_is_between ok
  have F_is_order : FD g "is_order" 3 ["value"] fn_is_order := fd_mk (g := g) D8 S_is_order (He.glo_ok X G (c.fact 8 (f := .glo "is_order") rfl)) (fun _ _ _ _ _ _ us hl => match us, hl with | [_], _ => rfl) fun W X ok => d_is_order bf F_is_ascending F_is_between F_is_closed F_is_pair c_MOST ok
  have F_check_order : FD g "check_order" 4 ["value"] fn_check_order := fd_mk (g := g) D9 S_check_order (He.glo_ok X G (c.fact 9 (f := .glo "check_order") rfl)) (fun _ _ _ _ _ _ us hl => match us, hl with | [_], _ => rfl) fun W X ok => d_check_order bf F_is_order X_InvalidOrder ok
  have F_is_representation : FD g "is_representation" 5 ["order", "value"] fn_is_representation := fd_mk (g := g) D10 S_is_representation (He.glo_ok X G (c.fact 10 (f := .glo "is_representation") rfl)) (fun _ _ _ _ _ _ us hl => match us, hl with | [_, _], _ => rfl) fun W X ok => d_is_representation bf F_check_order F_is_between ok
  have F_is_unit_representation : FD g "is_unit_representation" 6 ["order", "value"] fn_is_unit_representation := fd_mk (g := g) D11 S_is_unit_representation (He.glo_ok X G (c.fact 11 (f := .glo "is_unit_representation") rfl)) (fun _ _ _ _ _ _ us hl => match us, hl with | [_, _], _ => rfl) fun W X ok => d_is_unit_representation bf F_is_representation ok
  exact fd_ok (g := g) D12 S_law fun W X ok => d_law bf F__law_draw F__law_order_of_rows F__law_pick F__law_town F_is_representation F_is_unit_representation ok
end LW
open PySem PySem.W PySem.Calls PyProof.Rows
theorem PySem.Challenge.cw_orderdims_k61_interval_judges_holds : PySem.Challenge.rw_orderdims_k61_interval_judges.Holds := by
  w_on; o_law
  refine HandSHeadRun.head_any (r := OpenLaw.row PySem.Challenge.rw_orderdims_k61_interval_judges) (q := view (OpenLaw.row PySem.Challenge.rw_orderdims_k61_interval_judges).prog [19]) (H := LW.hk) (ob := LW.ob) (M := 4000) (loose := ["DimensionError", "InvalidOrder", "is_between", "is_pair", "is_ascending", "is_closed", "is_order", "check_order", "is_representation", "is_unit_representation", "_law_town", "_law_draw", "_law_pick", "_law_order_of_rows", "MOST"]) (d := HandSHeadRun.topDef (OpenLaw.row PySem.Challenge.rw_orderdims_k61_interval_judges).prog 19) (kwd := []) LW.ob_eq
    (by kernel_rfl) (fun s => by kernel_rfl) LW.run (by kernel_rfl) (by kernel_rfl) (by kernel_rfl) (by rfl) (by first | assumption | decide +kernel) (by decide +kernel) ⟨rfl, rfl, rfl, rfl, rfl, by decide +kernel⟩ ?hw ?hc
  case hw => w_witness2
  case hc =>
    refine DX.walk_dx (l := PySem.Challenge.rw_orderdims_k61_interval_judges) (n := 63) (k := 7) (x := "script") (fn := LW.fn_law) rfl (by decide) (by kernel_rfl) ⟨rfl, by decide, by decide⟩ LW.law_true ?F
    intro w mg fa h Y G hmg0
    obtain ⟨K, KX, c⟩ := Y
    have hmg : mg ("law" : PySem.Str) = some (.ref fa) := by
      have e : (HandSHeadRun.topDef (OpenLaw.row PySem.Challenge.rw_orderdims_k61_interval_judges).prog 19).name = ("law" : PySem.Str) := by kernel_rfl
      rw [← e]
      exact hmg0
    obtain ⟨fd, hb, hF⟩ := LW.facts (P := (PySem.Challenge.rw_orderdims_k61_interval_judges).prog) (w := w) KX G hmg c
    exact ⟨K, fd, KX, hb, hF⟩

