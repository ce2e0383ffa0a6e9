import PyProof.Rows.All
import Wide.All
import OpenK.AllK
import Wide.FinOn
import KE.KStateDown
import HandS.Base
import HandS.Call
import HandS.Ends
import HandS.List
import HandS.Comp
import HandS.Deep
import HandS.Dict
import HandS.Iter
import HandS.Exc
import HandS.More
import HandS.Words
import HandS.WordsExc
import HandS.IsInst
import HandS.Zip
import HandS.TupLe
import HandS.Defaults
import HandS.ExcOwn
import HandS.TupAny
import HandS.TupMul
import HandS.Strs
import HandS.Text
import HandS.HeadHook1
import HandS.HeadHook2
import HandS.SetFor
import HandS.Head0
import HandS.Head1
import HandS.Head2
import HandS.HeadEnd
import KE.GoesEnum
import KE.KDictDisplayH
import HandS.TupSets
import HandS.ExcIs
import HandS.ExcValue
import HandS.Style
import KE.KDictWalk
import KE.KDictSum
import HandS.SortRule
import KE.KRevSl
import HandS.Conv
import PySem.Challenge.RW_orderdims_k01_order_ends
set_option Elab.async false
set_option linter.all false
set_option maxRecDepth 100000
set_option maxHeartbeats 1000000
/-! A layer of plain data over the hand layer: what an expression or a statement does is told by a
    total function over an environment of data (own work). -/
namespace DX
open PySem PySem.Spec PyProof.Rows L2

abbrev D := PyData

def keyD : Key → D
  | .inl i => .int i
  | .inr s => .str s

/-! ### a dict with tuples as keys, by its object: each entry's key, the key's address, the value -/
structure DEnt where
  k : List Key
  b : Addr
  v : V
def DRel (e : DEnt) (x : List Key × Addr × Value) : Prop := e.k = x.1 ∧ e.b = x.2.1 ∧ RelV e.v x.2.2
def DicAt (P : Program) (w : World) (a : Addr) (es : List DEnt) (h : Heap) : Prop := es.length ≤ sizeLine ∧ (a == sysModules) = false ∧ ∃ xs : List (List Key × Addr × Value), Paired DRel es xs ∧
  ∃ o ds ep, h.get? a = some o ∧ o.ExactDict ∧ o.data = .dict ds ep ∧ ds.toList = xs.map (entryOfKey (tupleKind (mixKind P w))) ∧ (xs.map (·.1)).Nodup
structure KC where
  P : Program
  w : World
  K : PySem.W.Frag
  mg : Str → Option Value
/-- a caught exception, kept by a name -/
def ExAt (cls : Value) (a : Addr) (h : Heap) : Prop := ∃ (oe : Obj) (vs : Array Value), h.get? a = some oe ∧ Zc cls none oe ∧ oe.data = .fields vs
abbrev ExT (cls : Value) (a : Addr) : HO := .ext (ExAt cls a)
/-- .. as data: by the name of its class -/
abbrev excD (x : Str) : D := .dict [(.none, .str x)]
/-- a def of the module, as a value -/
abbrev fnD (x : Str) : D := .dict [(.bool true, .str x)]
abbrev DicO (P : Program) (w : World) (a : Addr) (es : List DEnt) : HO := .ext (DicAt P w a es)

def Sub (F H : Hp) : Prop := ∀ a o, F a = some o → H a = some o
theorem rd_mono {F G : Hp} {a : Addr} {u : HO} (s : Sub F G) (h : Rd F a u) : Rd G a u := by
  rcases h with h | ⟨o, h⟩
  · exact .inl (s _ _ h)
  · exact .inr ⟨o, s _ _ h⟩
/-- a list that is read: of the run, or one of the module's own objects -/
def LsAt (K : PySem.W.Frag) (F : Hp) (a : Addr) (xs : List V) : Prop :=
  Rd F a (.lst xs) ∨ ∃ (its : Array Value) (n : Nat), K.lookup a = some { cls := .type "list", data := .seq its n } ∧ its.size ≤ sizeLine ∧ Vals xs its.toList
theorem LsAt.sq {K : PySem.W.Frag} {F : Hp} {a : Addr} {xs : List V} (h : LsAt K F a xs) : SqL K F a xs := by
  rcases h with h | ⟨its, n, h1, h2, h3⟩
  · exact .inl h
  · exact .inr ⟨_, its, n, h1, rfl, rfl, rfl, h2, h3⟩
theorem LsAt.mono {K : PySem.W.Frag} {F G : Hp} {a : Addr} {xs : List V} (s : Sub F G) (h : LsAt K F a xs) : LsAt K G a xs := by
  rcases h with h | h
  · exact .inl (rd_mono s h)
  · exact .inr h
/-! ### data that stand in a (frozen) heap -/
/-- a key at b -/
def KeyG (F : Hp) (b : Addr) (k : List Key) : Prop := ∃ o, F b = some (.frz o (.tup (k.map kV))) ∧ o.dict = none ∧ k.length ≤ sizeLine
theorem KeyG.mono {F H : Hp} {b : Addr} {k : List Key} (s : ∀ a o, F a = some o → H a = some o) (h : KeyG F b k) : KeyG H b k := h.imp fun _ ho => ⟨s _ _ ho.1, ho.2⟩
theorem KeyG.at {F H : Hp} {b : Addr} {k : List Key} (s : ∀ a o, F a = some o → H a = some o) (h : KeyG F b k) : ∃ o, H b = some (.frz o (.tup (k.map kV))) := h.imp fun _ ho => s _ _ ho.1
mutual
inductive Rp (K : KC) (F : Hp) : V → D → Prop
  | non : Rp K F .non .none
  | bl (b : Bool) : Rp K F (.bl b) (.bool b)
  | int (i : Int) : Rp K F (.int i) (.int i)
  | str (x : Str) : Rp K F (.str x) (.str x)
  | lst {a : Addr} {xs : List V} {ds : List D} : LsAt K.K F a xs → xs.length ≤ sizeLine → RpA K F xs ds → Rp K F (.ref a) (.list ds)
  | tup {a : Addr} {o : Obj} {xs : List V} {ds : List D} : F a = some (.frz o (.tup xs)) → o.dict = none → xs.length ≤ sizeLine → RpA K F xs ds → Rp K F (.ref a) (.tuple ds)
  | dI {a : Addr} {kv : List (Key × V)} {ds : List (Int × D)} : F a = some (.dK kv) → kv.map (·.1) = ds.map (fun p => Sum.inl p.1) → RpA K F (kv.map (·.2)) (ds.map (·.2)) → Rp K F (.ref a) (.dict (ds.map fun p => (.int p.1, p.2)))
  | dT {a : Addr} {es : List DEnt} {ds : List (List Int × D)} : F a = some (DicO K.P K.w a es) → (∀ e ∈ es, KeyG F e.b e.k) → es.map DEnt.k = ds.map (fun p => p.1.map Sum.inl) → RpA K F (es.map DEnt.v) (ds.map (·.2)) → Rp K F (.ref a) (.dict (ds.map fun p => (.tuple (p.1.map .int), p.2)))
  | exc {a C : Addr} {x : Str} : F a = some (ExT (.ref C) a) → K.mg x = some (.ref C) → Rp K F (.ref a) (excD x)
  | fn {f : Addr} {x : Str} : K.mg x = some (.ref f) → Rp K F (.ref f) (fnD x)
inductive RpA (K : KC) (F : Hp) : List V → List D → Prop
  | nil : RpA K F [] []
  | cons {v : V} {vs : List V} {d : D} {ds : List D} : Rp K F v d → RpA K F vs ds → RpA K F (v :: vs) (d :: ds)
end

theorem Sub.refl (F : Hp) : Sub F F := fun _ _ h => h
theorem Sub.trans {F G H : Hp} (a : Sub F G) (b : Sub G H) : Sub F H := fun x o h => b x o (a x o h)
theorem Sub.nn {F H : Hp} (a : Sub F H) {q : Addr} (h : H q = none) : F q = none := by
  cases e : F q with
  | none => rfl
  | some o => rw [a q o e] at h; cases h
theorem Sub.updH {F H : Hp} {p : Addr} {o : HO} (a : Sub F H) (h : F p = none) : Sub F (upd H p o) := fun x u e => by
  rw [upd_ne (ne_of_none e h)]; exact a x u e
theorem Sub.new {H : Hp} {p : Addr} {o : HO} (h : H p = none) : Sub H (upd H p o) := (Sub.refl H).updH h
theorem Sub.updB {F H : Hp} {p : Addr} {o : HO} (a : Sub F H) : Sub (upd F p o) (upd H p o) := fun x u e => by
  unfold L2.upd at e ⊢
  by_cases hx : x = p
  · rw [if_pos hx] at e ⊢; exact e
  · rw [if_neg hx] at e ⊢; exact a x u e
/-- F with an entry that H has -/
theorem Sub.add {F H : Hp} {p : Addr} {o : HO} (a : Sub F H) (h : H p = some o) : Sub (L2.upd F p o) H := fun x u e => by
  unfold L2.upd at e
  by_cases hx : x = p
  · rw [if_pos hx] at e; rw [hx, h]; exact e
  · rw [if_neg hx] at e; exact a x u e

theorem sqL_mono {K : PySem.W.Frag} {F G : Hp} {a : Addr} {xs : List V} (s : Sub F G) (h : SqL K F a xs) : SqL K G a xs := by
  rcases h with (h | ⟨o, h⟩) | h
  · exact .inl (.inl (s _ _ h))
  · exact .inl (.inr ⟨o, s _ _ h⟩)
  · exact .inr h
theorem sqT_mono {K : PySem.W.Frag} {F G : Hp} {a : Addr} {xs : List V} (s : Sub F G) (h : SqT K F a xs) : SqT K G a xs := by
  rcases h with (h | ⟨o, h⟩) | h
  · exact .inl (.inl (s _ _ h))
  · exact .inl (.inr ⟨o, s _ _ h⟩)
  · exact .inr h

mutual
theorem Rp.mono {K : KC} {F G : Hp} (s : Sub F G) : ∀ {v : V} {d : D}, Rp K F v d → Rp K G v d
  | _, _, .non => .non
  | _, _, .bl b => .bl b
  | _, _, .int i => .int i
  | _, _, .str x => .str x
  | _, _, .lst h z r => .lst (LsAt.mono s h) z (RpA.mono s r)
  | _, _, .tup h n z r => .tup (s _ _ h) n z (RpA.mono s r)
  | _, _, .dI h e r => .dI (s _ _ h) e (RpA.mono s r)
  | _, _, .dT h q e r => .dT (s _ _ h) (fun x hx => KeyG.mono s (q x hx)) e (RpA.mono s r)
  | _, _, .exc h m => .exc (s _ _ h) m
  | _, _, .fn m => .fn m
theorem RpA.mono {K : KC} {F G : Hp} (s : Sub F G) : ∀ {vs : List V} {ds : List D}, RpA K F vs ds → RpA K G vs ds
  | _, _, .nil => .nil
  | _, _, .cons h t => .cons (Rp.mono s h) (RpA.mono s t)
end

theorem RpA.length {K : KC} {F : Hp} : ∀ {vs : List V} {ds : List D}, RpA K F vs ds → vs.length = ds.length
  | _, _, .nil => rfl
  | _, _, .cons _ t => by simp [RpA.length t]
theorem RpA.get {K : KC} {F : Hp} : ∀ {vs : List V} {ds : List D} {i : Nat} {d : D}, RpA K F vs ds → ds[i]? = some d → ∃ v, vs[i]? = some v ∧ Rp K F v d
  | _, _, _, _, .nil, e => by simp at e
  | _, _, 0, _, .cons h _, e => by simp at e; subst e; exact ⟨_, rfl, h⟩
  | _, _, i + 1, d, .cons _ t, e => by
    obtain ⟨v, h1, h2⟩ := RpA.get (i := i) (d := d) t (by simpa using e)
    exact ⟨v, by simpa using h1, h2⟩
theorem RpA.get' {K : KC} {F : Hp} : ∀ {vs : List V} {ds : List D} {i : Nat} {v : V}, RpA K F vs ds → vs[i]? = some v → ∃ d, ds[i]? = some d ∧ Rp K F v d
  | _, _, _, _, .nil, e => by simp at e
  | _, _, 0, _, .cons h _, e => by simp at e; subst e; exact ⟨_, rfl, h⟩
  | _, _, i + 1, d, .cons _ t, e => by
    obtain ⟨v, h1, h2⟩ := RpA.get' (i := i) (v := d) t (by simpa using e)
    exact ⟨v, by simpa using h1, h2⟩
theorem RpA.append {K : KC} {F : Hp} : ∀ {vs ws : List V} {ds es : List D}, RpA K F vs ds → RpA K F ws es → RpA K F (vs ++ ws) (ds ++ es)
  | _, _, _, _, .nil, h => h
  | _, _, _, _, .cons h t, k => .cons h (RpA.append t k)
theorem RpA.set {K : KC} {F : Hp} {v : V} {d : D} (h : Rp K F v d) : ∀ {vs : List V} {ds : List D} (i : Nat), RpA K F vs ds → RpA K F (vs.set i v) (ds.set i d)
  | _, _, _, .nil => .nil
  | _, _, 0, .cons _ t => .cons h t
  | _, _, i + 1, .cons q t => .cons q (RpA.set h i t)
theorem RpA.take {K : KC} {F : Hp} : ∀ {vs : List V} {ds : List D} (n : Nat), RpA K F vs ds → RpA K F (vs.take n) (ds.take n)
  | _, _, 0, _ => .nil
  | _, _, _ + 1, .nil => .nil
  | _, _, n + 1, .cons h t => .cons h (RpA.take n t)
theorem RpA.drop {K : KC} {F : Hp} : ∀ {vs : List V} {ds : List D} (n : Nat), RpA K F vs ds → RpA K F (vs.drop n) (ds.drop n)
  | _, _, 0, h => h
  | _, _, _ + 1, .nil => .nil
  | _, _, n + 1, .cons _ t => RpA.drop n t
theorem RpA.rev {K : KC} {F : Hp} : ∀ {vs : List V} {ds : List D}, RpA K F vs ds → RpA K F vs.reverse ds.reverse
  | _, _, .nil => .nil
  | _, _, .cons h t => by
    rw [List.reverse_cons, List.reverse_cons]
    exact RpA.append (RpA.rev t) (.cons h .nil)
theorem RpA.ints {K : KC} {F : Hp} : ∀ {vs : List V} {ns : List Int}, RpA K F vs (ns.map PyData.int) → vs = ns.map V.int
  | _, [], h => by cases h; rfl
  | _, n :: ns, h => by
    cases h with
    | cons h t => cases h; rw [RpA.ints t]; rfl
theorem RpA.ofInts {K : KC} {F : Hp} : ∀ (ns : List Int), RpA K F (ns.map V.int) (ns.map PyData.int)
  | [] => .nil
  | n :: ns => .cons (.int n) (RpA.ofInts ns)

/-! data without dicts are the layer's data -/
mutual
def plain : D → Bool
  | .list ds => plainAll ds
  | .tuple ds => plainAll ds
  | .dict _ => false
  | _ => true
def plainAll : List D → Bool
  | [] => true
  | d :: ds => plain d && plainAll ds
end
mutual
theorem Rp.dp {K : KC} {F : Hp} : ∀ {v : V} {d : D}, Rp K F v d → (d.canLay0 = true) → Dp K.K F v d
  | _, _, .non, _ => .non
  | _, _, .bl b, _ => .bl b
  | _, _, .int i, _ => .int i
  | _, _, .str x, _ => .str x
  | _, _, .lst h _ r, p => .lst h.sq (RpA.dp r (by simpa [PyData.canLay0] using p))
  | _, _, .tup h _ _ r, p => .tup (.inl (.inr ⟨_, h⟩)) (RpA.dp r (by simpa [PyData.canLay0] using p))
  | _, _, .dI _ _ _, p => by simp [PyData.canLay0] at p
  | _, _, .dT _ _ _ _, p => by simp [PyData.canLay0] at p
  | _, _, .exc _ _, p => by simp [PyData.canLay0] at p
  | _, _, .fn _, p => by simp [PyData.canLay0] at p
theorem RpA.dp {K : KC} {F : Hp} : ∀ {vs : List V} {ds : List D}, RpA K F vs ds → (PyData.canLayAll0 ds = true) → DpAll K.K F vs ds
  | _, _, .nil, _ => .nil
  | _, _, .cons h t, p => by
    simp only [PyData.canLayAll0, Bool.and_eq_true] at p
    exact .cons (Rp.dp h p.1) (RpA.dp t p.2)
end

/-! ### environments -/
inductive Ob where
  | lst (xs : List D)
  | dI (kvs : List (Int × D))
  | dT (kvs : List (List Int × D))
inductive Cell where
  | no
  | val (d : D)
  | own (o : Ob)
abbrev Rho := List Cell

/-- an object of one's own at q: its parts stand in F -/
def OR (K : KC) (F H : Hp) (q : Addr) : Ob → Prop
  | .lst ds => ∃ vs, H q = some (.lst vs) ∧ vs.length ≤ sizeLine ∧ RpA K F vs ds
  | .dI ds => ∃ kv : List (Key × V), H q = some (.dK kv) ∧ kv.map (·.1) = ds.map (fun p => Sum.inl p.1) ∧ RpA K F (kv.map (·.2)) (ds.map (·.2))
  | .dT ds => ∃ es : List DEnt, H q = some (DicO K.P K.w q es) ∧ (∀ e ∈ es, KeyG F e.b e.k) ∧ es.map DEnt.k = ds.map (fun p => p.1.map Sum.inl) ∧ RpA K F (es.map DEnt.v) (ds.map (·.2))
def Ob.d : Ob → D
  | .lst ds => .list ds
  | .dI ds => .dict (ds.map fun p => (.int p.1, p.2))
  | .dT ds => .dict (ds.map fun p => (.tuple (p.1.map .int), p.2))
theorem OR.mono {K : KC} {F G H H' : Hp} {q : Addr} {o : Ob} (s : Sub F G) (e : H' q = H q) (h : OR K F H q o) : OR K G H' q o := by
  cases o with
  | lst ds => obtain ⟨vs, h1, h2, h3⟩ := h; exact ⟨vs, by rw [e]; exact h1, h2, h3.mono s⟩
  | dI ds => obtain ⟨kvs, h1, h2, h3⟩ := h; exact ⟨kvs, by rw [e]; exact h1, h2, h3.mono s⟩
  | dT ds => obtain ⟨kvs, h1, h0, h2, h3⟩ := h; exact ⟨kvs, by rw [e]; exact h1, fun x hx => KeyG.mono s (h0 x hx), h2, h3.mono s⟩
theorem OR.ex {K : KC} {F H : Hp} {q : Addr} {o : Ob} (h : OR K F H q o) : ∃ u, H q = some u := by
  cases o with
  | lst ds => obtain ⟨vs, h1, _⟩ := h; exact ⟨_, h1⟩
  | dI ds => obtain ⟨kvs, h1, _⟩ := h; exact ⟨_, h1⟩
  | dT ds => obtain ⟨kvs, h1, _⟩ := h; exact ⟨_, h1⟩
/-- frozen -/
theorem OR.rp {K : KC} {F H : Hp} {q : Addr} {o : Ob} {u : HO} (h : OR K F H q o) (hu : H q = some u) (n : F q = none) : Rp K (upd F q u) (.ref q) o.d := by
  have s : Sub F (upd F q u) := Sub.new n
  cases o with
  | lst ds =>
    obtain ⟨vs, h1, h2, h3⟩ := h
    rw [h1] at hu; cases hu
    exact .lst (.inl (.inl upd_same)) h2 (h3.mono s)
  | dI ds =>
    obtain ⟨kvs, h1, h2, h3⟩ := h
    rw [h1] at hu; cases hu; exact .dI upd_same h2 (h3.mono s)
  | dT ds =>
    obtain ⟨kvs, h1, h0, h2, h3⟩ := h
    rw [h1] at hu; cases hu; exact .dT upd_same (fun x hx => KeyG.mono s (h0 x hx)) h2 (h3.mono s)

/-- slots σ in the heap H are told by ρ: F is what is frozen, B what stood before and stays -/
structure Env (K : KC) (B F H : Hp) (σ : L2.St) (ρ : Rho) : Prop where
  subB : Sub B H
  sub : Sub F H
  len : ρ.length = σ.length
  val : ∀ (i : Nat) (d : D), ρ[i]? = some (.val d) → ∃ v, σ[i]? = some (some v) ∧ Rp K F v d
  own : ∀ (i : Nat) (o : Ob), ρ[i]? = some (.own o) → ∃ q, σ[i]? = some (some (.ref q)) ∧ F q = none ∧ B q = none ∧ OR K F H q o
  inj : ∀ (i j : Nat) (o o' : Ob) (q : Addr), i ≠ j → ρ[i]? = some (.own o) → ρ[j]? = some (.own o') → σ[i]? = some (some (.ref q)) → σ[j]? = some (some (.ref q)) → False

/-- what is frozen grows, outside of B -/
structure Gr (B F F' : Hp) : Prop where
  sub : Sub F F'
  new : ∀ a, F' a ≠ none → F a ≠ none ∨ B a = none
theorem Gr.refl {B F : Hp} : Gr B F F := ⟨Sub.refl F, fun _ h => .inl h⟩
theorem Gr.trans {B F G H : Hp} (a : Gr B F G) (b : Gr B G H) : Gr B F H :=
  ⟨a.sub.trans b.sub, fun x h => (b.new x h).elim (fun z => a.new x z) .inr⟩

/-- new objects alone -/
structure Grow (F H F' H' : Hp) : Prop where
  subF : Sub F F'
  subH : Sub H H'
  sub : Sub F' H'
  new : ∀ a, F' a ≠ none → F a ≠ none ∨ H a = none
theorem Grow.refl {F H : Hp} (s : Sub F H) : Grow F H F H := ⟨Sub.refl F, Sub.refl H, s, fun _ h => .inl h⟩
theorem Grow.trans {F H F1 H1 F2 H2 : Hp} (a : Grow F H F1 H1) (b : Grow F1 H1 F2 H2) : Grow F H F2 H2 :=
  ⟨a.subF.trans b.subF, a.subH.trans b.subH, b.sub, fun x h => (b.new x h).elim (fun z => a.new x z) fun z => .inr (a.subH.nn z)⟩
theorem Grow.gr {B F H F' H' : Hp} (g : Grow F H F' H') (s : Sub B H) : Gr B F F' := ⟨g.subF, fun a h => (g.new a h).imp id fun z => s.nn z⟩
/-- a new object, frozen at once -/
theorem Grow.laid {F H : Hp} {p : Addr} {o : HO} (s : Sub F H) (n : H p = none) : Grow F H (upd F p o) (upd H p o) :=
  ⟨Sub.new (s.nn n), Sub.new n, s.updB, fun a h => by
    by_cases e : a = p
    · exact .inr (by rw [e]; exact n)
    · rw [upd_ne e] at h; exact .inl h⟩
/-- a new object, not frozen -/
theorem Grow.made {F H : Hp} {p : Addr} {o : HO} (s : Sub F H) (n : H p = none) : Grow F H F (upd H p o) :=
  ⟨Sub.refl F, Sub.new n, s.trans (Sub.new n), fun _ h => .inl h⟩

theorem Env.grow {K : KC} {B F H F' H' : Hp} {σ : L2.St} {ρ : Rho} (E : Env K B F H σ ρ) (g : Grow F H F' H') : Env K B F' H' σ ρ where
  subB := E.subB.trans g.subH
  sub := g.sub
  len := E.len
  val := fun i d e => by
    obtain ⟨v, h1, h2⟩ := E.val i d e
    exact ⟨v, h1, h2.mono g.subF⟩
  own := fun i o e => by
    obtain ⟨q, h1, h2, h3, h4⟩ := E.own i o e
    obtain ⟨u, hu⟩ := h4.ex
    refine ⟨q, h1, ?_, h3, h4.mono g.subF (by rw [g.subH q u hu, hu])⟩
    cases z : F' q with
    | none => rfl
    | some x =>
      rcases g.new q (by rw [z]; exact fun e => nomatch e) with a | a
      · exact absurd h2 a
      · rw [hu] at a; cases a
  inj := E.inj

/-- the frozen part alone grows by an entry of the heap that no own slot has -/
theorem Env.freeze {K : KC} {B F H : Hp} {σ : L2.St} {ρ : Rho} {q : Addr} {u : HO} (E : Env K B F H σ ρ) (hu : H q = some u) (n : F q = none) (hq : ∀ (i : Nat) (o : Ob), ρ[i]? = some (.own o) → σ[i]? = some (some (.ref q)) → False) :
    Env K B (upd F q u) H σ ρ where
  subB := E.subB
  sub := E.sub.add hu
  len := E.len
  val := fun i d e => by
    obtain ⟨v, h1, h2⟩ := E.val i d e
    exact ⟨v, h1, h2.mono (Sub.new n)⟩
  own := fun i o e => by
    obtain ⟨q', h1, h2, h3, h4⟩ := E.own i o e
    have ne : q' ≠ q := fun z => hq i o e (by rw [h1, z])
    exact ⟨q', h1, by rw [upd_ne ne]; exact h2, h3, h4.mono (Sub.new n) rfl⟩
  inj := E.inj
theorem Gr.freeze {B F : Hp} {q : Addr} {u : HO} (n : F q = none) (b : B q = none) : Gr B F (upd F q u) :=
  ⟨Sub.new n, fun a h => by
    by_cases e : a = q
    · exact .inr (by rw [e]; exact b)
    · rw [upd_ne e] at h; exact .inl h⟩

/-- a slot is stored with frozen data -/
theorem Env.setVal {K : KC} {B F H : Hp} {σ : L2.St} {ρ : Rho} {i : Nat} {v : V} {d : D} (E : Env K B F H σ ρ) (h : Rp K F v d) : Env K B F H (σ.set i (some v)) (ρ.set i (.val d)) where
  subB := E.subB
  sub := E.sub
  len := by simp [E.len]
  val := fun j d' e => by
    by_cases hj : i = j
    · subst hj
      have hl : i < ρ.length := by
        by_cases z : i < ρ.length
        · exact z
        · rw [List.getElem?_eq_none (by simp; omega)] at e; cases e
      rw [List.getElem?_set_self hl] at e
      cases e
      exact ⟨v, List.getElem?_set_self (by rw [← E.len]; exact hl), h⟩
    · rw [List.getElem?_set_ne hj] at e ⊢
      exact E.val j d' e
  own := fun j o e => by
    by_cases hj : i = j
    · subst hj
      have hl : i < ρ.length := by
        by_cases z : i < ρ.length
        · exact z
        · rw [List.getElem?_eq_none (by simp; omega)] at e; cases e
      rw [List.getElem?_set_self hl] at e
      cases e
    · rw [List.getElem?_set_ne hj] at e ⊢
      exact E.own j o e
  inj := fun j k o o' q hjk e1 e2 e3 e4 => by
    have hj : i ≠ j := fun z => by
      subst z
      by_cases hl : i < ρ.length
      · rw [List.getElem?_set_self hl] at e1; cases e1
      · rw [List.getElem?_eq_none (by simp; omega)] at e1; cases e1
    have hk : i ≠ k := fun z => by
      subst z
      by_cases hl : i < ρ.length
      · rw [List.getElem?_set_self hl] at e2; cases e2
      · rw [List.getElem?_eq_none (by simp; omega)] at e2; cases e2
    rw [List.getElem?_set_ne hj] at e1 e3
    rw [List.getElem?_set_ne hk] at e2 e4
    exact E.inj j k o o' q hjk e1 e2 e3 e4
/-- a slot is stored with an object of one's own -/
theorem Env.setOwn {K : KC} {B F H : Hp} {σ : L2.St} {ρ : Rho} {i : Nat} {q : Addr} {o : Ob} (E : Env K B F H σ ρ) (h : OR K F H q o) (hF : F q = none) (hB : B q = none)
    (hq : ∀ (j : Nat) (o' : Ob), j ≠ i → ρ[j]? = some (.own o') → σ[j]? = some (some (.ref q)) → False) : Env K B F H (σ.set i (some (.ref q))) (ρ.set i (.own o)) where
  subB := E.subB
  sub := E.sub
  len := by simp [E.len]
  val := fun j d' e => by
    by_cases hj : i = j
    · subst hj
      by_cases hl : i < ρ.length
      · rw [List.getElem?_set_self hl] at e; cases e
      · rw [List.getElem?_eq_none (by simp; omega)] at e; cases e
    · rw [List.getElem?_set_ne hj] at e ⊢
      exact E.val j d' e
  own := fun j o' e => by
    by_cases hj : i = j
    · subst hj
      by_cases hl : i < ρ.length
      · rw [List.getElem?_set_self hl] at e; cases e
        exact ⟨q, List.getElem?_set_self (by rw [← E.len]; exact hl), hF, hB, h⟩
      · rw [List.getElem?_eq_none (by simp; omega)] at e; cases e
    · rw [List.getElem?_set_ne hj] at e ⊢
      exact E.own j o' e
  inj := fun j k o1 o2 q' hjk e1 e2 e3 e4 => by
    have lenσ := E.len
    by_cases hj : i = j
    · subst hj
      have hl : i < ρ.length := by
        by_cases z : i < ρ.length
        · exact z
        · rw [List.getElem?_eq_none (by simp; omega)] at e1; cases e1
      rw [List.getElem?_set_self (by rw [← lenσ]; exact hl)] at e3
      cases e3
      rw [List.getElem?_set_ne hjk] at e2 e4
      exact hq k o2 (Ne.symm hjk) e2 e4
    · rw [List.getElem?_set_ne hj] at e1 e3
      by_cases hk : i = k
      · subst hk
        have hl : i < ρ.length := by
          by_cases z : i < ρ.length
          · exact z
          · rw [List.getElem?_eq_none (by simp; omega)] at e2; cases e2
        rw [List.getElem?_set_self (by rw [← lenσ]; exact hl)] at e4
        cases e4
        exact hq j o1 hjk e1 e3
      · rw [List.getElem?_set_ne hk] at e2 e4
        exact E.inj j k o1 o2 q' hjk e1 e2 e3 e4
/-- an object of one's own is written -/
theorem Env.write {K : KC} {B F H : Hp} {σ : L2.St} {ρ : Rho} {i : Nat} {q : Addr} {o o' : Ob} {u : HO} (E : Env K B F H σ ρ) (ho : ρ[i]? = some (.own o)) (hs : σ[i]? = some (some (.ref q)))
    (h : OR K F (upd H q u) q o') : Env K B F (upd H q u) σ (ρ.set i (.own o')) := by
  obtain ⟨q', h1, h2, h3, h4⟩ := E.own i o ho
  rw [hs] at h1; cases h1
  have hl : i < ρ.length := by
    by_cases z : i < ρ.length
    · exact z
    · rw [List.getElem?_eq_none (by omega)] at ho; cases ho
  refine ⟨E.subB.updH h3, E.sub.updH h2, by simp [E.len], fun j d e => ?_, fun j o1 e => ?_, fun j k o1 o2 q' hjk e1 e2 e3 e4 => ?_⟩
  · by_cases hj : i = j
    · subst hj; rw [List.getElem?_set_self hl] at e; cases e
    · rw [List.getElem?_set_ne hj] at e; exact E.val j d e
  · by_cases hj : i = j
    · subst hj; rw [List.getElem?_set_self hl] at e; cases e
      exact ⟨q, hs, h2, h3, h⟩
    · rw [List.getElem?_set_ne hj] at e
      obtain ⟨q2, a1, a2, a3, a4⟩ := E.own j o1 e
      have ne : q2 ≠ q := fun z => by subst z; exact E.inj i j o o1 q2 hj ho e hs a1
      exact ⟨q2, a1, a2, a3, a4.mono (Sub.refl F) (upd_ne ne)⟩
  · have g : ∀ (k : Nat) (o : Ob), (ρ.set i (.own o'))[k]? = some (.own o) → ∃ o3, ρ[k]? = some (.own o3) := fun k o e => by
      by_cases hk : i = k
      · subst hk; exact ⟨_, ho⟩
      · rw [List.getElem?_set_ne hk] at e; exact ⟨_, e⟩
    obtain ⟨x1, f1⟩ := g j o1 e1
    obtain ⟨x2, f2⟩ := g k o2 e2
    exact E.inj j k x1 x2 q' hjk f1 f2 e3 e4
/-- a slot's own object is frozen -/
theorem Env.frz {K : KC} {B F H : Hp} {σ : L2.St} {ρ : Rho} {i : Nat} {q : Addr} {o : Ob} {u : HO} (E : Env K B F H σ ρ) (ho : ρ[i]? = some (.own o)) (hs : σ[i]? = some (some (.ref q))) (hu : H q = some u) :
    Env K B (upd F q u) H σ (ρ.set i (.val o.d)) ∧ Gr B F (upd F q u) ∧ Rp K (upd F q u) (.ref q) o.d := by
  obtain ⟨q', h1, h2, h3, h4⟩ := E.own i o ho
  rw [hs] at h1; cases h1
  have hl : i < ρ.length := by
    by_cases z : i < ρ.length
    · exact z
    · rw [List.getElem?_eq_none (by omega)] at ho; cases ho
  have r := h4.rp hu h2
  refine ⟨⟨E.subB, E.sub.add hu, by simp [E.len], fun j d e => ?_, fun j o1 e => ?_, fun j k o1 o2 q' hjk e1 e2 e3 e4 => ?_⟩, Gr.freeze h2 h3, r⟩
  · by_cases hj : i = j
    · subst hj; rw [List.getElem?_set_self hl] at e; cases e; exact ⟨_, hs, r⟩
    · rw [List.getElem?_set_ne hj] at e
      obtain ⟨v, a1, a2⟩ := E.val j d e
      exact ⟨v, a1, a2.mono (Sub.new h2)⟩
  · by_cases hj : i = j
    · subst hj; rw [List.getElem?_set_self hl] at e; cases e
    · rw [List.getElem?_set_ne hj] at e
      obtain ⟨q2, a1, a2, a3, a4⟩ := E.own j o1 e
      have ne : q2 ≠ q := fun z => by subst z; exact E.inj i j o o1 q2 hj ho e hs a1
      exact ⟨q2, a1, by rw [upd_ne ne]; exact a2, a3, a4.mono (Sub.new h2) rfl⟩
  · have g : ∀ (k : Nat) (o1 : Ob), (ρ.set i (.val o.d))[k]? = some (.own o1) → ρ[k]? = some (.own o1) := fun k o1 e => by
      by_cases hk : i = k
      · subst hk; rw [List.getElem?_set_self hl] at e; cases e
      · rw [List.getElem?_set_ne hk] at e; exact e
    exact E.inj j k o1 o2 q' hjk (g j o1 e1) (g k o2 e2) e3 e4
end DX

set_option maxHeartbeats 1000000
namespace DX
open PySem PySem.Spec PyProof.Rows L2

/-! ### what is reckoned -/
inductive MR (α : Type) where
  | ok (a : α) (ρ : Rho)
  | exc (s : Str) (ρ : Rho)
  | bad
abbrev M (α : Type) := Rho → MR α
def bnd {α β : Type} (m : MR α) (f : α → Rho → MR β) : MR β := match m with
  | .ok a ρ => f a ρ
  | .exc s ρ => .exc s ρ
  | .bad => .bad
def lft {α : Type} (o : Option α) (ρ : Rho) : MR α := match o with
  | some a => .ok a ρ
  | none => .bad
@[simp] theorem bnd_ok {α β : Type} (a : α) (ρ : Rho) (f : α → Rho → MR β) : bnd (.ok a ρ) f = f a ρ := rfl
@[simp] theorem bnd_exc {α β : Type} (s : Str) (ρ : Rho) (f : α → Rho → MR β) : bnd (.exc s ρ : MR α) f = .exc s ρ := rfl
@[simp] theorem bnd_bad {α β : Type} (f : α → Rho → MR β) : bnd (.bad : MR α) f = .bad := rfl
@[simp] theorem lft_some {α : Type} (a : α) (ρ : Rho) : lft (some a) ρ = .ok a ρ := rfl
@[simp] theorem lft_none {α : Type} (ρ : Rho) : lft (none : Option α) ρ = .bad := rfl

/-! ### the contexts -/
/-- the fixed part -/
structure GC where
  K : KC
  base : Heap
abbrev GC.mg (g : GC) : Str → Option Value := g.K.mg
/-- a def's names -/
structure SS where
  N : List Str
  sc : Scope
  blk : Option Scope := none
def SS.fn (s : SS) (x : Str) : Bool := match s.blk with
  | some sc => sc.names.lookup x == some .cell
  | none => true
structure Ok (g : GC) (s : SS) (k : Nat) (W : WX) (X : Cx) : Prop where
  hP : X.prog = g.K.P
  hw : X.w = g.K.w
  hK : X.K = g.K.K
  hmg : X.mg = g.mg
  hbase : X.base = g.base
  hN : X.N = s.N
  hsc : X.env.scope = s.sc
  kind : s.sc.kind = .function
  hfn : ∀ x, s.fn x = true → X.fn x = true
  calm : X.calm = true
  room : Room k X.A
  nd : s.N.Nodup
  tk : Takes X W
  po : PassesOwn (model X.prog X.w) X.A X.env X.xe

def visB (sc : Scope) (x : Str) : Bool := match sc.names.lookup x with
  | some .local => true
  | some .cell => true
  | some .free => true
  | _ => false
def locB (s : SS) (x : Str) : Bool := match s.sc.names.lookup x with
  | some .local => true
  | some .cell => s.fn x
  | _ => false
def gloB (sc : Scope) (x : Str) : Bool := match sc.names.lookup x with
  | some .globalImplicit => true
  | _ => false
theorem vis_of {sc : Scope} {x : Str} (h : visB sc x = true) : Vis sc x := by
  unfold visB at h
  split at h <;> first | exact .inl (by assumption) | exact .inr (.inl (by assumption)) | exact .inr (.inr (by assumption)) | cases h
section
variable {g : GC} {s : SS} {k : Nat} {W : WX} {X : Cx}
theorem Ok.vis (ok : Ok g s k W X) {x : Str} (h : visB s.sc x = true) : Vis X.env.scope x := by rw [ok.hsc]; exact vis_of h
theorem Ok.at (ok : Ok g s k W X) {x : Str} {i : Nat} (h : s.N[i]? = some x) : X.N[i]? = some x := by rw [ok.hN]; exact h
theorem Ok.ndX (ok : Ok g s k W X) : X.N.Nodup := by rw [ok.hN]; exact ok.nd
theorem Ok.loc (ok : Ok g s k W X) {x : Str} (h : locB s x = true) : Loc X.env.scope x ∧ (X.fn x = true ∨ X.env.scope.names.lookup x = some .local) := by
  rw [ok.hsc]
  unfold locB at h
  split at h
  · rename_i e; exact ⟨.inl e, .inr e⟩
  · rename_i e; exact ⟨.inr e, .inl (ok.hfn x h)⟩
  · cases h
theorem Ok.glo (ok : Ok g s k W X) {x : Str} (h : gloB s.sc x = true) : Gl X x := by
  show X.env.scope.names.lookup x = some .globalImplicit
  rw [ok.hsc]
  unfold gloB at h
  split at h
  · assumption
  · cases h
end

/-! ### judgements -/
def PoE (K : KC) (mg : Str → Option Value) (W : WX) (B F : Hp) (σ : L2.St) (Q : VK) : MR D → Prop
  | .ok d ρ' => ∀ v F' H', Gr B F F' → Env K B F' H' σ ρ' → Rp K F' v d → Q v H'
  | .exc x ρ' => ∀ C F' H', mg x = some (.ref C) → Gr B F F' → Env K B F' H' σ ρ' → W (.ref C) none σ H'
  | .bad => False
def PoT (K : KC) (mg : Str → Option Value) (W : WX) (B F : Hp) (σ : L2.St) (Q : Bool → Hp → Prop) : MR Bool → Prop
  | .ok b ρ' => ∀ F' H', Gr B F F' → Env K B F' H' σ ρ' → Q b H'
  | .exc x ρ' => ∀ C F' H', mg x = some (.ref C) → Gr B F F' → Env K B F' H' σ ρ' → W (.ref C) none σ H'
  | .bad => False
def PoA (K : KC) (mg : Str → Option Value) (W : WX) (B F : Hp) (σ : L2.St) (Q : List V → Hp → Prop) : MR (List D) → Prop
  | .ok ds ρ' => ∀ vs F' H', Gr B F F' → Env K B F' H' σ ρ' → RpA K F' vs ds → Q vs H'
  | .exc x ρ' => ∀ C F' H', mg x = some (.ref C) → Gr B F F' → Env K B F' H' σ ρ' → W (.ref C) none σ H'
  | .bad => False
/-- a new object, of nobody yet -/
def PoL (K : KC) (mg : Str → Option Value) (W : WX) (B F : Hp) (σ : L2.St) (Q : VK) : MR Ob → Prop
  | .ok o ρ' => ∀ q F' H', Gr B F F' → Env K B F' H' σ ρ' → F' q = none → B q = none → OR K F' H' q o → (∀ (i : Nat) (o' : Ob), ρ'[i]? = some (.own o') → σ[i]? = some (some (.ref q)) → False) → Q (.ref q) H'
  | .exc x ρ' => ∀ C F' H', mg x = some (.ref C) → Gr B F F' → Env K B F' H' σ ρ' → W (.ref C) none σ H'
  | .bad => False

def SimE (K : KC) (mg : Str → Option Value) (W : WX) (t : TE) (m : M D) : Prop := ∀ B F H σ ρ Q, Env K B F H σ ρ → PoE K mg W B F σ Q (m ρ) → t σ H Q
def SimT (K : KC) (mg : Str → Option Value) (W : WX) (t : TT) (m : M Bool) : Prop := ∀ B F H σ ρ Q, Env K B F H σ ρ → PoT K mg W B F σ Q (m ρ) → t σ H Q
def SimA (K : KC) (mg : Str → Option Value) (W : WX) (t : TA) (m : M (List D)) : Prop := ∀ B F H σ ρ Q, Env K B F H σ ρ → PoA K mg W B F σ Q (m ρ) → t σ H Q
def SimL (K : KC) (mg : Str → Option Value) (W : WX) (t : TE) (m : M Ob) : Prop := ∀ B F H σ ρ Q, Env K B F H σ ρ → PoL K mg W B F σ Q (m ρ) → t σ H Q

def DM (g : GC) (W : WX) (X : Cx) (e : Expr) (m : M D) : Prop := ∃ t, PE X e t ∧ SimE g.K g.mg W t m
def DT (g : GC) (W : WX) (X : Cx) (e : Expr) (m : M Bool) : Prop := ∃ t, PT X e t ∧ SimT g.K g.mg W t m
def DA (g : GC) (W : WX) (X : Cx) (es : List Expr) (m : M (List D)) : Prop := ∃ t, PA X es t ∧ SimA g.K g.mg W t m
def DL (g : GC) (W : WX) (X : Cx) (e : Expr) (m : M Ob) : Prop := ∃ t, PE X e t ∧ SimL g.K g.mg W t m

section
variable {K : KC} {mg : Str → Option Value} {W : WX} {B F F1 H H1 : Hp} {σ : L2.St}
theorem PoE.later {Q : VK} {r : MR D} (g : Gr B F F1) (h : PoE K mg W B F σ Q r) : PoE K mg W B F1 σ Q r := by
  cases r with
  | ok d ρ => exact fun v F' H' g' E r => h v F' H' (g.trans g') E r
  | exc x ρ => exact fun C F' H' e g' E => h C F' H' e (g.trans g') E
  | bad => exact h
theorem PoT.later {Q : Bool → Hp → Prop} {r : MR Bool} (g : Gr B F F1) (h : PoT K mg W B F σ Q r) : PoT K mg W B F1 σ Q r := by
  cases r with
  | ok d ρ => exact fun F' H' g' E => h F' H' (g.trans g') E
  | exc x ρ => exact fun C F' H' e g' E => h C F' H' e (g.trans g') E
  | bad => exact h
theorem PoA.later {Q : List V → Hp → Prop} {r : MR (List D)} (g : Gr B F F1) (h : PoA K mg W B F σ Q r) : PoA K mg W B F1 σ Q r := by
  cases r with
  | ok d ρ => exact fun v F' H' g' E r => h v F' H' (g.trans g') E r
  | exc x ρ => exact fun C F' H' e g' E => h C F' H' e (g.trans g') E
  | bad => exact h
theorem PoL.later {Q : VK} {r : MR Ob} (g : Gr B F F1) (h : PoL K mg W B F σ Q r) : PoL K mg W B F1 σ Q r := by
  cases r with
  | ok d ρ => exact fun v F' H' g' => h v F' H' (g.trans g')
  | exc x ρ => exact fun C F' H' e g' E => h C F' H' e (g.trans g') E
  | bad => exact h
end

/-! ### one after another -/
section
variable {K : KC} {mg : Str → Option Value} {W : WX}
/-- run a part, go on with its value -/
theorem SimE.then {t : TE} {m : M D} (h : SimE K mg W t m) {β : Type} {B F H : Hp} {σ : L2.St} {ρ : Rho} {R : MR β → Prop} {Q : VK} {f : D → Rho → MR β} (E : Env K B F H σ ρ)
    (hx : ∀ x ρ', R (.exc x ρ') → ∀ C F' H', mg x = some (.ref C) → Gr B F F' → Env K B F' H' σ ρ' → W (.ref C) none σ H') (hb : R .bad → False)
    (hR : R (bnd (m ρ) f)) (go : ∀ d ρ1 v F1 H1, Gr B F F1 → Env K B F1 H1 σ ρ1 → Rp K F1 v d → R (f d ρ1) → Q v H1) : t σ H Q := by
  refine h B F H σ ρ Q E ?_
  cases e : m ρ with
  | ok d ρ1 => rw [e] at hR; exact fun v F1 H1 g1 E1 r1 => go d ρ1 v F1 H1 g1 E1 r1 hR
  | exc x ρ1 => rw [e] at hR; exact hx x ρ1 hR
  | bad => rw [e] at hR; exact hb hR
theorem SimT.then {t : TT} {m : M Bool} (h : SimT K mg W t m) {β : Type} {B F H : Hp} {σ : L2.St} {ρ : Rho} {R : MR β → Prop} {Q : Bool → Hp → Prop} {f : Bool → Rho → MR β} (E : Env K B F H σ ρ)
    (hx : ∀ x ρ', R (.exc x ρ') → ∀ C F' H', mg x = some (.ref C) → Gr B F F' → Env K B F' H' σ ρ' → W (.ref C) none σ H') (hb : R .bad → False)
    (hR : R (bnd (m ρ) f)) (go : ∀ b ρ1 F1 H1, Gr B F F1 → Env K B F1 H1 σ ρ1 → R (f b ρ1) → Q b H1) : t σ H Q := by
  refine h B F H σ ρ Q E ?_
  cases e : m ρ with
  | ok d ρ1 => rw [e] at hR; exact fun F1 H1 g1 E1 => go d ρ1 F1 H1 g1 E1 hR
  | exc x ρ1 => rw [e] at hR; exact hx x ρ1 hR
  | bad => rw [e] at hR; exact hb hR
theorem SimA.then {t : TA} {m : M (List D)} (h : SimA K mg W t m) {β : Type} {B F H : Hp} {σ : L2.St} {ρ : Rho} {R : MR β → Prop} {Q : List V → Hp → Prop} {f : List D → Rho → MR β} (E : Env K B F H σ ρ)
    (hx : ∀ x ρ', R (.exc x ρ') → ∀ C F' H', mg x = some (.ref C) → Gr B F F' → Env K B F' H' σ ρ' → W (.ref C) none σ H') (hb : R .bad → False)
    (hR : R (bnd (m ρ) f)) (go : ∀ d ρ1 v F1 H1, Gr B F F1 → Env K B F1 H1 σ ρ1 → RpA K F1 v d → R (f d ρ1) → Q v H1) : t σ H Q := by
  refine h B F H σ ρ Q E ?_
  cases e : m ρ with
  | ok d ρ1 => rw [e] at hR; exact fun v F1 H1 g1 E1 r1 => go d ρ1 v F1 H1 g1 E1 r1 hR
  | exc x ρ1 => rw [e] at hR; exact hx x ρ1 hR
  | bad => rw [e] at hR; exact hb hR
end

/-! ### names, constants -/
def mVar (i : Nat) : M D := fun ρ => match ρ[i]? with
  | some (.val d) => .ok d ρ
  | _ => .bad
def mC (d : D) : M D := fun ρ => .ok d ρ
section
variable {g : GC} {s : SS} {k : Nat} {W : WX} {X : Cx} {pos : Pos}
theorem dm_var (ok : Ok g s k W X) (i : Nat) {x : Str} (hN : s.N[i]? = some x := by rfl) (hv : visB s.sc x = true := by decide +kernel) (hd : (x == ("__debug__" : Str)) = false := by decide +kernel)
    (hcd : (x == ("__classdict__" : Str)) = false := by decide +kernel) : DM g W X (.Name x pos) (mVar i) := by
  refine ⟨_, pe_var (ok.at hN) (ok.vis hv) hd hcd, fun B F H σ ρ Q E h => ?_⟩
  unfold mVar at h
  cases e : ρ[i]? with
  | none => rw [e] at h; exact h.elim
  | some c =>
    rw [e] at h
    cases c with
    | val d =>
      obtain ⟨v, h1, h2⟩ := E.val i d e
      exact ⟨v, h1, h v F H Gr.refl E h2⟩
    | no => exact h.elim
    | own o => exact h.elim
theorem dm_const {e : Expr} {v : V} {d : D} (h : PE X e (tC v)) (r : ∀ F, Rp g.K F v d) : DM g W X e (mC d) :=
  ⟨_, h, fun B F H σ ρ Q E q => q v F H Gr.refl E (r F)⟩
theorem dm_int {i j pos} : DM g W X (.Constant (.int i) j pos) (mC (.int i)) := dm_const pe_int fun _ => .int i
theorem dm_bool {i j pos} : DM g W X (.Constant (.bool i) j pos) (mC (.bool i)) := dm_const pe_bl fun _ => .bl i
theorem dm_none {j pos} : DM g W X (.Constant .none j pos) (mC .none) := dm_const pe_non fun _ => .non
theorem dm_str {i j pos} : DM g W X (.Constant (.str i) j pos) (mC (.str i)) := dm_const pe_str fun _ => .str i
/-- a module's int -/
theorem dm_gint (ok : Ok g s k W X) {x : Str} {i : Int} (h : ∃ t, g.mg x = some (.int i t)) (hg : gloB s.sc x = true := by decide +kernel) (hd : (x == ("__debug__" : Str)) = false := by decide +kernel) : DM g W X (.Name x pos) (mC (.int i)) := by
  obtain ⟨t, h⟩ := h
  exact dm_const (v := .int i) (pe_glob (ok.glo hg) (by rw [ok.hmg]; exact h) ⟨t, rfl⟩ hd) fun _ => .int i
/-- an own object, read: it is frozen from now on -/
def mFrz (i : Nat) : M D := fun ρ => match ρ[i]? with
  | some (.val d) => .ok d ρ
  | some (.own o) => .ok o.d (ρ.set i (.val o.d))
  | _ => .bad
theorem dm_frz (ok : Ok g s k W X) (i : Nat) {x : Str} (hN : s.N[i]? = some x := by rfl) (hv : visB s.sc x = true := by decide +kernel) (hd : (x == ("__debug__" : Str)) = false := by decide +kernel)
    (hcd : (x == ("__classdict__" : Str)) = false := by decide +kernel) : DM g W X (.Name x pos) (mFrz i) := by
  refine ⟨_, pe_var (ok.at hN) (ok.vis hv) hd hcd, fun B F H σ ρ Q E h => ?_⟩
  unfold mFrz at h
  cases e : ρ[i]? with
  | none => rw [e] at h; exact h.elim
  | some c =>
    rw [e] at h
    cases c with
    | val d =>
      obtain ⟨v, h1, h2⟩ := E.val i d e
      exact ⟨v, h1, h v F H Gr.refl E h2⟩
    | no => exact h.elim
    | own o =>
      obtain ⟨q, h1, h2, h3, h4⟩ := E.own i o e
      obtain ⟨u, hu⟩ := h4.ex
      obtain ⟨E', g', r'⟩ := E.frz e h1 hu
      exact ⟨.ref q, h1, h (.ref q) _ H g' E' r'⟩
end

/-! ### a new object is frozen -/
def mLd (m : M Ob) : M D := fun ρ => bnd (m ρ) fun o ρ1 => .ok o.d ρ1
section
variable {g : GC} {s : SS} {k : Nat} {W : WX} {X : Cx} {pos : Pos}
theorem DL.dm {e : Expr} {m : M Ob} (h : DL g W X e m) : DM g W X e (mLd m) := by
  obtain ⟨t, hp, hs⟩ := h
  refine ⟨t, hp, fun B F H σ ρ Q E q => hs B F H σ ρ Q E ?_⟩
  unfold mLd at q
  cases e : m ρ with
  | ok o ρ1 =>
    rw [e] at q
    intro a F' H' g' E' hF hB hO hq
    obtain ⟨u, hu⟩ := hO.ex
    exact q (.ref a) (upd F' a u) H' (g'.trans (Gr.freeze hF hB)) (E'.freeze hu hF hq) (hO.rp hu hF)
  | exc x ρ1 => rw [e] at q; exact q
  | bad => rw [e] at q; exact q
end

/-! ### two places, by values -/
/-- a rule by values, as data: f tells the value -/
def RV2 (K : KC) (r : R2) (f : D → D → Option D) : Prop := ∀ (F H : Hp) (x y : V) (d e z : D) (Q : VK), Sub F H → Rp K F x d → Rp K F y e → f d e = some z →
  (∀ v F' H', Grow F H F' H' → Rp K F' v z → Q v H') → r x y H Q
def RV1 (K : KC) (r : V → Hp → VK → Prop) (f : D → Option D) : Prop := ∀ (F H : Hp) (x : V) (d z : D) (Q : VK), Sub F H → Rp K F x d → f d = some z →
  (∀ v F' H', Grow F H F' H' → Rp K F' v z → Q v H') → r x H Q
def RVn (K : KC) (r : List V → Hp → VK → Prop) (f : List D → Option D) : Prop := ∀ (F H : Hp) (xs : List V) (ds : List D) (z : D) (Q : VK), Sub F H → RpA K F xs ds → f ds = some z →
  (∀ v F' H', Grow F H F' H' → Rp K F' v z → Q v H') → r xs H Q
/-- .. whose value is a new object -/
def RLn (K : KC) (r : List V → Hp → VK → Prop) (f : List D → Option Ob) : Prop := ∀ (F H : Hp) (xs : List V) (ds : List D) (z : Ob) (Q : VK), Sub F H → RpA K F xs ds → f ds = some z →
  (∀ q F' H', Grow F H F' H' → H q = none → F' q = none → OR K F' H' q z → Q (.ref q) H') → r xs H Q
def RL2 (K : KC) (r : R2) (f : D → D → Option Ob) : Prop := ∀ (F H : Hp) (x y : V) (d e : D) (z : Ob) (Q : VK), Sub F H → Rp K F x d → Rp K F y e → f d e = some z →
  (∀ q F' H', Grow F H F' H' → H q = none → F' q = none → OR K F' H' q z → Q (.ref q) H') → r x y H Q

def mBin (f : D → D → Option D) (ma mb : M D) : M D := fun ρ => bnd (ma ρ) fun d ρ1 => bnd (mb ρ1) fun e ρ2 => lft (f d e) ρ2
def mUn (f : D → Option D) (ma : M D) : M D := fun ρ => bnd (ma ρ) fun d ρ1 => lft (f d) ρ1
def mApp (f : List D → Option D) (ma : M (List D)) : M D := fun ρ => bnd (ma ρ) fun d ρ1 => lft (f d) ρ1
def mAppL (f : List D → Option Ob) (ma : M (List D)) : M Ob := fun ρ => bnd (ma ρ) fun d ρ1 => lft (f d) ρ1
def mBinL (f : D → D → Option Ob) (ma mb : M D) : M Ob := fun ρ => bnd (ma ρ) fun d ρ1 => bnd (mb ρ1) fun e ρ2 => lft (f d e) ρ2

section
variable {K : KC} {mg : Str → Option Value} {W : WX}
theorem PoE.x {B F : Hp} {σ : L2.St} {Q : VK} (x : Str) (ρ' : Rho) (h : PoE K mg W B F σ Q (.exc x ρ')) : ∀ C F' H', mg x = some (.ref C) → Gr B F F' → Env K B F' H' σ ρ' → W (.ref C) none σ H' := h
theorem SimE.bin {r : R2} {f : D → D → Option D} {ta tb : TE} {ma mb : M D} (hr : RV2 K r f) (ha : SimE K mg W ta ma) (hb : SimE K mg W tb mb) : SimE K mg W (tOp r ta tb) (mBin f ma mb) := by
  intro B F H σ ρ Q E h
  refine ha.then (R := PoE K mg W B F σ Q) E (fun x ρ' z => z) (fun z => z) h fun d ρ1 v F1 H1 g1 E1 r1 h1 => ?_
  refine hb.then (R := PoE K mg W B F1 σ Q) E1 (fun x ρ' z => z) (fun z => z) (h1.later g1) fun e ρ2 u F2 H2 g2 E2 r2 h2 => ?_
  cases ez : f d e with
  | none => rw [ez] at h2; exact h2.elim
  | some z =>
    rw [ez] at h2
    exact hr F2 H2 v u d e z Q E2.sub (r1.mono g2.sub) r2 ez fun y F' H' gw ry => (PoE.later g2 h2) y F' H' (gw.gr E2.subB) (E2.grow gw) ry
theorem SimE.un {r : V → Hp → VK → Prop} {f : D → Option D} {ta : TE} {ma : M D} (hr : RV1 K r f) (ha : SimE K mg W ta ma) : SimE K mg W (tUn r ta) (mUn f ma) := by
  intro B F H σ ρ Q E h
  refine ha.then (R := PoE K mg W B F σ Q) E (fun x ρ' z => z) (fun z => z) h fun d ρ1 v F1 H1 g1 E1 r1 h1 => ?_
  cases ez : f d with
  | none => rw [ez] at h1; exact h1.elim
  | some z =>
    rw [ez] at h1
    exact hr F1 H1 v d z Q E1.sub r1 ez fun y F' H' gw ry => (PoE.later g1 h1) y F' H' (gw.gr E1.subB) (E1.grow gw) ry
theorem SimE.app {r : List V → Hp → VK → Prop} {f : List D → Option D} {ta : TA} {ma : M (List D)} (hr : RVn K r f) (ha : SimA K mg W ta ma) : SimE K mg W (tCB r ta) (mApp f ma) := by
  intro B F H σ ρ Q E h
  refine ha.then (R := PoE K mg W B F σ Q) E (fun x ρ' z => z) (fun z => z) h fun d ρ1 v F1 H1 g1 E1 r1 h1 => ?_
  cases ez : f d with
  | none => rw [ez] at h1; exact h1.elim
  | some z =>
    rw [ez] at h1
    exact hr F1 H1 v d z Q E1.sub r1 ez fun y F' H' gw ry => (PoE.later g1 h1) y F' H' (gw.gr E1.subB) (E1.grow gw) ry
theorem fresh_own {B F1 H1 : Hp} {σ : L2.St} {ρ1 : Rho} {q : Addr} (E1 : Env K B F1 H1 σ ρ1) (n : H1 q = none) : ∀ (i : Nat) (o' : Ob), ρ1[i]? = some (.own o') → σ[i]? = some (some (.ref q)) → False := fun i o' e hs => by
  obtain ⟨q', a1, a2, a3, a4⟩ := E1.own i o' e
  rw [hs] at a1; cases a1
  obtain ⟨u, hu⟩ := a4.ex
  rw [n] at hu; cases hu
theorem SimL.app {r : List V → Hp → VK → Prop} {f : List D → Option Ob} {ta : TA} {ma : M (List D)} (hr : RLn K r f) (ha : SimA K mg W ta ma) : SimL K mg W (tCB r ta) (mAppL f ma) := by
  intro B F H σ ρ Q E h
  refine ha.then (R := PoL K mg W B F σ Q) E (fun x ρ' z => z) (fun z => z) h fun d ρ1 v F1 H1 g1 E1 r1 h1 => ?_
  cases ez : f d with
  | none => rw [ez] at h1; exact h1.elim
  | some z =>
    rw [ez] at h1
    exact hr F1 H1 v d z Q E1.sub r1 ez fun q F' H' gw n nf ro => (PoL.later g1 h1) q F' H' (gw.gr E1.subB) (E1.grow gw) nf (E1.subB.nn n) ro (fresh_own E1 n)
theorem SimL.bin {r : R2} {f : D → D → Option Ob} {ta tb : TE} {ma mb : M D} (hr : RL2 K r f) (ha : SimE K mg W ta ma) (hb : SimE K mg W tb mb) : SimL K mg W (tOp r ta tb) (mBinL f ma mb) := by
  intro B F H σ ρ Q E h
  refine ha.then (R := PoL K mg W B F σ Q) E (fun x ρ' z => z) (fun z => z) h fun d ρ1 v F1 H1 g1 E1 r1 h1 => ?_
  refine hb.then (R := PoL K mg W B F1 σ Q) E1 (fun x ρ' z => z) (fun z => z) (h1.later g1) fun e ρ2 u F2 H2 g2 E2 r2 h2 => ?_
  cases ez : f d e with
  | none => rw [ez] at h2; exact h2.elim
  | some z =>
    rw [ez] at h2
    exact hr F2 H2 v u d e z Q E2.sub (r1.mono g2.sub) r2 ez fun q F' H' gw n nf ro => (PoL.later g2 h2) q F' H' (gw.gr E2.subB) (E2.grow gw) nf (E2.subB.nn n) ro (fresh_own E2 n)
end

/-! ### arguments, displays -/
def mNil : M (List D) := fun ρ => .ok [] ρ
def mCons (ma : M D) (mr : M (List D)) : M (List D) := fun ρ => bnd (ma ρ) fun d ρ1 => bnd (mr ρ1) fun ds ρ2 => .ok (d :: ds) ρ2
section
variable {g : GC} {s : SS} {k : Nat} {W : WX} {X : Cx} {pos : Pos}
theorem da_nil : DA g W X [] mNil := ⟨_, pa_nil, fun B F H σ ρ Q E h => h [] F H Gr.refl E .nil⟩
theorem da_cons {e : Expr} {es : List Expr} {ma : M D} {mr : M (List D)} (ha : DM g W X e ma) (hr : DA g W X es mr) (hs : starEach (e :: es) X.env = (false, eval e X.env) :: starEach es X.env := by rfl) : DA g W X (e :: es) (mCons ma mr) := by
  obtain ⟨ta, pa, sa⟩ := ha
  obtain ⟨tr, pr, sr⟩ := hr
  refine ⟨_, pa_cons pa pr hs, fun B F H σ ρ Q E h => ?_⟩
  refine sa.then (R := PoA g.K g.mg W B F σ Q) E (fun x ρ' z => z) (fun z => z) h fun d ρ1 v F1 H1 g1 E1 r1 h1 => ?_
  refine sr.then (R := PoA g.K g.mg W B F1 σ Q) E1 (fun x ρ' z => z) (fun z => z) (h1.later g1) fun ds ρ2 vs F2 H2 g2 E2 r2 h2 => ?_
  exact (PoA.later g2 h2) (v :: vs) F2 H2 Gr.refl E2 (.cons (r1.mono g2.sub) r2)
def mTup (ma : M (List D)) : M D := fun ρ => bnd (ma ρ) fun ds ρ1 => if ds.length ≤ sizeLine then .ok (.tuple ds) ρ1 else .bad
def mLst (ma : M (List D)) : M Ob := fun ρ => bnd (ma ρ) fun ds ρ1 => if ds.length ≤ sizeLine then .ok (.lst ds) ρ1 else .bad
/-- a new tuple, by its object -/
def tTupZ (t : TA) : TE := fun σ H Q => t σ H fun xs H1 => xs.length ≤ sizeLine ∧ ∀ p o, H1 p = none → o.dict = none → Q (.ref p) (upd H1 p (.frz o (.tup xs)))
theorem laidZ {pins : List (Addr × Obj)} {σ : L2.St} {H : Hp} {sh : Shared} {xs : List V} {us : List Value} (I : Inv X pins σ H sh) (r : Vals xs us) (z : xs.length ≤ sizeLine) (t' : Nat := sh.toks) :
    Inv X pins σ (upd H sh.heap.objs.size (.frz { cls := .type "tuple", data := .seq us.toArray } (.tup xs))) { sh with heap := sh.heap.push { cls := .type "tuple", data := .seq us.toArray }, toks := t' } :=
  I.laid (t' := t') (fun b u e => Heap.get?_push_of_some _ e) (Nat.le_refl _) ⟨Heap.get?_push_size _ rfl, z, us, r, ⟨_, Heap.get?_push_size _ rfl, rfl, _, rfl⟩⟩
theorem pe_tupZ {es : List Expr} {t : TA} {x1} (h : PA X es t) : PE X (.Tuple es x1 pos) (tTupZ t) := by
  refine ⟨fun pins s σ H Q I hq => ?_⟩
  refine wpAny_Tuple_spliced (thn (h.run pos pins s σ H _ I hq) fun us s1 ⟨xs, H1, I1, r, z, q⟩ => ⟨by rw [← r.length]; exact z, ?_⟩)
  exact ⟨.ref s1.heap.objs.size, _, laidZ I1 r z, rfl, q _ _ (I1.hok.fresh (Nat.le_refl _)) rfl⟩
theorem dm_tup {es : List Expr} {x1} {ma : M (List D)} (ha : DA g W X es ma) : DM g W X (.Tuple es x1 pos) (mTup ma) := by
  obtain ⟨ta, pa, sa⟩ := ha
  refine ⟨_, pe_tupZ pa, fun B F H σ ρ Q E h => ?_⟩
  refine sa.then (R := PoE g.K g.mg W B F σ Q) E (fun x ρ' z => z) (fun z => z) h fun ds ρ1 vs F1 H1 g1 E1 r1 h1 => ?_
  by_cases hz : ds.length ≤ sizeLine
  · rw [if_pos hz] at h1
    refine ⟨by rw [r1.length]; exact hz, fun p o np nd => ?_⟩
    have gw : Grow F1 H1 (upd F1 p (.frz o (.tup vs))) (upd H1 p (.frz o (.tup vs))) := Grow.laid E1.sub np
    exact (PoE.later g1 h1) (.ref p) _ _ (gw.gr E1.subB) (E1.grow gw) (.tup upd_same nd (by rw [r1.length]; exact hz) (r1.mono gw.subF))
  · rw [if_neg hz] at h1; exact h1.elim
theorem dl_lst {es : List Expr} {ma : M (List D)} (ha : DA g W X es ma) : DL g W X (.List es pos) (mLst ma) := by
  obtain ⟨ta, pa, sa⟩ := ha
  refine ⟨_, pe_lst pa, fun B F H σ ρ Q E h => ?_⟩
  refine sa.then (R := PoL g.K g.mg W B F σ Q) E (fun x ρ' z => z) (fun z => z) h fun ds ρ1 vs F1 H1 g1 E1 r1 h1 => ?_
  by_cases hz : ds.length ≤ sizeLine
  · rw [if_pos hz] at h1
    refine ⟨by rw [r1.length]; exact hz, fun p np => ?_⟩
    have gw : Grow F1 H1 F1 (upd H1 p (.lst vs)) := Grow.made E1.sub np
    exact (PoL.later g1 h1) p _ _ (gw.gr E1.subB) (E1.grow gw) (E1.sub.nn np) (E1.subB.nn np) ⟨vs, upd_same, by rw [r1.length]; exact hz, r1.mono gw.subF⟩ (fresh_own E1 np)
  · rw [if_neg hz] at h1; exact h1.elim
end
end DX

set_option maxHeartbeats 1000000
namespace DX
open PySem PySem.Spec PyProof.Rows L2

/-! ### data by forms -/
def intsOf : List D → Option (List Int)
  | [] => some []
  | .int i :: r => (intsOf r).map (i :: ·)
  | _ :: _ => none
theorem intsOf_eq : ∀ {ds : List D} {ns : List Int}, intsOf ds = some ns → ds = ns.map PyData.int
  | [], ns, h => by simp [intsOf] at h; subst h; rfl
  | d :: r, ns, h => by
    cases d <;> simp only [intsOf] at h <;> try cases h
    rename_i i
    cases e : intsOf r with
    | none => rw [e] at h; cases h
    | some ms => rw [e] at h; simp at h; subst h; rw [intsOf_eq e]; rfl
@[simp] theorem intsOf_map (ns : List Int) : intsOf (ns.map PyData.int) = some ns := by
  induction ns with
  | nil => rfl
  | cons n r ih => simp [intsOf, ih]
def boolsOf : List D → Option (List Bool)
  | [] => some []
  | .bool i :: r => (boolsOf r).map (i :: ·)
  | _ :: _ => none
theorem boolsOf_eq : ∀ {ds : List D} {ns : List Bool}, boolsOf ds = some ns → ds = ns.map PyData.bool
  | [], ns, h => by simp [boolsOf] at h; subst h; rfl
  | d :: r, ns, h => by
    cases d <;> simp only [boolsOf] at h <;> try cases h
    rename_i i
    cases e : boolsOf r with
    | none => rw [e] at h; cases h
    | some ms => rw [e] at h; simp at h; subst h; rw [boolsOf_eq e]; rfl
@[simp] theorem boolsOf_map (ns : List Bool) : boolsOf (ns.map PyData.bool) = some ns := by
  induction ns with
  | nil => rfl
  | cons n r ih => simp [boolsOf, ih]
theorem RpA.bools {K : KC} {F : Hp} : ∀ {vs : List V} {ns : List Bool}, RpA K F vs (ns.map PyData.bool) → vs = ns.map V.bl
  | _, [], h => by cases h; rfl
  | _, n :: ns, h => by
    cases h with
    | cons h t => cases h; rw [RpA.bools t]; rfl

/-! ### operators on data -/
def fAdd : D → D → Option D
  | .int i, .int j => some (.int (i + j))
  | .str a, .str b => if a.length + b.length ≤ sizeLine then some (.str (a ++ b)) else none
  | .tuple a, .tuple b => if a.length + b.length ≤ sizeLine then some (.tuple (a ++ b)) else none
  | .list a, .list b => if a.length + b.length ≤ sizeLine then some (.list (a ++ b)) else none
  | _, _ => none
def fCat : D → D → Option Ob
  | .list a, .list b => if a.length + b.length ≤ sizeLine then some (.lst (a ++ b)) else none
  | _, _ => none
def fRep : D → D → Option Ob
  | .list a, .int k => if k < 2 ^ 63 ∧ -(2 ^ 63) ≤ k ∧ a.length * k.toNat ≤ sizeLine then some (.lst (List.replicate k.toNat a).flatten) else none
  | _, _ => none
def fSub : D → D → Option D
  | .int i, .int j => some (.int (i - j))
  | _, _ => none
def fMul : D → D → Option D
  | .int i, .int j => if (-(2 ^ 64) < i ∧ i < 2 ^ 64) ∨ (-(2 ^ 64) < j ∧ j < 2 ^ 64) then some (.int (i * j)) else none
  | _, _ => none
def fDiv : D → D → Option D
  | .int i, .int j => if 0 < j ∧ j < 1073741824 then some (.int (i / j)) else none
  | _, _ => none
def fMod : D → D → Option D
  | .int i, .int j => if 0 < j then some (.int (i % j)) else none
  | _, _ => none
def fPow : D → D → Option D
  | .int i, .int j => if 0 ≤ j ∧ j ≤ 1000000 ∧ i.natAbs < 2 ^ 64 then some (.int (i ^ j.toNat)) else none
  | _, _ => none
def fShl : D → D → Option D
  | .int i, .int j => if 0 ≤ j ∧ j ≤ 1000000 ∧ i.natAbs < 2 ^ 64 then some (.int (i * 2 ^ j.toNat)) else none
  | _, _ => none
def fBitAnd : D → D → Option D
  | .int i, .int j => some (.int (Builtin.bitAnd i j))
  | _, _ => none
def fBitOr : D → D → Option D
  | .int i, .int j => some (.int (Builtin.bitOr i j))
  | _, _ => none
def fNeg : D → Option D
  | .int i => some (.int (-i))
  | _ => none
def fEq (d e : D) : Option D := if SeqAt.shaped d && SeqAt.shaped e then some (.bool (PyData.eqv d e)) else none
def fNe (d e : D) : Option D := if SeqAt.shaped d && SeqAt.shaped e then some (.bool (!PyData.eqv d e)) else none
def fLt : D → D → Option D
  | .int i, .int j => some (.bool (decide (i < j)))
  | .tuple a, .tuple b => match intsOf a, intsOf b with
    | some ns, some ms => some (.bool (HT.lexLt ns ms))
    | _, _ => none
  | _, _ => none
def fLe : D → D → Option D
  | .int i, .int j => some (.bool (decide (i ≤ j)))
  | _, _ => none
def fGt : D → D → Option D
  | .int i, .int j => some (.bool (decide (j < i)))
  | _, _ => none
def fGe : D → D → Option D
  | .int i, .int j => some (.bool (decide (j ≤ i)))
  | _, _ => none
def inD (neg : Bool) : D → D → Option D
  | d, .list ds => if SeqAt.shaped d && SeqAt.shaped (.list ds) then some (.bool (xor neg (ds.any fun z => PyData.eqv z d))) else none
  | d, .tuple ds => if SeqAt.shaped d && SeqAt.shaped (.tuple ds) then some (.bool (xor neg (ds.any fun z => PyData.eqv z d))) else none
  | _, _ => none
def fIn : D → D → Option D := inD false
def fNotIn : D → D → Option D := inD true
/-- is None, is True, is False -/
def isD (neg : Bool) : D → D → Option D
  | .none, .none => some (.bool (!neg))
  | .bool a, .bool b => some (.bool (xor neg (a == b)))
  | .bool _, .none => some (.bool neg)
  | .int _, .none => some (.bool neg)
  | .str _, .none => some (.bool neg)
  | .list _, .none => some (.bool neg)
  | .tuple _, .none => some (.bool neg)
  | .dict _, .none => some (.bool neg)
  | _, _ => none
def fIs : D → D → Option D := isD false
def fIsNot : D → D → Option D := isD true

section
variable {K : KC}
/-- a value that needs nothing of the heap -/
theorem gz {F H : Hp} {Q : VK} {v : V} {z : D} (s : Sub F H) (h : ∀ v F' H', Grow F H F' H' → Rp K F' v z → Q v H') (r : Rp K F v z) : Q v H := h v F H (Grow.refl s) r
theorem rv_int {g : Int → Int → Int} {f : D → D → Option D} (hf : ∀ d e z, f d e = some z → ∃ i j, d = .int i ∧ e = .int j ∧ z = .int (g i j)) : RV2 K (rI0 fun i j => .int (g i j)) f := by
  intro F H x y d e z Q s rx ry h q
  obtain ⟨i, j, rfl, rfl, rfl⟩ := hf d e z h
  cases rx; cases ry
  exact ⟨i, j, rfl, rfl, gz s q (.int _)⟩
theorem rv_intC {C : Int → Int → Prop} {g : Int → Int → Int} {f : D → D → Option D} (hf : ∀ d e z, f d e = some z → ∃ i j, d = .int i ∧ e = .int j ∧ C i j ∧ z = .int (g i j)) : RV2 K (rI C fun i j => .int (g i j)) f := by
  intro F H x y d e z Q s rx ry h q
  obtain ⟨i, j, rfl, rfl, hc, rfl⟩ := hf d e z h
  cases rx; cases ry
  exact ⟨i, j, rfl, rfl, hc, gz s q (.int _)⟩
theorem rv_intB {g : Int → Int → Bool} {f : D → D → Option D} (hf : ∀ d e z, f d e = some z → ∃ i j, d = .int i ∧ e = .int j ∧ z = .bool (g i j)) : RV2 K (rI0 fun i j => .bl (g i j)) f := by
  intro F H x y d e z Q s rx ry h q
  obtain ⟨i, j, rfl, rfl, rfl⟩ := hf d e z h
  cases rx; cases ry
  exact ⟨i, j, rfl, rfl, gz s q (.bl _)⟩
theorem RV2.orL {r r' : R2} {f : D → D → Option D} (h : RV2 K r f) : RV2 K (fun x y H Q => r x y H Q ∨ r' x y H Q) f := fun F H x y d e z Q s rx ry hf q => .inl (h F H x y d e z Q s rx ry hf q)
end

/-! ### list + list, where a list may be the law's own -/
def rCatR (K : PySem.W.Frag) : R2 := fun x y H Q => ∃ l b xs zs, x = .ref l ∧ y = .ref b ∧ LsAt K H l xs ∧ LsAt K H b zs ∧ xs.length + zs.length ≤ sizeLine ∧ ∀ p, H p = none → Q (.ref p) (upd H p (.lst (xs ++ zs)))
section
variable {X : Cx} {pins : List (Addr × Obj)} {σ : L2.St} {H : Hp} {s : Shared}
theorem lstR (I : Inv X pins σ H s) {l : Addr} {xs : List V} (hH : LsAt X.K H l xs) : xs.length ≤ sizeLine ∧ ∃ (its : List Value) (n : Nat), Vals xs its ∧ xs.length = its.length ∧ s.heap.get? l = some { cls := .type "list", data := .seq its.toArray n } := by
  rcases hH with hH | ⟨its, n, hk, hz, r⟩
  · obtain ⟨z, its, n, r, e⟩ := hH.ok I.hok
    exact ⟨z, its, n, r, r.length, e⟩
  · have e := r.length
    simp only [Array.length_toList] at e
    exact ⟨by omega, its.toList, n, r, by simpa using e, by simpa using I.kIn l _ hk⟩
theorem op_catR : OpR X (binaryOp .Add) (rCatR X.K) := by
  intro pins s σ H x y v u Q I rx ry h
  obtain ⟨l, b, xs, zs, rfl, rfl, hH, hB, hz, q⟩ := h
  cases rx
  cases ry
  obtain ⟨z, its, n, r, hl, e⟩ := lstR I hH
  obtain ⟨z2, its2, n2, r2, hl2, e2⟩ := lstR I hB
  refine PySem.P.add_list e e2 ?_ (by rw [List.size_toArray, List.size_toArray]; omega)
  have ea : its.toArray ++ its2.toArray = (its ++ its2).toArray := by simp
  rw [ea]
  exact ⟨.ref _, _, I.lnew (t' := s.toks) (r.append r2) (by rw [List.length_append]; omega), rfl, q _ I.fresh⟩
/-- tuple + tuple -/
def rCatZ : R2 := fun x y H Q => ∃ a b xs ys, x = .ref a ∧ y = .ref b ∧ Rd H a (.tup xs) ∧ Rd H b (.tup ys) ∧ xs.length + ys.length ≤ sizeLine ∧
  (xs = [] → Q (.ref b) H) ∧ (xs ≠ [] → ys = [] → Q (.ref a) H) ∧ (xs ≠ [] → ys ≠ [] → ∀ p o, H p = none → o.dict = none → Q (.ref p) (upd H p (.frz o (.tup (xs ++ ys)))))
theorem op_catZ : OpR X (binaryOp .Add) rCatZ := by
  intro pins s σ H x y v u Q I rx ry h
  obtain ⟨a, b, xs, ys, rfl, rfl, ha, hb, hz, q0, q1, q2⟩ := h
  cases rx
  cases ry
  obtain ⟨its, r1, p1, _⟩ := I.tuple (.inl ha)
  obtain ⟨its2, r2, p2, _⟩ := I.tuple (.inl hb)
  by_cases hx : xs = []
  · subst hx
    cases r1
    exact cat_tup0 p1 p2 ⟨.ref b, H, I, rfl, q0 rfl⟩
  · refine HT.cat_tup p1 p2 (fun z => hx (r1.nil_iff.mp z)) (fun z => ⟨.ref a, H, I, rfl, q1 hx (r2.nil_iff.mp z)⟩) (fun z => ?_) (by rw [← r1.length, ← r2.length]; exact hz)
    exact ⟨.ref s.heap.objs.size, _, laidZ I (r1.append r2) (by rw [List.length_append]; exact hz), rfl, q2 hx (fun w => z (r2.nil_iff.mpr w)) _ _ (I.hok.fresh (Nat.le_refl _)) rfl⟩
/-- membership in data, a list or a tuple -/
def rInS (K : PySem.W.Frag) (neg : Bool) : R2 := fun x y H Q => ∃ d ds, Dp K H x d ∧ (Dp K H y (.list ds) ∨ Dp K H y (.tuple ds)) ∧ SeqAt.shaped d = true ∧ PyData.canLayAll0 ds = true ∧ Q (.bl (xor neg (ds.any fun z => PyData.eqv z d))) H
theorem room_in1 {A : Around} {d : D} {n : Nat} (h : SeqAt.shaped d = true) (hu : A.units + 65 < cLine) : A.units + 1 + min n d.depth < cLine := by
  have h1 := SeqAt.depth_of_shaped h
  have h2 : min n d.depth ≤ d.depth := Nat.min_le_right _ _
  omega
theorem op_inS' (hu : X.A.units + 65 < cLine) : OpR X (compareOp .In) (rInS X.K false) := by
  intro pins s σ H x y v u Q I rx ry h
  obtain ⟨d, ds, hd, he, sd, se, q⟩ := h
  rw [Bool.false_xor] at q
  obtain ⟨as, r1⟩ := Dp.reads I d x v hd rx
  rcases he with he | he
  · obtain ⟨bs, r2⟩ := Dp.reads I (.list ds) y u he ry
    exact SeqAt.in_list_reads r2 r1 se (SeqAt.canLay_of_shaped sd) (room_in1 sd hu) ⟨.bl _, H, I, rfl, q⟩
  · obtain ⟨bs, r2⟩ := Dp.reads I (.tuple ds) y u he ry
    exact SeqAt.in_tuple_reads r2 r1 se (SeqAt.canLay_of_shaped sd) (room_in1 sd hu) ⟨.bl _, H, I, rfl, q⟩
theorem op_notInS' (hu : X.A.units + 65 < cLine) : OpR X (compareOp .NotIn) (rInS X.K true) := by
  intro pins s σ H x y v u Q I rx ry h
  obtain ⟨d, ds, hd, he, sd, se, q⟩ := h
  rw [Bool.true_xor] at q
  obtain ⟨as, r1⟩ := Dp.reads I d x v hd rx
  rcases he with he | he
  · obtain ⟨bs, r2⟩ := Dp.reads I (.list ds) y u he ry
    exact SeqAt.notIn_list_reads r2 r1 se (SeqAt.canLay_of_shaped sd) (room_in1 sd hu) ⟨.bl _, H, I, rfl, q⟩
  · obtain ⟨bs, r2⟩ := Dp.reads I (.tuple ds) y u he ry
    exact SeqAt.notIn_tuple_reads r2 r1 se (SeqAt.canLay_of_shaped sd) (room_in1 sd hu) ⟨.bl _, H, I, rfl, q⟩
end

section
variable {K : KC}
theorem rv_add : RV2 K (fun x y H Q => rI0 (fun i j => V.int (i + j)) x y H Q ∨ (∃ i j, x = .str i ∧ y = .str j ∧ i.length + j.length ≤ sizeLine ∧ Q (.str (i ++ j)) H) ∨ rCatZ x y H Q ∨ rCatR K.K x y H Q) fAdd := by
  intro F H x y d e z Q s rx ry h q
  unfold fAdd at h
  split at h
  · cases h; cases rx; cases ry
    exact .inl ⟨_, _, rfl, rfl, gz s q (.int _)⟩
  · split at h
    · cases h; cases rx; cases ry
      exact .inr (.inl ⟨_, _, rfl, rfl, by assumption, gz s q (.str _)⟩)
    · cases h
  · split at h
    · rename_i a b hz
      cases h
      cases rx with
      | tup h1 n1 z1 r1 =>
      cases ry with
      | tup h2 n2 z2 r2 =>
      rename_i p1 o1 xs p2 o2 ys
      refine .inr (.inr (.inl ⟨p1, p2, xs, ys, rfl, rfl, .inr ⟨_, s _ _ h1⟩, .inr ⟨_, s _ _ h2⟩, by rw [r1.length, r2.length]; exact hz, fun e => ?_, fun e e' => ?_, fun e e' p o np nd => ?_⟩))
      · subst e; cases r1; exact gz s q (by simpa using Rp.tup h2 n2 z2 r2)
      · subst e'; cases r2; exact gz s q (by simpa using Rp.tup h1 n1 z1 r1)
      · have gw : Grow F H (upd F p (.frz o (.tup (xs ++ ys)))) (upd H p (.frz o (.tup (xs ++ ys)))) := Grow.laid s np
        exact q (.ref p) _ _ gw (.tup upd_same nd (by rw [List.length_append, r1.length, r2.length]; exact hz) ((r1.append r2).mono gw.subF))
    · cases h
  · split at h
    · rename_i a b hz
      cases h
      cases rx with
      | lst h1 z1 r1 =>
      cases ry with
      | lst h2 z2 r2 =>
      rename_i p1 xs p2 ys
      refine .inr (.inr (.inr ⟨p1, p2, xs, ys, rfl, rfl, h1.mono s, h2.mono s, by rw [r1.length, r2.length]; exact hz, fun p np => ?_⟩))
      have gw : Grow F H (upd F p (.lst (xs ++ ys))) (upd H p (.lst (xs ++ ys))) := Grow.laid s np
      exact q (.ref p) _ _ gw (.lst (.inl (.inl upd_same)) (by rw [List.length_append, r1.length, r2.length]; exact hz) ((r1.append r2).mono gw.subF))
    · cases h
  · cases h
theorem rl_cat : RL2 K (rCatR K.K) fCat := by
  intro F H x y d e z Q s rx ry h q
  unfold fCat at h
  split at h
  · split at h
    · rename_i a b hz
      cases h
      cases rx with
      | lst h1 z1 r1 =>
      cases ry with
      | lst h2 z2 r2 =>
      rename_i p1 xs p2 ys
      refine ⟨p1, p2, xs, ys, rfl, rfl, h1.mono s, h2.mono s, by rw [r1.length, r2.length]; exact hz, fun p np => ?_⟩
      have gw : Grow F H F (upd H p (.lst (xs ++ ys))) := Grow.made s np
      exact q p _ _ gw np (s.nn np) ⟨_, upd_same, by rw [List.length_append, r1.length, r2.length]; exact hz, r1.append r2⟩
    · cases h
  · cases h
theorem rv_eq : RV2 K (rEqD K.K) fEq := by
  intro F H x y d e z Q s rx ry h q
  unfold fEq at h
  split at h
  · rename_i hs
    cases h
    rw [Bool.and_eq_true] at hs
    exact ⟨d, e, (rx.mono s).dp (SeqAt.canLay_of_shaped hs.1), (ry.mono s).dp (SeqAt.canLay_of_shaped hs.2), hs.1, hs.2, gz s q (.bl _)⟩
  · cases h
theorem rv_ne : RV2 K (rNeD K.K) fNe := by
  intro F H x y d e z Q s rx ry h q
  unfold fNe at h
  split at h
  · rename_i hs
    cases h
    rw [Bool.and_eq_true] at hs
    exact ⟨d, e, (rx.mono s).dp (SeqAt.canLay_of_shaped hs.1), (ry.mono s).dp (SeqAt.canLay_of_shaped hs.2), hs.1, hs.2, gz s q (.bl _)⟩
  · cases h
theorem rv_in {neg : Bool} : RV2 K (rInS K.K neg) (inD neg) := by
  intro F H x y d e z Q s rx ry h q
  unfold inD at h
  split at h
  · split at h
    · rename_i ds hs
      cases h
      rw [Bool.and_eq_true] at hs
      exact ⟨d, ds, (rx.mono s).dp (SeqAt.canLay_of_shaped hs.1), .inl ((ry.mono s).dp (SeqAt.canLay_of_shaped hs.2)), hs.1, by simpa [PyData.canLay0] using SeqAt.canLay_of_shaped hs.2, gz s q (.bl _)⟩
    · cases h
  · split at h
    · rename_i ds hs
      cases h
      rw [Bool.and_eq_true] at hs
      exact ⟨d, ds, (rx.mono s).dp (SeqAt.canLay_of_shaped hs.1), .inr ((ry.mono s).dp (SeqAt.canLay_of_shaped hs.2)), hs.1, by simpa [PyData.canLay0] using SeqAt.canLay_of_shaped hs.2, gz s q (.bl _)⟩
    · cases h
  · cases h
theorem rv_lt : RV2 K (fun x y H Q => rI0 (fun i j => V.bl (decide (i < j))) x y H Q ∨ rLtT K.K x y H Q) fLt := by
  intro F H x y d e z Q s rx ry h q
  unfold fLt at h
  split at h
  · cases h; cases rx; cases ry
    exact .inl ⟨_, _, rfl, rfl, gz s q (.bl _)⟩
  · split at h
    · rename_i a b ns ms e1 e2
      cases h
      rw [intsOf_eq e1] at rx
      rw [intsOf_eq e2] at ry
      cases rx with
      | tup h1 n1 z1 r1 =>
      cases ry with
      | tup h2 n2 z2 r2 =>
      rw [r1.ints] at h1
      rw [r2.ints] at h2
      exact .inr ⟨_, _, ns, ms, rfl, rfl, .inl (.inr ⟨_, s _ _ h1⟩), .inl (.inr ⟨_, s _ _ h2⟩), gz s q (.bl _)⟩
    · cases h
  · cases h
theorem rv_is {neg : Bool} : RV2 K (fun x y H Q => (y = .non ∧ Q (.bl (xor neg (decide (x = .non)))) H) ∨ ∃ a b, x = .bl a ∧ y = .bl b ∧ Q (.bl (xor neg (decide (a = b)))) H) (isD neg) := by
  intro F H x y d e z Q s rx ry h q
  unfold isD at h
  split at h
  · cases h; cases rx; cases ry
    exact .inl ⟨rfl, by simpa using gz s q (.bl _)⟩
  · cases h; cases rx; cases ry
    refine .inr ⟨_, _, rfl, rfl, ?_⟩
    rename_i a b
    have e : decide (a = b) = (a == b) := by cases a <;> cases b <;> rfl
    rw [e]
    exact gz s q (.bl _)
  all_goals first
    | (cases h; cases ry; cases rx <;> exact .inl ⟨rfl, by simpa using gz s q (.bl neg)⟩)
    | cases h
end

/-! ### rules -/
section
variable {g : GC} {s : SS} {k : Nat} {W : WX} {X : Cx} {pos : Pos} {a b c : Expr} {ma mb mc : M D}
theorem Ok.units (ok : Ok g s k W X) : X.A.units + 65 < cLine := by
  have := ok.room.un
  omega
theorem dm_op {op : Operator} {r : R2} {f : D → D → Option D} (ho : OpR X (binaryOp op) r) (hr : RV2 g.K r f) (ha : DM g W X a ma) (hb : DM g W X b mb) : DM g W X (.BinOp a op b pos) (mBin f ma mb) := by
  obtain ⟨ta, pa, sa⟩ := ha
  obtain ⟨tb, pb, sb⟩ := hb
  exact ⟨_, pe_op ho pa pb, SimE.bin hr sa sb⟩
theorem dm_add (ok : Ok g s k W X) (ha : DM g W X a ma) (hb : DM g W X b mb) : DM g W X (.BinOp a .Add b pos) (mBin fAdd ma mb) := by
  refine dm_op (r := fun x y H Q => rI0 (fun i j => V.int (i + j)) x y H Q ∨ (∃ i j, x = .str i ∧ y = .str j ∧ i.length + j.length ≤ sizeLine ∧ Q (.str (i ++ j)) H) ∨ rCatZ x y H Q ∨ rCatR g.K.K x y H Q) ?_ rv_add ha hb
  have h := op_catR (X := X)
  rw [ok.hK] at h
  exact op_add.or (op_add_str.or (OpR.or op_catZ h))
theorem dl_cat (ok : Ok g s k W X) (ha : DM g W X a ma) (hb : DM g W X b mb) : DL g W X (.BinOp a .Add b pos) (mBinL fCat ma mb) := by
  obtain ⟨ta, pa, sa⟩ := ha
  obtain ⟨tb, pb, sb⟩ := hb
  have h := op_catR (X := X)
  rw [ok.hK] at h
  exact ⟨_, pe_op h pa pb, SimL.bin rl_cat sa sb⟩
theorem dm_sub (ha : DM g W X a ma) (hb : DM g W X b mb) : DM g W X (.BinOp a .Sub b pos) (mBin fSub ma mb) :=
  dm_op op_sub (rv_int fun d e z h => by unfold fSub at h; split at h <;> cases h; exact ⟨_, _, rfl, rfl, rfl⟩) ha hb
theorem dm_mul (ha : DM g W X a ma) (hb : DM g W X b mb) : DM g W X (.BinOp a .Mult b pos) (mBin fMul ma mb) :=
  dm_op op_mul (rv_intC fun d e z h => by
    unfold fMul at h
    split at h
    · split at h
      · cases h; exact ⟨_, _, rfl, rfl, by assumption, rfl⟩
      · cases h
    · cases h) ha hb
theorem dm_div (ha : DM g W X a ma) (hb : DM g W X b mb) : DM g W X (.BinOp a .FloorDiv b pos) (mBin fDiv ma mb) :=
  dm_op op_fdiv (rv_intC fun d e z h => by
    unfold fDiv at h
    split at h
    · split at h
      · cases h; exact ⟨_, _, rfl, rfl, by assumption, rfl⟩
      · cases h
    · cases h) ha hb
theorem dm_mod (ha : DM g W X a ma) (hb : DM g W X b mb) : DM g W X (.BinOp a .Mod b pos) (mBin fMod ma mb) :=
  dm_op op_mod (rv_intC fun d e z h => by
    unfold fMod at h
    split at h
    · split at h
      · cases h; exact ⟨_, _, rfl, rfl, by assumption, rfl⟩
      · cases h
    · cases h) ha hb
theorem dm_pow (ha : DM g W X a ma) (hb : DM g W X b mb) : DM g W X (.BinOp a .Pow b pos) (mBin fPow ma mb) :=
  dm_op op_pow (rv_intC fun d e z h => by
    unfold fPow at h
    split at h
    · split at h
      · cases h; exact ⟨_, _, rfl, rfl, by assumption, rfl⟩
      · cases h
    · cases h) ha hb
theorem dm_shl (ha : DM g W X a ma) (hb : DM g W X b mb) : DM g W X (.BinOp a .LShift b pos) (mBin fShl ma mb) :=
  dm_op op_shl (rv_intC fun d e z h => by
    unfold fShl at h
    split at h
    · split at h
      · cases h; exact ⟨_, _, rfl, rfl, by assumption, rfl⟩
      · cases h
    · cases h) ha hb
theorem dm_band (ha : DM g W X a ma) (hb : DM g W X b mb) : DM g W X (.BinOp a .BitAnd b pos) (mBin fBitAnd ma mb) :=
  dm_op op_and (rv_int fun d e z h => by unfold fBitAnd at h; split at h <;> cases h; exact ⟨_, _, rfl, rfl, rfl⟩) ha hb
theorem dm_bor (ha : DM g W X a ma) (hb : DM g W X b mb) : DM g W X (.BinOp a .BitOr b pos) (mBin fBitOr ma mb) :=
  dm_op op_or (rv_int fun d e z h => by unfold fBitOr at h; split at h <;> cases h; exact ⟨_, _, rfl, rfl, rfl⟩) ha hb
theorem dm_neg (ha : DM g W X a ma) : DM g W X (.UnaryOp .USub a pos) (mUn fNeg ma) := by
  obtain ⟨ta, pa, sa⟩ := ha
  refine ⟨_, pe_un un_neg pa, SimE.un ?_ sa⟩
  intro F H x d z Q s rx h q
  unfold fNeg at h
  split at h <;> cases h
  cases rx
  exact ⟨_, rfl, gz s q (.int _)⟩

/-! comparisons, as values and as tests -/
structure CmpR (g : GC) (X : Cx) (op : CmpOp) (f : D → D → Option D) : Prop where
  ex : ∃ r, OpR X (compareOp op) r ∧ RV2 g.K r f
theorem cr_eq (ok : Ok g s k W X) : CmpR g X .Eq fEq := ⟨_, op_eqD (by have := ok.units; omega), by rw [ok.hK]; exact rv_eq⟩
theorem cr_ne (ok : Ok g s k W X) : CmpR g X .NotEq fNe := ⟨_, op_neD (by have := ok.units; omega), by rw [ok.hK]; exact rv_ne⟩
theorem cr_lt (ok : Ok g s k W X) : CmpR g X .Lt fLt := ⟨_, op_lt.or (op_ltT (by have := ok.units; omega)), by rw [ok.hK]; exact rv_lt⟩
theorem cr_le : CmpR g X .LtE fLe := ⟨_, op_le, rv_intB fun d e z h => by unfold fLe at h; split at h <;> cases h; exact ⟨_, _, rfl, rfl, rfl⟩⟩
theorem cr_gt : CmpR g X .Gt fGt := ⟨_, op_gt, rv_intB fun d e z h => by unfold fGt at h; split at h <;> cases h; exact ⟨_, _, rfl, rfl, rfl⟩⟩
theorem cr_ge : CmpR g X .GtE fGe := ⟨_, op_ge, rv_intB fun d e z h => by unfold fGe at h; split at h <;> cases h; exact ⟨_, _, rfl, rfl, rfl⟩⟩
theorem cr_in (ok : Ok g s k W X) : CmpR g X .In fIn := ⟨_, op_inS' ok.units, by rw [ok.hK]; exact rv_in⟩
theorem cr_notin (ok : Ok g s k W X) : CmpR g X .NotIn fNotIn := ⟨_, op_notInS' ok.units, by rw [ok.hK]; exact rv_in⟩
theorem cr_is : CmpR g X .Is fIs := ⟨_, op_isN.or op_is_bl, by
  have h := rv_is (K := g.K) (neg := false)
  simp only [Bool.false_xor] at h
  exact h⟩
theorem cr_isnot : CmpR g X .IsNot fIsNot := ⟨_, op_notN.or op_isnot_bl, by
  have h := rv_is (K := g.K) (neg := true)
  simp only [Bool.true_xor] at h
  exact h⟩
theorem dm_cmp {op : CmpOp} {f : D → D → Option D} (hc : CmpR g X op f) (ha : DM g W X a ma) (hb : DM g W X b mb) (hm : behindInMarks op b = false := by first | exact nomark _ | rfl) : DM g W X (.Compare a [op] [b] pos) (mBin f ma mb) := by
  obtain ⟨r, ho, hr⟩ := hc.ex
  obtain ⟨ta, pa, sa⟩ := ha
  obtain ⟨tb, pb, sb⟩ := hb
  exact ⟨_, pe_cmpR ho pa pb hm, SimE.bin hr sa sb⟩
/-- as a test: the value must be a bool -/
def asB (m : M D) : M Bool := fun ρ => bnd (m ρ) fun d ρ1 => match d with
  | .bool b => .ok b ρ1
  | _ => .bad
theorem SimE.test {K : KC} {mg : Str → Option Value} {W : WX} {t : TE} {m : M D} (h : SimE K mg W t m) : SimT K mg W (tTest t) (asB m) := by
  intro B F H σ ρ Q E q
  refine h.then (R := PoT K mg W B F σ Q) E (fun x ρ' z => z) (fun z => z) q fun d ρ1 v F1 H1 g1 E1 r1 q1 => ?_
  cases r1 <;> first
    | exact False.elim q1
    | exact ⟨_, rfl, q1 F1 H1 g1 E1⟩
theorem dt_cmp {op : CmpOp} {f : D → D → Option D} (hc : CmpR g X op f) (ha : DM g W X a ma) (hb : DM g W X b mb) (hm : behindInMarks op b = false := by first | exact nomark _ | rfl) : DT g W X (.Compare a [op] [b] pos) (asB (mBin f ma mb)) := by
  obtain ⟨r, ho, hr⟩ := hc.ex
  obtain ⟨ta, pa, sa⟩ := ha
  obtain ⟨tb, pb, sb⟩ := hb
  exact ⟨_, pt_cmpR ho pa pb hm, (SimE.bin hr sa sb).test⟩
/-- a op b op' c -/
def mChain (f f' : D → D → Option D) (ma mb mc : M D) : M D := fun ρ => bnd (ma ρ) fun x ρ1 => bnd (mb ρ1) fun y ρ2 => match f x y with
  | some (.bool true) => bnd (mc ρ2) fun z ρ3 => lft (f' y z) ρ3
  | some (.bool false) => .ok (.bool false) ρ2
  | _ => .bad
theorem SimE.chain {K : KC} {mg : Str → Option Value} {W : WX} {r r' : R2} {f f' : D → D → Option D} {ta tb tc : TE} {ma mb mc : M D} (hr : RV2 K r f) (hr' : RV2 K r' f') (ha : SimE K mg W ta ma) (hb : SimE K mg W tb mb) (hc : SimE K mg W tc mc) :
    SimE K mg W (tChain r r' ta tb tc) (mChain f f' ma mb mc) := by
  intro B F H σ ρ Q E h
  refine ha.then (R := PoE K mg W B F σ Q) E (fun x ρ' z => z) (fun z => z) h fun x ρ1 v F1 H1 g1 E1 r1 h1 => ?_
  refine hb.then (R := PoE K mg W B F1 σ Q) E1 (fun x ρ' z => z) (fun z => z) (h1.later g1) fun y ρ2 u F2 H2 g2 E2 r2 h2 => ?_
  have h2 := PoE.later g2 h2
  split at h2
  · rename_i ez
    refine hr F2 H2 v u x y _ _ E2.sub (r1.mono g2.sub) r2 ez fun z F3 H3 gw rz => ?_
    cases rz
    refine ⟨true, rfl, ?_⟩
    rw [if_pos rfl]
    have E3 := E2.grow gw
    have g3 := gw.gr E2.subB
    refine hc.then (R := PoE K mg W B F3 σ Q) E3 (fun x ρ' z => z) (fun z => z) (h2.later g3) fun w ρ3 t F4 H4 g4 E4 r4 h4 => ?_
    cases ew : f' y w with
    | none => rw [ew] at h4; exact h4.elim
    | some o =>
      rw [ew] at h4
      exact hr' F4 H4 u t y w o Q E4.sub ((r2.mono gw.subF).mono g4.sub) r4 ew fun q F' H' gw' rq => (PoE.later g4 h4) q F' H' (gw'.gr E4.subB) (E4.grow gw') rq
  · rename_i ez
    refine hr F2 H2 v u x y _ _ E2.sub (r1.mono g2.sub) r2 ez fun z F3 H3 gw rz => ?_
    cases rz
    refine ⟨false, rfl, ?_⟩
    rw [if_neg (by decide)]
    exact h2 _ F3 H3 (gw.gr E2.subB) (E2.grow gw) (.bl false)
  · exact h2.elim
theorem dm_chain {op op' : CmpOp} {f f' : D → D → Option D} (hc : CmpR g X op f) (hc' : CmpR g X op' f') (ha : DM g W X a ma) (hb : DM g W X b mb) (hd : DM g W X c mc) (hm : lastMarks [op, op'] [b, c] = false := by with_unfolding_all rfl) :
    DM g W X (.Compare a [op, op'] [b, c] pos) (mChain f f' ma mb mc) := by
  obtain ⟨r, ho, hr⟩ := hc.ex
  obtain ⟨r', ho', hr'⟩ := hc'.ex
  obtain ⟨ta, pa, sa⟩ := ha
  obtain ⟨tb, pb, sb⟩ := hb
  obtain ⟨tc, pc, sc⟩ := hd
  exact ⟨_, pe_chain ho ho' pa pb pc hm, SimE.chain hr hr' sa sb sc⟩
theorem dt_chain {op op' : CmpOp} {f f' : D → D → Option D} (hc : CmpR g X op f) (hc' : CmpR g X op' f') (ha : DM g W X a ma) (hb : DM g W X b mb) (hd : DM g W X c mc) (hm : lastMarks [op, op'] [b, c] = false := by with_unfolding_all rfl) :
    DT g W X (.Compare a [op, op'] [b, c] pos) (asB (mChain f f' ma mb mc)) := by
  obtain ⟨r, ho, hr⟩ := hc.ex
  obtain ⟨r', ho', hr'⟩ := hc'.ex
  obtain ⟨ta, pa, sa⟩ := ha
  obtain ⟨tb, pb, sb⟩ := hb
  obtain ⟨tc, pc, sc⟩ := hd
  exact ⟨_, pt_chain ho ho' pa pb pc hm, (SimE.chain hr hr' sa sb sc).test⟩

/-! and, or, not -/
def mAndV (ma mb : M D) : M D := fun ρ => bnd (ma ρ) fun d ρ1 => match d with
  | .bool true => mb ρ1
  | .bool false => .ok (.bool false) ρ1
  | _ => .bad
def mOrV (ma mb : M D) : M D := fun ρ => bnd (ma ρ) fun d ρ1 => match d with
  | .bool true => .ok (.bool true) ρ1
  | .bool false => mb ρ1
  | _ => .bad
def mNotV (ma : M D) : M D := fun ρ => bnd (ma ρ) fun d ρ1 => match d with
  | .bool b => .ok (.bool (!b)) ρ1
  | _ => .bad
variable {rest : List Expr} {op : BoolOp}
theorem dm_one (h : DM g W X a ma) : DM g W X (.BoolOp op [a] pos) ma := by
  obtain ⟨ta, pa, sa⟩ := h
  exact ⟨_, pe_one pa, sa⟩
theorem dm_and (ha : DM g W X a ma) (hb : DM g W X (.BoolOp .And (b :: rest) pos) mb) : DM g W X (.BoolOp .And (a :: b :: rest) pos) (mAndV ma mb) := by
  obtain ⟨ta, pa, sa⟩ := ha
  obtain ⟨tb, pb, sb⟩ := hb
  refine ⟨_, pe_and pa pb, fun B F H σ ρ Q E h => ?_⟩
  refine sa.then (R := PoE g.K g.mg W B F σ Q) E (fun x ρ' z => z) (fun z => z) h fun x ρ1 v F1 H1 g1 E1 r1 h1 => ?_
  cases r1 <;> first
    | exact False.elim h1
    | skip
  rename_i b
  refine ⟨b, rfl, ?_⟩
  cases b with
  | true => rw [if_pos rfl]; exact sb B F1 H1 σ ρ1 Q E1 (PoE.later g1 h1)
  | false => rw [if_neg (by decide)]; exact h1 _ F1 H1 g1 E1 (.bl false)
theorem dm_or (ha : DM g W X a ma) (hb : DM g W X (.BoolOp .Or (b :: rest) pos) mb) : DM g W X (.BoolOp .Or (a :: b :: rest) pos) (mOrV ma mb) := by
  obtain ⟨ta, pa, sa⟩ := ha
  obtain ⟨tb, pb, sb⟩ := hb
  refine ⟨_, pe_or pa pb, fun B F H σ ρ Q E h => ?_⟩
  refine sa.then (R := PoE g.K g.mg W B F σ Q) E (fun x ρ' z => z) (fun z => z) h fun x ρ1 v F1 H1 g1 E1 r1 h1 => ?_
  cases r1 <;> first
    | exact False.elim h1
    | skip
  rename_i b
  refine ⟨b, rfl, ?_⟩
  cases b with
  | true => rw [if_pos rfl]; exact h1 _ F1 H1 g1 E1 (.bl true)
  | false => rw [if_neg (by decide)]; exact sb B F1 H1 σ ρ1 Q E1 (PoE.later g1 h1)
theorem dm_not (ha : DM g W X a ma) : DM g W X (.UnaryOp .Not a pos) (mNotV ma) := by
  obtain ⟨ta, pa, sa⟩ := ha
  refine ⟨_, pe_not pa, fun B F H σ ρ Q E h => ?_⟩
  refine sa.then (R := PoE g.K g.mg W B F σ Q) E (fun x ρ' z => z) (fun z => z) h fun x ρ1 v F1 H1 g1 E1 r1 h1 => ?_
  cases r1 <;> first
    | exact False.elim h1
    | skip
  rename_i b
  exact ⟨b, rfl, h1 _ F1 H1 g1 E1 (.bl _)⟩
/-! tests -/
def tAndM (ma mb : M Bool) : M Bool := fun ρ => bnd (ma ρ) fun b ρ1 => match b with
  | true => mb ρ1
  | false => .ok false ρ1
def tOrM (ma mb : M Bool) : M Bool := fun ρ => bnd (ma ρ) fun b ρ1 => match b with
  | true => .ok true ρ1
  | false => mb ρ1
def tNotM (ma : M Bool) : M Bool := fun ρ => bnd (ma ρ) fun b ρ1 => .ok (!b) ρ1
/-- a chain of and, or -/
def DW (g : GC) (W : WX) (X : Cx) (e : Expr) (m : M Bool) : Prop := ∃ t, PW X e t ∧ SimT g.K g.mg W t m
variable {na nb : M Bool}
theorem DW.dt {e : Expr} (h : DW g W X e na) : DT g W X e na := by
  obtain ⟨t, p, q⟩ := h
  exact ⟨t, p.pt, q⟩
theorem dw_and1 (h : DT g W X a na) : DW g W X (.BoolOp .And [a] pos) na := by
  obtain ⟨t, p, q⟩ := h
  exact ⟨t, pw_and1 p, q⟩
theorem dw_or1 (h : DT g W X a na) : DW g W X (.BoolOp .Or [a] pos) na := by
  obtain ⟨t, p, q⟩ := h
  exact ⟨t, pw_or1 p, q⟩
theorem dw_and (ha : DT g W X a na) (hb : DW g W X (.BoolOp .And (b :: rest) pos) nb) : DW g W X (.BoolOp .And (a :: b :: rest) pos) (tAndM na nb) := by
  obtain ⟨ta, pa, sa⟩ := ha
  obtain ⟨tb, pb, sb⟩ := hb
  refine ⟨_, pw_and pa pb, fun B F H σ ρ Q E h => ?_⟩
  refine sa.then (R := PoT g.K g.mg W B F σ Q) E (fun x ρ' z => z) (fun z => z) h fun b ρ1 F1 H1 g1 E1 h1 => ?_
  cases b with
  | true => show (if true = true then _ else _); rw [if_pos rfl]; exact sb B F1 H1 σ ρ1 Q E1 (PoT.later g1 h1)
  | false => show (if false = true then _ else _); rw [if_neg (by decide)]; exact h1 F1 H1 g1 E1
theorem dw_or (ha : DT g W X a na) (hb : DW g W X (.BoolOp .Or (b :: rest) pos) nb) : DW g W X (.BoolOp .Or (a :: b :: rest) pos) (tOrM na nb) := by
  obtain ⟨ta, pa, sa⟩ := ha
  obtain ⟨tb, pb, sb⟩ := hb
  refine ⟨_, pw_or pa pb, fun B F H σ ρ Q E h => ?_⟩
  refine sa.then (R := PoT g.K g.mg W B F σ Q) E (fun x ρ' z => z) (fun z => z) h fun b ρ1 F1 H1 g1 E1 h1 => ?_
  cases b with
  | true => show (if true = true then _ else _); rw [if_pos rfl]; exact h1 F1 H1 g1 E1
  | false => show (if false = true then _ else _); rw [if_neg (by decide)]; exact sb B F1 H1 σ ρ1 Q E1 (PoT.later g1 h1)
theorem dt_not (ha : DT g W X a na) : DT g W X (.UnaryOp .Not a pos) (tNotM na) := by
  obtain ⟨ta, pa, sa⟩ := ha
  refine ⟨_, pt_not pa, fun B F H σ ρ Q E h => ?_⟩
  exact sa.then (R := PoT g.K g.mg W B F σ Q) E (fun x ρ' z => z) (fun z => z) h fun b ρ1 F1 H1 g1 E1 h1 => h1 F1 H1 g1 E1
/-- an expression that gives a bool, as a test (a call, a name, ..) -/
theorem dt_val (h : DM g W X a ma) (he : ∀ whole, isTrue a X.env whole = (do let v ← whole; standAt a.pos; holding [v] (truthy v)) := by intro _; rfl) : DT g W X a (asB ma) := by
  obtain ⟨t, p, q⟩ := h
  exact ⟨_, pt_val p he, q.test⟩
def mIf (c : M Bool) (ma mb : M D) : M D := fun ρ => bnd (c ρ) fun b ρ1 => match b with
  | true => ma ρ1
  | false => mb ρ1
theorem dm_if (hc : DT g W X c na) (ha : DM g W X a ma) (hb : DM g W X b mb) : DM g W X (.IfExp c a b pos) (mIf na ma mb) := by
  obtain ⟨tc, pc, sc⟩ := hc
  obtain ⟨ta, pa, sa⟩ := ha
  obtain ⟨tb, pb, sb⟩ := hb
  refine ⟨_, pe_ifExp pc pa pb, fun B F H σ ρ Q E h => ?_⟩
  refine sc.then (R := PoE g.K g.mg W B F σ Q) E (fun x ρ' z => z) (fun z => z) h fun b ρ1 F1 H1 g1 E1 h1 => ?_
  cases b with
  | true => show (if true = true then _ else _); rw [if_pos rfl]; exact sa B F1 H1 σ ρ1 Q E1 (PoE.later g1 h1)
  | false => show (if false = true then _ else _); rw [if_neg (by decide)]; exact sb B F1 H1 σ ρ1 Q E1 (PoE.later g1 h1)
end
end DX

set_option maxHeartbeats 1000000
namespace DX
open PySem PySem.Spec PyProof.Rows L2

/-! ### the built-ins stand -/
structure BF (g : GC) : Prop where
  len : g.mg "len" = none
  all : g.mg "all" = none
  any : g.mg "any" = none
  isinstance : g.mg "isinstance" = none
  int : g.mg "int" = none
  bool : g.mg "bool" = none
  tuple : g.mg "tuple" = none
  str : g.mg "str" = none
  list : g.mg "list" = none
  dict : g.mg "dict" = none
  set : g.mg "set" = none
  range : g.mg "range" = none
  sorted : g.mg "sorted" = none
  sum : g.mg "sum" = none
  abs : g.mg "abs" = none
  max : g.mg "max" = none
  min : g.mg "min" = none
  enumerate : g.mg "enumerate" = none
  zip : g.mg "zip" = none

section
variable {g : GC} {s : SS} {k : Nat} {W : WX} {X : Cx} {pos p : Pos} {a b c e : Expr} {es : List Expr} {ma mb mc : M D} {na : M (List D)}
theorem dm_callB (ok : Ok g s k W X) {x : Str} {id : String} {r : List V → Hp → VK → Prop} {f : List D → Option D} (hc : CallR X (.builtin id) r) (hr : RVn g.K r f) (hm : g.mg x = none) (hv : bootBuiltins x = some (.builtin id)) (ha : DA g W X (e :: es) na)
    (hg : gloB s.sc x = true) (hn : x ≠ "__name__" := by decide +kernel) (hd : (x == ("__debug__" : Str)) = false := by decide +kernel)
    (he : starEach (e :: es) X.env = (false, eval e X.env) :: starEach es X.env := by rfl) (hpl : (backTo pos (starEach es X.env)).any (·.1) = false := by rfl) : DM g W X (.Call (.Name x p) (e :: es) [] pos) (mApp f na) := by
  obtain ⟨ta, pa, sa⟩ := ha
  exact ⟨_, pe_callB hc (ok.glo hg) (by rw [ok.hmg]; exact hm) hv pa hn hd he hpl, SimE.app hr sa⟩
theorem dm_callT (ok : Ok g s k W X) {x : Str} {T : String} {r : List V → Hp → VK → Prop} {f : List D → Option D} (hc : CallR X (.type T) r) (hr : RVn g.K r f) (hm : g.mg x = none) (hv : bootBuiltins x = some (.type T)) (ha : DA g W X (e :: es) na)
    (hg : gloB s.sc x = true) (hn : x ≠ "__name__" := by decide +kernel) (hd : (x == ("__debug__" : Str)) = false := by decide +kernel)
    (he : starEach (e :: es) X.env = (false, eval e X.env) :: starEach es X.env := by rfl) (hpl : (backTo pos (starEach es X.env)).any (·.1) = false := by rfl) : DM g W X (.Call (.Name x p) (e :: es) [] pos) (mApp f na) := by
  obtain ⟨ta, pa, sa⟩ := ha
  exact ⟨_, pe_callTy hc (ok.glo hg) (by rw [ok.hmg]; exact hm) hv pa hn hd he hpl, SimE.app hr sa⟩
theorem dl_callB (ok : Ok g s k W X) {x : Str} {id : String} {r : List V → Hp → VK → Prop} {f : List D → Option Ob} (hc : CallR X (.builtin id) r) (hr : RLn g.K r f) (hm : g.mg x = none) (hv : bootBuiltins x = some (.builtin id)) (ha : DA g W X (e :: es) na)
    (hg : gloB s.sc x = true) (hn : x ≠ "__name__" := by decide +kernel) (hd : (x == ("__debug__" : Str)) = false := by decide +kernel)
    (he : starEach (e :: es) X.env = (false, eval e X.env) :: starEach es X.env := by rfl) (hpl : (backTo pos (starEach es X.env)).any (·.1) = false := by rfl) : DL g W X (.Call (.Name x p) (e :: es) [] pos) (mAppL f na) := by
  obtain ⟨ta, pa, sa⟩ := ha
  exact ⟨_, pe_callB hc (ok.glo hg) (by rw [ok.hmg]; exact hm) hv pa hn hd he hpl, SimL.app hr sa⟩
theorem dl_callT (ok : Ok g s k W X) {x : Str} {T : String} {r : List V → Hp → VK → Prop} {f : List D → Option Ob} (hc : CallR X (.type T) r) (hr : RLn g.K r f) (hm : g.mg x = none) (hv : bootBuiltins x = some (.type T)) (ha : DA g W X (e :: es) na)
    (hg : gloB s.sc x = true) (hn : x ≠ "__name__" := by decide +kernel) (hd : (x == ("__debug__" : Str)) = false := by decide +kernel)
    (he : starEach (e :: es) X.env = (false, eval e X.env) :: starEach es X.env := by rfl) (hpl : (backTo pos (starEach es X.env)).any (·.1) = false := by rfl) : DL g W X (.Call (.Name x p) (e :: es) [] pos) (mAppL f na) := by
  obtain ⟨ta, pa, sa⟩ := ha
  exact ⟨_, pe_callTy hc (ok.glo hg) (by rw [ok.hmg]; exact hm) hv pa hn hd he hpl, SimL.app hr sa⟩

/-! ### len -/
def fLen : List D → Option D
  | [.list ds] => some (.int ds.length)
  | [.tuple ds] => some (.int ds.length)
  | [.str x] => if x.length ≤ sizeLine then some (.int x.length) else none
  | _ => none
theorem rv_len {K : KC} : RVn K (fun xs H Q => ∃ x n, xs = [x] ∧ LenV K.K x H n ∧ Q (.int n) H) fLen := by
  intro F H xs ds z Q s rx h q
  unfold fLen at h
  split at h
  · cases h
    cases rx with
    | cons r t =>
    cases t
    cases r with
    | lst h1 z1 r1 =>
    refine ⟨_, _, rfl, .inl ⟨_, (h1.mono s).sq, rfl⟩, ?_⟩
    rw [r1.length]
    exact gz s q (.int _)
  · cases h
    cases rx with
    | cons r t =>
    cases t
    cases r with
    | tup h1 n1 z1 r1 =>
    refine ⟨_, _, rfl, .inr ⟨_, .inl (.inr ⟨_, s _ _ h1⟩), rfl⟩, ?_⟩
    rw [r1.length]
    exact gz s q (.int _)
  · split at h
    · cases h
      cases rx with
      | cons r t =>
      cases t
      cases r
      exact ⟨_, _, rfl, ⟨by assumption, rfl⟩, gz s q (.int _)⟩
    · cases h
  · cases h
theorem dm_len (ok : Ok g s k W X) (bf : BF g) (ha : DA g W X [a] na) (hg : gloB s.sc "len" = true := by decide +kernel) (hs : starEach [a] X.env = [(false, eval a X.env)] := by rfl) : DM g W X (.Call (.Name "len" p) [a] [] pos) (mApp fLen na) :=
  dm_callB ok call_len (by rw [ok.hK]; exact rv_len) bf.len PySem.boot_len ha hg (he := hs)

/-! ### all, any, sum of lists -/
def fAll : List D → Option D
  | [.list ds] => (boolsOf ds).map fun bs => .bool (bs.all id)
  | _ => none
def fAny : List D → Option D
  | [.list ds] => (boolsOf ds).map fun bs => .bool (bs.any id)
  | _ => none
def fSum : List D → Option D
  | [.list ds] => (intsOf ds).map fun ns => .int ns.sum
  | _ => none
theorem rv_all {K : KC} : RVn K (rAll K.K) fAll := by
  intro F H xs ds z Q s rx h q
  unfold fAll at h
  split at h
  · rename_i ds
    cases e : boolsOf ds with
    | none => rw [e] at h; cases h
    | some bs =>
      rw [e] at h; cases h
      rw [boolsOf_eq e] at rx
      cases rx with
      | cons r t =>
      cases t
      cases r with
      | lst h1 z1 r1 =>
      rw [r1.bools] at h1
      exact ⟨_, bs, rfl, (h1.mono s).sq, gz s q (.bl _)⟩
  · cases h
theorem rv_any {K : KC} : RVn K (rAny K.K) fAny := by
  intro F H xs ds z Q s rx h q
  unfold fAny at h
  split at h
  · rename_i ds
    cases e : boolsOf ds with
    | none => rw [e] at h; cases h
    | some bs =>
      rw [e] at h; cases h
      rw [boolsOf_eq e] at rx
      cases rx with
      | cons r t =>
      cases t
      cases r with
      | lst h1 z1 r1 =>
      rw [r1.bools] at h1
      exact ⟨_, bs, rfl, (h1.mono s).sq, gz s q (.bl _)⟩
  · cases h
theorem rv_sum {K : KC} : RVn K (rSum K.K) fSum := by
  intro F H xs ds z Q s rx h q
  unfold fSum at h
  split at h
  · rename_i ds
    cases e : intsOf ds with
    | none => rw [e] at h; cases h
    | some bs =>
      rw [e] at h; cases h
      rw [intsOf_eq e] at rx
      cases rx with
      | cons r t =>
      cases t
      cases r with
      | lst h1 z1 r1 =>
      rw [r1.ints] at h1
      exact ⟨_, bs, rfl, (h1.mono s).sq, gz s q (.int _)⟩
  · cases h
theorem dm_all (ok : Ok g s k W X) (bf : BF g) (ha : DA g W X [a] na) (hg : gloB s.sc "all" = true := by decide +kernel) (hs : starEach [a] X.env = [(false, eval a X.env)] := by rfl) : DM g W X (.Call (.Name "all" p) [a] [] pos) (mApp fAll na) :=
  dm_callB ok (cr_all ok.calm) (by rw [ok.hK]; exact rv_all) bf.all (by decide +kernel) ha hg (he := hs)
theorem dm_any (ok : Ok g s k W X) (bf : BF g) (ha : DA g W X [a] na) (hg : gloB s.sc "any" = true := by decide +kernel) (hs : starEach [a] X.env = [(false, eval a X.env)] := by rfl) : DM g W X (.Call (.Name "any" p) [a] [] pos) (mApp fAny na) :=
  dm_callB ok (cr_any ok.calm) (by rw [ok.hK]; exact rv_any) bf.any (by decide +kernel) ha hg (he := hs)
theorem dm_sum (ok : Ok g s k W X) (bf : BF g) (ha : DA g W X [a] na) (hg : gloB s.sc "sum" = true := by decide +kernel) (hs : starEach [a] X.env = [(false, eval a X.env)] := by rfl) : DM g W X (.Call (.Name "sum" p) [a] [] pos) (mApp fSum na) :=
  dm_callB ok (cr_sum ok.calm) (by rw [ok.hK]; exact rv_sum) bf.sum (by decide +kernel) ha hg (he := hs)

/-! ### abs, max, min of ints; int of a bool -/
def fAbs : List D → Option D
  | [.int i] => some (.int (if i < 0 then -i else i))
  | _ => none
def fMax2 : List D → Option D
  | [.int i, .int j] => some (.int (if j > i then j else i))
  | _ => none
def fMin2 : List D → Option D
  | [.int i, .int j] => some (.int (if j < i then j else i))
  | _ => none
def fInt1 : List D → Option D
  | [.int i] => some (.int i)
  | [.bool b] => some (.int (if b then 1 else 0))
  | _ => none
theorem rp1 {K : KC} {F : Hp} {xs : List V} {d : D} (h : RpA K F xs [d]) : ∃ v, xs = [v] ∧ Rp K F v d := by
  cases h with
  | cons r t => cases t; exact ⟨_, rfl, r⟩
theorem rp2 {K : KC} {F : Hp} {xs : List V} {d e : D} (h : RpA K F xs [d, e]) : ∃ v w, xs = [v, w] ∧ Rp K F v d ∧ Rp K F w e := by
  cases h with
  | cons r t =>
    obtain ⟨w, rfl, h⟩ := rp1 t
    exact ⟨_, _, rfl, r, h⟩
theorem dm_abs (ok : Ok g s k W X) (bf : BF g) (ha : DA g W X [a] na) (hg : gloB s.sc "abs" = true := by decide +kernel) (hs : starEach [a] X.env = [(false, eval a X.env)] := by rfl) : DM g W X (.Call (.Name "abs" p) [a] [] pos) (mApp fAbs na) :=
  dm_callB ok call_abs (fun F H xs ds z Q s rx h q => by
    unfold fAbs at h
    split at h <;> cases h
    obtain ⟨v, rfl, r⟩ := rp1 rx
    cases r
    exact ⟨_, rfl, gz s q (.int _)⟩) bf.abs (by decide +kernel) ha hg (he := hs)
theorem dm_max2 (ok : Ok g s k W X) (bf : BF g) (ha : DA g W X [a, b] na) (hg : gloB s.sc "max" = true := by decide +kernel) (hs : starEach [a, b] X.env = (false, eval a X.env) :: starEach [b] X.env := by rfl) (hs2 : (backTo pos (starEach [b] X.env)).any (·.1) = false := by rfl) : DM g W X (.Call (.Name "max" p) [a, b] [] pos) (mApp fMax2 na) :=
  dm_callB ok (call_max2 ok.calm) (fun F H xs ds z Q s rx h q => by
    unfold fMax2 at h
    split at h <;> cases h
    obtain ⟨v, w, rfl, r, r'⟩ := rp2 rx
    cases r; cases r'
    exact ⟨_, _, rfl, gz s q (.int _)⟩) bf.max (by decide +kernel) ha hg (he := hs) (hpl := hs2)
theorem dm_min2 (ok : Ok g s k W X) (bf : BF g) (ha : DA g W X [a, b] na) (hg : gloB s.sc "min" = true := by decide +kernel) (hs : starEach [a, b] X.env = (false, eval a X.env) :: starEach [b] X.env := by rfl) (hs2 : (backTo pos (starEach [b] X.env)).any (·.1) = false := by rfl) : DM g W X (.Call (.Name "min" p) [a, b] [] pos) (mApp fMin2 na) :=
  dm_callB ok (call_min2 ok.calm) (fun F H xs ds z Q s rx h q => by
    unfold fMin2 at h
    split at h <;> cases h
    obtain ⟨v, w, rfl, r, r'⟩ := rp2 rx
    cases r; cases r'
    exact ⟨_, _, rfl, gz s q (.int _)⟩) bf.min (by decide +kernel) ha hg (he := hs) (hpl := hs2)
theorem dm_int1 (ok : Ok g s k W X) (bf : BF g) (ha : DA g W X [a] na) (hg : gloB s.sc "int" = true := by decide +kernel) (hs : starEach [a] X.env = [(false, eval a X.env)] := by rfl) : DM g W X (.Call (.Name "int" p) [a] [] pos) (mApp fInt1 na) :=
  dm_callT ok call_int1 (fun F H xs ds z Q s rx h q => by
    unfold fInt1 at h
    split at h <;> cases h <;> obtain ⟨v, rfl, r⟩ := rp1 rx <;> cases r
    · exact .inl ⟨_, rfl, gz s q (.int _)⟩
    · exact .inr ⟨_, rfl, gz s q (.int _)⟩) bf.int (by decide +kernel) ha hg (he := hs)

/-! ### list(x), tuple(x) -/
def fList : List D → Option Ob
  | [.list ds] => some (.lst ds)
  | [.tuple ds] => some (.lst ds)
  | _ => none
def fTuple : List D → Option D
  | [.list ds] => some (.tuple ds)
  | [.tuple ds] => some (.tuple ds)
  | _ => none
theorem dl_list (ok : Ok g s k W X) (bf : BF g) (ha : DA g W X [a] na) (hg : gloB s.sc "list" = true := by decide +kernel) (hs : starEach [a] X.env = [(false, eval a X.env)] := by rfl) : DL g W X (.Call (.Name "list" p) [a] [] pos) (mAppL fList na) :=
  dl_callT ok call_list_of (fun F H xs ds z Q s rx h q => by
    unfold fList at h
    split at h <;> cases h <;> obtain ⟨v, rfl, r⟩ := rp1 rx
    · cases r with
      | lst h1 z1 r1 => exact ⟨_, _, rfl, .inl (by rw [ok.hK]; exact (h1.mono s).sq), fun l nl => q l F _ (Grow.made s nl) nl (s.nn nl) ⟨_, upd_same, z1, r1⟩⟩
    · cases r with
      | tup h1 n1 z1 r1 => exact ⟨_, _, rfl, .inr (.inl (.inr ⟨_, s _ _ h1⟩)), fun l nl => q l F _ (Grow.made s nl) nl (s.nn nl) ⟨_, upd_same, z1, r1⟩⟩) bf.list (by decide +kernel) ha hg (he := hs)
def rTupOf (K : PySem.W.Frag) : List V → Hp → VK → Prop := fun xs H Q => ∃ p ys, xs = [.ref p] ∧ ((SqL K H p ys ∧ ∀ l o, H l = none → o.dict = none → Q (.ref l) (upd H l (.frz o (.tup ys)))) ∨ (SqT K H p ys ∧ Q (.ref p) H))
theorem call_tupleZ : CallR X (.type "tuple") (rTupOf X.K) := by
  intro pins s σ H xs us Q I r h
  obtain ⟨p, ys, rfl, h⟩ := h
  obtain ⟨u, rfl, rx⟩ := vals1 r
  cases rx
  rcases h with ⟨hq, q⟩ | ⟨hq, q⟩
  · obtain ⟨its, r', pl, hz⟩ := I.list hq
    have hlen := r'.length
    refine call_tuple_list pl.isList (fun h' kp => ?_) (by simp only [List.size_toArray] <;> omega)
    have I1 : Inv X pins σ H { s with heap := h' } := I.kept (t' := s.toks) kp
    exact ⟨.ref h'.objs.size, _, laidZ I1 r' hz, rfl, q _ _ (I1.hok.fresh (Nat.le_refl _)) rfl⟩
  · obtain ⟨its, r', pl, hz⟩ := I.tuple hq
    exact call_tuple_same pl ⟨.ref p, H, I, rfl, q⟩
theorem dm_tuple (ok : Ok g s k W X) (bf : BF g) (ha : DA g W X [a] na) (hg : gloB s.sc "tuple" = true := by decide +kernel) (hs : starEach [a] X.env = [(false, eval a X.env)] := by rfl) : DM g W X (.Call (.Name "tuple" p) [a] [] pos) (mApp fTuple na) :=
  dm_callT ok call_tupleZ (fun F H xs ds z Q s rx h q => by
    unfold fTuple at h
    split at h <;> cases h <;> obtain ⟨v, rfl, r⟩ := rp1 rx
    · cases r with
      | lst h1 z1 r1 => exact ⟨_, _, rfl, .inl ⟨by rw [ok.hK]; exact (h1.mono s).sq, fun l o nl nd => q (.ref l) _ _ (Grow.laid s nl) (.tup upd_same nd z1 (r1.mono (Sub.new (s.nn nl))))⟩⟩
    · cases r with
      | tup h1 n1 z1 r1 => exact ⟨_, _, rfl, .inr ⟨.inl (.inr ⟨_, s _ _ h1⟩), gz s q (.tup h1 n1 z1 r1)⟩⟩) bf.tuple (by decide +kernel) ha hg (he := hs)

/-! ### isinstance with a built-in class -/
def tyD : D → String
  | .none => "NoneType"
  | .bool _ => "bool"
  | .int _ => "int"
  | .str _ => "str"
  | .list _ => "list"
  | .tuple _ => "tuple"
  | .dict _ => "dict"
theorem ty_of {K : KC} {F H : Hp} {v : V} {d : D} (s : Sub F H) (h : Rp K F v d) (nd : tyD d ≠ "dict") : TyX K.K H v (.type (tyD d)) := by
  cases h with
  | non => exact .base .non
  | bl b => exact .base (.bl b)
  | int i => exact .base (.int i)
  | str x => exact .base (.str x)
  | lst h z r =>
    rcases h.mono s with (h | ⟨o, h⟩) | ⟨its, n, hk, _⟩
    · exact .base (.lst h)
    · exact .base (.frz h)
    · exact .kList hk rfl
  | tup h n z r => exact .fTuple (s _ _ h)
  | dI h e r => exact absurd rfl nd
  | dT h a b c => exact absurd rfl nd
  | exc h m => exact absurd rfl nd
  | fn m => exact absurd rfl nd
def fIsi (T : String) (d : D) : Option D := if tyD d = "dict" then none else (kitB (tyD d) T).map .bool
def mIsi (T : String) (ma : M D) : M D := mUn (fIsi T) ma
theorem dm_isi (ok : Ok g s k W X) (bf : BF g) (T : Str) (t : String) (ht : bootBuiltins T = some (.type t)) (hT : g.mg T = none) (ha : DM g W X a ma) (hg : gloB s.sc "isinstance" = true := by decide +kernel) (hgT : gloB s.sc T = true := by decide +kernel)
    (hn : T ≠ "__name__" := by decide +kernel) (hd : (T == ("__debug__" : Str)) = false := by decide +kernel) {pT : Pos}
    (hs : starEach [a, .Name T pT] X.env = (false, eval a X.env) :: starEach [.Name T pT] X.env := by rfl) (hs2 : (backTo pos (starEach [.Name T pT] X.env)).any (·.1) = false := by rfl) :
    DM g W X (.Call (.Name "isinstance" p) [a, .Name T pT] [] pos) (mIsi t ma) := by
  obtain ⟨ta, pa, sa⟩ := ha
  refine ⟨_, pe_callB call_isi (ok.glo hg) (by rw [ok.hmg]; exact bf.isinstance) (by decide +kernel) (pa_cons pa (pa_cons (pe_bltn (v := .ty t) (ok.glo hgT) (by rw [ok.hmg]; exact hT) ht rfl hn hd) pa_nil) hs) (by decide +kernel) (by decide +kernel) hs hs2, ?_⟩
  intro B F H σ ρ Q E h
  refine sa.then (R := PoE g.K g.mg W B F σ Q) E (fun x ρ' z => z) (fun z => z) h fun d ρ1 v F1 H1 g1 E1 r1 h1 => ?_
  unfold fIsi at h1
  split at h1
  · exact h1.elim
  · rename_i nd
    cases e : kitB (tyD d) t with
    | none => rw [e] at h1; exact h1.elim
    | some b =>
      rw [e] at h1
      exact ⟨_, _, .type (tyD d), .type t, b, rfl, .ty t, by rw [ok.hK]; exact ty_of E1.sub r1 nd, kit_ty e, h1 _ F1 H1 g1 E1 (.bl b)⟩

/-! ### subscripts -/
def fIx : D → D → Option D
  | .list ds, .int i => atI ds i
  | .tuple ds, .int i => atI ds i
  | .str z, .int i => if z.length ≤ sizeLine then (atI z.cps.toList i).map fun c => .str ⟨#[c]⟩ else none
  | _, _ => none
theorem RpA.atI {K : KC} {F : Hp} {vs : List V} {ds : List D} {i : Int} {d : D} (h : RpA K F vs ds) (e : L2.atI ds i = some d) : ∃ v, L2.atI vs i = some v ∧ Rp K F v d := by
  unfold L2.atI at e ⊢
  rw [h.length]
  cases q : ixN ds.length i with
  | none => rw [q] at e; cases e
  | some j => rw [q] at e; exact h.get e
theorem rv_ix {K : KC} : RV2 K (rIx K.K) fIx := by
  intro F H x y d e z Q s rx ry h q
  unfold fIx at h
  split at h
  · cases ry
    cases rx with
    | lst h1 z1 r1 =>
      obtain ⟨v, e1, r2⟩ := r1.atI h
      exact .inl ⟨_, _, _, v, rfl, rfl, (h1.mono s).sq, e1, gz s q r2⟩
  · cases ry
    cases rx with
    | tup h1 n1 z1 r1 =>
      obtain ⟨v, e1, r2⟩ := r1.atI h
      exact .inr (.inl ⟨_, _, _, v, rfl, rfl, .inl (.inr ⟨_, s _ _ h1⟩), e1, gz s q r2⟩)
  · split at h
    · rename_i hz
      cases ry
      cases rx
      rename_i zs i
      cases e : L2.atI zs.cps.toList i with
      | none => rw [e] at h; cases h
      | some c =>
        rw [e] at h; cases h
        exact .inr (.inr ⟨_, _, c, rfl, rfl, hz, e, gz s q (.str _)⟩)
    · cases h
  · cases h
theorem dm_ix (ok : Ok g s k W X) (ha : DM g W X a ma) (hb : DM g W X b mb) (hs : PlainIx b := by exact fun _ _ => rfl) : DM g W X (.Subscript a b pos) (mBin fIx ma mb) := by
  obtain ⟨ta, pa, sa⟩ := ha
  obtain ⟨tb, pb, sb⟩ := hb
  exact ⟨_, pe_ix ix_seq pa pb hs, SimE.bin (by rw [ok.hK]; exact rv_ix) sa sb⟩

/-! ### slices -/
def DO (g : GC) (W : WX) (X : Cx) (e : Option Expr) (m : M (Option Int)) : Prop := ∃ t, PO X e t ∧ ∀ B F H σ ρ (Q : Option Int → Hp → Prop), Env g.K B F H σ ρ →
  (match m ρ with
  | .ok o ρ' => ∀ F' H', Gr B F F' → Env g.K B F' H' σ ρ' → Q o H'
  | .exc x ρ' => ∀ C F' H', g.mg x = some (.ref C) → Gr B F F' → Env g.K B F' H' σ ρ' → W (.ref C) none σ H'
  | .bad => False) → t σ H Q
def oNo : M (Option Int) := fun ρ => .ok none ρ
def oSome (m : M D) : M (Option Int) := fun ρ => bnd (m ρ) fun d ρ1 => match d with
  | .int i => .ok (some i) ρ1
  | _ => .bad
theorem do_none : DO g W X none oNo := ⟨_, po_none, fun B F H σ ρ Q E h => h F H Gr.refl E⟩
theorem do_some (ha : DM g W X a ma) : DO g W X (some a) (oSome ma) := by
  obtain ⟨t, pt, st⟩ := ha
  refine ⟨_, po_some pt, fun B F H σ ρ Q E h => ?_⟩
  refine st B F H σ ρ _ E ?_
  unfold oSome at h
  cases e : ma ρ with
  | ok d ρ1 =>
    rw [e] at h
    intro v F' H' g' E' r
    cases r <;> first
      | exact False.elim h
      | exact ⟨_, rfl, h F' H' g' E'⟩
  | exc x ρ1 => rw [e] at h; exact h
  | bad => rw [e] at h; exact h
def cutD (ds : List D) (lo hi : Option Int) : List D := (ds.drop (HT.sIx ds.length 0 lo)).take (HT.sIx ds.length ds.length hi - HT.sIx ds.length 0 lo)
def fSl : D → Option Int → Option Int → Option D
  | .list ds, lo, hi => some (.list (cutD ds lo hi))
  | .tuple ds, lo, hi => some (.tuple (cutD ds lo hi))
  | .str z, lo, hi => if z.length ≤ sizeLine then some (.str (cutS z lo hi)) else none
  | _, _, _ => none
def mSl (ma : M D) (ml mh : M (Option Int)) : M D := fun ρ => bnd (ma ρ) fun d ρ1 => bnd (ml ρ1) fun lo ρ2 => bnd (mh ρ2) fun hi ρ3 => lft (fSl d lo hi) ρ3
theorem RpA.cut {K : KC} {F : Hp} {vs : List V} {ds : List D} (h : RpA K F vs ds) (lo hi : Option Int) : RpA K F (cutV vs lo hi) (cutD ds lo hi) := by
  unfold cutV cutD
  rw [h.length]
  exact (h.drop _).take _
theorem cut_whole {K : KC} {F : Hp} {vs : List V} {ds : List D} {lo hi : Option Int} (h : RpA K F vs ds) (hw : HT.sIx vs.length 0 lo = 0 ∧ HT.sIx vs.length vs.length hi = vs.length) : cutD ds lo hi = ds := by
  unfold cutD
  rw [← h.length, hw.1, hw.2]
  simp [h.length]
theorem cutD_length (xs : List D) (lo hi : Option Int) : (cutD xs lo hi).length ≤ xs.length := by
  unfold cutD
  rw [List.length_take, List.length_drop]
  omega
def rSlZ (K : PySem.W.Frag) : V → Option Int → Option Int → Hp → VK → Prop := fun x lo hi H Q => ∃ a xs, x = .ref a ∧ SqT K H a xs ∧
  (HT.sIx xs.length 0 lo = 0 ∧ HT.sIx xs.length xs.length hi = xs.length → Q (.ref a) H) ∧ (¬ (HT.sIx xs.length 0 lo = 0 ∧ HT.sIx xs.length xs.length hi = xs.length) → ∀ p o, H p = none → o.dict = none → Q (.ref p) (upd H p (.frz o (.tup (cutV xs lo hi)))))
theorem sl_tupZ : SlR X (rSlZ X.K) := by
  intro pins s σ H x v vl vu lo hi sl Q I rx hs pl pu h
  obtain ⟨a, xs, rfl, hx, q1, q2⟩ := h
  cases rx
  obtain ⟨its, r, ht, hz⟩ := I.tuple hx
  have hlen : its.toArray.size = xs.length := by rw [List.size_toArray]; exact r.length.symm
  refine ⟨"tuple", _, PyProof.Rows.slot_tuple_getitem.lookup, ht.typeIs, ?_⟩
  by_cases hw : HT.sIx xs.length 0 lo = 0 ∧ HT.sIx xs.length xs.length hi = xs.length
  · exact getItem_tuple_whole ht hs pl pu (by rw [hlen]; exact hw) ⟨.ref a, H, I, rfl, q1 hw⟩
  · refine HT.getItem_tuple_cut ht hs pl pu (by rw [hlen]; exact hw) ?_ (by rw [hlen]; exact hz)
    rw [hlen]
    exact ⟨.ref s.heap.objs.size, _, laidZ I ((r.drop (HT.sIx xs.length 0 lo)).take (HT.sIx xs.length xs.length hi - HT.sIx xs.length 0 lo)) (Nat.le_trans (cutV_length xs lo hi) hz), rfl, q2 hw _ _ (I.hok.fresh (Nat.le_refl _)) rfl⟩
theorem dm_sl (ok : Ok g s k W X) {lo hi : Option Expr} {ml mh : M (Option Int)} {p2 : Pos} (ha : DM g W X a ma) (hl : DO g W X lo ml) (hh : DO g W X hi mh) : DM g W X (.Subscript a (.Slice lo hi none p2) pos) (mSl ma ml mh) := by
  obtain ⟨ta, pa, sa⟩ := ha
  obtain ⟨tl, pl, sl⟩ := hl
  obtain ⟨th, ph, sh⟩ := hh
  refine ⟨_, pe_slice (sl_list.or (sl_tupZ.or sl_str)) pa pl ph, fun B F H σ ρ Q E h => ?_⟩
  refine sa.then (R := PoE g.K g.mg W B F σ Q) E (fun x ρ' z => z) (fun z => z) h fun d ρ1 v F1 H1 g1 E1 r1 h1 => ?_
  refine sl B F1 H1 σ ρ1 _ E1 ?_
  have h1 := PoE.later g1 h1
  cases el : ml ρ1 with
  | bad => rw [el] at h1; exact h1
  | exc x ρ2 => rw [el] at h1; exact h1
  | ok lo' ρ2 =>
  rw [el] at h1
  intro F2 H2 g2 E2
  refine sh B F2 H2 σ ρ2 _ E2 ?_
  have h2 := PoE.later g2 h1
  cases eh : mh ρ2 with
  | bad => simp only [bnd_ok, eh] at h2; exact h2
  | exc x ρ3 => simp only [bnd_ok, eh] at h2; exact h2
  | ok hi' ρ3 =>
  simp only [bnd_ok, eh] at h2
  intro F3 H3 g3 E3
  have h3 := PoE.later g3 h2
  have r3 := (r1.mono g2.sub).mono g3.sub
  cases ez : fSl d lo' hi' with
  | none => rw [ez] at h3; exact h3.elim
  | some z =>
  rw [ez] at h3
  unfold fSl at ez
  split at ez
  · cases ez
    cases r3 with
    | lst a1 z1 r4 =>
    rename_i ad xs
    refine .inl ⟨_, _, rfl, by rw [ok.hK]; exact (a1.mono E3.sub).sq, fun p np => ?_⟩
    have gw : Grow F3 H3 (upd F3 p (.lst (cutV xs lo' hi'))) (upd H3 p (.lst (cutV xs lo' hi'))) := Grow.laid E3.sub np
    exact h3 (.ref p) _ _ (gw.gr E3.subB) (E3.grow gw) (.lst (.inl (.inl upd_same)) (Nat.le_trans (cutV_length _ _ _) z1) ((r4.cut lo' hi').mono gw.subF))
  · cases ez
    cases r3 with
    | tup a1 n1 z1 r4 =>
    rename_i ad ob xs
    refine .inr (.inl ⟨_, _, rfl, .inl (.inr ⟨_, E3.sub _ _ a1⟩), fun hw => ?_, fun hw p o np nd => ?_⟩)
    · refine h3 _ F3 H3 Gr.refl E3 ?_
      rw [cut_whole r4 hw]
      exact .tup a1 n1 z1 r4
    · have gw : Grow F3 H3 (upd F3 p (.frz o (.tup (cutV xs lo' hi')))) (upd H3 p (.frz o (.tup (cutV xs lo' hi')))) := Grow.laid E3.sub np
      exact h3 (.ref p) _ _ (gw.gr E3.subB) (E3.grow gw) (.tup upd_same nd (Nat.le_trans (cutV_length _ _ _) z1) ((r4.cut lo' hi').mono gw.subF))
  · split at ez
    · cases ez
      cases r3
      exact .inr (.inr ⟨_, rfl, by assumption, h3 _ F3 H3 Gr.refl E3 (.str _)⟩)
    · cases ez
  · cases ez
end
end DX

set_option maxHeartbeats 1000000
namespace DX
open PySem PySem.Spec PyProof.Rows L2

inductive SR where
  | next (ρ : Rho)
  | ret (d : D) (ρ : Rho)
  | brk (ρ : Rho)
  | cont (ρ : Rho)
  | exc (s : Str) (ρ : Rho)
  | bad
abbrev MS := Rho → SR
/-- slots that stay -/
def Kp (pin : List Nat) (σ σ' : L2.St) : Prop := σ'.length = σ.length ∧ ∀ i ∈ pin, σ'[i]? = σ[i]?
theorem Kp.refl {pin : List Nat} {σ : L2.St} : Kp pin σ σ := ⟨rfl, fun _ _ => rfl⟩
theorem Kp.trans {pin : List Nat} {σ σ1 σ2 : L2.St} (a : Kp pin σ σ1) (b : Kp pin σ1 σ2) : Kp pin σ σ2 := ⟨b.1.trans a.1, fun i h => (b.2 i h).trans (a.2 i h)⟩
theorem Kp.set {pin : List Nat} {σ : L2.St} {i : Nat} {v : Option V} (h : i ∉ pin) : Kp pin σ (σ.set i v) := ⟨List.length_set, fun j hj => List.getElem?_set_ne (fun (e : i = j) => h (by rw [e]; exact hj))⟩

def PoS (K : KC) (mg : Str → Option Value) (W : WX) (pin : List Nat) (B F : Hp) (σ : L2.St) (D : Ends) : SR → Prop
  | .next ρ' => ∀ F' H' σ', Gr B F F' → Kp pin σ σ' → Env K B F' H' σ' ρ' → D.nx σ' H'
  | .brk ρ' => ∀ F' H' σ', Gr B F F' → Kp pin σ σ' → Env K B F' H' σ' ρ' → D.bk σ' H'
  | .cont ρ' => ∀ F' H' σ', Gr B F F' → Kp pin σ σ' → Env K B F' H' σ' ρ' → D.ct σ' H'
  | .ret d ρ' => ∀ v F' H' σ', Gr B F F' → Kp pin σ σ' → Env K B F' H' σ' ρ' → Rp K F' v d → D.rt v H'
  | .exc x ρ' => ∀ C F' H' σ', mg x = some (.ref C) → Gr B F F' → Kp pin σ σ' → Env K B F' H' σ' ρ' → W (.ref C) none σ' H'
  | .bad => False
def SimS (K : KC) (mg : Str → Option Value) (W : WX) (pin : List Nat) (t : TS) (m : MS) : Prop := ∀ B F H σ ρ D, Env K B F H σ ρ → PoS K mg W pin B F σ D (m ρ) → t D σ H
theorem PoS.later {K : KC} {mg : Str → Option Value} {W : WX} {pin : List Nat} {B F F1 : Hp} {σ σ1 : L2.St} {D : Ends} {r : SR} (g : Gr B F F1) (kp : Kp pin σ σ1) (h : PoS K mg W pin B F σ D r) : PoS K mg W pin B F1 σ1 D r := by
  cases r with
  | next ρ => exact fun F' H' σ' g' k' E => h F' H' σ' (g.trans g') (kp.trans k') E
  | brk ρ => exact fun F' H' σ' g' k' E => h F' H' σ' (g.trans g') (kp.trans k') E
  | cont ρ => exact fun F' H' σ' g' k' E => h F' H' σ' (g.trans g') (kp.trans k') E
  | ret d ρ => exact fun v F' H' σ' g' k' E r => h v F' H' σ' (g.trans g') (kp.trans k') E r
  | exc x ρ => exact fun C F' H' σ' e g' k' E => h C F' H' σ' e (g.trans g') (kp.trans k') E
  | bad => exact h

def DS (g : GC) (W : WX) (pin : List Nat) (X : Cx) (st : Stmt) (m : MS) : Prop := ∃ t, PS X st t ∧ SimS g.K g.mg W pin t m
def DSs (g : GC) (W : WX) (pin : List Nat) (X : Cx) (st : List Stmt) (m : MS) : Prop := ∃ t, PSs X st t ∧ SimS g.K g.mg W pin t m

/-- go on with an expression's value -/
def sBnd {α : Type} (m : MR α) (f : α → Rho → SR) : SR := match m with
  | .ok a ρ => f a ρ
  | .exc s ρ => .exc s ρ
  | .bad => .bad
@[simp] theorem sBnd_ok {α : Type} (a : α) (ρ : Rho) (f : α → Rho → SR) : sBnd (.ok a ρ) f = f a ρ := rfl
@[simp] theorem sBnd_exc {α : Type} (s : Str) (ρ : Rho) (f : α → Rho → SR) : sBnd (.exc s ρ : MR α) f = .exc s ρ := rfl
@[simp] theorem sBnd_bad {α : Type} (f : α → Rho → SR) : sBnd (.bad : MR α) f = .bad := rfl
section
variable {K : KC} {mg : Str → Option Value} {W : WX} {pin : List Nat}
theorem SimE.thenS {t : TE} {m : M D} (h : SimE K mg W t m) {B F H : Hp} {σ : L2.St} {ρ : Rho} {Dn : Ends} {Q : VK} {f : D → Rho → SR} (E : Env K B F H σ ρ)
    (hR : PoS K mg W pin B F σ Dn (sBnd (m ρ) f)) (go : ∀ d ρ1 v F1 H1, Gr B F F1 → Env K B F1 H1 σ ρ1 → Rp K F1 v d → PoS K mg W pin B F1 σ Dn (f d ρ1) → Q v H1) : t σ H Q := by
  refine h B F H σ ρ Q E ?_
  cases e : m ρ with
  | ok d ρ1 => rw [e] at hR; exact fun v F1 H1 g1 E1 r1 => go d ρ1 v F1 H1 g1 E1 r1 (PoS.later g1 Kp.refl hR)
  | exc x ρ1 => rw [e] at hR; exact fun C F' H' e g' E' => hR C F' H' σ e g' Kp.refl E'
  | bad => rw [e] at hR; exact hR
theorem SimL.thenS {t : TE} {m : M Ob} (h : SimL K mg W t m) {B F H : Hp} {σ : L2.St} {ρ : Rho} {Dn : Ends} {Q : VK} {f : Ob → Rho → SR} (E : Env K B F H σ ρ)
    (hR : PoS K mg W pin B F σ Dn (sBnd (m ρ) f)) (go : ∀ o ρ1 q F1 H1, Gr B F F1 → Env K B F1 H1 σ ρ1 → F1 q = none → B q = none → OR K F1 H1 q o → (∀ (i : Nat) (o' : Ob), ρ1[i]? = some (.own o') → σ[i]? = some (some (.ref q)) → False) → PoS K mg W pin B F1 σ Dn (f o ρ1) → Q (.ref q) H1) : t σ H Q := by
  refine h B F H σ ρ Q E ?_
  cases e : m ρ with
  | ok d ρ1 => rw [e] at hR; exact fun q F1 H1 g1 E1 a1 a2 a3 a4 => go d ρ1 q F1 H1 g1 E1 a1 a2 a3 a4 (PoS.later g1 Kp.refl hR)
  | exc x ρ1 => rw [e] at hR; exact fun C F' H' e g' E' => hR C F' H' σ e g' Kp.refl E'
  | bad => rw [e] at hR; exact hR
theorem SimT.thenS {t : TT} {m : M Bool} (h : SimT K mg W t m) {B F H : Hp} {σ : L2.St} {ρ : Rho} {Dn : Ends} {Q : Bool → Hp → Prop} {f : Bool → Rho → SR} (E : Env K B F H σ ρ)
    (hR : PoS K mg W pin B F σ Dn (sBnd (m ρ) f)) (go : ∀ b ρ1 F1 H1, Gr B F F1 → Env K B F1 H1 σ ρ1 → PoS K mg W pin B F1 σ Dn (f b ρ1) → Q b H1) : t σ H Q := by
  refine h B F H σ ρ Q E ?_
  cases e : m ρ with
  | ok d ρ1 => rw [e] at hR; exact fun F1 H1 g1 E1 => go d ρ1 F1 H1 g1 E1 (PoS.later g1 Kp.refl hR)
  | exc x ρ1 => rw [e] at hR; exact fun C F' H' e g' E' => hR C F' H' σ e g' Kp.refl E'
  | bad => rw [e] at hR; exact hR
end

/-! ### blocks, if, return, assignment -/
def sNext : MS := fun ρ => .next ρ
def sSeq (a b : MS) : MS := fun ρ => match a ρ with
  | .next ρ1 => b ρ1
  | r => r
def sIf (c : M Bool) (a b : MS) : MS := fun ρ => sBnd (c ρ) fun k ρ1 => match k with
  | true => a ρ1
  | false => b ρ1
def sRet (m : M D) : MS := fun ρ => sBnd (m ρ) fun d ρ1 => .ret d ρ1
def sRetN : MS := fun ρ => .ret .none ρ
def sSet (i : Nat) (m : M D) : MS := fun ρ => sBnd (m ρ) fun d ρ1 => .next (ρ1.set i (.val d))
def sSetL (i : Nat) (m : M Ob) : MS := fun ρ => sBnd (m ρ) fun o ρ1 => .next (ρ1.set i (.own o))
def sDrop (m : M D) : MS := fun ρ => sBnd (m ρ) fun _ ρ1 => .next ρ1
def sBrk : MS := fun ρ => .brk ρ
def sCont : MS := fun ρ => .cont ρ
section
variable {g : GC} {s : SS} {k : Nat} {W : WX} {pin : List Nat} {X : Cx} {pos : Pos} {a b c e : Expr} {st : Stmt} {rest : List Stmt} {m m1 m2 : MS} {ma : M D} {mo : M Ob} {mt : M Bool}
theorem dss_nil : DSs g W pin X [] sNext := ⟨_, pss_nil, fun B F H σ ρ D E h => h F H σ Gr.refl Kp.refl E⟩
theorem dss_cons (h1 : DS g W pin X st m1) (h2 : DSs g W pin X rest m2) : DSs g W pin X (st :: rest) (sSeq m1 m2) := by
  obtain ⟨t1, p1, s1⟩ := h1
  obtain ⟨t2, p2, s2⟩ := h2
  refine ⟨_, pss_cons p1 p2, fun B F H σ ρ D E h => ?_⟩
  refine s1 B F H σ ρ { D with nx := t2 D } E ?_
  unfold sSeq at h
  cases e : m1 ρ with
  | next ρ1 => rw [e] at h; exact fun F' H' σ' g' k' E' => s2 B F' H' σ' ρ1 D E' (PoS.later g' k' h)
  | brk ρ1 => rw [e] at h; exact h
  | cont ρ1 => rw [e] at h; exact h
  | ret d ρ1 => rw [e] at h; exact h
  | exc x ρ1 => rw [e] at h; exact h
  | bad => rw [e] at h; exact h
theorem dss_one (h1 : DS g W pin X st m1) : DSs g W pin X [st] m1 := by
  obtain ⟨t1, p1, s1⟩ := h1
  exact ⟨_, pss_one p1, s1⟩
theorem ds_if {as bs : List Stmt} (hc : DT g W X c mt) (ha : DSs g W pin X as m1) (hb : DSs g W pin X bs m2) : DS g W pin X (.If c as bs pos) (sIf mt m1 m2) := by
  obtain ⟨tc, pc, sc⟩ := hc
  obtain ⟨t1, p1, s1⟩ := ha
  obtain ⟨t2, p2, s2⟩ := hb
  refine ⟨_, ps_if pc p1 p2, fun B F H σ ρ D E h => ?_⟩
  refine sc.thenS E h fun b ρ1 F1 H1 g1 E1 h1 => ?_
  cases b with
  | true => show (if true = true then _ else _); rw [if_pos rfl]; exact s1 B F1 H1 σ ρ1 D E1 h1
  | false => show (if false = true then _ else _); rw [if_neg (by decide)]; exact s2 B F1 H1 σ ρ1 D E1 h1
theorem ds_ret (h : DM g W X e ma) : DS g W pin X (.Return (some e) pos) (sRet ma) := by
  obtain ⟨t, p, q⟩ := h
  refine ⟨_, ps_ret p, fun B F H σ ρ D E h => ?_⟩
  exact q.thenS E h fun d ρ1 v F1 H1 g1 E1 r1 h1 => h1 v F1 H1 σ Gr.refl Kp.refl E1 r1
theorem ds_retN : DS g W pin X (.Return none pos) sRetN := ⟨_, ps_retN, fun B F H σ ρ D E h => h .non F H σ Gr.refl Kp.refl E .non⟩
theorem ds_pass : DS g W pin X (.Pass pos) sNext := ⟨_, ps_pass, fun B F H σ ρ D E h => h F H σ Gr.refl Kp.refl E⟩
theorem ds_brk : DS g W pin X (.Break pos) sBrk := ⟨_, ps_break, fun B F H σ ρ D E h => h F H σ Gr.refl Kp.refl E⟩
theorem ds_cont : DS g W pin X (.Continue pos) sCont := ⟨_, ps_continue, fun B F H σ ρ D E h => h F H σ Gr.refl Kp.refl E⟩
theorem ds_expr (h : DM g W X e ma) (hs : swapsWith e none pos.line X.env = pure false := by rfl) : DS g W pin X (.Expr e pos) (sDrop ma) := by
  obtain ⟨t, p, q⟩ := h
  refine ⟨_, ps_expr p hs, fun B F H σ ρ D E h => ?_⟩
  exact q.thenS E h fun d ρ1 v F1 H1 g1 E1 r1 h1 => h1 F1 H1 σ Gr.refl Kp.refl E1
theorem ds_set (ok : Ok g s k W X) (i : Nat) {x : Str} {pos' : Pos} (h : DM g W X e ma) (hN : s.N[i]? = some x := by rfl) (hl : locB s x = true := by decide +kernel) (hp : i ∉ pin := by decide)
    (hs : swapsWith e (some (.Name x pos')) pos.line X.env = pure false := by rfl) : DS g W pin X (.Assign [.Name x pos'] e pos) (sSet i ma) := by
  obtain ⟨t, p, q⟩ := h
  refine ⟨_, ps_set ok.ndX (ok.at hN) (ok.loc hl).1 p hs (ok.loc hl).2, fun B F H σ ρ D E h => ?_⟩
  exact q.thenS E h fun d ρ1 v F1 H1 g1 E1 r1 h1 => h1 F1 H1 _ Gr.refl (Kp.set hp) (E1.setVal r1)
theorem ds_setL (ok : Ok g s k W X) (i : Nat) {x : Str} {pos' : Pos} (h : DL g W X e mo) (hN : s.N[i]? = some x := by rfl) (hl : locB s x = true := by decide +kernel) (hp : i ∉ pin := by decide)
    (hs : swapsWith e (some (.Name x pos')) pos.line X.env = pure false := by rfl) : DS g W pin X (.Assign [.Name x pos'] e pos) (sSetL i mo) := by
  obtain ⟨t, p, q⟩ := h
  refine ⟨_, ps_set ok.ndX (ok.at hN) (ok.loc hl).1 p hs (ok.loc hl).2, fun B F H σ ρ D E h => ?_⟩
  exact q.thenS E h fun o ρ1 q F1 H1 g1 E1 a1 a2 a3 a4 h1 => h1 F1 H1 _ Gr.refl (Kp.set hp) (E1.setOwn a3 a1 a2 fun j o' _ => a4 j o')
end

/-! ### targets -/
/-- an item of a walk: data, or (lo) a tuple that is new and taken apart at once -/
def Item (lo : Bool) (K : KC) (F H : Hp) (v : V) (x : D) : Prop := Rp K F v x ∨ (lo = true ∧ ∃ T xs ds, v = .ref T ∧ H T = some (.tup xs) ∧ RpA K F xs ds ∧ x = .tuple ds)
def DG (lo : Bool) (g : GC) (pin : List Nat) (X : Cx) (tg : Expr) (gs : D → Rho → Option Rho) : Prop := ∃ t, PG X tg t ∧ ∀ B F H σ ρ v x (Q : L2.St → Hp → Prop), Env g.K B F H σ ρ → Item lo g.K F H v x →
  (match gs x ρ with
  | some ρ' => ∀ σ', Kp pin σ σ' → Env g.K B F H σ' ρ' → Q σ' H
  | none => False) → t v σ H Q
def DGs (g : GC) (pin : List Nat) (X : Cx) (tgs : List Expr) (gs : List D → Rho → Option Rho) : Prop := ∃ t, PGs X tgs t ∧ ∀ B F H σ ρ vs xs (Q : L2.St → Hp → Prop), Env g.K B F H σ ρ → RpA g.K F vs xs →
  (match gs xs ρ with
  | some ρ' => ∀ σ', Kp pin σ σ' → Env g.K B F H σ' ρ' → Q σ' H
  | none => False) → t vs σ H Q
def gSet (i : Nat) : D → Rho → Option Rho := fun d ρ => some (ρ.set i (.val d))
def gsNil : List D → Rho → Option Rho := fun ds ρ => match ds with
  | [] => some ρ
  | _ => none
def gsCons (f : D → Rho → Option Rho) (r : List D → Rho → Option Rho) : List D → Rho → Option Rho := fun ds ρ => match ds with
  | d :: ds => (match f d ρ with
    | some ρ1 => r ds ρ1
    | none => none)
  | _ => none
def gTupD (r : List D → Rho → Option Rho) : D → Rho → Option Rho := fun d ρ => match d with
  | .tuple ds => r ds ρ
  | _ => none
section
variable {g : GC} {s : SS} {k : Nat} {W : WX} {pin : List Nat} {X : Cx} {pos : Pos} {lo : Bool}
theorem dg_name (ok : Ok g s k W X) (i : Nat) {x : Str} (hN : s.N[i]? = some x := by rfl) (hl : locB s x = true := by decide +kernel) (hp : i ∉ pin := by decide) : DG false g pin X (.Name x pos) (gSet i) := by
  refine ⟨_, pg_name ok.ndX (ok.at hN) (ok.loc hl).1 (ok.loc hl).2, fun B F H σ ρ v x Q E it h => ?_⟩
  rcases it with r | ⟨z, _⟩
  · exact h _ (Kp.set hp) (E.setVal r)
  · cases z
theorem dgs_nil : DGs g pin X [] gsNil := ⟨_, pgs_nil, fun B F H σ ρ vs xs Q E r h => by
  cases r with
  | nil => exact ⟨rfl, h σ Kp.refl E⟩
  | cons _ _ => exact h.elim⟩
theorem dgs_cons {e : Expr} {es : List Expr} {f : D → Rho → Option Rho} {r : List D → Rho → Option Rho} (h1 : DG false g pin X e f) (h2 : DGs g pin X es r)
    (hs : (assignEach (e :: es) X.env).map (·.2) = assign e X.env :: (assignEach es X.env).map (·.2) := by rfl) : DGs g pin X (e :: es) (gsCons f r) := by
  obtain ⟨t1, p1, s1⟩ := h1
  obtain ⟨t2, p2, s2⟩ := h2
  refine ⟨_, pgs_cons p1 p2 hs, fun B F H σ ρ vs xs Q E rr h => ?_⟩
  cases rr with
  | nil => exact h.elim
  | cons r1 rr =>
    rename_i v vs d ds
    refine ⟨v, vs, rfl, s1 B F H σ ρ v d _ E (.inl r1) ?_⟩
    simp only [gsCons] at h
    cases ef : f d ρ with
    | none => rw [ef] at h; exact h.elim
    | some ρ1 =>
      rw [ef] at h
      intro σ1 k1 E1
      refine s2 B F H σ1 ρ1 vs ds Q E1 rr ?_
      simp only at h
      cases er : r ds ρ1 with
      | none => rw [er] at h; exact h.elim
      | some ρ2 => rw [er] at h; exact fun σ' k' E' => h σ' (k1.trans k') E'
theorem dg_tup (ok : Ok g s k W X) {es : List Expr} {kk : Nat} {r : List D → Rho → Option Rho} {n : Nat} (h : DGs g pin X es r) (hl : ∀ ds ρ ρ', r ds ρ = some ρ' → ds.length = n)
    (hn : (assignEach es X.env).length = n := by rfl) (hst : (assignEach es X.env).findIdx? (·.1) = none := by rfl) : DG lo g pin X (.Tuple es kk pos) (gTupD r) := by
  obtain ⟨t, p, q⟩ := h
  refine ⟨_, pg_tup ok.calm p hn hst, fun B F H σ ρ v x Q E it h => ?_⟩
  have fin : ∀ {T : Addr} {xs : List V} {ds : List D}, SqT X.K H T xs → RpA g.K F xs ds → (match r ds ρ with | some ρ' => ∀ σ', Kp pin σ σ' → Env g.K B F H σ' ρ' → Q σ' H | none => False) →
      ∃ a xs, (V.ref T) = .ref a ∧ SqT X.K H a xs ∧ xs.length = n ∧ t xs σ H Q := fun {T xs ds} hq rr h => by
    cases er : r ds ρ with
    | none => rw [er] at h; exact h.elim
    | some ρ' => exact ⟨T, xs, rfl, hq, by rw [rr.length]; exact hl ds ρ ρ' er, q B F H σ ρ xs ds Q E rr h⟩
  rcases it with r0 | ⟨_, T, xs, ds, rfl, hT, rr, rfl⟩
  · unfold gTupD at h
    cases r0 <;> first
      | exact False.elim h
      | skip
    rename_i h1 n1 z1 r1
    exact fin (.inl (.inr ⟨_, E.sub _ _ h1⟩)) r1 h
  · exact fin (.inl (.inl hT)) rr h
theorem gsNil_len {ds : List D} {ρ ρ' : Rho} (h : gsNil ds ρ = some ρ') : ds.length = 0 := by
  cases ds with
  | nil => rfl
  | cons _ _ => cases h
theorem gsCons_len {f : D → Rho → Option Rho} {r : List D → Rho → Option Rho} {n : Nat} (hr : ∀ ds ρ ρ', r ds ρ = some ρ' → ds.length = n) : ∀ ds ρ ρ', gsCons f r ds ρ = some ρ' → ds.length = n + 1 := fun ds ρ ρ' h => by
  unfold gsCons at h
  cases ds with
  | nil => cases h
  | cons d ds =>
    simp only at h
    cases ef : f d ρ with
    | none => rw [ef] at h; cases h
    | some ρ1 => rw [ef] at h; simp [hr ds ρ1 ρ' h]
/-- target = value, the value a tuple taken apart -/
def sUnp (m : M D) (gs : D → Rho → Option Rho) : MS := fun ρ => sBnd (m ρ) fun d ρ1 => match gs d ρ1 with
  | some ρ2 => .next ρ2
  | none => .bad
theorem ds_unp {tg e : Expr} {ma : M D} {gs : D → Rho → Option Rho} (he : DM g W X e ma) (hg : DG false g pin X tg gs) (hs : swapsWithSole [tg] e pos.line X.env = pure false := by rfl) (hw : swappedStores [tg] e X.env = pure none := by rfl)
    (h1 : (assignEach [tg] X.env).map (·.2) = [assign tg X.env] := by rfl) : DS g W pin X (.Assign [tg] e pos) (sUnp ma gs) := by
  obtain ⟨t, p, q⟩ := he
  obtain ⟨t2, p2, q2⟩ := hg
  refine ⟨_, ps_asg p p2 hs hw h1, fun B F H σ ρ D E h => ?_⟩
  refine q.thenS E h fun d ρ1 v F1 H1 g1 E1 r1 h1 => ?_
  refine q2 B F1 H1 σ ρ1 v d _ E1 (.inl r1) ?_
  cases eg : gs d ρ1 with
  | none => rw [eg] at h1; exact h1
  | some ρ2 => rw [eg] at h1; exact fun σ' k' E' => h1 F1 H1 σ' Gr.refl k' E'
/-- a, b = x, y of plain locals: stored from the right -/
def sPar (i j : Nat) (ma : M (List D)) : MS := fun ρ => sBnd (ma ρ) fun ds ρ1 => match ds with
  | [x, y] => .next ((ρ1.set i (.val x)).set j (.val y))
  | _ => .bad
def isLocal (sc : Scope) (x : Str) : Bool := match sc.names.lookup x with
  | some .local => true
  | _ => false
theorem isLocal_of {sc : Scope} {x : Str} (h : isLocal sc x = true) : sc.names.lookup x = some .local := by
  unfold isLocal at h
  split at h
  · assumption
  · cases h
theorem ds_par (ok : Ok g s k W X) (i j : Nat) {x y : Str} {a b : Expr} {ma : M (List D)} {px py pt pt2 : Pos} {kt k2 : Nat} (ha : DA g W X [a, b] ma) (hi : s.N[i]? = some x := by rfl) (hj : s.N[j]? = some y := by rfl) (hij : i ≠ j := by decide)
    (hx : isLocal s.sc x = true := by decide +kernel) (hy : isLocal s.sc y = true := by decide +kernel) (hp : i ∉ pin := by decide) (hp2 : j ∉ pin := by decide)
    (hw : swappedStores [.Tuple [.Name x px, .Name y py] kt pt] (.Tuple [a, b] k2 pt2) X.env = pure (some [x, y]) := by rfl)
    (hs : swapsWithSole [.Tuple [.Name x px, .Name y py] kt pt] (.Tuple [a, b] k2 pt2) pos.line X.env = pure false := by rfl) : DS g W pin X (.Assign [.Tuple [.Name x px, .Name y py] kt pt] (.Tuple [a, b] k2 pt2) pos) (sPar i j ma) := by
  obtain ⟨t, p, q⟩ := ha
  refine ⟨_, ps_par ok.calm ok.ndX (ok.at hi) (ok.at hj) hij (by rw [ok.hsc]; exact isLocal_of hx) (by rw [ok.hsc]; exact isLocal_of hy) p hw hs, fun B F H σ ρ D E h => ?_⟩
  refine q B F H σ ρ _ E ?_
  unfold sPar at h
  cases e : ma ρ with
  | bad => rw [e] at h; exact h
  | exc x ρ1 => rw [e] at h; exact fun C F' H' e g' E' => h C F' H' σ e g' Kp.refl E'
  | ok ds ρ1 =>
    rw [e] at h
    intro vs F1 H1 g1 E1 r1
    simp only [sBnd_ok] at h
    split at h
    · obtain ⟨v, w, rfl, r2, r3⟩ := rp2 r1
      exact ⟨v, w, rfl, h F1 H1 _ g1 ((Kp.set hp).trans (Kp.set hp2)) ((E1.setVal r2).setVal r3)⟩
    · exact h.elim
end

/-! ### for -/
def ItR (lo : Bool) (K : KC) (F : Hp) (J : It) (xs : List D) : Prop := ∀ F' H', Sub F F' → Sub F' H' → J.stop xs.length H' ∧ ∀ (i : Nat) (x : D), xs[i]? = some x → J.go i H' ∧ ∀ v H'', J.yld i H' v H'' → ∃ F'', Grow F' H' F'' H'' ∧ Item lo K F'' H'' v x
def DI (lo : Bool) (g : GC) (W : WX) (X : Cx) (tg iter : Expr) (mi : M (List D)) : Prop := ∃ wi, PI X tg iter wi ∧ ∀ B F H σ ρ (R : It → Hp → Prop), Env g.K B F H σ ρ →
  (match mi ρ with
  | .ok xs ρ' => ∀ J F' H', Gr B F F' → Env g.K B F' H' σ ρ' → ItR lo g.K F' J xs → R J H'
  | .exc x ρ' => ∀ C F' H', g.mg x = some (.ref C) → Gr B F F' → Env g.K B F' H' σ ρ' → W (.ref C) none σ H'
  | .bad => False) → wi σ H R
def forL (gs : D → Rho → Option Rho) (body : MS) : List D → Rho → SR
  | [], ρ => .next ρ
  | x :: xs, ρ => match gs x ρ with
    | none => .bad
    | some ρ1 => match body ρ1 with
      | .next ρ2 => forL gs body xs ρ2
      | .cont ρ2 => forL gs body xs ρ2
      | .brk ρ2 => .next ρ2
      | r => r
def sFor (mi : M (List D)) (gs : D → Rho → Option Rho) (body : MS) : MS := fun ρ => sBnd (mi ρ) fun xs ρ1 => forL gs body xs ρ1
section
variable {g : GC} {s : SS} {k : Nat} {W : WX} {pin : List Nat} {X : Cx} {pos : Pos} {lo : Bool}
theorem Item.grow {K : KC} {F H F' H' : Hp} {v : V} {x : D} (h : Item lo K F H v x) (g : Grow F H F' H') : Item lo K F' H' v x := by
  rcases h with h | ⟨a, T, xs, ds, e, hT, r, ex⟩
  · exact .inl (h.mono g.subF)
  · exact .inr ⟨a, T, xs, ds, e, g.subH _ _ hT, r.mono g.subF, ex⟩
theorem ds_for (ok : Ok g s k W X) {tg iter : Expr} {body : List Stmt} {mi : M (List D)} {gs : D → Rho → Option Rho} {mb : MS} (hi : DI lo g W X tg iter mi) (hg : DG lo g pin X tg gs) (hb : DSs g W pin X body mb)
    (hs : ∀ x, foldedSetIterable iter X.env x = pure x := by intro _; rfl) : DS g W pin X (.For tg iter body [] pos) (sFor mi gs mb) := by
  obtain ⟨wi, pi, si⟩ := hi
  obtain ⟨tg', pg, sg⟩ := hg
  obtain ⟨tb, pb, sb⟩ := hb
  refine ⟨_, ps_for ok.po ok.calm pi pg pb hs, fun B F H σ ρ D E h => ?_⟩
  refine si B F H σ ρ _ E ?_
  unfold sFor at h
  cases ei : mi ρ with
  | bad => rw [ei] at h; exact h
  | exc x ρ1 => rw [ei] at h; exact fun C F' H' e g' E' => h C F' H' σ e g' Kp.refl E'
  | ok xs ρ1 =>
  rw [ei] at h
  simp only [sBnd_ok] at h
  intro J F1 H1 g1 E1 hJ
  have h := PoS.later g1 Kp.refl h
  refine ⟨fun i m σ' H' => m = xs.length - i ∧ i ≤ xs.length ∧ ∃ F' ρ', Gr B F1 F' ∧ Env g.K B F' H' σ' ρ' ∧ Kp pin σ σ' ∧ PoS g.K g.mg W pin B F' σ' D (forL gs mb (xs.drop i) ρ'), ⟨xs.length, by simp, Nat.zero_le _, F1, ρ1, Gr.refl, E1, Kp.refl, by simpa using h⟩, ?_⟩
  rintro i m σ2 H2 ⟨rfl, hi, F2, ρ2, g2, E2, k2, h2⟩
  obtain ⟨hstop, hgo⟩ := hJ F2 H2 g2.sub E2.sub
  by_cases hlt : i < xs.length
  · have ex : xs[i]? = some xs[i] := List.getElem?_eq_getElem hlt
    have ed : xs.drop i = xs[i] :: xs.drop (i + 1) := List.drop_eq_getElem_cons hlt
    obtain ⟨go, yl⟩ := hgo i xs[i] ex
    refine .inr ⟨go, fun σ' H' => ∃ F' ρ', Gr B F1 F' ∧ Env g.K B F' H' σ' ρ' ∧ Kp pin σ σ' ∧ PoS g.K g.mg W pin B F' σ' D (forL gs mb (xs.drop (i + 1)) ρ'), fun σ' H' hN => ⟨xs.length - (i + 1), by omega, rfl, hlt, hN⟩, fun v H3 hy => ?_⟩
    obtain ⟨F3, gw, it⟩ := yl v H3 hy
    have E3 := E2.grow gw
    have g3 := gw.gr E2.subB
    rw [ed] at h2
    have h3 := PoS.later g3 Kp.refl h2
    unfold forL at h3
    refine sg B F3 H3 σ2 ρ2 v xs[i] _ E3 it ?_
    cases eg : gs xs[i] ρ2 with
    | none => rw [eg] at h3; exact h3
    | some ρ3 =>
    rw [eg] at h3
    intro σ4 k4 E4
    refine sb B F3 H3 σ4 ρ3 _ E4 ?_
    have h4 := PoS.later Gr.refl k4 h3
    simp only at h4
    cases eb : mb ρ3 with
    | next ρ4 => rw [eb] at h4; exact fun F' H' σ' g' k' E' => ⟨F', ρ4, (g2.trans g3).trans g', E', (k2.trans k4).trans k', PoS.later g' k' h4⟩
    | cont ρ4 => rw [eb] at h4; exact fun F' H' σ' g' k' E' => ⟨F', ρ4, (g2.trans g3).trans g', E', (k2.trans k4).trans k', PoS.later g' k' h4⟩
    | brk ρ4 => rw [eb] at h4; exact h4
    | ret d ρ4 => rw [eb] at h4; exact h4
    | exc x ρ4 => rw [eb] at h4; exact h4
    | bad => rw [eb] at h4; exact h4
  · have e : i = xs.length := by omega
    subst e
    rw [List.drop_length] at h2
    exact .inl ⟨hstop, h2 F2 H2 σ2 Gr.refl Kp.refl E2⟩

/-! iterables -/
def seqD : D → Option (List D)
  | .list ds => some ds
  | .tuple ds => some ds
  | _ => none
def iList (m : M D) : M (List D) := fun ρ => bnd (m ρ) fun d ρ1 => match d with
  | .list ds => .ok ds ρ1
  | _ => .bad
def iTuple (m : M D) : M (List D) := fun ρ => bnd (m ρ) fun d ρ1 => match d with
  | .tuple ds => .ok ds ρ1
  | _ => .bad
theorem itr_list {K : KC} {F : Hp} {a : Addr} {xs : List V} {ds : List D} (h : LsAt K.K F a xs) (r : RpA K F xs ds) (lo : Bool) : ItR lo K F (Itl K.K a) ds := by
  intro F' H' s1 s2
  have hq : SqL K.K H' a xs := ((h.mono s1).mono s2).sq
  refine ⟨⟨xs, hq, by rw [r.length]; exact Nat.le_refl _⟩, fun i x ex => ?_⟩
  obtain ⟨v0, e0, r0⟩ := r.get ex
  refine ⟨⟨xs, v0, hq, e0⟩, fun v H'' hy => ?_⟩
  obtain ⟨rfl, hy⟩ := hy
  have e1 := hy xs hq
  rw [e0] at e1
  cases e1
  exact ⟨F', Grow.refl s2, .inl (r0.mono s1)⟩
theorem itr_tup {K : KC} {X : Cx} {F : Hp} {a : Addr} {xs : List V} {ds : List D} (h : Rd F a (.tup xs)) (r : RpA K F xs ds) (lo : Bool) : ItR lo K F (Itt X.K a) ds := by
  intro F' H' s1 s2
  have hq : SqT X.K H' a xs := .inl (rd_mono s2 (rd_mono s1 h))
  refine ⟨⟨xs, hq, by rw [r.length]; exact Nat.le_refl _⟩, fun i x ex => ?_⟩
  obtain ⟨v0, e0, r0⟩ := r.get ex
  refine ⟨⟨xs, v0, hq, e0⟩, fun v H'' hy => ?_⟩
  obtain ⟨rfl, hy⟩ := hy
  have e1 := hy xs hq
  rw [e0] at e1
  cases e1
  exact ⟨F', Grow.refl s2, .inl (r0.mono s1)⟩
theorem di_list (ok : Ok g s k W X) {tg l : Expr} {m : M D} (h : DM g W X l m) : DI lo g W X tg l (iList m) := by
  obtain ⟨t, p, q⟩ := h
  refine ⟨_, pi_list p, fun B F H σ ρ R E h => ?_⟩
  refine q B F H σ ρ _ E ?_
  unfold iList at h
  cases e : m ρ with
  | bad => rw [e] at h; exact h
  | exc x ρ1 => rw [e] at h; exact h
  | ok d ρ1 =>
    rw [e] at h
    intro v F' H' g' E' r
    cases r <;> first
      | exact False.elim h
      | skip
    rename_i h1 z1 r1
    exact ⟨_, rfl, ⟨_, by rw [ok.hK]; exact (h1.mono E'.sub).sq⟩, h _ F' H' g' E' (by rw [ok.hK]; exact itr_list h1 r1 lo)⟩
theorem di_tup {tg l : Expr} {m : M D} (h : DM g W X l m) : DI lo g W X tg l (iTuple m) := by
  obtain ⟨t, p, q⟩ := h
  refine ⟨_, pi_tup p, fun B F H σ ρ R E h => ?_⟩
  refine q B F H σ ρ _ E ?_
  unfold iTuple at h
  cases e : m ρ with
  | bad => rw [e] at h; exact h
  | exc x ρ1 => rw [e] at h; exact h
  | ok d ρ1 =>
    rw [e] at h
    intro v F' H' g' E' r
    cases r <;> first
      | exact False.elim h
      | skip
    rename_i h1 n1 z1 r1
    exact ⟨_, rfl, ⟨_, .inl (.inr ⟨_, E'.sub _ _ h1⟩)⟩, h _ F' H' g' E' (itr_tup (.inr ⟨_, h1⟩) r1 lo)⟩
/-- lo, lo + 1, .. -/
def rangeD (lo : Int) (n : Nat) : List D := (List.range n).map fun (i : Nat) => .int (lo + (i : Int))
def rng1 : List D → Option (List D)
  | [.int j] => if -(2 ^ 62) ≤ j ∧ j < 2 ^ 62 then some (rangeD 0 j.toNat) else none
  | _ => none
def rng2 : List D → Option (List D)
  | [.int i, .int j] => if -(2 ^ 62) ≤ i ∧ i < 2 ^ 62 ∧ -(2 ^ 62) ≤ j ∧ j < 2 ^ 62 then some (rangeD i (j - i).toNat) else none
  | _ => none
def iRange1 (ma : M (List D)) : M (List D) := fun ρ => bnd (ma ρ) fun ds ρ1 => lft (rng1 ds) ρ1
def iRange2 (ma : M (List D)) : M (List D) := fun ρ => bnd (ma ρ) fun ds ρ1 => lft (rng2 ds) ρ1
theorem itr_range {K : KC} {F : Hp} {i0 : Int} {n : Nat} : ItR lo K F (Itr i0 n) (rangeD i0 n) := by
  intro F' H' s1 s2
  refine ⟨by show n ≤ (rangeD i0 n).length; simp [rangeD], fun i x ex => ?_⟩
  unfold rangeD at ex
  rw [List.getElem?_map] at ex
  have hi : i < n := by
    by_cases hi : i < n
    · exact hi
    · rw [List.getElem?_eq_none (by simpa using hi)] at ex; cases ex
  rw [List.getElem?_range hi] at ex
  cases ex
  refine ⟨hi, fun v H'' hy => ?_⟩
  obtain ⟨rfl, rfl⟩ := hy
  exact ⟨F', Grow.refl s2, .inl (.int _)⟩
theorem di_range1 (ok : Ok g s k W X) (bf : BF g) {tg a : Expr} {ma : M (List D)} {p : Pos} (h : DA g W X [a] ma) (hg : gloB s.sc "range" = true := by decide +kernel) (hs : starEach [a] X.env = [(false, eval a X.env)] := by rfl) : DI lo g W X tg (.Call (.Name "range" p) [a] [] pos) (iRange1 ma) := by
  obtain ⟨t, p, q⟩ := h
  refine ⟨_, pi_range1 (ok.glo hg) (by rw [ok.hmg]; exact bf.range) p hs, fun B F H σ ρ R E h => ?_⟩
  refine q B F H σ ρ _ E ?_
  unfold iRange1 at h
  cases e : ma ρ with
  | bad => rw [e] at h; exact h
  | exc x ρ1 => rw [e] at h; exact h
  | ok ds ρ1 =>
    rw [e] at h
    intro vs F' H' g' E' r
    simp only [bnd_ok] at h
    cases e2 : rng1 ds with
    | none => rw [e2] at h; exact False.elim h
    | some xs =>
    rw [e2] at h
    unfold rng1 at e2
    split at e2
    · split at e2
      · rename_i hz
        cases e2
        obtain ⟨v, rfl, r1⟩ := rp1 r
        cases r1
        exact ⟨_, rfl, hz.1, hz.2, h _ F' H' g' E' itr_range⟩
      · cases e2
    · cases e2
theorem di_range2 (ok : Ok g s k W X) (bf : BF g) {tg a b : Expr} {ma : M (List D)} {p : Pos} (h : DA g W X [a, b] ma) (hg : gloB s.sc "range" = true := by decide +kernel) (hs : starEach [a, b] X.env = [(false, eval a X.env), (false, eval b X.env)] := by rfl) (hs2 : starEach [b] X.env = [(false, eval b X.env)] := by rfl) :
    DI lo g W X tg (.Call (.Name "range" p) [a, b] [] pos) (iRange2 ma) := by
  obtain ⟨t, p, q⟩ := h
  refine ⟨_, pi_range2 (ok.glo hg) (by rw [ok.hmg]; exact bf.range) p hs hs2, fun B F H σ ρ R E h => ?_⟩
  refine q B F H σ ρ _ E ?_
  unfold iRange2 at h
  cases e : ma ρ with
  | bad => rw [e] at h; exact h
  | exc x ρ1 => rw [e] at h; exact h
  | ok ds ρ1 =>
    rw [e] at h
    intro vs F' H' g' E' r
    simp only [bnd_ok] at h
    cases e2 : rng2 ds with
    | none => rw [e2] at h; exact False.elim h
    | some xs =>
    rw [e2] at h
    unfold rng2 at e2
    split at e2
    · split at e2
      · rename_i hz
        cases e2
        obtain ⟨v, w, rfl, r1, r2⟩ := rp2 r
        cases r1
        cases r2
        exact ⟨_, _, rfl, hz, h _ F' H' g' E' itr_range⟩
      · cases e2
    · cases e2
end

/-! ### while: at most n turns are told -/
def whileN (c : M Bool) (body : MS) : Nat → MS
  | 0 => fun _ => .bad
  | n + 1 => fun ρ => sBnd (c ρ) fun b ρ1 => match b with
    | false => .next ρ1
    | true => match body ρ1 with
      | .next ρ2 => whileN c body n ρ2
      | .cont ρ2 => whileN c body n ρ2
      | .brk ρ2 => .next ρ2
      | r => r
section
variable {g : GC} {s : SS} {k : Nat} {W : WX} {pin : List Nat} {X : Cx} {pos : Pos}
theorem ds_while (ok : Ok g s k W X) (n : Nat) {c : Expr} {body : List Stmt} {mc : M Bool} {mb : MS} (hc : DT g W X c mc) (hb : DSs g W pin X body mb) : DS g W pin X (.While c body [] pos) (whileN mc mb n) := by
  obtain ⟨tc, pc, sc⟩ := hc
  obtain ⟨tb, pb, sb⟩ := hb
  refine ⟨_, ps_while ok.po pc pb, fun B F H σ ρ D E h => ?_⟩
  refine ⟨fun m σ' H' => ∃ F' ρ', Gr B F F' ∧ Env g.K B F' H' σ' ρ' ∧ Kp pin σ σ' ∧ PoS g.K g.mg W pin B F' σ' D (whileN mc mb m ρ'), ⟨n, F, ρ, Gr.refl, E, Kp.refl, h⟩, ?_⟩
  rintro m σ2 H2 ⟨F2, ρ2, g2, E2, k2, h2⟩
  cases m with
  | zero => exact h2.elim
  | succ m =>
    refine sc.thenS E2 h2 fun b ρ3 F3 H3 g3 E3 h3 => ?_
    cases b with
    | false => show (if false = true then _ else _); rw [if_neg (by decide)]; exact h3 F3 H3 σ2 Gr.refl Kp.refl E3
    | true =>
      show (if true = true then _ else _)
      rw [if_pos rfl]
      refine ⟨fun σ' H' => ∃ F' ρ', Gr B F F' ∧ Env g.K B F' H' σ' ρ' ∧ Kp pin σ σ' ∧ PoS g.K g.mg W pin B F' σ' D (whileN mc mb m ρ'), fun σ' H' hN => ⟨m, by omega, hN⟩, ?_⟩
      refine sb B F3 H3 σ2 ρ3 _ E3 ?_
      simp only at h3
      cases eb : mb ρ3 with
      | next ρ4 => rw [eb] at h3; exact fun F' H' σ' g' k' E' => ⟨F', ρ4, (g2.trans g3).trans g', E', k2.trans k', PoS.later g' k' h3⟩
      | cont ρ4 => rw [eb] at h3; exact fun F' H' σ' g' k' E' => ⟨F', ρ4, (g2.trans g3).trans g', E', k2.trans k', PoS.later g' k' h3⟩
      | brk ρ4 => rw [eb] at h3; exact h3
      | ret d ρ4 => rw [eb] at h3; exact h3
      | exc x ρ4 => rw [eb] at h3; exact h3
      | bad => rw [eb] at h3; exact h3
end
end DX

set_option maxHeartbeats 1000000
namespace DX
open PySem PySem.Spec PyProof.Rows L2

/-! ### slots forgotten and brought back -/
def wipeR (ρ : Rho) : List Nat → Rho
  | [] => ρ
  | v :: vs => (wipeR ρ vs).set v .no
def unw (ρ1 : Rho) : List Nat → Rho → Rho
  | [], ρ2 => ρ2
  | v :: vs, ρ2 => (unw ρ1 vs ρ2).set v (ρ1.getD v .no)
theorem wipeR_length (ρ : Rho) : ∀ vs, (wipeR ρ vs).length = ρ.length
  | [] => rfl
  | v :: vs => by unfold wipeR; rw [List.length_set, wipeR_length ρ vs]
theorem unw_length (ρ1 ρ2 : Rho) : ∀ vs, (unw ρ1 vs ρ2).length = ρ2.length
  | [] => rfl
  | v :: vs => by unfold unw; rw [List.length_set, unw_length ρ1 ρ2 vs]
theorem unw_in {ρ1 ρ2 : Rho} {i : Nat} {c : Cell} : ∀ {vs : List Nat}, i ∈ vs → (unw ρ1 vs ρ2)[i]? = some c → c = ρ1.getD i .no
  | v :: vs, h, e => by
    unfold unw at e
    by_cases hi : v = i
    · subst hi
      by_cases hl : v < (unw ρ1 vs ρ2).length
      · rw [List.getElem?_set_self hl] at e; cases e; rfl
      · rw [List.getElem?_eq_none (by simp; omega)] at e; cases e
    · rw [List.getElem?_set_ne hi] at e
      exact unw_in (by cases h with | head => exact absurd rfl hi | tail _ h => exact h) e
theorem unw_out {ρ1 ρ2 : Rho} {i : Nat} : ∀ {vs : List Nat}, i ∉ vs → (unw ρ1 vs ρ2)[i]? = ρ2[i]?
  | [], _ => rfl
  | v :: vs, h => by
    unfold unw
    rw [List.getElem?_set_ne (fun e => h (by rw [e]; exact List.mem_cons_self))]
    exact unw_out fun z => h (List.mem_cons_of_mem _ z)
section
variable {K : KC} {B F H : Hp} {σ : L2.St} {ρ : Rho}
theorem Env.setNo (E : Env K B F H σ ρ) (i : Nat) : Env K B F H (σ.set i none) (ρ.set i .no) where
  subB := E.subB
  sub := E.sub
  len := by simp [E.len]
  val := fun j d e => by
    by_cases hj : i = j
    · subst hj
      by_cases hl : i < ρ.length
      · rw [List.getElem?_set_self hl] at e; cases e
      · rw [List.getElem?_eq_none (by simp; omega)] at e; cases e
    · rw [List.getElem?_set_ne hj] at e ⊢; exact E.val j d e
  own := fun j o e => by
    by_cases hj : i = j
    · subst hj
      by_cases hl : i < ρ.length
      · rw [List.getElem?_set_self hl] at e; cases e
      · rw [List.getElem?_eq_none (by simp; omega)] at e; cases e
    · rw [List.getElem?_set_ne hj] at e ⊢; exact E.own j o e
  inj := fun j k o o' q hjk e1 e2 e3 e4 => by
    have g : ∀ (k : Nat) (o : Ob), (ρ.set i .no)[k]? = some (.own o) → i ≠ k := fun k o e z => by
      subst z
      by_cases hl : i < ρ.length
      · rw [List.getElem?_set_self hl] at e; cases e
      · rw [List.getElem?_eq_none (by simp; omega)] at e; cases e
    have h1 := g j o e1
    have h2 := g k o' e2
    rw [List.getElem?_set_ne h1] at e1 e3
    rw [List.getElem?_set_ne h2] at e2 e4
    exact E.inj j k o o' q hjk e1 e2 e3 e4
theorem Env.wipe (E : Env K B F H σ ρ) : ∀ vs, Env K B F H (L2.wipe σ vs) (wipeR ρ vs)
  | [] => E
  | v :: vs => (Env.wipe E vs).setNo v
/-- more that stays -/
theorem Env.addB (E : Env K B F H σ ρ) {p : Addr} {o : HO} (h : H p = some o) (hq : ∀ (i : Nat) (o' : Ob), ρ[i]? = some (.own o') → σ[i]? = some (some (.ref p)) → False) : Env K (upd B p o) F H σ ρ :=
  ⟨E.subB.add h, E.sub, E.len, E.val, fun i o' e => by
    obtain ⟨q, h1, h2, h3, h4⟩ := E.own i o' e
    exact ⟨q, h1, h2, by rw [upd_ne (fun z => hq i o' e (by rw [h1, z]))]; exact h3, h4⟩, E.inj⟩
theorem Env.dropB {p : Addr} {o : HO} (E : Env K (upd B p o) F H σ ρ) (hb : B p = none) : Env K B F H σ ρ :=
  ⟨fun a u e => E.subB a u (by rw [upd_ne (ne_of_none e hb)]; exact e), E.sub, E.len, E.val, fun i o' e => by
    obtain ⟨q, h1, h2, h3, h4⟩ := E.own i o' e
    have ne : q ≠ p := fun z => by rw [z, upd_same] at h3; cases h3
    exact ⟨q, h1, h2, by rw [upd_ne ne] at h3; exact h3, h4⟩, E.inj⟩
theorem Env.notOwn {p : Addr} {o : HO} (E : Env K (upd B p o) F H σ ρ) : ∀ (i : Nat) (o' : Ob), ρ[i]? = some (.own o') → σ[i]? = some (some (.ref p)) → False := fun i o' e hs => by
  obtain ⟨q, h1, h2, h3, h4⟩ := E.own i o' e
  rw [hs] at h1; cases h1
  rw [upd_same] at h3; cases h3
theorem Gr.dropB {p : Addr} {o : HO} {F' : Hp} (g : Gr (upd B p o) F F') : Gr B F F' :=
  ⟨g.sub, fun a h => (g.new a h).imp id fun z => by
    by_cases e : a = p
    · rw [e, upd_same] at z; cases z
    · rw [upd_ne e] at z; exact z⟩
theorem Gr.stayN {p : Addr} {o : HO} {F' : Hp} (g : Gr (upd B p o) F F') (n : F p = none) : F' p = none := by
  cases e : F' p with
  | none => rfl
  | some u =>
    rcases g.new p (by rw [e]; exact fun z => nomatch z) with a | a
    · exact absurd n a
    · rw [upd_same] at a; cases a
/-- an object of nobody is written -/
theorem Env.other (E : Env K B F H σ ρ) {p : Addr} {o : HO} (hF : F p = none) (hB : B p = none) (hq : ∀ (i : Nat) (o' : Ob), ρ[i]? = some (.own o') → σ[i]? = some (some (.ref p)) → False) : Env K B F (upd H p o) σ ρ :=
  ⟨E.subB.updH hB, E.sub.updH hF, E.len, E.val, fun i o' e => by
    obtain ⟨q, h1, h2, h3, h4⟩ := E.own i o' e
    exact ⟨q, h1, h2, h3, h4.mono (Sub.refl F) (upd_ne fun z => hq i o' e (by rw [h1, z]))⟩, E.inj⟩
theorem Env.unw {ρ1 ρ2 : Rho} {vs : List Nat} (E : Env K B F H (L2.wipe σ vs) ρ2) (h1 : ∀ (i : Nat) (d : D), i ∈ vs → ρ1[i]? = some (.val d) → ∃ v, σ[i]? = some (some v) ∧ Rp K F v d) (h2 : ∀ (i : Nat) (o : Ob), i ∈ vs → ρ1[i]? ≠ some (.own o)) :
    Env K B F H σ (DX.unw ρ1 vs ρ2) := by
  have getD_some : ∀ {i : Nat} {c : Cell}, c ≠ .no → c = ρ1.getD i .no → ρ1[i]? = some c := fun {i c} hn e => by
    rw [List.getD_eq_getElem?_getD] at e
    cases q : ρ1[i]? with
    | none => rw [q] at e; exact absurd e hn
    | some c' => rw [q] at e; rw [e]; rfl
  have notin : ∀ {i : Nat} {o : Ob}, (DX.unw ρ1 vs ρ2)[i]? = some (.own o) → i ∉ vs ∧ ρ2[i]? = some (.own o) := fun {i o} e => by
    have hi : i ∉ vs := fun hi => h2 i o hi (getD_some (fun z => nomatch z) (unw_in hi e))
    exact ⟨hi, by rw [unw_out hi] at e; exact e⟩
  refine ⟨E.subB, E.sub, by rw [unw_length, E.len, L2.wipe_length], fun i d e => ?_, fun i o e => ?_, fun i j o o' q hij e1 e2 e3 e4 => ?_⟩
  · by_cases hi : i ∈ vs
    · exact h1 i d hi (getD_some (fun z => nomatch z) (unw_in hi e))
    · rw [unw_out hi] at e
      obtain ⟨v, a, b⟩ := E.val i d e
      rw [L2.wipe_out hi] at a
      exact ⟨v, a, b⟩
  · obtain ⟨hi, e⟩ := notin e
    obtain ⟨q, a, b⟩ := E.own i o e
    rw [L2.wipe_out hi] at a
    exact ⟨q, a, b⟩
  · obtain ⟨hi, f1⟩ := notin e1
    obtain ⟨hj, f2⟩ := notin e2
    exact E.inj i j o o' q hij f1 f2 (by rw [L2.wipe_out hi]; exact e3) (by rw [L2.wipe_out hj]; exact e4)
end
/-- equal but for the slots of vs -/
theorem wipe_eq {σ σ2 : L2.St} {vs pin : List Nat} (hk : Kp pin (L2.wipe σ vs) σ2) (hp : ∀ i, i < σ.length → i ∉ vs → i ∈ pin) : L2.wipe σ2 vs = L2.wipe σ vs := by
  apply List.ext_getElem?
  intro i
  have hl : σ2.length = σ.length := by rw [hk.1, L2.wipe_length]
  by_cases hi : i ∈ vs
  · have f : ∀ (τ : L2.St), (L2.wipe τ vs)[i]? = if i < τ.length then some none else none := fun τ => by
      cases e : (L2.wipe τ vs)[i]? with
      | none =>
        rw [List.getElem?_eq_none_iff, L2.wipe_length] at e
        rw [if_neg (by omega)]
      | some o =>
        have hi' : i < τ.length := by
          obtain ⟨z, _⟩ := List.getElem?_eq_some_iff.mp e
          rw [L2.wipe_length] at z; exact z
        rw [if_pos hi']
        cases o with
        | none => rfl
        | some x => exact absurd hi (L2.wipe_some e).2
    rw [f, f, hl]
  · rw [L2.wipe_out hi]
    by_cases hlt : i < σ.length
    · exact hk.2 i (hp i hlt hi)
    · rw [List.getElem?_eq_none (by omega), List.getElem?_eq_none (by rw [L2.wipe_length]; omega)]

/-! ### comprehensions -/
def cBnd {α β : Type} (m : MR α) (f : α → Rho → MR β) : MR β := match m with
  | .ok a ρ => f a ρ
  | .exc _ _ => .bad
  | .bad => .bad
@[simp] theorem cBnd_ok {α β : Type} (a : α) (ρ : Rho) (f : α → Rho → MR β) : cBnd (.ok a ρ) f = f a ρ := rfl
@[simp] theorem cBnd_exc {α β : Type} (s : Str) (ρ : Rho) (f : α → Rho → MR β) : cBnd (.exc s ρ : MR α) f = .bad := rfl
@[simp] theorem cBnd_bad {α β : Type} (f : α → Rho → MR β) : cBnd (.bad : MR α) f = .bad := rfl
def compL (gs : D → Rho → Option Rho) (test : M Bool) (elt : M D) (vs : List Nat) : List D → Rho → MR (List D)
  | [], ρ => .ok [] ρ
  | x :: xs, ρ => match gs x ρ with
    | none => .bad
    | some ρ1 => cBnd (test ρ1) fun b ρ2 => match b with
      | true => cBnd (elt ρ2) fun d ρ3 => cBnd (compL gs test elt vs xs (wipeR ρ3 vs)) fun ds ρ4 => .ok (d :: ds) ρ4
      | false => compL gs test elt vs xs (wipeR ρ2 vs)
def noOwn (ρ : Rho) (vs : List Nat) : Bool := vs.all fun i => match ρ[i]? with
  | some (.own _) => false
  | _ => true
def mComp (n : Nat) (mi : M (List D)) (gs : D → Rho → Option Rho) (test : M Bool) (elt : M D) (vs : List Nat) : M Ob := fun ρ => bnd (mi ρ) fun xs ρ1 =>
  if noOwn ρ1 vs = true ∧ xs.length ≤ sizeLine ∧ ρ1.length ≤ n then cBnd (compL gs test elt vs xs (wipeR ρ1 vs)) fun ds ρ2 => .ok (.lst ds) (unw ρ1 vs ρ2) else .bad
def compPin (n : Nat) (vs : List Nat) : List Nat := (List.range n).filter fun i => !vs.contains i
theorem mem_compPin {n : Nat} {vs : List Nat} {i : Nat} (h : i < n) (hv : i ∉ vs) : i ∈ compPin n vs := by
  unfold compPin
  rw [List.mem_filter, List.mem_range]
  exact ⟨h, by simp [hv]⟩
def tYesM : M Bool := fun ρ => .ok true ρ
def DTs (g : GC) (W : WX) (X : Cx) (es : List Expr) (m : M Bool) : Prop := ∃ t, PTs X es t ∧ SimT g.K g.mg W t m
abbrev W0 : WX := fun _ _ _ _ => False

section
variable {K : KC} {mg : Str → Option Value} {W : WX}
/-- no exception leaves: the value comes -/
theorem SimT.thenC {t : TT} {m : M Bool} (h : SimT K mg W0 t m) {B F H : Hp} {σ : L2.St} {ρ : Rho} {Q : Bool → Hp → Prop} {b : Bool} {ρ1 : Rho} (E : Env K B F H σ ρ) (e : m ρ = .ok b ρ1) (go : ∀ F1 H1, Gr B F F1 → Env K B F1 H1 σ ρ1 → Q b H1) : t σ H Q := by
  refine h B F H σ ρ Q E ?_
  rw [e]
  exact go
theorem SimE.thenC {t : TE} {m : M D} (h : SimE K mg W0 t m) {B F H : Hp} {σ : L2.St} {ρ : Rho} {Q : VK} {d : D} {ρ1 : Rho} (E : Env K B F H σ ρ) (e : m ρ = .ok d ρ1) (go : ∀ v F1 H1, Gr B F F1 → Env K B F1 H1 σ ρ1 → Rp K F1 v d → Q v H1) : t σ H Q := by
  refine h B F H σ ρ Q E ?_
  rw [e]
  exact go
end

section
variable {g : GC} {W : WX} {X : Cx}
theorem sim_lc {lo : Bool} {wi : TI} {gt : TG} {tt : TT} {te : TE} {n : Nat} {vs : List Nat} {mi : M (List D)} {gs : D → Rho → Option Rho} {test : M Bool} {elt : M D}
    (hi : ∀ B F H σ ρ (R : It → Hp → Prop), Env g.K B F H σ ρ → (match mi ρ with
      | .ok xs ρ' => ∀ J F' H', Gr B F F' → Env g.K B F' H' σ ρ' → ItR lo g.K F' J xs → R J H'
      | .exc x ρ' => ∀ C F' H', g.mg x = some (.ref C) → Gr B F F' → Env g.K B F' H' σ ρ' → W (.ref C) none σ H'
      | .bad => False) → wi σ H R)
    (hg : ∀ B F H σ ρ v x (Q : L2.St → Hp → Prop), Env g.K B F H σ ρ → Item lo g.K F H v x → (match gs x ρ with
      | some ρ' => ∀ σ', Kp (compPin n vs) σ σ' → Env g.K B F H σ' ρ' → Q σ' H
      | none => False) → gt v σ H Q)
    (ht : SimT g.K g.mg W0 tt test) (he : SimE g.K g.mg W0 te elt) : SimL g.K g.mg W (tLc wi gt tt te vs) (mComp n mi gs test elt vs) := by
  intro B F H σ ρ Q E h
  refine hi B F H σ ρ _ E ?_
  unfold mComp at h
  cases ei : mi ρ with
  | bad => rw [ei] at h; exact h
  | exc x ρ1 => rw [ei] at h; exact h
  | ok xs ρ1 =>
  rw [ei] at h
  simp only [bnd_ok] at h
  split at h
  case isFalse => exact h.elim
  rename_i hz
  obtain ⟨hno, hsz, hn⟩ := hz
  cases ec : compL gs test elt vs xs (wipeR ρ1 vs) with
  | bad => rw [ec] at h; exact h.elim
  | exc x ρ2 => rw [ec] at h; exact h.elim
  | ok ds ρe =>
  rw [ec] at h
  simp only [cBnd_ok] at h
  intro J F1 H1 g1 E1 hJ Dq nD
  have E1w : Env g.K B F1 H1 (L2.wipe σ vs) (wipeR ρ1 vs) := E1.wipe vs
  have hlen : ∀ i, i < σ.length → i ∉ vs → i ∈ compPin n vs := fun i hi hv => mem_compPin (by rw [← E1.len] at hi; omega) hv
  have nB : B Dq = none := E1.subB.nn nD
  have nF : F1 Dq = none := E1.sub.nn nD
  refine ⟨fun i m H' => m = xs.length - i ∧ i ≤ xs.length ∧ ∃ F' ρ' acc dacc rest, Gr B F1 F' ∧ Env g.K B F' H' (L2.wipe σ vs) ρ' ∧ H' Dq = some (.lst acc) ∧ acc.length ≤ i ∧ RpA g.K F' acc dacc ∧ F' Dq = none ∧
      (∀ (i : Nat) (o' : Ob), ρ'[i]? = some (.own o') → (L2.wipe σ vs)[i]? = some (some (.ref Dq)) → False) ∧ compL gs test elt vs (xs.drop i) ρ' = .ok rest ρe ∧ dacc ++ rest = ds, ?_, ?_⟩
  · refine ⟨xs.length, by simp, Nat.zero_le _, F1, wipeR ρ1 vs, [], [], ds, Gr.refl, ?_, upd_same, Nat.le_refl _, .nil, nF, fresh_own E1w nD, by simpa using ec, rfl⟩
    exact E1w.other nF nB (fresh_own E1w nD)
  rintro i m H2 ⟨rfl, hi', F2, ρ2, acc, dacc, rest, g2, E2, hD2, hacc, racc, nF2, no2, e2, ed⟩
  obtain ⟨hstop, hgo⟩ := hJ F2 H2 g2.sub E2.sub
  by_cases hlt : i < xs.length
  · have ex : xs[i]? = some xs[i] := List.getElem?_eq_getElem hlt
    have edr : xs.drop i = xs[i] :: xs.drop (i + 1) := List.drop_eq_getElem_cons hlt
    obtain ⟨go, yl⟩ := hgo i xs[i] ex
    rw [edr] at e2
    unfold compL at e2
    refine .inr ⟨go, fun H' => ∃ F' ρ' acc dacc rest, Gr B F1 F' ∧ Env g.K B F' H' (L2.wipe σ vs) ρ' ∧ H' Dq = some (.lst acc) ∧ acc.length ≤ i + 1 ∧ RpA g.K F' acc dacc ∧ F' Dq = none ∧
      (∀ (i : Nat) (o' : Ob), ρ'[i]? = some (.own o') → (L2.wipe σ vs)[i]? = some (some (.ref Dq)) → False) ∧ compL gs test elt vs (xs.drop (i + 1)) ρ' = .ok rest ρe ∧ dacc ++ rest = ds, fun H' hN => ⟨xs.length - (i + 1), by omega, rfl, hlt, hN⟩, fun v H3 hy => ?_⟩
    obtain ⟨F3, gw, it⟩ := yl v H3 hy
    have E3 := E2.grow gw
    have g3 := gw.gr E2.subB
    have hD3 : H3 Dq = some (.lst acc) := gw.subH _ _ hD2
    have nF3 : F3 Dq = none := by
      cases q : F3 Dq with
      | none => rfl
      | some u =>
        rcases gw.new Dq (by rw [q]; exact fun z => nomatch z) with a | a
        · exact absurd nF2 a
        · rw [hD2] at a; cases a
    -- the new list stays while the item is looked at
    have E3' := E3.addB hD3 no2
    refine hg (upd B Dq (.lst acc)) F3 H3 (L2.wipe σ vs) ρ2 v xs[i] _ E3' it ?_
    cases eg : gs xs[i] ρ2 with
    | none => rw [eg] at e2; cases e2
    | some ρ3 =>
    rw [eg] at e2
    intro σ4 k4 E4
    have ew : L2.wipe σ4 vs = L2.wipe σ vs := wipe_eq k4 hlen
    refine ⟨ew, ?_⟩
    simp only at e2
    cases et : test ρ3 with
    | bad => rw [et] at e2; cases e2
    | exc _ _ => rw [et] at e2; cases e2
    | ok b ρ5 =>
    rw [et] at e2
    simp only [cBnd_ok] at e2
    refine ht.thenC E4 et fun F5 H5 g5 E5 => ?_
    have nF5 := g5.stayN nF3
    cases b with
    | false =>
      rw [if_neg (by decide)]
      simp only at e2
      have E6 := E5.wipe vs
      rw [ew] at E6
      exact ⟨F5, wipeR ρ5 vs, acc, dacc, rest, (g2.trans g3).trans g5.dropB, E6.dropB nB, E5.subB _ _ upd_same, Nat.le_succ_of_le hacc, (racc.mono gw.subF).mono g5.sub, nF5, E6.notOwn, e2, ed⟩
    | true =>
      rw [if_pos rfl]
      simp only at e2
      cases ee : elt ρ5 with
      | bad => rw [ee] at e2; cases e2
      | exc _ _ => rw [ee] at e2; cases e2
      | ok d ρ6 =>
      rw [ee] at e2
      simp only [cBnd_ok] at e2
      cases er : compL gs test elt vs (xs.drop (i + 1)) (wipeR ρ6 vs) with
      | bad => rw [er] at e2; cases e2
      | exc _ _ => rw [er] at e2; cases e2
      | ok rest' ρ7 =>
      rw [er] at e2
      simp only [cBnd_ok] at e2
      cases e2
      refine he.thenC E5 ee fun y F6 H6 g6 E6 r6 => ?_
      have nF6 := g6.stayN nF5
      have hD6 : H6 Dq = some (.lst acc) := E6.subB _ _ upd_same
      refine ⟨acc, hD6, by omega, ?_⟩
      have E7 := E6.wipe vs
      rw [ew] at E7
      have no7 := E7.notOwn
      exact ⟨F6, wipeR ρ6 vs, acc ++ [y], dacc ++ [d], rest', ((g2.trans g3).trans g5.dropB).trans g6.dropB, (E7.dropB nB).other nF6 nB no7, upd_same, by simp; omega,
        ((((racc.mono gw.subF).mono g5.sub).mono g6.sub).append (.cons r6 .nil)), nF6, no7, er, by rw [List.append_assoc]; exact ed⟩
  · have e : i = xs.length := by omega
    subst e
    rw [List.drop_length] at e2
    unfold compL at e2
    cases e2
    rw [List.append_nil] at ed
    subst ed
    refine .inl ⟨hstop, ?_⟩
    have E8 : Env g.K B F2 H2 σ (unw ρ1 vs ρe) := E2.unw (fun i d hi e => by
      obtain ⟨v, a, b⟩ := E1.val i d e
      exact ⟨v, a, b.mono g2.sub⟩) (fun i o hi e => by
      have := List.all_eq_true.mp hno i hi
      rw [e] at this
      cases this)
    refine h Dq F2 H2 (g1.trans g2) E8 nF2 nB ⟨acc, hD2, by omega, racc⟩ fun i o' e hs => ?_
    have hi : i ∉ vs := fun hi => by
      have z := unw_in hi e
      have q : ρ1[i]? = some (.own o') := by
        rw [List.getD_eq_getElem?_getD] at z
        cases q : ρ1[i]? with
        | none => rw [q] at z; cases z
        | some c' => rw [q] at z; rw [z]; rfl
      have := List.all_eq_true.mp hno i hi
      rw [q] at this
      cases this
    rw [unw_out hi] at e
    exact no2 i o' e (by rw [L2.wipe_out hi]; exact hs)
end

/-! ### the rules -/
def SS.block (s : SS) (scope : Scope) : SS := ⟨s.N, relS scope s.sc, some scope⟩
section
variable {g : GC} {s : SS} {k : Nat} {W : WX} {pin : List Nat} {X : Cx} {pos : Pos} {lo : Bool}
theorem dts_nil : DTs g W X [] tYesM := ⟨_, pts_nil, fun B F H σ ρ Q E h => h F H Gr.refl E⟩
theorem dts_one {c : Expr} {m : M Bool} (h : DT g W X c m) : DTs g W X [c] m := by
  obtain ⟨t, p, q⟩ := h
  exact ⟨_, pts_one p, q⟩
theorem Ok.block (ok : Ok g s k W X) {scope : Scope} (hk : scope.kind = .function) (sh : Shared) (H : Hp) (C : Addr) (cl : List (Str × Addr)) (fp : List Addr) : Ok g (s.block scope) k W0 (X.blk sh H scope (compEnvC scope cl C X.env) fp) where
  hP := ok.hP
  hw := ok.hw
  hK := ok.hK
  hmg := ok.hmg
  hbase := ok.hbase
  hN := ok.hN
  hsc := by
    show relabel scope X.env = relS scope s.sc
    rw [← ok.hsc]
    rfl
  kind := hk
  hfn := fun x h => h
  calm := ok.calm
  room := ok.room
  nd := ok.nd
  tk := takes0
  po := PassesOwn.never
/-! readings that depend on nothing else -/
def cE (g : GC) (W : WX) (m : M D) : TE := fun σ H Q => ∃ B F ρ, Env g.K B F H σ ρ ∧ PoE g.K g.mg W B F σ Q (m ρ)
def cT (g : GC) (W : WX) (m : M Bool) : TT := fun σ H Q => ∃ B F ρ, Env g.K B F H σ ρ ∧ PoT g.K g.mg W B F σ Q (m ρ)
def cG (lo : Bool) (g : GC) (pin : List Nat) (gs : D → Rho → Option Rho) : TG := fun v σ H Q => ∃ B F ρ x, Env g.K B F H σ ρ ∧ Item lo g.K F H v x ∧ (match gs x ρ with
  | some ρ' => ∀ σ', Kp pin σ σ' → Env g.K B F H σ' ρ' → Q σ' H
  | none => False)
theorem DM.pe {e : Expr} {m : M D} (h : DM g W X e m) : PE X e (cE g W m) := by
  obtain ⟨t, p, q⟩ := h
  exact ⟨fun pins s σ H Q I ⟨B, F, ρ, E, po⟩ => p.run pins s σ H Q I (q B F H σ ρ Q E po)⟩
theorem DT.pt {e : Expr} {m : M Bool} (h : DT g W X e m) : PT X e (cT g W m) := by
  obtain ⟨t, p, q⟩ := h
  exact ⟨fun pins s σ H Q I ⟨B, F, ρ, E, po⟩ => p.run pins s σ H Q I (q B F H σ ρ Q E po)⟩
theorem DTs.pts {es : List Expr} {m : M Bool} (h : DTs g W X es m) : PTs X es (cT g W m) := by
  obtain ⟨t, p, q⟩ := h
  exact ⟨fun pins s σ H Q I ⟨B, F, ρ, E, po⟩ => p.run pins s σ H Q I (q B F H σ ρ Q E po)⟩
theorem DG.pg {tg : Expr} {gs : D → Rho → Option Rho} (h : DG lo g pin X tg gs) : PG X tg (cG lo g pin gs) := by
  obtain ⟨t, p, q⟩ := h
  exact ⟨fun pins s σ H v u Q I r ⟨B, F, ρ, x, E, it, po⟩ => p.run pins s σ H v u Q I r (q B F H σ ρ v x Q E it po)⟩
theorem sim_lcC {wi : TI} {n : Nat} {vs : List Nat} {mi : M (List D)} {gs : D → Rho → Option Rho} {test : M Bool} {elt : M D}
    (hi : ∀ B F H σ ρ (R : It → Hp → Prop), Env g.K B F H σ ρ → (match mi ρ with
      | .ok xs ρ' => ∀ J F' H', Gr B F F' → Env g.K B F' H' σ ρ' → ItR lo g.K F' J xs → R J H'
      | .exc x ρ' => ∀ C F' H', g.mg x = some (.ref C) → Gr B F F' → Env g.K B F' H' σ ρ' → W (.ref C) none σ H'
      | .bad => False) → wi σ H R) : SimL g.K g.mg W (tLc wi (cG lo g (compPin n vs) gs) (cT g W0 test) (cE g W0 elt) vs) (mComp n mi gs test elt vs) :=
  sim_lc hi (fun B F H σ ρ v x Q E it h => ⟨B, F, ρ, x, E, it, h⟩) (fun B F H σ ρ Q E h => ⟨B, F, ρ, E, h⟩) fun B F H σ ρ Q E h => ⟨B, F, ρ, E, h⟩
/-- the parts of a comprehension -/
structure DC (lo : Bool) (g : GC) (s : SS) (k : Nat) (W : WX) (X : Cx) (elt tg iter : Expr) (ifs : List Expr) (scope : Scope) (own : List (Str × Nat)) (mi : M (List D)) (gs : D → Rho → Option Rho) (test : M Bool) (me : M D) : Prop where
  hi : DI lo g W X tg iter mi
  hg : ∀ X', Ok g (s.block scope) k W0 X' → DG lo g (compPin s.N.length (own.map (·.2))) X' tg gs
  ht : ∀ X', Ok g (s.block scope) k W0 X' → DTs g W0 X' ifs test
  he : ∀ X', Ok g (s.block scope) k W0 X' → DM g W0 X' elt me
  hb : blkC s.N s.sc scope own = true := by decide +kernel
  hs : ∀ x, foldedSetIterable iter X.env x = pure x := by intro _; rfl
theorem dl_comp (ok : Ok g s k W X) {elt tg iter : Expr} {ifs : List Expr} {scope : Scope} {own : List (Str × Nat)} {mi : M (List D)} {gs : D → Rho → Option Rho} {test : M Bool} {me : M D} (c : DC lo g s k W X elt tg iter ifs scope own mi gs test me) :
    DL g W X (.ListComp elt [⟨tg, iter, ifs, 0⟩] scope pos) (mComp s.N.length mi gs test me (own.map (·.2))) := by
  have bo : BlkOk s.N s.sc scope own := blkOk_by c.hb
  obtain ⟨wi, pi, si⟩ := c.hi
  refine ⟨_, pe_lc (own := own) ok.calm ok.ndX pi (by rw [ok.hN, ok.hsc]; exact bo) (fun sh H C cl fp => (c.hg _ (ok.block bo.kind sh H C cl fp)).pg) (fun sh H C cl fp => (c.ht _ (ok.block bo.kind sh H C cl fp)).pts) (fun sh H C cl fp => (c.he _ (ok.block bo.kind sh H C cl fp)).pe) c.hs, ?_⟩
  exact sim_lcC si
/-- name = [..] on one line, the name a local: the value frozen, or one's own -/
theorem ds_setC (ok : Ok g s k W X) (i : Nat) {x : Str} {py spos : Pos} {elt tg iter : Expr} {ifs : List Expr} {scope : Scope} {own : List (Str × Nat)} {mi : M (List D)} {gs : D → Rho → Option Rho} {test : M Bool} {me : M D} (c : DC lo g s k W X elt tg iter ifs scope own mi gs test me)
    (hN : s.N[i]? = some x := by rfl) (hl : isLocal s.sc x = true := by decide +kernel) (hp : i ∉ pin := by decide) (hln : (py.line == pos.line) = true := by rfl) (ha : (scope.names.any fun (n, k) => n == x && (k == .local || k == .cell)) = false := by decide +kernel) :
    DS g W pin X (.Assign [.Name x py] (.ListComp elt [⟨tg, iter, ifs, 0⟩] scope pos) spos) (sSetL i (mComp s.N.length mi gs test me (own.map (·.2)))) := by
  have bo : BlkOk s.N s.sc scope own := blkOk_by c.hb
  obtain ⟨wi, pi, si⟩ := c.hi
  have hlX : X.env.scope.names.lookup x = some .local := by rw [ok.hsc]; exact isLocal_of hl
  refine ⟨_, ps_setLc (own := own) ok.calm ok.ndX (ok.at hN) hlX (sw_true (by rw [ok.hsc]; exact ok.kind) hlX hln ha) pi (by rw [ok.hN, ok.hsc]; exact bo) (fun sh H C cl fp => (c.hg _ (ok.block bo.kind sh H C cl fp)).pg) (fun sh H C cl fp => (c.ht _ (ok.block bo.kind sh H C cl fp)).pts) (fun sh H C cl fp => (c.he _ (ok.block bo.kind sh H C cl fp)).pe) c.hs, ?_⟩
  intro B F H σ ρ D E h
  exact SimL.thenS (sim_lcC si) E h fun o ρ1 q F1 H1 g1 E1 a1 a2 a3 a4 h1 => h1 F1 H1 _ Gr.refl (Kp.set hp) (E1.setOwn a3 a1 a2 fun j o' _ => a4 j o')
def sSetF (i : Nat) (m : M Ob) : MS := sSet i (mLd m)
theorem ds_setCF (ok : Ok g s k W X) (i : Nat) {x : Str} {py spos : Pos} {elt tg iter : Expr} {ifs : List Expr} {scope : Scope} {own : List (Str × Nat)} {mi : M (List D)} {gs : D → Rho → Option Rho} {test : M Bool} {me : M D} (c : DC lo g s k W X elt tg iter ifs scope own mi gs test me)
    (hN : s.N[i]? = some x := by rfl) (hl : isLocal s.sc x = true := by decide +kernel) (hp : i ∉ pin := by decide) (hln : (py.line == pos.line) = true := by rfl) (ha : (scope.names.any fun (n, k) => n == x && (k == .local || k == .cell)) = false := by decide +kernel) :
    DS g W pin X (.Assign [.Name x py] (.ListComp elt [⟨tg, iter, ifs, 0⟩] scope pos) spos) (sSet i (mLd (mComp s.N.length mi gs test me (own.map (·.2))))) := by
  have bo : BlkOk s.N s.sc scope own := blkOk_by c.hb
  obtain ⟨wi, pi, si⟩ := c.hi
  have hlX : X.env.scope.names.lookup x = some .local := by rw [ok.hsc]; exact isLocal_of hl
  refine ⟨_, ps_setLc (own := own) ok.calm ok.ndX (ok.at hN) hlX (sw_true (by rw [ok.hsc]; exact ok.kind) hlX hln ha) pi (by rw [ok.hN, ok.hsc]; exact bo) (fun sh H C cl fp => (c.hg _ (ok.block bo.kind sh H C cl fp)).pg) (fun sh H C cl fp => (c.ht _ (ok.block bo.kind sh H C cl fp)).pts) (fun sh H C cl fp => (c.he _ (ok.block bo.kind sh H C cl fp)).pe) c.hs, ?_⟩
  intro B F H σ ρ D E h
  refine sim_lcC si B F H σ ρ _ E ?_
  unfold sSet mLd at h
  cases ec : mComp s.N.length mi gs test me (own.map (·.2)) ρ with
  | bad => rw [ec] at h; exact h
  | exc x ρ1 => rw [ec] at h; exact fun C F' H' e g' E' => h C F' H' σ e g' Kp.refl E'
  | ok o ρ1 =>
    rw [ec] at h
    intro q F1 H1 g1 E1 hF hB hO hq
    obtain ⟨u, hu⟩ := hO.ex
    exact h (upd F1 q u) H1 _ (g1.trans (Gr.freeze hF hB)) (Kp.set hp) ((E1.freeze hu hF hq).setVal (hO.rp hu hF))
/-- a target that is a cell (a name that a comprehension reads): the plain way -/
theorem sw_cell {elt : Expr} {gs : List Comprehension} {scope : Scope} {pos py : Pos} {y : Str} {l : Nat} {env : PySem.Env} (hk : env.scope.kind = .function) (hy : env.scope.names.lookup y = some .cell) : swapsWith (.ListComp elt gs scope pos) (some (.Name y py)) l env = pure false := by
  have ky : env.kindOf y = some .cell := hy
  have hb : env.blockKind = .function := by unfold Env.blockKind; rw [hk]; rfl
  unfold swapsWith
  simp only [hb, ky]
  rfl
def isCell (sc : Scope) (x : Str) : Bool := match sc.names.lookup x with
  | some .cell => true
  | _ => false
theorem isCell_of {sc : Scope} {x : Str} (h : isCell sc x = true) : sc.names.lookup x = some .cell := by
  unfold isCell at h
  split at h
  · assumption
  · cases h
theorem Ok.swc (ok : Ok g s k W X) {elt : Expr} {gs : List Comprehension} {scope : Scope} {pos py : Pos} {y : Str} {l : Nat} (h : isCell s.sc y = true := by decide +kernel) : swapsWith (.ListComp elt gs scope pos) (some (.Name y py)) l X.env = pure false :=
  sw_cell (by rw [ok.hsc]; exact ok.kind) (by rw [ok.hsc]; exact isCell_of h)
end
end DX

set_option maxHeartbeats 1000000
namespace DX
open PySem PySem.Spec PyProof.Rows L2

inductive FR where
  | ok (d : D)
  | exc (s : Str)
  | bad
def PoF (K : KC) (mg : Str → Option Value) (F H : Hp) (Q : VK) (E : XK) : FR → Prop
  | .ok d => ∀ v F' H', Grow F H F' H' → Rp K F' v d → Q v H'
  | .exc x => ∀ C F' H', mg x = some (.ref C) → Grow F H F' H' → E (.ref C) none H'
  | .bad => False
def spD (K : KC) (mg : Str → Option Value) (n : Nat) (fn : List D → FR) : Sp := fun vs H Q E => ∃ F ds, Sub F H ∧ RpA K F vs ds ∧ ds.length = n ∧ PoF K mg F H Q E (fn ds)
/-- a def of the module by what it does -/
structure FD (g : GC) (x : Str) (k : Nat) (ps : List Str) (fn : List D → FR) : Prop where
  ex : ∃ f fd, g.mg x = some (.ref f) ∧ PySem.W.keepIn g.K.K (.ref f) = true ∧ Binds g.K.K fd ps [] ∧ FnOk g.K.P g.K.w g.K.K g.mg g.base (L2.CX g.K.P g.K.w) k f fd ps (spD g.K g.mg ps.length fn)
def mCall (n : Nat) (fn : List D → FR) (ma : M (List D)) : M D := fun ρ => bnd (ma ρ) fun ds ρ1 => if ds.length = n then (match fn ds with
  | .ok d => .ok d ρ1
  | .exc s => .exc s ρ1
  | .bad => .bad) else .bad
section
variable {g : GC} {s : SS} {k : Nat} {W : WX} {pin : List Nat} {X : Cx} {pos p : Pos} {e : Expr} {es : List Expr} {ma : M (List D)}
theorem dm_call (ok : Ok g s k W X) {x : Str} {j : Nat} {ps : List Str} {fn : List D → FR} (F : FD g x j ps fn) (ha : DA g W X (e :: es) ma) (hj : j ≤ k := by decide) (hg : gloB s.sc x = true := by decide +kernel) (hd : (x == ("__debug__" : Str)) = false := by decide +kernel)
    (he : starEach (e :: es) X.env = (false, eval e X.env) :: starEach es X.env := by rfl) (hpl : (backTo pos (starEach es X.env)).any (·.1) = false := by rfl) : DM g W X (.Call (.Name x p) (e :: es) [] pos) (mCall ps.length fn ma) := by
  obtain ⟨f, fd, hm, hk, hb, fo⟩ := F.ex
  obtain ⟨t, pt, st⟩ := ha
  have fo' : FnOk X.prog X.w X.K X.mg X.base (L2.CX X.prog X.w) j f fd ps (spD g.K g.mg ps.length fn) := by
    rw [ok.hP, ok.hw, ok.hK, ok.hmg, ok.hbase]; exact fo
  refine ⟨_, pe_callS (E := WE W) fo' (ok.room.mono hj) (ok.glo hg) (by rw [ok.hmg]; exact hm) (by rw [ok.hK]; exact hk) (by rw [ok.hK]; exact hb) (fun σ => passAt ok.tk σ) pt hd he hpl, fun B F H σ ρ Q E h => ?_⟩
  refine st.then (R := PoE g.K g.mg W B F σ Q) E (fun x ρ' z => z) (fun z => z) h fun ds ρ1 vs F1 H1 g1 E1 r1 h1 => ?_
  by_cases hl : ds.length = ps.length
  · rw [if_pos hl] at h1
    refine ⟨F1, ds, E1.sub, r1, hl, ?_⟩
    have h1 := PoE.later g1 h1
    cases ef : fn ds with
    | ok d => rw [ef] at h1; exact fun v F' H' gw r => h1 v F' H' (gw.gr E1.subB) (E1.grow gw) r
    | exc x => rw [ef] at h1; exact fun C F' H' e gw => h1 C F' H' e (gw.gr E1.subB) (E1.grow gw)
    | bad => rw [ef] at h1; exact h1
  · rw [if_neg hl] at h1; exact h1.elim
end

/-! ### a def by its body -/
def rho0 (N : Nat) (ds : List D) : Rho := ds.map .val ++ List.replicate (N - ds.length) .no
def runF (N : Nat) (m : MS) (ds : List D) : FR := match m (rho0 N ds) with
  | .ret d _ => .ok d
  | .next _ => .ok .none
  | .exc s _ => .exc s
  | _ => .bad
theorem map_get_val {ds : List D} {n i : Nat} {d : D} (h : (ds.map Cell.val ++ List.replicate n Cell.no)[i]? = some (.val d)) : ds[i]? = some d := by
  by_cases hi : i < ds.length
  · rw [List.getElem?_append_left (by simpa using hi), List.getElem?_map] at h
    cases e : ds[i]? with
    | none => rw [e] at h; cases h
    | some x => rw [e] at h; cases h; rfl
  · rw [List.getElem?_append_right (by simpa using hi), List.getElem?_replicate] at h
    split at h <;> cases h
theorem map_get_own {ds : List D} {n i : Nat} {o : Ob} (h : (ds.map Cell.val ++ List.replicate n Cell.no)[i]? = some (.own o)) : False := by
  by_cases hi : i < ds.length
  · rw [List.getElem?_append_left (by simpa using hi), List.getElem?_map] at h
    cases e : ds[i]? with
    | none => rw [e] at h; cases h
    | some x => rw [e] at h; cases h
  · rw [List.getElem?_append_right (by simpa using hi), List.getElem?_replicate] at h
    split at h <;> cases h
theorem env_start {K : KC} {F H : Hp} {vs : List V} {ds : List D} {N : List Str} (s : Sub F H) (r : RpA K F vs ds) (hN : ds.length ≤ N.length) : Env K H F H (L2.start N vs) (rho0 N.length ds) := by
  have hl := r.length
  refine ⟨Sub.refl H, s, ?_, fun i d e => ?_, fun i o e => (map_get_own e).elim, fun i j o o' q _ e1 _ _ _ => (map_get_own e1).elim⟩
  · unfold rho0 L2.start
    rw [List.length_append, List.length_append, List.length_map, List.length_map, List.length_replicate, List.length_replicate]
    omega
  · have e := map_get_val e
    obtain ⟨v, h1, h2⟩ := r.get e
    refine ⟨v, ?_, h2⟩
    unfold L2.start
    have hi : i < vs.length := (List.getElem?_eq_some_iff.mp h1).1
    rw [List.getElem?_append_left (by simpa using hi), List.getElem?_map, h1]
    rfl
section
variable {g : GC} {x : Str} {params : Arguments} {body : List Stmt} {scope : Scope} {f : Addr} {fd : FuncData} {N ps : List Str} {k : Nat} {m : MS}
theorem ok_body {sc : Scope} {nm : Str} {cdv : Value} {A : Around} {outer : List PySem.Env} {s : Shared} {H : Hp} {E : XK} (S : FnScope N ps sc) (hr : Room k (A.deeper (envOfC nm sc s.heap.objs.size f cdv))) :
    Ok g ⟨N, sc, none⟩ k (fun cls d _ H => E cls d H) (cxOf (L2.CX g.K.P g.K.w) g.K.P g.K.w g.K.K g.mg g.base N nm sc f cdv A outer s H E) where
  hP := rfl
  hw := rfl
  hK := rfl
  hmg := rfl
  hbase := rfl
  hN := rfl
  hsc := rfl
  kind := S.kind
  hfn := fun _ _ => rfl
  calm := rfl
  room := hr
  nd := S.nd
  tk := takes_of rfl rfl rfl rfl
  po := passes_of rfl
theorem fd_ok (F : FunD g.K.K x x params body scope [] [] f fd) (S : FnScope N ps scope)
    (hbody : ∀ (W : WX) (X : Cx), Ok g ⟨N, scope, none⟩ k W X → DSs g W [] X body m) : FnOk g.K.P g.K.w g.K.K g.mg g.base (L2.CX g.K.P g.K.w) (k + 1) f fd ps (spD g.K g.mg ps.length (runF N.length m)) := by
  refine F.ok S (fun vs H Q E h => ?_) (fun cdv A outer s H vs Q E hr h => ?_)
  · obtain ⟨F, ds, _, r, hl, _⟩ := h
    rw [r.length, hl]
  · obtain ⟨F0, ds, hs, r, hl, po⟩ := h
    have hpN : ps.length ≤ N.length := by have := congrArg List.length S.pre; rw [List.length_take] at this; omega
    obtain ⟨t, pt, st⟩ := hbody (fun cls d _ H => E cls d H) _ (ok_body (g := g) (E := E) (outer := outer) (H := H) S hr)
    refine ⟨t, pt, ?_⟩
    refine st H F0 H (L2.start N vs) (rho0 N.length ds) _ (env_start hs r (by omega)) ?_
    have gw : ∀ {F' H' : Hp} {σ' : L2.St} {ρ' : Rho}, Gr H F0 F' → Env g.K H F' H' σ' ρ' → Grow F0 H F' H' := fun gr E => ⟨gr.sub, E.subB, E.sub, gr.new⟩
    unfold runF at po
    cases em : m (rho0 N.length ds) with
    | next ρ' => rw [em] at po; exact fun F' H' σ' gr _ E' => po .non F' H' (gw gr E') .non
    | ret d ρ' => rw [em] at po; exact fun v F' H' σ' gr _ E' r => po v F' H' (gw gr E') r
    | brk ρ' => rw [em] at po; exact po.elim
    | cont ρ' => rw [em] at po; exact po.elim
    | exc y ρ' => rw [em] at po; exact fun C F' H' σ' e gr _ E' => po C F' H' e (gw gr E')
    | bad => rw [em] at po; exact po.elim
theorem fd_mk (F : FunD g.K.K x x params body scope [] [] f fd) (S : FnScope N ps scope) (hm : g.mg x = some (.ref f))
    (hb : ∀ (kV doc pm : Value) (an : Option Addr) (cdv ct : Value) (us : List Value), us.length = ps.length → bindArgs (PySem.W.fnOf x x params body scope .none kV doc pm an cdv ct) ⟨us, []⟩ = pure (ps.zip us))
    (hbody : ∀ (W : WX) (X : Cx), Ok g ⟨N, scope, none⟩ k W X → DSs g W [] X body m) : FD g x (k + 1) ps (runF N.length m) :=
  ⟨f, fd, hm, F.kp, F.bindsN hb, fd_ok F S hbody⟩
end

/-! ### raise -/
structure ExF (g : GC) (x : Str) : Prop where
  ex : ∃ C, g.mg x = some (.ref C) ∧ PySem.W.excIn g.K.K C He.veBase "ValueError.__new__" = true ∧ PySem.W.keepIn g.K.K (.ref C) = true ∧ PySem.W.subIn g.K.K (.ref C) (.type "BaseException") = some true ∧ PySem.W.typeIn g.K.K (.ref C) = some (.type "type")
def sRaise (x : Str) : MS := fun ρ => .exc x ρ
section
variable {g : GC} {s : SS} {k : Nat} {W : WX} {pin : List Nat} {X : Cx} {pos p p2 p3 : Pos}
theorem ds_raise (ok : Ok g s k W X) {x m : Str} {j : Nat} (h : ExF g x) (hg : gloB s.sc x = true := by decide +kernel) (hd : (x == ("__debug__" : Str)) = false := by decide +kernel) : DS g W pin X (.Raise (some (.Call (.Name x p) [.Constant (.str m) j p2] [] p3)) none pos) (sRaise x) := by
  obtain ⟨C, hC, q, kC, sb, ty⟩ := h.ex
  refine ⟨_, ps_raise ok.calm ok.tk (pmk_own PySem.F.excBase_ValueError (by rw [ok.hK]; exact q) (by rw [ok.hmg]; exact hC) (by rw [ok.hK]; exact kC) (raises_own (by rw [ok.hK]; exact sb) (by rw [ok.hK]; exact ty)) (ok.glo hg) hd), fun B F H σ ρ D E h => ?_⟩
  exact h C F H σ hC Gr.refl Kp.refl E
end

/-! ### defs that change a list that they are given: script, town, .. -/
inductive FRT where
  | ok (d : D) (ts : List D)
  | exc (s : Str) (ts : List D)
  | bad
structure GrowT (q : Addr) (F H F' H' : Hp) : Prop where
  subF : Sub F F'
  subH : ∀ a o, a ≠ q → H a = some o → H' a = some o
  sub : Sub F' H'
  new : ∀ a, F' a ≠ none → F a ≠ none ∨ H a = none
def PoFT (K : KC) (mg : Str → Option Value) (q : Addr) (F H : Hp) (Q : VK) (E : XK) : FRT → Prop
  | .ok d ts => ∀ v F' H', GrowT q F H F' H' → F' q = none → OR K F' H' q (.lst ts) → Rp K F' v d → Q v H'
  | .exc x ts => ∀ C F' H', mg x = some (.ref C) → GrowT q F H F' H' → F' q = none → OR K F' H' q (.lst ts) → E (.ref C) none H'
  | .bad => False
def spT (K : KC) (mg : Str → Option Value) (n : Nat) (fn : D → List D → List D → FRT) : Sp := fun vs H Q E => ∃ F v0 q vr d0 ts dr, vs = v0 :: .ref q :: vr ∧ Sub F H ∧ Rp K F v0 d0 ∧ F q = none ∧ OR K F H q (.lst ts) ∧ RpA K F vr dr ∧ dr.length + 2 = n ∧ PoFT K mg q F H Q E (fn d0 ts dr)
structure FT (g : GC) (x : Str) (k : Nat) (ps : List Str) (fn : D → List D → List D → FRT) : Prop where
  ex : ∃ f fd, g.mg x = some (.ref f) ∧ PySem.W.keepIn g.K.K (.ref f) = true ∧ Binds g.K.K fd ps [] ∧ FnOk g.K.P g.K.w g.K.K g.mg g.base (L2.CX g.K.P g.K.w) k f fd ps (spT g.K g.mg ps.length fn)
def ownL (ρ : Rho) (j : Nat) : Option (List D) := match ρ[j]? with
  | some (.own (.lst ts)) => some ts
  | _ => none
theorem ownL_of {ρ : Rho} {j : Nat} {ts : List D} (h : ownL ρ j = some ts) : ρ[j]? = some (.own (.lst ts)) := by
  unfold ownL at h
  split at h
  · cases h; assumption
  · cases h
def callT (fn : D → List D → List D → FRT) (d0 : D) (j : Nat) (dr : List D) (ρ : Rho) : MR D := match ownL ρ j with
  | some ts => (match fn d0 ts dr with
    | .ok d ts' => .ok d (ρ.set j (.own (.lst ts')))
    | .exc s ts' => .exc s (ρ.set j (.own (.lst ts')))
    | .bad => .bad)
  | none => .bad
def mCallT (n : Nat) (fn : D → List D → List D → FRT) (m0 : M D) (j : Nat) (mr : M (List D)) : M D := fun ρ => bnd (m0 ρ) fun d0 ρ1 => match ownL ρ1 j with
  | some _ => bnd (mr ρ1) fun dr ρ2 => if dr.length + 2 = n then callT fn d0 j dr ρ2 else .bad
  | none => .bad
section
variable {g : GC} {s : SS} {k : Nat} {W : WX} {pin : List Nat} {X : Cx} {pos p pt : Pos} {e : Expr} {es : List Expr} {m0 : M D} {mr : M (List D)}
/-- behind a call that changed q alone -/
theorem Env.afterT {K : KC} {B F H F' H' : Hp} {σ : L2.St} {ρ : Rho} {j : Nat} {q : Addr} {o : Ob} {ts : List D} (E : Env K B F H σ ρ) (ho : ρ[j]? = some (.own o)) (hs : σ[j]? = some (some (.ref q))) (gt : GrowT q F H F' H') (nq : F' q = none) (hO : OR K F' H' q (.lst ts)) :
    Env K B F' H' σ (ρ.set j (.own (.lst ts))) ∧ Gr B F F' := by
  obtain ⟨q', h1, h2, h3, h4⟩ := E.own j o ho
  rw [hs] at h1; cases h1
  have hl : j < ρ.length := (List.getElem?_eq_some_iff.mp ho).1
  have subB : Sub B H' := fun a u e => gt.subH a u (fun z => by rw [z, h3] at e; cases e) (E.subB a u e)
  refine ⟨⟨subB, gt.sub, by simp [E.len], fun i d e => ?_, fun i o1 e => ?_, fun i i' o1 o2 q' hii e1 e2 e3 e4 => ?_⟩, gt.subF, fun a h => (gt.new a h).imp id fun z => E.subB.nn z⟩
  · by_cases hj : j = i
    · subst hj; rw [List.getElem?_set_self hl] at e; cases e
    · rw [List.getElem?_set_ne hj] at e
      obtain ⟨v, a1, a2⟩ := E.val i d e
      exact ⟨v, a1, a2.mono gt.subF⟩
  · by_cases hj : j = i
    · subst hj; rw [List.getElem?_set_self hl] at e; cases e
      exact ⟨q, hs, nq, h3, hO⟩
    · rw [List.getElem?_set_ne hj] at e
      obtain ⟨q2, a1, a2, a3, a4⟩ := E.own i o1 e
      have ne : q2 ≠ q := fun z => by subst z; exact E.inj j i o o1 q2 hj ho e hs a1
      obtain ⟨u, hu⟩ := a4.ex
      refine ⟨q2, a1, ?_, a3, a4.mono gt.subF (by rw [gt.subH q2 u ne hu, hu])⟩
      cases z : F' q2 with
      | none => rfl
      | some y =>
        rcases gt.new q2 (by rw [z]; exact fun z => nomatch z) with b | b
        · exact absurd a2 b
        · rw [hu] at b; cases b
  · have gg : ∀ (i : Nat) (o1 : Ob), (ρ.set j (.own (.lst ts)))[i]? = some (.own o1) → ∃ o3, ρ[i]? = some (.own o3) := fun i o1 e => by
      by_cases hj : j = i
      · subst hj; exact ⟨_, ho⟩
      · rw [List.getElem?_set_ne hj] at e; exact ⟨_, e⟩
    obtain ⟨x1, f1⟩ := gg i o1 e1
    obtain ⟨x2, f2⟩ := gg i' o2 e2
    exact E.inj i i' x1 x2 q' hii f1 f2 e3 e4
theorem dm_callTown (ok : Ok g s k W X) {x tn : Str} {jj : Nat} {ps : List Str} {fn : D → List D → List D → FRT} (F : FT g x jj ps fn) (h0 : DM g W X e m0) (j' : Nat) (hr : DA g W X es mr) (hN : s.N[j']? = some tn := by rfl) (hv : visB s.sc tn = true := by decide +kernel) (hdt : (tn == ("__debug__" : Str)) = false := by decide +kernel)
    (hcd : (tn == ("__classdict__" : Str)) = false := by decide +kernel) (hj : jj ≤ k := by decide) (hg : gloB s.sc x = true := by decide +kernel) (hd : (x == ("__debug__" : Str)) = false := by decide +kernel)
    (he : starEach (e :: .Name tn pt :: es) X.env = (false, eval e X.env) :: starEach (.Name tn pt :: es) X.env := by rfl) (he2 : starEach (.Name tn pt :: es) X.env = (false, eval (.Name tn pt) X.env) :: starEach es X.env := by rfl) (hpl : (backTo pos (starEach (.Name tn pt :: es) X.env)).any (·.1) = false := by rfl) :
    DM g W X (.Call (.Name x p) (e :: .Name tn pt :: es) [] pos) (mCallT ps.length fn m0 j' mr) := by
  obtain ⟨f, fd, hm, hk, hb, fo⟩ := F.ex
  obtain ⟨t0, p0, s0⟩ := h0
  obtain ⟨tr, pr, sr⟩ := hr
  have fo' : FnOk X.prog X.w X.K X.mg X.base (L2.CX X.prog X.w) jj f fd ps (spT g.K g.mg ps.length fn) := by
    rw [ok.hP, ok.hw, ok.hK, ok.hmg, ok.hbase]; exact fo
  refine ⟨_, pe_callS (E := WE W) fo' (ok.room.mono hj) (ok.glo hg) (by rw [ok.hmg]; exact hm) (by rw [ok.hK]; exact hk) (by rw [ok.hK]; exact hb) (fun σ => passAt ok.tk σ) (pa_cons p0 (pa_cons (pe_var (ok.at hN) (ok.vis hv) hdt hcd) pr he2) he) hd he hpl, fun B F H σ ρ Q E h => ?_⟩
  refine s0.then (R := PoE g.K g.mg W B F σ Q) E (fun x ρ' z => z) (fun z => z) h fun d0 ρ1 v0 F1 H1 g1 E1 r1 h1 => ?_
  have h1 := PoE.later g1 h1
  cases eo : ownL ρ1 j' with
  | none => rw [eo] at h1; exact h1.elim
  | some ts0 =>
  rw [eo] at h1
  simp only at h1
  obtain ⟨q, hq, hq2, hq3, hq4⟩ := E1.own j' _ (ownL_of eo)
  refine ⟨.ref q, hq, ?_⟩
  refine sr.then (R := PoE g.K g.mg W B F1 σ Q) E1 (fun x ρ' z => z) (fun z => z) h1 fun dr ρ2 vr F2 H2 g2 E2 r2 h2 => ?_
  have h2 := PoE.later g2 h2
  by_cases hl : dr.length + 2 = ps.length
  · rw [if_pos hl] at h2
    unfold callT at h2
    cases eo2 : ownL ρ2 j' with
    | none => rw [eo2] at h2; exact h2.elim
    | some ts =>
    rw [eo2] at h2
    simp only at h2
    have ho := ownL_of eo2
    obtain ⟨q2, b1, b2, b3, b4⟩ := E2.own j' _ ho
    rw [hq] at b1; cases b1
    refine ⟨F2, v0, q, vr, d0, ts, dr, rfl, E2.sub, r1.mono g2.sub, b2, b4, r2, hl, ?_⟩
    cases ef : fn d0 ts dr with
    | ok d ts' =>
      rw [ef] at h2
      intro v F' H' gt nq hO r
      obtain ⟨E3, g3⟩ := E2.afterT ho hq gt nq hO
      exact h2 v F' H' g3 E3 r
    | exc y ts' =>
      rw [ef] at h2
      intro C F' H' e gt nq hO
      obtain ⟨E3, g3⟩ := E2.afterT ho hq gt nq hO
      exact h2 C F' H' e g3 E3
    | bad => rw [ef] at h2; exact h2
  · rw [if_neg hl] at h2; exact h2.elim
end
/-! .. by their bodies -/
def rhoT (N : Nat) (d0 : D) (ts : List D) (dr : List D) : Rho := .val d0 :: .own (.lst ts) :: (dr.map .val ++ List.replicate (N - 2 - dr.length) .no)
def runT (N : Nat) (m : MS) (d0 : D) (ts dr : List D) : FRT := match m (rhoT N d0 ts dr) with
  | .ret d ρ' => (match ownL ρ' 1 with
    | some ts' => .ok d ts'
    | none => .bad)
  | .next ρ' => (match ownL ρ' 1 with
    | some ts' => .ok .none ts'
    | none => .bad)
  | .exc s ρ' => (match ownL ρ' 1 with
    | some ts' => .exc s ts'
    | none => .bad)
  | _ => .bad
section
variable {g : GC} {x : Str} {params : Arguments} {body : List Stmt} {scope : Scope} {f : Addr} {fd : FuncData} {N ps : List Str} {k : Nat} {m : MS}
theorem env_startT {K : KC} {F H : Hp} {v0 : V} {q : Addr} {vr : List V} {d0 : D} {ts dr : List D} {N : List Str} (s : Sub F H) (r0 : Rp K F v0 d0) (nq : F q = none) (hO : OR K F H q (.lst ts)) (r : RpA K F vr dr) (hN : dr.length + 2 ≤ N.length) :
    Env K (fun a => if a = q then none else H a) F H (L2.start N (v0 :: .ref q :: vr)) (rhoT N.length d0 ts dr) := by
  have hl := r.length
  refine ⟨fun a o e => ?_, s, ?_, fun i d e => ?_, fun i o e => ?_, fun i j o o' q' hij e1 e2 e3 e4 => ?_⟩
  · have e : (if a = q then none else H a) = some o := e
    split at e
    · cases e
    · exact e
  · unfold rhoT L2.start
    simp only [List.length_cons, List.length_append, List.length_map, List.length_replicate]
    omega
  · unfold L2.start
    match i, e with
    | 0, e => cases e; exact ⟨v0, rfl, r0⟩
    | 1, e => cases e
    | i + 2, e =>
      have e := map_get_val e
      obtain ⟨v, h1, h2⟩ := r.get e
      refine ⟨v, ?_, h2⟩
      have hi : i < vr.length := (List.getElem?_eq_some_iff.mp h1).1
      show (vr.map some ++ _)[i]? = _
      rw [List.getElem?_append_left (by simpa using hi), List.getElem?_map, h1]
      rfl
  · match i, e with
    | 0, e => cases e
    | 1, e => cases e; exact ⟨q, rfl, nq, by simp, hO⟩
    | i + 2, e => exact (map_get_own e).elim
  · have one : ∀ (i : Nat) (o : Ob), (rhoT N.length d0 ts dr)[i]? = some (.own o) → i = 1 := fun i o e => by
      match i, e with
      | 0, e => cases e
      | 1, _ => rfl
      | i + 2, e => exact (map_get_own e).elim
    exact hij ((one i o e1).trans (one j o' e2).symm)
theorem ft_mk (F : FunD g.K.K x x params body scope [] [] f fd) (S : FnScope N ps scope) (hm : g.mg x = some (.ref f))
    (hb : ∀ (kV doc pm : Value) (an : Option Addr) (cdv ct : Value) (us : List Value), us.length = ps.length → bindArgs (PySem.W.fnOf x x params body scope .none kV doc pm an cdv ct) ⟨us, []⟩ = pure (ps.zip us))
    (hbody : ∀ (W : WX) (X : Cx), Ok g ⟨N, scope, none⟩ k W X → DSs g W [1] X body m) : FT g x (k + 1) ps (runT N.length m) := by
  refine ⟨f, fd, hm, F.kp, F.bindsN hb, F.ok S (fun vs H Q E h => ?_) (fun cdv A outer s H vs Q E hr h => ?_)⟩
  · obtain ⟨F, v0, q, vr, d0, ts, dr, rfl, _, _, _, _, r, hl, _⟩ := h
    simp only [List.length_cons]
    rw [r.length]; omega
  · obtain ⟨F0, v0, q, vr, d0, ts, dr, rfl, hs, r0, nq, hO, r, hl, po⟩ := h
    have hpN : ps.length ≤ N.length := by have := congrArg List.length S.pre; rw [List.length_take] at this; omega
    obtain ⟨t, pt, st⟩ := hbody (fun cls d _ H => E cls d H) _ (ok_body (g := g) (E := E) (outer := outer) (H := H) S hr)
    refine ⟨t, pt, ?_⟩
    refine st _ F0 H (L2.start N (v0 :: .ref q :: vr)) (rhoT N.length d0 ts dr) _ (env_startT hs r0 nq hO r (by omega)) ?_
    have gw : ∀ {F' H' : Hp} {σ' : L2.St} {ρ' : Rho} {ts' : List D}, Gr (fun a => if a = q then none else H a) F0 F' → Kp [1] (L2.start N (v0 :: .ref q :: vr)) σ' → Env g.K (fun a => if a = q then none else H a) F' H' σ' ρ' → ownL ρ' 1 = some ts' →
        GrowT q F0 H F' H' ∧ F' q = none ∧ OR g.K F' H' q (.lst ts') := fun {F' H' σ' ρ' ts'} gr kp E eo => by
      obtain ⟨q', a1, a2, a3, a4⟩ := E.own 1 _ (ownL_of eo)
      have e1 := kp.2 1 (by simp)
      rw [a1] at e1
      cases (show some (some (V.ref q')) = some (some (V.ref q)) from e1)
      refine ⟨⟨gr.sub, fun a o ne e => E.subB a o (by show (if a = q then none else H a) = _; rw [if_neg ne]; exact e), E.sub, fun a h => (gr.new a h).imp id fun z => ?_⟩, a2, a4⟩
      have z : (if a = q then none else H a) = none := z
      split at z
      · rename_i ea; subst ea; exact absurd a2 h
      · exact z
    unfold runT at po
    cases em : m (rhoT N.length d0 ts dr) with
    | next ρ' =>
      rw [em] at po
      simp only at po
      cases eo : ownL ρ' 1 with
      | none => rw [eo] at po; exact po.elim
      | some ts' => rw [eo] at po; exact fun F' H' σ' gr kp E' => po .non F' H' (gw gr kp E' eo).1 (gw gr kp E' eo).2.1 (gw gr kp E' eo).2.2 .non
    | ret d ρ' =>
      rw [em] at po
      simp only at po
      cases eo : ownL ρ' 1 with
      | none => rw [eo] at po; exact po.elim
      | some ts' => rw [eo] at po; exact fun v F' H' σ' gr kp E' r => po v F' H' (gw gr kp E' eo).1 (gw gr kp E' eo).2.1 (gw gr kp E' eo).2.2 r
    | brk ρ' => rw [em] at po; exact po.elim
    | cont ρ' => rw [em] at po; exact po.elim
    | exc y ρ' =>
      rw [em] at po
      simp only at po
      cases eo : ownL ρ' 1 with
      | none => rw [eo] at po; exact po.elim
      | some ts' => rw [eo] at po; exact fun C F' H' σ' e gr kp E' => po C F' H' e (gw gr kp E' eo).1 (gw gr kp E' eo).2.1 (gw gr kp E' eo).2.2
    | bad => rw [em] at po; exact po.elim
end
end DX

set_option maxHeartbeats 1000000
namespace DX
open PySem PySem.Spec PyProof.Rows L2

section
variable {g : GC} {s : SS} {k : Nat} {W : WX} {pin : List Nat} {X : Cx} {pos p px apos cpos : Pos} {a b c e : Expr} {ma mb mc : M D}
/-- a name's place, for a slot of one's own -/
structure Sl (s : SS) (i : Nat) (x : Str) : Prop where
  hN : s.N[i]? = some x := by rfl
  hv : visB s.sc x = true := by decide +kernel
  hd : (x == ("__debug__" : Str)) = false := by decide +kernel
  hcd : (x == ("__classdict__" : Str)) = false := by decide +kernel
theorem Sl.pe {i : Nat} {x : Str} (h : Sl s i x) (ok : Ok g s k W X) : PE X (.Name x pos) (tVar i) := pe_var (ok.at h.hN) (ok.vis h.hv) h.hd h.hcd
/-- an own list as it stands -/
theorem Env.ownLst {K : KC} {B F H : Hp} {σ : L2.St} {ρ : Rho} {i : Nat} {ds : List D} (E : Env K B F H σ ρ) (h : ownL ρ i = some ds) : ∃ q vs, σ[i]? = some (some (.ref q)) ∧ F q = none ∧ B q = none ∧ H q = some (.lst vs) ∧ vs.length ≤ sizeLine ∧ RpA K F vs ds := by
  obtain ⟨q, h1, h2, h3, vs, h4, h5, h6⟩ := E.own i _ (ownL_of h)
  exact ⟨q, vs, h1, h2, h3, h4, h5, h6⟩

/-! x.append(e) -/
def sAppend (i : Nat) (me : M D) : MS := fun ρ => match ownL ρ i with
  | some _ => sBnd (me ρ) fun d ρ1 => (match ownL ρ1 i with
    | some ds => if ds.length < sizeLine then .next (ρ1.set i (.own (.lst (ds ++ [d])))) else .bad
    | none => .bad)
  | none => .bad
theorem ds_append (ok : Ok g s k W X) (i : Nat) {x : Str} (sl : Sl s i x) (he : DM g W X e ma)
    (hfew : ((backTo cpos (starEach [e] X.env)).all (fun x => !x.1) && (backToKw cpos (keywordEach [] X.env)).all (fun x => x.1.isSome)
      && decide ([e].length + ([] : List Keyword).length + (if ([] : List Keyword).isEmpty then 0 else 1) < 30)) = true := by rfl)
    (hline : (apos.endLine == cpos.line) = true := by rfl) (hs : starEach [e] X.env = (false, eval e X.env) :: starEach [] X.env := by rfl) :
    DS g W pin X (.Expr (.Call (.Attribute (.Name x px) "append" apos) [e] [] cpos) pos) (sAppend i ma) := by
  obtain ⟨t, pt, st⟩ := he
  refine ⟨_, ps_expr (pe_bm PySem.F.plainAttrs_list PySem.F.slot_list_append PySem.F.type_list_append mt_append (sl.pe ok) (pa_cons pt pa_nil hs) rfl hfew hline hs rfl), fun B F H σ ρ D E h => ?_⟩
  unfold sAppend at h
  cases e0 : ownL ρ i with
  | none => rw [e0] at h; exact h.elim
  | some ds0 =>
  rw [e0] at h
  simp only at h
  obtain ⟨q, vs0, hq, a2, a3, a4, a5, a6⟩ := E.ownLst e0
  refine ⟨.ref q, hq, .inl ⟨rfl, _, .inl (.inl a4)⟩, ?_⟩
  refine st.thenS E h fun d ρ1 v F1 H1 g1 E1 r1 h1 => ?_
  cases e1 : ownL ρ1 i with
  | none => rw [e1] at h1; exact h1.elim
  | some ds =>
  rw [e1] at h1
  simp only at h1
  obtain ⟨q', vs, hq', b2, b3, b4, b5, b6⟩ := E1.ownLst e1
  rw [hq] at hq'; cases hq'
  by_cases hz : ds.length < sizeLine
  · rw [if_pos hz] at h1
    refine ⟨q, vs, v, rfl, rfl, b4, by rw [b6.length]; exact hz, ?_⟩
    exact h1 F1 _ σ Gr.refl Kp.refl (E1.write (ownL_of e1) hq ⟨vs ++ [v], upd_same, by rw [List.length_append, b6.length]; simp; omega, b6.append (.cons r1 .nil)⟩)
  · rw [if_neg hz] at h1; exact h1.elim

/-! x[e], x an own list -/
def mIxO (i : Nat) (mb : M D) : M D := fun ρ => match ownL ρ i with
  | some _ => bnd (mb ρ) fun d ρ1 => (match ownL ρ1 i with
    | some ds => lft (fIx (.list ds) d) ρ1
    | none => .bad)
  | none => .bad
theorem dm_ixO (ok : Ok g s k W X) (i : Nat) {x : Str} (sl : Sl s i x) (hb : DM g W X b mb) (hs : PlainIx b := by exact fun _ _ => rfl) : DM g W X (.Subscript (.Name x px) b pos) (mIxO i mb) := by
  obtain ⟨tb, pb, sb⟩ := hb
  refine ⟨_, pe_ix ix_seq (sl.pe ok) pb hs, fun B F H σ ρ Q E h => ?_⟩
  unfold mIxO at h
  cases e0 : ownL ρ i with
  | none => rw [e0] at h; exact h.elim
  | some ds0 =>
  rw [e0] at h
  simp only at h
  obtain ⟨q, vs0, hq, _⟩ := E.ownLst e0
  refine ⟨.ref q, hq, ?_⟩
  refine sb.then (R := PoE g.K g.mg W B F σ Q) E (fun x ρ' z => z) (fun z => z) h fun d ρ1 v F1 H1 g1 E1 r1 h1 => ?_
  cases e1 : ownL ρ1 i with
  | none => rw [e1] at h1; exact h1.elim
  | some ds =>
  rw [e1] at h1
  simp only at h1
  obtain ⟨q', vs, hq', b2, b3, b4, b5, b6⟩ := E1.ownLst e1
  rw [hq] at hq'; cases hq'
  cases ef : fIx (.list ds) d with
  | none => rw [ef] at h1; exact h1.elim
  | some z =>
  rw [ef] at h1
  unfold fIx at ef
  split at ef
  · rename_i heq; cases heq
    cases r1
    obtain ⟨v, e2, r2⟩ := b6.atI ef
    exact .inl ⟨q, vs, _, v, rfl, rfl, .inl (.inl b4), e2, h1 v F1 H1 g1 E1 r2⟩
  · rename_i heq; cases heq
  · rename_i heq; cases heq
  · cases ef

/-! a comparison with an own list on one side: the value is a bool -/
/-- the list as if it were frozen -/
theorem Env.asF {K : KC} {B F H : Hp} {σ : L2.St} {ρ : Rho} {i : Nat} {ds : List D} (E : Env K B F H σ ρ) (h : ownL ρ i = some ds) : ∃ q vs, σ[i]? = some (some (.ref q)) ∧ Sub F (upd F q (.lst vs)) ∧ Sub (upd F q (.lst vs)) H ∧ Rp K (upd F q (.lst vs)) (.ref q) (.list ds) := by
  obtain ⟨q, vs, h1, h2, h3, h4, h5, h6⟩ := E.ownLst h
  exact ⟨q, vs, h1, Sub.new h2, E.sub.add h4, .lst (.inl (.inl upd_same)) h5 (h6.mono (Sub.new h2))⟩
theorem Grow.keepF {F F1 H F' H' : Hp} (s : Sub F H) (g : Grow F1 H F' H') : Grow F H F H' := ⟨Sub.refl F, g.subH, s.trans g.subH, fun _ h => .inl h⟩
def onlyB (o : Option D) (ρ : Rho) : MR D := match o with
  | some (.bool b) => .ok (.bool b) ρ
  | _ => .bad
def mCmpOR (f : D → D → Option D) (ma : M D) (i : Nat) : M D := fun ρ => bnd (ma ρ) fun d ρ1 => match ownL ρ1 i with
  | some ds => onlyB (f d (.list ds)) ρ1
  | none => .bad
def mCmpOL (f : D → D → Option D) (i : Nat) (mb : M D) : M D := fun ρ => match ownL ρ i with
  | some _ => bnd (mb ρ) fun d ρ1 => (match ownL ρ1 i with
    | some ds => onlyB (f (.list ds) d) ρ1
    | none => .bad)
  | none => .bad
theorem sim_cmpOR {K : KC} {mg : Str → Option Value} {W : WX} {r : R2} {f : D → D → Option D} {ta : TE} {ma : M D} {i : Nat} (hr : RV2 K r f) (ha : SimE K mg W ta ma) : SimE K mg W (tOp r ta (tVar i)) (mCmpOR f ma i) := by
  intro B F H σ ρ Q E h
  refine ha.then (R := PoE K mg W B F σ Q) E (fun x ρ' z => z) (fun z => z) h fun d ρ1 v F1 H1 g1 E1 r1 h1 => ?_
  have h1 := PoE.later g1 h1
  cases e1 : ownL ρ1 i with
  | none => rw [e1] at h1; exact h1.elim
  | some ds =>
  rw [e1] at h1
  simp only at h1
  obtain ⟨q, vs, hq, s1, s2, rq⟩ := E1.asF e1
  refine ⟨.ref q, hq, ?_⟩
  cases ef : f d (.list ds) with
  | none => rw [ef] at h1; exact h1.elim
  | some z =>
  rw [ef] at h1
  unfold onlyB at h1
  split at h1
  · rename_i hz; cases hz
    refine hr _ H1 v (.ref q) d (.list ds) _ Q s2 (r1.mono s1) rq ef fun y F' H' gw ry => ?_
    cases ry
    have gk := Grow.keepF E1.sub gw
    exact h1 _ F1 H' Gr.refl (E1.grow gk) (.bl _)
  · exact h1.elim
theorem sim_cmpOL {K : KC} {mg : Str → Option Value} {W : WX} {r : R2} {f : D → D → Option D} {tb : TE} {mb : M D} {i : Nat} (hr : RV2 K r f) (hb : SimE K mg W tb mb) : SimE K mg W (tOp r (tVar i) tb) (mCmpOL f i mb) := by
  intro B F H σ ρ Q E h
  unfold mCmpOL at h
  cases e0 : ownL ρ i with
  | none => rw [e0] at h; exact h.elim
  | some ds0 =>
  rw [e0] at h
  simp only at h
  obtain ⟨q, vs0, hq, _⟩ := E.ownLst e0
  refine ⟨.ref q, hq, ?_⟩
  refine hb.then (R := PoE K mg W B F σ Q) E (fun x ρ' z => z) (fun z => z) h fun d ρ1 v F1 H1 g1 E1 r1 h1 => ?_
  have h1 := PoE.later g1 h1
  cases e1 : ownL ρ1 i with
  | none => rw [e1] at h1; exact h1.elim
  | some ds =>
  rw [e1] at h1
  simp only at h1
  obtain ⟨q', vs, hq', s1, s2, rq⟩ := E1.asF e1
  rw [hq] at hq'; cases hq'
  cases ef : f (.list ds) d with
  | none => rw [ef] at h1; exact h1.elim
  | some z =>
  rw [ef] at h1
  unfold onlyB at h1
  split at h1
  · rename_i hz; cases hz
    refine hr _ H1 (.ref q) v (.list ds) d _ Q s2 rq (r1.mono s1) ef fun y F' H' gw ry => ?_
    cases ry
    have gk := Grow.keepF E1.sub gw
    exact h1 _ F1 H' Gr.refl (E1.grow gk) (.bl _)
  · exact h1.elim
theorem dm_cmpOR (ok : Ok g s k W X) {op : CmpOp} {f : D → D → Option D} (hc : CmpR g X op f) (ha : DM g W X a ma) (i : Nat) {x : Str} (sl : Sl s i x) (hm : behindInMarks op (.Name x px) = false := by first | exact nomark _ | rfl) : DM g W X (.Compare a [op] [.Name x px] pos) (mCmpOR f ma i) := by
  obtain ⟨r, ho, hr⟩ := hc.ex
  obtain ⟨ta, pa, sa⟩ := ha
  exact ⟨_, pe_cmpR ho pa (sl.pe ok) hm, sim_cmpOR hr sa⟩
theorem dt_cmpOR (ok : Ok g s k W X) {op : CmpOp} {f : D → D → Option D} (hc : CmpR g X op f) (ha : DM g W X a ma) (i : Nat) {x : Str} (sl : Sl s i x) (hm : behindInMarks op (.Name x px) = false := by first | exact nomark _ | rfl) : DT g W X (.Compare a [op] [.Name x px] pos) (asB (mCmpOR f ma i)) := by
  obtain ⟨r, ho, hr⟩ := hc.ex
  obtain ⟨ta, pa, sa⟩ := ha
  exact ⟨_, pt_cmpR ho pa (sl.pe ok) hm, (sim_cmpOR hr sa).test⟩
theorem dm_cmpOL (ok : Ok g s k W X) {op : CmpOp} {f : D → D → Option D} (hc : CmpR g X op f) (i : Nat) {x : Str} (sl : Sl s i x) (hb : DM g W X b mb) (hm : behindInMarks op b = false := by first | exact nomark _ | rfl) : DM g W X (.Compare (.Name x px) [op] [b] pos) (mCmpOL f i mb) := by
  obtain ⟨r, ho, hr⟩ := hc.ex
  obtain ⟨tb, pb, sb⟩ := hb
  exact ⟨_, pe_cmpR ho (sl.pe ok) pb hm, sim_cmpOL hr sb⟩
theorem dt_cmpOL (ok : Ok g s k W X) {op : CmpOp} {f : D → D → Option D} (hc : CmpR g X op f) (i : Nat) {x : Str} (sl : Sl s i x) (hb : DM g W X b mb) (hm : behindInMarks op b = false := by first | exact nomark _ | rfl) : DT g W X (.Compare (.Name x px) [op] [b] pos) (asB (mCmpOL f i mb)) := by
  obtain ⟨r, ho, hr⟩ := hc.ex
  obtain ⟨tb, pb, sb⟩ := hb
  exact ⟨_, pt_cmpR ho (sl.pe ok) pb hm, (sim_cmpOL hr sb).test⟩

/-! len(x) -/
def mLenO (i : Nat) : M D := fun ρ => match ownL ρ i with
  | some ds => .ok (.int ds.length) ρ
  | none => .bad
theorem dm_lenO (ok : Ok g s k W X) (bf : BF g) (i : Nat) {x : Str} (sl : Sl s i x) (hg : gloB s.sc "len" = true := by decide +kernel) : DM g W X (.Call (.Name "len" p) [.Name x px] [] pos) (mLenO i) := by
  refine ⟨_, pe_callB call_len (ok.glo hg) (by rw [ok.hmg]; exact bf.len) PySem.boot_len (pa_cons (sl.pe ok) pa_nil) (by decide +kernel) (by decide +kernel) rfl rfl, fun B F H σ ρ Q E h => ?_⟩
  unfold mLenO at h
  cases e0 : ownL ρ i with
  | none => rw [e0] at h; exact h.elim
  | some ds =>
  rw [e0] at h
  simp only at h
  obtain ⟨q, vs, hq, b2, b3, b4, b5, b6⟩ := E.ownLst e0
  refine ⟨.ref q, hq, .ref q, vs.length, rfl, .inl ⟨vs, .inl (.inl b4), rfl⟩, ?_⟩
  rw [b6.length]
  exact h _ F H Gr.refl E (.int _)

/-! x + e, x an own list: a new list -/
def mCatO (i : Nat) (mb : M D) : M Ob := fun ρ => match ownL ρ i with
  | some _ => bnd (mb ρ) fun d ρ1 => (match ownL ρ1 i with
    | some ds => lft (fCat (.list ds) d) ρ1
    | none => .bad)
  | none => .bad
theorem dl_catO (ok : Ok g s k W X) (i : Nat) {x : Str} (sl : Sl s i x) (hb : DM g W X b mb) : DL g W X (.BinOp (.Name x px) .Add b pos) (mCatO i mb) := by
  obtain ⟨tb, pb, sb⟩ := hb
  refine ⟨_, pe_op op_catR (sl.pe ok) pb, fun B F H σ ρ Q E h => ?_⟩
  unfold mCatO at h
  cases e0 : ownL ρ i with
  | none => rw [e0] at h; exact h.elim
  | some ds0 =>
  rw [e0] at h
  simp only at h
  obtain ⟨q, vs0, hq, _⟩ := E.ownLst e0
  refine ⟨.ref q, hq, ?_⟩
  refine sb.then (R := PoL g.K g.mg W B F σ Q) E (fun x ρ' z => z) (fun z => z) h fun d ρ1 v F1 H1 g1 E1 r1 h1 => ?_
  have h1 := PoL.later g1 h1
  cases e1 : ownL ρ1 i with
  | none => rw [e1] at h1; exact h1.elim
  | some ds =>
  rw [e1] at h1
  simp only at h1
  obtain ⟨q', vs, hq', b2, b3, b4, b5, b6⟩ := E1.ownLst e1
  rw [hq] at hq'; cases hq'
  cases ef : fCat (.list ds) d with
  | none => rw [ef] at h1; exact h1.elim
  | some z =>
  rw [ef] at h1
  unfold fCat at ef
  split at ef
  · rename_i heq; cases heq
    split at ef
    · rename_i hz
      cases ef
      cases r1 with
      | lst h2 z2 r2 =>
      rename_i p2 ys
      refine ⟨q, p2, vs, ys, rfl, rfl, .inl (.inl b4), by rw [ok.hK]; exact h2.mono E1.sub, by rw [b6.length, r2.length]; exact hz, fun p np => ?_⟩
      have gw : Grow F1 H1 F1 (upd H1 p (.lst (vs ++ ys))) := Grow.made E1.sub np
      exact h1 p F1 _ Gr.refl (E1.grow gw) (E1.sub.nn np) (E1.subB.nn np) ⟨_, upd_same, by rw [List.length_append, b6.length, r2.length]; exact hz, b6.append r2⟩ (fresh_own E1 np)
    · cases ef
  · cases ef

/-! x[i] = e, x an own list -/
def sPutO (i : Nat) (mj : M D) (me : M D) : MS := fun ρ => sBnd (me ρ) fun d ρ1 => (match ownL ρ1 i with
  | some _ => sBnd (mj ρ1) fun j ρ2 => (match j, ownL ρ2 i with
    | .int jj, some ds => (match ixN ds.length jj with
      | some n => .next (ρ2.set i (.own (.lst (ds.set n d))))
      | none => .bad)
    | _, _ => .bad)
  | none => .bad)
theorem ds_putO (ok : Ok g s k W X) (i : Nat) {x : Str} (sl : Sl s i x) (hj : DM g W X b mb) (he : DM g W X e ma)
    (ha : ∀ v, assign (.Subscript (.Name x px) b p) X.env v = (do
      let ov ← holding [v] (eval (.Name x px) X.env)
      let iv ← holding [v, ov] (eval b X.env)
      standAt p
      holding [v, ov, iv] (setItem ov iv v)
      release [v, ov, iv] []) := by intro _; rfl)
    (hs : swapsWithSole [.Subscript (.Name x px) b p] e pos.line X.env = pure false := by rfl) (hw : swappedStores [.Subscript (.Name x px) b p] e X.env = pure none := by rfl) (h1 : (assignEach [.Subscript (.Name x px) b p] X.env).map (·.2) = [assign (.Subscript (.Name x px) b p) X.env] := by rfl) :
    DS g W pin X (.Assign [.Subscript (.Name x px) b p] e pos) (sPutO i mb ma) := by
  obtain ⟨tj, pj, sj⟩ := hj
  obtain ⟨te, pe, se⟩ := he
  refine ⟨_, ps_asg pe (pg_sub (sl.pe ok) pj set_list ha) hs hw h1, fun B F H σ ρ D E h => ?_⟩
  refine se.thenS E h fun d ρ1 v F1 H1 g1 E1 r1 h1 => ?_
  cases e1 : ownL ρ1 i with
  | none => rw [e1] at h1; exact h1.elim
  | some ds0 =>
  rw [e1] at h1
  simp only at h1
  obtain ⟨q, vs0, hq, _⟩ := E1.ownLst e1
  refine ⟨.ref q, hq, ?_⟩
  refine sj.thenS E1 h1 fun j ρ2 w F2 H2 g2 E2 r2 h2 => ?_
  cases e2 : ownL ρ2 i with
  | none => rw [e2] at h2; cases j <;> exact h2.elim
  | some ds =>
  rw [e2] at h2
  cases r2 <;> first
    | exact False.elim h2
    | skip
  rename_i jj
  simp only at h2
  obtain ⟨q', vs, hq', b2, b3, b4, b5, b6⟩ := E2.ownLst e2
  rw [hq] at hq'; cases hq'
  cases en : ixN ds.length jj with
  | none => rw [en] at h2; exact h2.elim
  | some n =>
  rw [en] at h2
  refine ⟨q, vs, jj, n, rfl, rfl, b4, by rw [b6.length]; exact en, ?_⟩
  exact h2 F2 _ σ Gr.refl Kp.refl (E2.write (ownL_of e2) hq ⟨vs.set n v, upd_same, by rw [List.length_set]; exact b5, RpA.set (r1.mono g2.sub) n b6⟩)
end
end DX

set_option maxHeartbeats 1000000
namespace DX
open PySem PySem.Spec PyProof.Rows L2

/-! ### dicts with tuples as keys, by their objects -/
section
variable {P : Program} {w : World} {H : Hp} {h : Heap} {a : Addr}
theorem dicAt_stay {es : List DEnt} : ∀ h1 h2 : Heap, DicAt P w a es h1 → (∀ o, h1.get? a = some o → h2.get? a = some o) → DicAt P w a es h2 := fun h1 h2 d k => by
  obtain ⟨z, y, xs, r, o, ds, ep, e, c⟩ := d
  exact ⟨z, y, xs, r, o, ds, ep, k o e, c⟩
theorem dicAt_ok {es : List DEnt} (d : DicAt P w a es h) : ObjOk P w H h a (DicO P w a es) := by
  refine ⟨d, ?_, dicAt_stay⟩
  obtain ⟨z, y, xs, r, o, ds, ep, e, c⟩ := d
  exact ⟨o, e⟩
theorem keyZ {ks : List Key} {b : Addr} {o : Obj} (ok : HOk P w H h) (e : H b = some (.frz o (.tup (ks.map kV)))) : (tupleKind (mixKind P w)).is h ks b := by
  obtain ⟨_, _, its, r, ob, h1, h2, n, h3⟩ := (show ObjOk P w H h b (.frz o (.tup (ks.map kV))) from ok b _ e)
  exact ⟨ob, its.toArray, n, h1, h2, h3, by simpa using items_are r⟩
/-- what the model's rules ask of such a dict -/
theorem dicZ {es : List DEnt} (ok : HOk P w H h) (e : H a = some (DicO P w a es)) (hk : ∀ x ∈ es, ∃ o, H x.b = some (.frz o (.tup (x.k.map kV)))) :
    es.length ≤ sizeLine ∧ (a == sysModules) = false ∧ ∃ xs, Paired DRel es xs ∧ h.DictOfH (tupleKind (mixKind P w)) a xs := by
  obtain ⟨⟨z, y, xs, r, o, ds, ep, h1, h2, h3, h4, h5⟩, _, _⟩ := (show ObjOk P w H h a (DicO P w a es) from ok a _ e)
  refine ⟨z, y, xs, r, o, ds, ep, h1, h2, h3, h4, fun x hx => ?_, h5⟩
  have all : ∀ {l : List DEnt} {m : List (List Key × Addr × Value)}, Paired DRel l m → (∀ x ∈ l, ∃ o, H x.b = some (.frz o (.tup (x.k.map kV)))) → ∀ x ∈ m, (tupleKind (mixKind P w)).is h x.1 x.2.1 := by
    intro l m q
    induction q with
    | nil => intro _ x hx; exact nomatch hx
    | @cons p q ps qs hq t ih =>
      intro hl x hx
      rcases List.mem_cons.mp hx with e | hx
      · subst e
        obtain ⟨o, ho⟩ := hl p List.mem_cons_self
        rw [← hq.1, ← hq.2.1]
        exact keyZ ok ho
      · exact ih (fun y hy => hl y (List.mem_cons_of_mem _ hy)) x hx
  exact all r hk x hx
end
/-! entries -/
def findE (es : List DEnt) (k : List Key) : Option V := (es.find? fun e => decide (e.k = k)).map DEnt.v
def putE (es : List DEnt) (k : List Key) (b : Addr) (v : V) : List DEnt := if (findE es k).isSome then es.map (fun e => if e.k = k then ⟨e.k, e.b, v⟩ else e) else es ++ [⟨k, b, v⟩]
theorem findE_rel : ∀ {es : List DEnt} {xs : List (List Key × Addr × Value)}, Paired DRel es xs → ∀ k, RelO (findE es k) ((atKey xs k).map (·.2))
  | _, _, .nil, k => True.intro
  | _, _, .cons (a := e) (b := x) (l₁ := es) (l₂ := xs) h t, k => by
    by_cases hk : e.k = k
    · have hx : x.1 = k := h.1.symm.trans hk
      have e1 : findE (e :: es) k = some e.v := by simp [findE, List.find?_cons, hk]
      have e2 : atKey (x :: xs) k = some x.2 := by simp [atKey, List.find?_cons, hx]
      rw [e1, e2]; exact h.2.2
    · have hx : ¬ x.1 = k := fun z => hk (h.1.trans z)
      have e1 : findE (e :: es) k = findE es k := by simp [findE, List.find?_cons, hk]
      have e2 : atKey (x :: xs) k = atKey xs k := by simp [atKey, List.find?_cons, hx]
      rw [e1, e2]; exact findE_rel t k
theorem putE_rel {es : List DEnt} {xs : List (List Key × Addr × Value)} (r : Paired DRel es xs) (k : List Key) (b : Addr) {v : V} {u : Value} (rv : RelV v u) : Paired DRel (putE es k b v) (storedH xs k b u) := by
  have e : (findE es k).isSome = (atKey xs k).isSome := by rw [(findE_rel r k).isSome_eq, Option.isSome_map]
  unfold putE storedH
  rw [e]
  by_cases q : (atKey xs k).isSome = true
  · rw [if_pos q, if_pos q]
    clear e q
    induction r with
    | nil => exact .nil
    | @cons p y ps ys h t ih =>
      rw [List.map_cons, List.map_cons]
      refine .cons ?_ ih
      unfold putAt
      by_cases hk : p.k = k
      · rw [if_pos hk, if_pos (h.1.symm.trans hk)]; exact ⟨h.1, h.2.1, rv⟩
      · rw [if_neg hk, if_neg (fun z => hk (h.1.trans z))]; exact h
  · rw [if_neg q, if_neg q]; exact Paired.snoc r ⟨rfl, rfl, rv⟩
theorem putE_len (es : List DEnt) (k : List Key) (b : Addr) (v : V) : (putE es k b v).length ≤ es.length + 1 := by
  unfold putE
  split
  · rw [List.length_map]; omega
  · rw [List.length_append]; simp

/-! rules by values -/
/-- the key at b -/
def KeyAt (H : Hp) (b : Addr) (k : List Key) : Prop := ∃ o, H b = some (.frz o (.tup (k.map kV)))
def DicH (P : Program) (w : World) (H : Hp) (a : Addr) (es : List DEnt) : Prop := H a = some (DicO P w a es) ∧ ∀ x ∈ es, ∃ o, H x.b = some (.frz o (.tup (x.k.map kV)))
section
variable {X : Cx}
def rInT (P : Program) (w : World) (neg : Bool) : R2 := fun x y H Q => ∃ a b es k, x = .ref b ∧ y = .ref a ∧ KeyAt H b k ∧ DicH P w H a es ∧ Q (.bl (xor neg (findE es k).isSome)) H
theorem op_inT (hu : X.A.units + 65 < cLine) : OpR X (compareOp .In) (rInT X.prog X.w false) := by
  intro pins s σ H x y v u Q I rx ry h
  obtain ⟨a, b, es, k, rfl, rfl, ⟨o, hk⟩, ⟨hd, he⟩, q⟩ := h
  rw [Bool.false_xor] at q
  cases rx
  cases ry
  obtain ⟨z, hm, xs, rel, dd⟩ := dicZ I.hok hd he
  refine wpAny_in_heap (tupleKind_room_in1 (by omega)) (keyZ I.hok hk) hm dd ?_
  have e := (findE_rel rel k).isSome_eq
  rw [Option.isSome_map] at e
  rw [← e]
  exact ⟨.bl _, H, I.tok _, rfl, q⟩
theorem op_notInT (hu : X.A.units + 65 < cLine) : OpR X (compareOp .NotIn) (rInT X.prog X.w true) := by
  intro pins s σ H x y v u Q I rx ry h
  obtain ⟨a, b, es, k, rfl, rfl, ⟨o, hk⟩, ⟨hd, he⟩, q⟩ := h
  rw [Bool.true_xor] at q
  cases rx
  cases ry
  obtain ⟨z, hm, xs, rel, dd⟩ := dicZ I.hok hd he
  refine wpAny_notIn_heap (tupleKind_room_in1 (by omega)) (keyZ I.hok hk) hm dd ?_
  have e := (findE_rel rel k).isSome_eq
  rw [Option.isSome_map] at e
  rw [← e]
  exact ⟨.bl _, H, I.tok _, rfl, q⟩
/-- d[k] = v -/
def rSetT (P : Program) (w : World) : V → V → V → Hp → (Hp → Prop) → Prop := fun o i v H Q => ∃ a b es k, o = .ref a ∧ i = .ref b ∧ KeyAt H b k ∧ DicH P w H a es ∧ es.length < sizeLine ∧ Q (upd H a (DicO P w a (putE es k b v)))
theorem set_T (hu : X.A.units + 65 < cLine) : PSet X (rSetT X.prog X.w) := by
  intro pins s σ H o i v ov iv u Q I ro ri rv h
  obtain ⟨a, b, es, k, rfl, rfl, ⟨ob, hk⟩, ⟨hd, he⟩, hl, q⟩ := h
  cases ro
  cases ri
  obtain ⟨z, hm, xs, rel, dd⟩ := dicZ I.hok hd he
  have hz : xs.length ≤ sizeLine := by rw [← Paired.length rel]; exact z
  have hl' : (putE es k b v).length ≤ sizeLine := by have := putE_len es k b v; omega
  refine wpAny_setItem_heap (hsz := hz) (tupleKind_room_in1 (by omega)) (keyZ I.hok hk) dd fun h' dd' hs => ⟨_, ?_, q⟩
  obtain ⟨ob', es', ep, hq, h2, h3, h4, _, h5⟩ := dd'
  exact d_write I (by rw [hd]; exact True.intro) hs ⟨ob', hq⟩ (dicAt_ok ⟨hl', hm, _, putE_rel rel k b rv, ob', es', ep, hq, h2, h3, h4, h5⟩)
end

/-! ### dict(l), l a list of pairs (tuple, value) -/
def mergedH (acc : List (List Key × Addr × Value)) (rest : List (List Key × Addr × Value)) : List (List Key × Addr × Value) := rest.foldl (fun a q => storedH a q.1 q.2.1 q.2.2) acc
theorem storedH_len (xs : List (List Key × Addr × Value)) (k : List Key) (b : Addr) (u : Value) : (storedH xs k b u).length ≤ xs.length + 1 := by
  unfold storedH
  split
  · rw [List.length_map]; omega
  · rw [List.length_append]; simp
theorem isK_keeps {prog : Program} {w : World} {h h' : Heap} {ks : List Key} {b : Addr} (x : (tupleKind (mixKind prog w)).is h ks b) (k : ∀ o, h.get? b = some o → h'.get? b = some o) : (tupleKind (mixKind prog w)).is h' ks b := by
  obtain ⟨o, its, n, e, c⟩ := x
  exact ⟨o, its, n, k o e, c⟩
theorem dictH_keeps {prog : Program} {w : World} {h h' : Heap} {S : Addr} {acc : List (List Key × Addr × Value)} (x : h.DictOfH (tupleKind (mixKind prog w)) S acc) (kS : ∀ o, h.get? S = some o → h'.get? S = some o) (kx : ∀ x ∈ acc, ∀ o, h.get? x.2.1 = some o → h'.get? x.2.1 = some o) :
    h'.DictOfH (tupleKind (mixKind prog w)) S acc := by
  obtain ⟨o, es, ep, e, c1, c2, c3, c4, c5⟩ := x
  exact ⟨o, es, ep, kS o e, c1, c2, c3, fun y hy => isK_keeps (c4 y hy) (kx y hy), c5⟩
theorem storedH_keys {xs : List (List Key × Addr × Value)} {k : List Key} {b : Addr} {u : Value} {P : Addr → Prop} (h : ∀ x ∈ xs, P x.2.1) (hb : P b) : ∀ x ∈ storedH xs k b u, P x.2.1 := by
  intro x hx
  unfold storedH at hx
  split at hx
  · obtain ⟨y, hy, e⟩ := List.mem_map.mp hx
    unfold putAt at e
    split at e
    · rw [← e]; exact h y hy
    · rw [← e]; exact h y hy
  · rcases List.mem_append.mp hx with hx | hx
    · exact h x hx
    · simp at hx; rw [hx]; exact hb
section
variable {prog : Program} {w : World} {A : Around} {E : Value → Shared → Prop}
theorem upd_loopT {R : Result → Shared → Prop} {S I l : Addr} {items : Array Value} {res : Value} (hh : A.handled = none) (hu : A.units + 3 < cLine) (hlI : l ≠ I) (hSI : S ≠ I) (hSl : S ≠ l) :
    ∀ (rest : List (List Key × Addr × Value)) (i : Nat) (acc : List (List Key × Addr × Value)) (ix : Int) (t : Tok) (s : Shared), items.size = i + rest.length → acc.length + rest.length ≤ sizeLine →
      (∀ (j : Nat) (q : List Key × Addr × Value), rest[j]? = some q → ∃ (b : Addr), items[i + j]? = some (.ref b) ∧ b ≠ S ∧ b ≠ I ∧ q.2.1 ≠ S ∧ q.2.1 ≠ I ∧ IsTup s.heap b #[.ref q.2.1, q.2.2] ∧ (tupleKind (mixKind prog w)).is s.heap q.1 q.2.1) →
      s.heap.IsListIter I l i → s.heap.IsList l items → s.heap.DictOfH (tupleKind (mixKind prog w)) S acc → (∀ x ∈ acc, x.2.1 ≠ I ∧ x.2.1 ≠ S) →
      (∀ h' tk, h'.DictOfH (tupleKind (mixKind prog w)) S (mergedH acc rest) → (∀ b o, b ≠ S → b ≠ I → s.heap.get? b = some o → h'.get? b = some o) → R (.ok (.ret res)) { s with heap := h', toks := tk }) →
      codeAny (model prog w) A (.builtin "dict.update.loop" ⟨[.ref S, .ref I, .int ix t, res], []⟩) R s
  | [], i, acc, ix, t, s, hsz, hln, ht, hit, hl, hm, hacc, hR => by
    refine codeAny_builtin ud_entry ?_
    rw [Around.under_plainId ud_plain _]
    show wpAny _ A.in1 (pyNext (.ref I) >>= _) _ _ s
    refine wpAny_bind (wpAny_pyNext_list_end (A := A.in1) hh hit hl (by first | exact Array.getElem?_eq_none (Nat.le_of_eq hsz) | (simp at hsz; simp; omega)) fun h' he => ?_)
    show wpAny _ A.in1 (Builtin.Dict.addKeywords S [] >>= _) _ _ _
    refine wpAny_bind (wpAny_pure (wpAny_pure ?_))
    exact hR h' s.toks (dictH_keeps hm (fun o e => he S o hSI e) fun x hx o e => he _ o (hacc x hx).1 e) fun b o _ hb e => he b o hb e
  | q :: rest, i, acc, ix, t, s, hsz, hln, ht, hit, hl, hm, hacc, hR => by
    obtain ⟨b, hb, hbS, hbI, hqS, hqI, htup, hk⟩ := ht 0 q rfl
    rw [List.length_cons] at hsz hln
    refine codeAny_builtin ud_entry ?_
    rw [Around.under_plainId ud_plain _]
    show wpAny _ A.in1 (pyNext (.ref I) >>= _) _ _ s
    refine wpAny_bind (wpAny_pyNext_list_item (x := .ref b) hit hl (by simpa using hb) fun h1 hit1 hs1 => ?_)
    have ht1 : IsTup h1 b #[.ref q.2.1, q.2.2] := htup.extBut hs1.extBut hbI
    have hl1 : h1.IsList l items := hl.extBut hs1.extBut hlI
    have hm1 : h1.DictOfH (tupleKind (mixKind prog w)) S acc := dictH_keeps hm (fun o e => hs1.extBut S o hSI e) fun x hx o e => hs1.extBut _ o (hacc x hx).1 e
    have hk1 : (tupleKind (mixKind prog w)).is h1 q.1 q.2.1 := isK_keeps hk fun o e => hs1.extBut _ o hqI e
    obtain ⟨o, ho, hc, n, hd⟩ := id ht1
    show wpAny _ A.in1 (holding [Value.ref b] _ >>= _) _ _ _
    refine wpAny_bind (wpAny_holding ?_)
    refine wpAny_bind (wpAny_tryCatch ?_)
    unfold Builtin.Dict.pairItems
    refine wpAny_bind (wpAny_typeOf (T := "tuple") ⟨o, ho, hc⟩ ?_)
    rw [if_pos (by first | decide | rfl | simp)]
    refine wpAny_bind (wpAny_seqItems ho hd (wpAny_pure ?_))
    show wpAny _ A.in1 (holding [Value.ref q.2.1, q.2.2] (dictSet S (.ref q.2.1) q.2.2)) _ _ _
    refine wpAny_holding (wpAny_dictSet_heap (knd := tupleKind (mixKind prog w)) (k := q.1) (by show A.units + 1 < cLine; omega) hk1 hm1 (fun h2 hm2 hs2 => ?_) (by omega))
    refine wpAny_pure ⟨plainId_quiet ud_plain _, upd_loopT (items := items) hh hu hlI hSI hSl rest (i + 1) (storedH acc q.1 q.2.1 q.2.2) (ix + 1) 0 _ (show items.size = i + 1 + rest.length by omega) ?_ (fun j q' e => ?_) ?_ ?_ hm2 ?_ fun h' tk hd' k => ?_⟩
    · have z := storedH_len acc q.1 q.2.1 q.2.2
      omega
    · obtain ⟨b', hb', hbS', hbI', hqS', hqI', htup', hk'⟩ := ht (j + 1) q' (by simpa using e)
      refine ⟨b', ?_, hbS', hbI', hqS', hqI', (htup'.extBut hs1.extBut hbI').extBut hs2.extBut hbS', isK_keeps (isK_keeps hk' fun o e => hs1.extBut _ o hqI' e) fun o e => hs2.extBut _ o hqS' e⟩
      rw [show i + 1 + j = i + (j + 1) by omega]
      exact hb'
    · exact hit1.at fun o' e => hs2.extBut I o' (Ne.symm hSI) e
    · exact hl1.extBut hs2.extBut (Ne.symm hSl)
    · exact storedH_keys (P := fun a => a ≠ I ∧ a ≠ S) hacc ⟨hqI, hqS⟩
    · exact hR h' tk hd' fun c oc h3 h4 e => k c oc h3 h4 (hs2.extBut c oc h3 (hs1.extBut c oc h4 e))

/-- dict(l) of a list of pairs -/
theorem call_dict_pairsT {s : Shared} {l : Addr} {ol : Obj} {items : Array Value} {n : Nat} {prs : List (List Key × Addr × Value)} {Q : Value → Shared → Prop} (hh : A.handled = none) (hu : A.units + 6 < cLine) (hl : s.heap.get? l = some ol) (hc : ol.cls = .type "list") (hd : ol.dict = none)
    (hdat : ol.data = .seq items n) (hsz : items.size = prs.length) (hln : prs.length ≤ sizeLine)
    (ht : ∀ (j : Nat) (q : List Key × Addr × Value), prs[j]? = some q → ∃ (b : Addr), items[j]? = some (.ref b) ∧ IsTup s.heap b #[.ref q.2.1, q.2.2] ∧ (tupleKind (mixKind prog w)).is s.heap q.1 q.2.1)
    (h : ∀ h' tk, h'.DictOfH (tupleKind (mixKind prog w)) s.heap.objs.size (mergedH [] prs) → (∀ b o, s.heap.get? b = some o → h'.get? b = some o) → Q (.ref s.heap.objs.size) { s with heap := h', toks := tk }) :
    wpAny (model prog w) A (call (.type "dict") [.ref l]) Q E s := by
  refine callType_codes (Q₁ := fun obj s₁ => obj = .ref s.heap.objs.size ∧ s₁ = { s with heap := s.heap.push { cls := .type "dict", data := .dict #[] } }) PySem.F.kt_called_dict (PySem.F.kt_typeCall_dict_1 _) PySem.F.entry_dict_init (kt_code_dict_new _ ⟨rfl, rfl⟩) ?_
  rintro obj s₁ ⟨rfl, rfl⟩
  have hnew : (s.heap.push { cls := .type "dict", data := .dict #[] }).DictOfH (tupleKind (mixKind prog w)) s.heap.objs.size [] := Heap.DictOfH.new s.heap
  have hty : ({ s with heap := s.heap.push { cls := .type "dict", data := .dict #[] } } : Shared).TypeIs (.ref s.heap.objs.size) "dict" := ⟨_, Heap.get?_push_size _ rfl, rfl⟩
  have k0 : ∀ b o, s.heap.get? b = some o → (s.heap.push { cls := .type "dict", data := .dict #[] }).get? b = some o := fun b o e => Heap.get?_push_of_some _ e
  refine ⟨hty, PySem.F.args_dict_init_2 _ _, ?_⟩
  unfold Builtin.«dict.__init__»
  refine wpAny_bind ?_
  unfold Builtin.Dict.selfAndRest
  refine wpAny_bind (wpAny_notOrdered_dict hty ?_)
  show wpAny _ _ (pure (s.heap.objs.size, [Value.ref l])) _ _ _
  refine wpAny_pure ?_
  show wpAny _ _ (Builtin.Dict.updateFrom "dict.__init__" s.heap.objs.size (.ref l) [] .none) _ _ _
  unfold Builtin.Dict.updateFrom
  refine wpAny_bind (wpAny_typeOf (T := "list") ⟨ol, k0 _ _ hl, hc⟩ ?_)
  rw [if_pos (by first | decide | rfl | simp)]
  refine wpAny_bind (miss_list (k0 _ _ hl) hc hdat hd hh fun h1 tk1 hk1 => ?_)
  rw [if_pos (show (none : Option Value).isNone = true from rfl)]
  refine wpAny_bind (wpAny_rule ?_)
  have hl1 : h1.IsList l items := ⟨ol, hk1 _ _ (k0 _ _ hl), hc, n, hdat⟩
  have hS1 : s.heap.objs.size < h1.objs.size := by
    have e : (s.heap.push { cls := .type "dict", data := .dict #[] }).get? s.heap.objs.size = some { cls := .type "dict", data := .dict #[] } := Heap.get?_push_size _ rfl
    exact Heap.lt_size (hk1 _ _ e)
  refine wpAny_bind (wpAny_pyIter_list hl1 ?_)
  have k2 : ∀ b o, h1.get? b = some o → (h1.push { cls := .type "list_iterator", data := .fields #[.ref l, .int 0 0] }).get? b = some o := fun b o e => Heap.get?_push_of_some _ e
  have hlt : l < s.heap.objs.size := Heap.lt_size hl
  have ka : ∀ b o, s.heap.get? b = some o → (h1.push { cls := .type "list_iterator", data := .fields #[.ref l, .int 0 0] }).get? b = some o := fun b o z => k2 _ _ (hk1 _ _ (k0 _ _ z))
  have key := upd_loopT (prog := prog) (w := w) (A := A.in1) (R := wants (fun r s₂ => r = .none ∧ Q (.ref s.heap.objs.size) s₂) E) (S := s.heap.objs.size) (I := h1.objs.size) (l := l) (items := items) (res := Value.none) hh (by show A.units + 1 + 3 < cLine; omega)
    (Nat.ne_of_lt (Nat.lt_trans hlt hS1)) (Nat.ne_of_lt hS1) (Nat.ne_of_gt hlt) prs 0 [] 0 0
    { s with heap := h1.push { cls := .type "list_iterator", data := .fields #[.ref l, .int 0 0] }, toks := tk1 } (by rw [hsz, Nat.zero_add]) (by rw [List.length_nil, Nat.zero_add]; exact hln)
    (fun j q e => by
      obtain ⟨b, e1, e2, e3⟩ := ht j q e
      have hb : b < s.heap.objs.size := e2.lt
      have hq : q.2.1 < s.heap.objs.size := by obtain ⟨o, its, n, e, _⟩ := e3; exact Heap.lt_size e
      exact ⟨b, by rw [Nat.zero_add]; exact e1, Nat.ne_of_lt hb, Nat.ne_of_lt (Nat.lt_trans hb hS1), Nat.ne_of_lt hq, Nat.ne_of_lt (Nat.lt_trans hq hS1), e2.keeps ka, isK_keeps e3 fun o e => ka _ o e⟩)
    ⟨_, Heap.get?_push_size _ rfl, rfl, rfl⟩ (hl1.at fun o e => k2 _ _ e) (dictH_keeps hnew (fun o e => k2 _ _ (hk1 _ _ e)) fun x hx => nomatch hx) (fun x hx => nomatch hx)
    (fun h' tk hd' k => ⟨rfl, h h' tk hd' fun b o e => k b o (Nat.ne_of_lt (Heap.lt_size e)) (Nat.ne_of_lt (Nat.lt_trans (Heap.lt_size e) hS1)) (ka _ _ e)⟩)
  first
    | exact wpAny_pure ⟨plainId_quiet ud_plain _, key⟩
    | exact wpAny_bind (wpAny_pure (wpAny_pure ⟨plainId_quiet ud_plain _, key⟩))
end

/-! ### as data -/
def lookT (kvs : List (List Int × D)) (k : List Int) : Option D := (kvs.find? fun p => decide (p.1 = k)).map (·.2)
def putT (kvs : List (List Int × D)) (k : List Int) (v : D) : List (List Int × D) := if (lookT kvs k).isSome then kvs.map (fun p => if p.1 = k then (p.1, v) else p) else kvs ++ [(k, v)]
def keyT : D → Option (List Int)
  | .tuple ds => intsOf ds
  | _ => none
def pairsT : List D → Option (List (List Int × D))
  | [] => some []
  | .tuple [k, v] :: r => match keyT k, pairsT r with
    | some ns, some ps => some ((ns, v) :: ps)
    | _, _ => none
  | _ :: _ => none
def mergeT (kvs : List (List Int × D)) : List (List Int × D) := kvs.foldl (fun a p => putT a p.1 p.2) []
def fDictT : List D → Option Ob
  | [.list ds] => (pairsT ds).map fun kvs => .dT (mergeT kvs)
  | _ => none
def toK (ns : List Int) : List Key := ns.map Sum.inl
theorem toK_inj : ∀ {a b : List Int}, toK a = toK b → a = b
  | [], [], _ => rfl
  | [], _ :: _, h => by simp [toK] at h
  | _ :: _, [], h => by simp [toK] at h
  | x :: a, y :: b, h => by
    simp only [toK, List.map_cons, List.cons.injEq] at h
    rw [Sum.inl.inj h.1, toK_inj (a := a) (b := b) h.2]
theorem toK_kV (ns : List Int) : (toK ns).map kV = ns.map V.int := by
  simp [toK, List.map_map]; intro a _; rfl
/-- entries and data -/
def RT (K : KC) (F : Hp) (es : List DEnt) (kvs : List (List Int × D)) : Prop := es.map DEnt.k = kvs.map (fun p => toK p.1) ∧ RpA K F (es.map DEnt.v) (kvs.map (·.2))
section
variable {K : KC} {F : Hp}
theorem RT.cons {e : DEnt} {es : List DEnt} {p : List Int × D} {kvs : List (List Int × D)} (hk : e.k = toK p.1) (hv : Rp K F e.v p.2) (h : RT K F es kvs) : RT K F (e :: es) (p :: kvs) :=
  ⟨by simp [hk, h.1], .cons hv h.2⟩
theorem RT.uncons {e : DEnt} {es : List DEnt} {p : List Int × D} {kvs : List (List Int × D)} (h : RT K F (e :: es) (p :: kvs)) : e.k = toK p.1 ∧ Rp K F e.v p.2 ∧ RT K F es kvs := by
  obtain ⟨h1, h2⟩ := h
  simp only [List.map_cons, List.cons.injEq] at h1
  cases h2 with
  | cons a b => exact ⟨h1.1, a, h1.2, b⟩
theorem RT.len {es : List DEnt} {kvs : List (List Int × D)} (h : RT K F es kvs) : es.length = kvs.length := by
  have := congrArg List.length h.1
  simpa using this
theorem RT.find : ∀ {es : List DEnt} {kvs : List (List Int × D)}, RT K F es kvs → ∀ k, (findE es (toK k)).isSome = (lookT kvs k).isSome ∧ ∀ d, lookT kvs k = some d → ∃ v, findE es (toK k) = some v ∧ Rp K F v d
  | [], [], _, k => ⟨rfl, fun d h => by simp [lookT] at h⟩
  | [], _ :: _, h, _ => by simp [RT] at h
  | _ :: _, [], h, _ => by simp [RT] at h
  | e :: es, p :: kvs, h, k => by
    obtain ⟨h1, h2, h3⟩ := h.uncons
    by_cases hp : p.1 = k
    · have he : e.k = toK k := by rw [h1, hp]
      have a1 : findE (e :: es) (toK k) = some e.v := by simp [findE, List.find?_cons, he]
      have a2 : lookT (p :: kvs) k = some p.2 := by simp [lookT, List.find?_cons, hp]
      rw [a1, a2]
      exact ⟨rfl, fun d hd => by cases hd; exact ⟨_, rfl, h2⟩⟩
    · have he : ¬ e.k = toK k := fun z => hp (toK_inj (h1.symm.trans z))
      have a1 : findE (e :: es) (toK k) = findE es (toK k) := by simp [findE, List.find?_cons, he]
      have a2 : lookT (p :: kvs) k = lookT kvs k := by simp [lookT, List.find?_cons, hp]
      rw [a1, a2]
      exact RT.find h3 k
theorem RT.repl {v : V} {d : D} (hv : Rp K F v d) (k : List Int) : ∀ {es : List DEnt} {kvs : List (List Int × D)}, RT K F es kvs → RT K F (es.map fun e => if e.k = toK k then ⟨e.k, e.b, v⟩ else e) (kvs.map fun p => if p.1 = k then (p.1, d) else p)
  | [], [], h => h
  | [], _ :: _, h => by simp [RT] at h
  | _ :: _, [], h => by simp [RT] at h
  | e :: es, p :: kvs, h => by
    obtain ⟨h1, h2, h3⟩ := h.uncons
    rw [List.map_cons, List.map_cons]
    refine RT.cons ?_ ?_ (RT.repl hv k h3)
    · by_cases hp : p.1 = k
      · rw [if_pos hp, if_pos (by rw [h1, hp])]; exact h1
      · rw [if_neg hp, if_neg (fun z => hp (toK_inj (h1.symm.trans z)))]; exact h1
    · by_cases hp : p.1 = k
      · rw [if_pos hp, if_pos (by rw [h1, hp])]; exact hv
      · rw [if_neg hp, if_neg (fun z => hp (toK_inj (h1.symm.trans z)))]; exact h2
theorem RT.put {es : List DEnt} {kvs : List (List Int × D)} {v : V} {d : D} (h : RT K F es kvs) (k : List Int) (b : Addr) (hv : Rp K F v d) : RT K F (putE es (toK k) b v) (putT kvs k d) := by
  unfold putE putT
  rw [(h.find k).1]
  split
  · exact h.repl hv k
  · refine ⟨by simp [h.1], ?_⟩
    rw [List.map_append, List.map_append]
    exact h.2.append (.cons hv .nil)
theorem putE_keys {es : List DEnt} {k : List Key} {b : Addr} {v : V} {P : Addr → List Key → Prop} (h : ∀ x ∈ es, P x.b x.k) (hb : P b k) : ∀ x ∈ putE es k b v, P x.b x.k := by
  intro x hx
  unfold putE at hx
  split at hx
  · obtain ⟨y, hy, e⟩ := List.mem_map.mp hx
    split at e
    · rw [← e]; exact h y hy
    · rw [← e]; exact h y hy
  · rcases List.mem_append.mp hx with hx | hx
    · exact h x hx
    · simp at hx; rw [hx]; exact hb
theorem keyT_at {H : Hp} {v : V} {d : D} {ns : List Int} (s : Sub F H) (r : Rp K F v d) (h : keyT d = some ns) : ∃ b, v = .ref b ∧ KeyAt H b (toK ns) ∧ KeyG F b (toK ns) := by
  unfold keyT at h
  split at h
  · rw [intsOf_eq h] at r
    cases r with
    | tup h1 n1 z1 r1 =>
      rw [r1.ints] at h1
      rw [← toK_kV] at h1
      exact ⟨_, rfl, ⟨_, s _ _ h1⟩, ⟨_, h1, n1, by rw [r1.length, List.length_map] at z1; simpa [toK] using z1⟩⟩
  · cases h
end
/-- merging entries -/
def mergeE (l : List DEnt) (acc : List DEnt) : List DEnt := l.foldl (fun a e => putE a e.k e.b e.v) acc
theorem mergeE_rel : ∀ {l : List DEnt} {xs : List (List Key × Addr × Value)} {acc : List DEnt} {ax : List (List Key × Addr × Value)}, Paired DRel l xs → Paired DRel acc ax → Paired DRel (mergeE l acc) (mergedH ax xs)
  | _, _, _, _, .nil, h => h
  | _, _, acc, ax, .cons (a := e) (b := x) h t, k => by
    show Paired DRel (mergeE _ (putE acc e.k e.b e.v)) (mergedH (storedH ax x.1 x.2.1 x.2.2) _)
    refine mergeE_rel t ?_
    rw [← h.1, ← h.2.1]
    exact putE_rel k e.k e.b h.2.2
theorem mergeE_len : ∀ (l acc : List DEnt), (mergeE l acc).length ≤ acc.length + l.length
  | [], acc => Nat.le_refl _
  | e :: l, acc => by
    have h := mergeE_len l (putE acc e.k e.b e.v)
    have h2 := putE_len acc e.k e.b e.v
    show (mergeE l (putE acc e.k e.b e.v)).length ≤ _
    simp only [List.length_cons]
    omega
theorem mergeE_keys {P : Addr → List Key → Prop} : ∀ {l acc : List DEnt}, (∀ x ∈ l, P x.b x.k) → (∀ x ∈ acc, P x.b x.k) → ∀ x ∈ mergeE l acc, P x.b x.k
  | [], _, _, h => h
  | e :: l, acc, h1, h2 => mergeE_keys (l := l) (acc := putE acc e.k e.b e.v) (fun x hx => h1 x (List.mem_cons_of_mem _ hx)) (putE_keys h2 (h1 e List.mem_cons_self))
theorem mergeE_RT {K : KC} {F : Hp} : ∀ {l : List DEnt} {kvs : List (List Int × D)} {acc : List DEnt} {ak : List (List Int × D)}, RT K F l kvs → RT K F acc ak → RT K F (mergeE l acc) (kvs.foldl (fun a p => putT a p.1 p.2) ak)
  | [], [], _, _, _, h => h
  | [], _ :: _, _, _, h, _ => by simp [RT] at h
  | _ :: _, [], _, _, h, _ => by simp [RT] at h
  | e :: l, p :: kvs, acc, ak, h, k => by
    obtain ⟨h1, h2, h3⟩ := h.uncons
    show RT K F (mergeE l (putE acc e.k e.b e.v)) (kvs.foldl (fun a p => putT a p.1 p.2) (putT ak p.1 p.2))
    refine mergeE_RT h3 ?_
    rw [h1]
    exact k.put p.1 e.b h2
section
variable {X : Cx}
/-- dict(l) of a list of pairs (tuple, value) -/
def rDictT (K : PySem.W.Frag) (P : Program) (w : World) : List V → Hp → VK → Prop := fun xs H Q => ∃ (a : Addr) (ps : List Addr) (l : List DEnt), xs = [.ref a] ∧ SqL K H a (ps.map V.ref) ∧ Paired (fun p (e : DEnt) => SqT K H p [.ref e.b, e.v]) ps l ∧ (∀ e ∈ l, KeyAt H e.b e.k) ∧
  ∀ p, H p = none → Q (.ref p) (upd H p (DicO P w p (mergeE l [])))
theorem pairs_ofT {pins : List (Addr × Obj)} {σ : L2.St} {H : Hp} {s : Shared} (I : Inv X pins σ H s) : ∀ {ps : List Addr} {l : List DEnt}, Paired (fun p (e : DEnt) => SqT X.K H p [.ref e.b, e.v]) ps l → (∀ e ∈ l, KeyAt H e.b e.k) →
    ∃ prs : List (List Key × Addr × Value), Paired DRel l prs ∧ prs.length = ps.length ∧ ∀ (j : Nat) (q : List Key × Addr × Value), prs[j]? = some q → ∃ (b : Addr), ps[j]? = some b ∧ IsTup s.heap b #[.ref q.2.1, q.2.2] ∧ (tupleKind (mixKind X.prog X.w)).is s.heap q.1 q.2.1
  | _, _, .nil, _ => ⟨[], .nil, rfl, fun j q e => by simp at e⟩
  | _, _, .cons (a := p) (b := e) h t, hk => by
    obtain ⟨prs, r, hl, hp⟩ := pairs_ofT I t fun x hx => hk x (List.mem_cons_of_mem _ hx)
    obtain ⟨its, rv, ht, _⟩ := I.tuple h
    obtain ⟨u, y, ei, ru, ry⟩ := vals2 rv
    subst ei
    cases ru
    obtain ⟨o, ho⟩ := hk e List.mem_cons_self
    refine ⟨(e.k, e.b, y) :: prs, .cons ⟨rfl, rfl, ry⟩ r, by rw [List.length_cons, List.length_cons, hl], fun j q e' => ?_⟩
    cases j with
    | zero =>
      have e2 : (e.k, e.b, y) = q := Option.some.inj e'
      subst e2
      exact ⟨p, rfl, ht, keyZ I.hok ho⟩
    | succ j =>
      obtain ⟨b, e1, e2, e3⟩ := hp j q (by simpa using e')
      exact ⟨b, by simpa using e1, e2, e3⟩
theorem call_dictT (hcalm : X.calm = true) (hu : X.A.units + 65 < cLine) : CallR X (.type "dict") (rDictT X.K X.prog X.w) := by
  intro pins s σ H xs us Q I r q
  obtain ⟨a, ps, l, ex, hq, hp, hk, q⟩ := q
  subst ex
  obtain ⟨u, eu, rx⟩ := vals1 r
  subst eu
  cases rx
  obtain ⟨its, rv, pl, hz⟩ := I.list hq
  have ei := refs_at rv
  subst ei
  rw [List.length_map] at hz
  obtain ⟨prs, rel, hl, hpr⟩ := pairs_ofT I hp hk
  obtain ⟨o, n, ho, hc, hd, hdat⟩ := pl
  refine call_dict_pairsT (prs := prs) (I.ok.hd hcalm) (by omega) ho hc hd hdat (by simp [hl]) (by rw [hl]; exact hz) (fun j q' e => ?_) fun h' tk hd' k => ?_
  · obtain ⟨b, e1, e2, e3⟩ := hpr j q' e
    exact ⟨b, by simp [e1], e2, e3⟩
  · have hm : (s.heap.objs.size == sysModules) = false := beq_eq_false_iff_ne.mpr (Nat.ne_of_gt I.big)
    have hlen : (mergeE l []).length ≤ sizeLine := by
      refine Nat.le_trans (mergeE_len l []) ?_
      rw [List.length_nil, Nat.zero_add, Paired.length rel, hl]
      exact hz
    obtain ⟨o', es', ep, h1, h2, h3, h4, _, h6⟩ := hd'
    exact ⟨.ref s.heap.objs.size, upd H s.heap.objs.size (DicO X.prog X.w s.heap.objs.size (mergeE l [])), I.laid (t' := tk) k (Nat.le_refl _) (dicAt_ok ⟨hlen, hm, mergedH [] prs, mergeE_rel rel .nil, o', es', ep, h1, h2, h3, h4, h6⟩), rfl, q _ (I.hok.fresh (Nat.le_refl _))⟩
end
/-- a list of pairs of data, taken apart -/
theorem pairsT_at {K : KC} {F H : Hp} (s : Sub F H) : ∀ {ds : List D} {vs : List V} {kvs : List (List Int × D)}, RpA K F vs ds → pairsT ds = some kvs →
    ∃ (ps : List Addr) (l : List DEnt), vs = ps.map V.ref ∧ Paired (fun p (e : DEnt) => SqT K.K H p [.ref e.b, e.v]) ps l ∧ (∀ e ∈ l, KeyAt H e.b e.k) ∧ (∀ e ∈ l, KeyG F e.b e.k) ∧ RT K F l kvs
  | [], _, kvs, r, h => by
    cases r
    simp [pairsT] at h
    subst h
    exact ⟨[], [], rfl, .nil, fun _ z => absurd z (by simp), fun _ z => absurd z (by simp), rfl, .nil⟩
  | d :: ds, _, kvs, r, h => by
    cases r with
    | cons r1 r2 =>
    rename_i v vs
    unfold pairsT at h
    split at h
    · rename_i heq; cases heq
    · rename_i k v' rr heq
      cases heq
      split at h
      · rename_i ns ps e1 e2
        cases h
        obtain ⟨ps', l, rfl, hp, hk, hkF, hrt⟩ := pairsT_at s r2 e2
        cases r1 with
        | tup h1 n1 z1 rr =>
        rename_i p o xs
        obtain ⟨v1, v2, rfl, q1, q2⟩ := rp2 rr
        obtain ⟨b, rfl, kH, kF⟩ := keyT_at s q1 e1
        exact ⟨p :: ps', ⟨toK ns, b, v2⟩ :: l, rfl, .cons (.inl (.inr ⟨_, s _ _ h1⟩)) hp, fun e he => by
          rcases List.mem_cons.mp he with rfl | he
          · exact kH
          · exact hk e he, fun e he => by
          rcases List.mem_cons.mp he with rfl | he
          · exact kF
          · exact hkF e he, RT.cons rfl q2 hrt⟩
      · cases h
    · cases h
section
variable {g : GC} {s : SS} {k : Nat} {W : WX} {pin : List Nat} {X : Cx} {pos p px : Pos} {a b e : Expr} {ma mb : M D} {na : M (List D)}
theorem dl_dictT (ok : Ok g s k W X) (bf : BF g) (ha : DA g W X [a] na) (hg : gloB s.sc "dict" = true := by decide +kernel) (hs : starEach [a] X.env = [(false, eval a X.env)] := by rfl) : DL g W X (.Call (.Name "dict" p) [a] [] pos) (mAppL fDictT na) :=
  dl_callT ok (call_dictT ok.calm ok.units) (fun F H xs ds z Q s rx h q => by
    unfold fDictT at h
    split at h
    · rename_i ds'
      obtain ⟨v, rfl, r⟩ := rp1 rx
      cases r with
      | lst h1 z1 r1 =>
      cases ep : pairsT ds' with
      | none => rw [ep] at h; cases h
      | some kvs =>
      rw [ep] at h
      cases h
      obtain ⟨ps, l, rfl, hp, hk, hkF, hrt⟩ := pairsT_at s r1 ep
      refine ⟨_, ps, l, rfl, by rw [ok.hK]; exact (h1.mono s).sq, by rw [ok.hK]; exact hp, hk, fun p np => ?_⟩
      have m0 : RT g.K F (mergeE l []) (mergeT kvs) := mergeE_RT hrt ⟨rfl, .nil⟩
      refine q p F _ (Grow.made s np) np (s.nn np) ⟨mergeE l [], ?_, fun x hx => mergeE_keys (P := fun b k => KeyG F b k) hkF (fun _ z => absurd z (by simp)) x hx, m0.1, m0.2⟩
      rw [upd_same, ok.hP, ok.hw]
    · cases h) bf.dict (by decide +kernel) ha hg (he := hs)
def ownT (ρ : Rho) (i : Nat) : Option (List (List Int × D)) := match ρ[i]? with
  | some (.own (.dT kvs)) => some kvs
  | _ => none
theorem ownT_of {ρ : Rho} {i : Nat} {kvs : List (List Int × D)} (h : ownT ρ i = some kvs) : ρ[i]? = some (.own (.dT kvs)) := by
  unfold ownT at h
  split at h
  · cases h; assumption
  · cases h
def mInT (neg : Bool) (ma : M D) (i : Nat) : M D := fun ρ => bnd (ma ρ) fun d ρ1 => match keyT d, ownT ρ1 i with
  | some ns, some kvs => .ok (.bool (xor neg (lookT kvs ns).isSome)) ρ1
  | _, _ => .bad
theorem sim_inT {K : KC} {mg : Str → Option Value} {neg : Bool} {ta : TE} {ma : M D} {i : Nat} (ha : SimE K mg W ta ma) : SimE K mg W (tOp (rInT K.P K.w neg) ta (tVar i)) (mInT neg ma i) := by
  intro B F H σ ρ Q E h
  refine ha.then (R := PoE K mg W B F σ Q) E (fun x ρ' z => z) (fun z => z) h fun d ρ1 v F1 H1 g1 E1 r1 h1 => ?_
  have h1 := PoE.later g1 h1
  cases ek : keyT d with
  | none => rw [ek] at h1; exact h1.elim
  | some ns =>
  cases eo : ownT ρ1 i with
  | none => rw [ek, eo] at h1; exact h1.elim
  | some kvs =>
  rw [ek, eo] at h1
  obtain ⟨q, a1, a2, a3, es, a4, a5, a6, a7⟩ := E1.own i _ (ownT_of eo)
  obtain ⟨b, rfl, kH, _⟩ := keyT_at E1.sub r1 ek
  refine ⟨.ref q, a1, q, b, es, toK ns, rfl, rfl, kH, ⟨a4, fun x hx => (a5 x hx).at E1.sub⟩, ?_⟩
  have rt : RT K F1 es kvs := ⟨a6, a7⟩
  rw [(rt.find ns).1]
  exact h1 _ F1 H1 Gr.refl E1 (.bl _)
theorem dm_inT (ok : Ok g s k W X) (ha : DM g W X a ma) (i : Nat) {x : Str} (sl : Sl s i x) : DM g W X (.Compare a [.In] [.Name x px] pos) (mInT false ma i) := by
  obtain ⟨ta, pa, sa⟩ := ha
  refine ⟨_, pe_cmpR (op_inT ok.units) pa (sl.pe ok) rfl, ?_⟩
  rw [ok.hP, ok.hw]
  exact sim_inT sa
theorem dm_notinT (ok : Ok g s k W X) (ha : DM g W X a ma) (i : Nat) {x : Str} (sl : Sl s i x) : DM g W X (.Compare a [.NotIn] [.Name x px] pos) (mInT true ma i) := by
  obtain ⟨ta, pa, sa⟩ := ha
  refine ⟨_, pe_cmpR (op_notInT ok.units) pa (sl.pe ok) rfl, ?_⟩
  rw [ok.hP, ok.hw]
  exact sim_inT sa
theorem dt_inT (ok : Ok g s k W X) (ha : DM g W X a ma) (i : Nat) {x : Str} (sl : Sl s i x) : DT g W X (.Compare a [.In] [.Name x px] pos) (asB (mInT false ma i)) := by
  obtain ⟨ta, pa, sa⟩ := ha
  refine ⟨_, pt_cmpR (op_inT ok.units) pa (sl.pe ok) rfl, ?_⟩
  rw [ok.hP, ok.hw]
  exact (sim_inT sa).test
theorem dt_notinT (ok : Ok g s k W X) (ha : DM g W X a ma) (i : Nat) {x : Str} (sl : Sl s i x) : DT g W X (.Compare a [.NotIn] [.Name x px] pos) (asB (mInT true ma i)) := by
  obtain ⟨ta, pa, sa⟩ := ha
  refine ⟨_, pt_cmpR (op_notInT ok.units) pa (sl.pe ok) rfl, ?_⟩
  rw [ok.hP, ok.hw]
  exact (sim_inT sa).test
/-! d[k] = e -/
def sPutT (i : Nat) (mk : M D) (me : M D) : MS := fun ρ => sBnd (me ρ) fun d ρ1 => (match ownT ρ1 i with
  | some _ => sBnd (mk ρ1) fun kd ρ2 => (match keyT kd, ownT ρ2 i with
    | some ns, some kvs => if kvs.length < sizeLine then .next (ρ2.set i (.own (.dT (putT kvs ns d)))) else .bad
    | _, _ => .bad)
  | none => .bad)
theorem ds_putT (ok : Ok g s k W X) (i : Nat) {x : Str} (sl : Sl s i x) (hk : DM g W X b mb) (he : DM g W X e ma)
    (ha : ∀ v, assign (.Subscript (.Name x px) b p) X.env v = (do
      let ov ← holding [v] (eval (.Name x px) X.env)
      let iv ← holding [v, ov] (eval b X.env)
      standAt p
      holding [v, ov, iv] (setItem ov iv v)
      release [v, ov, iv] []) := by intro _; rfl)
    (hs : swapsWithSole [.Subscript (.Name x px) b p] e pos.line X.env = pure false := by rfl) (hw : swappedStores [.Subscript (.Name x px) b p] e X.env = pure none := by rfl) (h1 : (assignEach [.Subscript (.Name x px) b p] X.env).map (·.2) = [assign (.Subscript (.Name x px) b p) X.env] := by rfl) :
    DS g W pin X (.Assign [.Subscript (.Name x px) b p] e pos) (sPutT i mb ma) := by
  obtain ⟨tj, pj, sj⟩ := hk
  obtain ⟨te, pe, se⟩ := he
  refine ⟨_, ps_asg pe (pg_sub (sl.pe ok) pj (set_T ok.units) ha) hs hw h1, fun B F H σ ρ D E h => ?_⟩
  refine se.thenS E h fun d ρ1 v F1 H1 g1 E1 r1 h1 => ?_
  cases e1 : ownT ρ1 i with
  | none => rw [e1] at h1; exact h1.elim
  | some kv0 =>
  rw [e1] at h1
  simp only at h1
  obtain ⟨q, hq, _⟩ := E1.own i _ (ownT_of e1)
  refine ⟨.ref q, hq, ?_⟩
  refine sj.thenS E1 h1 fun kd ρ2 w F2 H2 g2 E2 r2 h2 => ?_
  cases ek : keyT kd with
  | none => rw [ek] at h2; exact h2.elim
  | some ns =>
  cases e2 : ownT ρ2 i with
  | none => rw [ek, e2] at h2; exact h2.elim
  | some kvs =>
  rw [ek, e2] at h2
  simp only at h2
  obtain ⟨q', a1, a2, a3, es, a4, a5, a6, a7⟩ := E2.own i _ (ownT_of e2)
  rw [hq] at a1; cases a1
  have rt : RT g.K F2 es kvs := ⟨a6, a7⟩
  obtain ⟨b, rfl, kH, kF⟩ := keyT_at E2.sub r2 ek
  by_cases hz : kvs.length < sizeLine
  · rw [if_pos hz] at h2
    have rt2 := rt.put ns b (r1.mono g2.sub)
    refine ⟨q, b, es, toK ns, rfl, rfl, kH, ⟨by rw [ok.hP, ok.hw]; exact a4, fun x hx => (a5 x hx).at E2.sub⟩, by rw [rt.len]; exact hz, ?_⟩
    refine h2 F2 _ σ Gr.refl Kp.refl (E2.write (ownT_of e2) hq ⟨putE es (toK ns) b v, ?_, fun x hx => putE_keys (P := fun b k => KeyG F2 b k) a5 kF x hx, rt2.1, rt2.2⟩)
    rw [upd_same, ok.hP, ok.hw]
  · rw [if_neg hz] at h2; exact h2.elim
end
end DX

set_option maxHeartbeats 1000000
namespace DX
open PySem PySem.Spec PyProof.Rows L2

def dedupI (ns : List Int) : List Int := ns.foldl step_dedup []
theorem range_getD (ns : List Int) : (List.range ns.length).map (fun i => ns.getD i 0) = ns := by
  apply List.ext_getElem?
  intro i
  rw [List.getElem?_map]
  by_cases hi : i < ns.length
  · rw [List.getElem?_range hi]; simp [hi]
  · rw [List.getElem?_eq_none (by simpa using hi), List.getElem?_eq_none (by omega)]; rfl
theorem firstMet_all (ns : List Int) : firstMet (fun i => ns.getD i 0) ns.length = dedupI ns := by
  unfold firstMet dedupI
  rw [range_getD]
theorem dedupI_len (ns : List Int) : (dedupI ns).length ≤ ns.length := by
  rw [← firstMet_all]; exact firstMet_length_le _ _
theorem intsAre_vals : ∀ {ns : List Int} {us : List Value}, Vals (ns.map V.int) us → PyProof.Rows.IntsAre us ns
  | [], _, .nil => .nil
  | n :: ns, _, .cons r t => by
    obtain ⟨k, rfl⟩ := r
    exact .cons n k (intsAre_vals t)
section
variable {X : Cx}
def tLenS (K : PySem.W.Frag) (ta : TE) : TE := fun σ H Q => ta σ H fun x H1 => ∃ (l : Addr) (ns : List Int), x = .ref l ∧ SqL K H1 l (ns.map V.int) ∧ ns.length ≤ 4000 ∧ Q (.int ((dedupI ns).length : Nat)) H1
theorem pe_lenS {a : Expr} {ta : TE} {p p2 q pos : Pos} (hg : Gl X "len") (hm : X.mg "len" = none) (hg2 : Gl X "set") (hm2 : X.mg "set" = none) (ha : PE X a ta) (hc : X.calm = true)
    (na : starEach [a] X.env = (false, eval a X.env) :: starEach [] X.env := by rfl) : PE X (.Call (.Name "len" p) [.Call (.Name "set" p2) [a] [] q] [] pos) (tLenS X.K ta) := by
  refine ⟨fun pins s σ H Q I h => ?_⟩
  refine Call_ (ld_blt I hg hm boot_len ?_)
  refine PyProof.Rows.callWith_builtin1 (PyProof.Rows.args_cons ?_ rfl) rfl rfl
  refine Call_ (ld_blt I hg2 hm2 boot_set ?_)
  refine PyProof.Rows.callWith_type1 (PyProof.Rows.args_cons (thn (ha.run pins s σ H _ I h) fun v s1 ⟨x, H1, I1, r1, q1⟩ => PyProof.Rows.args_nil ?_) na) na rfl
  obtain ⟨l, ns, rfl, hq, hl, q1⟩ := q1
  cases r1
  obtain ⟨its, r, pl, hz⟩ := I1.list hq
  have hlen : its.toArray.size = ns.length := by rw [List.size_toArray, ← r.length, List.length_map]
  refine call_set_list (I1.ok.hd hc) pl.isList (by simpa using intsAre_vals r) (by rw [hlen]; unfold scanBound; omega) fun h' tk hS hk => ?_
  refine PyProof.Rows.args_nil ?_
  rw [hlen, firstMet_all] at hS
  obtain ⟨o, es, ep, t, ho, hex, hd, _, _, _, hf, hn⟩ := hS
  have I2 : Inv X pins σ H1 { s1 with heap := h', toks := tk } := I1.kept fun b o e => hk b o (Heap.lt_size e) e
  have hle := dedupI_len ns
  exact call_len_set ho hex hd hf (by rw [hn] <;> omega) ⟨.int (dedupI ns).length, H1, I2.tok _, ⟨_, by rw [hn]⟩, q1⟩
end
def fLenS : D → Option D
  | .list ds => match intsOf ds with
    | some ns => if ns.length ≤ 4000 then some (.int ((dedupI ns).length : Nat)) else none
    | none => none
  | _ => none
section
variable {g : GC} {s : SS} {k : Nat} {W : WX} {X : Cx} {pos p p2 q : Pos} {a : Expr} {ma : M D}
theorem dm_lenS (ok : Ok g s k W X) (bf : BF g) (ha : DM g W X a ma) (hg : gloB s.sc "len" = true := by decide +kernel) (hg2 : gloB s.sc "set" = true := by decide +kernel) (hs : starEach [a] X.env = (false, eval a X.env) :: starEach [] X.env := by rfl) :
    DM g W X (.Call (.Name "len" p) [.Call (.Name "set" p2) [a] [] q] [] pos) (mUn fLenS ma) := by
  obtain ⟨t, pt, st⟩ := ha
  refine ⟨_, pe_lenS (ok.glo hg) (by rw [ok.hmg]; exact bf.len) (ok.glo hg2) (by rw [ok.hmg]; exact bf.set) pt ok.calm hs, ?_⟩
  refine SimE.un (r := fun x H1 Q => ∃ (l : Addr) (ns : List Int), x = .ref l ∧ SqL X.K H1 l (ns.map V.int) ∧ ns.length ≤ 4000 ∧ Q (.int ((dedupI ns).length : Nat)) H1) ?_ st
  intro F H x d z Q s rx h q
  unfold fLenS at h
  split at h
  · split at h
    · rename_i ds ns e
      split at h
      · cases h
        rw [intsOf_eq e] at rx
        cases rx with
        | lst h1 z1 r1 =>
        rw [r1.ints] at h1
        exact ⟨_, ns, rfl, by first | exact (h1.mono s).sq | (rw [ok.hK]; exact (h1.mono s).sq), by assumption, gz s q (.int _)⟩
      · cases h
    · cases h
  · cases h
end
end DX

set_option maxHeartbeats 1000000
namespace DX
open PySem PySem.Spec PyProof.Rows L2
/-! ### a walk over a list or a tuple -/
section
variable {X : Cx} {tg : Expr}
def iSeqT (K : PySem.W.Frag) (tl : TE) : TI := fun σ H R => tl σ H fun x H1 => ∃ a, x = .ref a ∧ (((∃ xs, SqL K H1 a xs) ∧ R (Itl K a) H1) ∨ ((∃ xs, SqT K H1 a xs) ∧ R (Itt K a) H1))
theorem pi_seq {l : Expr} {tl : TE} (hl : PE X l tl) : PI X tg l (iSeqT X.K tl) := by
  refine ⟨fun pins s σ H R I h => ?_⟩
  refine thn (hl.run pins s σ H _ I h) fun v s1 ⟨x, H1, I1, r1, q1⟩ => ?_
  obtain ⟨a, e, q⟩ := q1
  subst e
  cases r1
  rcases q with ⟨⟨xs, hq⟩, q⟩ | ⟨⟨xs, hq⟩, q⟩
  · obtain ⟨its, rv, p, hz⟩ := I1.list hq
    refine wpAny_pyIter_list p.isList ?_
    refine ⟨s1.heap.objs.size, [s1.heap.objs.size], _, _, H1, rfl, I1.kept (t' := s1.toks) fun b o e => Heap.get?_push_of_some _ e, turn_list a _, ⟨_, Heap.get?_push_size _ rfl, rfl, rfl⟩, fun b hb => ?_, q⟩
    have e : b = s1.heap.objs.size := by simpa using hb
    subst e
    exact I1.fpOk (Nat.le_refl _) (I1.hok.fresh (Nat.le_refl _))
  · obtain ⟨its, rv, p, hz⟩ := I1.tuple hq
    refine wpAny_pyIter_tuple (show s1.heap.IsTuple a its.toArray from p) ?_
    refine ⟨s1.heap.objs.size, [s1.heap.objs.size], _, _, H1, rfl, I1.kept (t' := s1.toks) fun b o e => Heap.get?_push_of_some _ e, turn_tuple a _, ⟨_, Heap.get?_push_size _ rfl, rfl, rfl⟩, fun b hb => ?_, q⟩
    have e : b = s1.heap.objs.size := by simpa using hb
    subst e
    exact I1.fpOk (Nat.le_refl _) (I1.hok.fresh (Nat.le_refl _))
end
def iSeq (m : M D) : M (List D) := fun ρ => bnd (m ρ) fun d ρ1 => lft (seqD d) ρ1
section
variable {g : GC} {s : SS} {k : Nat} {W : WX} {pin : List Nat} {X : Cx} {pos : Pos} {lo : Bool}
theorem di_seq (ok : Ok g s k W X) {tg l : Expr} {m : M D} (h : DM g W X l m) : DI lo g W X tg l (iSeq m) := by
  obtain ⟨t, p, q⟩ := h
  refine ⟨_, pi_seq p, fun B F H σ ρ R E h => ?_⟩
  refine q B F H σ ρ _ E ?_
  unfold iSeq at h
  cases e : m ρ with
  | bad => rw [e] at h; exact h
  | exc x ρ1 => rw [e] at h; exact h
  | ok d ρ1 =>
    rw [e] at h
    intro v F' H' g' E' r
    cases r <;> first
      | exact False.elim h
      | skip
    · rename_i h1 z1 r1
      exact ⟨_, rfl, .inl ⟨⟨_, by rw [ok.hK]; exact (h1.mono E'.sub).sq⟩, h _ F' H' g' E' (by rw [ok.hK]; exact itr_list h1 r1 lo)⟩⟩
    · rename_i h1 n1 z1 r1
      exact ⟨_, rfl, .inr ⟨⟨_, .inl (.inr ⟨_, E'.sub _ _ h1⟩)⟩, h _ F' H' g' E' (itr_tup (.inr ⟨_, h1⟩) r1 lo)⟩⟩
end
end DX

set_option maxHeartbeats 1000000
namespace DX
open PySem PySem.Spec PyProof.Rows L2

/-! ### a op b op c op d -/
section
variable {X : Cx} {pos : Pos} {a b c d : Expr} {ta tb tc td : TE}
def tCh3 (r1 r2 r3 : R2) (ta tb tc td : TE) : TE := fun σ H Q => ta σ H fun x H1 => tb σ H1 fun y H2 => r1 x y H2 fun z H3 => ∃ k, z = .bl k ∧
  (if k = true then tc σ H3 fun w H4 => r2 y w H4 fun z2 H5 => ∃ k2, z2 = .bl k2 ∧ (if k2 = true then td σ H5 fun u H6 => r3 w u H6 Q else Q (.bl false) H5) else Q (.bl false) H3)
theorem pe_ch3 {o1 o2 o3 : CmpOp} {r1 r2 r3 : R2} (h1 : OpR X (compareOp o1) r1) (h2 : OpR X (compareOp o2) r2) (h3 : OpR X (compareOp o3) r3) (ha : PE X a ta) (hb : PE X b tb) (hc : PE X c tc) (hd : PE X d td)
    (hm : lastMarks [o1, o2, o3] [b, c, d] = false := by with_unfolding_all rfl) : PE X (.Compare a [o1, o2, o3] [b, c, d] pos) (tCh3 r1 r2 r3 ta tb tc td) := by
  refine ⟨fun pins s σ H Q I h => ?_⟩
  refine Compare_chain (thn (ha.run pins s σ H _ I h) fun v s1 ⟨x, H1, I1, rr1, q1⟩ => chain_link (thn (hb.run pins s1 σ H1 _ I1 q1) fun u s2 ⟨y, H2, I2, rr2, q2⟩ =>
    thn (h1 pins s2 σ H2 x y v u _ I2 rr1 rr2 q2) fun e s3 ⟨z, H3, I3, rr3, k, ee, q3⟩ => ?_)) hm
  subst ee
  cases rr3
  refine wpAny_truthy_bool ?_
  cases k with
  | false => exact ite_ff ⟨.bl false, H3, I3, rfl, q3⟩
  | true =>
    refine ite_tt (chain_link (thn (hc.run pins s3 σ H3 _ I3 q3) fun w s4 ⟨z', H4, I4, r4, q4⟩ => thn (h2 pins s4 σ H4 y z' u w _ I4 rr2 r4 q4) fun e2 s5 ⟨z2, H5, I5, r5, k2, ee2, q5⟩ => ?_))
    subst ee2
    cases r5
    refine wpAny_truthy_bool ?_
    cases k2 with
    | false => exact ite_ff ⟨.bl false, H5, I5, rfl, q5⟩
    | true => exact ite_tt (chain_last (thn (hd.run pins s5 σ H5 _ I5 q5) fun w2 s6 ⟨z3, H6, I6, r6, q6⟩ => h3 pins s6 σ H6 z' z3 w w2 Q I6 r4 r6 q6))
theorem pt_ch3 {o1 o2 o3 : CmpOp} {r1 r2 r3 : R2} (h1 : OpR X (compareOp o1) r1) (h2 : OpR X (compareOp o2) r2) (h3 : OpR X (compareOp o3) r3) (ha : PE X a ta) (hb : PE X b tb) (hc : PE X c tc) (hd : PE X d td)
    (hm : lastMarks [o1, o2, o3] [b, c, d] = false := by with_unfolding_all rfl) : PT X (.Compare a [o1, o2, o3] [b, c, d] pos) (tTest (tCh3 r1 r2 r3 ta tb tc td)) := by
  refine ⟨fun pins s σ H Q I h => ?_⟩
  refine isTrue_chain (thn (ha.run pins s σ H _ I h) fun v s1 ⟨x, H1, I1, rr1, q1⟩ => test_link (thn (hb.run pins s1 σ H1 _ I1 q1) fun u s2 ⟨y, H2, I2, rr2, q2⟩ =>
    thn (h1 pins s2 σ H2 x y v u _ I2 rr1 rr2 q2) fun e s3 ⟨z, H3, I3, rr3, k, ee, q3⟩ => ?_)) hm
  subst ee
  cases rr3
  refine wpAny_truthy_bool ?_
  cases k with
  | false => obtain ⟨k', e', q'⟩ := q3; cases e'; exact ite_ff ⟨H3, I3, q'⟩
  | true =>
    refine ite_tt (test_link (thn (hc.run pins s3 σ H3 _ I3 q3) fun w s4 ⟨z', H4, I4, r4, q4⟩ => thn (h2 pins s4 σ H4 y z' u w _ I4 rr2 r4 q4) fun e2 s5 ⟨z2, H5, I5, r5, k2, ee2, q5⟩ => ?_))
    subst ee2
    cases r5
    refine wpAny_truthy_bool ?_
    cases k2 with
    | false => obtain ⟨k', e', q'⟩ := q5; cases e'; exact ite_ff ⟨H5, I5, q'⟩
    | true =>
      refine ite_tt (test_last (thn (hd.run pins s5 σ H5 _ I5 q5) fun w2 s6 ⟨z3, H6, I6, r6, q6⟩ => thn (h3 pins s6 σ H6 z' z3 w w2 _ I6 r4 r6 q6) fun d' s7 ⟨z4, H7, I7, r7, k3, e3, q7⟩ => ?_))
      subst e3
      cases r7
      exact wpAny_truthy_bool ⟨H7, I7, q7⟩
end
def mCh3 (f1 f2 f3 : D → D → Option D) (ma mb mc md : M D) : M D := fun ρ => bnd (ma ρ) fun x ρ1 => bnd (mb ρ1) fun y ρ2 => match f1 x y with
  | some (.bool true) => bnd (mc ρ2) fun z ρ3 => (match f2 y z with
    | some (.bool true) => bnd (md ρ3) fun w ρ4 => lft (f3 z w) ρ4
    | some (.bool false) => .ok (.bool false) ρ3
    | _ => .bad)
  | some (.bool false) => .ok (.bool false) ρ2
  | _ => .bad
theorem SimE.ch3 {K : KC} {mg : Str → Option Value} {W : WX} {r1 r2 r3 : R2} {f1 f2 f3 : D → D → Option D} {ta tb tc td : TE} {ma mb mc md : M D} (hr1 : RV2 K r1 f1) (hr2 : RV2 K r2 f2) (hr3 : RV2 K r3 f3) (ha : SimE K mg W ta ma) (hb : SimE K mg W tb mb) (hc : SimE K mg W tc mc) (hd : SimE K mg W td md) :
    SimE K mg W (tCh3 r1 r2 r3 ta tb tc td) (mCh3 f1 f2 f3 ma mb mc md) := by
  intro B F H σ ρ Q E h
  refine ha.then (R := PoE K mg W B F σ Q) E (fun x ρ' z => z) (fun z => z) h fun x ρ1 v F1 H1 g1 E1 r1 h1 => ?_
  refine hb.then (R := PoE K mg W B F1 σ Q) E1 (fun x ρ' z => z) (fun z => z) (h1.later g1) fun y ρ2 u F2 H2 g2 E2 r2 h2 => ?_
  have h2 := PoE.later g2 h2
  split at h2
  · rename_i ez
    refine hr1 F2 H2 v u x y _ _ E2.sub (r1.mono g2.sub) r2 ez fun z F3 H3 gw rz => ?_
    cases rz
    refine ⟨true, rfl, ?_⟩
    rw [if_pos rfl]
    have E3 := E2.grow gw
    have g3 := gw.gr E2.subB
    refine hc.then (R := PoE K mg W B F3 σ Q) E3 (fun x ρ' z => z) (fun z => z) (h2.later g3) fun w ρ3 t F4 H4 g4 E4 r4 h4 => ?_
    have h4 := PoE.later g4 h4
    have ry4 := (r2.mono gw.subF).mono g4.sub
    split at h4
    · rename_i ez2
      refine hr2 F4 H4 u t y w _ _ E4.sub ry4 r4 ez2 fun z F5 H5 gw5 rz => ?_
      cases rz
      refine ⟨true, rfl, ?_⟩
      rw [if_pos rfl]
      have E5 := E4.grow gw5
      have g5 := gw5.gr E4.subB
      refine hd.then (R := PoE K mg W B F5 σ Q) E5 (fun x ρ' z => z) (fun z => z) (h4.later g5) fun o ρ5 p F6 H6 g6 E6 r6 h6 => ?_
      cases ew : f3 w o with
      | none => rw [ew] at h6; exact h6.elim
      | some oo =>
        rw [ew] at h6
        exact hr3 F6 H6 t p w o oo Q E6.sub ((r4.mono gw5.subF).mono g6.sub) r6 ew fun q F' H' gw' rq => (PoE.later g6 h6) q F' H' (gw'.gr E6.subB) (E6.grow gw') rq
    · rename_i ez2
      refine hr2 F4 H4 u t y w _ _ E4.sub ry4 r4 ez2 fun z F5 H5 gw5 rz => ?_
      cases rz
      refine ⟨false, rfl, ?_⟩
      rw [if_neg (by decide)]
      exact h4 _ F5 H5 (gw5.gr E4.subB) (E4.grow gw5) (.bl false)
    · exact h4.elim
  · rename_i ez
    refine hr1 F2 H2 v u x y _ _ E2.sub (r1.mono g2.sub) r2 ez fun z F3 H3 gw rz => ?_
    cases rz
    refine ⟨false, rfl, ?_⟩
    rw [if_neg (by decide)]
    exact h2 _ F3 H3 (gw.gr E2.subB) (E2.grow gw) (.bl false)
  · exact h2.elim
section
variable {g : GC} {s : SS} {k : Nat} {W : WX} {pin : List Nat} {X : Cx} {pos p : Pos} {a b c d e : Expr} {es : List Expr} {ma mb mc md : M D} {na : M (List D)}
theorem dm_ch3 {o1 o2 o3 : CmpOp} {f1 f2 f3 : D → D → Option D} (h1 : CmpR g X o1 f1) (h2 : CmpR g X o2 f2) (h3 : CmpR g X o3 f3) (ha : DM g W X a ma) (hb : DM g W X b mb) (hc : DM g W X c mc) (hd : DM g W X d md) (hm : lastMarks [o1, o2, o3] [b, c, d] = false := by with_unfolding_all rfl) :
    DM g W X (.Compare a [o1, o2, o3] [b, c, d] pos) (mCh3 f1 f2 f3 ma mb mc md) := by
  obtain ⟨r1, ho1, hr1⟩ := h1.ex
  obtain ⟨r2, ho2, hr2⟩ := h2.ex
  obtain ⟨r3, ho3, hr3⟩ := h3.ex
  obtain ⟨ta, pa, sa⟩ := ha
  obtain ⟨tb, pb, sb⟩ := hb
  obtain ⟨tc, pc, sc⟩ := hc
  obtain ⟨td, pd, sd⟩ := hd
  exact ⟨_, pe_ch3 ho1 ho2 ho3 pa pb pc pd hm, SimE.ch3 hr1 hr2 hr3 sa sb sc sd⟩
theorem dt_ch3 {o1 o2 o3 : CmpOp} {f1 f2 f3 : D → D → Option D} (h1 : CmpR g X o1 f1) (h2 : CmpR g X o2 f2) (h3 : CmpR g X o3 f3) (ha : DM g W X a ma) (hb : DM g W X b mb) (hc : DM g W X c mc) (hd : DM g W X d md) (hm : lastMarks [o1, o2, o3] [b, c, d] = false := by with_unfolding_all rfl) :
    DT g W X (.Compare a [o1, o2, o3] [b, c, d] pos) (asB (mCh3 f1 f2 f3 ma mb mc md)) := by
  obtain ⟨r1, ho1, hr1⟩ := h1.ex
  obtain ⟨r2, ho2, hr2⟩ := h2.ex
  obtain ⟨r3, ho3, hr3⟩ := h3.ex
  obtain ⟨ta, pa, sa⟩ := ha
  obtain ⟨tb, pb, sb⟩ := hb
  obtain ⟨tc, pc, sc⟩ := hc
  obtain ⟨td, pd, sd⟩ := hd
  exact ⟨_, pt_ch3 ho1 ho2 ho3 pa pb pc pd hm, (SimE.ch3 hr1 hr2 hr3 sa sb sc sd).test⟩

/-! ### a new list times an int -/
theorem RpA.flat {K : KC} {F : Hp} {vs : List V} {ds : List D} (h : RpA K F vs ds) : ∀ n : Nat, RpA K F (List.replicate n vs).flatten (List.replicate n ds).flatten
  | 0 => .nil
  | n + 1 => by
    rw [List.replicate_succ, List.replicate_succ, List.flatten_cons, List.flatten_cons]
    exact h.append (RpA.flat h n)
def repO (o : Ob) (d : D) (ρ : Rho) : MR Ob := match o, d with
  | .lst ds, .int n => if -(2 ^ 63) ≤ n ∧ n < 2 ^ 63 ∧ ds.length * n.toNat ≤ sizeLine then .ok (.lst (List.replicate n.toNat ds).flatten) ρ else .bad
  | _, _ => .bad
def mRep (mo : M Ob) (mb : M D) : M Ob := fun ρ => bnd (mo ρ) fun o ρ1 => bnd (mb ρ1) fun d ρ2 => repO o d ρ2
theorem flat_len {α : Type} (l : List α) : ∀ n : Nat, (List.replicate n l).flatten.length = l.length * n
  | 0 => rfl
  | n + 1 => by rw [List.replicate_succ, List.flatten_cons, List.length_append, flat_len l n, Nat.mul_succ]; omega
theorem dl_rep {mo : M Ob} (ha : DL g W X a mo) (hb : DM g W X b mb) : DL g W X (.BinOp a .Mult b pos) (mRep mo mb) := by
  obtain ⟨ta, pa, sa⟩ := ha
  obtain ⟨tb, pb, sb⟩ := hb
  refine ⟨_, pe_op op_rep pa pb, fun B F H σ ρ Q E h => ?_⟩
  refine sa B F H σ ρ _ E ?_
  unfold mRep at h
  cases e0 : mo ρ with
  | bad => rw [e0] at h; exact h
  | exc x ρ1 => rw [e0] at h; exact h
  | ok o ρ1 =>
  rw [e0] at h
  simp only [bnd_ok] at h
  intro q F1 H1 g1 E1 nF nB hO hq
  have h := PoL.later g1 h
  obtain ⟨u, hu⟩ := hO.ex
  have E1' := E1.addB hu hq
  refine sb (upd B q u) F1 H1 σ ρ1 _ E1' ?_
  cases e1 : mb ρ1 with
  | bad => rw [e1] at h; exact h
  | exc x ρ2 => rw [e1] at h; exact fun C F' H' ee gg EE => h C F' H' ee gg.dropB (EE.dropB nB)
  | ok d ρ2 =>
  rw [e1] at h
  simp only [bnd_ok] at h
  intro v F2 H2 g2 E2 r2
  unfold repO at h
  split at h
  · split at h
    · rename_i ds n hh hz
      obtain ⟨vs, h1, h2, h3⟩ := hO
      rw [h1] at hu; cases hu
      cases r2
      have hq2 : H2 q = some (.lst vs) := E2.subB _ _ upd_same
      have h3' := h3.mono g2.sub
      refine ⟨q, n, vs, rfl, rfl, hq2, hz.1, hz.2.1, by rw [h3.length]; exact hz.2.2, fun p np => ?_⟩
      have E2' := E2.dropB nB
      have gw : Grow F2 H2 F2 (upd H2 p (.lst (List.replicate n.toNat vs).flatten)) := Grow.made E2.sub np
      exact (PoL.later g2.dropB h) p F2 _ Gr.refl (E2'.grow gw) (E2.sub.nn np) (E2'.subB.nn np) ⟨_, upd_same, by rw [flat_len, h3.length]; exact hz.2.2, h3'.flat _⟩ (fresh_own E2' np)
    · exact h.elim
  · exact h.elim

/-! ### defs whose value is a new object -/
inductive FRL where
  | ok (o : Ob)
  | exc (s : Str)
  | bad
def PoFL (K : KC) (mg : Str → Option Value) (F H : Hp) (Q : VK) (E : XK) : FRL → Prop
  | .ok o => ∀ q F' H', Grow F H F' H' → H q = none → F' q = none → OR K F' H' q o → Q (.ref q) H'
  | .exc x => ∀ C F' H', mg x = some (.ref C) → Grow F H F' H' → E (.ref C) none H'
  | .bad => False
def spL (K : KC) (mg : Str → Option Value) (n : Nat) (fn : List D → FRL) : Sp := fun vs H Q E => ∃ F ds, Sub F H ∧ RpA K F vs ds ∧ ds.length = n ∧ PoFL K mg F H Q E (fn ds)
structure FL (g : GC) (x : Str) (k : Nat) (ps : List Str) (fn : List D → FRL) : Prop where
  ex : ∃ f fd, g.mg x = some (.ref f) ∧ PySem.W.keepIn g.K.K (.ref f) = true ∧ Binds g.K.K fd ps [] ∧ FnOk g.K.P g.K.w g.K.K g.mg g.base (L2.CX g.K.P g.K.w) k f fd ps (spL g.K g.mg ps.length fn)
def mCallL (n : Nat) (fn : List D → FRL) (ma : M (List D)) : M Ob := fun ρ => bnd (ma ρ) fun ds ρ1 => if ds.length = n then (match fn ds with
  | .ok d => .ok d ρ1
  | .exc s => .exc s ρ1
  | .bad => .bad) else .bad
theorem dl_call (ok : Ok g s k W X) {x : Str} {j : Nat} {ps : List Str} {fn : List D → FRL} (F : FL g x j ps fn) (ha : DA g W X (e :: es) na) (hj : j ≤ k := by decide) (hg : gloB s.sc x = true := by decide +kernel) (hd : (x == ("__debug__" : Str)) = false := by decide +kernel)
    (he : starEach (e :: es) X.env = (false, eval e X.env) :: starEach es X.env := by rfl) (hpl : (backTo pos (starEach es X.env)).any (·.1) = false := by rfl) : DL g W X (.Call (.Name x p) (e :: es) [] pos) (mCallL ps.length fn na) := by
  obtain ⟨f, fd, hm, hk, hb, fo⟩ := F.ex
  obtain ⟨t, pt, st⟩ := ha
  have fo' : FnOk X.prog X.w X.K X.mg X.base (L2.CX X.prog X.w) j f fd ps (spL g.K g.mg ps.length fn) := by
    rw [ok.hP, ok.hw, ok.hK, ok.hmg, ok.hbase]; exact fo
  refine ⟨_, pe_callS (E := WE W) fo' (ok.room.mono hj) (ok.glo hg) (by rw [ok.hmg]; exact hm) (by rw [ok.hK]; exact hk) (by rw [ok.hK]; exact hb) (fun σ => passAt ok.tk σ) pt hd he hpl, fun B F H σ ρ Q E h => ?_⟩
  refine st.then (R := PoL g.K g.mg W B F σ Q) E (fun x ρ' z => z) (fun z => z) h fun ds ρ1 vs F1 H1 g1 E1 r1 h1 => ?_
  by_cases hl : ds.length = ps.length
  · rw [if_pos hl] at h1
    refine ⟨F1, ds, E1.sub, r1, hl, ?_⟩
    have h1 := PoL.later g1 h1
    cases ef : fn ds with
    | ok d => rw [ef] at h1; exact fun q F' H' gw nH nF' hO => h1 q F' H' (gw.gr E1.subB) (E1.grow gw) nF' (E1.subB.nn nH) hO (fresh_own E1 nH)
    | exc x => rw [ef] at h1; exact fun C F' H' e gw => h1 C F' H' e (gw.gr E1.subB) (E1.grow gw)
    | bad => rw [ef] at h1; exact h1
  · rw [if_neg hl] at h1; exact h1.elim
def runL (N : Nat) (m : M Ob) (ds : List D) : FRL := match m (rho0 N ds) with
  | .ok o _ => .ok o
  | .exc s _ => .exc s
  | .bad => .bad
end
section
variable {g : GC} {x : Str} {params : Arguments} {body : List Stmt} {scope : Scope} {f : Addr} {fd : FuncData} {N ps : List Str} {k : Nat} {m : M Ob} {e : Expr} {pos : Pos}
theorem fl_mk (F : FunD g.K.K x x params body scope [] [] f fd) (S : FnScope N ps scope) (hm : g.mg x = some (.ref f))
    (hb : ∀ (kV doc pm : Value) (an : Option Addr) (cdv ct : Value) (us : List Value), us.length = ps.length → bindArgs (PySem.W.fnOf x x params body scope .none kV doc pm an cdv ct) ⟨us, []⟩ = pure (ps.zip us))
    (hr : body = [.Return (some e) pos]) (hbody : ∀ (W : WX) (X : Cx), Ok g ⟨N, scope, none⟩ k W X → DL g W X e m) : FL g x (k + 1) ps (runL N.length m) := by
  refine ⟨f, fd, hm, F.kp, F.bindsN hb, F.ok S (fun vs H Q E h => ?_) (fun cdv A outer s H vs Q E hr' h => ?_)⟩
  · obtain ⟨F, ds, _, r, hl, _⟩ := h
    rw [r.length, hl]
  · obtain ⟨F0, ds, hs, r, hl, po⟩ := h
    have hpN : ps.length ≤ N.length := by have := congrArg List.length S.pre; rw [List.length_take] at this; omega
    obtain ⟨t, pt, st⟩ := hbody (fun cls d _ H => E cls d H) _ (ok_body (g := g) (E := E) (outer := outer) (H := H) S hr')
    subst hr
    refine ⟨_, pss_one (ps_ret pt), ?_⟩
    refine st H F0 H (L2.start N vs) (rho0 N.length ds) _ (env_start hs r (by omega)) ?_
    have gw : ∀ {F' H' : Hp} {σ' : L2.St} {ρ' : Rho}, Gr H F0 F' → Env g.K H F' H' σ' ρ' → Grow F0 H F' H' := fun gr E => ⟨gr.sub, E.subB, E.sub, gr.new⟩
    unfold runL at po
    cases em : m (rho0 N.length ds) with
    | ok o ρ' => rw [em] at po; exact fun q F' H' gr E' nF' nB hO _ => po q F' H' (gw gr E') nB nF' hO
    | exc y ρ' => rw [em] at po; exact fun C F' H' e gr E' => po C F' H' e (gw gr E')
    | bad => rw [em] at po; exact po.elim
end
/-- the expression of a def that is one return -/
def retE (st : Stmt) : Expr := match defBody st with
  | [.Return (some e) _] => e
  | _ => .Name "" ⟨0, 0, 0, 0⟩
def retP (st : Stmt) : Pos := match defBody st with
  | [.Return (some _) p] => p
  | _ => ⟨0, 0, 0, 0⟩
section
def noStar : Expr → Bool
  | .Starred _ _ => false
  | _ => true
variable {g : GC} {s : SS} {k : Nat} {W : WX} {X : Cx}
theorem Ok.ss2 (ok : Ok g s k W X) {x y : Str} {a b : Expr} {px py pt pt2 : Pos} {kt k2 : Nat} (hx : isLocal s.sc x = true := by decide +kernel) (hy : isLocal s.sc y = true := by decide +kernel) (hl : (py.line == px.line) = true := by rfl) (hne : (x == y) = false := by decide +kernel)
    (hs : noStar a = true := by rfl) (hs2 : noStar b = true := by rfl) (h1 : [a, b].all (foldedForSure 8) = false := by rfl) (h2 : [a, b].all (constantsAlone 8) = false := by rfl) :
    swappedStores [.Tuple [.Name x px, .Name y py] kt pt] (.Tuple [a, b] k2 pt2) X.env = pure (some [x, y]) := by
  have hb : X.env.blockKind = .function := by unfold Env.blockKind; rw [ok.hsc, ok.kind]; rfl
  have kx : X.env.kindOf x = some .local := by show X.env.scope.names.lookup x = _; rw [ok.hsc]; exact isLocal_of hx
  have ky : X.env.kindOf y = some .local := by show X.env.scope.names.lookup y = _; rw [ok.hsc]; exact isLocal_of hy
  have hyx : (y == x) = false := by
    cases e : (y == x) with
    | false => rfl
    | true => rw [beq_iff_eq] at e; rw [e, beq_self_eq_true] at hne; exact hne
  unfold swappedStores
  simp only [hb, kx, ky, h1, h2, List.length_cons, List.length_nil, List.filterMap_cons, List.filterMap_nil, Expr.pos, List.head?_cons, Option.map_some, Option.getD_some, hl, beq_self_eq_true, Bool.and_self, if_true]
  have st : ∀ e : Expr, noStar e = true → (match e with | .Starred .. => true | _ => false) = false := fun e h => by cases e <;> first | rfl | cases h
  simp only [List.any_cons, List.any_nil, List.eraseDups_cons, List.filter_cons, hyx]
  refine (if_neg (by decide)).trans ((if_neg ?_).trans (if_neg ?_))
  · intro h
    rw [Bool.or_false, Bool.or_eq_true] at h
    rcases h with h | h
    · exact Bool.false_ne_true ((st a hs).symm.trans h)
    · exact Bool.false_ne_true ((st b hs2).symm.trans h)
  · simp [List.eraseDups_cons]
/-- two targets of which the first or the second is no plain local -/
def notLoc (sc : Scope) : Expr → Bool
  | .Name x _ => !isLocal sc x
  | _ => true
theorem Ok.ss0 (ok : Ok g s k W X) {t1 t2 a b : Expr} {pt pt2 : Pos} {kt k2 : Nat} (h : (notLoc s.sc t1 || notLoc s.sc t2) = true := by decide +kernel) :
    swappedStores [.Tuple [t1, t2] kt pt] (.Tuple [a, b] k2 pt2) X.env = pure none := by
  have hb : X.env.blockKind = .function := by unfold Env.blockKind; rw [ok.hsc, ok.kind]; rfl
  unfold swappedStores
  simp only [hb]
  split
  · rfl
  split
  · rfl
  split
  · rfl
  rename_i h1 h2 h3
  exfalso
  apply h3
  have gen : ∀ (f : Expr → Option Str), (f t1 = none ∨ f t2 = none) → (List.filterMap f [t1, t2]).length ≤ 1 := fun f hf => by
    rcases hf with hf | hf
    · rw [List.filterMap_cons_none hf]
      exact Nat.le_trans (List.length_filterMap_le f _) (Nat.le_refl _)
    · have e : List.filterMap f [t2] = [] := by rw [List.filterMap_cons_none hf]; rfl
      cases q : f t1 with
      | none => rw [List.filterMap_cons_none q, e]; exact Nat.zero_le _
      | some z => rw [List.filterMap_cons_some q, e]; exact Nat.le_refl _
  have kl : ∀ x, isLocal s.sc x = false → (X.env.kindOf x == some .local) = false := fun x this => by
    show (X.env.scope.names.lookup x == some .local) = false
    rw [ok.hsc]
    unfold isLocal at this
    cases q : s.sc.names.lookup x with
    | none => rfl
    | some kk => rw [q] at this; cases kk <;> first | rfl | cases this
  rw [Bool.or_eq_true] at h
  rw [Bool.or_eq_true]
  refine .inl (bne_iff_ne.mpr (Nat.ne_of_lt (Nat.lt_of_le_of_lt (gen _ ?_) (by decide : 1 < 2))))
  rcases h with h | h
  · left
    cases t1 <;> first | rfl | skip
    rename_i x p
    simp [kl x (by simpa [notLoc] using h)]
  · right
    cases t2 <;> first | rfl | skip
    rename_i x p
    simp [kl x (by simpa [notLoc] using h)]
end
end DX

set_option maxHeartbeats 1000000
namespace DX
open PySem PySem.Spec PyProof.Rows L2
/-! ### a list of lists of bools, one's own -/
structure Mat (H : Hp) (q : Addr) (qs : List Addr) (rows : List (List Bool)) : Prop where
  top : H q = some (.lst (qs.map .ref))
  nq : q ∉ qs
  nd : qs.Nodup
  len : qs.length = rows.length
  row : ∀ (i : Nat) (a : Addr) (r : List Bool), qs[i]? = some a → rows[i]? = some r → H a = some (.lst (r.map .bl))
theorem Mat.has {H : Hp} {q : Addr} {qs : List Addr} {rows : List (List Bool)} (m : Mat H q qs rows) {a : Addr} (h : a ∈ qs) : ∃ u, H a = some u := by
  obtain ⟨i, hi, e⟩ := List.getElem_of_mem h
  have hi' : i < rows.length := by rw [← m.len]; exact hi
  exact ⟨_, m.row i a rows[i] (by rw [List.getElem?_eq_getElem hi, e]) (List.getElem?_eq_getElem hi')⟩
theorem Mat.mono {H H' : Hp} {q : Addr} {qs : List Addr} {rows : List (List Bool)} (m : Mat H q qs rows) (hq : H' q = H q) (hqs : ∀ a ∈ qs, H' a = H a) : Mat H' q qs rows :=
  ⟨by rw [hq]; exact m.top, m.nq, m.nd, m.len, fun i a r e1 e2 => by rw [hqs a (List.mem_of_getElem? e1)]; exact m.row i a r e1 e2⟩
theorem Env.reB {K : KC} {B B' F H : Hp} {σ : L2.St} {ρ : Rho} (E : Env K B F H σ ρ) (s : Sub B' H) (hq : ∀ (i : Nat) (o : Ob) (q : Addr), ρ[i]? = some (.own o) → σ[i]? = some (some (.ref q)) → B' q = none) : Env K B' F H σ ρ :=
  ⟨s, E.sub, E.len, E.val, fun i o e => by
    obtain ⟨q, h1, h2, h3, h4⟩ := E.own i o e
    exact ⟨q, h1, h2, hq i o q e h1, h4⟩, E.inj⟩
theorem Gr.reB {B B' F F' : Hp} (g : Gr B' F F') (h : ∀ a, B' a = none → B a = none) : Gr B F F' := ⟨g.sub, fun a z => (g.new a z).imp id (h a)⟩
/-- B, the new list, and the rows so far -/
def withM (B H : Hp) (q : Addr) (acc : List V) (qs : List Addr) : Hp := fun x => if x = q then some (.lst acc) else if x ∈ qs then H x else B x
theorem withM_sub {B H : Hp} {q : Addr} {acc : List V} {qs : List Addr} (s : Sub B H) (hq : H q = some (.lst acc)) : Sub (withM B H q acc qs) H := fun a o e => by
  unfold withM at e
  split at e
  · rename_i z; subst z; rw [hq]; exact e
  · split at e
    · exact e
    · exact s a o e
theorem withM_none {B H : Hp} {q : Addr} {acc : List V} {qs : List Addr} (hs : ∀ a ∈ qs, ∃ u, H a = some u) {a : Addr} (h : withM B H q acc qs a = none) : a ≠ q ∧ a ∉ qs ∧ B a = none := by
  unfold withM at h
  split at h
  · cases h
  · rename_i z
    split at h
    · rename_i z2
      obtain ⟨u, e⟩ := hs a z2
      rw [h] at e; cases e
    · rename_i z2
      exact ⟨z, z2, h⟩
theorem withM_none' {B H : Hp} {q : Addr} {acc : List V} {qs : List Addr} {a : Addr} (h1 : a ≠ q) (h2 : a ∉ qs) (h3 : B a = none) : withM B H q acc qs a = none := by
  unfold withM
  rw [if_neg h1, if_neg h2]; exact h3

theorem wipeR_get_in' {ρ : Rho} {i : Nat} : ∀ {vs : List Nat}, i ∉ vs → (wipeR ρ vs)[i]? = ρ[i]?
  | [], _ => rfl
  | v :: vs, h => by
    unfold wipeR
    rw [List.getElem?_set_ne (fun e => h (by rw [e]; exact List.mem_cons_self))]
    exact wipeR_get_in' fun z => h (List.mem_cons_of_mem _ z)
/-! the comprehension that makes it -/
def rowB : Ob → Option (List Bool)
  | .lst ds => boolsOf ds
  | _ => none
def compM (gs : D → Rho → Option Rho) (elt : M Ob) (vs : List Nat) : List D → Rho → MR (List (List Bool))
  | [], ρ => .ok [] ρ
  | x :: xs, ρ => match gs x ρ with
    | none => .bad
    | some ρ1 => cBnd (elt ρ1) fun o ρ2 => match rowB o with
      | some r => cBnd (compM gs elt vs xs (wipeR ρ2 vs)) fun rs ρ3 => .ok (r :: rs) ρ3
      | none => .bad
def mCompM (n : Nat) (mi : M (List D)) (gs : D → Rho → Option Rho) (elt : M Ob) (vs : List Nat) : M (List (List Bool)) := fun ρ => bnd (mi ρ) fun xs ρ1 =>
  if noOwn ρ1 vs = true ∧ xs.length ≤ sizeLine ∧ ρ1.length ≤ n then cBnd (compM gs elt vs xs (wipeR ρ1 vs)) fun rs ρ2 => .ok rs (unw ρ1 vs ρ2) else .bad
/-- a matrix that no one else holds -/
structure Own (K : KC) (B F H : Hp) (σ : L2.St) (ρ : Rho) (q : Addr) (qs : List Addr) (rows : List (List Bool)) : Prop where
  mat : Mat H q qs rows
  nF : F q = none
  nFs : ∀ a ∈ qs, F a = none
  nB : B q = none
  nBs : ∀ a ∈ qs, B a = none
  ow : ∀ (i : Nat) (o : Ob) (a : Addr), ρ[i]? = some (.own o) → σ[i]? = some (some (.ref a)) → a ≠ q ∧ a ∉ qs
def SimM (K : KC) (mg : Str → Option Value) (W : WX) (t : TE) (m : M (List (List Bool))) : Prop := ∀ B F H σ ρ Q, Env K B F H σ ρ →
  (match m ρ with
  | .ok rows ρ' => ∀ q qs F' H', Gr B F F' → Env K B F' H' σ ρ' → Own K B F' H' σ ρ' q qs rows → Q (.ref q) H'
  | .exc x ρ' => ∀ C F' H', mg x = some (.ref C) → Gr B F F' → Env K B F' H' σ ρ' → W (.ref C) none σ H'
  | .bad => False) → t σ H Q
section
variable {g : GC} {W : WX} {X : Cx}
theorem sim_lcM {lo : Bool} {wi : TI} {gt : TG} {te : TE} {n : Nat} {vs : List Nat} {mi : M (List D)} {gs : D → Rho → Option Rho} {elt : M Ob}
    (hi : ∀ B F H σ ρ (R : It → Hp → Prop), Env g.K B F H σ ρ → (match mi ρ with
      | .ok xs ρ' => ∀ J F' H', Gr B F F' → Env g.K B F' H' σ ρ' → ItR lo g.K F' J xs → R J H'
      | .exc x ρ' => ∀ C F' H', g.mg x = some (.ref C) → Gr B F F' → Env g.K B F' H' σ ρ' → W (.ref C) none σ H'
      | .bad => False) → wi σ H R)
    (hg : ∀ B F H σ ρ v x (Q : L2.St → Hp → Prop), Env g.K B F H σ ρ → Item lo g.K F H v x → (match gs x ρ with
      | some ρ' => ∀ σ', Kp (compPin n vs) σ σ' → Env g.K B F H σ' ρ' → Q σ' H
      | none => False) → gt v σ H Q)
    (he : SimL g.K g.mg W0 te elt) : SimM g.K g.mg W (tLc wi gt (fun σ H Q => Q true H) te vs) (mCompM n mi gs elt vs) := by
  intro B F H σ ρ Q E h
  refine hi B F H σ ρ _ E ?_
  unfold mCompM at h
  cases ei : mi ρ with
  | bad => rw [ei] at h; exact h
  | exc x ρ1 => rw [ei] at h; exact h
  | ok xs ρ1 =>
  rw [ei] at h
  simp only [bnd_ok] at h
  by_cases hz : noOwn ρ1 vs = true ∧ xs.length ≤ sizeLine ∧ ρ1.length ≤ n
  case neg => rw [if_neg hz] at h; exact h.elim
  rw [if_pos hz] at h
  obtain ⟨hno, hsz, hn⟩ := hz
  cases ec : compM gs elt vs xs (wipeR ρ1 vs) with
  | bad => rw [ec] at h; exact h.elim
  | exc x ρ2 => rw [ec] at h; exact h.elim
  | ok rs ρe =>
  rw [ec] at h
  simp only [cBnd_ok] at h
  intro J F1 H1 g1 E1 hJ Dq nD
  have E1w : Env g.K B F1 H1 (L2.wipe σ vs) (wipeR ρ1 vs) := E1.wipe vs
  have hlen : ∀ i, i < σ.length → i ∉ vs → i ∈ compPin n vs := fun i hi hv => mem_compPin (by rw [← E1.len] at hi; omega) hv
  have nB : B Dq = none := E1.subB.nn nD
  have nF : F1 Dq = none := E1.sub.nn nD
  refine ⟨fun i m H' => m = xs.length - i ∧ i ≤ xs.length ∧ ∃ F' ρ' qs racc rest, Gr B F1 F' ∧ Env g.K B F' H' (L2.wipe σ vs) ρ' ∧ qs.length ≤ i ∧ Own g.K B F' H' (L2.wipe σ vs) ρ' Dq qs racc ∧
      compM gs elt vs (xs.drop i) ρ' = .ok rest ρe ∧ racc ++ rest = rs, ?_, ?_⟩
  · refine ⟨xs.length, by simp, Nat.zero_le _, F1, wipeR ρ1 vs, [], [], rs, Gr.refl, ?_, Nat.le_refl _, ?_, by simpa using ec, rfl⟩
    · exact E1w.other nF nB (fresh_own E1w nD)
    · exact ⟨⟨upd_same, by simp, List.nodup_nil, rfl, fun i a r e _ => by simp at e⟩, nF, (fun a h => by cases h), nB, (fun a h => by cases h), fun i o a e hs => ⟨fun z => by subst z; exact fresh_own E1w nD i o e hs, by simp⟩⟩
  rintro i m H2 ⟨rfl, hi', F2, ρ2, qs, racc, rest, g2, E2, hql, ow, e2, ed⟩
  obtain ⟨hstop, hgo⟩ := hJ F2 H2 g2.sub E2.sub
  by_cases hlt : i < xs.length
  · have ex : xs[i]? = some xs[i] := List.getElem?_eq_getElem hlt
    have edr : xs.drop i = xs[i] :: xs.drop (i + 1) := List.drop_eq_getElem_cons hlt
    obtain ⟨go, yl⟩ := hgo i xs[i] ex
    rw [edr] at e2
    unfold compM at e2
    refine .inr ⟨go, fun H' => ∃ F' ρ' qs racc rest, Gr B F1 F' ∧ Env g.K B F' H' (L2.wipe σ vs) ρ' ∧ qs.length ≤ i + 1 ∧ Own g.K B F' H' (L2.wipe σ vs) ρ' Dq qs racc ∧
      compM gs elt vs (xs.drop (i + 1)) ρ' = .ok rest ρe ∧ racc ++ rest = rs, fun H' hN => ⟨xs.length - (i + 1), by omega, rfl, hlt, hN⟩, fun v H3 hy => ?_⟩
    obtain ⟨F3, gw, it⟩ := yl v H3 hy
    have E3 := E2.grow gw
    have g3 := gw.gr E2.subB
    have m3 : Mat H3 Dq qs racc := ow.mat.mono (by rw [gw.subH _ _ ow.mat.top, ow.mat.top]) fun a ha => by
      obtain ⟨u, e⟩ := ow.mat.has ha
      rw [gw.subH _ _ e, e]
    have stay : ∀ {a : Addr} {u : HO}, H2 a = some u → F2 a = none → F3 a = none := fun {a u} e n => by
      cases q : F3 a with
      | none => rfl
      | some w =>
        rcases gw.new a (by rw [q]; exact fun z => nomatch z) with b | b
        · exact absurd n b
        · rw [e] at b; cases b
    -- the new list and its rows stay while the item is looked at
    obtain ⟨B3, hB3⟩ : ∃ B3, B3 = withM B H3 Dq (qs.map .ref) qs := ⟨_, rfl⟩
    have nn3 : ∀ {a : Addr}, B3 a = none → a ≠ Dq ∧ a ∉ qs ∧ B a = none := fun {a} h => by rw [hB3] at h; exact withM_none (fun a ha => m3.has ha) h
    have E3' : Env g.K B3 F3 H3 (L2.wipe σ vs) ρ2 := E3.reB (by rw [hB3]; exact withM_sub E3.subB m3.top) fun i o a e hs => by
      obtain ⟨a1, a2⟩ := ow.ow i o a e hs
      obtain ⟨q', b1, b2, b3, b4⟩ := E3.own i o e
      rw [hs] at b1; cases b1
      rw [hB3]
      exact withM_none' a1 a2 b3
    refine hg B3 F3 H3 (L2.wipe σ vs) ρ2 v xs[i] _ E3' it ?_
    cases eg : gs xs[i] ρ2 with
    | none => rw [eg] at e2; cases e2
    | some ρ3 =>
    rw [eg] at e2
    intro σ4 k4 E4
    have ew : L2.wipe σ4 vs = L2.wipe σ vs := wipe_eq k4 hlen
    refine ⟨ew, ?_⟩
    simp only at e2
    show (if true = true then _ else _)
    rw [if_pos rfl]
    cases ee : elt ρ3 with
    | bad => rw [ee] at e2; cases e2
    | exc _ _ => rw [ee] at e2; cases e2
    | ok o ρ6 =>
    rw [ee] at e2
    simp only [cBnd_ok] at e2
    cases erb : rowB o with
    | none => rw [erb] at e2; cases e2
    | some r =>
    rw [erb] at e2
    simp only at e2
    cases er : compM gs elt vs (xs.drop (i + 1)) (wipeR ρ6 vs) with
    | bad => rw [er] at e2; cases e2
    | exc _ _ => rw [er] at e2; cases e2
    | ok rest' ρ7 =>
    rw [er] at e2
    simp only [cBnd_ok] at e2
    cases e2
    refine he B3 F3 H3 σ4 ρ3 _ E4 ?_
    rw [ee]
    intro p F6 H6 g6 E6 nFp nBp hO hp
    have hD6 : H6 Dq = some (.lst (qs.map .ref)) := E6.subB _ _ (by rw [hB3]; unfold withM; rw [if_pos rfl])
    have hs6 : ∀ a ∈ qs, H6 a = H3 a := fun a ha => by
      obtain ⟨u, e⟩ := m3.has ha
      rw [e]
      refine E6.subB _ _ ?_
      rw [hB3]; unfold withM
      rw [if_neg (fun z => m3.nq (by rw [← z]; exact ha)), if_pos ha]; exact e
    have m6 : Mat H6 Dq qs racc := m3.mono (by rw [hD6, m3.top]) hs6
    obtain ⟨pd, pq, pB⟩ := nn3 nBp
    refine ⟨qs.map .ref, hD6, by rw [List.length_map]; omega, ?_⟩
    -- the row
    obtain ⟨us, hp1, hp2⟩ : ∃ us, H6 p = some (.lst us) ∧ us = r.map .bl := by
      cases o with
      | lst ds =>
        obtain ⟨us, a1, a2, a3⟩ := hO
        have e := boolsOf_eq (show boolsOf ds = some r from erb)
        subst e
        exact ⟨us, a1, a3.bools⟩
      | dI _ => cases erb
      | dT _ => cases erb
    subst hp2
    have nF6 : ∀ {a : Addr}, F3 a = none → (a = Dq ∨ a ∈ qs) → F6 a = none := fun {a} n h => by
      cases q : F6 a with
      | none => rfl
      | some w =>
        rcases g6.new a (by rw [q]; exact fun z => nomatch z) with b | b
        · exact absurd n b
        · rcases h with h | h
          · exact absurd h (nn3 b).1
          · exact absurd h (nn3 b).2.1
    have E7 := E6.wipe vs
    rw [ew] at E7
    have nDq6 : F6 Dq = none := nF6 (stay ow.mat.top ow.nF) (.inl rfl)
    have own7 : ∀ (i : Nat) (o' : Ob) (a : Addr), (wipeR ρ6 vs)[i]? = some (.own o') → (L2.wipe σ vs)[i]? = some (some (.ref a)) → a ≠ Dq ∧ a ∉ qs ++ [p] := fun i o' a e hs => by
      obtain ⟨q', b1, b2, b3, b4⟩ := E7.own i o' e
      rw [hs] at b1; cases b1
      obtain ⟨c1, c2, c3⟩ := nn3 b3
      refine ⟨c1, fun z => ?_⟩
      rcases List.mem_append.mp z with z | z
      · exact c2 z
      · have : a = p := by simpa using z
        subst this
        have hi : i ∉ vs := fun hi => by
          rw [← ew] at hs
          exact (L2.wipe_some hs).2 hi
        rw [← ew, L2.wipe_out hi] at hs
        exact hp i o' (by rw [wipeR_get_in' hi] at e; exact e) hs
    have E8 : Env g.K B F6 H6 (L2.wipe σ vs) (wipeR ρ6 vs) := E7.reB (fun a u e => by
      by_cases z : a = Dq
      · subst z; rw [nB] at e; cases e
      · by_cases z2 : a ∈ qs
        · rw [ow.nBs a z2] at e; cases e
        · refine E7.subB a u ?_
          rw [hB3]; unfold withM; rw [if_neg z, if_neg z2]; exact e) fun i o' a e hs => by
      obtain ⟨q', b1, b2, b3, b4⟩ := E7.own i o' e
      rw [hs] at b1; cases b1
      exact (nn3 b3).2.2
    have hnoD : ∀ (i : Nat) (o' : Ob), (wipeR ρ6 vs)[i]? = some (.own o') → (L2.wipe σ vs)[i]? = some (some (.ref Dq)) → False := fun i o' e hs => (own7 i o' Dq e hs).1 rfl
    refine ⟨F6, wipeR ρ6 vs, qs ++ [p], racc ++ [r], rest', ((g2.trans g3).trans (g6.reB fun a h => (nn3 h).2.2)), E8.other nDq6 nB hnoD, by simp; omega, ?_, er, by rw [List.append_assoc]; exact ed⟩
    refine ⟨⟨by rw [upd_same]; simp, ?_, ?_, by simp [m6.len], ?_⟩, nDq6, ?_, nB, ?_, own7⟩
    · intro z
      rcases List.mem_append.mp z with z | z
      · exact m6.nq z
      · exact pd (by simpa using z : Dq = p).symm
    · rw [List.nodup_append]
      refine ⟨m6.nd, by simp, fun a ha b hb => ?_⟩
      have : b = p := by simpa using hb
      subst this
      exact fun z => pq (by rw [← z]; exact ha)
    · intro j a r' e1 e2
      have hne : a ≠ Dq := fun z => by
        subst z
        rcases List.mem_append.mp (List.mem_of_getElem? e1) with z | z
        · exact m6.nq z
        · exact pd (by simpa using z : a = p).symm
      rw [upd_ne hne]
      by_cases hj : j < qs.length
      · rw [List.getElem?_append_left hj] at e1
        rw [List.getElem?_append_left (by rw [← m6.len]; exact hj)] at e2
        exact m6.row j a r' e1 e2
      · rw [List.getElem?_append_right (by omega)] at e1
        rw [List.getElem?_append_right (by rw [← m6.len]; omega)] at e2
        have hj0 : j - qs.length = 0 := by
          have := (List.getElem?_eq_some_iff.mp e1).1
          simp at this; omega
        rw [hj0] at e1
        rw [← m6.len, hj0] at e2
        simp at e1 e2
        subst e1 e2
        exact hp1
    · intro a ha
      rcases List.mem_append.mp ha with z | z
      · obtain ⟨u, e⟩ := ow.mat.has z
        exact nF6 (stay e (ow.nFs a z)) (.inr z)
      · have : a = p := by simpa using z
        subst this; exact nFp
    · intro a ha
      rcases List.mem_append.mp ha with z | z
      · exact ow.nBs a z
      · have : a = p := by simpa using z
        subst this; exact pB
  · have e : i = xs.length := by omega
    subst e
    rw [List.drop_length] at e2
    unfold compM at e2
    cases e2
    rw [List.append_nil] at ed
    subst ed
    refine .inl ⟨hstop, ?_⟩
    have E8 : Env g.K B F2 H2 σ (unw ρ1 vs ρe) := E2.unw (fun i d hi e => by
      obtain ⟨v, a, b⟩ := E1.val i d e
      exact ⟨v, a, b.mono g2.sub⟩) (fun i o hi e => by
      have := List.all_eq_true.mp hno i hi
      rw [e] at this
      cases this)
    refine h Dq qs F2 H2 (g1.trans g2) E8 ⟨ow.mat, ow.nF, ow.nFs, ow.nB, ow.nBs, fun i o' a e hs => ?_⟩
    have hi : i ∉ vs := fun hi => by
      have z := unw_in hi e
      have q : ρ1[i]? = some (.own o') := by
        rw [List.getD_eq_getElem?_getD] at z
        cases q : ρ1[i]? with
        | none => rw [q] at z; cases z
        | some c' => rw [q] at z; rw [z]; rfl
      have := List.all_eq_true.mp hno i hi
      rw [q] at this
      cases this
    rw [unw_out hi] at e
    exact ow.ow i o' a e (by rw [L2.wipe_out hi]; exact hs)
end
end DX

set_option maxHeartbeats 1000000
namespace DX
open PySem PySem.Spec PyProof.Rows L2
abbrev Rows := List (List Bool)
/-- a statement that works on the matrix at slot i -/
def SimMS (K : KC) (mg : Str → Option Value) (W : WX) (i : Nat) (t : TS) (m : Rows → Rho → Option (Rows × Rho)) : Prop := ∀ B F H σ ρ D q qs rows, Env K B F H σ ρ → Own K B F H σ ρ q qs rows → σ[i]? = some (some (.ref q)) →
  (match m rows ρ with
  | some (rows', ρ') => ∀ F' H' σ', Gr B F F' → Kp [i] σ σ' → Env K B F' H' σ' ρ' → Own K B F' H' σ' ρ' q qs rows' → D.nx σ' H'
  | none => False) → t D σ H
def DMS (g : GC) (W : WX) (X : Cx) (i : Nat) (st : Stmt) (m : Rows → Rho → Option (Rows × Rho)) : Prop := ∃ t, PS X st t ∧ SimMS g.K g.mg W i t m
def forMx (gs : D → Rho → Option Rho) (body : Rows → Rho → Option (Rows × Rho)) : List D → Rows → Rho → Option (Rows × Rho)
  | [], rows, ρ => some (rows, ρ)
  | x :: xs, rows, ρ => match gs x ρ with
    | none => none
    | some ρ1 => match body rows ρ1 with
      | some (rows', ρ2) => forMx gs body xs rows' ρ2
      | none => none
def sForM (mi : M (List D)) (gs : D → Rho → Option Rho) (body : Rows → Rho → Option (Rows × Rho)) : Rows → Rho → Option (Rows × Rho) := fun rows ρ => match mi ρ with
  | .ok xs ρ1 => forMx gs body xs rows ρ1
  | _ => none
section
variable {g : GC} {s : SS} {k : Nat} {W : WX} {X : Cx} {pos : Pos}
/-- the matrix stays while something else is done -/
theorem Own.keep {K : KC} {B F H F' H' : Hp} {σ σ' : L2.St} {ρ ρ' : Rho} {q : Addr} {qs : List Addr} {rows : Rows} (ow : Own K B F H σ ρ q qs rows)
    (gr : Gr (withM B H q (qs.map .ref) qs) F F') (E' : Env K (withM B H q (qs.map .ref) qs) F' H' σ' ρ') : Env K B F' H' σ' ρ' ∧ Own K B F' H' σ' ρ' q qs rows ∧ Gr B F F' := by
  have hs : ∀ a ∈ qs, ∃ u, H a = some u := fun a ha => ow.mat.has ha
  have top' : H' q = H q := by
    rw [ow.mat.top]; exact E'.subB _ _ (by unfold withM; rw [if_pos rfl])
  have row' : ∀ a ∈ qs, H' a = H a := fun a ha => by
    obtain ⟨u, e⟩ := hs a ha
    rw [e]
    refine E'.subB _ _ ?_
    unfold withM
    rw [if_neg (fun z => ow.mat.nq (by rw [← z]; exact ha)), if_pos ha]; exact e
  have nF' : ∀ {a : Addr}, F a = none → (a = q ∨ a ∈ qs) → F' a = none := fun {a} n h => by
    cases e : F' a with
    | none => rfl
    | some w =>
      rcases gr.new a (by rw [e]; exact fun z => nomatch z) with b | b
      · exact absurd n b
      · obtain ⟨c1, c2, c3⟩ := withM_none hs b
        rcases h with h | h
        · exact absurd h c1
        · exact absurd h c2
  refine ⟨E'.reB (fun a u e => ?_) fun i o a e hh => ?_, ⟨ow.mat.mono top' row', nF' ow.nF (.inl rfl), fun a ha => nF' (ow.nFs a ha) (.inr ha), ow.nB, ow.nBs, fun i o a e hh => ?_⟩, gr.reB fun a h => (withM_none hs h).2.2⟩
  · by_cases z : a = q
    · subst z; rw [ow.nB] at e; cases e
    · by_cases z2 : a ∈ qs
      · rw [ow.nBs a z2] at e; cases e
      · refine E'.subB a u ?_
        unfold withM; rw [if_neg z, if_neg z2]; exact e
  · obtain ⟨q', b1, b2, b3, b4⟩ := E'.own i o e
    rw [hh] at b1; cases b1
    exact (withM_none hs b3).2.2
  · obtain ⟨q', b1, b2, b3, b4⟩ := E'.own i o e
    rw [hh] at b1; cases b1
    exact ⟨(withM_none hs b3).1, (withM_none hs b3).2.1⟩
theorem Own.env {K : KC} {B F H : Hp} {σ : L2.St} {ρ : Rho} {q : Addr} {qs : List Addr} {rows : Rows} (ow : Own K B F H σ ρ q qs rows) (E : Env K B F H σ ρ) : Env K (withM B H q (qs.map .ref) qs) F H σ ρ :=
  E.reB (withM_sub E.subB ow.mat.top) fun i o a e hh => by
    obtain ⟨q', b1, b2, b3, b4⟩ := E.own i o e
    rw [hh] at b1; cases b1
    exact withM_none' (ow.ow i o a e hh).1 (ow.ow i o a e hh).2 b3
theorem Grow.grW {F H F' H' : Hp} (gw : Grow F H F' H') {B : Hp} (s : Sub B H) : Gr B F F' := gw.gr s
theorem dms_for (ok : Ok g s k W X) {i : Nat} {tg iter : Expr} {st : Stmt} {mi : M (List D)} {gs : D → Rho → Option Rho} {mb : Rows → Rho → Option (Rows × Rho)} (hi : DI false g W X tg iter mi) (hg : DG false g [i] X tg gs) (hb : DMS g W X i st mb)
    (hs : ∀ x, foldedSetIterable iter X.env x = pure x := by intro _; rfl) : DMS g W X i (.For tg iter [st] [] pos) (sForM mi gs mb) := by
  obtain ⟨wi, pi, si⟩ := hi
  obtain ⟨tg', pg, sg⟩ := hg
  obtain ⟨tb, pb, sb⟩ := hb
  refine ⟨_, ps_for ok.po ok.calm pi pg (pss_one pb) hs, fun B F H σ ρ D q qs rows E ow hq h => ?_⟩
  refine si _ F H σ ρ _ (ow.env E) ?_
  unfold sForM at h
  cases ei : mi ρ with
  | bad => rw [ei] at h; exact h
  | exc x ρ1 => rw [ei] at h; exact h.elim
  | ok xs ρ1 =>
  rw [ei] at h
  simp only at h
  intro J F1 H1 g1 E1' hJ
  obtain ⟨E1, ow1, g1'⟩ := ow.keep g1 E1'
  cases ef : forMx gs mb xs rows ρ1 with
  | none => rw [ef] at h; exact h.elim
  | some res =>
  obtain ⟨rowsE, ρE⟩ := res
  rw [ef] at h
  simp only at h
  refine ⟨fun j m σ' H' => m = xs.length - j ∧ j ≤ xs.length ∧ ∃ F' ρ' rows', Gr B F1 F' ∧ Kp [i] σ σ' ∧ Env g.K B F' H' σ' ρ' ∧ Own g.K B F' H' σ' ρ' q qs rows' ∧ forMx gs mb (xs.drop j) rows' ρ' = some (rowsE, ρE), ⟨xs.length, by simp, Nat.zero_le _, F1, ρ1, rows, Gr.refl, Kp.refl, E1, ow1, by simpa using ef⟩, ?_⟩
  rintro j m σ2 H2 ⟨rfl, hj, F2, ρ2, rows2, g2, k2, E2, ow2, e2⟩
  obtain ⟨hstop, hgo⟩ := hJ F2 H2 g2.sub E2.sub
  by_cases hlt : j < xs.length
  · have ex : xs[j]? = some xs[j] := List.getElem?_eq_getElem hlt
    have ed : xs.drop j = xs[j] :: xs.drop (j + 1) := List.drop_eq_getElem_cons hlt
    obtain ⟨go, yl⟩ := hgo j xs[j] ex
    refine .inr ⟨go, fun σ' H' => ∃ F' ρ' rows', Gr B F1 F' ∧ Kp [i] σ σ' ∧ Env g.K B F' H' σ' ρ' ∧ Own g.K B F' H' σ' ρ' q qs rows' ∧ forMx gs mb (xs.drop (j + 1)) rows' ρ' = some (rowsE, ρE), fun σ' H' hN => ⟨xs.length - (j + 1), by omega, rfl, hlt, hN⟩, fun v H3 hy => ?_⟩
    obtain ⟨F3, gw, it⟩ := yl v H3 hy
    have E2' := ow2.env E2
    obtain ⟨E3, ow3, g3⟩ := ow2.keep (gw.gr E2'.subB) (E2'.grow gw)
    rw [ed, forMx] at e2
    refine sg _ F3 H3 σ2 ρ2 v xs[j] _ (ow3.env E3) it ?_
    cases eg : gs xs[j] ρ2 with
    | none => rw [eg] at e2; cases e2
    | some ρ3 =>
    rw [eg] at e2
    simp only at e2
    intro σ4 k4 E4'
    obtain ⟨E4, ow4, _⟩ := ow3.keep Gr.refl E4'
    have hq4 : σ4[i]? = some (some (.ref q)) := by rw [k4.2 i (by simp), k2.2 i (by simp)]; exact hq
    refine sb B F3 H3 σ4 ρ3 _ q qs rows2 E4 ow4 hq4 ?_
    cases eb : mb rows2 ρ3 with
    | none => rw [eb] at e2; cases e2
    | some r =>
    obtain ⟨rows5, ρ5⟩ := r
    rw [eb] at e2
    simp only at e2
    exact fun F' H' σ' g' k' E' ow' => ⟨F', ρ5, rows5, (g2.trans g3).trans g', (k2.trans k4).trans k', E', ow', e2⟩
  · have e : j = xs.length := by omega
    subst e
    rw [List.drop_length] at e2
    cases e2
    exact .inl ⟨hstop, h F2 H2 σ2 (g1'.trans g2) k2 E2 ow2⟩

/-! found[x][y], read and written -/
def cellM (rows : Rows) (a b : Int) : Option Bool := if 0 ≤ a ∧ 0 ≤ b then (rows[a.toNat]?).bind (·[b.toNat]?) else none
def slotI (ρ : Rho) (i : Nat) : Option Int := match ρ[i]? with
  | some (.val (.int n)) => some n
  | _ => none
theorem slotI_of {ρ : Rho} {i : Nat} {n : Int} (h : slotI ρ i = some n) : ρ[i]? = some (.val (.int n)) := by
  unfold slotI at h
  split at h
  · cases h; assumption
  · cases h
theorem Env.int {K : KC} {B F H : Hp} {σ : L2.St} {ρ : Rho} {i : Nat} {n : Int} (E : Env K B F H σ ρ) (h : slotI ρ i = some n) : σ[i]? = some (some (.int n)) := by
  obtain ⟨v, h1, h2⟩ := E.val i _ (slotI_of h)
  cases h2
  exact h1
theorem Mat.cell {H : Hp} {q : Addr} {qs : List Addr} {rows : Rows} (m : Mat H q qs rows) {a b : Int} {v : Bool} (h : cellM rows a b = some v) : ∃ (p : Addr) (r : List Bool), atI (qs.map V.ref) a = some (.ref p) ∧ qs[a.toNat]? = some p ∧ rows[a.toNat]? = some r ∧ H p = some (.lst (r.map .bl)) ∧ atI (r.map V.bl) b = some (.bl v) ∧ ixN (r.map V.bl).length b = some b.toNat := by
  unfold cellM at h
  split at h
  · rename_i hz
    cases er : rows[a.toNat]? with
    | none => rw [er] at h; cases h
    | some r =>
    rw [er] at h
    have h : r[b.toNat]? = some v := h
    have hl : a.toNat < qs.length := by rw [m.len]; exact (List.getElem?_eq_some_iff.mp er).1
    have hb : b.toNat < r.length := (List.getElem?_eq_some_iff.mp h).1
    have ix : ∀ (n : Nat) (z : Int), 0 ≤ z → z.toNat < n → ixN n z = some z.toNat := fun n z h0 h1 => by
      unfold ixN; rw [if_pos h0, if_pos (by omega)]
    refine ⟨qs[a.toNat], r, ?_, List.getElem?_eq_getElem hl, rfl, m.row a.toNat _ r (List.getElem?_eq_getElem hl) er, ?_, ix _ _ hz.2 (by simpa using hb)⟩
    · unfold atI
      rw [ix _ _ hz.1 (by simpa using hl)]
      simp [hl]
    · unfold atI
      rw [ix _ _ hz.2 (by simpa using hb)]
      simp [h]
  · cases h
variable {x y f : Str} {ix iy iF : Nat} {px py pf p1 p2 : Pos}
theorem pe_cell (ok : Ok g s k W X) (sf : Sl s iF f) (sx : Sl s ix x) (sy : Sl s iy y) : PE X (.Subscript (.Subscript (.Name f pf) (.Name x px) p1) (.Name y py) p2) (tOp (rIx X.K) (tOp (rIx X.K) (tVar iF) (tVar ix)) (tVar iy)) :=
  pe_ix ix_seq (pe_ix ix_seq (sf.pe ok) (sx.pe ok) (fun _ _ => rfl)) (sy.pe ok) (fun _ _ => rfl)
theorem t_cell {K : PySem.W.Frag} {H : Hp} {σ : L2.St} {q : Addr} {qs : List Addr} {rows : Rows} (m : Mat H q qs rows) {a b : Int} {v : Bool} (hf : σ[iF]? = some (some (.ref q))) (hx : σ[ix]? = some (some (.int a))) (hy : σ[iy]? = some (some (.int b)))
    (h : cellM rows a b = some v) {Q : VK} (hQ : Q (.bl v) H) : (tOp (rIx K) (tOp (rIx K) (tVar iF) (tVar ix)) (tVar iy)) σ H Q := by
  obtain ⟨p, r, h1, h2, h3, h4, h5, h6⟩ := m.cell h
  refine ⟨.ref q, hf, .int a, hx, .inl ⟨q, _, a, .ref p, rfl, rfl, .inl (.inl m.top), h1, ?_⟩⟩
  exact ⟨.int b, hy, .inl ⟨p, _, b, .bl v, rfl, rfl, .inl (.inl h4), h5, hQ⟩⟩

/-- found[a][b] = found[a][b] or (found[a][c] and found[c][b]) -/
def setM (rows : Rows) (a b : Int) (v : Bool) : Rows := match rows[a.toNat]? with
  | some r => rows.set a.toNat (r.set b.toNat v)
  | none => rows
def orAnd (x y z : Option Bool) : Option Bool := match x, y, z with
  | some x, some y, some z => some (x || (y && z))
  | _, _, _ => none
def sCell (ia ib ic : Nat) : Rows → Rho → Option (Rows × Rho) := fun rows ρ => match slotI ρ ia, slotI ρ ib, slotI ρ ic with
  | some a, some b, some c => (match orAnd (cellM rows a b) (cellM rows a c) (cellM rows c b) with
    | some v => some (setM rows a b v, ρ)
    | none => none)
  | _, _, _ => none
theorem sCell_ok {ia ib ic : Nat} {rows : Rows} {ρ : Rho} {a b c : Int} {x y z : Bool} (ha : slotI ρ ia = some a) (hb : slotI ρ ib = some b) (hc : slotI ρ ic = some c) (h1 : cellM rows a b = some x) (h2 : cellM rows a c = some y) (h3 : cellM rows c b = some z) :
    sCell ia ib ic rows ρ = some (setM rows a b (x || (y && z)), ρ) := by
  unfold sCell
  rw [ha, hb, hc]
  simp only
  rw [h1, h2, h3]
  rfl
theorem Own.write {K : KC} {B F H : Hp} {σ : L2.St} {ρ : Rho} {q p : Addr} {qs : List Addr} {rows : Rows} {j : Nat} {r r' : List Bool} (ow : Own K B F H σ ρ q qs rows) (E : Env K B F H σ ρ) (hp : qs[j]? = some p) (hr : rows[j]? = some r) :
    Env K B F (upd H p (.lst (r'.map .bl))) σ ρ ∧ Own K B F (upd H p (.lst (r'.map .bl))) σ ρ q qs (rows.set j r') := by
  have hm : p ∈ qs := List.mem_of_getElem? hp
  have pq : q ≠ p := fun z => ow.mat.nq (by rw [z]; exact hm)
  refine ⟨E.other (ow.nFs p hm) (ow.nBs p hm) (fun i o e hs => (ow.ow i o p e hs).2 hm), ⟨⟨by rw [upd_ne pq]; exact ow.mat.top, ow.mat.nq, ow.mat.nd, by rw [List.length_set]; exact ow.mat.len, fun i a r1 e1 e2 => ?_⟩, ow.nF, ow.nFs, ow.nB, ow.nBs, ow.ow⟩⟩
  by_cases hij : j = i
  · subst hij
    rw [hp] at e1; cases e1
    rw [List.getElem?_set_self (List.getElem?_eq_some_iff.mp hr).1] at e2
    cases e2
    exact upd_same
  · have hne : a ≠ p := fun z => by
      subst z
      have h1 := List.getElem?_eq_some_iff.mp hp
      have h2 := List.getElem?_eq_some_iff.mp e1
      exact hij ((List.getElem_inj ow.mat.nd).mp (h1.2.trans h2.2.symm))
    rw [upd_ne hne]
    rw [List.getElem?_set_ne hij] at e2
    exact ow.mat.row i a r1 e1 e2
variable {a b c : Str} {ia ib ic : Nat} {q1 q2 q3 q4 q5 q6 q7 q8 q9 q10 q11 q12 q13 q14 q15 q16 q17 q18 q19 q20 q21 : Pos}
theorem dms_cell (ok : Ok g s k W X) (iF : Nat) (ia ib ic : Nat) (sf : Sl s iF f) (sa : Sl s ia a) (sb : Sl s ib b) (sc : Sl s ic c)
    (ha : ∀ v, assign (.Subscript (.Subscript (.Name f q1) (.Name a q2) q3) (.Name b q4) q5) X.env v = (do
      let ov ← holding [v] (eval (.Subscript (.Name f q1) (.Name a q2) q3) X.env)
      let iv ← holding [v, ov] (eval (.Name b q4) X.env)
      standAt q5
      holding [v, ov, iv] (setItem ov iv v)
      release [v, ov, iv] []) := by intro _; rfl)
    (hs : swapsWithSole [.Subscript (.Subscript (.Name f q1) (.Name a q2) q3) (.Name b q4) q5] (.BoolOp .Or [.Subscript (.Subscript (.Name f q6) (.Name a q7) q8) (.Name b q9) q10, .BoolOp .And [.Subscript (.Subscript (.Name f q11) (.Name a q12) q13) (.Name c q14) q15, .Subscript (.Subscript (.Name f q16) (.Name c q17) q18) (.Name b q19) q20] p1] p2) pos.line X.env = pure false := by rfl)
    (hw : swappedStores [.Subscript (.Subscript (.Name f q1) (.Name a q2) q3) (.Name b q4) q5] (.BoolOp .Or [.Subscript (.Subscript (.Name f q6) (.Name a q7) q8) (.Name b q9) q10, .BoolOp .And [.Subscript (.Subscript (.Name f q11) (.Name a q12) q13) (.Name c q14) q15, .Subscript (.Subscript (.Name f q16) (.Name c q17) q18) (.Name b q19) q20] p1] p2) X.env = pure none := by rfl)
    (h1 : (assignEach [.Subscript (.Subscript (.Name f q1) (.Name a q2) q3) (.Name b q4) q5] X.env).map (·.2) = [assign (.Subscript (.Subscript (.Name f q1) (.Name a q2) q3) (.Name b q4) q5) X.env] := by rfl) :
    DMS g W X iF (.Assign [.Subscript (.Subscript (.Name f q1) (.Name a q2) q3) (.Name b q4) q5] (.BoolOp .Or [.Subscript (.Subscript (.Name f q6) (.Name a q7) q8) (.Name b q9) q10, .BoolOp .And [.Subscript (.Subscript (.Name f q11) (.Name a q12) q13) (.Name c q14) q15, .Subscript (.Subscript (.Name f q16) (.Name c q17) q18) (.Name b q19) q20] p1] p2) pos) (sCell ia ib ic) := by
  refine ⟨_, ps_asg (pe_or (pe_cell ok sf sa sb) (pe_one (pe_and (pe_cell ok sf sa sc) (pe_one (pe_cell ok sf sc sb))))) (pg_sub (pe_ix ix_seq (sf.pe ok) (sa.pe ok) (fun _ _ => rfl)) (sb.pe ok) set_list ha) hs hw h1, fun B F H σ ρ D q qs rows E ow hq h => ?_⟩
  unfold sCell at h
  cases ea : slotI ρ ia with
  | none => rw [ea] at h; exact h.elim
  | some va =>
  cases eb : slotI ρ ib with
  | none => rw [ea, eb] at h; exact h.elim
  | some vb =>
  cases ec : slotI ρ ic with
  | none => rw [ea, eb, ec] at h; exact h.elim
  | some vc =>
  rw [ea, eb, ec] at h
  simp only at h
  have ha' := E.int ea
  have hb' := E.int eb
  have hc' := E.int ec
  cases e1 : cellM rows va vb with
  | none => rw [e1] at h; exact h.elim
  | some x =>
  cases e2 : cellM rows va vc with
  | none => rw [e1, e2] at h; exact h.elim
  | some y =>
  cases e3 : cellM rows vc vb with
  | none => rw [e1, e2, e3] at h; exact h.elim
  | some z =>
  rw [e1, e2, e3] at h
  simp only [orAnd] at h
  -- the store
  obtain ⟨p, r, m1, m2, m3, m4, m5, m6⟩ := ow.mat.cell e1
  have store : ∀ v : Bool, v = (x || (y && z)) → (gSub (tOp (rIx X.K) (tVar iF) (tVar ia)) (tVar ib) rSetL) (.bl v) σ H fun σ' H' => D.nx σ' H' := fun v hv => by
    refine ⟨.ref q, hq, .int va, ha', .inl ⟨q, _, va, .ref p, rfl, rfl, .inl (.inl ow.mat.top), m1, ?_⟩⟩
    refine ⟨.int vb, hb', p, _, vb, vb.toNat, rfl, rfl, m4, m6, ?_⟩
    obtain ⟨E', ow'⟩ := ow.write (r' := r.set vb.toNat v) E m2 m3
    have e : (r.map V.bl).set vb.toNat (.bl v) = (r.set vb.toNat v).map V.bl := by rw [List.map_set]
    rw [e]
    have es : setM rows va vb v = rows.set va.toNat (r.set vb.toNat v) := by unfold setM; rw [m3]
    rw [← hv, es] at h
    exact h F _ σ Gr.refl Kp.refl E' ow'
  refine t_cell ow.mat hq ha' hb' e1 ?_
  refine ⟨x, rfl, ?_⟩
  cases x with
  | true => rw [if_pos rfl]; exact store true rfl
  | false =>
    rw [if_neg (by decide)]
    refine t_cell ow.mat hq ha' hc' e2 ?_
    refine ⟨y, rfl, ?_⟩
    cases y with
    | true =>
      rw [if_pos rfl]
      exact t_cell ow.mat hq hc' hb' e3 (store z rfl)
    | false => rw [if_neg (by decide)]; exact store false rfl
end
end DX

set_option maxHeartbeats 1000000
namespace DX
open PySem PySem.Spec PyProof.Rows L2
def matD (rows : Rows) : D := .list (rows.map fun r => .list (r.map .bool))
def sMat (i : Nat) (mc : M Rows) (m2 : Rows → Rho → Option (Rows × Rho)) : MS := fun ρ => sBnd (mc ρ) fun rows ρ1 => if i < ρ1.length then (match m2 rows (ρ1.set i .no) with
  | some (rows', ρ2) => if rows'.length ≤ sizeLine ∧ ∀ r ∈ rows', r.length ≤ sizeLine then .next (ρ2.set i (.val (matD rows'))) else .bad
  | none => .bad) else .bad
theorem set_no_own {ρ : Rho} {i j : Nat} {o : Ob} (h : (ρ.set i .no)[j]? = some (.own o)) : i ≠ j ∧ ρ[j]? = some (.own o) := by
  by_cases hj : i = j
  · subst hj
    by_cases hl : i < ρ.length
    · rw [List.getElem?_set_self hl] at h; cases h
    · rw [List.getElem?_eq_none (by simp; omega)] at h; cases h
  · rw [List.getElem?_set_ne hj] at h; exact ⟨hj, h⟩
section
variable {K : KC} {B F H : Hp} {σ : L2.St} {ρ : Rho}
theorem Env.setAny (E : Env K B F H σ ρ) (i : Nat) (v : Option V) : Env K B F H (σ.set i v) (ρ.set i .no) where
  subB := E.subB
  sub := E.sub
  len := by simp [E.len]
  val := fun j d e => by
    by_cases hj : i = j
    · subst hj
      by_cases hl : i < ρ.length
      · rw [List.getElem?_set_self hl] at e; cases e
      · rw [List.getElem?_eq_none (by simp; omega)] at e; cases e
    · rw [List.getElem?_set_ne hj] at e ⊢; exact E.val j d e
  own := fun j o e => by
    obtain ⟨hj, e⟩ := set_no_own e
    rw [List.getElem?_set_ne hj]; exact E.own j o e
  inj := fun j k o o' q hjk e1 e2 e3 e4 => by
    obtain ⟨h1, e1⟩ := set_no_own e1
    obtain ⟨h2, e2⟩ := set_no_own e2
    rw [List.getElem?_set_ne h1] at e3
    rw [List.getElem?_set_ne h2] at e4
    exact E.inj j k o o' q hjk e1 e2 e3 e4
theorem Own.setAny {q : Addr} {qs : List Addr} {rows : Rows} (ow : Own K B F H σ ρ q qs rows) (i : Nat) (v : Option V) : Own K B F H (σ.set i v) (ρ.set i .no) q qs rows :=
  ⟨ow.mat, ow.nF, ow.nFs, ow.nB, ow.nBs, fun j o a e hs => by
    obtain ⟨hj, e⟩ := set_no_own e
    rw [List.getElem?_set_ne hj] at hs
    exact ow.ow j o a e hs⟩
/-- all of it frozen -/
def frzM (F H : Hp) (q : Addr) (qs : List Addr) : Hp := fun x => if x = q ∨ x ∈ qs then H x else F x
theorem RpA.ofBools : ∀ (bs : List Bool), RpA K F (bs.map V.bl) (bs.map PyData.bool)
  | [] => .nil
  | b :: bs => .cons (.bl b) (RpA.ofBools bs)
theorem Own.frz {q : Addr} {qs : List Addr} {rows : Rows} (ow : Own K B F H σ ρ q qs rows) (E : Env K B F H σ ρ) (h1 : rows.length ≤ sizeLine) (h2 : ∀ r ∈ rows, r.length ≤ sizeLine) :
    Env K B (frzM F H q qs) H σ ρ ∧ Gr B F (frzM F H q qs) ∧ Rp K (frzM F H q qs) (.ref q) (matD rows) := by
  have out : ∀ {x : Addr}, ¬ (x = q ∨ x ∈ qs) → frzM F H q qs x = F x := fun h => if_neg h
  have inn : ∀ {x : Addr}, (x = q ∨ x ∈ qs) → frzM F H q qs x = H x := fun h => if_pos h
  have sF : Sub F (frzM F H q qs) := fun a o e => by
    have hn : ¬ (a = q ∨ a ∈ qs) := fun z => by
      rcases z with z | z
      · subst z; rw [ow.nF] at e; cases e
      · rw [ow.nFs a z] at e; cases e
    rw [out hn]; exact e
  refine ⟨⟨E.subB, fun a o e => ?_, E.len, fun i d e => ?_, fun i o e => ?_, E.inj⟩, ⟨sF, fun a h => ?_⟩, ?_⟩
  · by_cases hz : a = q ∨ a ∈ qs
    · rw [inn hz] at e; exact e
    · rw [out hz] at e; exact E.sub a o e
  · obtain ⟨v, a1, a2⟩ := E.val i d e
    exact ⟨v, a1, a2.mono sF⟩
  · obtain ⟨a, b1, b2, b3, b4⟩ := E.own i o e
    obtain ⟨c1, c2⟩ := ow.ow i o a e b1
    have hn : ¬ (a = q ∨ a ∈ qs) := fun z => z.elim c1 c2
    exact ⟨a, b1, by rw [out hn]; exact b2, b3, b4.mono sF rfl⟩
  · by_cases hz : a = q ∨ a ∈ qs
    · rcases hz with z | z
      · subst z; exact .inr ow.nB
      · exact .inr (ow.nBs a z)
    · rw [out hz] at h; exact .inl h
  · have top : frzM F H q qs q = some (.lst (qs.map .ref)) := by rw [inn (.inl rfl)]; exact ow.mat.top
    refine .lst (.inl (.inl top)) (by rw [List.length_map, ow.mat.len]; exact h1) ?_
    have go : ∀ (as : List Addr) (rs : Rows), as.length = rs.length → (∀ a ∈ as, a ∈ qs) → (∀ r ∈ rs, r.length ≤ sizeLine) → (∀ (i : Nat) (a : Addr) (r : List Bool), as[i]? = some a → rs[i]? = some r → H a = some (.lst (r.map .bl))) → RpA K (frzM F H q qs) (as.map .ref) (rs.map fun r => .list (r.map .bool)) := by
      intro as
      induction as with
      | nil => intro rs hl _ _ _; cases rs with | nil => exact .nil | cons _ _ => simp at hl
      | cons a as ih =>
        intro rs hl hm hz hr
        cases rs with
        | nil => simp at hl
        | cons r rs =>
          refine .cons (.lst (.inl (.inl ?_)) (by rw [List.length_map]; exact hz r List.mem_cons_self) (RpA.ofBools r)) (ih rs (by simpa using hl) (fun x hx => hm x (List.mem_cons_of_mem _ hx)) (fun x hx => hz x (List.mem_cons_of_mem _ hx)) fun i x y e1 e2 => hr (i + 1) x y (by simpa using e1) (by simpa using e2))
          rw [inn (.inr (hm a List.mem_cons_self))]
          exact hr 0 a r rfl rfl
    exact go qs rows ow.mat.len (fun _ h => h) h2 ow.mat.row
end
section
variable {g : GC} {s : SS} {k : Nat} {W : WX} {X : Cx} {pos spos py : Pos} {lo : Bool}
structure DCM (lo : Bool) (g : GC) (s : SS) (k : Nat) (W : WX) (X : Cx) (elt tg iter : Expr) (scope : Scope) (own : List (Str × Nat)) (mi : M (List D)) (gs : D → Rho → Option Rho) (me : M Ob) : Prop where
  hi : DI lo g W X tg iter mi
  hg : ∀ X', Ok g (s.block scope) k W0 X' → DG lo g (compPin s.N.length (own.map (·.2))) X' tg gs
  he : ∀ X', Ok g (s.block scope) k W0 X' → DL g W0 X' elt me
  hb : blkC s.N s.sc scope own = true := by decide +kernel
  hs : ∀ x, foldedSetIterable iter X.env x = pure x := by intro _; rfl
/-- a new object, by its own words -/
def cL (g : GC) (W : WX) (m : M Ob) : TE := fun σ H Q => ∃ B F ρ, Env g.K B F H σ ρ ∧ PoL g.K g.mg W B F σ Q (m ρ)
theorem DL.pl {e : Expr} {m : M Ob} (h : DL g W X e m) : PE X e (cL g W m) := by
  obtain ⟨t, p, q⟩ := h
  exact ⟨fun pins s σ H Q I ⟨B, F, ρ, E, po⟩ => p.run pins s σ H Q I (q B F H σ ρ Q E po)⟩
theorem dss_mat (ok : Ok g s k W X) (i : Nat) {x : Str} {elt tg iter : Expr} {scope : Scope} {own : List (Str × Nat)} {mi : M (List D)} {gs : D → Rho → Option Rho} {me : M Ob} {st2 : Stmt} {rest : List Stmt} {m2 : Rows → Rho → Option (Rows × Rho)} {mr : MS}
    (c : DCM lo g s k W X elt tg iter scope own mi gs me) (h2 : DMS g W X i st2 m2) (hr : DSs g W [] X rest mr) (hN : s.N[i]? = some x := by rfl) (hl : locB s x = true := by decide +kernel)
    (hs : swapsWith (.ListComp elt [⟨tg, iter, [], 0⟩] scope pos) (some (.Name x py)) spos.line X.env = pure false) :
    DSs g W [] X (.Assign [.Name x py] (.ListComp elt [⟨tg, iter, [], 0⟩] scope pos) spos :: st2 :: rest) (sSeq (sMat i (mCompM s.N.length mi gs me (own.map (·.2))) m2) mr) := by
  have bo : BlkOk s.N s.sc scope own := blkOk_by c.hb
  obtain ⟨wi, pi, si⟩ := c.hi
  obtain ⟨t2, p2, s2⟩ := h2
  obtain ⟨tr, pr, sr⟩ := hr
  have pe := pe_lc (own := own) (pos := pos) ok.calm ok.ndX pi (by rw [ok.hN, ok.hsc]; exact bo) (fun sh H C cl fp => (c.hg _ (ok.block bo.kind sh H C cl fp)).pg) (fun sh H C cl fp => pts_nil) (fun sh H C cl fp => (c.he _ (ok.block bo.kind sh H C cl fp)).pl) c.hs
  refine ⟨_, pss_cons (ps_set ok.ndX (ok.at hN) (ok.loc hl).1 pe hs (ok.loc hl).2) (pss_cons p2 pr), fun B F H σ ρ D E h => ?_⟩
  have sm := sim_lcM (W := W) (te := cL g W0 me) (n := s.N.length) (vs := own.map (·.2)) (gt := cG lo g (compPin s.N.length (own.map (·.2))) gs) (gs := gs) (elt := me) si (fun B F H σ ρ v x Q E it h => ⟨B, F, ρ, x, E, it, h⟩) (fun B F H σ ρ Q E h => ⟨B, F, ρ, E, h⟩)
  show tLc wi (cG lo g (compPin s.N.length (own.map (·.2))) gs) (fun σ H Q => Q true H) (cL g W0 me) (own.map (·.2)) σ H fun v H' => t2 { D with nx := tr D } (σ.set i (some v)) H'
  refine sm B F H σ ρ _ E ?_
  unfold sSeq sMat at h
  cases ec : mCompM s.N.length mi gs me (own.map (·.2)) ρ with
  | bad => rw [ec] at h; exact h
  | exc y ρ1 => rw [ec] at h; exact fun C F' H' e g' E' => h C F' H' σ e g' Kp.refl E'
  | ok rows ρ1 =>
  rw [ec] at h
  simp only [sBnd_ok] at h
  intro q qs F1 H1 g1 E1 ow1
  by_cases hi : i < ρ1.length
  case neg => rw [if_neg hi] at h; exact h.elim
  rw [if_pos hi] at h
  have hiσ : i < σ.length := by rw [← E1.len]; exact hi
  refine s2 B F1 H1 (σ.set i (some (.ref q))) (ρ1.set i .no) _ q qs rows (E1.setAny i _) (ow1.setAny i _) (List.getElem?_set_self hiσ) ?_
  cases em : m2 rows (ρ1.set i .no) with
  | none => rw [em] at h; exact h
  | some res =>
  obtain ⟨rows', ρ2⟩ := res
  rw [em] at h
  simp only at h
  intro F2 H2 σ2 g2 k2 E2 ow2
  by_cases hz : rows'.length ≤ sizeLine ∧ ∀ r ∈ rows', r.length ≤ sizeLine
  case neg => rw [if_neg hz] at h; exact h.elim
  rw [if_pos hz] at h
  simp only at h
  obtain ⟨E3, g3, r3⟩ := ow2.frz E2 hz.1 hz.2
  have hq2 : σ2[i]? = some (some (.ref q)) := by rw [k2.2 i (by simp)]; exact List.getElem?_set_self hiσ
  have E4 := E3.setVal (i := i) r3
  have es : σ2.set i (some (.ref q)) = σ2 := by
    apply List.ext_getElem?
    intro j
    by_cases hj : i = j
    · subst hj
      rw [List.getElem?_set_self (List.getElem?_eq_some_iff.mp hq2).1, hq2]
    · rw [List.getElem?_set_ne hj]
  rw [es] at E4
  refine sr B _ H2 σ2 _ D E4 ?_
  refine PoS.later ((g1.trans g2).trans g3) ⟨by rw [k2.1, List.length_set], fun j hj => by cases hj⟩ h
end
end DX

set_option maxHeartbeats 1000000
namespace DX
open PySem PySem.Spec PyProof.Rows L2
/-- the law's call, from what its def does as data -/
theorem walk_dx {l : PySem.W.OpenLaw} {n k : Nat} {q : Program} {loose : List Str} {XP : (Str → Option Value) → Heap → Prop} {YP : World → Heap → Prop} {d : DefRec} {x : Str} {fn : List D → FR}
    (hn : l.most = some n) (hn2 : n ≤ sizeLine) (hdf : d.params.defaults = []) (hr : Room k callerA)
    (T : ∀ ns : List Int, ns.length ≤ n → fn [.list (ns.map .int)] = .ok (.bool true))
    (F : ∀ (w : World) (mg : Str → Option Value) (fa : Addr) (h : Heap), YP w h → h.Ns mainGlobals mg → mg d.name = some (.ref fa) →
      ∃ (K : PySem.W.Frag) (fd : FuncData), K.In h ∧ (∀ (s : Shared) (u : Value), BindsTo s fd ⟨[u], []⟩ [(x, u)]) ∧
        ∀ base : Heap, FnOk l.prog w K mg base (L2.CX l.prog w) k fa fd [x] (spD ⟨l.prog, w, K, mg⟩ mg 1 fn)) :
    PySem.W.WalkO q loose XP YP l.row.toRowW d [] (fun f vs => PySem.call f vs) := by
  refine Att.attach_call hn hdf fun w s₀ s₁ mg mb fa o pm cd doc a vs ns G Y ho hd hcd hmg hobj hints hlen hg => ?_
  obtain ⟨K, fd, KX, hb, hF⟩ := F w mg fa _ Y G.T.g hmg
  refine law_call KX G.T.g G.T.b G.T.builtins G.T.nolimit hg hobj hints (Nat.le_trans hlen hn2) hr (fun base _ _ => hF base) hb (fun H hO hS => ?_) fun H e s' => ?_
  · have hl : LsAt K H a (ns.map V.int) := by
      rcases hS with hS | ⟨o, its, m, hk, _, _, hd', hz, hv⟩
      · exact .inl hS
      · have e := KX a o hk
        rw [hobj] at e
        cases e
        cases hd'
        exact .inr ⟨_, _, hk, hz, hv⟩
    refine ⟨H, [.list (ns.map .int)], Sub.refl H, .cons (.lst hl (by rw [List.length_map]; exact Nat.le_trans hlen hn2) (RpA.ofInts ns)) .nil, rfl, ?_⟩
    rw [T ns hlen]
    intro v F' H' gw r
    cases r
    rfl
  · rintro ⟨_, _, _, _, _, _, _, _, _, _, _, _, z⟩
    exact z
end DX

set_option maxHeartbeats 1000000
namespace DX
open PySem PySem.Spec PyProof.Rows L2
def thn2 (r : SR) (b : MS) : SR := match r with
  | .next ρ1 => b ρ1
  | r => r
theorem thn2_congr {r r' : SR} (h : r = r') (b : MS) : thn2 r b = thn2 r' b := by rw [h]
@[simp] theorem thn2_next (ρ : Rho) (b : MS) : thn2 (.next ρ) b = b ρ := rfl
@[simp] theorem thn2_ret (d : D) (ρ : Rho) (b : MS) : thn2 (.ret d ρ) b = .ret d ρ := rfl
@[simp] theorem thn2_brk (ρ : Rho) (b : MS) : thn2 (.brk ρ) b = .brk ρ := rfl
@[simp] theorem thn2_cont (ρ : Rho) (b : MS) : thn2 (.cont ρ) b = .cont ρ := rfl
@[simp] theorem thn2_exc (x : Str) (ρ : Rho) (b : MS) : thn2 (.exc x ρ) b = .exc x ρ := rfl
@[simp] theorem thn2_bad (b : MS) : thn2 .bad b = .bad := rfl
/-- the value of a call -/
def frM (r : FR) (ρ : Rho) : MR D := match r with
  | .ok d => .ok d ρ
  | .exc s => .exc s ρ
  | .bad => .bad
@[simp] theorem frM_ok (d : D) (ρ : Rho) : frM (.ok d) ρ = .ok d ρ := rfl
@[simp] theorem frM_exc (d : Str) (ρ : Rho) : frM (.exc d) ρ = .exc d ρ := rfl
def frLM (r : FRL) (ρ : Rho) : MR Ob := match r with
  | .ok d => .ok d ρ
  | .exc s => .exc s ρ
  | .bad => .bad
@[simp] theorem frLM_ok (d : Ob) (ρ : Rho) : frLM (.ok d) ρ = .ok d ρ := rfl
def frTM (r : FRT) (j : Nat) (ρ : Rho) : MR D := match r with
  | .ok d ts' => .ok d (ρ.set j (.own (.lst ts')))
  | .exc s ts' => .exc s (ρ.set j (.own (.lst ts')))
  | .bad => .bad
@[simp] theorem frTM_ok (d : D) (ts : List D) (j : Nat) (ρ : Rho) : frTM (.ok d ts) j ρ = .ok d (ρ.set j (.own (.lst ts))) := rfl
/-- the result of a body -/
def outF (r : SR) : FR := match r with
  | .ret d _ => .ok d
  | .next _ => .ok .none
  | .exc s _ => .exc s
  | _ => .bad
@[simp] theorem outF_ret (d : D) (ρ : Rho) : outF (.ret d ρ) = .ok d := rfl
@[simp] theorem outF_next (ρ : Rho) : outF (.next ρ) = .ok .none := rfl
@[simp] theorem outF_exc (x : Str) (ρ : Rho) : outF (.exc x ρ) = .exc x := rfl
theorem runF_eq (N : Nat) (m : MS) (ds : List D) : runF N m ds = outF (m (rho0 N ds)) := rfl
def outT (r : SR) : FRT := match r with
  | .ret d ρ' => (match ownL ρ' 1 with
    | some ts' => .ok d ts'
    | none => .bad)
  | .next ρ' => (match ownL ρ' 1 with
    | some ts' => .ok .none ts'
    | none => .bad)
  | .exc s ρ' => (match ownL ρ' 1 with
    | some ts' => .exc s ts'
    | none => .bad)
  | _ => .bad
@[simp] theorem outT_ret (d : D) (c : Cell) (ts : List D) (ρ : Rho) : outT (.ret d (c :: .own (.lst ts) :: ρ)) = .ok d ts := rfl
@[simp] theorem outT_next (c : Cell) (ts : List D) (ρ : Rho) : outT (.next (c :: .own (.lst ts) :: ρ)) = .ok .none ts := rfl
theorem runT_eq (N : Nat) (m : MS) (d0 : D) (ts ds : List D) : runT N m d0 ts ds = outT (m (rhoT N d0 ts ds)) := rfl
def outL (r : MR Ob) : FRL := match r with
  | .ok o _ => .ok o
  | .exc s _ => .exc s
  | .bad => .bad
@[simp] theorem outL_ok (o : Ob) (ρ : Rho) : outL (.ok o ρ) = .ok o := rfl
theorem runL_eq (N : Nat) (m : M Ob) (ds : List D) : runL N m ds = outL (m (rho0 N ds)) := rfl
def kUn (r : MR D) (f : D → Option D) : MR D := match r with
  | .ok d ρ => lft (f d) ρ
  | .exc s ρ => .exc s ρ
  | .bad => .bad
@[simp] theorem kUn_ok0 (f : D → Option D) (d : D) (ρ : Rho) : kUn (.ok d ρ) f = lft (f d) ρ := id rfl
@[simp] theorem kUn_exc (f : D → Option D) (s : Str) (ρ : Rho) : kUn (.exc s ρ) f = .exc s ρ := id rfl
@[simp] theorem kUn_bad (f : D → Option D) : kUn .bad f = .bad := id rfl
def kBin2 (r : MR D) (f : D → D → Option D) (x : D) : MR D := match r with
  | .ok d ρ => lft (f x d) ρ
  | .exc s ρ => .exc s ρ
  | .bad => .bad
@[simp] theorem kBin2_ok0 (f : D → D → Option D) (x : D) (d : D) (ρ : Rho) : kBin2 (.ok d ρ) f x = lft (f x d) ρ := id rfl
@[simp] theorem kBin2_exc (f : D → D → Option D) (x : D) (s : Str) (ρ : Rho) : kBin2 (.exc s ρ) f x = .exc s ρ := id rfl
@[simp] theorem kBin2_bad (f : D → D → Option D) (x : D) : kBin2 .bad f x = .bad := id rfl
def kBin (r : MR D) (f : D → D → Option D) (mb : M D) : MR D := match r with
  | .ok d ρ => kBin2 (mb ρ) f d
  | .exc s ρ => .exc s ρ
  | .bad => .bad
@[simp] theorem kBin_ok0 (f : D → D → Option D) (mb : M D) (d : D) (ρ : Rho) : kBin (.ok d ρ) f mb = kBin2 (mb ρ) f d := id rfl
@[simp] theorem kBin_exc (f : D → D → Option D) (mb : M D) (s : Str) (ρ : Rho) : kBin (.exc s ρ) f mb = .exc s ρ := id rfl
@[simp] theorem kBin_bad (f : D → D → Option D) (mb : M D) : kBin .bad f mb = .bad := id rfl
def kBinL2 (r : MR D) (f : D → D → Option Ob) (x : D) : MR Ob := match r with
  | .ok d ρ => lft (f x d) ρ
  | .exc s ρ => .exc s ρ
  | .bad => .bad
@[simp] theorem kBinL2_ok0 (f : D → D → Option Ob) (x : D) (d : D) (ρ : Rho) : kBinL2 (.ok d ρ) f x = lft (f x d) ρ := id rfl
@[simp] theorem kBinL2_exc (f : D → D → Option Ob) (x : D) (s : Str) (ρ : Rho) : kBinL2 (.exc s ρ) f x = .exc s ρ := id rfl
@[simp] theorem kBinL2_bad (f : D → D → Option Ob) (x : D) : kBinL2 .bad f x = .bad := id rfl
def kBinL (r : MR D) (f : D → D → Option Ob) (mb : M D) : MR Ob := match r with
  | .ok d ρ => kBinL2 (mb ρ) f d
  | .exc s ρ => .exc s ρ
  | .bad => .bad
@[simp] theorem kBinL_ok0 (f : D → D → Option Ob) (mb : M D) (d : D) (ρ : Rho) : kBinL (.ok d ρ) f mb = kBinL2 (mb ρ) f d := id rfl
@[simp] theorem kBinL_exc (f : D → D → Option Ob) (mb : M D) (s : Str) (ρ : Rho) : kBinL (.exc s ρ) f mb = .exc s ρ := id rfl
@[simp] theorem kBinL_bad (f : D → D → Option Ob) (mb : M D) : kBinL .bad f mb = .bad := id rfl
def kApp (r : MR (List D)) (f : List D → Option D) : MR D := match r with
  | .ok ds ρ => lft (f ds) ρ
  | .exc s ρ => .exc s ρ
  | .bad => .bad
@[simp] theorem kApp_ok0 (f : List D → Option D) (ds : List D) (ρ : Rho) : kApp (.ok ds ρ) f = lft (f ds) ρ := id rfl
@[simp] theorem kApp_exc (f : List D → Option D) (s : Str) (ρ : Rho) : kApp (.exc s ρ) f = .exc s ρ := id rfl
@[simp] theorem kApp_bad (f : List D → Option D) : kApp .bad f = .bad := id rfl
def kAppL (r : MR (List D)) (f : List D → Option Ob) : MR Ob := match r with
  | .ok ds ρ => lft (f ds) ρ
  | .exc s ρ => .exc s ρ
  | .bad => .bad
@[simp] theorem kAppL_ok0 (f : List D → Option Ob) (ds : List D) (ρ : Rho) : kAppL (.ok ds ρ) f = lft (f ds) ρ := id rfl
@[simp] theorem kAppL_exc (f : List D → Option Ob) (s : Str) (ρ : Rho) : kAppL (.exc s ρ) f = .exc s ρ := id rfl
@[simp] theorem kAppL_bad (f : List D → Option Ob) : kAppL .bad f = .bad := id rfl
def kCons2 (r : MR (List D)) (x : D) : MR (List D) := match r with
  | .ok ds ρ => .ok (x :: ds) ρ
  | .exc s ρ => .exc s ρ
  | .bad => .bad
@[simp] theorem kCons2_ok0 (x : D) (ds : List D) (ρ : Rho) : kCons2 (.ok ds ρ) x = .ok (x :: ds) ρ := id rfl
@[simp] theorem kCons2_exc (x : D) (s : Str) (ρ : Rho) : kCons2 (.exc s ρ) x = .exc s ρ := id rfl
@[simp] theorem kCons2_bad (x : D) : kCons2 .bad x = .bad := id rfl
def kCons (r : MR D) (na : M (List D)) : MR (List D) := match r with
  | .ok d ρ => kCons2 (na ρ) d
  | .exc s ρ => .exc s ρ
  | .bad => .bad
@[simp] theorem kCons_ok0 (na : M (List D)) (d : D) (ρ : Rho) : kCons (.ok d ρ) na = kCons2 (na ρ) d := id rfl
@[simp] theorem kCons_exc (na : M (List D)) (s : Str) (ρ : Rho) : kCons (.exc s ρ) na = .exc s ρ := id rfl
@[simp] theorem kCons_bad (na : M (List D)) : kCons .bad na = .bad := id rfl
def kTup (r : MR (List D))  : MR D := match r with
  | .ok ds ρ => if ds.length ≤ sizeLine then .ok (.tuple ds) ρ else .bad
  | .exc s ρ => .exc s ρ
  | .bad => .bad
@[simp] theorem kTup_ok0  (ds : List D) (ρ : Rho) : kTup (.ok ds ρ)  = if ds.length ≤ sizeLine then .ok (.tuple ds) ρ else .bad := id rfl
@[simp] theorem kTup_exc  (s : Str) (ρ : Rho) : kTup (.exc s ρ)  = .exc s ρ := id rfl
@[simp] theorem kTup_bad  : kTup .bad  = .bad := id rfl
def kLst (r : MR (List D))  : MR Ob := match r with
  | .ok ds ρ => if ds.length ≤ sizeLine then .ok (.lst ds) ρ else .bad
  | .exc s ρ => .exc s ρ
  | .bad => .bad
@[simp] theorem kLst_ok0  (ds : List D) (ρ : Rho) : kLst (.ok ds ρ)  = if ds.length ≤ sizeLine then .ok (.lst ds) ρ else .bad := id rfl
@[simp] theorem kLst_exc  (s : Str) (ρ : Rho) : kLst (.exc s ρ)  = .exc s ρ := id rfl
@[simp] theorem kLst_bad  : kLst .bad  = .bad := id rfl
def kLd (r : MR Ob)  : MR D := match r with
  | .ok o ρ => .ok o.d ρ
  | .exc s ρ => .exc s ρ
  | .bad => .bad
@[simp] theorem kLd_ok0  (o : Ob) (ρ : Rho) : kLd (.ok o ρ)  = .ok o.d ρ := id rfl
@[simp] theorem kLd_exc  (s : Str) (ρ : Rho) : kLd (.exc s ρ)  = .exc s ρ := id rfl
@[simp] theorem kLd_bad  : kLd .bad  = .bad := id rfl
def kAnd (r : MR D) (mb : M D) : MR D := match r with
  | .ok (.bool true) ρ => mb ρ
  | .ok (.bool false) ρ => .ok (.bool false) ρ
  | .ok _ _ => .bad
  | .exc s ρ => .exc s ρ
  | .bad => .bad
@[simp] theorem kAnd_ok0 (mb : M D)  (ρ : Rho) : kAnd (.ok (.bool true) ρ) mb = mb ρ := id rfl
@[simp] theorem kAnd_ok1 (mb : M D)  (ρ : Rho) : kAnd (.ok (.bool false) ρ) mb = .ok (.bool false) ρ := id rfl
@[simp] theorem kAnd_exc (mb : M D) (s : Str) (ρ : Rho) : kAnd (.exc s ρ) mb = .exc s ρ := id rfl
@[simp] theorem kAnd_bad (mb : M D) : kAnd .bad mb = .bad := id rfl
def kOr (r : MR D) (mb : M D) : MR D := match r with
  | .ok (.bool true) ρ => .ok (.bool true) ρ
  | .ok (.bool false) ρ => mb ρ
  | .ok _ _ => .bad
  | .exc s ρ => .exc s ρ
  | .bad => .bad
@[simp] theorem kOr_ok0 (mb : M D)  (ρ : Rho) : kOr (.ok (.bool true) ρ) mb = .ok (.bool true) ρ := id rfl
@[simp] theorem kOr_ok1 (mb : M D)  (ρ : Rho) : kOr (.ok (.bool false) ρ) mb = mb ρ := id rfl
@[simp] theorem kOr_exc (mb : M D) (s : Str) (ρ : Rho) : kOr (.exc s ρ) mb = .exc s ρ := id rfl
@[simp] theorem kOr_bad (mb : M D) : kOr .bad mb = .bad := id rfl
def kNot (r : MR D)  : MR D := match r with
  | .ok (.bool b) ρ => .ok (.bool (!b)) ρ
  | .ok _ _ => .bad
  | .exc s ρ => .exc s ρ
  | .bad => .bad
@[simp] theorem kNot_ok0  (b : Bool) (ρ : Rho) : kNot (.ok (.bool b) ρ)  = .ok (.bool (!b)) ρ := id rfl
@[simp] theorem kNot_exc  (s : Str) (ρ : Rho) : kNot (.exc s ρ)  = .exc s ρ := id rfl
@[simp] theorem kNot_bad  : kNot .bad  = .bad := id rfl
def kAsB (r : MR D)  : MR Bool := match r with
  | .ok (.bool b) ρ => .ok b ρ
  | .ok _ _ => .bad
  | .exc s ρ => .exc s ρ
  | .bad => .bad
@[simp] theorem kAsB_ok0  (b : Bool) (ρ : Rho) : kAsB (.ok (.bool b) ρ)  = .ok b ρ := id rfl
@[simp] theorem kAsB_exc  (s : Str) (ρ : Rho) : kAsB (.exc s ρ)  = .exc s ρ := id rfl
@[simp] theorem kAsB_bad  : kAsB .bad  = .bad := id rfl
def kTAnd (r : MR Bool) (mb : M Bool) : MR Bool := match r with
  | .ok true ρ => mb ρ
  | .ok false ρ => .ok false ρ
  | .exc s ρ => .exc s ρ
  | .bad => .bad
@[simp] theorem kTAnd_ok0 (mb : M Bool)  (ρ : Rho) : kTAnd (.ok true ρ) mb = mb ρ := id rfl
@[simp] theorem kTAnd_ok1 (mb : M Bool)  (ρ : Rho) : kTAnd (.ok false ρ) mb = .ok false ρ := id rfl
@[simp] theorem kTAnd_exc (mb : M Bool) (s : Str) (ρ : Rho) : kTAnd (.exc s ρ) mb = .exc s ρ := id rfl
@[simp] theorem kTAnd_bad (mb : M Bool) : kTAnd .bad mb = .bad := id rfl
def kTOr (r : MR Bool) (mb : M Bool) : MR Bool := match r with
  | .ok true ρ => .ok true ρ
  | .ok false ρ => mb ρ
  | .exc s ρ => .exc s ρ
  | .bad => .bad
@[simp] theorem kTOr_ok0 (mb : M Bool)  (ρ : Rho) : kTOr (.ok true ρ) mb = .ok true ρ := id rfl
@[simp] theorem kTOr_ok1 (mb : M Bool)  (ρ : Rho) : kTOr (.ok false ρ) mb = mb ρ := id rfl
@[simp] theorem kTOr_exc (mb : M Bool) (s : Str) (ρ : Rho) : kTOr (.exc s ρ) mb = .exc s ρ := id rfl
@[simp] theorem kTOr_bad (mb : M Bool) : kTOr .bad mb = .bad := id rfl
def kTNot (r : MR Bool)  : MR Bool := match r with
  | .ok b ρ => .ok (!b) ρ
  | .exc s ρ => .exc s ρ
  | .bad => .bad
@[simp] theorem kTNot_ok0  (b : Bool) (ρ : Rho) : kTNot (.ok b ρ)  = .ok (!b) ρ := id rfl
@[simp] theorem kTNot_exc  (s : Str) (ρ : Rho) : kTNot (.exc s ρ)  = .exc s ρ := id rfl
@[simp] theorem kTNot_bad  : kTNot .bad  = .bad := id rfl
def kIf (r : MR Bool) (ma : M D) (mb : M D) : MR D := match r with
  | .ok true ρ => ma ρ
  | .ok false ρ => mb ρ
  | .exc s ρ => .exc s ρ
  | .bad => .bad
@[simp] theorem kIf_ok0 (ma : M D) (mb : M D)  (ρ : Rho) : kIf (.ok true ρ) ma mb = ma ρ := id rfl
@[simp] theorem kIf_ok1 (ma : M D) (mb : M D)  (ρ : Rho) : kIf (.ok false ρ) ma mb = mb ρ := id rfl
@[simp] theorem kIf_exc (ma : M D) (mb : M D) (s : Str) (ρ : Rho) : kIf (.exc s ρ) ma mb = .exc s ρ := id rfl
@[simp] theorem kIf_bad (ma : M D) (mb : M D) : kIf .bad ma mb = .bad := id rfl
def kCh2 (o : Option D) (ρ : Rho) (mc : M D) (f : D → D → Option D) (y : D) : MR D := match o with
  | some (.bool true) => kBin2 (mc ρ) f y
  | some (.bool false) => .ok (.bool false) ρ
  | _ => .bad
@[simp] theorem kCh2_t (ρ : Rho) (mc : M D) (f : D → D → Option D) (y : D) : kCh2 (some (.bool true)) ρ mc f y = kBin2 (mc ρ) f y := id rfl
@[simp] theorem kCh2_f (ρ : Rho) (mc : M D) (f : D → D → Option D) (y : D) : kCh2 (some (.bool false)) ρ mc f y = .ok (.bool false) ρ := id rfl
def kChB (r : MR D) (f : D → D → Option D) (g : D → D → Option D) (x : D) (mc : M D) : MR D := match r with
  | .ok d ρ => kCh2 (f x d) ρ mc g d
  | .exc s ρ => .exc s ρ
  | .bad => .bad
@[simp] theorem kChB_ok0 (f : D → D → Option D) (g : D → D → Option D) (x : D) (mc : M D) (d : D) (ρ : Rho) : kChB (.ok d ρ) f g x mc = kCh2 (f x d) ρ mc g d := id rfl
@[simp] theorem kChB_exc (f : D → D → Option D) (g : D → D → Option D) (x : D) (mc : M D) (s : Str) (ρ : Rho) : kChB (.exc s ρ) f g x mc = .exc s ρ := id rfl
@[simp] theorem kChB_bad (f : D → D → Option D) (g : D → D → Option D) (x : D) (mc : M D) : kChB .bad f g x mc = .bad := id rfl
def kCh (r : MR D) (f : D → D → Option D) (g : D → D → Option D) (mb : M D) (mc : M D) : MR D := match r with
  | .ok d ρ => kChB (mb ρ) f g d mc
  | .exc s ρ => .exc s ρ
  | .bad => .bad
@[simp] theorem kCh_ok0 (f : D → D → Option D) (g : D → D → Option D) (mb : M D) (mc : M D) (d : D) (ρ : Rho) : kCh (.ok d ρ) f g mb mc = kChB (mb ρ) f g d mc := id rfl
@[simp] theorem kCh_exc (f : D → D → Option D) (g : D → D → Option D) (mb : M D) (mc : M D) (s : Str) (ρ : Rho) : kCh (.exc s ρ) f g mb mc = .exc s ρ := id rfl
@[simp] theorem kCh_bad (f : D → D → Option D) (g : D → D → Option D) (mb : M D) (mc : M D) : kCh .bad f g mb mc = .bad := id rfl
def kC3 (o : Option D) (ρ : Rho) (mc md : M D) (g h : D → D → Option D) (y : D) : MR D := match o with
  | some (.bool true) => kChB (mc ρ) g h y md
  | some (.bool false) => .ok (.bool false) ρ
  | _ => .bad
@[simp] theorem kC3_t (ρ : Rho) (mc md : M D) (g h : D → D → Option D) (y : D) : kC3 (some (.bool true)) ρ mc md g h y = kChB (mc ρ) g h y md := id rfl
@[simp] theorem kC3_f (ρ : Rho) (mc md : M D) (g h : D → D → Option D) (y : D) : kC3 (some (.bool false)) ρ mc md g h y = .ok (.bool false) ρ := id rfl
def kC3B (r : MR D) (f : D → D → Option D) (g : D → D → Option D) (h : D → D → Option D) (x : D) (mc : M D) (md : M D) : MR D := match r with
  | .ok d ρ => kC3 (f x d) ρ mc md g h d
  | .exc s ρ => .exc s ρ
  | .bad => .bad
@[simp] theorem kC3B_ok0 (f : D → D → Option D) (g : D → D → Option D) (h : D → D → Option D) (x : D) (mc : M D) (md : M D) (d : D) (ρ : Rho) : kC3B (.ok d ρ) f g h x mc md = kC3 (f x d) ρ mc md g h d := id rfl
@[simp] theorem kC3B_exc (f : D → D → Option D) (g : D → D → Option D) (h : D → D → Option D) (x : D) (mc : M D) (md : M D) (s : Str) (ρ : Rho) : kC3B (.exc s ρ) f g h x mc md = .exc s ρ := id rfl
@[simp] theorem kC3B_bad (f : D → D → Option D) (g : D → D → Option D) (h : D → D → Option D) (x : D) (mc : M D) (md : M D) : kC3B .bad f g h x mc md = .bad := id rfl
def kC3A (r : MR D) (f : D → D → Option D) (g : D → D → Option D) (h : D → D → Option D) (mb : M D) (mc : M D) (md : M D) : MR D := match r with
  | .ok d ρ => kC3B (mb ρ) f g h d mc md
  | .exc s ρ => .exc s ρ
  | .bad => .bad
@[simp] theorem kC3A_ok0 (f : D → D → Option D) (g : D → D → Option D) (h : D → D → Option D) (mb : M D) (mc : M D) (md : M D) (d : D) (ρ : Rho) : kC3A (.ok d ρ) f g h mb mc md = kC3B (mb ρ) f g h d mc md := id rfl
@[simp] theorem kC3A_exc (f : D → D → Option D) (g : D → D → Option D) (h : D → D → Option D) (mb : M D) (mc : M D) (md : M D) (s : Str) (ρ : Rho) : kC3A (.exc s ρ) f g h mb mc md = .exc s ρ := id rfl
@[simp] theorem kC3A_bad (f : D → D → Option D) (g : D → D → Option D) (h : D → D → Option D) (mb : M D) (mc : M D) (md : M D) : kC3A .bad f g h mb mc md = .bad := id rfl
def kCall (r : MR (List D)) (n : Nat) (fn : List D → FR) : MR D := match r with
  | .ok ds ρ => if ds.length = n then frM (fn ds) ρ else .bad
  | .exc s ρ => .exc s ρ
  | .bad => .bad
@[simp] theorem kCall_ok0 (n : Nat) (fn : List D → FR) (ds : List D) (ρ : Rho) : kCall (.ok ds ρ) n fn = if ds.length = n then frM (fn ds) ρ else .bad := id rfl
@[simp] theorem kCall_exc (n : Nat) (fn : List D → FR) (s : Str) (ρ : Rho) : kCall (.exc s ρ) n fn = .exc s ρ := id rfl
@[simp] theorem kCall_bad (n : Nat) (fn : List D → FR) : kCall .bad n fn = .bad := id rfl
def kCallL (r : MR (List D)) (n : Nat) (fn : List D → FRL) : MR Ob := match r with
  | .ok ds ρ => if ds.length = n then frLM (fn ds) ρ else .bad
  | .exc s ρ => .exc s ρ
  | .bad => .bad
@[simp] theorem kCallL_ok0 (n : Nat) (fn : List D → FRL) (ds : List D) (ρ : Rho) : kCallL (.ok ds ρ) n fn = if ds.length = n then frLM (fn ds) ρ else .bad := id rfl
@[simp] theorem kCallL_exc (n : Nat) (fn : List D → FRL) (s : Str) (ρ : Rho) : kCallL (.exc s ρ) n fn = .exc s ρ := id rfl
@[simp] theorem kCallL_bad (n : Nat) (fn : List D → FRL) : kCallL .bad n fn = .bad := id rfl
def kCallT2 (r : MR (List D)) (n : Nat) (fn : D → List D → List D → FRT) (x : D) (j : Nat) : MR D := match r with
  | .ok ds ρ => if ds.length + 2 = n then callT fn x j ds ρ else .bad
  | .exc s ρ => .exc s ρ
  | .bad => .bad
@[simp] theorem kCallT2_ok0 (n : Nat) (fn : D → List D → List D → FRT) (x : D) (j : Nat) (ds : List D) (ρ : Rho) : kCallT2 (.ok ds ρ) n fn x j = if ds.length + 2 = n then callT fn x j ds ρ else .bad := id rfl
@[simp] theorem kCallT2_exc (n : Nat) (fn : D → List D → List D → FRT) (x : D) (j : Nat) (s : Str) (ρ : Rho) : kCallT2 (.exc s ρ) n fn x j = .exc s ρ := id rfl
@[simp] theorem kCallT2_bad (n : Nat) (fn : D → List D → List D → FRT) (x : D) (j : Nat) : kCallT2 .bad n fn x j = .bad := id rfl
def kCallT (r : MR D) (n : Nat) (fn : D → List D → List D → FRT) (j : Nat) (na : M (List D)) : MR D := match r with
  | .ok d ρ => if (ownL ρ j).isSome then kCallT2 (na ρ) n fn d j else .bad
  | .exc s ρ => .exc s ρ
  | .bad => .bad
@[simp] theorem kCallT_ok0 (n : Nat) (fn : D → List D → List D → FRT) (j : Nat) (na : M (List D)) (d : D) (ρ : Rho) : kCallT (.ok d ρ) n fn j na = if (ownL ρ j).isSome then kCallT2 (na ρ) n fn d j else .bad := id rfl
@[simp] theorem kCallT_exc (n : Nat) (fn : D → List D → List D → FRT) (j : Nat) (na : M (List D)) (s : Str) (ρ : Rho) : kCallT (.exc s ρ) n fn j na = .exc s ρ := id rfl
@[simp] theorem kCallT_bad (n : Nat) (fn : D → List D → List D → FRT) (j : Nat) (na : M (List D)) : kCallT .bad n fn j na = .bad := id rfl
def kOS (r : MR D)  : MR (Option Int) := match r with
  | .ok (.int i) ρ => .ok (some i) ρ
  | .ok _ _ => .bad
  | .exc s ρ => .exc s ρ
  | .bad => .bad
@[simp] theorem kOS_ok0  (i : Int) (ρ : Rho) : kOS (.ok (.int i) ρ)  = .ok (some i) ρ := id rfl
@[simp] theorem kOS_exc  (s : Str) (ρ : Rho) : kOS (.exc s ρ)  = .exc s ρ := id rfl
@[simp] theorem kOS_bad  : kOS .bad  = .bad := id rfl
def kSl3 (r : MR (Option Int)) (x : D) (lo : Option Int) : MR D := match r with
  | .ok v ρ => lft (fSl x lo v) ρ
  | .exc s ρ => .exc s ρ
  | .bad => .bad
@[simp] theorem kSl3_ok0 (x : D) (lo : Option Int) (v : Option Int) (ρ : Rho) : kSl3 (.ok v ρ) x lo = lft (fSl x lo v) ρ := id rfl
@[simp] theorem kSl3_exc (x : D) (lo : Option Int) (s : Str) (ρ : Rho) : kSl3 (.exc s ρ) x lo = .exc s ρ := id rfl
@[simp] theorem kSl3_bad (x : D) (lo : Option Int) : kSl3 .bad x lo = .bad := id rfl
def kSl2 (r : MR (Option Int)) (x : D) (mh : M (Option Int)) : MR D := match r with
  | .ok v ρ => kSl3 (mh ρ) x v
  | .exc s ρ => .exc s ρ
  | .bad => .bad
@[simp] theorem kSl2_ok0 (x : D) (mh : M (Option Int)) (v : Option Int) (ρ : Rho) : kSl2 (.ok v ρ) x mh = kSl3 (mh ρ) x v := id rfl
@[simp] theorem kSl2_exc (x : D) (mh : M (Option Int)) (s : Str) (ρ : Rho) : kSl2 (.exc s ρ) x mh = .exc s ρ := id rfl
@[simp] theorem kSl2_bad (x : D) (mh : M (Option Int)) : kSl2 .bad x mh = .bad := id rfl
def kSl (r : MR D) (ml : M (Option Int)) (mh : M (Option Int)) : MR D := match r with
  | .ok d ρ => kSl2 (ml ρ) d mh
  | .exc s ρ => .exc s ρ
  | .bad => .bad
@[simp] theorem kSl_ok0 (ml : M (Option Int)) (mh : M (Option Int)) (d : D) (ρ : Rho) : kSl (.ok d ρ) ml mh = kSl2 (ml ρ) d mh := id rfl
@[simp] theorem kSl_exc (ml : M (Option Int)) (mh : M (Option Int)) (s : Str) (ρ : Rho) : kSl (.exc s ρ) ml mh = .exc s ρ := id rfl
@[simp] theorem kSl_bad (ml : M (Option Int)) (mh : M (Option Int)) : kSl .bad ml mh = .bad := id rfl
def kSeqD (r : MR D)  : MR (List D) := match r with
  | .ok d ρ => lft (seqD d) ρ
  | .exc s ρ => .exc s ρ
  | .bad => .bad
@[simp] theorem kSeqD_ok0  (d : D) (ρ : Rho) : kSeqD (.ok d ρ)  = lft (seqD d) ρ := id rfl
@[simp] theorem kSeqD_exc  (s : Str) (ρ : Rho) : kSeqD (.exc s ρ)  = .exc s ρ := id rfl
@[simp] theorem kSeqD_bad  : kSeqD .bad  = .bad := id rfl
def kLD (r : MR (List D)) (f : List D → Option (List D)) : MR (List D) := match r with
  | .ok ds ρ => lft (f ds) ρ
  | .exc s ρ => .exc s ρ
  | .bad => .bad
@[simp] theorem kLD_ok0 (f : List D → Option (List D)) (ds : List D) (ρ : Rho) : kLD (.ok ds ρ) f = lft (f ds) ρ := id rfl
@[simp] theorem kLD_exc (f : List D → Option (List D)) (s : Str) (ρ : Rho) : kLD (.exc s ρ) f = .exc s ρ := id rfl
@[simp] theorem kLD_bad (f : List D → Option (List D)) : kLD .bad f = .bad := id rfl
def kRep2 (r : MR D) (o : Ob) : MR Ob := match r with
  | .ok d ρ => repO o d ρ
  | .exc s ρ => .exc s ρ
  | .bad => .bad
@[simp] theorem kRep2_ok0 (o : Ob) (d : D) (ρ : Rho) : kRep2 (.ok d ρ) o = repO o d ρ := id rfl
@[simp] theorem kRep2_exc (o : Ob) (s : Str) (ρ : Rho) : kRep2 (.exc s ρ) o = .exc s ρ := id rfl
@[simp] theorem kRep2_bad (o : Ob) : kRep2 .bad o = .bad := id rfl
def kRep (r : MR Ob) (mb : M D) : MR Ob := match r with
  | .ok o ρ => kRep2 (mb ρ) o
  | .exc s ρ => .exc s ρ
  | .bad => .bad
@[simp] theorem kRep_ok0 (mb : M D) (o : Ob) (ρ : Rho) : kRep (.ok o ρ) mb = kRep2 (mb ρ) o := id rfl
@[simp] theorem kRep_exc (mb : M D) (s : Str) (ρ : Rho) : kRep (.exc s ρ) mb = .exc s ρ := id rfl
@[simp] theorem kRep_bad (mb : M D) : kRep .bad mb = .bad := id rfl
def kSIf (r : MR Bool) (a : MS) (c : MS) : SR := match r with
  | .ok true ρ => a ρ
  | .ok false ρ => c ρ
  | .exc s ρ => .exc s ρ
  | .bad => .bad
@[simp] theorem kSIf_ok0 (a : MS) (c : MS)  (ρ : Rho) : kSIf (.ok true ρ) a c = a ρ := id rfl
@[simp] theorem kSIf_ok1 (a : MS) (c : MS)  (ρ : Rho) : kSIf (.ok false ρ) a c = c ρ := id rfl
@[simp] theorem kSIf_exc (a : MS) (c : MS) (s : Str) (ρ : Rho) : kSIf (.exc s ρ) a c = .exc s ρ := id rfl
@[simp] theorem kSIf_bad (a : MS) (c : MS) : kSIf .bad a c = .bad := id rfl
def kRet (r : MR D)  : SR := match r with
  | .ok d ρ => .ret d ρ
  | .exc s ρ => .exc s ρ
  | .bad => .bad
@[simp] theorem kRet_ok0  (d : D) (ρ : Rho) : kRet (.ok d ρ)  = .ret d ρ := id rfl
@[simp] theorem kRet_exc  (s : Str) (ρ : Rho) : kRet (.exc s ρ)  = .exc s ρ := id rfl
@[simp] theorem kRet_bad  : kRet .bad  = .bad := id rfl
def kSet (r : MR D) (i : Nat) : SR := match r with
  | .ok d ρ => .next (ρ.set i (.val d))
  | .exc s ρ => .exc s ρ
  | .bad => .bad
@[simp] theorem kSet_ok0 (i : Nat) (d : D) (ρ : Rho) : kSet (.ok d ρ) i = .next (ρ.set i (.val d)) := id rfl
@[simp] theorem kSet_exc (i : Nat) (s : Str) (ρ : Rho) : kSet (.exc s ρ) i = .exc s ρ := id rfl
@[simp] theorem kSet_bad (i : Nat) : kSet .bad i = .bad := id rfl
def kSetL (r : MR Ob) (i : Nat) : SR := match r with
  | .ok o ρ => .next (ρ.set i (.own o))
  | .exc s ρ => .exc s ρ
  | .bad => .bad
@[simp] theorem kSetL_ok0 (i : Nat) (o : Ob) (ρ : Rho) : kSetL (.ok o ρ) i = .next (ρ.set i (.own o)) := id rfl
@[simp] theorem kSetL_exc (i : Nat) (s : Str) (ρ : Rho) : kSetL (.exc s ρ) i = .exc s ρ := id rfl
@[simp] theorem kSetL_bad (i : Nat) : kSetL .bad i = .bad := id rfl
def kDrop (r : MR D)  : SR := match r with
  | .ok d ρ => .next ρ
  | .exc s ρ => .exc s ρ
  | .bad => .bad
@[simp] theorem kDrop_ok0  (d : D) (ρ : Rho) : kDrop (.ok d ρ)  = .next ρ := id rfl
@[simp] theorem kDrop_exc  (s : Str) (ρ : Rho) : kDrop (.exc s ρ)  = .exc s ρ := id rfl
@[simp] theorem kDrop_bad  : kDrop .bad  = .bad := id rfl
def unpK (o : Option Rho) : SR := match o with
  | some ρ => .next ρ
  | none => .bad
@[simp] theorem unpK_some (ρ : Rho) : unpK (some ρ) = .next ρ := id rfl
def kUnp (r : MR D) (gs : D → Rho → Option Rho) : SR := match r with
  | .ok d ρ => unpK (gs d ρ)
  | .exc s ρ => .exc s ρ
  | .bad => .bad
@[simp] theorem kUnp_ok0 (gs : D → Rho → Option Rho) (d : D) (ρ : Rho) : kUnp (.ok d ρ) gs = unpK (gs d ρ) := id rfl
@[simp] theorem kUnp_exc (gs : D → Rho → Option Rho) (s : Str) (ρ : Rho) : kUnp (.exc s ρ) gs = .exc s ρ := id rfl
@[simp] theorem kUnp_bad (gs : D → Rho → Option Rho) : kUnp .bad gs = .bad := id rfl
def parK (ds : List D) (i j : Nat) (ρ : Rho) : SR := match ds with
  | [x, y] => .next ((ρ.set i (.val x)).set j (.val y))
  | _ => .bad
@[simp] theorem parK_2 (x y : D) (i j : Nat) (ρ : Rho) : parK [x, y] i j ρ = .next ((ρ.set i (.val x)).set j (.val y)) := id rfl
def kPar (r : MR (List D)) (i : Nat) (j : Nat) : SR := match r with
  | .ok ds ρ => parK ds i j ρ
  | .exc s ρ => .exc s ρ
  | .bad => .bad
@[simp] theorem kPar_ok0 (i : Nat) (j : Nat) (ds : List D) (ρ : Rho) : kPar (.ok ds ρ) i j = parK ds i j ρ := id rfl
@[simp] theorem kPar_exc (i : Nat) (j : Nat) (s : Str) (ρ : Rho) : kPar (.exc s ρ) i j = .exc s ρ := id rfl
@[simp] theorem kPar_bad (i : Nat) (j : Nat) : kPar .bad i j = .bad := id rfl
def kFor (r : MR (List D)) (gs : D → Rho → Option Rho) (body : MS) : SR := match r with
  | .ok ds ρ => forL gs body ds ρ
  | .exc s ρ => .exc s ρ
  | .bad => .bad
@[simp] theorem kFor_ok0 (gs : D → Rho → Option Rho) (body : MS) (ds : List D) (ρ : Rho) : kFor (.ok ds ρ) gs body = forL gs body ds ρ := id rfl
@[simp] theorem kFor_exc (gs : D → Rho → Option Rho) (body : MS) (s : Str) (ρ : Rho) : kFor (.exc s ρ) gs body = .exc s ρ := id rfl
@[simp] theorem kFor_bad (gs : D → Rho → Option Rho) (body : MS) : kFor .bad gs body = .bad := id rfl
def apK (o : Option (List D)) (i : Nat) (d : D) (ρ : Rho) : SR := match o with
  | some ds => if ds.length < sizeLine then .next (ρ.set i (.own (.lst (ds ++ [d])))) else .bad
  | none => .bad
@[simp] theorem apK_some (ds : List D) (i : Nat) (d : D) (ρ : Rho) : apK (some ds) i d ρ = if ds.length < sizeLine then .next (ρ.set i (.own (.lst (ds ++ [d])))) else .bad := id rfl
def kApnd (r : MR D) (i : Nat) : SR := match r with
  | .ok d ρ => apK (ownL ρ i) i d ρ
  | .exc s ρ => .exc s ρ
  | .bad => .bad
@[simp] theorem kApnd_ok0 (i : Nat) (d : D) (ρ : Rho) : kApnd (.ok d ρ) i = apK (ownL ρ i) i d ρ := id rfl
@[simp] theorem kApnd_exc (i : Nat) (s : Str) (ρ : Rho) : kApnd (.exc s ρ) i = .exc s ρ := id rfl
@[simp] theorem kApnd_bad (i : Nat) : kApnd .bad i = .bad := id rfl
def ixK (o : Option (List D)) (d : D) (ρ : Rho) : MR D := match o with
  | some ds => lft (fIx (.list ds) d) ρ
  | none => .bad
@[simp] theorem ixK_some (ds : List D) (d : D) (ρ : Rho) : ixK (some ds) d ρ = lft (fIx (.list ds) d) ρ := id rfl
def kIxO (r : MR D) (i : Nat) : MR D := match r with
  | .ok d ρ => ixK (ownL ρ i) d ρ
  | .exc s ρ => .exc s ρ
  | .bad => .bad
@[simp] theorem kIxO_ok0 (i : Nat) (d : D) (ρ : Rho) : kIxO (.ok d ρ) i = ixK (ownL ρ i) d ρ := id rfl
@[simp] theorem kIxO_exc (i : Nat) (s : Str) (ρ : Rho) : kIxO (.exc s ρ) i = .exc s ρ := id rfl
@[simp] theorem kIxO_bad (i : Nat) : kIxO .bad i = .bad := id rfl
def putK2 (o : Option Nat) (ds : List D) (i : Nat) (d : D) (ρ : Rho) : SR := match o with
  | some n => .next (ρ.set i (.own (.lst (ds.set n d))))
  | none => .bad
@[simp] theorem putK2_some (n : Nat) (ds : List D) (i : Nat) (d : D) (ρ : Rho) : putK2 (some n) ds i d ρ = .next (ρ.set i (.own (.lst (ds.set n d)))) := id rfl
def putK (j : D) (o : Option (List D)) (i : Nat) (d : D) (ρ : Rho) : SR := match j, o with
  | .int jj, some ds => putK2 (ixN ds.length jj) ds i d ρ
  | _, _ => .bad
@[simp] theorem putK_some (jj : Int) (ds : List D) (i : Nat) (d : D) (ρ : Rho) : putK (.int jj) (some ds) i d ρ = putK2 (ixN ds.length jj) ds i d ρ := id rfl
def kPut2 (r : MR D) (i : Nat) (x : D) : SR := match r with
  | .ok d ρ => putK d (ownL ρ i) i x ρ
  | .exc s ρ => .exc s ρ
  | .bad => .bad
@[simp] theorem kPut2_ok0 (i : Nat) (x : D) (d : D) (ρ : Rho) : kPut2 (.ok d ρ) i x = putK d (ownL ρ i) i x ρ := id rfl
@[simp] theorem kPut2_exc (i : Nat) (x : D) (s : Str) (ρ : Rho) : kPut2 (.exc s ρ) i x = .exc s ρ := id rfl
@[simp] theorem kPut2_bad (i : Nat) (x : D) : kPut2 .bad i x = .bad := id rfl
def kPut (r : MR D) (i : Nat) (mb : M D) : SR := match r with
  | .ok d ρ => if (ownL ρ i).isSome then kPut2 (mb ρ) i d else .bad
  | .exc s ρ => .exc s ρ
  | .bad => .bad
@[simp] theorem kPut_ok0 (i : Nat) (mb : M D) (d : D) (ρ : Rho) : kPut (.ok d ρ) i mb = if (ownL ρ i).isSome then kPut2 (mb ρ) i d else .bad := id rfl
@[simp] theorem kPut_exc (i : Nat) (mb : M D) (s : Str) (ρ : Rho) : kPut (.exc s ρ) i mb = .exc s ρ := id rfl
@[simp] theorem kPut_bad (i : Nat) (mb : M D) : kPut .bad i mb = .bad := id rfl
def inK (o : Option (List Int)) (t : Option (List (List Int × D))) (neg : Bool) (ρ : Rho) : MR D := match o, t with
  | some ns, some kvs => .ok (.bool (xor neg (lookT kvs ns).isSome)) ρ
  | _, _ => .bad
@[simp] theorem inK_some (ns : List Int) (kvs : List (List Int × D)) (neg : Bool) (ρ : Rho) : inK (some ns) (some kvs) neg ρ = .ok (.bool (xor neg (lookT kvs ns).isSome)) ρ := id rfl
def kInT (r : MR D) (neg : Bool) (i : Nat) : MR D := match r with
  | .ok d ρ => inK (keyT d) (ownT ρ i) neg ρ
  | .exc s ρ => .exc s ρ
  | .bad => .bad
@[simp] theorem kInT_ok0 (neg : Bool) (i : Nat) (d : D) (ρ : Rho) : kInT (.ok d ρ) neg i = inK (keyT d) (ownT ρ i) neg ρ := id rfl
@[simp] theorem kInT_exc (neg : Bool) (i : Nat) (s : Str) (ρ : Rho) : kInT (.exc s ρ) neg i = .exc s ρ := id rfl
@[simp] theorem kInT_bad (neg : Bool) (i : Nat) : kInT .bad neg i = .bad := id rfl
section
variable {ρ ρ1 ρ2 : Rho} {m ma mb mc md : M D} {na : M (List D)} {i j n : Nat} {d e : D} {ds es : List D}
/-! ### what the forms give, at an environment -/
@[simp] theorem ev_var : mVar i ρ = match ρ[i]? with | some (.val d) => .ok d ρ | _ => .bad := id rfl
@[simp] theorem ev_frz : mFrz i ρ = match ρ[i]? with | some (.val d) => .ok d ρ | some (.own o) => .ok o.d (ρ.set i (.val o.d)) | _ => .bad := id rfl
@[simp] theorem ev_c : mC d ρ = .ok d ρ := id rfl
@[simp] theorem ev_bin {f : D → D → Option D} : mBin f ma mb ρ = kBin (ma ρ) f mb := by
  unfold mBin; cases ma ρ <;> try rfl
  rename_i a r; show bnd (mb r) _ = kBin2 (mb r) f a; cases mb r <;> rfl
@[simp] theorem ev_un {f : D → Option D} : mUn f ma ρ = kUn (ma ρ) f := by unfold mUn; cases ma ρ <;> rfl
@[simp] theorem ev_app {f : List D → Option D} : mApp f na ρ = kApp (na ρ) f := by unfold mApp; cases na ρ <;> rfl
@[simp] theorem ev_appL {f : List D → Option Ob} : mAppL f na ρ = kAppL (na ρ) f := by unfold mAppL; cases na ρ <;> rfl
@[simp] theorem ev_binL {f : D → D → Option Ob} : mBinL f ma mb ρ = kBinL (ma ρ) f mb := by
  unfold mBinL; cases ma ρ <;> try rfl
  rename_i a r; show bnd (mb r) _ = kBinL2 (mb r) f a; cases mb r <;> rfl
@[simp] theorem ev_nil : mNil ρ = .ok [] ρ := id rfl
@[simp] theorem ev_cons : mCons ma na ρ = kCons (ma ρ) na := by
  unfold mCons; cases ma ρ <;> try rfl
  rename_i a r; show bnd (na r) _ = kCons2 (na r) a; cases na r <;> rfl
@[simp] theorem ev_tup : mTup na ρ = kTup (na ρ) := by unfold mTup; cases na ρ <;> rfl
@[simp] theorem ev_lst : mLst na ρ = kLst (na ρ) := by unfold mLst; cases na ρ <;> rfl
@[simp] theorem ev_ld {mo : M Ob} : mLd mo ρ = kLd (mo ρ) := by unfold mLd; cases mo ρ <;> rfl
@[simp] theorem ob_lst : (Ob.lst ds).d = .list ds := rfl
@[simp] theorem ev_andV : mAndV ma mb ρ = kAnd (ma ρ) mb := by
  unfold mAndV; cases ma ρ <;> try rfl
  rename_i a r; cases a <;> try rfl
  rename_i b; cases b <;> rfl
@[simp] theorem ev_orV : mOrV ma mb ρ = kOr (ma ρ) mb := by
  unfold mOrV; cases ma ρ <;> try rfl
  rename_i a r; cases a <;> try rfl
  rename_i b; cases b <;> rfl
@[simp] theorem ev_notV : mNotV ma ρ = kNot (ma ρ) := by
  unfold mNotV; cases ma ρ <;> try rfl
  rename_i a r; cases a <;> rfl
@[simp] theorem ev_asB : asB ma ρ = kAsB (ma ρ) := by
  unfold asB; cases ma ρ <;> try rfl
  rename_i a r; cases a <;> rfl
@[simp] theorem ev_tAnd {a b : M Bool} : tAndM a b ρ = kTAnd (a ρ) b := by
  unfold tAndM; cases a ρ <;> try rfl
  rename_i a r; cases a <;> rfl
@[simp] theorem ev_tOr {a b : M Bool} : tOrM a b ρ = kTOr (a ρ) b := by
  unfold tOrM; cases a ρ <;> try rfl
  rename_i a r; cases a <;> rfl
@[simp] theorem ev_tNot {a : M Bool} : tNotM a ρ = kTNot (a ρ) := by unfold tNotM; cases a ρ <;> rfl
@[simp] theorem ev_yes : tYesM ρ = .ok true ρ := id rfl
@[simp] theorem ev_if {c : M Bool} : mIf c ma mb ρ = kIf (c ρ) ma mb := by
  unfold mIf; cases c ρ <;> try rfl
  rename_i a r; cases a <;> rfl
theorem kCh2_eq {f f' : D → D → Option D} {x y : D} {r : Rho} : (match f x y with
  | some (.bool true) => bnd (mc r) fun z ρ3 => lft (f' y z) ρ3
  | some (.bool false) => .ok (.bool false) r
  | _ => .bad) = kCh2 (f x y) r mc f' y := by
  cases f x y with
  | none => rfl
  | some o =>
    cases o <;> try rfl
    rename_i b; cases b <;> try rfl
    show bnd (mc r) _ = kBin2 (mc r) f' y; cases mc r <;> rfl
@[simp] theorem ev_chain {f f' : D → D → Option D} : mChain f f' ma mb mc ρ = kCh (ma ρ) f f' mb mc := by
  unfold mChain; cases ma ρ <;> try rfl
  rename_i a r; show bnd (mb r) _ = kChB (mb r) f f' a mc; cases mb r <;> try rfl
  exact kCh2_eq
@[simp] theorem ev_ch3 {f1 f2 f3 : D → D → Option D} : mCh3 f1 f2 f3 ma mb mc md ρ = kC3A (ma ρ) f1 f2 f3 mb mc md := by
  unfold mCh3; cases ma ρ <;> try rfl
  rename_i a r; show bnd (mb r) _ = kC3B (mb r) f1 f2 f3 a mc md; cases mb r <;> try rfl
  rename_i y r2
  show (match f1 a y with
  | some (.bool true) => _
  | some (.bool false) => _
  | _ => _) = kC3 (f1 a y) r2 mc md f2 f3 y
  cases f1 a y with
  | none => rfl
  | some o =>
    cases o <;> try rfl
    rename_i b; cases b <;> try rfl
    show bnd (mc r2) _ = kChB (mc r2) f2 f3 y md; cases mc r2 <;> try rfl
    exact kCh2_eq
@[simp] theorem ev_isi {T : String} : mIsi T ma ρ = kUn (ma ρ) (fIsi T) := ev_un
@[simp] theorem ev_call {fn : List D → FR} : mCall n fn na ρ = kCall (na ρ) n fn := by unfold mCall; cases na ρ <;> rfl
@[simp] theorem ev_callL {fn : List D → FRL} : mCallL n fn na ρ = kCallL (na ρ) n fn := by unfold mCallL; cases na ρ <;> rfl
@[simp] theorem ev_oNo : oNo ρ = .ok none ρ := id rfl
@[simp] theorem ev_oSome : oSome ma ρ = kOS (ma ρ) := by
  unfold oSome; cases ma ρ <;> try rfl
  rename_i a r; cases a <;> rfl
@[simp] theorem ev_sl {ml mh : M (Option Int)} : mSl ma ml mh ρ = kSl (ma ρ) ml mh := by
  unfold mSl; cases ma ρ <;> try rfl
  rename_i a r; show bnd (ml r) _ = kSl2 (ml r) a mh; cases ml r <;> try rfl
  rename_i v r2; show bnd (mh r2) _ = kSl3 (mh r2) a v; cases mh r2 <;> rfl
@[simp] theorem ev_rep {mo : M Ob} : mRep mo mb ρ = kRep (mo ρ) mb := by
  unfold mRep; cases mo ρ <;> try rfl
  rename_i a r; show bnd (mb r) _ = kRep2 (mb r) a; cases mb r <;> rfl
@[simp] theorem ev_iSeq : iSeq ma ρ = kSeqD (ma ρ) := by unfold iSeq; cases ma ρ <;> rfl
@[simp] theorem ev_iRange1 : iRange1 na ρ = kLD (na ρ) rng1 := by unfold iRange1; cases na ρ <;> rfl
@[simp] theorem ev_iRange2 : iRange2 na ρ = kLD (na ρ) rng2 := by unfold iRange2; cases na ρ <;> rfl
@[simp] theorem seqD_list : seqD (.list ds) = some ds := rfl
@[simp] theorem seqD_tuple : seqD (.tuple ds) = some ds := rfl
/-! statements -/
@[simp] theorem ev_next : sNext ρ = .next ρ := id rfl
@[simp] theorem ev_seq {a b : MS} : sSeq a b ρ = thn2 (a ρ) b := id rfl
@[simp] theorem ev_sIf {c : M Bool} {a b : MS} : sIf c a b ρ = kSIf (c ρ) a b := by
  unfold sIf; cases c ρ <;> try rfl
  rename_i a r; cases a <;> rfl
@[simp] theorem ev_ret : sRet m ρ = kRet (m ρ) := by unfold sRet; cases m ρ <;> rfl
@[simp] theorem ev_retN : sRetN ρ = .ret .none ρ := id rfl
@[simp] theorem ev_set : sSet i m ρ = kSet (m ρ) i := by unfold sSet; cases m ρ <;> rfl
@[simp] theorem ev_setL {mo : M Ob} : sSetL i mo ρ = kSetL (mo ρ) i := by unfold sSetL; cases mo ρ <;> rfl
@[simp] theorem ev_drop : sDrop m ρ = kDrop (m ρ) := by unfold sDrop; cases m ρ <;> rfl
@[simp] theorem ev_brk : sBrk ρ = .brk ρ := id rfl
@[simp] theorem ev_cont : sCont ρ = .cont ρ := id rfl
@[simp] theorem ev_raise {x : Str} : sRaise x ρ = .exc x ρ := id rfl
@[simp] theorem ev_unp {gs : D → Rho → Option Rho} : sUnp m gs ρ = kUnp (m ρ) gs := by
  unfold sUnp; cases m ρ <;> try rfl
@[simp] theorem ev_par : sPar i j na ρ = kPar (na ρ) i j := by unfold sPar; cases na ρ <;> rfl
@[simp] theorem ev_for {mi : M (List D)} {gs : D → Rho → Option Rho} {body : MS} : sFor mi gs body ρ = kFor (mi ρ) gs body := by unfold sFor; cases mi ρ <;> rfl
@[simp] theorem ev_gSet : gSet i d ρ = some (ρ.set i (.val d)) := id rfl
@[simp] theorem ev_gTup {r : List D → Rho → Option Rho} : gTupD r (.tuple ds) ρ = r ds ρ := id rfl
@[simp] theorem ev_gsNil : gsNil [] ρ = some ρ := id rfl
def gsK (o : Option Rho) (r : List D → Rho → Option Rho) (ds : List D) : Option Rho := match o with
  | some ρ1 => r ds ρ1
  | none => none
@[simp] theorem gsK_some {r : List D → Rho → Option Rho} : gsK (some ρ) r ds = r ds ρ := id rfl
@[simp] theorem ev_gsCons {f : D → Rho → Option Rho} {r : List D → Rho → Option Rho} : gsCons f r (d :: ds) ρ = gsK (f d ρ) r ds := id rfl
@[simp] theorem ev_ownL : ownL ρ i = match ρ[i]? with | some (.own (.lst ts)) => some ts | _ => none := by
  unfold ownL; split <;> simp_all
@[simp] theorem ev_append : sAppend i ma ρ = if (ownL ρ i).isSome then kApnd (ma ρ) i else .bad := by
  unfold sAppend; cases ownL ρ i <;> try rfl
  rename_i v
  show sBnd (ma ρ) _ = kApnd (ma ρ) i
  cases ma ρ <;> rfl
@[simp] theorem ev_ixO : mIxO i mb ρ = if (ownL ρ i).isSome then kIxO (mb ρ) i else .bad := by
  unfold mIxO; cases ownL ρ i <;> try rfl
  rename_i v
  show bnd (mb ρ) _ = kIxO (mb ρ) i
  cases mb ρ <;> rfl
@[simp] theorem ev_lenO : mLenO i ρ = match ownL ρ i with | some ds => .ok (.int ds.length) ρ | none => .bad := id rfl
@[simp] theorem ev_putO : sPutO i mb ma ρ = kPut (ma ρ) i mb := by
  unfold sPutO; cases ma ρ <;> try rfl
  rename_i d r
  show _ = if (ownL r i).isSome then kPut2 (mb r) i d else .bad
  rw [sBnd_ok]
  cases ownL r i <;> try rfl
  show sBnd (mb r) _ = kPut2 (mb r) i d
  cases mb r <;> rfl
@[simp] theorem ev_callT {fn : D → List D → List D → FRT} : mCallT n fn ma j na ρ = kCallT (ma ρ) n fn j na := by
  unfold mCallT; cases ma ρ <;> try rfl
  rename_i d r
  show _ = if (ownL r j).isSome then kCallT2 (na r) n fn d j else .bad
  rw [bnd_ok]
  cases ownL r j <;> try rfl
  show bnd (na r) _ = kCallT2 (na r) n fn d j
  cases na r <;> rfl
def ctK (o : Option (List D)) (fn : D → List D → List D → FRT) (d : D) (j : Nat) (ds : List D) (ρ : Rho) : MR D := match o with
  | some ts => frTM (fn d ts ds) j ρ
  | none => .bad
@[simp] theorem ctK_some {ts : List D} {fn : D → List D → List D → FRT} : ctK (some ts) fn d j ds ρ = frTM (fn d ts ds) j ρ := id rfl
@[simp] theorem ev_callT' {fn : D → List D → List D → FRT} : callT fn d j ds ρ = ctK (ownL ρ j) fn d j ds ρ := by
  unfold callT ctK; cases ownL ρ j <;> rfl
end
section
variable {ρ : Rho} {ma : M D} {i : Nat} {ds : List D}
@[simp] theorem ev_ownT : ownT ρ i = match ρ[i]? with | some (.own (.dT ts)) => some ts | _ => none := by
  unfold ownT; split <;> simp_all
@[simp] theorem ev_inT {neg : Bool} : mInT neg ma i ρ = kInT (ma ρ) neg i := by
  unfold mInT; cases ma ρ <;> rfl
@[simp] theorem keyT_tup : keyT (.tuple ds) = intsOf ds := id rfl
@[simp] theorem intsOf_nil : intsOf [] = some [] := id rfl
@[simp] theorem intsOf_cons (i : Int) : intsOf (.int i :: ds) = (intsOf ds).map (i :: ·) := id rfl
end
/-! ### types -/
theorem kit_none_int : kitB (tyD .none) "int" = some false := by decide +kernel
@[simp] theorem isi_none_int  : fIsi "int" .none = some (.bool false) := congrArg (Option.map PyData.bool) kit_none_int
theorem kit_bool_int : kitB (tyD (.bool true)) "int" = some true := by decide +kernel
@[simp] theorem isi_bool_int {b : Bool} : fIsi "int" (.bool b) = some (.bool true) := congrArg (Option.map PyData.bool) kit_bool_int
theorem kit_int_int : kitB (tyD (.int 0)) "int" = some true := by decide +kernel
@[simp] theorem isi_int_int {i : Int} : fIsi "int" (.int i) = some (.bool true) := congrArg (Option.map PyData.bool) kit_int_int
theorem kit_str_int : kitB (tyD (.str ⟨#[]⟩)) "int" = some false := by decide +kernel
@[simp] theorem isi_str_int {z : Str} : fIsi "int" (.str z) = some (.bool false) := congrArg (Option.map PyData.bool) kit_str_int
theorem kit_list_int : kitB (tyD (.list [])) "int" = some false := by decide +kernel
@[simp] theorem isi_list_int {ds : List D} : fIsi "int" (.list ds) = some (.bool false) := congrArg (Option.map PyData.bool) kit_list_int
theorem kit_tuple_int : kitB (tyD (.tuple [])) "int" = some false := by decide +kernel
@[simp] theorem isi_tuple_int {ds : List D} : fIsi "int" (.tuple ds) = some (.bool false) := congrArg (Option.map PyData.bool) kit_tuple_int
theorem kit_none_bool : kitB (tyD .none) "bool" = some false := by decide +kernel
@[simp] theorem isi_none_bool  : fIsi "bool" .none = some (.bool false) := congrArg (Option.map PyData.bool) kit_none_bool
theorem kit_bool_bool : kitB (tyD (.bool true)) "bool" = some true := by decide +kernel
@[simp] theorem isi_bool_bool {b : Bool} : fIsi "bool" (.bool b) = some (.bool true) := congrArg (Option.map PyData.bool) kit_bool_bool
theorem kit_int_bool : kitB (tyD (.int 0)) "bool" = some false := by decide +kernel
@[simp] theorem isi_int_bool {i : Int} : fIsi "bool" (.int i) = some (.bool false) := congrArg (Option.map PyData.bool) kit_int_bool
theorem kit_str_bool : kitB (tyD (.str ⟨#[]⟩)) "bool" = some false := by decide +kernel
@[simp] theorem isi_str_bool {z : Str} : fIsi "bool" (.str z) = some (.bool false) := congrArg (Option.map PyData.bool) kit_str_bool
theorem kit_list_bool : kitB (tyD (.list [])) "bool" = some false := by decide +kernel
@[simp] theorem isi_list_bool {ds : List D} : fIsi "bool" (.list ds) = some (.bool false) := congrArg (Option.map PyData.bool) kit_list_bool
theorem kit_tuple_bool : kitB (tyD (.tuple [])) "bool" = some false := by decide +kernel
@[simp] theorem isi_tuple_bool {ds : List D} : fIsi "bool" (.tuple ds) = some (.bool false) := congrArg (Option.map PyData.bool) kit_tuple_bool
theorem kit_none_tuple : kitB (tyD .none) "tuple" = some false := by decide +kernel
@[simp] theorem isi_none_tuple  : fIsi "tuple" .none = some (.bool false) := congrArg (Option.map PyData.bool) kit_none_tuple
theorem kit_bool_tuple : kitB (tyD (.bool true)) "tuple" = some false := by decide +kernel
@[simp] theorem isi_bool_tuple {b : Bool} : fIsi "tuple" (.bool b) = some (.bool false) := congrArg (Option.map PyData.bool) kit_bool_tuple
theorem kit_int_tuple : kitB (tyD (.int 0)) "tuple" = some false := by decide +kernel
@[simp] theorem isi_int_tuple {i : Int} : fIsi "tuple" (.int i) = some (.bool false) := congrArg (Option.map PyData.bool) kit_int_tuple
theorem kit_str_tuple : kitB (tyD (.str ⟨#[]⟩)) "tuple" = some false := by decide +kernel
@[simp] theorem isi_str_tuple {z : Str} : fIsi "tuple" (.str z) = some (.bool false) := congrArg (Option.map PyData.bool) kit_str_tuple
theorem kit_list_tuple : kitB (tyD (.list [])) "tuple" = some false := by decide +kernel
@[simp] theorem isi_list_tuple {ds : List D} : fIsi "tuple" (.list ds) = some (.bool false) := congrArg (Option.map PyData.bool) kit_list_tuple
theorem kit_tuple_tuple : kitB (tyD (.tuple [])) "tuple" = some true := by decide +kernel
@[simp] theorem isi_tuple_tuple {ds : List D} : fIsi "tuple" (.tuple ds) = some (.bool true) := congrArg (Option.map PyData.bool) kit_tuple_tuple
theorem kit_none_str : kitB (tyD .none) "str" = some false := by decide +kernel
@[simp] theorem isi_none_str  : fIsi "str" .none = some (.bool false) := congrArg (Option.map PyData.bool) kit_none_str
theorem kit_bool_str : kitB (tyD (.bool true)) "str" = some false := by decide +kernel
@[simp] theorem isi_bool_str {b : Bool} : fIsi "str" (.bool b) = some (.bool false) := congrArg (Option.map PyData.bool) kit_bool_str
theorem kit_int_str : kitB (tyD (.int 0)) "str" = some false := by decide +kernel
@[simp] theorem isi_int_str {i : Int} : fIsi "str" (.int i) = some (.bool false) := congrArg (Option.map PyData.bool) kit_int_str
theorem kit_str_str : kitB (tyD (.str ⟨#[]⟩)) "str" = some true := by decide +kernel
@[simp] theorem isi_str_str {z : Str} : fIsi "str" (.str z) = some (.bool true) := congrArg (Option.map PyData.bool) kit_str_str
theorem kit_list_str : kitB (tyD (.list [])) "str" = some false := by decide +kernel
@[simp] theorem isi_list_str {ds : List D} : fIsi "str" (.list ds) = some (.bool false) := congrArg (Option.map PyData.bool) kit_list_str
theorem kit_tuple_str : kitB (tyD (.tuple [])) "str" = some false := by decide +kernel
@[simp] theorem isi_tuple_str {ds : List D} : fIsi "str" (.tuple ds) = some (.bool false) := congrArg (Option.map PyData.bool) kit_tuple_str
theorem kit_none_list : kitB (tyD .none) "list" = some false := by decide +kernel
@[simp] theorem isi_none_list  : fIsi "list" .none = some (.bool false) := congrArg (Option.map PyData.bool) kit_none_list
theorem kit_bool_list : kitB (tyD (.bool true)) "list" = some false := by decide +kernel
@[simp] theorem isi_bool_list {b : Bool} : fIsi "list" (.bool b) = some (.bool false) := congrArg (Option.map PyData.bool) kit_bool_list
theorem kit_int_list : kitB (tyD (.int 0)) "list" = some false := by decide +kernel
@[simp] theorem isi_int_list {i : Int} : fIsi "list" (.int i) = some (.bool false) := congrArg (Option.map PyData.bool) kit_int_list
theorem kit_str_list : kitB (tyD (.str ⟨#[]⟩)) "list" = some false := by decide +kernel
@[simp] theorem isi_str_list {z : Str} : fIsi "list" (.str z) = some (.bool false) := congrArg (Option.map PyData.bool) kit_str_list
theorem kit_list_list : kitB (tyD (.list [])) "list" = some true := by decide +kernel
@[simp] theorem isi_list_list {ds : List D} : fIsi "list" (.list ds) = some (.bool true) := congrArg (Option.map PyData.bool) kit_list_list
theorem kit_tuple_list : kitB (tyD (.tuple [])) "list" = some false := by decide +kernel
@[simp] theorem isi_tuple_list {ds : List D} : fIsi "list" (.tuple ds) = some (.bool false) := congrArg (Option.map PyData.bool) kit_tuple_list
end DX

set_option maxHeartbeats 1000000
namespace DX
open PySem PySem.Spec PyProof.Rows L2
/-! ### loops over data that tell things of a type -/
section
variable {α : Type} {gs : D → Rho → Option Rho} {body : MS} {e : α → D}
theorem forL_any (p : α → Bool) (d : D) (I : Rho → Prop) : ∀ (ys : List α) (ρ : Rho), I ρ →
    (∀ y ∈ ys, ∀ ρ, I ρ → ∃ ρ1, gs (e y) ρ = some ρ1 ∧ (p y = true → ∃ ρ', body ρ1 = .ret d ρ') ∧ (p y = false → ∃ ρ2, (body ρ1 = .next ρ2 ∨ body ρ1 = .cont ρ2) ∧ I ρ2)) →
    (ys.any p = true → ∃ ρ', forL gs body (ys.map e) ρ = .ret d ρ') ∧ (ys.any p = false → ∃ ρ', forL gs body (ys.map e) ρ = .next ρ' ∧ I ρ')
  | [], ρ, h0, _ => ⟨fun h => by simp at h, fun _ => ⟨ρ, rfl, h0⟩⟩
  | y :: ys, ρ, h0, st => by
    obtain ⟨ρ1, e1, hp, hn⟩ := st y List.mem_cons_self ρ h0
    have un : forL gs body ((y :: ys).map e) ρ = match body ρ1 with
      | .next ρ2 => forL gs body (ys.map e) ρ2
      | .cont ρ2 => forL gs body (ys.map e) ρ2
      | .brk ρ2 => .next ρ2
      | r => r := by rw [List.map_cons, forL, e1] <;> rfl
    cases q : p y with
    | true =>
      obtain ⟨ρ', e2⟩ := hp q
      refine ⟨fun _ => ⟨ρ', by rw [un, e2]⟩, fun h => by simp [q] at h⟩
    | false =>
      obtain ⟨ρ2, e2, h2⟩ := hn q
      obtain ⟨a, b⟩ := forL_any p d I ys ρ2 h2 fun z hz => st z (List.mem_cons_of_mem _ hz)
      have un2 : forL gs body ((y :: ys).map e) ρ = forL gs body (ys.map e) ρ2 := by
        rw [un]; rcases e2 with e2 | e2 <;> rw [e2]
      rw [un2, List.any_cons, q, Bool.false_or]
      exact ⟨a, b⟩
theorem forL_next (I : Nat → Rho → Prop) : ∀ (ys : List α) (k : Nat) (ρ : Rho), I k ρ →
    (∀ i y, ys[i]? = some y → ∀ ρ, I (k + i) ρ → ∃ ρ1 ρ2, gs (e y) ρ = some ρ1 ∧ (body ρ1 = .next ρ2 ∨ body ρ1 = .cont ρ2) ∧ I (k + i + 1) ρ2) →
    ∃ ρ', forL gs body (ys.map e) ρ = .next ρ' ∧ I (k + ys.length) ρ'
  | [], k, ρ, h0, _ => ⟨ρ, rfl, h0⟩
  | y :: ys, k, ρ, h0, st => by
    obtain ⟨ρ1, ρ2, e1, e2, h2⟩ := st 0 y rfl ρ h0
    obtain ⟨ρ', e3, h3⟩ := forL_next I ys (k + 1) ρ2 h2 fun i z hz ρ hρ => by
      have := st (i + 1) z (by simpa using hz) ρ (by rw [show k + (i + 1) = k + 1 + i by omega]; exact hρ)
      rw [show k + (i + 1) + 1 = k + 1 + i + 1 by omega] at this
      exact this
    refine ⟨ρ', ?_, by rw [show k + (y :: ys).length = k + 1 + ys.length by simp; omega]; exact h3⟩
    rw [List.map_cons, forL, e1]
    rcases e2 with e2 | e2 <;> simp only [e2] <;> exact e3
end

/-! ### comprehensions -/
theorem wipeR_get_in {ρ : Rho} {i : Nat} : ∀ {vs : List Nat}, i ∉ vs → (wipeR ρ vs)[i]? = ρ[i]?
  | [], _ => rfl
  | v :: vs, h => by
    unfold wipeR
    rw [List.getElem?_set_ne (fun e => h (by rw [e]; exact List.mem_cons_self))]
    exact wipeR_get_in fun z => h (List.mem_cons_of_mem _ z)
theorem unw_get_in {ρ1 ρ2 : Rho} {i : Nat} : ∀ {vs : List Nat}, i ∈ vs → i < ρ2.length → (unw ρ1 vs ρ2)[i]? = some (ρ1.getD i .no)
  | v :: vs, h, hl => by
    unfold unw
    by_cases hi : v = i
    · subst hi; rw [List.getElem?_set_self (by rw [unw_length]; exact hl)]
    · rw [List.getElem?_set_ne hi]
      exact unw_get_in (by cases h with | head => exact absurd rfl hi | tail _ h => exact h) hl
theorem unw_wipe {ρ1 ρ2 : Rho} {vs : List Nat} (h : ρ2 = wipeR ρ1 vs) : unw ρ1 vs ρ2 = ρ1 := by
  have hl : ρ2.length = ρ1.length := by rw [h, wipeR_length]
  apply List.ext_getElem?
  intro i
  by_cases hi : i ∈ vs
  · by_cases hlt : i < ρ1.length
    · rw [unw_get_in hi (by omega), List.getD_eq_getElem?_getD, List.getElem?_eq_getElem hlt]; rfl
    · rw [List.getElem?_eq_none (by rw [unw_length]; omega), List.getElem?_eq_none (by omega)]
  · rw [unw_out hi, h, wipeR_get_in hi]
section
variable {α : Type} {gs : D → Rho → Option Rho} {test : M Bool} {elt : M D} {vs : List Nat} {e f : α → D} {mi : M (List D)} {n : Nat}
theorem compL_pure (t : α → Bool) {ρ : Rho} : ∀ (ys : List α), (∀ y ∈ ys, ∃ ρ1, gs (e y) ρ = some ρ1 ∧ wipeR ρ1 vs = ρ ∧ test ρ1 = .ok (t y) ρ1 ∧ (t y = true → elt ρ1 = .ok (f y) ρ1)) →
    compL gs test elt vs (ys.map e) ρ = .ok ((ys.filter t).map f) ρ
  | [], _ => rfl
  | y :: ys, h => by
    obtain ⟨ρ1, e1, e2, e3, e4⟩ := h y List.mem_cons_self
    rw [List.map_cons, compL, e1]
    simp only [e3, cBnd_ok]
    have ih := compL_pure t ys fun z hz => h z (List.mem_cons_of_mem _ hz)
    cases q : t y with
    | true => simp only [e4 q, cBnd_ok, e2, ih, List.filter_cons, q, if_true, List.map_cons]
    | false => simp only [e2, ih, List.filter_cons, q]; rfl
theorem mComp_pure (t : α → Bool) (ys : List α) {ρ : Rho} (hi : mi ρ = .ok (ys.map e) ρ) (hno : noOwn ρ vs = true) (hl : ys.length ≤ sizeLine) (hn : ρ.length ≤ n)
    (h : ∀ y ∈ ys, ∃ ρ1, gs (e y) (wipeR ρ vs) = some ρ1 ∧ wipeR ρ1 vs = wipeR ρ vs ∧ test ρ1 = .ok (t y) ρ1 ∧ (t y = true → elt ρ1 = .ok (f y) ρ1)) :
    mComp n mi gs test elt vs ρ = .ok (.lst ((ys.filter t).map f)) ρ := by
  unfold mComp
  rw [hi]
  simp only [bnd_ok]
  rw [if_pos ⟨hno, by rw [List.length_map]; exact hl, hn⟩, compL_pure t ys h]
  simp only [cBnd_ok]
  rw [unw_wipe rfl]
theorem mComp_map (ys : List α) {ρ : Rho} (hi : mi ρ = .ok (ys.map e) ρ) (hno : noOwn ρ vs = true) (hl : ys.length ≤ sizeLine) (hn : ρ.length ≤ n)
    (h : ∀ y ∈ ys, ∃ ρ1, gs (e y) (wipeR ρ vs) = some ρ1 ∧ wipeR ρ1 vs = wipeR ρ vs ∧ elt ρ1 = .ok (f y) ρ1) :
    mComp n mi gs tYesM elt vs ρ = .ok (.lst (ys.map f)) ρ := by
  have := mComp_pure (test := tYesM) (f := f) (fun _ => true) ys hi hno hl hn fun y hy => by
    obtain ⟨ρ1, a, b, c⟩ := h y hy
    exact ⟨ρ1, a, b, rfl, fun _ => c⟩
  rw [this, List.filter_eq_self.mpr fun _ _ => rfl]
end

/-! ### equality -/
theorem eqvAll_map {α : Type} [DecidableEq α] {e : α → D} (h : ∀ a b, PyData.eqv (e a) (e b) = decide (a = b)) : ∀ as bs : List α, PyData.eqvAll (as.map e) (bs.map e) = decide (as = bs)
  | [], [] => by simp [PyData.eqvAll]
  | [], b :: bs => by simp [PyData.eqvAll]
  | a :: as, [] => by simp [PyData.eqvAll]
  | a :: as, b :: bs => by
    have ih := eqvAll_map h as bs
    simp only [List.map_cons, PyData.eqvAll, h, ih]
    by_cases h1 : a = b <;> by_cases h2 : as = bs <;> simp [h1, h2]
@[simp] theorem eqv_int (i j : Int) : PyData.eqv (.int i) (.int j) = decide (i = j) := by
  rw [PyData.eqv]; by_cases h : i = j <;> simp [h]
@[simp] theorem eqv_bool (i j : Bool) : PyData.eqv (.bool i) (.bool j) = (i == j) := by rw [PyData.eqv]
@[simp] theorem eqv_tuple (a b : List D) : PyData.eqv (.tuple a) (.tuple b) = PyData.eqvAll a b := by rw [PyData.eqv]
@[simp] theorem eqv_list (a b : List D) : PyData.eqv (.list a) (.list b) = PyData.eqvAll a b := by rw [PyData.eqv]
@[simp] theorem eqvAll_nil : PyData.eqvAll [] [] = true := by rw [PyData.eqvAll]
@[simp] theorem eqvAll_cons (a b : D) (as bs : List D) : PyData.eqvAll (a :: as) (b :: bs) = (PyData.eqv a b && PyData.eqvAll as bs) := by rw [PyData.eqvAll]
@[simp] theorem eqvAll_nc (b : D) (bs : List D) : PyData.eqvAll [] (b :: bs) = false := by rw [PyData.eqvAll]
@[simp] theorem eqvAll_cn (b : D) (bs : List D) : PyData.eqvAll (b :: bs) [] = false := by rw [PyData.eqvAll]
/-! ### shapes -/
def Sh (k : Nat) (d : D) : Prop := d.canLay0 = true ∧ d.depth ≤ k
theorem sh_int {k : Nat} {i : Int} : Sh k (.int i) := ⟨by rw [PyData.canLay0], by rw [PyData.depth]; exact Nat.zero_le _⟩
theorem sh_bool {k : Nat} {i : Bool} : Sh k (.bool i) := ⟨by rw [PyData.canLay0], by rw [PyData.depth]; exact Nat.zero_le _⟩
theorem sh_none {k : Nat} : Sh k .none := ⟨by rw [PyData.canLay0], by rw [PyData.depth]; exact Nat.zero_le _⟩
theorem sh_all {k : Nat} : ∀ {ds : List D}, (∀ d ∈ ds, Sh k d) → PyData.canLayAll0 ds = true ∧ PyData.depthAll ds ≤ k
  | [], _ => ⟨by rw [PyData.canLayAll0], by rw [PyData.depthAll]; exact Nat.zero_le _⟩
  | d :: ds, h => by
    obtain ⟨a, b⟩ := sh_all fun x hx => h x (List.mem_cons_of_mem _ hx)
    obtain ⟨a1, b1⟩ := h d List.mem_cons_self
    exact ⟨by rw [PyData.canLayAll0, a, a1]; rfl, by rw [PyData.depthAll]; omega⟩
theorem sh_list {k : Nat} {ds : List D} (h : ∀ d ∈ ds, Sh k d) : Sh (k + 1) (.list ds) := by
  obtain ⟨a, b⟩ := sh_all h
  exact ⟨by rw [PyData.canLay0]; exact a, by rw [PyData.depth]; omega⟩
theorem sh_tuple {k : Nat} {ds : List D} (h : ∀ d ∈ ds, Sh k d) : Sh (k + 1) (.tuple ds) := by
  obtain ⟨a, b⟩ := sh_all h
  exact ⟨by rw [PyData.canLay0]; exact a, by rw [PyData.depth]; omega⟩
theorem Sh.up {k k' : Nat} {d : D} (h : Sh k d) (hk : k ≤ k' := by decide) : Sh k' d := ⟨h.1, Nat.le_trans h.2 hk⟩
theorem Sh.s {k : Nat} {d : D} (h : Sh k d) (hk : k ≤ 64) : SeqAt.shaped d = true := by
  unfold SeqAt.shaped
  rw [h.1, Bool.true_and, decide_eq_true_eq]
  exact Nat.le_trans h.2 hk
theorem fEq_sh {k : Nat} {d e : D} (h1 : Sh k d) (h2 : Sh k e) (hk : k ≤ 64 := by decide) : fEq d e = some (.bool (PyData.eqv d e)) := by
  unfold fEq; rw [h1.s hk, h2.s hk]; rfl
theorem fNe_sh {k : Nat} {d e : D} (h1 : Sh k d) (h2 : Sh k e) (hk : k ≤ 64 := by decide) : fNe d e = some (.bool (!PyData.eqv d e)) := by
  unfold fNe; rw [h1.s hk, h2.s hk]; rfl
theorem fInT_sh {k : Nat} {d : D} {ds : List D} (h1 : Sh k d) (h2 : Sh k (.tuple ds)) (hk : k ≤ 64 := by decide) : fIn d (.tuple ds) = some (.bool (ds.any fun z => PyData.eqv z d)) := by
  show (if (SeqAt.shaped d && SeqAt.shaped _) = true then _ else _) = _
  rw [h1.s hk, h2.s hk]; simp
theorem fInL_sh {k : Nat} {d : D} {ds : List D} (h1 : Sh k d) (h2 : Sh k (.list ds)) (hk : k ≤ 64 := by decide) : fIn d (.list ds) = some (.bool (ds.any fun z => PyData.eqv z d)) := by
  show (if (SeqAt.shaped d && SeqAt.shaped _) = true then _ else _) = _
  rw [h1.s hk, h2.s hk]; simp
@[simp] theorem fEq_int (i j : Int) : fEq (.int i) (.int j) = some (.bool (decide (i = j))) := by rw [fEq_sh (k := 0) sh_int sh_int, eqv_int]
@[simp] theorem fNe_int (i j : Int) : fNe (.int i) (.int j) = some (.bool (!decide (i = j))) := by rw [fNe_sh (k := 0) sh_int sh_int, eqv_int]
@[simp] theorem fEq_bool (i j : Bool) : fEq (.bool i) (.bool j) = some (.bool (i == j)) := by rw [fEq_sh (k := 0) sh_bool sh_bool, eqv_bool]
@[simp] theorem fNe_bool (i j : Bool) : fNe (.bool i) (.bool j) = some (.bool (!(i == j))) := by rw [fNe_sh (k := 0) sh_bool sh_bool, eqv_bool]
@[simp] theorem fLt_int (i j : Int) : fLt (.int i) (.int j) = some (.bool (decide (i < j))) := rfl
@[simp] theorem fLe_int (i j : Int) : fLe (.int i) (.int j) = some (.bool (decide (i ≤ j))) := rfl
@[simp] theorem fGt_int (i j : Int) : fGt (.int i) (.int j) = some (.bool (decide (j < i))) := rfl
@[simp] theorem fGe_int (i j : Int) : fGe (.int i) (.int j) = some (.bool (decide (j ≤ i))) := rfl
@[simp] theorem fAdd_int (i j : Int) : fAdd (.int i) (.int j) = some (.int (i + j)) := rfl
@[simp] theorem fSub_int (i j : Int) : fSub (.int i) (.int j) = some (.int (i - j)) := rfl
@[simp] theorem fNeg_int (i : Int) : fNeg (.int i) = some (.int (-i)) := rfl
@[simp] theorem fLen_tuple (ds : List D) : fLen [.tuple ds] = some (.int ds.length) := rfl
@[simp] theorem fLen_list (ds : List D) : fLen [.list ds] = some (.int ds.length) := rfl
@[simp] theorem fAll_map {α : Type} (p : α → Bool) (ys : List α) : fAll [.list (ys.map fun y => .bool (p y))] = some (.bool (ys.all p)) := by
  have : ys.map (fun y => PyData.bool (p y)) = (ys.map p).map PyData.bool := by simp
  show (boolsOf _).map _ = _
  rw [this, boolsOf_map]
  simp [Function.comp_def]
@[simp] theorem fAny_map {α : Type} (p : α → Bool) (ys : List α) : fAny [.list (ys.map fun y => .bool (p y))] = some (.bool (ys.any p)) := by
  have : ys.map (fun y => PyData.bool (p y)) = (ys.map p).map PyData.bool := by simp
  show (boolsOf _).map _ = _
  rw [this, boolsOf_map]
  simp [Function.comp_def]
@[simp] theorem fTuple_list (ds : List D) : fTuple [.list ds] = some (.tuple ds) := rfl
@[simp] theorem fTuple_tuple (ds : List D) : fTuple [.tuple ds] = some (.tuple ds) := rfl
/-! ### places -/
theorem atI_nat {α : Type} (xs : List α) (i : Nat) : atI xs (i : Int) = xs[i]? := by
  unfold atI ixN
  rw [if_pos (by omega)]
  by_cases h : i < xs.length
  · rw [if_pos (by omega)]; simp
  · rw [if_neg (by omega), List.getElem?_eq_none (by omega)]; rfl
@[simp] theorem fIx_tuple (ds : List D) (i : Int) : fIx (.tuple ds) (.int i) = atI ds i := rfl
@[simp] theorem fIx_list (ds : List D) (i : Int) : fIx (.list ds) (.int i) = atI ds i := rfl
@[simp] theorem atI_0 {α : Type} (x : α) (xs : List α) : atI (x :: xs) 0 = some x := atI_nat (x :: xs) 0
@[simp] theorem atI_1 {α : Type} (x y : α) (xs : List α) : atI (x :: y :: xs) 1 = some y := atI_nat (x :: y :: xs) 1
@[simp] theorem atI_2 {α : Type} (x y z : α) (xs : List α) : atI (x :: y :: z :: xs) 2 = some z := atI_nat (x :: y :: z :: xs) 2
@[simp] theorem szl (n : Nat) : (n ≤ sizeLine) = (n ≤ 16777216) := by rw [show sizeLine = 16777216 from rfl]
theorem rng1_nat (n : Nat) (h : n < 2 ^ 62) : rng1 [.int n] = some ((List.range n).map fun (i : Nat) => .int (i : Int)) := by
  have e : rng1 [.int n] = if -(2 ^ 62) ≤ (n : Int) ∧ (n : Int) < 2 ^ 62 then some (rangeD 0 (n : Int).toNat) else none := by rw [rng1]
  rw [e, if_pos ⟨by omega, by omega⟩]
  simp [rangeD]
theorem fMul_ok {i j : Int} (h : (-(2 ^ 64) < i ∧ i < 2 ^ 64) ∨ (-(2 ^ 64) < j ∧ j < 2 ^ 64)) : fMul (.int i) (.int j) = some (.int (i * j)) := by
  rw [fMul, if_pos h]
theorem fDiv_ok {i j : Int} (h : 0 < j ∧ j < 1073741824) : fDiv (.int i) (.int j) = some (.int (i / j)) := by rw [fDiv, if_pos h]
theorem fMod_ok {i j : Int} (h : 0 < j) : fMod (.int i) (.int j) = some (.int (i % j)) := by rw [fMod, if_pos h]
theorem fPow_ok {i j : Int} (h : 0 ≤ j ∧ j ≤ 1000000 ∧ i.natAbs < 2 ^ 64) : fPow (.int i) (.int j) = some (.int (i ^ j.toNat)) := by rw [fPow, if_pos h]
theorem ixN_nat {n k : Nat} (h : k < n) : ixN n (k : Int) = some k := by
  unfold ixN; rw [if_pos (by omega), if_pos (by omega)]; simp
theorem fEq_nil (ns : List Int) : fEq (.list (ns.map .int)) (.list []) = some (.bool (decide (ns = []))) := by
  rw [fEq_sh (k := 1) (sh_list fun d hd => by obtain ⟨i, _, rfl⟩ := List.mem_map.mp hd; exact sh_int) (sh_list fun d hd => by cases hd), eqv_list]
  cases ns <;> simp
end DX

set_option maxHeartbeats 1000000
namespace DX
open PySem PySem.Spec PyProof.Rows L2
/-! ### what is never reached -/
def mBad {α : Type} : M α := fun _ => .bad
def sBad : MS := fun _ => .bad
section
variable {g : GC} {s : SS} {k : Nat} {W : WX} {pin : List Nat} {X : Cx} {pos : Pos}
theorem dm_never {e : Expr} : DM g W X e mBad := ⟨fun _ _ _ => False, ⟨fun _ _ _ _ _ _ h => h.elim⟩, fun _ _ _ _ _ _ _ h => h⟩
theorem ds_never {st : Stmt} : DS g W pin X st sBad := ⟨_, ps_never, fun _ _ _ _ _ _ _ h => h⟩
theorem dss_never {st : List Stmt} : DSs g W pin X st sBad := ⟨fun _ _ _ => False, ⟨fun _ _ _ _ _ _ h => h.elim⟩, fun _ _ _ _ _ _ _ h => h⟩
end
/-! ### {k: v}, k a tuple -/
section
variable {X : Cx} {pos : Pos}
theorem dict_shown {P : Program} {w : World} {A : Around} {E : Value → Shared → Prop} {s : Shared} {env : PySem.Env} {keys : List (Option Expr)} {values : List Expr} {Q : Value → Shared → Prop}
    (hu : (tupleKind (mixKind P w)).room A) (hall : keys.all (·.isSome) = true) (hl : keys.length = values.length) (h0 : keys ≠ []) (h15 : keys.length ≤ 15)
    (h : wpAny (model P w) A (evalPairs (pairTrees keys values env pos)) (fun vs s₁ => ∃ ps, CarriesH (tupleKind (mixKind P w)) s₁.heap vs ps ∧ s₁.heap.DictOfH (tupleKind (mixKind P w)) s.heap.objs.size [] ∧
      ∀ h' tk, h'.DictOfH (tupleKind (mixKind P w)) s.heap.objs.size (storedAllH [] ps) → Heap.SameBut s.heap.objs.size s₁.heap h' → Q (.ref s.heap.objs.size) { s₁ with heap := h', toks := tk }) E
      { s with heap := s.heap.push { cls := .type "dict", data := .dict #[] } }) :
    wpAny (model P w) A (eval (.Dict keys values pos) env) Q E s := by
  have hn := pairTrees_length keys values env pos hall hl
  have hne : pairTrees keys values env pos ≠ [] := fun he => by rw [he] at hn; exact h0 (List.length_eq_zero_iff.mp hn.symm)
  rw [arm_eval_Dict, zip_pairTrees keys values env pos hall hl, dictDisplay_pairs _ hne (by rw [hn]; omega)]
  refine wpAny_bind (wpAny_standAt (wpAny_bind (wpAny_subDictH (knd := tupleKind (mixKind P w)) (Q := fun d s' => wpAny (model P w) A (pure (Value.ref d)) Q E s') hu (by rw [hn]; exact h15) (wpAny_mono h (fun vs s₁ h₁ => ?_) fun _ _ e => e))))
  obtain ⟨ps, hc, hm, hq⟩ := h₁
  exact ⟨ps, hc, hm, fun h' tk a b => wpAny_pure (hq h' tk a b)⟩
def tDisp1 (P : Program) (w : World) (tk tv : TE) : TE := fun σ H Q => ∀ p, H p = none → tk σ (upd H p (DicO P w p [])) fun x H1 => tv σ H1 fun y H2 => H2 p = some (DicO P w p []) ∧ ∃ b ks, x = .ref b ∧ KeyAt H2 b ks ∧ Q (.ref p) (upd H2 p (DicO P w p [⟨ks, b, y⟩]))
theorem pe_disp1 {k v : Expr} {tk tv : TE} (hu : X.A.units + 65 < cLine) (hk : PE X k tk) (hv : PE X v tv) : PE X (.Dict [some k] [v] pos) (tDisp1 X.prog X.w tk tv) := by
  refine ⟨fun pins s σ H Q I q => ?_⟩
  have hn := I.hok.fresh (Nat.le_refl s.heap.objs.size)
  have hm : (s.heap.objs.size == sysModules) = false := beq_eq_false_iff_ne.mpr (Nat.ne_of_gt I.big)
  have d0 : DicAt X.prog X.w s.heap.objs.size [] (s.heap.push { cls := .type "dict", data := .dict #[] }) := ⟨Nat.zero_le _, hm, [], .nil, _, #[], 0, Heap.get?_push_size _ rfl, ⟨rfl, rfl, rfl⟩, rfl, rfl, List.nodup_nil⟩
  have I1 := I.laid (a := s.heap.objs.size) (o := DicO X.prog X.w s.heap.objs.size []) (h' := s.heap.push { cls := .type "dict", data := .dict #[] }) (t' := s.toks) (fun _ _ q => Heap.get?_push_of_some _ q) (Nat.le_refl _) (dicAt_ok d0)
  have pp := pps_cons (pos := pos) hk hv pps_nil
  refine dict_shown (show X.A.units < cLine by omega) rfl rfl (fun z => nomatch z) (Nat.le_of_ble_eq_true rfl) (thn (pp.run pins _ σ _ (fun ps H2 => match ps with
    | [(x, y)] => H2 s.heap.objs.size = some (DicO X.prog X.w s.heap.objs.size []) ∧ ∃ b ks, x = .ref b ∧ KeyAt H2 b ks ∧ Q (.ref s.heap.objs.size) (upd H2 s.heap.objs.size (DicO X.prog X.w s.heap.objs.size [⟨ks, b, y⟩]))
    | _ => False) I1 (q _ hn)) fun ws s2 ⟨ps, H2, I2, rel, q1⟩ => ?_)
  · match ps, rel, q1 with
    | [], _, q1 => exact q1.elim
    | _ :: _ :: _, _, q1 => exact q1.elim
    | [(x, y)], rel, ⟨e, b, ks, exb, ⟨o, hb⟩, q2⟩ =>
    subst exb
    cases rel with
    | @cons _ wv _ _ r rr =>
    cases rr
    obtain ⟨kv, vv⟩ := wv
    obtain ⟨r1, r2⟩ := r
    have r1' : kv = Value.ref b := r1
    subst r1'
    obtain ⟨z, hd, xs, rx, dd⟩ := dicZ I2.hok e (fun _ z => absurd z (by simp))
    cases rx
    refine ⟨[(ks, b, vv)], ⟨rfl, rfl, keyZ I2.hok hb, True.intro⟩, dd, fun h' tk' dd' hs => ⟨.ref s.heap.objs.size, _, ?_, rfl, q2⟩⟩
    obtain ⟨ob', es', ep, hq, h2, h3, h4, _, h5⟩ := dd'
    exact d_write I2 (by rw [e]; exact True.intro) hs ⟨ob', hq⟩ (dicAt_ok ⟨by show 1 ≤ sizeLine; decide, hd, _, .cons ⟨rfl, rfl, r2⟩ .nil, ob', es', ep, hq, h2, h3, h4, h5⟩)
end
def dsp1 (k v : D) (ρ : Rho) : MR Ob := match keyT k with
  | some ns => .ok (.dT [(ns, v)]) ρ
  | none => .bad
def mDisp1 (mk mv : M D) : M Ob := fun ρ => bnd (mk ρ) fun k ρ1 => bnd (mv ρ1) fun v ρ2 => dsp1 k v ρ2
section
variable {g : GC} {s : SS} {k : Nat} {W : WX} {pin : List Nat} {X : Cx} {pos : Pos}
theorem dl_disp1 (ok : Ok g s k W X) {a b : Expr} {mk mv : M D} (hk : DM g W X a mk) (hv : DM g W X b mv) : DL g W X (.Dict [some a] [b] pos) (mDisp1 mk mv) := by
  obtain ⟨tk, pk, sk⟩ := hk
  obtain ⟨tv, pv, sv⟩ := hv
  refine ⟨_, pe_disp1 ok.units pk pv, fun B F H σ ρ Q E h => ?_⟩
  rw [ok.hP, ok.hw]
  intro p np
  have nB := E.subB.nn np
  have nF := E.sub.nn np
  have E1 : DX.Env g.K (upd B p (DicO g.K.P g.K.w p [])) F (upd H p (DicO g.K.P g.K.w p [])) σ ρ := (E.other nF nB (fresh_own E np)).addB upd_same (fresh_own E np)
  refine sk.then (R := PoL g.K g.mg W B F σ Q) E1 (fun x ρ' z C F' H' e g' E' => z C F' H' e g'.dropB (E'.dropB nB)) (fun z => z) h fun d ρ1 v F1 H1 g1 E2 r1 h1 => ?_
  refine sv.then (R := PoL g.K g.mg W B F1 σ Q) E2 (fun x ρ' z C F' H' e g' E' => z C F' H' e g'.dropB (E'.dropB nB)) (fun z => z) (h1.later g1.dropB) fun d2 ρ2 v2 F2 H2 g2 E3 r2 h2 => ?_
  unfold dsp1 at h2
  cases ek : keyT d with
  | none => rw [ek] at h2; exact h2.elim
  | some ns =>
    rw [ek] at h2
    have nF2 : F2 p = none := g2.stayN (g1.stayN nF)
    obtain ⟨b, rfl, kH, kF⟩ := keyT_at E3.sub (r1.mono g2.sub) ek
    refine ⟨E3.subB p _ upd_same, b, toK ns, rfl, kH, ?_⟩
    have E4 := (E3.dropB nB).other (o := DicO g.K.P g.K.w p [⟨toK ns, b, v2⟩]) nF2 nB E3.notOwn
    exact (PoL.later g2.dropB h2) p F2 _ Gr.refl E4 nF2 nB ⟨[⟨toK ns, b, v2⟩], upd_same, fun e he => (List.mem_singleton.mp he) ▸ kF, rfl, .cons r2 .nil⟩ E3.notOwn
end
/-! ### enumerate(x), x a tuple or a list -/
section
theorem meets_enum1 {v : Value} {o : Obj} {H : Heap → Prop} (B : Begins v o H) :
    Meets (Builtin.«enumerate.__new__» ⟨[.type "enumerate", v], []⟩) (fun _ R s => H s.heap ∧
      R (.ok (.ret (.ref (s.heap.push o).objs.size))) { s with heap := (s.heap.push o).push { cls := .type "enumerate", data := .fields #[.none, .bool false, .ref s.heap.objs.size, rawInt 0, .none, .none] } }) :=
  .of_wp fun prog w A R s h => by
    obtain ⟨hp, gn, dr, tk, os⟩ := s
    obtain ⟨h1, h⟩ := h
    have hsub := sub_enumerate
    have qi : ∀ {A' : Around} {E : Value → Shared → Prop} {Q : Value → Shared → Prop}, Q (.ref hp.objs.size) ⟨hp.push o, gn, dr, tk, os⟩ → wpAny (model prog w) A' (pyIter v) Q E ⟨hp, gn, dr, tk, os⟩ :=
      fun q => B.iter prog w _ _ ⟨hp, gn, dr, tk, os⟩ _ h1 q
    wp_walk using qi
    refine wpAny_stack_any fun st => wpAny_pure ?_
    split
    · rename_i c _ _ _ _ _
      cases (c == Value.type "enumerate") <;> (wp_walk using qi; exact ⟨_, rfl, h⟩)
    · wp_walk using qi
      exact ⟨_, rfl, h⟩
theorem enum1 {prog : Program} {w : World} {A : Around} {E : Value → Shared → Prop} {s : Shared} {v : Value} {o : Obj} {H : Heap → Prop} {Q : Value → Shared → Prop} (B : Begins v o H) (h1 : H s.heap)
    (h : ∀ h', IsEnum h' (s.heap.objs.size + 1) s.heap.objs.size 0 .none → h'.get? s.heap.objs.size = some o → (∀ b o, s.heap.get? b = some o → h'.get? b = some o) → Q (.ref (s.heap.objs.size + 1)) { s with heap := h' }) :
    wpAny (model prog w) A (call (.type "enumerate") [v]) Q E s := by
  refine callType_new F.called_enumerate (by decide) (F.typeCall_enumerate_1 _) (F.newCall_enumerate_1 _) (fun obj => F.args_object_init_2 obj _) F.entry_enumerate_new (meets_enum1 B) ⟨h1, ?_⟩
  have hz : (s.heap.push o).objs.size = s.heap.objs.size + 1 := Heap.size_push ..
  show _ ∧ _
  rw [hz]
  have he : IsEnum ((s.heap.push o).push { cls := .type "enumerate", data := .fields #[.none, .bool false, .ref s.heap.objs.size, rawInt 0, .none, .none] }) (s.heap.objs.size + 1) s.heap.objs.size 0 .none := by
    have := Heap.get?_push_size (s.heap.push o) (o := { cls := .type "enumerate", data := .fields #[.none, .bool false, .ref s.heap.objs.size, rawInt 0, .none, .none] }) rfl
    rw [hz] at this; exact this
  exact ⟨⟨_, he, rfl⟩, h _ he (Heap.get?_push_of_some _ (Heap.get?_push_size _ B.free)) fun b o x => Heap.get?_push_of_some _ (Heap.get?_push_of_some _ x)⟩
/-- the tuple at a, each item in a new pair -/
def Itet (K : PySem.W.Frag) (a : Addr) : It :=
  ⟨fun i H => ∃ (xs : List V) (x : V), SqT K H a xs ∧ xs[i]? = some x, fun i H v H' => ∃ T x, v = .ref T ∧ H T = none ∧ H' = upd H T (.tup [.int (i : Nat), x]) ∧ ∀ xs, SqT K H a xs → xs[i]? = some x, fun i H => ∃ xs : List V, SqT K H a xs ∧ xs.length = i⟩
theorem turn_enumT {P : Program} {w : World} {K : PySem.W.Frag} {elts : List Expr} {kk : Nat} {tpos : Pos} (a e it : Addr) :
    Turn P w K (.Tuple elts kk tpos) (Itet K a) [e, it] e (fun i h => (∃ old, IsEnum h e it ((i : Nat) : Int) old) ∧ h.IsTupleIter it a i ∧ e ≠ it) where
  mem := by simp
  obj := fun i h st b hb => by
    obtain ⟨⟨old, he⟩, ⟨o, ho, hc, hd⟩, _⟩ := st
    rcases (show b = e ∨ b = it by simpa using hb) with z | z
    · rw [z]; exact ⟨_, he, fun v q => nomatch q⟩
    · rw [z]; exact ⟨o, ho, fun v q => by rw [hd] at q; cases q⟩
  keep := fun i h h' st k => let ⟨⟨old, he⟩, hi, hne⟩ := st; ⟨⟨old, k e (by simp) _ he⟩, hi.at fun o q => k it (by simp) o q, hne⟩
  item := by
    intro X hP hw hK hc i pins s σ H E I hf st hg
    subst hP hw hK
    obtain ⟨⟨old, he⟩, hit, hne⟩ := st
    obtain ⟨xs, x, hq, hx⟩ := hg
    obtain ⟨its, rv, p, hz⟩ := I.tuple hq
    obtain ⟨u, hu, ru⟩ := rv.get hx
    have hel : e < s.heap.objs.size := Heap.lt_size he
    have hil : it < s.heap.objs.size := by obtain ⟨_, q, _⟩ := hit; exact Heap.lt_size q
    have hpt : s.heap.IsTuple a its.toArray := p
    have nai : a ≠ it := fun z => by
      obtain ⟨o1, q1, c1, _⟩ := hpt
      obtain ⟨o2, q2, c2, _⟩ := hit
      rw [z, q2] at q1; cases q1; rw [c1] at c2; exact absurd c2 (by decide)
    have nae : e ≠ a := fun z => by
      obtain ⟨o1, q1, c1, _⟩ := hpt
      rw [← z, he] at q1; cases q1; exact absurd (show Value.type "enumerate" = Value.type "tuple" from c1) (by decide)
    have hlt : i < its.toArray.size := by
      have := (List.getElem?_eq_some_iff.mp hu).1
      simpa using this
    refine wpAny_pyNext_enum_itemD (Draws.tuple (A := X.A.in1) (by simp [I.ok.hd hc]) it a nai its.toArray) he ⟨hit, hpt⟩ hlt hne (by simp [hne, nae]) fun y h' tk hy ho hst hT hsz hk => ?_
    have ey : y = u := by
      have e1 : its.toArray[i]? = some u := by simpa using hu
      rw [e1] at hy; exact (Option.some.inj hy).symm
    subst ey
    refine ⟨_, rfl, wpAny_letOwnedTupleGo_enum (s := { s with heap := h', toks := tk + 1 }) ho fun h'' he' sb => ?_⟩
    have hT2 : h''.get? s.heap.objs.size = some { cls := .type "tuple", data := .seq #[.int i tk, y] } := (sb.2 _ (Nat.ne_of_gt hel)).trans hT
    have new : ObjOk X.prog X.w (upd H s.heap.objs.size (.tup [.int (i : Nat), x])) h'' s.heap.objs.size (.tup [.int (i : Nat), x]) :=
      ⟨by show 2 ≤ sizeLine; decide, [.int i tk, y], .cons ⟨_, rfl⟩ (.cons ru .nil), ⟨_, hT2, rfl, _, rfl⟩⟩
    have I1 : Inv X pins σ (upd H s.heap.objs.size (.tup [.int (i : Nat), x])) { s with heap := h'', toks := tk + 1 } :=
      I.turnedNew (ch := [e, it]) (fun b ob hb q => (sb.2 b (fun z => hb (by simp [z]))).trans (hk b ob (fun z => hb (by simp [z])) (fun z => hb (by simp [z])) q)) hf (Nat.le_refl _) new
    refine ⟨.ref s.heap.objs.size, _, I1, rfl, ⟨_, x, rfl, I.hok.fresh (Nat.le_refl _), rfl, fun ys hy' => ?_⟩, ⟨⟨y, ?_⟩, hst.1.at fun o q => (sb.2 it (Ne.symm hne)).trans q, hne⟩, fun b hb => ?_⟩
    · rw [I.tuple_inj hy' hq]; exact hx
    · rw [show ((i + 1 : Nat) : Int) = (i : Int) + 1 by omega]; exact he'
    · have hb' : b < s.heap.objs.size := by
        rcases (show b = e ∨ b = it by simpa using hb) with z | z
        · rw [z]; exact hel
        · rw [z]; exact hil
      rw [upd_ne (Nat.ne_of_lt hb')]
      exact (hf b hb).1
  done := by
    intro X hP hw hK hc i pins s σ H E I hf st hg
    subst hP hw hK
    obtain ⟨⟨old, he⟩, hit, hne⟩ := st
    obtain ⟨xs, hq, hx⟩ := hg
    obtain ⟨its, rv, p, hz⟩ := I.tuple hq
    obtain ⟨f0, f1, f2, f3, f4, f5⟩ := hf it (by simp)
    have hl := rv.length
    have hpt : s.heap.IsTuple a its.toArray := p
    have nai : a ≠ it := fun z => by
      obtain ⟨o1, q1, c1, _⟩ := hpt
      obtain ⟨o2, q2, c2, _⟩ := hit
      rw [z, q2] at q1; cases q1; rw [c1] at c2; exact absurd c2 (by decide)
    have ei : i = its.toArray.size := by rw [List.size_toArray]; omega
    subst ei
    exact wpAny_pyNext_enum_endD (Draws.tuple (A := X.A.in1) (by simp [I.ok.hd hc]) it a nai its.toArray) he ⟨hit, hpt⟩ fun h' eb => ⟨rfl, I.turned (t' := s.toks) (fun b o hb q => eb b o hb q) f0 f1 f3 f4 f5⟩
  self := fun A i s Q E st h => let ⟨⟨_, he⟩, _⟩ := st; wpAny_pyIter_enum he h
def iEnumZ (K : PySem.W.Frag) (ta : TA) : TI := fun σ H R => ta σ H fun vs H1 => ∃ a, vs = [.ref a] ∧ ((∃ xs, SqL K H1 a xs ∧ R (Ite K a) H1) ∨ (∃ xs, SqT K H1 a xs ∧ R (Itet K a) H1))
theorem pi_enumZ {X : Cx} {e : Expr} {ta : TA} {p pos tpos : Pos} {elts : List Expr} {kk : Nat} (hg : Gl X "enumerate") (hm : X.mg "enumerate" = none) (ha : PA X [e] ta) (hs : starEach [e] X.env = [(false, eval e X.env)] := by rfl) :
    PI X (.Tuple elts kk tpos) (.Call (.Name "enumerate" p) [e] [] pos) (iEnumZ X.K ta) := by
  refine ⟨fun pins s σ H R I h => Call_ (ld_blt I hg hm boot_enumerate (PyProof.Rows.callWith_type1 (thn (ha.run pos pins s σ H _ I h) fun us s1 ⟨vs, H1, I1, r1, q1⟩ => ?_) hs rfl))⟩
  obtain ⟨a, ex, q⟩ := q1
  subst ex
  cases r1 with
  | cons r rr =>
    cases rr
    cases r
    have fp : ∀ b ∈ [s1.heap.objs.size + 1, s1.heap.objs.size], FpOk X pins H1 b := fun b hb => by
      have hle : s1.heap.objs.size ≤ b := by
        rcases (show b = s1.heap.objs.size + 1 ∨ b = s1.heap.objs.size by simpa using hb) with z | z <;> omega
      exact I1.fpOk hle (I1.hok.fresh hle)
    rcases q with ⟨xs, hq, q⟩ | ⟨xs, hq, q⟩
    · obtain ⟨its, rv, p', hz⟩ := I1.list hq
      refine enum1 (begins_list a its.toArray) p'.isList fun h' he hit hk => wpAny_pyIter_enum he ?_
      exact ⟨s1.heap.objs.size + 1, _, _, _, H1, rfl, I1.kept (t' := s1.toks) hk, turn_enum a (s1.heap.objs.size + 1) s1.heap.objs.size, ⟨⟨.none, he⟩, ⟨_, hit, rfl, rfl⟩, Nat.succ_ne_self _⟩, fp, q⟩
    · obtain ⟨its, rv, p', hz⟩ := I1.tuple hq
      refine enum1 (begins_tuple a its.toArray) (show s1.heap.IsTuple a its.toArray from p') fun h' he hit hk => wpAny_pyIter_enum he ?_
      exact ⟨s1.heap.objs.size + 1, _, _, _, H1, rfl, I1.kept (t' := s1.toks) hk, turn_enumT a (s1.heap.objs.size + 1) s1.heap.objs.size, ⟨⟨.none, he⟩, ⟨_, hit, rfl, rfl⟩, Nat.succ_ne_self _⟩, fp, q⟩
end
end DX

set_option maxHeartbeats 3200000
namespace DX
open PySem PySem.Spec PyProof.Rows L2
/-! ### enumerate as data -/
def enl (ds : List D) : List D := ds.mapIdx fun i d => .tuple [.int (i : Nat), d]
theorem enl_get (ds : List D) (i : Nat) : (enl ds)[i]? = (ds[i]?).map fun d => .tuple [.int (i : Nat), d] := by
  unfold enl; rw [List.getElem?_mapIdx]
def enD (d : D) : Option (List D) := (seqD d).map enl
def iEnm (m : M D) : M (List D) := fun ρ => bnd (m ρ) fun d ρ1 => lft (enD d) ρ1
theorem itr_enL {K : KC} {F : Hp} {a : Addr} {xs : List V} {ds : List D} (h : LsAt K.K F a xs) (r : RpA K F xs ds) : ItR true K F (Ite K.K a) (enl ds) := by
  intro F' H' s1 s2
  have hq : SqL K.K H' a xs := ((h.mono s1).mono s2).sq
  have hl : (enl ds).length = ds.length := by simp [enl]
  refine ⟨⟨xs, hq, by rw [r.length, hl]; exact Nat.le_refl _⟩, fun i x ex => ?_⟩
  rw [enl_get] at ex
  cases ed : ds[i]? with
  | none => rw [ed] at ex; cases ex
  | some d =>
    rw [ed] at ex; cases ex
    obtain ⟨v0, e0, r0⟩ := r.get ed
    refine ⟨⟨xs, v0, hq, e0⟩, fun v H'' hy => ?_⟩
    obtain ⟨T, x, rfl, nT, rfl, hy⟩ := hy
    have e1 := hy xs hq
    rw [e0] at e1
    cases e1
    exact ⟨F', Grow.made s2 nT, .inr ⟨rfl, T, _, _, rfl, upd_same, .cons (.int _) (.cons (r0.mono s1) .nil), rfl⟩⟩
theorem itr_enT {K : KC} {X : Cx} {F : Hp} {a : Addr} {xs : List V} {ds : List D} (h : Rd F a (.tup xs)) (r : RpA K F xs ds) : ItR true K F (Itet X.K a) (enl ds) := by
  intro F' H' s1 s2
  have hq : SqT X.K H' a xs := .inl (rd_mono s2 (rd_mono s1 h))
  have hl : (enl ds).length = ds.length := by simp [enl]
  refine ⟨⟨xs, hq, by rw [r.length, hl]⟩, fun i x ex => ?_⟩
  rw [enl_get] at ex
  cases ed : ds[i]? with
  | none => rw [ed] at ex; cases ex
  | some d =>
    rw [ed] at ex; cases ex
    obtain ⟨v0, e0, r0⟩ := r.get ed
    refine ⟨⟨xs, v0, hq, e0⟩, fun v H'' hy => ?_⟩
    obtain ⟨T, x, rfl, nT, rfl, hy⟩ := hy
    have e1 := hy xs hq
    rw [e0] at e1
    cases e1
    exact ⟨F', Grow.made s2 nT, .inr ⟨rfl, T, _, _, rfl, upd_same, .cons (.int _) (.cons (r0.mono s1) .nil), rfl⟩⟩
section
variable {g : GC} {s : SS} {k : Nat} {W : WX} {pin : List Nat} {X : Cx} {pos p tpos : Pos} {elts : List Expr} {kk : Nat}
theorem di_enum (ok : Ok g s k W X) (bf : BF g) {e : Expr} {m : M D} (h : DM g W X e m) (hg : gloB s.sc "enumerate" = true := by decide +kernel) (hs : starEach [e] X.env = [(false, eval e X.env)] := by rfl) :
    DI true g W X (.Tuple elts kk tpos) (.Call (.Name "enumerate" p) [e] [] pos) (iEnm m) := by
  obtain ⟨t, pt, q⟩ := da_cons h da_nil (hs := by rw [hs]; rfl)
  refine ⟨_, pi_enumZ (ok.glo hg) (by rw [ok.hmg]; exact bf.enumerate) pt hs, fun B F H σ ρ R E h => ?_⟩
  refine q B F H σ ρ _ E ?_
  unfold iEnm at h
  unfold mCons mNil
  cases e : m ρ with
  | bad => rw [e] at h; exact h
  | exc x ρ1 => rw [e] at h; exact h
  | ok d ρ1 =>
    rw [e] at h
    simp only [bnd_ok] at h ⊢
    intro vs F' H' g' E' r
    obtain ⟨v, rfl, rv⟩ := rp1 r
    cases rv with
    | lst h1 z1 r1 => exact ⟨_, rfl, .inl ⟨_, by rw [ok.hK]; exact (h1.mono E'.sub).sq, h _ F' H' g' E' (by rw [ok.hK]; exact itr_enL h1 r1)⟩⟩
    | tup h1 n1 z1 r1 => exact ⟨_, rfl, .inr ⟨_, .inl (.inr ⟨_, E'.sub _ _ h1⟩), h _ F' H' g' E' (itr_enT (.inr ⟨_, h1⟩) r1)⟩⟩
    | _ => exact False.elim h
end
/-! ### set(t), t a tuple -/
section
variable {P : Program} {w : World} {A : Around} {E : Value → Shared → Prop} {s : Shared}
abbrev setOb (w : World) : Obj := { cls := .type "set", dict := none, data := .set #[] 0 (.fresh 0 0 (!w.params.followText "set-order")) }
abbrev tupIt (l : Addr) : Obj := { cls := .type "tuple_iterator", data := .fields #[.ref l, .int 0 0] }
theorem set_of_tuple {l : Addr} {items : Array Value} {Φ : Heap → Prop} {Q : Value → Shared → Prop} (hl : s.heap.IsTuple l items)
    (loop : ∀ R : Result → Shared → Prop, (∀ s' : Shared, s'.gens = s.gens → s'.drawn = s.drawn → s'.os = s.os → Φ s'.heap → (∀ b o, s.heap.get? b = some o → s'.heap.get? b = some o) → R (.ok (.ret .none)) s') →
      codeAny (model P w) A.in1.in1 (.builtin "set.update.loop" ⟨[.ref s.heap.objs.size, .ref (s.heap.push (setOb w)).objs.size], []⟩) R { s with heap := (s.heap.push (setOb w)).push (tupIt l) })
    (h : ∀ (h' : Heap) (tk : Nat), Φ h' → (∀ b o, s.heap.get? b = some o → h'.get? b = some o) → Q (.ref s.heap.objs.size) { s with heap := h', toks := tk }) :
    wpAny (model P w) A (call (.type "set") [.ref l]) Q E s := by
  obtain ⟨c, tl, hmro⟩ := F.called_set.mro
  have hmade := F.called_set.made
  have hsub := F.called_set.sub
  have h1 := F.called_set.notType
  have h2 := F.called_set.canCreate
  have hct := F.typeCall_set_1 (.ref l)
  have hli := F.called_set.init.lookup
  have hbi := F.called_set.init.bind (.ref s.heap.objs.size)
  refine wpAny_call (codeAny_of_tree (?_ : wpAny _ _ (callAny (.type "set") _) _ _ _))
  refine wpAny_pure ⟨Code.quiet_builtin _ (by decide +kernel), codeAny_builtin F.entry_type_call ?_⟩
  rw [Around.under_plain (weight_type_call_type "set" [.ref l] []) rfl]
  repeat (any_goals (first | assumption | wp_step))
  refine codeAny_mono (code_set_led1 (.ref l) (E := E) (Q₁ := fun obj s₁ => obj = .ref s.heap.objs.size ∧ s₁ = { s with heap := s.heap.push (setOb w) }) ⟨rfl, rfl⟩) fun r s₁ hr => ?_
  cases r with
  | error e => exact hr
  | ok fl =>
    cases fl with
    | ret obj =>
      obtain ⟨rfl, rfl⟩ := hr
      have hS : (s.heap.push (setOb w)).get? s.heap.objs.size = some (setOb w) := Heap.get?_push_size _ rfl
      have hT : Shared.TypeIs { s with heap := s.heap.push (setOb w) } (.ref s.heap.objs.size) "set" := ⟨_, hS, rfl⟩
      repeat (any_goals (first | assumption | wp_step))
      refine codeAny_mono (codeAny_call_builtin (R := wants (fun r s₂ => r = .none ∧ ∃ h' tk, s₂ = { s with heap := h', toks := tk } ∧ Φ h' ∧ (∀ b o, s.heap.get? b = some o → h'.get? b = some o)) E) F.called_set.init.plain F.entry_set_init (check_set_init_1 hT ?_)) fun r₂ s₂ hr₂ => ?_
      · obtain ⟨⟨ocls, odict, odata, oslots⟩, hol, hcl, nl, hdl⟩ := hl
        simp only at hcl hdl
        subst hcl hdl
        have hol' : (s.heap.push (setOb w)).get? l = some { cls := .type "tuple", dict := odict, data := .seq items nl, slots := oslots } := Heap.get?_push_of_some _ hol
        have hsls := F.sub_tuple_set
        have hslf := F.sub_tuple_frozenset
        have hne : (Value.type "tuple" == Value.type "dict") = false := by decide
        have hl1 : (s.heap.push (setOb w)).IsTuple l items := ⟨_, hol', rfl, nl, rfl⟩
        unfold Builtin.«set.__init__» noKeywords Builtin.Frozenset.updateFrom
        generalize hPI : pyIter = PI
        wp_walk
        subst hPI
        refine wpAny_pyIter_tuple hl1 (wpAny_bind (wpAny_runValue (loop _ fun s' eg ed eo hΦ hk => ?_)))
        obtain ⟨h', g2, d', tk', os'⟩ := s'
        subst eg ed eo
        exact wpAny_pure (wpAny_pure ⟨rfl, h', tk', rfl, hΦ, hk⟩)
      · cases r₂ with
        | error e => exact hr₂
        | ok fl₂ =>
          cases fl₂ with
          | ret r =>
            obtain ⟨rfl, h', tk, rfl, hΦ, hk'⟩ := hr₂
            repeat (any_goals (first | assumption | wp_step))
            exact h _ _ hΦ hk'
          | _ => exact hr₂.elim
    | _ => exact hr.elim
end
end DX

set_option maxHeartbeats 3200000
namespace DX
open PySem PySem.Spec PyProof.Rows L2
/-! ### len(set(x)): x a list or a tuple, of ints or of tuples of ints -/
def stepT (acc : List (List Int)) (k : List Int) : List (List Int) := if k ∈ acc then acc else acc ++ [k]
def dedupT (ks : List (List Int)) : List (List Int) := ks.foldl stepT []
theorem stepT_mem {acc : List (List Int)} {k x : List Int} : x ∈ stepT acc k ↔ x ∈ acc ∨ x = k := by
  unfold stepT
  split
  · rename_i h
    exact ⟨.inl, fun z => z.elim id fun e => e ▸ h⟩
  · simp
theorem dedupT_mem' : ∀ (ks acc : List (List Int)) (x : List Int), x ∈ ks.foldl stepT acc ↔ x ∈ acc ∨ x ∈ ks
  | [], acc, x => by simp
  | k :: ks, acc, x => by
    rw [List.foldl_cons, dedupT_mem' ks, stepT_mem, List.mem_cons, or_assoc]
theorem dedupT_mem {ks : List (List Int)} {x : List Int} : x ∈ dedupT ks ↔ x ∈ ks := by unfold dedupT; rw [dedupT_mem']; simp
theorem stepT_nodup {acc : List (List Int)} {k : List Int} (h : acc.Nodup) : (stepT acc k).Nodup := by
  unfold stepT
  split
  · exact h
  · rename_i hk
    rw [List.nodup_append]
    exact ⟨h, by simp, fun a ha b hb e => by simp at hb; subst hb; subst e; exact hk ha⟩
theorem dedupT_nodup' : ∀ (ks acc : List (List Int)), acc.Nodup → (ks.foldl stepT acc).Nodup
  | [], acc, h => h
  | k :: ks, acc, h => dedupT_nodup' ks _ (stepT_nodup h)
theorem dedupT_nodup (ks : List (List Int)) : (dedupT ks).Nodup := dedupT_nodup' ks [] List.nodup_nil
theorem same_len {α : Type} [DecidableEq α] {a b : List α} (ha : a.Nodup) (hb : b.Nodup) (h : ∀ x, x ∈ a ↔ x ∈ b) : a.length = b.length :=
  ((List.perm_ext_iff_of_nodup ha hb).mpr h).length_eq
theorem dedupT_len (ks : List (List Int)) : (dedupT ks).length ≤ ks.length := by
  have : ∀ (ks acc : List (List Int)), (ks.foldl stepT acc).length ≤ acc.length + ks.length := by
    intro ks
    induction ks with
    | nil => intro acc; simp
    | cons k ks ih =>
      intro acc
      have h1 := ih (stepT acc k)
      have h2 : (stepT acc k).length ≤ acc.length + 1 := by unfold stepT; split <;> simp
      rw [List.foldl_cons, List.length_cons]; omega
  simpa [dedupT] using this ks []
/-- all different -/
theorem dedupT_all {ks : List (List Int)} : (dedupT ks).length = ks.length ↔ ks.Nodup := by
  constructor
  · intro h
    have : ∀ (ks acc : List (List Int)), (ks.foldl stepT acc).length = acc.length + ks.length → acc.Nodup → (acc ++ ks).Nodup := by
      intro ks
      induction ks with
      | nil => intro acc _ h; simpa using h
      | cons k ks ih =>
        intro acc h ha
        rw [List.foldl_cons, List.length_cons] at h
        have up : ∀ (ks acc : List (List Int)), (ks.foldl stepT acc).length ≤ acc.length + ks.length := by
          intro ks
          induction ks with
          | nil => intro acc; simp
          | cons k ks ih =>
            intro acc
            have h1 := ih (stepT acc k)
            have h2 : (stepT acc k).length ≤ acc.length + 1 := by unfold stepT; split <;> simp
            rw [List.foldl_cons, List.length_cons]; omega
        have hk : k ∉ acc := fun hk => by
          have e : stepT acc k = acc := by unfold stepT; rw [if_pos hk]
          rw [e] at h
          have := up ks acc
          omega
        have e : stepT acc k = acc ++ [k] := by unfold stepT; rw [if_neg hk]
        rw [e] at h
        have := ih (acc ++ [k]) (by rw [h]; simp; omega) (by rw [← e]; exact stepT_nodup ha)
        simpa using this
    simpa using this ks [] (by simpa [dedupT] using h) List.nodup_nil
  · intro h
    exact same_len (dedupT_nodup ks) h fun x => dedupT_mem
theorem nx1 {a b : Nat} (h : a < b) : a ≠ b + 1 := Nat.ne_of_lt (Nat.lt_succ_of_lt h)
theorem nx2 {a b : Nat} (h : a < b) : ¬ (b = b + 1 ∨ b = a) := fun z => z.elim (fun e => absurd e (Nat.ne_of_lt (Nat.lt_succ_self b))) fun e => absurd e (Nat.ne_of_gt h)
theorem nx3 {a b : Nat} (h : a < b) : ¬ (a = b ∨ a = b + 1) := fun z => z.elim (fun e => absurd e (Nat.ne_of_lt h)) fun e => absurd e (nx1 h)
theorem nx4 {a b : Nat} (h : b ≤ a) (g : a < b) : False := absurd g (Nat.not_lt.mpr h)
section
variable {X : Cx}
def tLenX (K : PySem.W.Frag) (ta : TE) : TE := fun σ H Q => ta σ H fun x H1 => ∃ l, x = .ref l ∧
  ((∃ ns : List Int, (SqL K H1 l (ns.map V.int) ∨ SqT K H1 l (ns.map V.int)) ∧ ns.length ≤ 4000 ∧ Q (.int ((dedupI ns).length : Nat)) H1) ∨
   (∃ ks : List (Addr × List Int), (SqL K H1 l (ks.map fun p => V.ref p.1) ∨ SqT K H1 l (ks.map fun p => V.ref p.1)) ∧ (∀ p ∈ ks, SqT K H1 p.1 (p.2.map V.int)) ∧ ks.length < 64 ∧ Q (.int ((dedupT (ks.map (·.2))).length : Nat)) H1))
theorem got_len {P : Program} {w : World} {h : Heap} {a : Addr} {ks L : List (Addr × List Int)} {es : Array (Int × Value)} {ep : Nat} {t : SetTable} (R : SetTR P w h a L es ep t) (g : Got ks ks.length L) : L.length = (dedupT (ks.map (·.2))).length := by
  have : (L.map (·.2)).length = (dedupT (ks.map (·.2))).length := same_len R.nd (dedupT_nodup _) fun x => by
    rw [dedupT_mem]
    constructor
    · intro hx
      obtain ⟨p, hp, rfl⟩ := List.mem_map.mp hx
      have := g.sub p hp
      rw [List.take_length] at this
      exact List.mem_map_of_mem this
    · intro hx
      obtain ⟨p, hp, rfl⟩ := List.mem_map.mp hx
      exact g.all p (by rw [List.take_length]; exact hp)
  rw [← this, List.length_map]
theorem pe_lenX {a : Expr} {ta : TE} {p p2 q pos : Pos} (hg : Gl X "len") (hm : X.mg "len" = none) (hg2 : Gl X "set") (hm2 : X.mg "set" = none) (ha : PE X a ta) (hc : X.calm = true) (hu : X.A.units + 65 < cLine)
    (na : starEach [a] X.env = (false, eval a X.env) :: starEach [] X.env := by rfl) : PE X (.Call (.Name "len" p) [.Call (.Name "set" p2) [a] [] q] [] pos) (tLenX X.K ta) := by
  refine ⟨fun pins s σ H Q I h => ?_⟩
  refine Call_ (ld_blt I hg hm boot_len (PyProof.Rows.callWith_builtin1 (PyProof.Rows.args_cons ?_ rfl) rfl rfl))
  refine Call_ (ld_blt I hg2 hm2 boot_set ?_)
  refine PyProof.Rows.callWith_type1 (PyProof.Rows.args_cons (thn (ha.run pins s σ H _ I h) fun v s1 ⟨x, H1, I1, r1, q1⟩ => PyProof.Rows.args_nil ?_) na) na rfl
  obtain ⟨l, rfl, q1⟩ := q1
  cases r1
  have hd0 := I1.ok.hd hc
  -- behind the set, whose entries are es
  have fin : ∀ {h' : Heap} {tk : Nat} {o : Obj} {es : Array (Int × Value)} {ep : Nat} {t : SetTable} {k : Nat}, h'.get? s1.heap.objs.size = some o → o.ExactSet → o.data = .set es ep t → t.fits es.size = true → es.size = k → k ≤ 4000 → (∀ b ob, s1.heap.get? b = some ob → h'.get? b = some ob) → Q (.int (k : Nat)) H1 →
      wpAny (model X.prog X.w) X.A (call (.builtin "len") [.ref s1.heap.objs.size]) (fun v s' => ∃ x H', Inv X pins σ H' s' ∧ RelV x v ∧ Q x H') X.xe { s1 with heap := h', toks := tk } := fun {h' tk o es ep t k} ho hex hd hf hn hk kp hQ => by
    have I2 : Inv X pins σ H1 { s1 with heap := h', toks := tk } := I1.kept fun b ob e => kp b ob e
    exact call_len_set ho hex hd hf (by rw [hn]; omega) ⟨.int k, H1, I2.tok _, ⟨_, by rw [hn]⟩, hQ⟩
  rcases q1 with ⟨ns, hq, hl, q1⟩ | ⟨ks, hq, hk, hl, q1⟩
  · have hle := dedupI_len ns
    rcases hq with hq | hq
    · obtain ⟨its, r, pl, hz⟩ := I1.list hq
      have hlen : its.toArray.size = ns.length := by rw [List.size_toArray, ← r.length, List.length_map]
      refine call_set_list hd0 pl.isList (by simpa using intsAre_vals r) (by rw [hlen]; unfold scanBound; omega) fun h' tk hS hk => PyProof.Rows.args_nil ?_
      rw [hlen, firstMet_all] at hS
      obtain ⟨o, es, ep, t, ho, hex, hd, _, _, _, hf, hn⟩ := hS
      exact fin ho hex hd hf hn (by omega) (fun b ob e => hk b ob (Heap.lt_size e) e) q1
    · obtain ⟨its, r, pl, hz⟩ := I1.tuple hq
      have hit : s1.heap.IsTuple l its.toArray := pl
      have hlen : its.toArray.size = ns.length := by rw [List.size_toArray, ← r.length, List.length_map]
      have hi : PyProof.Rows.IntsAre its.toArray.toList ns := by simpa using intsAre_vals r
      have hlS : l < s1.heap.objs.size := by obtain ⟨_, e, _⟩ := hit; exact Heap.lt_size e
      refine set_of_tuple (Φ := fun h' => h'.SetOf (intKind X.prog X.w) s1.heap.objs.size (fun k' => (firstMet (fun i => ns.getD i 0) its.toArray.size).any (· == k')) (firstMet (fun i => ns.getD i 0) its.toArray.size).length) hit (fun R hR => ?_) fun h' tk hS hk => PyProof.Rows.args_nil ?_
      · have hneI : l ≠ (s1.heap.push (setOb X.w)).objs.size := by rw [Heap.size_push]; exact nx1 hlS
        have hSf : s1.heap.objs.size ∉ [(s1.heap.push (setOb X.w)).objs.size, l] := by
          rw [Heap.size_push]; simp only [List.mem_cons, List.not_mem_nil, or_false]; exact nx2 hlS
        refine PyProof.Rows.codeAny_set_update_loopS ((Walks.tuple (by simp [hd0]) _ l hneI its.toArray).toS) s1.heap.objs.size hSf (fun i => ns.getD i 0) (fun i v hv => PyProof.Rows.IntsAre.int_at hi i v (by rw [Array.getElem?_toList]; exact hv)) (by rw [hlen]; unfold scanBound; omega) (its.toArray.size - 0) 0 _ (by omega) (Nat.zero_le _)
          ⟨⟨_, Heap.get?_push_size _ rfl, rfl, rfl⟩, (Heap.IsTuple.push (Heap.IsTuple.push hit _) _)⟩ ?_ ?_
        · have hget : ((s1.heap.push (setOb X.w)).push (tupIt l)).get? s1.heap.objs.size = some (setOb X.w) := Heap.get?_push_of_some _ (Heap.get?_push_size _ rfl)
          exact PyProof.Rows.SetOf_congr ((PyProof.Rows.setObjOf_fresh (knd := intKind X.prog X.w) _).setOf hget (by unfold scanBound; omega)) (fun _ => rfl) rfl
        · intro s' hm hS'
          refine hR s' hm.gens hm.drawn hm.os hS' fun b o e => ?_
          have hb0 : b < s1.heap.objs.size := Heap.lt_size e
          exact hm.heap b o (by rw [Heap.size_push]; simp only [List.mem_cons, List.not_mem_nil, or_false]; exact nx3 hb0) (Heap.get?_push_of_some _ (Heap.get?_push_of_some _ e))
      · rw [hlen, firstMet_all] at hS
        obtain ⟨o, es, ep, t, ho, hex, hd, _, _, _, hf, hn⟩ := hS
        exact fin ho hex hd hf hn (by omega) hk q1
  · have hle := dedupT_len (ks.map (·.2))
    rw [List.length_map] at hle
    have hT : ∀ p ∈ ks, IsT X.prog X.w s1.heap p.2 p.1 := fun p hp => I1.isT (hk p hp)
    rcases hq with hq | hq
    · obtain ⟨its, r, pl, hz⟩ := I1.list hq
      refine call_set_tups ks hd0 pl.isList (by simpa using refs_of_vals r) hT hl (by omega) fun h' tk L es ep t R g kp => PyProof.Rows.args_nil ?_
      obtain ⟨o, ho, hex, hd⟩ := R.ob
      exact fin ho hex hd (SetTR.fits (s := { s1 with heap := h' }) R) ((SetTR.size (s := { s1 with heap := h' }) R).trans (got_len R g)) (by omega) kp q1
    · obtain ⟨its, r, pl, hz⟩ := I1.tuple hq
      have hit : s1.heap.IsTuple l its.toArray := pl
      have ei : its.toArray.toList = ks.map fun p => Value.ref p.1 := by simpa using refs_of_vals r
      have hlen : its.toArray.size = ks.length := by rw [← Array.length_toList, ei, List.length_map]
      have hlS : l < s1.heap.objs.size := by obtain ⟨_, e, _⟩ := hit; exact Heap.lt_size e
      have none_of : ∀ b, s1.heap.objs.size ≤ b → s1.heap.get? b = none := fun b hb => by
        cases q : s1.heap.get? b with
        | none => rfl
        | some o => exact (nx4 hb (Heap.lt_size q)).elim
      refine set_of_tuple (Φ := fun h' => ∃ L es ep t, SetTR X.prog X.w h' s1.heap.objs.size L es ep t ∧ Got ks ks.length L) hit (fun R hR => ?_) fun h' tk hS kp => PyProof.Rows.args_nil ?_
      · have hneI : l ≠ (s1.heap.push (setOb X.w)).objs.size := by rw [Heap.size_push]; exact nx1 hlS
        have hSf : s1.heap.objs.size ∉ [(s1.heap.push (setOb X.w)).objs.size, l] := by
          rw [Heap.size_push]; simp only [List.mem_cons, List.not_mem_nil, or_false]; exact nx2 hlS
        refine set_update_tups ((Walks.tuple (by simp [hd0]) _ l hneI its.toArray).toS) s1.heap.objs.size hSf ks hlen hl (fun i v hv => ?_) s1.heap hT (none_of _ (Nat.le_refl _)) (fun b hb => none_of b (by rw [List.mem_singleton.mp hb, Heap.size_push]; exact Nat.le_succ _)) (by show X.A.units + 1 + 1 + 1 < cLine; omega) (its.toArray.size - 0) 0 _ (by omega) (Nat.zero_le _)
          ⟨⟨_, Heap.get?_push_size _ rfl, rfl, rfl⟩, (Heap.IsTuple.push (Heap.IsTuple.push hit _) _)⟩ (fun b o e => Heap.get?_push_of_some _ (Heap.get?_push_of_some _ e)) ?_ ?_
        · have q : its.toArray.toList[i]? = some v := by rw [Array.getElem?_toList]; exact hv
          rw [ei, List.getElem?_map] at q
          cases hq' : ks[i]? with
          | none => rw [hq'] at q; cases q
          | some p => rw [hq'] at q; exact ⟨p, rfl, (Option.some.inj q).symm⟩
        · have hget : ((s1.heap.push (setOb X.w)).push (tupIt l)).get? s1.heap.objs.size = some (setOb X.w) := Heap.get?_push_of_some _ (Heap.get?_push_size _ rfl)
          exact ⟨[], #[], 0, _, setTR_fresh hget, Got.zero ks⟩
        · intro s' L es ep t hm hS' g' kp
          rw [hlen] at g'
          exact hR s' hm.gens hm.drawn hm.os ⟨L, es, ep, t, hS', g'⟩ kp
      · obtain ⟨L, es, ep, t, R, g⟩ := hS
        obtain ⟨o, ho, hex, hd⟩ := R.ob
        exact fin ho hex hd (SetTR.fits (s := { s1 with heap := h' }) R) ((SetTR.size (s := { s1 with heap := h' }) R).trans (got_len R g)) (by omega) kp q1
end
/-! as data -/
def tupsOf : List D → Option (List (List Int))
  | [] => some []
  | .tuple ds :: r => (match intsOf ds, tupsOf r with
    | some k, some ks => some (k :: ks)
    | _, _ => none)
  | _ :: _ => none
def lenX (ds : List D) : Option D := match intsOf ds with
  | some ns => if ns.length ≤ 4000 then some (.int ((dedupI ns).length : Nat)) else none
  | none => (match tupsOf ds with
    | some ks => if ks.length < 64 then some (.int ((dedupT ks).length : Nat)) else none
    | none => none)
def fLenX (d : D) : Option D := (seqD d).bind lenX
theorem tupsOf_at {K : KC} {F : Hp} : ∀ {ds : List D} {vs : List V} {ks : List (List Int)}, RpA K F vs ds → tupsOf ds = some ks → ∃ ps : List (Addr × List Int), vs = ps.map (fun p => V.ref p.1) ∧ ps.map (·.2) = ks ∧ ∀ p ∈ ps, Rd F p.1 (.tup (p.2.map V.int))
  | [], _, ks, .nil, h => by simp [tupsOf] at h; subst h; exact ⟨[], rfl, rfl, fun p hp => by cases hp⟩
  | d :: ds, _, ks, .cons (v := v) (vs := vs) r t, h => by
    unfold tupsOf at h
    split at h
    · rename_i heq; cases heq
    · rename_i es rr heq
      cases heq
      split at h
      · rename_i k ks' e1 e2
        cases h
        obtain ⟨ps, rfl, rfl, hp⟩ := tupsOf_at t e2
        cases r with
        | tup h1 n1 z1 r1 =>
        rename_i a o xs
        rw [intsOf_eq e1] at r1
        have ex := r1.ints
        subst ex
        exact ⟨(a, k) :: ps, rfl, rfl, fun p hp' => by
          rcases List.mem_cons.mp hp' with rfl | hp'
          · exact .inr ⟨o, h1⟩
          · exact hp p hp'⟩
      · cases h
    · cases h
section
variable {g : GC} {s : SS} {k : Nat} {W : WX} {X : Cx} {pos p p2 q : Pos} {a : Expr} {ma : M D}
theorem dm_lenX (ok : Ok g s k W X) (bf : BF g) (ha : DM g W X a ma) (hg : gloB s.sc "len" = true := by decide +kernel) (hg2 : gloB s.sc "set" = true := by decide +kernel)
    (na : starEach [a] X.env = (false, eval a X.env) :: starEach [] X.env := by rfl) : DM g W X (.Call (.Name "len" p) [.Call (.Name "set" p2) [a] [] q] [] pos) (mUn fLenX ma) := by
  obtain ⟨ta, pa, sa⟩ := ha
  refine ⟨_, pe_lenX (ok.glo hg) (by rw [ok.hmg]; exact bf.len) (ok.glo hg2) (by rw [ok.hmg]; exact bf.set) pa ok.calm ok.units na, fun B F H σ ρ Q E h => ?_⟩
  refine sa.then (R := PoE g.K g.mg W B F σ Q) E (fun x ρ' z => z) (fun z => z) h fun d ρ1 v F1 H1 g1 E1 r1 h1 => ?_
  have seq : ∀ {ds : List D}, seqD d = some ds → ∃ l vs, v = .ref l ∧ RpA g.K F1 vs ds ∧ (SqL X.K H1 l vs ∨ SqT X.K H1 l vs) := fun {ds} e => by
    cases r1 with
    | lst a1 z1 r2 => cases e; exact ⟨_, _, rfl, r2, .inl (by rw [ok.hK]; exact (a1.mono E1.sub).sq)⟩
    | tup a1 n1 z1 r2 => cases e; exact ⟨_, _, rfl, r2, .inr (.inl (.inr ⟨_, E1.sub _ _ a1⟩))⟩
    | _ => cases e
  unfold fLenX at h1
  cases es : seqD d with
  | none => rw [es] at h1; exact h1.elim
  | some ds =>
    rw [es] at h1
    obtain ⟨l, vs, rfl, r2, hq⟩ := seq es
    refine ⟨l, rfl, ?_⟩
    simp only [Option.bind_some] at h1
    unfold lenX at h1
    cases ei : intsOf ds with
    | some ns =>
      rw [ei] at h1
      simp only at h1
      rw [intsOf_eq ei] at r2
      have ev := r2.ints
      subst ev
      by_cases hz : ns.length ≤ 4000
      · rw [if_pos hz] at h1
        exact .inl ⟨ns, hq, hz, (PoE.later g1 h1) (.int _) F1 H1 Gr.refl E1 (.int _)⟩
      · rw [if_neg hz] at h1; exact h1.elim
    | none =>
      rw [ei] at h1
      simp only at h1
      cases et : tupsOf ds with
      | none => rw [et] at h1; exact h1.elim
      | some ks =>
        rw [et] at h1
        simp only at h1
        obtain ⟨ps, rfl, rfl, hp⟩ := tupsOf_at r2 et
        by_cases hz : (ps.map (·.2)).length < 64
        · rw [if_pos hz] at h1
          exact .inr ⟨ps, hq, fun p hp' => .inl (rd_mono E1.sub (hp p hp')), by simpa using hz, (PoE.later g1 h1) (.int _) F1 H1 Gr.refl E1 (.int _)⟩
        · rw [if_neg hz] at h1; exact h1.elim
end
end DX

set_option maxHeartbeats 1000000
namespace DX
open PySem PySem.Spec PyProof.Rows L2
/-! ### x.index(y), x.count(y): x a list or a tuple of data of any depth -/
section
variable {X : Cx}
/-- a tuple, by its object -/
def tyZ (K : PySem.W.Frag) (x : V) (H : Hp) : Prop := ∃ (a : Addr) (o : Obj) (xs : List V), x = .ref a ∧ H a = some (.frz o (.tup xs)) ∧ o.dict = none
theorem tyZ_is {pins : List (Addr × Obj)} {σ : L2.St} {H : Hp} {s : Shared} {x : V} {v : Value} (I : Inv X pins σ H s) (r : RelV x v) (ty : tyZ X.K x H) : s.TypeIs v "tuple" ∧ ∀ a, v = .ref a → ∃ ob, s.heap.get? a = some ob ∧ ob.dict = none := by
  obtain ⟨a, o, xs, rfl, h, hd⟩ := ty
  cases r
  obtain ⟨e, _, its, rv, ob, h1, h2, _⟩ := (show ObjOk X.prog X.w H s.heap a (.frz o (.tup xs)) from I.hok a _ h)
  rw [e] at h1; cases h1
  exact ⟨⟨o, e, h2⟩, fun b q => by cases q; exact ⟨o, e, hd⟩⟩
/-- a method of a list or of a tuple -/
def tBM2 (K : PySem.W.Frag) (r1 r2 : V → List V → Hp → VK → Prop) (to : TE) (t : TA) : TE := fun σ H Q => to σ H fun x H1 => (tyV K "list" x H1 ∧ t σ H1 fun xs H2 => r1 x xs H2 Q) ∨ (tyZ K x H1 ∧ t σ H1 fun xs H2 => r2 x xs H2 Q)
variable {o e : Expr} {es : List Expr} {to : TE} {t : TA} {name : Str} {apos cpos : Pos} {id1 id2 : String} {r1 r2 : V → List V → Hp → VK → Prop}
theorem pe_bm2 (slot1 : Slot "list" name id1) (hty1 : typeOf (.builtin id1) = pure (.type "method_descriptor")) (hm1 : MtR X id1 r1) (slot2 : Slot "tuple" name id2) (hty2 : typeOf (.builtin id2) = pure (.type "method_descriptor")) (hm2 : MtR X id2 r2) (ho : PE X o to) (ha : PA X (e :: es) t)
    (hbase : attributeBase o name X.env (eval o X.env) = eval o X.env := by rfl)
    (hfew : ((backTo cpos (starEach (e :: es) X.env)).all (fun x => !x.1) && (backToKw cpos (keywordEach [] X.env)).all (fun x => x.1.isSome) && decide ((e :: es).length + ([] : List Keyword).length + (if ([] : List Keyword).isEmpty then 0 else 1) < 30)) = true := by rfl)
    (hline : (apos.endLine == cpos.line) = true := by rfl) (hs : starEach (e :: es) X.env = (false, eval e X.env) :: starEach es X.env := by rfl) (hplain : (backTo cpos (starEach es X.env)).any (·.1) = false := by rfl) :
    PE X (.Call (.Attribute o name apos) (e :: es) [] cpos) (tBM2 X.K r1 r2 to t) := by
  refine ⟨fun pins s σ H Q I h => wpAny_Call_method_late hbase hfew hline rfl (thn (ho.run pins s σ H _ I h) fun v s1 ⟨x, H1, I1, rx, q1⟩ => ?_)⟩
  have hsp : (false || (backTo cpos (starEach es X.env)).any (·.1)) = false := by rw [hplain] <;> rfl
  rcases q1 with ⟨ty, q1⟩ | ⟨ty, q1⟩
  · obtain ⟨h1, h2⟩ := tyV_is I1 rx ty
    have hA := ha.run cpos pins s1 σ H1 _ I1 q1
    refine ⟨"list", id1, PySem.F.plainAttrs_list, slot1, hty1, h1, h2, ?_⟩
    rw [hs] at hA ⊢
    exact Calls.callWith_builtin (by exact hsp) (Calls.evalArgs_plain (thn hA fun us s2 ⟨vs, H2, I2, r2', q2⟩ => hm1 pins s2 σ H2 x vs v us Q I2 rx r2' q2))
  · obtain ⟨h1, h2⟩ := tyZ_is I1 rx ty
    have hA := ha.run cpos pins s1 σ H1 _ I1 q1
    refine ⟨"tuple", id2, PySem.F.plainAttrs_tuple, slot2, hty2, h1, h2, ?_⟩
    rw [hs] at hA ⊢
    exact Calls.callWith_builtin (by exact hsp) (Calls.evalArgs_plain (thn hA fun us s2 ⟨vs, H2, I2, r2', q2⟩ => hm2 pins s2 σ H2 x vs v us Q I2 rx r2' q2))
/-! tuple.index, list.count, tuple.count -/
def rIndexT (K : PySem.W.Frag) : V → List V → Hp → VK → Prop := fun x xs H Q => ∃ (a : Addr) (y : V) (d : PyData) (ds : List PyData) (j : Nat) (z : PyData), x = V.ref a ∧ xs = [y] ∧ Dp K H (V.ref a) (.tuple ds) ∧ Dp K H y d ∧
  SeqAt.shaped (.tuple ds) = true ∧ SeqAt.shaped d = true ∧ ds[j]? = some z ∧ PyData.eqv z d = true ∧ (∀ (m : Nat) (z' : PyData), m < j → ds[m]? = some z' → PyData.eqv z' d = false) ∧ Q (.int (j : Nat)) H
theorem mt_indexT (hu : X.A.units + 65 < cLine) : MtR X "tuple.index" (rIndexT X.K) := by
  intro pins s σ H x xs v us Q I rx rxs h
  obtain ⟨a, y, d, ds, j, z, rfl, rfl, hl, hy, sl, sd, hz, hzj, hno, q⟩ := h
  cases rx
  cases rxs with
  | cons ry rt =>
    rename_i uy ut
    cases rt
    obtain ⟨bs, r1⟩ := Dp.reads I d y uy hy ry
    have hxs : PyData.canLayAll0 ds = true := SeqAt.canLay_of_shaped sl
    have hroom : X.A.units + 1 + min (PyData.depthAll ds) d.depth < cLine := room_in_shaped sd hu
    cases hl with
    | tup hs ha =>
      obtain ⟨its, rv, ⟨⟨cls, dd, data, sls⟩, ho, hc, n, hdt⟩, hlen⟩ := I.tuple hs
      simp only at hc hdt
      subst hc hdt
      obtain ⟨as, h4⟩ := Dp.readsAll I ds _ its ha rv
      have hn : its.length = ds.length := SeqAt.ReadsAll.length ds its as h4
      have hmap : its.map (SeqAt.readOf s.heap) = ds := SeqAt.readsAll_map ds its as hxs h4
      have hjd := (List.getElem?_eq_some_iff.mp hz).1
      have hj : j < its.toArray.size := by simpa using (show j < its.length by omega)
      have at_ : ∀ (m : Nat) (hm : m < its.toArray.size) (z' : PyData), ds[m]? = some z' → SeqAt.readOf s.heap its.toArray[m] = z' := fun m hm z' hz' => by
        have hml : m < its.length := by simpa using hm
        rw [← hmap, List.getElem?_map, List.getElem?_eq_getElem hml] at hz'
        have e1 : SeqAt.readOf s.heap its[m] = z' := Option.some.inj (show some (SeqAt.readOf s.heap its[m]) = some z' from hz')
        simpa using e1
      refine call_meets PySem.F.slot_tuple_index ⟨_, ho, rfl⟩ PySem.F.entry_tuple_index (PySem.F.args_tuple_index_2 _ _)
        (TI.tuple_indexAt a its.toArray n dd sls uy (fun u => PyData.eqv (SeqAt.readOf s.heap u) d) j hj ?_ ?_) ⟨ho, SeqAt.items_eqAt (vs := its.toArray) (show ReadsAll s.heap its.toArray.toList ds as from h4) r1 hxs (SeqAt.canLay_of_shaped sd) hroom, ?_⟩
      · show PyData.eqv (SeqAt.readOf s.heap its.toArray[j]) d = true
        rw [at_ j hj z hz]; exact hzj
      · intro m hm hmj
        have hz' : ds[m]? = some ds[m] := List.getElem?_eq_getElem (by omega)
        show PyData.eqv (SeqAt.readOf s.heap its.toArray[m]) d = false
        rw [at_ m hm _ hz']; exact hno m _ hmj hz'
      · exact ⟨.int (j : Nat), H, I.tok _, ⟨_, rfl⟩, q⟩
def rCountL (K : PySem.W.Frag) : V → List V → Hp → VK → Prop := fun x xs H Q => ∃ (a : Addr) (y : V) (d : PyData) (ds : List PyData), x = V.ref a ∧ xs = [y] ∧ Dp K H (V.ref a) (.list ds) ∧ Dp K H y d ∧ SeqAt.shaped (.list ds) = true ∧ SeqAt.shaped d = true ∧ Q (.int ((ds.countP fun z => PyData.eqv z d) : Nat)) H
theorem mt_countL (hu : X.A.units + 65 < cLine) : MtR X "list.count" (rCountL X.K) := by
  intro pins s σ H x xs v us Q I rx rxs h
  obtain ⟨a, y, d, ds, rfl, rfl, hl, hy, sl, sd, q⟩ := h
  cases rx
  cases rxs with
  | cons ry rt =>
    rename_i uy ut
    cases rt
    obtain ⟨bs, r1⟩ := Dp.reads I d y uy hy ry
    have hxs : PyData.canLayAll0 ds = true := SeqAt.canLay_of_shaped sl
    have hroom : X.A.units + 1 + min (PyData.depthAll ds) d.depth < cLine := room_in_shaped sd hu
    cases hl with
    | lst hs ha =>
      obtain ⟨its, rv, ⟨⟨cls, dd, data, sls⟩, n, ho, hc, hdn, hdt⟩, hlen⟩ := I.list hs
      simp only at hc hdt
      subst hc hdt
      obtain ⟨as, h4⟩ := Dp.readsAll I ds _ its ha rv
      have hmap : its.map (SeqAt.readOf s.heap) = ds := SeqAt.readsAll_map ds its as hxs h4
      refine call_meets PySem.F.slot_list_count ⟨_, ho, rfl⟩ PySem.F.entry_list_count (PySem.F.args_list_count_2 _ _)
        (SeqAt.list_countAt a its.toArray n dd sls uy (fun u => PyData.eqv (SeqAt.readOf s.heap u) d)) ⟨ho, SeqAt.items_eqAt (vs := its.toArray) (show ReadsAll s.heap its.toArray.toList ds as from h4) r1 hxs (SeqAt.canLay_of_shaped sd) hroom, ?_⟩
      refine ⟨.int ((ds.countP fun z => PyData.eqv z d) : Nat), H, I.tok _, ⟨s.toks, ?_⟩, q⟩
      have ec : its.toArray.toList.countP (fun u => PyData.eqv (SeqAt.readOf s.heap u) d) = ds.countP fun z => PyData.eqv z d := by
        rw [← hmap, List.countP_map]; rfl
      rw [ec]
end
/-! as data -/
def indexD (ds : List D) (d : D) : Option D := (ds.findIdx? fun z => PyData.eqv z d).map fun j => .int (j : Nat)
def fIndex (x d : D) : Option D := if (SeqAt.shaped x && SeqAt.shaped d) = true then (seqD x).bind fun ds => indexD ds d else none
def fCount (x d : D) : Option D := match x with
  | .list ds => if (SeqAt.shaped (.list ds) && SeqAt.shaped d) = true then some (.int ((ds.countP fun z => PyData.eqv z d) : Nat)) else none
  | _ => none
def mIdx (mo me : M D) : M D := fun ρ => bnd (mo ρ) fun d ρ1 => match seqD d with
  | none => .bad
  | some _ => bnd (me ρ1) fun e ρ2 => lft (fIndex d e) ρ2
def listD : D → Bool
  | .list _ => true
  | _ => false
def mCnt (mo me : M D) : M D := fun ρ => bnd (mo ρ) fun d ρ1 => match listD d with
  | false => .bad
  | true => bnd (me ρ1) fun e ρ2 => lft (fCount d e) ρ2
theorem indexD_at {ds : List D} {d2 z : D} (hz : indexD ds d2 = some z) : ∃ (j : Nat) (y : D), z = .int (j : Nat) ∧ ds[j]? = some y ∧ PyData.eqv y d2 = true ∧ ∀ (m : Nat) (z' : PyData), m < j → ds[m]? = some z' → PyData.eqv z' d2 = false := by
  unfold indexD at hz
  cases q : ds.findIdx? (fun z => PyData.eqv z d2) with
  | none => rw [q] at hz; cases hz
  | some j =>
    rw [q] at hz; cases hz
    obtain ⟨hj, h1, h2⟩ := List.findIdx?_eq_some_iff_getElem.mp q
    refine ⟨j, ds[j], rfl, List.getElem?_eq_getElem hj, h1, fun m z' hm hz' => ?_⟩
    obtain ⟨hm', e⟩ := List.getElem?_eq_some_iff.mp hz'
    subst e
    have := h2 m hm
    simpa using this
section
variable {g : GC} {s : SS} {k : Nat} {W : WX} {X : Cx} {apos cpos : Pos} {o e : Expr} {mo me : M D}
theorem dm_index (ok : Ok g s k W X) (ho : DM g W X o mo) (he : DM g W X e me)
    (hbase : attributeBase o "index" X.env (eval o X.env) = eval o X.env := by rfl)
    (hfew : ((backTo cpos (starEach [e] X.env)).all (fun x => !x.1) && (backToKw cpos (keywordEach [] X.env)).all (fun x => x.1.isSome) && decide (([e] : List Expr).length + ([] : List Keyword).length + (if ([] : List Keyword).isEmpty then 0 else 1) < 30)) = true := by rfl)
    (hline : (apos.endLine == cpos.line) = true := by rfl) (hs : starEach [e] X.env = (false, eval e X.env) :: starEach [] X.env := by rfl) :
    DM g W X (.Call (.Attribute o "index" apos) [e] [] cpos) (mIdx mo me) := by
  obtain ⟨to, po, so⟩ := ho
  obtain ⟨te, pe, se⟩ := he
  refine ⟨_, pe_bm2 PySem.F.slot_list_index PySem.F.type_list_index (mt_indexD ok.units) PySem.F.slot_tuple_index PySem.F.type_tuple_index (mt_indexT ok.units) po (pa_cons pe pa_nil hs) hbase hfew hline hs rfl, fun B F H σ ρ Q E h => ?_⟩
  refine so.then (R := PoE g.K g.mg W B F σ Q) E (fun x ρ' z => z) (fun z => z) h fun d ρ1 v F1 H1 g1 E1 r1 h1 => ?_
  -- behind the argument
  have fin : ∀ {ds : List D} {Q' : VK}, seqD d = some ds → (∀ (y : V) (H2 : Hp) (d2 : D) (j : Nat) (z : D), Dp X.K H2 v d → Dp X.K H2 y d2 → SeqAt.shaped d = true → SeqAt.shaped d2 = true → ds[j]? = some z → PyData.eqv z d2 = true → (∀ (m : Nat) (z' : PyData), m < j → ds[m]? = some z' → PyData.eqv z' d2 = false) → Q (.int (j : Nat)) H2 → Q' y H2) → te σ H1 Q' := fun {ds Q'} hds hQ => by
    rw [hds] at h1
    refine se.then (R := PoE g.K g.mg W B F1 σ Q) E1 (fun x ρ' z => z) (fun z => z) (PoE.later g1 h1) fun d2 ρ2 v2 F2 H2 g2 E2 r2 h2 => ?_
    unfold fIndex at h2
    by_cases hsh : (SeqAt.shaped d && SeqAt.shaped d2) = true
    · rw [if_pos hsh, hds, Option.bind_some] at h2
      rw [Bool.and_eq_true] at hsh
      cases q : indexD ds d2 with
      | none => rw [q] at h2; exact h2.elim
      | some z =>
        rw [q] at h2
        obtain ⟨j, y, rfl, a1, a2, a3⟩ := indexD_at q
        exact hQ v2 H2 d2 j y (by rw [ok.hK]; exact ((r1.mono g2.sub).mono E2.sub).dp (SeqAt.canLay_of_shaped hsh.1)) (by rw [ok.hK]; exact (r2.mono E2.sub).dp (SeqAt.canLay_of_shaped hsh.2)) hsh.1 hsh.2 a1 a2 a3 ((PoE.later g2 h2) (.int j) F2 H2 Gr.refl E2 (.int j))
    · rw [if_neg hsh] at h2; exact h2.elim
  cases hsd : seqD d with
  | none => rw [hsd] at h1; exact h1.elim
  | some ds =>
    have fin := fun {Q'} => fin (Q' := Q') hsd
    cases r1 with
    | lst a1 z1 r2 =>
      cases hsd
      exact .inl ⟨.inl ⟨rfl, _, by rw [ok.hK]; exact (a1.mono E1.sub).sq⟩, fin fun y H2 d2 j z b1 b2 b3 b4 b5 b6 b7 q => ⟨_, y, d2, _, j, z, rfl, rfl, b1, b2, b3, b4, b5, b6, b7, q⟩⟩
    | tup a1 n1 z1 r2 =>
      cases hsd
      exact .inr ⟨⟨_, _, _, rfl, E1.sub _ _ a1, n1⟩, fin fun y H2 d2 j z b1 b2 b3 b4 b5 b6 b7 q => ⟨_, y, d2, _, j, z, rfl, rfl, b1, b2, b3, b4, b5, b6, b7, q⟩⟩
    | _ => cases hsd
theorem dm_count (ok : Ok g s k W X) (ho : DM g W X o mo) (he : DM g W X e me)
    (hbase : attributeBase o "count" X.env (eval o X.env) = eval o X.env := by rfl)
    (hfew : ((backTo cpos (starEach [e] X.env)).all (fun x => !x.1) && (backToKw cpos (keywordEach [] X.env)).all (fun x => x.1.isSome) && decide (([e] : List Expr).length + ([] : List Keyword).length + (if ([] : List Keyword).isEmpty then 0 else 1) < 30)) = true := by rfl)
    (hline : (apos.endLine == cpos.line) = true := by rfl) (hs : starEach [e] X.env = (false, eval e X.env) :: starEach [] X.env := by rfl) :
    DM g W X (.Call (.Attribute o "count" apos) [e] [] cpos) (mCnt mo me) := by
  obtain ⟨to, po, so⟩ := ho
  obtain ⟨te, pe, se⟩ := he
  refine ⟨_, pe_bm PySem.F.plainAttrs_list PySem.F.slot_list_count PySem.F.type_list_count (mt_countL ok.units) po (pa_cons pe pa_nil hs) hbase hfew hline hs rfl, fun B F H σ ρ Q E h => ?_⟩
  refine so.then (R := PoE g.K g.mg W B F σ Q) E (fun x ρ' z => z) (fun z => z) h fun d ρ1 v F1 H1 g1 E1 r1 h1 => ?_
  cases d with
  | list ds =>
    cases r1 with
    | lst a1 z1 r3 =>
    refine ⟨.inl ⟨rfl, _, by rw [ok.hK]; exact (a1.mono E1.sub).sq⟩, ?_⟩
    refine se.then (R := PoE g.K g.mg W B F1 σ Q) E1 (fun x ρ' z => z) (fun z => z) (PoE.later g1 h1) fun d2 ρ2 v2 F2 H2 g2 E2 r2 h2 => ?_
    unfold fCount at h2
    simp only at h2
    by_cases hsh : (SeqAt.shaped (.list ds) && SeqAt.shaped d2) = true
    · rw [if_pos hsh] at h2
      rw [Bool.and_eq_true] at hsh
      exact ⟨_, v2, d2, ds, rfl, rfl, by rw [ok.hK]; exact ((Rp.lst a1 z1 r3 |>.mono g2.sub).mono E2.sub).dp (SeqAt.canLay_of_shaped hsh.1), by rw [ok.hK]; exact (r2.mono E2.sub).dp (SeqAt.canLay_of_shaped hsh.2), hsh.1, hsh.2, (PoE.later g2 h2) (.int _) F2 H2 Gr.refl E2 (.int _)⟩
    · rw [if_neg hsh] at h2; exact h2.elim
  | _ => exact h1.elim
end
end DX

set_option maxHeartbeats 1000000
namespace DX
open PySem PySem.Spec PyProof.Rows L2
/-! ### an exception that is caught and kept -/
section
variable {X : Cx} {pins : List (Addr × Obj)} {σ : L2.St} {H : Hp} {s : Shared}
theorem track {a : Addr} {oe : Obj} {vs : Array Value} {cls : Value} (I : Inv X pins σ H s) (ha : s.heap.get? a = some oe) (hz : Zc cls none oe) (hd : oe.data = .fields vs) (na : H a = none) (n0 : ∀ o, X.s_0.heap.get? a = some o → a ∈ X.ex)
    (np : ∀ p ∈ X.pn ++ pins, p.1 ≠ a) (nL : a ≠ X.env.locals) : Inv X pins σ (upd H a (ExT cls a)) s where
  ok := I.ok
  os := I.os
  bare := I.bare
  base := ⟨I.base.keep, I.base.slot, fun b o e n hx => by rw [upd_ne (fun z => hx (by subst z; exact n0 o e))]; exact I.base.free b o e n hx, I.base.there,
    fun b xs e => by have h := I.base.tups b xs e; rw [upd_ne (ne_of_none h na)]; exact h, fun b o u e => by have h := I.base.frzs b o u e; rw [upd_ne (ne_of_none h na)]; exact h,
    fun b ps e => by obtain ⟨m, h⟩ := I.base.tbls b ps e; exact ⟨m, by rw [upd_ne (ne_of_none h na)]; exact h⟩⟩
  loc := I.loc
  cell := I.cell
  free := by rw [upd_ne (Ne.symm nL)]; exact I.free
  freeC := fun x c e => by
    obtain ⟨v, o, h1, h2⟩ := I.cell x c e
    rw [upd_ne (fun z => ?_)]
    · exact I.freeC x c e
    · subst z; rw [ha] at h1; cases h1
      first | (rw [hd] at h2; cases h2) | (simp_all)
  pin := fun p hp => by
    obtain ⟨h1, h2, h3⟩ := I.pin p hp
    exact ⟨h1, by rw [upd_ne (np p hp)]; exact h2, h3⟩
  hok := HOk.laidN I.hok (fun _ _ e => e) na ⟨⟨oe, vs, ha, hz, hd⟩, ⟨oe, ha⟩, fun h1 h2 ⟨o, w, e, q⟩ k => ⟨o, w, k o e, q⟩⟩
  len := I.len
theorem toSuite (a : Addr) (I : Inv X pins σ H s) : Inv (X.suite a (X.pn ++ pins)) [] σ H s :=
  ⟨I.ok.suite _ _, I.os, I.bare, I.base, I.loc, I.cell, I.free, I.freeC, fun p hp => I.pin p (by simpa using hp), I.hok, I.len⟩
theorem ofSuite {a : Addr} {pn' : List (Addr × Obj)} (I : Inv (X.suite a (X.pn ++ pins)) pn' σ H s) (ok : X.Ok) : Inv X pins σ H s :=
  ⟨ok, I.os, I.bare, I.base, I.loc, I.cell, I.free, I.freeC, fun p hp => I.pin p (List.mem_append_left _ hp), I.hok, I.len⟩
end
/-- what `except x as n` wishes, the object tracked -/
def wKeep (K : PySem.W.Frag) (c : Value) (i : Nat) (ts : TS) (D : Ends) : WX := fun cls d σ H => d = none ∧ PySem.W.exmOne K cls c = some true ∧ ∀ a, H a = none →
  ts { nx := fun σ' H' => D.nx (σ'.set i none) H', rt := fun _ _ => False, bk := fun _ _ => False, ct := fun _ _ => False } (σ.set i (some (.ref a))) (upd H a (ExT cls a))
section
variable {X : Cx} {x n : Str} {c : Value} {i : Nat} {body suite : List Stmt} {b₀ : Stmt} {np pos pos' : Pos} {ts : TS}
/-- the body under every context of a try -/
def tTry (X : Cx) (c : Value) (i : Nat) (body : List Stmt) (ts : TS) : TS := fun D σ H => ∀ (pn : List (Addr × Obj)) (xe : Value → Shared → Prop), Takes (X.tr pn xe) (wKeep X.K c i ts D) → PassesOwn (model X.prog X.w) X.A X.env xe → ∃ t, PSs (X.tr pn xe) body t ∧ t D σ H
theorem ps_try_keep (hs : X.stack = X.env :: X.outer) (hf : X.env.frame = some X.env.locals) (hN : X.N.Nodup) (hi : X.N[i]? = some n) (hln : X.env.kindOf n = some .local) (hc : Names X x c)
    (hsu : ∀ (a : Addr) (pn : List (Addr × Obj)), PSs (X.suite a pn) (b₀ :: suite) ts) :
    PS X (.Try body [.ExceptHandler (some (.Name x np)) (some n) (b₀ :: suite) pos'] [] [] pos) (tTry X c i body ts) := by
  refine ⟨fun pins s0 σ H D I h => wpAny_Try_except ?_⟩
  have okX := I.ok
  have frE : X.A.frames = some (X.env :: X.outer) := okX.frames.trans (congrArg some hs)
  have lc : Loc X.env.scope n := .inl hln
  have tk : Takes (X.tr (X.pn ++ pins) (fun e t1 => wpAny (model X.prog X.w) X.A (noteFrame e X.env) (fun _ t2 => wpAny (model X.prog X.w) X.A (setFlight e none) (fun _ t3 =>
    wpAny (model X.prog X.w) X.A (handleBy e X.env [.ExceptHandler (some (.Name x np)) (some n) (b₀ :: suite) pos']) (SP X pins D) X.xe t3) X.xe t2) X.xe t1)) (wKeep X.K c i ts D) := fun u sE air => ?_
  · obtain ⟨tb, pb, hb⟩ := h _ _ tk PassesOwn.looking
    refine wpAny_mono (pb.run [] s0 σ H D (I.toTry _) hb) (fun f s1 hsp => ?_) (fun e s1 he => he)
    cases f with
    | next => obtain ⟨σ', H', J', q⟩ := hsp; exact wpAny_execs_nil ⟨σ', H', J'.ofTry okX, q⟩
    | brk => obtain ⟨σ', H', J', q⟩ := hsp; exact ⟨σ', H', J'.ofTry okX, q⟩
    | cont => obtain ⟨σ', H', J', q⟩ := hsp; exact ⟨σ', H', J'.ofTry okX, q⟩
    | ret u => obtain ⟨v, σ', H', J', r, q⟩ := hsp; exact ⟨v, σ', H', J'.ofTry okX, r, q⟩
  · obtain ⟨a, B, sI, pins1, σ1, H1, cls, d, rfl, J0, nb, up, sky, na, os, ag, rfl, hex, hyes⟩ := air
    have J : Inv X pins σ1 H1 sI := J0.ofTry okX
    have skyE : Sky B (X.env :: X.outer) a (Zc cls none) X.env.locals sE.heap := by rw [← hs]; exact sky
    show wpAny (model X.prog X.w) X.A (noteFrame (.ref a) X.env) _ _ _
    refine Sky.land Zc.steady frE hf skyE fun hp3 fly up3 => ?_
    have J3 : Inv X pins σ1 H1 { sE with heap := hp3 } := J.landed nb fly.1 (up.trans up3) os ag
    obtain ⟨o3, w3, g3, z3, q3⟩ := fly.there
    have nfr : a ∉ frs (X.env :: X.outer) := fun hm => by
      obtain ⟨_, o', e', hnf⟩ := fly.2.2.1.mem hm
      rw [g3] at e'; cases e'
      exact hnf _ q3
    have nI : ∀ o, sI.heap.get? a ≠ some o := fun o e => by
      have z := nb a o e (by rw [hs]; exact nfr)
      rw [fly.2.1] at z; cases z
    have nL : a ≠ X.env.locals := fun z => nfr (List.mem_filterMap.mpr ⟨X.env, List.mem_cons_self, by rw [hf, z]⟩)
    have n0 : ∀ o, X.s_0.heap.get? a = some o → a ∈ X.ex := fun o e => Classical.byContradiction fun hx => by
      obtain ⟨o', e'⟩ := J.base.there a o e hx
      exact nI o' e'
    have npn : ∀ p ∈ X.pn ++ pins, p.1 ≠ a := fun p hp z => nI p.2 (by have e := (J.pin p hp).1; rw [z] at e; exact e)
    refine wpAny_handleBy_cons (codeAny_handlers_test ?_) (by intro q; cases q)
    have LT : PySem.W.Looks (model X.prog X.w) hp3 (typeOf (.ref a)) cls := fun A Q E t k q => wpAny_typeOf_ref (k _ _ g3) (by rw [z3.1]; exact q)
    have LM := PySem.W.exm_one (M := model X.prog X.w) (J3.kIn) LT hex
    have test : ∀ {Q : Value → Shared → Prop} {E : Value → Shared → Prop}, Q c { sE with heap := hp3 } → wpAny (model X.prog X.w) (X.A.mark (some (.ref a))) (eval (.Name x np) X.env) Q E { sE with heap := hp3 } := fun {Q E} q => by
      have S := toSuite a J3
      obtain ⟨hg, hdbg, hm | ⟨hm, hv, hnn⟩⟩ := hc
      · exact ld_glob (X := X.suite a (X.pn ++ pins)) S hg hm q hdbg
      · exact ld_blt (X := X.suite a (X.pn ++ pins)) S hg hm hv q hnn hdbg
    refine test (LM.here (codeAny_handlers_suite_as (HandSPX.lands_againZ fly fun hp4 fly4 up4 => ?_)))
    have J4 : Inv X pins σ1 H1 { sE with heap := hp4 } := J.landed nb fly4.1 ((up.trans up3).trans up4) os ag
    obtain ⟨o4, w4, g4, z4, q4⟩ := fly4.there
    have J5 := toSuite a (track J4 g4 z4 q4 na n0 npn nL)
    refine store_ok (X := X.suite a (X.pn ++ pins)) (v := .ref a) J5 hN hi lc rfl (fun s5 S5 => ?_) (.inr hln)
    refine wpAny_mono ((hsu a (X.pn ++ pins)).run [] s5 _ _ _ S5 (hyes a na)) (fun f s6 hsp => ?_) (fun _ _ z => False.elim z)
    cases f with
    | next =>
      obtain ⟨σ6, H6, S6, q6⟩ := hsp
      exact gone_ok (ofSuite S6 okX) hN hi hln fun s7 J7 => ⟨_, _, J7, q6⟩
    | brk => obtain ⟨σ6, H6, S6, q6⟩ := hsp; exact q6.elim
    | cont => obtain ⟨σ6, H6, S6, q6⟩ := hsp; exact q6.elim
    | ret u => obtain ⟨v6, σ6, H6, S6, r6, q6⟩ := hsp; exact q6.elim
end
/-! ### the program's exceptions -/
def excN : List Str := ["InvalidOrder", "InvalidElement", "InvalidPairs", "InvalidExtension", "InvalidIndex", "InvalidNumber", "InvalidPoints", "InvalidNames", "InvalidText", "TooLarge", "Comparable", "NothingToUndo"]
structure EF (g : GC) : Prop where
  all : ∀ y ∈ excN, ∃ C, g.mg y = some (.ref C)
  dim : ∃ C, g.mg "DimensionError" = some (.ref C) ∧ ∀ x ∈ excN, ∀ A, g.mg x = some (.ref A) → PySem.W.exmOne g.K.K (.ref A) (.ref C) = some true
  cls : ∀ x ∈ excN, ∀ A, g.mg x = some (.ref A) → ExcC g.K.K A ∧ PySem.W.kitOne g.K.K (.ref A) (.type "ValueError") = some true
  isi : ∀ x ∈ excN, ∀ y ∈ excN, ∀ A C, g.mg x = some (.ref A) → g.mg y = some (.ref C) → PySem.W.kitOne g.K.K (.ref A) (.ref C) = some (x == y)
/-- the name of a caught exception -/
def exN : D → Option Str
  | .dict [(.none, .str x)] => if excN.contains x then some x else none
  | _ => none
theorem exN_of {d : D} {x : Str} (h : exN d = some x) : d = excD x ∧ x ∈ excN := by
  unfold exN at h
  split at h
  · split at h
    · rename_i hc
      cases h
      exact ⟨rfl, by simpa using hc⟩
    · cases h
  · cases h
theorem exc_inv {K : KC} {F : Hp} {v : V} {d : D} {x : Str} (h : Rp K F v d) (e : d = excD x) : ∃ a C, v = .ref a ∧ F a = some (ExT (.ref C) a) ∧ K.mg x = some (.ref C) := by
  cases h with
  | exc h m => cases e; exact ⟨_, _, rfl, h, m⟩
  | dI h q r =>
    exfalso
    rename_i ds _
    cases ds with
    | nil => simp at e
    | cons p t => simp at e
  | dT h a b c =>
    exfalso
    rename_i ds _
    cases ds with
    | nil => simp at e
    | cons p t => simp at e
  | _ => cases e
/-! try -/
def sTry (i j : Nat) (mb : MS) : MS := fun ρ => match mb ρ with
  | .next ρ1 => .next ρ1
  | .exc x ρ1 => if (excN.contains x && decide (i < ρ1.length)) = true then .next (((ρ1.set i .no).set j (.val (excD x))).set i .no) else .bad
  | _ => .bad
section
variable {g : GC} {s : SS} {k : Nat} {W : WX} {pin : List Nat} {X : Cx} {pos p p2 p3 p4 pos' np : Pos} {a : Expr} {ma : M D}
theorem ds_try (ok : Ok g s k W X) (hs : X.stack = X.env :: X.outer) (hf : X.env.frame = some X.env.locals) (ef : EF g) (i j : Nat) {n y : Str} {body : List Stmt} {mb : MS} (hb : ∀ W' X', Ok g s k W' X' → DSs g W' pin X' body mb)
    (hN : s.N[i]? = some n := by rfl) (hNj : s.N[j]? = some y := by rfl) (hln : s.sc.names.lookup n = some .local := by decide +kernel) (hly : locB s y = true := by decide +kernel) (hv : visB s.sc n = true := by decide +kernel) (hg : gloB s.sc "DimensionError" = true := by decide +kernel)
    (hip : i ∉ pin := by decide) (hjp : j ∉ pin := by decide) (hdn : (n == ("__debug__" : Str)) = false := by decide +kernel) (hcd : (n == ("__classdict__" : Str)) = false := by decide +kernel) (hij : i ≠ j := by decide)
    (hw : swapsWith (.Name n p3) (some (.Name y p2)) p4.line X.env = pure false := by rfl) :
    DS g W pin X (.Try body [.ExceptHandler (some (.Name "DimensionError" np)) (some n) [.Assign [.Name y p2] (.Name n p3) p4] pos'] [] [] pos) (sTry i j mb) := by
  obtain ⟨C, hC, hm⟩ := ef.dim
  refine ⟨_, ps_try_keep (c := .ref C) hs hf ok.ndX (ok.at hN) (by show X.env.scope.names.lookup n = _; rw [ok.hsc]; exact hln) ⟨ok.glo hg, by decide +kernel, .inl (by rw [ok.hmg]; exact hC)⟩ (fun a pn => pss_one (ps_set (X := X.suite a pn) ok.ndX (ok.at hNj) (ok.loc hly).1 (pe_var (X := X.suite a pn) (ok.at hN) (ok.vis hv) hdn hcd) hw (ok.loc hly).2)), fun B F H σ ρ D E h => ?_⟩
  intro pn xe tk po
  obtain ⟨t, pt, st⟩ := hb _ (X.tr pn xe) ⟨ok.hP, ok.hw, ok.hK, ok.hmg, ok.hbase, ok.hN, ok.hsc, ok.kind, ok.hfn, ok.calm, ok.room, ok.nd, tk, po⟩
  refine ⟨t, pt, st B F H σ ρ D E ?_⟩
  unfold sTry at h
  cases em : mb ρ with
  | next ρ1 => rw [em] at h; exact h
  | ret d ρ1 => rw [em] at h; exact h.elim
  | brk ρ1 => rw [em] at h; exact h.elim
  | cont ρ1 => rw [em] at h; exact h.elim
  | bad => rw [em] at h; exact h.elim
  | exc x ρ1 =>
    rw [em] at h
    simp only at h
    split at h
    · rename_i hx
      rw [Bool.and_eq_true] at hx
      obtain ⟨hx, hil⟩ := hx
      have hx : x ∈ excN := by simpa using hx
      have hil := of_decide_eq_true hil
      intro A F' H' σ' hA gr kp E'
      refine ⟨rfl, by rw [ok.hK]; exact hm x hx A hA, fun a na => ?_⟩
      refine ⟨.ref a, List.getElem?_set_self (by rw [← E'.len] <;> omega), ?_⟩
      have gw : Grow F' H' (upd F' a (ExT (.ref A) a)) (upd H' a (ExT (.ref A) a)) := Grow.laid E'.sub na
      have E2 := (((E'.grow gw).setAny i (some (.ref a))).setVal (i := j) (.exc upd_same hA)).setNo i
      exact h _ _ _ (gr.trans (gw.gr E'.subB)) (kp.trans ((Kp.set hip).trans ((Kp.set hjp).trans (Kp.set hip)))) E2
    · exact h.elim
/-! isinstance of a caught exception -/
def rIsX (K : PySem.W.Frag) : List V → Hp → VK → Prop := fun xs H Q => ∃ (a A : Addr) (c : V) (u : Value) (b : Bool), xs = [.ref a, c] ∧ (∀ w, RelV c w → w = u) ∧ H a = some (ExT (.ref A) a) ∧ ExcC K A ∧ PySem.W.kitOne K (.ref A) u = some b ∧ Q (.bl b) H
theorem call_isX : CallR X (.builtin "isinstance") (rIsX X.K) := by
  intro pins s σ H xs us Q I r h
  obtain ⟨a, A, c, u, b, rfl, hu, hA, C, e, q⟩ := h
  obtain ⟨u1, u2, rfl, r1, r2⟩ := vals2 r
  cases r1
  have e2 := hu _ r2
  subst e2
  obtain ⟨⟨oe, vs, hget, hz, hv⟩, _, _⟩ := (show ObjOk X.prog X.w H s.heap a (ExT (.ref A) a) from I.hok a _ hA)
  have J : PySem.W.InstAt s.heap a oe A none := by
    obtain ⟨oc, od, oda, osl⟩ := oe
    obtain ⟨z1, z2⟩ := hz
    dsimp only at z1 z2 hv
    subst z1 z2 hv
    exact ⟨hget, rfl, rfl, trivial⟩
  exact PySem.W.kia_one (PySem.W.handS_kitx_exc C.hg C.hk C.hs C.hd C.ha C.hn C.ht C.hm) I.kIn J e (fun z => nomatch z) fun tk => ⟨.bl b, H, I.tok tk, rfl, q⟩
def fIsE (y : Str) (d : D) : Option D := (exN d).map fun x => .bool (x == y)
def fIsV (d : D) : Option D := (exN d).map fun _ => .bool true
theorem dm_isE (ok : Ok g s k W X) (bf : BF g) (ef : EF g) (y : Str) (ha : DM g W X a ma) (hy : excN.contains y = true := by decide +kernel) (hg : gloB s.sc "isinstance" = true := by decide +kernel) (hgT : gloB s.sc y = true := by decide +kernel) (hd : (y == ("__debug__" : Str)) = false := by decide +kernel) {pT : Pos}
    (hs : starEach [a, .Name y pT] X.env = (false, eval a X.env) :: starEach [.Name y pT] X.env := by rfl) (hs2 : (backTo pos (starEach [.Name y pT] X.env)).any (·.1) = false := by rfl) :
    DM g W X (.Call (.Name "isinstance" p) [a, .Name y pT] [] pos) (mUn (fIsE y) ma) := by
  obtain ⟨ta, pa, sa⟩ := ha
  have hy' : y ∈ excN := by simpa using hy
  obtain ⟨C, hC⟩ := ef.all y hy'
  refine ⟨_, pe_callB call_isX (ok.glo hg) (by rw [ok.hmg]; exact bf.isinstance) (by decide +kernel) (pa_cons pa (pa_cons (pe_glob (v := .ref C) (ok.glo hgT) (by rw [ok.hmg]; exact hC) rfl hd) pa_nil) hs) (by decide +kernel) (by decide +kernel) hs hs2, ?_⟩
  intro B F H σ ρ Q E h
  refine sa.then (R := PoE g.K g.mg W B F σ Q) E (fun x ρ' z => z) (fun z => z) h fun d ρ1 v F1 H1 g1 E1 r1 h1 => ?_
  unfold fIsE at h1
  cases e : exN d with
  | none => rw [e] at h1; exact h1.elim
  | some x =>
    rw [e] at h1
    obtain ⟨hd, hx⟩ := exN_of e
    obtain ⟨q, A, rfl, hq, hA⟩ := exc_inv r1 hd
    exact ⟨q, A, _, .ref C, _, rfl, (fun w r => by cases r; rfl), E1.sub _ _ hq, by rw [ok.hK]; exact (ef.cls x hx A hA).1, by rw [ok.hK]; exact ef.isi x hx y hy' A C hA hC, h1 _ F1 H1 g1 E1 (.bl _)⟩
theorem dm_isV (ok : Ok g s k W X) (bf : BF g) (ef : EF g) (hT : g.mg "ValueError" = none) (ha : DM g W X a ma) (hg : gloB s.sc "isinstance" = true := by decide +kernel) (hgT : gloB s.sc "ValueError" = true := by decide +kernel) {pT : Pos}
    (hs : starEach [a, .Name "ValueError" pT] X.env = (false, eval a X.env) :: starEach [.Name "ValueError" pT] X.env := by rfl) (hs2 : (backTo pos (starEach [.Name "ValueError" pT] X.env)).any (·.1) = false := by rfl) :
    DM g W X (.Call (.Name "isinstance" p) [a, .Name "ValueError" pT] [] pos) (mUn fIsV ma) := by
  obtain ⟨ta, pa, sa⟩ := ha
  refine ⟨_, pe_callB call_isX (ok.glo hg) (by rw [ok.hmg]; exact bf.isinstance) (by decide +kernel) (pa_cons pa (pa_cons (pe_bltn (v := .ty "ValueError") (ok.glo hgT) (by rw [ok.hmg]; exact hT) (by decide +kernel) rfl (by decide +kernel) (by decide +kernel)) pa_nil) hs) (by decide +kernel) (by decide +kernel) hs hs2, ?_⟩
  intro B F H σ ρ Q E h
  refine sa.then (R := PoE g.K g.mg W B F σ Q) E (fun x ρ' z => z) (fun z => z) h fun d ρ1 v F1 H1 g1 E1 r1 h1 => ?_
  unfold fIsV at h1
  cases e : exN d with
  | none => rw [e] at h1; exact h1.elim
  | some x =>
    rw [e] at h1
    obtain ⟨hd, hx⟩ := exN_of e
    obtain ⟨q, A, rfl, hq, hA⟩ := exc_inv r1 hd
    exact ⟨q, A, _, .type "ValueError", _, rfl, (fun w r => by cases r; rfl), E1.sub _ _ hq, by rw [ok.hK]; exact (ef.cls x hx A hA).1, by rw [ok.hK]; exact (ef.cls x hx A hA).2, h1 _ F1 H1 g1 E1 (.bl _)⟩
end
end DX

set_option maxHeartbeats 1000000
namespace DX
open PySem PySem.Spec PyProof.Rows L2
/-! ### x[::-1], x a tuple -/
theorem rv_adjust (n : Nat) : Builtin.Slice.sliceAdjust none none (-1) (n : Int) = ((n : Int) - 1, -1) := by
  unfold Builtin.Slice.sliceAdjust
  simp
theorem rv_places (n : Nat) : Builtin.Slice.slicePlaces ((n : Int) - 1) (-1) (-1) = n := by
  unfold Builtin.Slice.slicePlaces
  rw [if_neg (by decide)]
  by_cases h : (n : Int) - 1 > -1
  · rw [if_pos h, show (-(-1) : Int) = 1 by decide, Int.ediv_one]
    omega
  · rw [if_neg h]
    have : n = 0 := by omega
    subst this
    rfl
theorem fm_congr {α β : Type} {f g : α → Option β} : ∀ (l : List α), (∀ x ∈ l, f x = g x) → l.filterMap f = l.filterMap g
  | [], _ => rfl
  | x :: l, h => by rw [List.filterMap_cons, List.filterMap_cons, h x (.head _), fm_congr l fun y hy => h y (.tail _ hy)]
theorem rv_pick (xs : Array Value) : ((List.range xs.size).filterMap fun (m : Nat) => xs[(((xs.size : Int) - 1) + (m : Int) * (-1)).toNat]?).toArray = xs.toList.reverse.toArray := by
  have e : (List.range xs.size).filterMap (fun (m : Nat) => xs[(((xs.size : Int) - 1) + (m : Int) * (-1)).toNat]?) = ((List.range xs.size).map fun k => xs.size - 1 - k).filterMap (xs[·]?) := by
    rw [List.filterMap_map]
    apply fm_congr
    intro m hm
    have := List.mem_range.mp hm
    have e : (((xs.size : Int) - 1) + (m : Int) * (-1)).toNat = xs.size - 1 - m := by omega
    show xs[(((xs.size : Int) - 1) + (m : Int) * (-1)).toNat]? = xs[xs.size - 1 - m]?
    rw [e]
  rw [e, PySem.W.krv_range, List.filterMap_reverse, PySem.W.krv_all]
section
variable {prog : Program} {w : World} {A : Around} {E : Value → Shared → Prop} {s : Shared}
theorem rv_applied {sl : Addr} {vl vu vs : Value} {n : Nat} {Q : Int × Int × Nat → Shared → Prop} (hs : s.heap.IsSliceOf sl vl vu vs) (pl : IsPart vl none) (pu : IsPart vu none) (ps : IsPart vs (some (-1)))
    (h : Q ((n : Int) - 1, -1, n) s) : wpAny (model prog w) A (Builtin.Slice.sliceApplied (.ref sl) (pure (n : Int))) Q E s := by
  obtain ⟨os, hos, hcs, hds⟩ := id hs
  unfold Builtin.Slice.sliceApplied Builtin.Slice.sliceFields
  refine wpAny_bind (wpAny_bind (wpAny_field hos hds (x := vl) rfl (wpAny_bind (wpAny_field hos hds (x := vu) rfl (wpAny_bind (wpAny_field hos hds (x := vs) rfl (wpAny_pure ?_)))))))
  refine wpAny_bind (HT.slicePart_ ps ?_)
  show wpAny _ _ (if ((-1 : Int) == 0) = true then _ else _) _ _ s
  rw [if_neg (by decide)]
  refine wpAny_bind (HT.slicePart_ pl (wpAny_bind (HT.slicePart_ pu (wpAny_bind (wpAny_pure ?_)))))
  show wpAny _ _ (match Builtin.Slice.sliceAdjust none none (-1) (n : Int) with | (lo, hi) => pure (lo, (-1 : Int), Builtin.Slice.slicePlaces lo hi (-1))) _ _ s
  rw [rv_adjust n]
  show wpAny _ _ (pure ((n : Int) - 1, (-1 : Int), Builtin.Slice.slicePlaces ((n : Int) - 1) (-1) (-1))) _ _ s
  rw [rv_places]
  exact wpAny_pure h
theorem rv_get {t sl : Addr} {items : Array Value} {vl vu vs : Value} {Q : Value → Shared → Prop} (ht : IsTup s.heap t items) (hs : s.heap.IsSliceOf sl vl vu vs) (pl : IsPart vl none) (pu : IsPart vu none) (ps : IsPart vs (some (-1)))
    (h : Q (.ref s.heap.objs.size) { s with heap := s.heap.push { cls := .type "tuple", data := .seq items.toList.reverse.toArray } })
    (hsz : items.size ≤ sizeLine) : wpAny (model prog w) A (getItem (.ref t) (.ref sl)) Q E s := by
  have fits : sizeOk (.seq items.toList.reverse.toArray) := by
    show items.toList.reverse.toArray.size ≤ sizeLine
    rw [List.size_toArray, List.length_reverse, Array.length_toList]
    exact hsz
  obtain ⟨os, hos, hcs, hds⟩ := id hs
  unfold getItem
  try with_reducible refine wpAny_holding ?_
  first | refine wpAny_bind (wpAny_pure ?_) | skip
  refine wpAny_bind (wpAny_sequenceKey ht.typeIs (by decide) ?_)
  refine wpAny_bind (wpAny_callSpecial?_slot (name := Str.ofString "__getitem__") ht.typeIs PyProof.Rows.slot_tuple_getitem (wpAny_call_entry PyProof.Rows.slot_tuple_getitem ht.typeIs entry_tuple_getitem ?_ (args_tuple_getitem _ _)))
  show wpAny _ _ (Builtin.Tuple.tupleItemsOf (.ref t) >>= _) _ _ s
  refine wpAny_bind (tupleItemsOf_ ht (wpAny_bind (wpAny_typeOf (show s.TypeIs (.ref sl) "slice" from ⟨os, hos, hcs⟩) ?_)))
  rw [if_pos (by decide)]
  refine wpAny_bind (rv_applied hs pl pu ps ?_)
  show wpAny _ _ (if (((items.size : Int) - 1) == 0 && (-1 : Int) == 1 && items.size == items.size) = true then _ else _) _ _ s
  rw [if_neg (by simp), rv_pick]
  first
    | exact wpAny_bind (m := Builtin.Tuple.tupleExact _) (wpAny_newObj_type (wpAny_pure ⟨_, rfl, wpAny_pure h⟩) fits)
    | exact wpAny_bind (m := Builtin.Tuple.tupleExact _) (wpAny_newObj_type (wpAny_bind (wpAny_pure (wpAny_pure ⟨_, rfl, wpAny_pure h⟩))) fits)
    | exact wpAny_bind (wpAny_bind (m := Builtin.Tuple.tupleExact _) (wpAny_newObj_type (wpAny_pure (wpAny_pure ⟨_, rfl, wpAny_pure h⟩)) fits))
    | exact wpAny_bind (wpAny_bind (m := Builtin.Tuple.tupleExact _) (wpAny_newObj_type (wpAny_pure ⟨_, rfl, wpAny_pure h⟩) fits))
end
def tRevT (K : PySem.W.Frag) (te : TE) : TE := fun σ H Q => te σ H fun x H1 => ∃ a xs, x = .ref a ∧ SqT K H1 a xs ∧ ∀ p o, H1 p = none → o.dict = none → Q (.ref p) (upd H1 p (.frz o (.tup xs.reverse)))
section
variable {X : Cx}
theorem pe_revT {e : Expr} {te : TE} {k : Nat} {p1 p2 p3 pos : Pos} (he : PE X e te) : PE X (.Subscript e (.Slice none none (some (.UnaryOp .USub (.Constant (.int 1) k p1) p2)) p3) pos) (tRevT X.K te) := by
  refine ⟨fun pins s σ H Q I h => Subscript_ (thn (he.run pins s σ H _ I h) fun v s1 ⟨x, H1, I1, r1, a, xs, ex, hx, q⟩ => ?_)⟩
  subst ex
  cases r1
  have hst : PO X (some (.UnaryOp .USub (.Constant (.int 1) k p1) p2)) (tPart (tUn (rU fun i => .int (-i)) (tC (.int 1)))) := po_some (pe_un un_neg pe_int)
  refine wpAny_Slice (thn (po_none.run pins s1 σ H1 (fun o H2 => o = none ∧ H2 = H1) I1 ⟨rfl, rfl⟩) fun vl s2 ⟨l, H2, I2, pl, el, e2⟩ => ?_)
  subst el e2
  refine thn (po_none.run pins s2 σ H2 (fun o H3 => o = none ∧ H3 = H2) I2 ⟨rfl, rfl⟩) fun vu s3 ⟨u, H3, I3, pu, eu, e3⟩ => ?_
  subst eu e3
  refine thn (hst.run pins s3 σ H3 (fun o H4 => o = some (-1) ∧ H4 = H3) I3 ⟨1, rfl, -1, rfl, rfl, rfl⟩) fun vs s4 ⟨o, H4, I4, ps, eo, e4⟩ => ?_
  subst eo e4
  have I5 : Inv X pins σ H4 { s4 with heap := s4.heap.push { cls := .type "slice", data := .fields #[vl, vu, vs] } } := I4.kept (t' := s4.toks) fun b ob q => Heap.get?_push_of_some _ q
  obtain ⟨its, r, ht, hz⟩ := I5.tuple hx
  have hlen := r.length
  show wpAny (model X.prog X.w) X.A (subscriptTail e (.Slice none none (some (.UnaryOp .USub (.Constant (.int 1) k p1) p2)) p3) (.ref a) (.ref s4.heap.objs.size)) (EP X pins σ Q) X.xe { s4 with heap := s4.heap.push { cls := .type "slice", data := .fields #[vl, vu, vs] } }
  refine tail_any (ops := [.ref a, .ref s4.heap.objs.size]) ht.typeIs (PyProof.Rows.slot_tuple_getitem.lookup) ?_ (by with_unfolding_all rfl)
  refine rv_get (items := its.toArray) ht (Heap.IsSliceOf.new _ vl vu vs) pl pu ps ?_ (by rw [List.size_toArray]; omega)
  exact ⟨.ref _, _, laidZ I5 (xs := xs.reverse) (us := its.reverse) r.reverse (by rw [List.length_reverse]; exact hz), rfl, q _ _ (I5.hok.fresh (Nat.le_refl _)) rfl⟩
def fRev : D → Option D
  | .tuple ds => some (.tuple ds.reverse)
  | _ => none
variable {g : GC} {s : SS} {k : Nat} {W : WX} {a : Expr} {ma : M D}
theorem dm_rev (ok : Ok g s k W X) (ha : DM g W X a ma) {k' : Nat} {p1 p2 p3 pos : Pos} : DM g W X (.Subscript a (.Slice none none (some (.UnaryOp .USub (.Constant (.int 1) k' p1) p2)) p3) pos) (mUn fRev ma) := by
  obtain ⟨ta, pa, sa⟩ := ha
  refine ⟨_, pe_revT pa, fun B F H σ ρ Q E h => ?_⟩
  refine sa.then (R := PoE g.K g.mg W B F σ Q) E (fun x ρ' z => z) (fun z => z) h fun d ρ1 v F1 H1 g1 E1 r1 h1 => ?_
  unfold fRev at h1
  split at h1
  · cases r1 with
    | tup h2 n2 z2 r2 =>
      rename_i xs
      refine ⟨_, xs, rfl, .inl (.inr ⟨_, E1.sub _ _ h2⟩), fun p o np nd => ?_⟩
      have gw : Grow F1 H1 (upd F1 p (.frz o (.tup xs.reverse))) (upd H1 p (.frz o (.tup xs.reverse))) := Grow.laid E1.sub np
      exact h1 _ _ _ (g1.trans (gw.gr E1.subB)) (E1.grow gw) (.tup upd_same nd (by rw [List.length_reverse]; exact z2) (r2.rev.mono gw.subF))
  · exact h1.elim
end
/-! ### the body of a def that holds a try -/
section
variable {g : GC} {x : Str} {params : Arguments} {body : List Stmt} {scope : Scope} {f : Addr} {fd : FuncData} {N ps : List Str} {k : Nat} {m : MS}
theorem fd_okT (F : FunD g.K.K x x params body scope [] [] f fd) (S : FnScope N ps scope)
    (hbody : ∀ (W : WX) (X : Cx), Ok g ⟨N, scope, none⟩ k W X → X.stack = X.env :: X.outer → X.env.frame = some X.env.locals → DSs g W [] X body m) : FnOk g.K.P g.K.w g.K.K g.mg g.base (L2.CX g.K.P g.K.w) (k + 1) f fd ps (spD g.K g.mg ps.length (runF N.length m)) := by
  refine F.ok S (fun vs H Q E h => ?_) (fun cdv A outer s H vs Q E hr h => ?_)
  · obtain ⟨F, ds, _, r, hl, _⟩ := h
    rw [r.length, hl]
  · obtain ⟨F0, ds, hs, r, hl, po⟩ := h
    have hpN : ps.length ≤ N.length := by have := congrArg List.length S.pre; rw [List.length_take] at this; omega
    obtain ⟨t, pt, st⟩ := hbody (fun cls d _ H => E cls d H) _ (ok_body (g := g) (E := E) (outer := outer) (H := H) S hr) rfl rfl
    refine ⟨t, pt, ?_⟩
    refine st H F0 H (L2.start N vs) (rho0 N.length ds) _ (env_start hs r (by omega)) ?_
    have gw : ∀ {F' H' : Hp} {σ' : L2.St} {ρ' : Rho}, Gr H F0 F' → Env g.K H F' H' σ' ρ' → Grow F0 H F' H' := fun gr E => ⟨gr.sub, E.subB, E.sub, gr.new⟩
    unfold runF at po
    cases em : m (rho0 N.length ds) with
    | next ρ' => rw [em] at po; exact fun F' H' σ' gr _ E' => po .non F' H' (gw gr E') .non
    | ret d ρ' => rw [em] at po; exact fun v F' H' σ' gr _ E' r => po v F' H' (gw gr E') r
    | brk ρ' => rw [em] at po; exact po.elim
    | cont ρ' => rw [em] at po; exact po.elim
    | exc y ρ' => rw [em] at po; exact fun C F' H' σ' e gr _ E' => po C F' H' e (gw gr E')
    | bad => rw [em] at po; exact po.elim
theorem fd_mkT (F : FunD g.K.K x x params body scope [] [] f fd) (S : FnScope N ps scope) (hm : g.mg x = some (.ref f))
    (hb : ∀ (kV doc pm : Value) (an : Option Addr) (cdv ct : Value) (us : List Value), us.length = ps.length → bindArgs (PySem.W.fnOf x x params body scope .none kV doc pm an cdv ct) ⟨us, []⟩ = pure (ps.zip us))
    (hbody : ∀ (W : WX) (X : Cx), Ok g ⟨N, scope, none⟩ k W X → X.stack = X.env :: X.outer → X.env.frame = some X.env.locals → DSs g W [] X body m) : FD g x (k + 1) ps (runF N.length m) :=
  ⟨f, fd, hm, F.kp, F.bindsN hb, fd_okT F S hbody⟩
end
end DX

set_option maxHeartbeats 1000000
namespace DX
open PySem PySem.Spec PyProof.Rows L2
/-! ### the facts of the exception classes, looked up in the written part -/
def exOne (K : PySem.W.Frag) (C : Addr) : Bool :=
  He.eqO (PySem.W.findIn K (.ref C) "__getattribute__") (some (some (.builtin "BaseException.__getattribute__"))) &&
  (He.eqO (PySem.W.findIn K (.ref C) "__getattr__") (some none) &&
  (decide (PySem.W.subIn K (.ref C) (.type "BaseException") = some true) &&
  (PySem.W.hasDictIn K C &&
  (He.eqO (PySem.W.findIn K (.ref C) "__class__") (some (some (.builtin "object.__class__"))) &&
  (He.eqO (PySem.W.specialIn K (.builtin "object.__class__") "__get__") (some (some (.builtin "getset_descriptor.__get__"))) &&
  (decide (PySem.W.takesIn K (.builtin "object.__class__") = some true) && decide (PySem.W.mroIn K C (.type "object") = some true)))))))
theorem exOne_ok {K : PySem.W.Frag} {C : Addr} (h : exOne K C = true) : ExcC K C := by
  unfold exOne at h
  simp only [Bool.and_eq_true] at h
  obtain ⟨h1, h2, h3, h4, h5, h6, h7, h8⟩ := h
  exact ⟨He.eqO_ok h1, He.eqO_ok h2, of_decide_eq_true h3, h4, He.eqO_ok h5, He.eqO_ok h6, of_decide_eq_true h7, of_decide_eq_true h8⟩
def exRow (K : PySem.W.Frag) (x : Str) : Bool :=
  (He.Fa.glo x).ok K && (exOne K (He.ga K x) && (decide (PySem.W.exmOne K (.ref (He.ga K x)) (.ref (He.ga K "DimensionError")) = some true) && (decide (PySem.W.kitOne K (.ref (He.ga K x)) (.type "ValueError") = some true) &&
  excN.all fun y => decide (PySem.W.kitOne K (.ref (He.ga K x)) (.ref (He.ga K y)) = some (x == y)))))
def excB (K : PySem.W.Frag) : Bool := (He.Fa.glo "DimensionError").ok K && ((He.Fa.free "ValueError").ok K && excN.all fun x => exRow K x)
theorem ef_of {P : Program} {w : World} {K : PySem.W.Frag} {h base : Heap} {mg : Str → Option Value} (X : K.In h) (G : h.Ns mainGlobals mg) (c : excB K = true) : EF ⟨⟨P, w, K, mg⟩, base⟩ ∧ mg "ValueError" = none := by
  unfold excB at c
  simp only [Bool.and_eq_true] at c
  obtain ⟨c1, c2, c3⟩ := c
  have row : ∀ x ∈ excN, (He.Fa.glo x).ok K = true ∧ exOne K (He.ga K x) = true ∧ PySem.W.exmOne K (.ref (He.ga K x)) (.ref (He.ga K "DimensionError")) = some true ∧ PySem.W.kitOne K (.ref (He.ga K x)) (.type "ValueError") = some true ∧
      ∀ y ∈ excN, PySem.W.kitOne K (.ref (He.ga K x)) (.ref (He.ga K y)) = some (x == y) := fun x hx => by
    have r := List.all_eq_true.mp c3 x hx
    unfold exRow at r
    simp only [Bool.and_eq_true] at r
    obtain ⟨r1, r2, r3, r4, r5⟩ := r
    exact ⟨r1, r2, of_decide_eq_true r3, of_decide_eq_true r4, fun y hy => of_decide_eq_true (List.all_eq_true.mp r5 y hy)⟩
  have at_ : ∀ x ∈ excN, ∀ A, mg x = some (.ref A) → A = He.ga K x := fun x hx A e => by
    have z := e.symm.trans (He.glo_ok X G (row x hx).1)
    cases z; rfl
  refine ⟨⟨fun y hy => ⟨_, He.glo_ok X G (row y hy).1⟩, ⟨_, He.glo_ok X G c1, fun x hx A e => ?_⟩, fun x hx A e => ?_, fun x hx y hy A C e1 e2 => ?_⟩, He.free_ok X G c2⟩
  · rw [at_ x hx A e]; exact (row x hx).2.2.1
  · rw [at_ x hx A e]; exact ⟨exOne_ok (row x hx).2.1, (row x hx).2.2.2.1⟩
  · rw [at_ x hx A e1, at_ y hy C e2]; exact (row x hx).2.2.2.2 y hy
/-- the hook with one more look -/
abbrev AlP : Type := Bool × He.AlD
def obsP (p : PySem.W.Frag → Bool) (n : Nat) (fa : List He.Fa) (fn : List He.DefD) (g : Addr → Option Obj) : AlP := (p (He.frG g (He.asD g n)), He.obsDG n fa fn g)
def hookP (p : PySem.W.Frag → Bool) (n : Nat) (fa : List He.Fa) (fn : List He.DefD) : PySem.W.Hook where
  α := AlP
  obs := fun s => obsP p n fa fn s.heap.get?
  val := fun _ => (true, He.valD fn)
  says := fun _ h => ∃ K : PySem.W.Frag, K.In h ∧ He.SaysD fa fn K ∧ p K = true
  of := fun _ _ e => ⟨_, He.frG_in, congrArg (fun z : AlP => z.2) e, congrArg (fun z : AlP => z.1) e⟩
  keeps := fun _ _ _ ⟨K, hK, c⟩ k => ⟨K, PySem.W.Frag.In.keeps hK k, c⟩
theorem obsP_eq {p : PySem.W.Frag → Bool} {n : Nat} {fa : List He.Fa} {fn : List He.DefD} {g : Addr → Option Obj} {s : Shared} (h : ∀ a, g a = s.heap.get? a) : obsP p n fa fn g = (hookP p n fa fn).obs s := by
  have e : g = s.heap.get? := funext h
  rw [e]; rfl
end DX

set_option maxHeartbeats 1000000
namespace DX
open PySem PySem.Spec PyProof.Rows L2
/-! ### the order of rows of ints -/
theorem lex_irr : ∀ a : List Int, HT.lexLt a a = false
  | [] => rfl
  | x :: a => by rw [HT.lexLt_cons, if_pos rfl]; exact lex_irr a
theorem lex_asym : ∀ a b : List Int, HT.lexLt a b = true → HT.lexLt b a = false
  | [], [], h => by rw [HT.lexLt_nil_nil] at h; cases h
  | [], _ :: _, _ => rfl
  | _ :: _, [], h => by rw [HT.lexLt_cons_nil] at h; cases h
  | x :: a, y :: b, h => by
    rw [HT.lexLt_cons] at h ⊢
    by_cases e : x = y
    · rw [if_pos e] at h; rw [if_pos e.symm]; exact lex_asym a b h
    · rw [if_neg e] at h; rw [if_neg (fun z => e z.symm)]
      have := of_decide_eq_true h
      exact decide_eq_false (by omega)
theorem lex_eq : ∀ a b : List Int, HT.lexLt a b = false → HT.lexLt b a = false → a = b
  | [], [], _, _ => rfl
  | [], _ :: _, h, _ => by rw [HT.lexLt_nil_cons] at h; cases h
  | _ :: _, [], _, h => by rw [HT.lexLt_nil_cons] at h; cases h
  | x :: a, y :: b, h, h' => by
    rw [HT.lexLt_cons] at h h'
    by_cases e : x = y
    · rw [if_pos e] at h; rw [if_pos e.symm] at h'; rw [e, lex_eq a b h h']
    · rw [if_neg e] at h; rw [if_neg (fun z => e z.symm)] at h'
      have h1 := of_decide_eq_false h
      have h2 := of_decide_eq_false h'
      exact absurd (by omega) e
theorem lex_trans : ∀ a b c : List Int, HT.lexLt a b = true → HT.lexLt b c = true → HT.lexLt a c = true
  | [], [], _, h, _ => by rw [HT.lexLt_nil_nil] at h; cases h
  | [], _ :: _, [], _, h => by rw [HT.lexLt_cons_nil] at h; cases h
  | [], _ :: _, _ :: _, _, _ => rfl
  | _ :: _, [], _, h, _ => by rw [HT.lexLt_cons_nil] at h; cases h
  | _ :: _, _ :: _, [], _, h => by rw [HT.lexLt_cons_nil] at h; cases h
  | x :: a, y :: b, z :: c, h, h' => by
    rw [HT.lexLt_cons] at h h' ⊢
    by_cases e1 : x = y
    · subst e1
      rw [if_pos rfl] at h
      by_cases e2 : x = z
      · rw [if_pos e2] at h' ⊢; exact lex_trans a b c h h'
      · rw [if_neg e2] at h' ⊢; exact h'
    · rw [if_neg e1] at h
      have h1 := of_decide_eq_true h
      by_cases e2 : y = z
      · subst e2; rw [if_neg e1]; exact decide_eq_true h1
      · rw [if_neg e2] at h'
        have h2 := of_decide_eq_true h'
        rw [if_neg (by omega)]; exact decide_eq_true (by omega)
theorem lex_swo {α : Type} (k : α → List Int) : SrtO.Swo fun v u => HT.lexLt (k v) (k u) := by
  refine ⟨fun x y h => lex_asym _ _ h, fun x y z h1 h2 => ?_⟩
  cases q : HT.lexLt (k z) (k x) with
  | false => rfl
  | true =>
    cases q2 : HT.lexLt (k x) (k y) with
    | true => rw [lex_trans _ _ _ q q2] at h2; cases h2
    | false => rw [lex_eq _ _ q2 h1, h2] at q; cases q
/-! sorted rows, as data -/
def insR (a : List Int) : List (List Int) → List (List Int)
  | [] => [a]
  | b :: l => if HT.lexLt b a = true then b :: insR a l else a :: b :: l
def sortR : List (List Int) → List (List Int)
  | [] => []
  | a :: l => insR a (sortR l)
abbrev SrtR (l : List (List Int)) : Prop := l.Pairwise fun a b => HT.lexLt b a = false
theorem insR_perm (a : List Int) : ∀ l : List (List Int), (insR a l).Perm (a :: l)
  | [] => List.Perm.refl _
  | b :: l => by
    unfold insR
    split
    · exact ((insR_perm a l).cons b).trans (List.Perm.swap ..)
    · exact List.Perm.refl _
theorem sortR_perm : ∀ l : List (List Int), (sortR l).Perm l
  | [] => List.Perm.refl _
  | a :: l => (insR_perm a _).trans ((sortR_perm l).cons a)
theorem lex_ntrans {a b c : List Int} (h1 : HT.lexLt b a = false) (h2 : HT.lexLt c b = false) : HT.lexLt c a = false := (lex_swo (fun x : List Int => x)).tr a b c h1 h2
theorem insR_srt (a : List Int) : ∀ {l : List (List Int)}, SrtR l → SrtR (insR a l)
  | [], _ => by unfold insR; exact List.pairwise_singleton ..
  | b :: l, h => by
    obtain ⟨h1, h2⟩ := List.pairwise_cons.mp h
    unfold insR
    split
    · rename_i hb
      refine List.pairwise_cons.mpr ⟨fun c hc => ?_, insR_srt a h2⟩
      rcases List.mem_cons.mp ((insR_perm a l).mem_iff.mp hc) with rfl | hc
      · exact lex_asym _ _ hb
      · exact h1 c hc
    · rename_i hb
      have hb : HT.lexLt b a = false := by simpa using hb
      refine List.pairwise_cons.mpr ⟨fun c hc => ?_, h⟩
      rcases List.mem_cons.mp hc with rfl | hc
      · exact hb
      · exact lex_ntrans hb (h1 c hc)
theorem sortR_srt : ∀ l : List (List Int), SrtR (sortR l)
  | [] => List.Pairwise.nil
  | a :: l => insR_srt a (sortR_srt l)
/-- a sorted rearrangement is the sorted list -/
theorem srt_uniq : ∀ {l m : List (List Int)}, SrtR l → SrtR m → l.Perm m → l = m
  | [], m, _, _, h => (List.Perm.eq_nil h.symm).symm
  | x :: l, [], _, _, h => absurd h.length_eq (by simp)
  | x :: l, y :: m, hl, hm, h => by
    obtain ⟨a1, a2⟩ := List.pairwise_cons.mp hl
    obtain ⟨b1, b2⟩ := List.pairwise_cons.mp hm
    have e : x = y := by
      have hx := h.mem_iff.mp (List.mem_cons_self (a := x) (l := l))
      have hy := h.mem_iff.mpr (List.mem_cons_self (a := y) (l := m))
      rcases List.mem_cons.mp hx with e | hx
      · exact e
      · rcases List.mem_cons.mp hy with e | hy
        · exact e.symm
        · exact lex_eq _ _ (b1 x hx) (a1 y hy)
    subst e
    rw [srt_uniq a2 b2 h.cons_inv]
theorem sortR_eq {l m : List (List Int)} (hm : SrtR m) (h : m.Perm l) : sortR l = m := srt_uniq (sortR_srt l) hm ((sortR_perm l).trans h.symm)
/-! ### sorted(x), x a list, a tuple or a dict of rows of ints -/
/-- a tuple of ints, not empty -/
def IsRow (h : Heap) (v : Value) (ns : List Int) : Prop := ∃ (a : Addr) (o : Obj) (its : List Value) (n : Nat), v = .ref a ∧ h.get? a = some o ∧ o.cls = .type "tuple" ∧ o.data = .seq its.toArray n ∧ IntsAre its ns ∧ ns ≠ []
theorem IsRow.keep {h h' : Heap} {v : Value} {ns : List Int} (p : IsRow h v ns) (k : ∀ b o, h.get? b = some o → o.cls = .type "tuple" → h'.get? b = some o) : IsRow h' v ns := by
  obtain ⟨a, o, its, n, e, ho, hc, r⟩ := p
  exact ⟨a, o, its, n, e, k _ _ ho hc, hc, r⟩
theorem rows_firsts {h : Heap} {k : Value → List Int} : ∀ {vs : List Value}, (∀ v ∈ vs, IsRow h v (k v)) → ∃ fs : List Value, PySem.W.KatTups h vs fs ∧ fs.length = vs.length ∧ ∀ f ∈ fs, ∃ x t, f = Value.int x t
  | [], _ => ⟨[], PySem.W.KatTups.nil, rfl, fun _ hm => by cases hm⟩
  | v :: vs, hp => by
    obtain ⟨fs, h1, h2, h3⟩ := rows_firsts (vs := vs) fun v' hm => hp v' (List.mem_cons_of_mem _ hm)
    obtain ⟨a, o, its, n, rfl, ho, hc, hd, hi, hne⟩ := hp v List.mem_cons_self
    generalize k (Value.ref a) = ns at hi hne
    cases hi with
    | nil => exact absurd rfl hne
    | cons x t r =>
      refine ⟨.int x t :: fs, PySem.W.KatTups.cons ho hc hd (by simp) h1, by simp [h2], fun f hm => ?_⟩
      rcases List.mem_cons.mp hm with rfl | hm
      · exact ⟨x, t, rfl⟩
      · exact h3 f hm
section
variable {prog : Program} {w : World} {A : Around} {E : Value → Shared → Prop} {s : Shared}
theorem rows_lex {fin : Bool} {Q : Bool → Shared → Prop} : ∀ {us vs : List Value} {a b : List Int} (i : Nat), IntsAre us a → IntsAre vs b → (∀ r : Bool, r = HT.lexLt a b → Q r s) → (fin = decide (us.length < vs.length)) → PySem.W.KatLex prog w A true fin Q (us.zip vs) i s
  | _, _, _, _, i, .nil, .nil, h, e => PySem.W.kat_nil (h fin (by rw [e]; rfl))
  | _, _, _, _, i, .nil, .cons y u r, h, e => PySem.W.kat_nil (h fin (by rw [e]; rfl))
  | _, _, _, _, i, .cons x t r, .nil, h, e => PySem.W.kat_nil (h fin (by rw [e]; rfl))
  | _, _, _, _, i, .cons x t r, .cons y u r', h, e => by
    refine PySem.W.kat_cons (SeqAt.EqAt.int_int x t y u prog w _ _ ?_)
    refine PySem.W.kat_go (fun e1 => PySem.W.kat_yes (rows_lex (i + 1) r r' (fun q hq => h q ?_) ?_)) fun e1 => PySem.W.kat_no ?_
    · have ex : x = y := by simpa using e1
      rw [HT.lexLt_cons, if_pos ex]; exact hq
    · rw [e]; simp
    · have ex : ¬ x = y := by simpa using e1
      have hQ : Q (decide (x < y)) s := h _ (by rw [HT.lexLt_cons, if_neg ex])
      cases i with
      | zero => exact oneLt_int hQ
      | succ i => exact PySem.W.kat_one _ _ (PyProof.Rows.lt_int hQ)
theorem rows_cmp {vs : List Value} {k : Value → List Int} (hp : ∀ v ∈ vs, IsRow s.heap v (k v)) : SrtO.Cmp prog w A s (tuples' true) (fun p => p.1 ∈ vs) (SrtO.lt2 fun v u => HT.lexLt (k v) (k u)) := by
  intro p q hm hm'
  obtain ⟨a, o, its, n, e, ho, hc, hd, hi, _⟩ := hp _ hm
  obtain ⟨a', o', its', n', e', ho', hc', hd', hi', _⟩ := hp _ hm'
  show wpAny (model prog w) A (keyLt' (tuples' true) p.1 q.1) (fun r s' => s' = s ∧ r = HT.lexLt (k p.1) (k q.1)) (fun _ _ => False) s
  generalize k p.1 = x at hi ⊢
  generalize k q.1 = y at hi' ⊢
  rw [e, e']
  exact PySem.W.kat_lt ho hd ho' hd' (rows_lex 0 hi hi' (fun r hr => ⟨rfl, hr⟩) (by simp))
theorem rows_sortable {a : Addr} {vs : List Value} {k : Value → List Int} (h0 : 0 < vs.length) (hp : ∀ v ∈ vs, IsRow s.heap v (k v)) (ha : ∀ o, s.heap.get? a = some o → o.cls ≠ .type "tuple") : SrtO.SortableO prog w A s a vs fun v u => HT.lexLt (k v) (k u) := by
  intro h' keep
  have hp' : ∀ v ∈ vs, IsRow h' v (k v) := fun v hm => (hp v hm).keep fun b o e c => keep b o (fun z => by subst z; exact ha o e c) e
  obtain ⟨fs, h1, h2, h3⟩ := rows_firsts hp'
  refine ⟨tuples' true, fun Q E hq => PySem.W.kat_kind (T := .type "int") h1 (by omega) (fun f hm => ?_) rfl ?_, rows_cmp hp'⟩
  · obtain ⟨x, t, rfl⟩ := h3 f hm; exact PySem.W.Looks.now
  · rw [show (Value.type "int" != Value.type "tuple") = true by first | decide +kernel | rfl | decide]; exact hq
/-- what sorted collects -/
def Coll (prog : Program) (w : World) (A : Around) (E : Value → Shared → Prop) (s : Shared) (r : Addr) (vs : List Value) : Prop :=
  ∀ R : List Value → Shared → Prop, (∀ (h' : Heap) (tk : Nat), (∀ b o, s.heap.get? b = some o → h'.get? b = some o) → R vs { s with heap := h', toks := tk }) → wpAny (model prog w) A (collect (.ref r)) R E s
theorem coll_list {l : Addr} {vs : List Value} (hl : s.heap.IsList l vs.toArray) (hz : vs.length ≤ sizeLine) : Coll prog w A E s l vs := fun R h =>
  collect_list hl (h _ s.toks fun b o e => by
    have hlt : b < s.heap.objs.size := Heap.lt_size e
    rw [Heap.get?_update_ne _ _ _ _ (Nat.ne_of_lt hlt)]
    exact Heap.get?_push_of_some _ e) hz
theorem coll_tuple {l : Addr} {o : Obj} {n : Nat} {vs : List Value} (ho : s.heap.get? l = some o) (hc : o.cls = .type "tuple") (hd : o.data = .seq vs.toArray n) (hz : vs.length ≤ sizeLine) : Coll prog w A E s l vs := fun R h => by
  have hk : ∀ b o, s.heap.get? b = some o → ((s.heap.push (seqObj "list" #[] 0)).update s.heap.objs.size (Obj.mapSeq (· ++ vs.toArray))).get? b = some o := fun b o e => by
    rw [Heap.get?_update_ne _ _ _ _ (Nat.ne_of_lt (Heap.lt_size e))]; exact Heap.get?_push_of_some _ e
  unfold collect
  refine wpAny_bind (wpAny_runValue (codeAny_builtin entry_proto_collect' ?_))
  show wpAny _ _ (newList [] >>= fun x => again (.builtin "list.__iadd__" ⟨[x, .ref l], []⟩)) _ _ s
  refine wpAny_bind (wpAny_newList (wpAny_pure ⟨Code.quiet_builtin _ (by decide +kernel), codeAny_builtin entry_list_iadd' ?_⟩))
  have ho' : (s.heap.push (seqObj "list" #[] 0)).get? l = some o := Heap.get?_push_of_some _ ho
  show wpAny _ _ (Builtin.List.listExtendWith (.ref s.heap.objs.size) (.ref l) (.ref s.heap.objs.size)) _ _ { s with heap := s.heap.push (seqObj "list" #[] 0) }
  unfold Builtin.List.listExtendWith; refine wpAny_bind (wpAny_typeOf (T := "tuple") ⟨o, ho', hc⟩ ?_)
  rw [if_pos (by rw [show (Value.type "tuple" == Value.type "tuple") = true by rfl]; simp)]
  refine wpAny_bind (listItems_at ho' hd (wpAny_bind (listItems_at (xs := #[]) (n := 0) (Heap.get?_push_size _ rfl) rfl ?_)))
  rw [if_neg (by simp)]
  refine wpAny_bind (listUpdate_at (xs := #[]) (n := 0) (Heap.get?_push_size _ rfl) rfl (wpAny_pure ?_) (Nat.zero_le _) (by simp; omega))
  refine wpAny_bind (wpAny_load (get?_update_seq (Heap.get?_push_size _ rfl) _) ?_)
  show wpAny _ _ (pure ((#[] : Array Value) ++ vs.toArray).toList) R E _
  rw [show ((#[] : Array Value) ++ vs.toArray).toList = vs by simp]
  exact wpAny_pure (h _ s.toks hk)
/-- the keys of a dict, told by its entries -/
theorem src_dict {K : Type} [DecidableEq K] {d : Addr} {es : Array DictEntry} {ep : Nat} (lo : (d == sysModules) = false) :
    PySem.W.KdlSrc prog w "dict" d d es.size (fun i v => ∃ hi : i < es.size, v = es[i].key) (fun h => h.DictRaw d es ep) where
  type := fun _ hm => hm.typeIs
  there := fun _ hm => ⟨let ⟨_, ho, _⟩ := hm; Heap.lt_size ho, let ⟨_, ho, _⟩ := hm; Heap.lt_size ho⟩
  keep := fun _ _ hm hk => hm.at fun o e => hk d (.inl rfl) o e
  notList := by decide
  notTuple := by decide
  hint := fun _ _ _ _ hm hq => PySem.W.kdl_hint_dict hm.typeIs hq
  iter := fun _ s hh hm => ⟨_, _, (fun _ _ hq => wpAny_pyIter_dict_raw lo hm hq), Walks.rawKeys hh _ d (let ⟨_, ho, _⟩ := hm; Nat.ne_of_lt (Heap.lt_size ho)) es ep, ⟨⟨_, Heap.get?_push_size _ rfl, rfl, rfl⟩, hm.at fun o e => Heap.get?_push_of_some _ e⟩⟩
theorem coll_dict {d : Addr} {xs : List (List Key × Addr × Value)} (lo : (d == sysModules) = false) (hh : A.handled = none) (hd : s.heap.DictOfH (tupleKind (mixKind prog w)) d xs) (hz : xs.length ≤ sizeLine) : Coll prog w A E s d (xs.map fun x => .ref x.2.1) := fun R h => by
  obtain ⟨es, ep, hr, hs, hx⟩ := hd.raw
  refine PySem.W.kdu_collect (src_dict (K := Nat) (es := es) (ep := ep) lo) hh hr (by rw [hs]; exact hz) fun h' tk acc hk hacc => ?_
  have e : acc.toList = xs.map fun x => .ref x.2.1 := by
    apply List.ext_getElem?
    intro i
    rw [List.getElem?_map, Array.getElem?_toList]
    by_cases hi : i < es.size
    · obtain ⟨y, h1, h2, _⟩ := hx i hi
      have hia : i < acc.size := by rw [hacc.1]; exact hi
      obtain ⟨_, e2⟩ := hacc.2 i acc[i] (Array.getElem?_eq_getElem hia)
      rw [h1, Array.getElem?_eq_getElem hia, e2, h2]; rfl
    · rw [Array.getElem?_eq_none (by rw [hacc.1]; omega), List.getElem?_eq_none (by omega)]; rfl
  rw [e]
  exact h h' tk hk
theorem sortedBy {r : Addr} {vs : List Value} {k : Value → List Int} {Q : Value → Shared → Prop} (hz : vs.length ≤ sizeLine) (hc : Coll prog w A.in1 E s r vs) (hp : ∀ v ∈ vs, IsRow s.heap v (k v))
    (h : ∀ (h1 h' : Heap) (tk : Nat) (d : Addr) (out : List Value), SrtO.Srtd (fun v u => HT.lexLt (k v) (k u)) out → SrtO.Stb (fun v u => HT.lexLt (k v) (k u)) out vs → (∀ b o, s.heap.get? b = some o → h1.get? b = some o) → (∀ b o, h1.get? b = some o → h'.get? b = some o) → h1.objs.size ≤ d → (∃ n, h'.get? d = some (seqObj "list" out.toArray n)) → Q (.ref d) { s with heap := h', toks := tk }) :
    wpAny (model prog w) A (call (.builtin "sorted") [.ref r]) Q E s := by
  refine Calls.call_function_entry kind_sorted plain_sorted entry_sorted (args_sorted1 _) ?_
  unfold Builtin.«sorted»; refine wpAny_bind (m := checkCount "sorted" 1 1 _) (wpAny_pure ?_)
  refine wpAny_bind (hc _ fun h1 tk hk => wpAny_bind (wpAny_newList ?_ hz))
  have hoL : (h1.push (seqObj "list" vs.toArray 0)).get? h1.objs.size = some (seqObj "list" vs.toArray 0) := Heap.get?_push_size _ rfl
  have keep : ∀ b o, h1.get? b = some o → b ≠ h1.objs.size ∧ (h1.push (seqObj "list" vs.toArray 0)).get? b = some o := fun b o q => ⟨Nat.ne_of_lt (Heap.lt_size q), Heap.get?_push_of_some _ q⟩
  refine wpAny_bind (wpAny_holding (wpAny_call_entry slot_list_sort ⟨_, hoL, rfl⟩ entry_list_sort (SrtO.list_sort_ord (lex_swo k) hoL hz (fun h2 => ?_) fun out hs hb => ⟨_, rfl, ?_⟩) (args_list_sort _)))
  · refine rows_sortable (by omega) (fun v hm => (hp v hm).keep fun b o e _ => (keep b o (hk b o e)).2) fun o e => ?_
    have e' : some o = some (seqObj "list" vs.toArray 0) := e.symm.trans hoL
    cases e'
    exact fun c => absurd (Value.type.inj c) (by decide)
  · obtain ⟨ep, he⟩ := PyProof.Rows.sortedHeap_at (vs := vs) (out := out.toArray) hoL
    exact wpAny_pure ⟨_, rfl, h h1 _ _ _ out hs hb hk (fun b o e => by rw [PyProof.Rows.sortedHeap_old (keep b o e).1 (Heap.lt_size (keep b o e).2)]; exact (keep b o e).2) (Nat.le_refl _) ⟨ep, he⟩⟩
end
/-! as rules by values -/
abbrev ltR (k : V → List Int) (x y : V) : Bool := HT.lexLt (k x) (k y)
/-- the row at x -/
def RowAt (H : Hp) (x : V) (ns : List Int) : Prop := ∃ (t : Addr) (o : Obj), x = V.ref t ∧ H t = some (.frz o (.tup (ns.map V.int))) ∧ ns ≠ []
theorem ints_vals : ∀ {ns : List Int} {its : List Value}, Vals (ns.map V.int) its → IntsAre its ns
  | [], _, .nil => .nil
  | n :: ns, _, .cons r t => by
    obtain ⟨tk, rfl⟩ := r
    exact .cons n tk (ints_vals t)
section
variable {X : Cx}
theorem sort_core {pins : List (Addr × Obj)} {s : Shared} {σ : L2.St} {H : Hp} {r : Addr} {xs : List V} {its : List Value} {k : V → List Int} {Q : VK} (I : Inv X pins σ H s) (rv : Vals xs its) (hz : its.length ≤ sizeLine) (hc : Coll X.prog X.w X.A.in1 X.xe s r its)
    (hx : ∀ x ∈ xs, RowAt H x (k x)) (q : ∀ ys p, SrtO.Srtd (ltR k) ys → SrtO.Stb (ltR k) ys xs → H p = none → Q (.ref p) (upd H p (.lst ys))) : wpAny (model X.prog X.w) X.A (call (.builtin "sorted") [.ref r]) (EP X pins σ Q) X.xe s := by
  obtain ⟨e1, e2⟩ := refs_back rv fun x m => by
    obtain ⟨t, _, e, _⟩ := hx x m
    exact ⟨t, e⟩
  refine sortedBy (k := fun u => k (backV u)) hz hc (fun v hv => ?_) fun h1 h' tk d out g1 g2 k1 k2 hd hn => ?_
  · obtain ⟨t, rfl⟩ := e2 v hv
    have hm : V.ref t ∈ xs := by rw [e1]; exact List.mem_map.mpr ⟨_, hv, rfl⟩
    obtain ⟨t', o, e, ht, hne⟩ := hx _ hm
    cases e
    obtain ⟨_, _, its2, r2, ob, ho, hcl, n, hdt⟩ := (show ObjOk X.prog X.w H s.heap t (.frz o (.tup ((k (V.ref t)).map V.int))) from I.hok _ _ ht)
    exact ⟨t, ob, its2, n, rfl, ho, hcl, hdt, ints_vals r2, hne⟩
  · have I1 : Inv X pins σ H { s with heap := h1, toks := tk } := I.kept k1
    have h3 : ∀ u ∈ out, ∃ a, u = Value.ref a := fun u hu => e2 u (g2.perm.mem_iff.mp hu)
    obtain ⟨n, hn⟩ := hn
    have hb : SrtO.Stb (ltR k) (out.map backV) xs := by rw [e1]; exact SrtO.Stb.map (lex_swo k) backV g2
    refine ⟨.ref d, upd H d (.lst (out.map backV)), I1.laid (t' := tk) k2 hd ⟨?_, out, n, vals_back h3, hn⟩, rfl, q _ d (SrtO.srtd_map g1) hb (I1.hok.fresh hd)⟩
    rw [hb.len, rv.length]; exact hz
/-- sorted(x) of a list or a tuple of rows -/
def rSortR (K : PySem.W.Frag) : List V → Hp → VK → Prop := fun vs H Q => ∃ (a : Addr) (xs : List V) (k : V → List Int), vs = [V.ref a] ∧ (SqL K H a xs ∨ SqT K H a xs) ∧ (∀ x ∈ xs, RowAt H x (k x)) ∧
  ∀ ys p, SrtO.Srtd (ltR k) ys → SrtO.Stb (ltR k) ys xs → H p = none → Q (.ref p) (upd H p (.lst ys))
theorem cr_sortR : CallR X (.builtin "sorted") (rSortR X.K) := by
  intro pins s σ H vs us Q I r h
  obtain ⟨a, xs, k, rfl, hs, hx, q⟩ := h
  obtain ⟨u, rfl, ru⟩ := vals1 r
  obtain rfl : u = Value.ref a := ru
  rcases hs with hs | hs
  · obtain ⟨its, rv, hl, hz⟩ := I.list hs
    have hz' : its.length ≤ sizeLine := by rw [← rv.length]; exact hz
    exact sort_core I rv hz' (coll_list hl.isList hz') hx q
  · obtain ⟨its, rv, ⟨o, ho, hcl, n, hdt⟩, hz⟩ := I.tuple hs
    have hz' : its.length ≤ sizeLine := by rw [← rv.length]; exact hz
    exact sort_core I rv hz' (coll_tuple ho hcl hdt hz') hx q
/-- sorted(d) of a dict with rows as keys -/
def rSortD (P : Program) (w : World) : List V → Hp → VK → Prop := fun vs H Q => ∃ (a : Addr) (es : List DEnt) (k : V → List Int), vs = [V.ref a] ∧ DicH P w H a es ∧ (∀ x ∈ es.map fun e => V.ref e.b, RowAt H x (k x)) ∧
  (es.length ≤ sizeLine → ∀ ys p, SrtO.Srtd (ltR k) ys → SrtO.Stb (ltR k) ys (es.map fun e => V.ref e.b) → H p = none → Q (.ref p) (upd H p (.lst ys)))
theorem vals_ents : ∀ {es : List DEnt} {xs : List (List Key × Addr × Value)}, Paired DRel es xs → Vals (es.map fun e => V.ref e.b) (xs.map fun x => Value.ref x.2.1)
  | _, _, .nil => .nil
  | _, _, .cons h t => .cons (by show Value.ref _ = Value.ref _; rw [h.2.1]) (vals_ents t)
theorem cr_sortD (hcalm : X.calm = true) : CallR X (.builtin "sorted") (rSortD X.prog X.w) := by
  intro pins s σ H vs us Q I r h
  obtain ⟨a, es, k, rfl, ⟨hd, he⟩, hx, q⟩ := h
  obtain ⟨u, rfl, ru⟩ := vals1 r
  obtain rfl : u = Value.ref a := ru
  obtain ⟨z, lo, xs, rel, dd⟩ := dicZ I.hok hd he
  have hl : xs.length ≤ sizeLine := by rw [← Paired.length rel]; exact z
  exact sort_core I (vals_ents rel) (by rw [List.length_map]; exact hl) (coll_dict lo (I.ok.hd hcalm) dd hl) hx (q z)
end
/-! ### as data -/
/-- rows of ints, none empty -/
def rowsD : List D → Option (List (List Int))
  | [] => some []
  | .tuple ds :: r => match intsOf ds, rowsD r with
    | some (n :: ns), some l => some ((n :: ns) :: l)
    | _, _ => none
  | _ :: _ => none
abbrev rwD (ns : List Int) : D := .tuple (ns.map .int)
def fSort : List D → Option Ob
  | [.list ds] => (rowsD ds).map fun l => .lst ((sortR l).map rwD)
  | [.tuple ds] => (rowsD ds).map fun l => .lst ((sortR l).map rwD)
  | _ => none
/-- the row that stands at x -/
def keyR (F : Hp) : V → List Int
  | .ref t => (match F t with
    | some (.frz _ (.tup xs)) => xs.map fun x => match x with
      | .int i => i
      | _ => 0
    | _ => [])
  | _ => []
theorem keyR_at {F : Hp} {x : V} {ns : List Int} (h : RowAt F x ns) : keyR F x = ns := by
  obtain ⟨t, o, rfl, e, _⟩ := h
  simp only [keyR, e, List.map_map]
  exact List.map_id'' (fun _ => rfl) ns
theorem rowsD_at {K : KC} {F : Hp} : ∀ {ds : List D} {vs : List V} {l : List (List Int)}, RpA K F vs ds → rowsD ds = some l → (∀ x ∈ vs, RowAt F x (keyR F x) ∧ Rp K F x (rwD (keyR F x))) ∧ vs.map (keyR F) = l
  | [], _, l, r, h => by
    cases r
    simp [rowsD] at h
    subst h
    exact ⟨fun x hx => (by cases hx), rfl⟩
  | d :: ds, _, l, r, h => by
    cases r with
    | cons r1 r2 =>
    rename_i v vs
    unfold rowsD at h
    split at h
    · rename_i heq; cases heq
    · rename_i ds' rr heq
      cases heq
      split at h
      · rename_i n ns l' e1 e2
        cases h
        obtain ⟨h1, h2⟩ := rowsD_at r2 e2
        have r1' := r1
        rw [intsOf_eq e1] at r1'
        have hrow : RowAt F v (n :: ns) := by
          cases r1' with
          | tup g1 n1 z1 rr => rw [rr.ints] at g1; exact ⟨_, _, rfl, g1, by simp⟩
        have hk := keyR_at hrow
        refine ⟨fun x hx => ?_, by rw [List.map_cons, hk, h2]⟩
        rcases List.mem_cons.mp hx with rfl | hx
        · rw [hk]; exact ⟨hrow, r1'⟩
        · exact h1 x hx
      · cases h
    · cases h
theorem RpA_of {K : KC} {F : Hp} {f : V → D} : ∀ {ys : List V}, (∀ y ∈ ys, Rp K F y (f y)) → RpA K F ys (ys.map f)
  | [], _ => .nil
  | y :: ys, h => .cons (h y List.mem_cons_self) (RpA_of fun z hz => h z (List.mem_cons_of_mem _ hz))
/-- what stands in the sorted list -/
theorem sorted_data {K : KC} {F : Hp} {xs ys : List V} {l : List (List Int)} (h : ∀ x ∈ xs, Rp K F x (rwD (keyR F x))) (hl : xs.map (keyR F) = l) (h1 : SrtO.Srtd (ltR (keyR F)) ys) (h2 : SrtO.Stb (ltR (keyR F)) ys xs) : RpA K F ys ((sortR l).map rwD) := by
  have e : sortR l = ys.map (keyR F) := sortR_eq (List.pairwise_map.mpr h1) (by rw [← hl]; exact h2.perm.map _)
  rw [e, List.map_map]
  exact RpA_of fun y hy => h y (h2.perm.mem_iff.mp hy)
section
variable {g : GC} {s : SS} {k : Nat} {W : WX} {pin : List Nat} {X : Cx} {pos p px : Pos} {a b e : Expr} {ma mb : M D} {na : M (List D)}
theorem RowAt.up {F H : Hp} {x : V} {ns : List Int} (s : Sub F H) (h : RowAt F x ns) : RowAt H x ns := by
  obtain ⟨t, o, e, ht, hn⟩ := h
  exact ⟨t, o, e, s _ _ ht, hn⟩
theorem dl_sort (ok : Ok g s k W X) (bf : BF g) (ha : DA g W X [a] na) (hg : gloB s.sc "sorted" = true := by decide +kernel) (hs : starEach [a] X.env = [(false, eval a X.env)] := by rfl) : DL g W X (.Call (.Name "sorted" p) [a] [] pos) (mAppL fSort na) :=
  dl_callB ok cr_sortR (fun F H xs ds z Q s rx h q => by
    unfold fSort at h
    split at h
    · rename_i ds'
      obtain ⟨v, rfl, r⟩ := rp1 rx
      cases r with
      | lst h1 z1 r1 =>
      cases ep : rowsD ds' with
      | none => rw [ep] at h; cases h
      | some l =>
      rw [ep] at h
      cases h
      obtain ⟨g1, g2⟩ := rowsD_at r1 ep
      refine ⟨_, _, keyR F, rfl, .inl (by rw [ok.hK]; exact (h1.mono s).sq), fun x hx => (g1 x hx).1.up s, fun ys p h3 h4 np => ?_⟩
      have hd := sorted_data (fun x hx => (g1 x hx).2) g2 h3 h4
      exact q p F _ (Grow.made s np) np (s.nn np) ⟨ys, upd_same, by rw [h4.len]; exact z1, hd⟩
    · rename_i ds'
      obtain ⟨v, rfl, r⟩ := rp1 rx
      cases r with
      | tup h1 n1 z1 r1 =>
      cases ep : rowsD ds' with
      | none => rw [ep] at h; cases h
      | some l =>
      rw [ep] at h
      cases h
      obtain ⟨g1, g2⟩ := rowsD_at r1 ep
      refine ⟨_, _, keyR F, rfl, .inr (.inl (.inr ⟨_, s _ _ h1⟩)), fun x hx => (g1 x hx).1.up s, fun ys p h3 h4 np => ?_⟩
      have hd := sorted_data (fun x hx => (g1 x hx).2) g2 h3 h4
      exact q p F _ (Grow.made s np) np (s.nn np) ⟨ys, upd_same, by rw [h4.len]; exact z1, hd⟩
    · cases h) bf.sorted (by decide +kernel) ha hg (he := hs)
/-! sorted(d), d an own dict with rows as keys -/
def rowsK : List (List Int × D) → Option (List (List Int))
  | [] => some []
  | (n :: ns, _) :: r => (rowsK r).map fun l => (n :: ns) :: l
  | _ => none
def mSortT (i : Nat) : M Ob := fun ρ => match ownT ρ i with
  | some kvs => lft ((rowsK kvs).map fun l => .lst ((sortR l).map rwD)) ρ
  | none => .bad
theorem ints_rp {K : KC} {F : Hp} : ∀ ns : List Int, RpA K F (ns.map V.int) (ns.map PyData.int)
  | [] => .nil
  | n :: ns => .cons (.int n) (ints_rp ns)
theorem rowsK_at {K : KC} {F : Hp} : ∀ {kvs : List (List Int × D)} {es : List DEnt} {l : List (List Int)}, RT K F es kvs → (∀ x ∈ es, KeyG F x.b x.k) → rowsK kvs = some l → (∀ x ∈ es.map fun e => V.ref e.b, RowAt F x (keyR F x) ∧ Rp K F x (rwD (keyR F x))) ∧ (es.map fun e => V.ref e.b).map (keyR F) = l
  | [], [], l, _, _, h => by simp [rowsK] at h; subst h; exact ⟨fun x hx => (by cases hx), rfl⟩
  | [], _ :: _, _, r, _, _ => by simp [RT] at r
  | _ :: _, [], _, r, _, _ => by simp [RT] at r
  | (ns, d) :: kvs, e :: es, l, r, hk, h => by
    obtain ⟨r1, r2, r3⟩ := r.uncons
    cases ns with
    | nil => simp [rowsK] at h
    | cons n ns =>
    unfold rowsK at h
    cases q : rowsK kvs with
    | none => rw [q] at h; cases h
    | some l' =>
    rw [q] at h
    cases h
    obtain ⟨h1, h2⟩ := rowsK_at r3 (fun x hx => hk x (List.mem_cons_of_mem _ hx)) q
    obtain ⟨o, ho, hdn, hzl⟩ := hk e List.mem_cons_self
    have r1 : e.k = toK (n :: ns) := r1
    rw [r1, toK_kV] at ho
    rw [r1] at hzl
    have hrow : RowAt F (V.ref e.b) (n :: ns) := ⟨_, _, rfl, ho, by simp⟩
    have hkey := keyR_at hrow
    refine ⟨fun x hx => ?_, by rw [List.map_cons, List.map_cons, hkey, h2]⟩
    rcases List.mem_cons.mp hx with rfl | hx
    · rw [hkey]; exact ⟨hrow, .tup ho hdn (by simpa [toK] using hzl) (ints_rp _)⟩
    · exact h1 x hx
theorem dl_sortT (ok : Ok g s k W X) (bf : BF g) (i : Nat) {x : Str} (sl : Sl s i x) (hg : gloB s.sc "sorted" = true := by decide +kernel) : DL g W X (.Call (.Name "sorted" p) [.Name x px] [] pos) (mSortT i) := by
  refine ⟨_, pe_callB (cr_sortD ok.calm) (ok.glo hg) (by rw [ok.hmg]; exact bf.sorted) (by decide +kernel) (pa_cons (sl.pe ok) pa_nil) (by decide +kernel) (by decide +kernel) rfl rfl, fun B F H σ ρ Q E h => ?_⟩
  unfold mSortT at h
  cases eo : ownT ρ i with
  | none => rw [eo] at h; exact h.elim
  | some kvs =>
  rw [eo] at h
  simp only at h
  cases er : rowsK kvs with
  | none => rw [er] at h; exact h.elim
  | some l =>
  rw [er] at h
  obtain ⟨q, a1, a2, a3, es, a4, a5, a6, a7⟩ := E.own i _ (ownT_of eo)
  obtain ⟨g1, g2⟩ := rowsK_at ⟨a6, a7⟩ a5 er
  refine ⟨.ref q, a1, q, es, keyR F, rfl, ⟨by rw [ok.hP, ok.hw]; exact a4, fun x hx => (a5 x hx).at E.sub⟩, fun x hx => (g1 x hx).1.up E.sub, fun hlz ys p h3 h4 np => ?_⟩
  have hd := sorted_data (fun x hx => (g1 x hx).2) g2 h3 h4
  have gw : Grow F H F (upd H p (.lst ys)) := Grow.made E.sub np
  exact h p F _ (gw.gr E.subB) (E.grow gw) (E.sub.nn np) (E.subB.nn np) ⟨ys, upd_same, by rw [h4.len, List.length_map]; exact hlz, hd⟩ (fresh_own E np)
end
end DX

set_option maxHeartbeats 1000000
namespace DX
open PySem PySem.Spec PyProof.Rows L2
/-! ### comprehensions with two generators -/
def compL2 (gs : D → Rho → Option Rho) (test : M Bool) (mi1 : M (List D)) (gs1 : D → Rho → Option Rho) (test1 : M Bool) (elt : M D) (vs vs1 : List Nat) : List D → Rho → MR (List D)
  | [], ρ => .ok [] ρ
  | x :: xs, ρ => match gs x ρ with
    | none => .bad
    | some ρ1 => cBnd (test ρ1) fun b ρ2 => match b with
      | true => cBnd (mi1 ρ2) fun ys ρ3 => cBnd (compL gs1 test1 elt vs1 ys (wipeR ρ3 vs1)) fun ds ρ4 => cBnd (compL2 gs test mi1 gs1 test1 elt vs vs1 xs (wipeR ρ4 vs)) fun es ρ5 => .ok (ds ++ es) ρ5
      | false => compL2 gs test mi1 gs1 test1 elt vs vs1 xs (wipeR ρ2 vs)
def mComp2 (n : Nat) (mi : M (List D)) (gs : D → Rho → Option Rho) (test : M Bool) (mi1 : M (List D)) (gs1 : D → Rho → Option Rho) (test1 : M Bool) (elt : M D) (vs vs1 : List Nat) : M Ob := fun ρ => bnd (mi ρ) fun xs ρ1 =>
  if noOwn ρ1 vs = true ∧ ρ1.length ≤ n then cBnd (compL2 gs test mi1 gs1 test1 elt vs vs1 xs (wipeR ρ1 vs)) fun ds ρ2 => (if ds.length ≤ sizeLine then .ok (.lst ds) (unw ρ1 vs ρ2) else .bad) else .bad
theorem wipe_none {σ : L2.St} {vs : List Nat} {i : Nat} (hi : i ∈ vs) (hl : i < σ.length) : (L2.wipe σ vs)[i]? = some none := by
  have hl' : i < (L2.wipe σ vs).length := by rw [L2.wipe_length]; exact hl
  rw [List.getElem?_eq_getElem hl']
  cases q : (L2.wipe σ vs)[i] with
  | none => rfl
  | some x => exact absurd hi (L2.wipe_some (x := x) (by rw [List.getElem?_eq_getElem hl', q])).2
theorem wipe_wipe {σ : L2.St} {vs vs1 : List Nat} (h : ∀ i ∈ vs1, i ∈ vs) : L2.wipe (L2.wipe σ vs1) vs = L2.wipe σ vs := by
  apply List.ext_getElem?
  intro i
  by_cases hl : i < σ.length
  · by_cases hi : i ∈ vs
    · rw [wipe_none hi (by rw [L2.wipe_length]; exact hl), wipe_none hi hl]
    · rw [L2.wipe_out hi, L2.wipe_out hi, L2.wipe_out (fun z => hi (h i z))]
  · rw [List.getElem?_eq_none (by rw [L2.wipe_length, L2.wipe_length]; omega), List.getElem?_eq_none (by rw [L2.wipe_length]; omega)]
section
variable {g : GC} {W : WX} {X : Cx}
theorem sim_lc2 {lo lo1 : Bool} {wi wi1 : TI} {gt gt1 : TG} {tt tt1 : TT} {te : TE} {n : Nat} {vs vs1 : List Nat} {mi mi1 : M (List D)} {gs gs1 : D → Rho → Option Rho} {test test1 : M Bool} {elt : M D} (hvs : ∀ i ∈ vs1, i ∈ vs)
    (hi : ∀ B F H σ ρ (R : It → Hp → Prop), Env g.K B F H σ ρ → (match mi ρ with
      | .ok xs ρ' => ∀ J F' H', Gr B F F' → Env g.K B F' H' σ ρ' → ItR lo g.K F' J xs → R J H'
      | .exc x ρ' => ∀ C F' H', g.mg x = some (.ref C) → Gr B F F' → Env g.K B F' H' σ ρ' → W (.ref C) none σ H'
      | .bad => False) → wi σ H R)
    (hg : ∀ B F H σ ρ v x (Q : L2.St → Hp → Prop), Env g.K B F H σ ρ → Item lo g.K F H v x → (match gs x ρ with
      | some ρ' => ∀ σ', Kp (compPin n vs) σ σ' → Env g.K B F H σ' ρ' → Q σ' H
      | none => False) → gt v σ H Q)
    (ht : SimT g.K g.mg W0 tt test)
    (hi1 : ∀ B F H σ ρ (R : It → Hp → Prop), Env g.K B F H σ ρ → (match mi1 ρ with
      | .ok xs ρ' => ∀ J F' H', Gr B F F' → Env g.K B F' H' σ ρ' → ItR lo1 g.K F' J xs → R J H'
      | .exc x ρ' => ∀ C F' H', g.mg x = some (.ref C) → Gr B F F' → Env g.K B F' H' σ ρ' → W0 (.ref C) none σ H'
      | .bad => False) → wi1 σ H R)
    (hg1 : ∀ B F H σ ρ v x (Q : L2.St → Hp → Prop), Env g.K B F H σ ρ → Item lo1 g.K F H v x → (match gs1 x ρ with
      | some ρ' => ∀ σ', Kp (compPin n vs1) σ σ' → Env g.K B F H σ' ρ' → Q σ' H
      | none => False) → gt1 v σ H Q)
    (ht1 : SimT g.K g.mg W0 tt1 test1) (he : SimE g.K g.mg W0 te elt) : SimL g.K g.mg W (tLc2 wi gt tt wi1 gt1 tt1 te vs vs1) (mComp2 n mi gs test mi1 gs1 test1 elt vs vs1) := by
  intro B F H σ ρ Q E h
  refine hi B F H σ ρ _ E ?_
  unfold mComp2 at h
  cases ei : mi ρ with
  | bad => rw [ei] at h; exact h
  | exc x ρ1 => rw [ei] at h; exact h
  | ok xs ρ1 =>
  rw [ei] at h
  simp only [bnd_ok] at h
  split at h
  case isFalse => exact h.elim
  rename_i hz
  obtain ⟨hno, hn⟩ := hz
  cases ec : compL2 gs test mi1 gs1 test1 elt vs vs1 xs (wipeR ρ1 vs) with
  | bad => rw [ec] at h; exact h.elim
  | exc x ρ2 => rw [ec] at h; exact h.elim
  | ok ds ρe =>
  rw [ec] at h
  simp only [cBnd_ok] at h
  split at h
  case isFalse => exact h.elim
  rename_i hds
  intro J F1 H1 g1 E1 hJ Dq nD
  have E1w : Env g.K B F1 H1 (L2.wipe σ vs) (wipeR ρ1 vs) := E1.wipe vs
  have hσn : σ.length ≤ n := by rw [← E1.len]; exact hn
  have hlen : ∀ i, i < σ.length → i ∉ vs → i ∈ compPin n vs := fun i hi hv => mem_compPin (by omega) hv
  have nB : B Dq = none := E1.subB.nn nD
  have nF : F1 Dq = none := E1.sub.nn nD
  refine ⟨fun i m H' => m = xs.length - i ∧ i ≤ xs.length ∧ ∃ F' ρ' acc dacc rest, Gr B F1 F' ∧ Env g.K B F' H' (L2.wipe σ vs) ρ' ∧ H' Dq = some (.lst acc) ∧ RpA g.K F' acc dacc ∧ F' Dq = none ∧
      (∀ (i : Nat) (o' : Ob), ρ'[i]? = some (.own o') → (L2.wipe σ vs)[i]? = some (some (.ref Dq)) → False) ∧ compL2 gs test mi1 gs1 test1 elt vs vs1 (xs.drop i) ρ' = .ok rest ρe ∧ dacc ++ rest = ds, ?_, ?_⟩
  · refine ⟨xs.length, by simp, Nat.zero_le _, F1, wipeR ρ1 vs, [], [], ds, Gr.refl, ?_, upd_same, .nil, nF, fresh_own E1w nD, by simpa using ec, rfl⟩
    exact E1w.other nF nB (fresh_own E1w nD)
  rintro i m H2 ⟨rfl, hi', F2, ρ2, acc, dacc, rest, g2, E2, hD2, racc, nF2, no2, e2, ed⟩
  obtain ⟨hstop, hgo⟩ := hJ F2 H2 g2.sub E2.sub
  by_cases hlt : i < xs.length
  · have ex : xs[i]? = some xs[i] := List.getElem?_eq_getElem hlt
    have edr : xs.drop i = xs[i] :: xs.drop (i + 1) := List.drop_eq_getElem_cons hlt
    obtain ⟨go, yl⟩ := hgo i xs[i] ex
    rw [edr] at e2
    unfold compL2 at e2
    refine .inr ⟨go, fun H' => ∃ F' ρ' acc dacc rest, Gr B F1 F' ∧ Env g.K B F' H' (L2.wipe σ vs) ρ' ∧ H' Dq = some (.lst acc) ∧ RpA g.K F' acc dacc ∧ F' Dq = none ∧
      (∀ (i : Nat) (o' : Ob), ρ'[i]? = some (.own o') → (L2.wipe σ vs)[i]? = some (some (.ref Dq)) → False) ∧ compL2 gs test mi1 gs1 test1 elt vs vs1 (xs.drop (i + 1)) ρ' = .ok rest ρe ∧ dacc ++ rest = ds, fun H' hN => ⟨xs.length - (i + 1), by omega, rfl, hlt, hN⟩, fun v H3 hy => ?_⟩
    obtain ⟨F3, gw, it⟩ := yl v H3 hy
    have E3 := E2.grow gw
    have g3 := gw.gr E2.subB
    have hD3 : H3 Dq = some (.lst acc) := gw.subH _ _ hD2
    have nF3 : F3 Dq = none := by
      cases q : F3 Dq with
      | none => rfl
      | some u =>
        rcases gw.new Dq (by rw [q]; exact fun z => nomatch z) with a | a
        · exact absurd nF2 a
        · rw [hD2] at a; cases a
    have E3' := E3.addB hD3 no2
    refine hg (upd B Dq (.lst acc)) F3 H3 (L2.wipe σ vs) ρ2 v xs[i] _ E3' it ?_
    cases eg : gs xs[i] ρ2 with
    | none => rw [eg] at e2; cases e2
    | some ρ3 =>
    rw [eg] at e2
    intro σ4 k4 E4
    have ew : L2.wipe σ4 vs = L2.wipe σ vs := wipe_eq k4 hlen
    refine ⟨ew, ?_⟩
    simp only at e2
    cases et : test ρ3 with
    | bad => rw [et] at e2; cases e2
    | exc _ _ => rw [et] at e2; cases e2
    | ok b ρ5 =>
    rw [et] at e2
    simp only [cBnd_ok] at e2
    refine ht.thenC E4 et fun F5 H5 g5 E5 => ?_
    have nF5 := g5.stayN nF3
    cases b with
    | false =>
      rw [if_neg (by decide)]
      simp only at e2
      have E6 := E5.wipe vs
      rw [ew] at E6
      exact ⟨F5, wipeR ρ5 vs, acc, dacc, rest, (g2.trans g3).trans g5.dropB, E6.dropB nB, E5.subB _ _ upd_same, (racc.mono gw.subF).mono g5.sub, nF5, E6.notOwn, e2, ed⟩
    | true =>
      rw [if_pos rfl]
      simp only at e2
      cases em : mi1 ρ5 with
      | bad => rw [em] at e2; cases e2
      | exc _ _ => rw [em] at e2; cases e2
      | ok ys ρ6 =>
      rw [em] at e2
      simp only [cBnd_ok] at e2
      cases ecy : compL gs1 test1 elt vs1 ys (wipeR ρ6 vs1) with
      | bad => rw [ecy] at e2; cases e2
      | exc _ _ => rw [ecy] at e2; cases e2
      | ok ds1 ρe1 =>
      rw [ecy] at e2
      simp only [cBnd_ok] at e2
      cases er : compL2 gs test mi1 gs1 test1 elt vs vs1 (xs.drop (i + 1)) (wipeR ρe1 vs) with
      | bad => rw [er] at e2; cases e2
      | exc _ _ => rw [er] at e2; cases e2
      | ok es ρ7 =>
      rw [er] at e2
      simp only [cBnd_ok] at e2
      cases e2
      refine hi1 _ F5 H5 σ4 ρ5 _ E5 ?_
      rw [em]
      intro J1 F6 H6 g6 E6 hJ1
      have nF6 := g6.stayN nF5
      have hl4 : σ4.length ≤ n := by
        have := congrArg List.length ew
        rw [L2.wipe_length, L2.wipe_length] at this
        omega
      have hlen1 : ∀ i, i < σ4.length → i ∉ vs1 → i ∈ compPin n vs1 := fun i hi hv => mem_compPin (by omega) hv
      have E6w := E6.wipe vs1
      have gB : Gr B F1 F6 := ((g2.trans g3).trans g5.dropB).trans g6.dropB
      refine ⟨fun j k H' => k = ys.length - j ∧ j ≤ ys.length ∧ ∃ F' ρ' acc dacc rest, Gr B F6 F' ∧ Env g.K B F' H' (L2.wipe σ4 vs1) ρ' ∧ H' Dq = some (.lst acc) ∧ RpA g.K F' acc dacc ∧ F' Dq = none ∧
          (∀ (i : Nat) (o' : Ob), ρ'[i]? = some (.own o') → (L2.wipe σ4 vs1)[i]? = some (some (.ref Dq)) → False) ∧ compL gs1 test1 elt vs1 (ys.drop j) ρ' = .ok rest ρe1 ∧ dacc ++ rest ++ es = ds, ?_, ?_⟩
      · refine ⟨ys.length, by simp, Nat.zero_le _, F6, wipeR ρ6 vs1, acc, dacc, ds1, Gr.refl, E6w.dropB nB, E6.subB _ _ upd_same, ((racc.mono gw.subF).mono g5.sub).mono g6.sub, nF6, E6w.notOwn, by simpa using ecy, by rw [List.append_assoc]; exact ed⟩
      rintro j k H8 ⟨rfl, hj', F8, ρ8, acc8, dacc8, rest8, g8, E8, hD8, racc8, nF8, no8, e8, ed8⟩
      obtain ⟨hstop1, hgo1⟩ := hJ1 F8 H8 g8.sub E8.sub
      by_cases hjl : j < ys.length
      · have ey : ys[j]? = some ys[j] := List.getElem?_eq_getElem hjl
        have edy : ys.drop j = ys[j] :: ys.drop (j + 1) := List.drop_eq_getElem_cons hjl
        obtain ⟨go1, yl1⟩ := hgo1 j ys[j] ey
        rw [edy] at e8
        unfold compL at e8
        refine .inr ⟨go1, fun H' => ∃ F' ρ' acc dacc rest, Gr B F6 F' ∧ Env g.K B F' H' (L2.wipe σ4 vs1) ρ' ∧ H' Dq = some (.lst acc) ∧ RpA g.K F' acc dacc ∧ F' Dq = none ∧
          (∀ (i : Nat) (o' : Ob), ρ'[i]? = some (.own o') → (L2.wipe σ4 vs1)[i]? = some (some (.ref Dq)) → False) ∧ compL gs1 test1 elt vs1 (ys.drop (j + 1)) ρ' = .ok rest ρe1 ∧ dacc ++ rest ++ es = ds, fun H' hN => ⟨ys.length - (j + 1), by omega, rfl, hjl, hN⟩, fun v9 H9 hy9 => ?_⟩
        obtain ⟨F9, gw9, it9⟩ := yl1 v9 H9 hy9
        have E9 := E8.grow gw9
        have g9 := gw9.gr E8.subB
        have hD9 : H9 Dq = some (.lst acc8) := gw9.subH _ _ hD8
        have nF9 : F9 Dq = none := by
          cases q : F9 Dq with
          | none => rfl
          | some u =>
            rcases gw9.new Dq (by rw [q]; exact fun z => nomatch z) with a | a
            · exact absurd nF8 a
            · rw [hD8] at a; cases a
        have E9' := E9.addB hD9 no8
        refine hg1 (upd B Dq (.lst acc8)) F9 H9 (L2.wipe σ4 vs1) ρ8 v9 ys[j] _ E9' it9 ?_
        cases eg1 : gs1 ys[j] ρ8 with
        | none => rw [eg1] at e8; cases e8
        | some ρ9 =>
        rw [eg1] at e8
        intro σ10 k10 E10
        have ew1 : L2.wipe σ10 vs1 = L2.wipe σ4 vs1 := wipe_eq k10 hlen1
        refine ⟨ew1, ?_⟩
        simp only at e8
        cases et1 : test1 ρ9 with
        | bad => rw [et1] at e8; cases e8
        | exc _ _ => rw [et1] at e8; cases e8
        | ok b1 ρ11 =>
        rw [et1] at e8
        simp only [cBnd_ok] at e8
        refine ht1.thenC E10 et1 fun F11 H11 g11 E11 => ?_
        have nF11 := g11.stayN nF9
        cases b1 with
        | false =>
          rw [if_neg (by decide)]
          simp only at e8
          have E12 := E11.wipe vs1
          rw [ew1] at E12
          exact ⟨F11, wipeR ρ11 vs1, acc8, dacc8, rest8, (g8.trans g9).trans g11.dropB, E12.dropB nB, E11.subB _ _ upd_same, (racc8.mono gw9.subF).mono g11.sub, nF11, E12.notOwn, e8, ed8⟩
        | true =>
          rw [if_pos rfl]
          simp only at e8
          cases ee : elt ρ11 with
          | bad => rw [ee] at e8; cases e8
          | exc _ _ => rw [ee] at e8; cases e8
          | ok d ρ12 =>
          rw [ee] at e8
          simp only [cBnd_ok] at e8
          cases er1 : compL gs1 test1 elt vs1 (ys.drop (j + 1)) (wipeR ρ12 vs1) with
          | bad => rw [er1] at e8; cases e8
          | exc _ _ => rw [er1] at e8; cases e8
          | ok rest' ρ13 =>
          rw [er1] at e8
          simp only [cBnd_ok] at e8
          cases e8
          refine he.thenC E11 ee fun y F12 H12 g12 E12 r12 => ?_
          have nF12 := g12.stayN nF11
          have hD12 : H12 Dq = some (.lst acc8) := E12.subB _ _ upd_same
          refine ⟨acc8, hD12, ?_, ?_⟩
          · have q1 := racc8.length
            have q2 := congrArg List.length ed8
            simp only [List.length_append, List.length_cons] at q2
            omega
          have E13 := E12.wipe vs1
          rw [ew1] at E13
          have no13 := E13.notOwn
          exact ⟨F12, wipeR ρ12 vs1, acc8 ++ [y], dacc8 ++ [d], rest', ((g8.trans g9).trans g11.dropB).trans g12.dropB, (E13.dropB nB).other nF12 nB no13, upd_same,
            ((((racc8.mono gw9.subF).mono g11.sub).mono g12.sub).append (.cons r12 .nil)), nF12, no13, er1, by rw [List.append_assoc dacc8]; exact ed8⟩
      · have ej : j = ys.length := by omega
        subst ej
        rw [List.drop_length] at e8
        unfold compL at e8
        cases e8
        rw [List.append_nil] at ed8
        refine .inl ⟨hstop1, ?_⟩
        have E14 := E8.wipe vs
        have no14 : ∀ (i : Nat) (o' : Ob), (wipeR ρe1 vs)[i]? = some (.own o') → (L2.wipe σ vs)[i]? = some (some (.ref Dq)) → False := by
          have := (E8.addB hD8 no8).wipe vs
          rw [wipe_wipe hvs, ew] at this
          exact this.notOwn
        rw [wipe_wipe hvs, ew] at E14
        exact ⟨F8, wipeR ρe1 vs, acc8, dacc8, es, gB.trans g8, E14, hD8, racc8, nF8, no14, er, ed8⟩
  · have e : i = xs.length := by omega
    subst e
    rw [List.drop_length] at e2
    unfold compL2 at e2
    cases e2
    rw [List.append_nil] at ed
    subst ed
    refine .inl ⟨hstop, ?_⟩
    have E8 : Env g.K B F2 H2 σ (unw ρ1 vs ρe) := E2.unw (fun i d hi e => by
      obtain ⟨v, a, b⟩ := E1.val i d e
      exact ⟨v, a, b.mono g2.sub⟩) (fun i o hi e => by
      have := List.all_eq_true.mp hno i hi
      rw [e] at this
      cases this)
    refine h Dq F2 H2 (g1.trans g2) E8 nF2 nB ⟨acc, hD2, by rw [racc.length]; exact hds, racc⟩ fun i o' e hs => ?_
    have hi : i ∉ vs := fun hi => by
      have z := unw_in hi e
      have q : ρ1[i]? = some (.own o') := by
        rw [List.getD_eq_getElem?_getD] at z
        cases q : ρ1[i]? with
        | none => rw [q] at z; cases z
        | some c' => rw [q] at z; rw [z]; rfl
      have := List.all_eq_true.mp hno i hi
      rw [q] at this
      cases this
    rw [unw_out hi] at e
    exact no2 i o' e (by rw [L2.wipe_out hi]; exact hs)
end
section
variable {g : GC} {s : SS} {k : Nat} {W : WX} {pin : List Nat} {X : Cx} {pos : Pos} {lo lo1 : Bool}
/-- the readings of an iteration, that depend on nothing else -/
def cI (lo : Bool) (g : GC) (W : WX) (mi : M (List D)) : TI := fun σ H R => ∃ B F ρ, Env g.K B F H σ ρ ∧ (match mi ρ with
  | .ok xs ρ' => ∀ J F' H', Gr B F F' → Env g.K B F' H' σ ρ' → ItR lo g.K F' J xs → R J H'
  | .exc x ρ' => ∀ C F' H', g.mg x = some (.ref C) → Gr B F F' → Env g.K B F' H' σ ρ' → W (.ref C) none σ H'
  | .bad => False)
structure DC2 (lo lo1 : Bool) (g : GC) (s : SS) (k : Nat) (W : WX) (X : Cx) (elt tg iter tg1 iter1 : Expr) (ifs ifs1 : List Expr) (scope : Scope) (own : List (Str × Nat)) (vs1 : List Nat) (mi mi1 : M (List D)) (gs gs1 : D → Rho → Option Rho) (test test1 : M Bool) (me : M D) : Prop where
  hi : DI lo g W X tg iter mi
  hg : ∀ X', Ok g (s.block scope) k W0 X' → DG lo g (compPin s.N.length (own.map (·.2))) X' tg gs
  ht : ∀ X', Ok g (s.block scope) k W0 X' → DTs g W0 X' ifs test
  hi1 : ∀ X', Ok g (s.block scope) k W0 X' → DI lo1 g W0 X' tg1 iter1 mi1
  hg1 : ∀ X', Ok g (s.block scope) k W0 X' → DG lo1 g (compPin s.N.length vs1) X' tg1 gs1
  ht1 : ∀ X', Ok g (s.block scope) k W0 X' → DTs g W0 X' ifs1 test1
  he : ∀ X', Ok g (s.block scope) k W0 X' → DM g W0 X' elt me
  hb : blkC s.N s.sc scope own = true := by decide +kernel
  hv : (vs1.all fun i => (own.map (·.2)).contains i) = true := by decide +kernel
  hs : ∀ x, foldedSetIterable iter X.env x = pure x := by intro _; rfl
  hs1 : ∀ env x, foldedSetIterable iter1 env x = pure x := by intro _ _; rfl
theorem DI.pi {tg iter : Expr} {mi : M (List D)} (h : DI lo g W X tg iter mi) : PI X tg iter (cI lo g W mi) := by
  obtain ⟨t, p, q⟩ := h
  exact ⟨fun pins s σ H R I ⟨B, F, ρ, E, po⟩ => p.run pins s σ H R I (q B F H σ ρ R E po)⟩
variable {elt tg iter tg1 iter1 : Expr} {ifs ifs1 : List Expr} {scope : Scope} {own : List (Str × Nat)} {vs1 : List Nat} {mi mi1 : M (List D)} {gs gs1 : D → Rho → Option Rho} {test test1 : M Bool} {me : M D}
theorem sim_lc2C {wi : TI} {n : Nat} {vs : List Nat} (hvs : ∀ i ∈ vs1, i ∈ vs)
    (hi : ∀ B F H σ ρ (R : It → Hp → Prop), Env g.K B F H σ ρ → (match mi ρ with
      | .ok xs ρ' => ∀ J F' H', Gr B F F' → Env g.K B F' H' σ ρ' → ItR lo g.K F' J xs → R J H'
      | .exc x ρ' => ∀ C F' H', g.mg x = some (.ref C) → Gr B F F' → Env g.K B F' H' σ ρ' → W (.ref C) none σ H'
      | .bad => False) → wi σ H R) : SimL g.K g.mg W (tLc2 wi (cG lo g (compPin n vs) gs) (cT g W0 test) (cI lo1 g W0 mi1) (cG lo1 g (compPin n vs1) gs1) (cT g W0 test1) (cE g W0 me) vs vs1) (mComp2 n mi gs test mi1 gs1 test1 me vs vs1) :=
  sim_lc2 hvs hi (fun B F H σ ρ v x Q E it h => ⟨B, F, ρ, x, E, it, h⟩) (fun B F H σ ρ Q E h => ⟨B, F, ρ, E, h⟩) (fun B F H σ ρ R E h => ⟨B, F, ρ, E, h⟩) (fun B F H σ ρ v x Q E it h => ⟨B, F, ρ, x, E, it, h⟩) (fun B F H σ ρ Q E h => ⟨B, F, ρ, E, h⟩) fun B F H σ ρ Q E h => ⟨B, F, ρ, E, h⟩
theorem DC2.sub (c : DC2 lo lo1 g s k W X elt tg iter tg1 iter1 ifs ifs1 scope own vs1 mi mi1 gs gs1 test test1 me) : ∀ i ∈ vs1, i ∈ own.map (·.2) := fun i hi => by
  have := List.all_eq_true.mp c.hv i hi
  simpa using this
theorem dl_comp2 (ok : Ok g s k W X) (c : DC2 lo lo1 g s k W X elt tg iter tg1 iter1 ifs ifs1 scope own vs1 mi mi1 gs gs1 test test1 me) :
    DL g W X (.ListComp elt [⟨tg, iter, ifs, 0⟩, ⟨tg1, iter1, ifs1, 0⟩] scope pos) (mComp2 s.N.length mi gs test mi1 gs1 test1 me (own.map (·.2)) vs1) := by
  have bo : BlkOk s.N s.sc scope own := blkOk_by c.hb
  obtain ⟨wi, pi, si⟩ := c.hi
  refine ⟨_, pe_lc2 (own := own) (vs1 := vs1) ok.calm ok.ndX pi (by rw [ok.hN, ok.hsc]; exact bo) c.sub (fun sh H C cl fp => (c.hg _ (ok.block bo.kind sh H C cl fp)).pg) (fun sh H C cl fp => (c.ht _ (ok.block bo.kind sh H C cl fp)).pts) (fun sh H C cl fp => (c.hi1 _ (ok.block bo.kind sh H C cl fp)).pi)
    (fun sh H C cl fp => (c.hg1 _ (ok.block bo.kind sh H C cl fp)).pg) (fun sh H C cl fp => (c.ht1 _ (ok.block bo.kind sh H C cl fp)).pts) (fun sh H C cl fp => (c.he _ (ok.block bo.kind sh H C cl fp)).pe) c.hs c.hs1, ?_⟩
  exact sim_lc2C c.sub si
theorem ds_setC2 (ok : Ok g s k W X) (i : Nat) {x : Str} {py spos : Pos} (c : DC2 lo lo1 g s k W X elt tg iter tg1 iter1 ifs ifs1 scope own vs1 mi mi1 gs gs1 test test1 me)
    (hN : s.N[i]? = some x := by rfl) (hl : isLocal s.sc x = true := by decide +kernel) (hp : i ∉ pin := by decide) (hln : (py.line == pos.line) = true := by rfl) (ha : (scope.names.any fun (n, k) => n == x && (k == .local || k == .cell)) = false := by decide +kernel) :
    DS g W pin X (.Assign [.Name x py] (.ListComp elt [⟨tg, iter, ifs, 0⟩, ⟨tg1, iter1, ifs1, 0⟩] scope pos) spos) (sSet i (mLd (mComp2 s.N.length mi gs test mi1 gs1 test1 me (own.map (·.2)) vs1))) := by
  have bo : BlkOk s.N s.sc scope own := blkOk_by c.hb
  have hsub := c.sub
  obtain ⟨wi, pi, si⟩ := c.hi
  have hlX : X.env.scope.names.lookup x = some .local := by rw [ok.hsc]; exact isLocal_of hl
  refine ⟨_, ps_setLc2 (own := own) (vs1 := vs1) ok.calm ok.ndX (ok.at hN) hlX (sw_true (by rw [ok.hsc]; exact ok.kind) hlX hln ha) pi (by rw [ok.hN, ok.hsc]; exact bo) hsub (fun sh H C cl fp => (c.hg _ (ok.block bo.kind sh H C cl fp)).pg) (fun sh H C cl fp => (c.ht _ (ok.block bo.kind sh H C cl fp)).pts)
    (fun sh H C cl fp => (c.hi1 _ (ok.block bo.kind sh H C cl fp)).pi) (fun sh H C cl fp => (c.hg1 _ (ok.block bo.kind sh H C cl fp)).pg) (fun sh H C cl fp => (c.ht1 _ (ok.block bo.kind sh H C cl fp)).pts) (fun sh H C cl fp => (c.he _ (ok.block bo.kind sh H C cl fp)).pe) c.hs c.hs1, ?_⟩
  intro B F H σ ρ D E h
  refine sim_lc2C hsub si B F H σ ρ _ E ?_
  unfold sSet mLd at h
  cases ec : mComp2 s.N.length mi gs test mi1 gs1 test1 me (own.map (·.2)) vs1 ρ with
  | bad => rw [ec] at h; exact h
  | exc x ρ1 => rw [ec] at h; exact fun C F' H' e g' E' => h C F' H' σ e g' Kp.refl E'
  | ok o ρ1 =>
    rw [ec] at h
    intro q F1 H1 g1 E1 hF hB hO hq
    obtain ⟨u, hu⟩ := hO.ex
    exact h (upd F1 q u) H1 _ (g1.trans (Gr.freeze hF hB)) (Kp.set hp) ((E1.freeze hu hF hq).setVal (hO.rp hu hF))
end
end DX

set_option maxHeartbeats 1000000
namespace DX
open PySem PySem.Spec PyProof.Rows L2
/-! ### x[::-1], x a list -/
def tRevL (K : PySem.W.Frag) (te : TE) : TE := fun σ H Q => te σ H fun x H1 => ∃ a xs, x = .ref a ∧ SqL K H1 a xs ∧ ∀ p, H1 p = none → Q (.ref p) (upd H1 p (.lst xs.reverse))
section
variable {X : Cx}
theorem pe_revL {e : Expr} {te : TE} {k : Nat} {p1 p2 p3 pos : Pos} (he : PE X e te) : PE X (.Subscript e (.Slice none none (some (.UnaryOp .USub (.Constant (.int 1) k p1) p2)) p3) pos) (tRevL X.K te) := by
  refine ⟨fun pins s σ H Q I h => Subscript_ (thn (he.run pins s σ H _ I h) fun v s1 ⟨x, H1, I1, r1, a, xs, ex, hx, q⟩ => ?_)⟩
  subst ex
  cases r1
  have hst : PO X (some (.UnaryOp .USub (.Constant (.int 1) k p1) p2)) (tPart (tUn (rU fun i => .int (-i)) (tC (.int 1)))) := po_some (pe_un un_neg pe_int)
  refine wpAny_Slice (thn (po_none.run pins s1 σ H1 (fun o H2 => o = none ∧ H2 = H1) I1 ⟨rfl, rfl⟩) fun vl s2 ⟨l, H2, I2, pl, el, e2⟩ => ?_)
  subst el e2
  refine thn (po_none.run pins s2 σ H2 (fun o H3 => o = none ∧ H3 = H2) I2 ⟨rfl, rfl⟩) fun vu s3 ⟨u, H3, I3, pu, eu, e3⟩ => ?_
  subst eu e3
  refine thn (hst.run pins s3 σ H3 (fun o H4 => o = some (-1) ∧ H4 = H3) I3 ⟨1, rfl, -1, rfl, rfl, rfl⟩) fun vs s4 ⟨o, H4, I4, ps, eo, e4⟩ => ?_
  subst eo e4
  have I5 : Inv X pins σ H4 { s4 with heap := s4.heap.push { cls := .type "slice", data := .fields #[vl, vu, vs] } } := I4.kept (t' := s4.toks) fun b ob q => Heap.get?_push_of_some _ q
  obtain ⟨its, r, ht, hz⟩ := I5.list hx
  have hlen := r.length
  have hl := ht.isList
  show wpAny (model X.prog X.w) X.A (subscriptTail e (.Slice none none (some (.UnaryOp .USub (.Constant (.int 1) k p1) p2)) p3) (.ref a) (.ref s4.heap.objs.size)) (EP X pins σ Q) X.xe { s4 with heap := s4.heap.push { cls := .type "slice", data := .fields #[vl, vu, vs] } }
  refine tail_any (ops := [.ref a, .ref s4.heap.objs.size]) hl.typeIs (PySem.F.slot_list_getitem.lookup) ?_ (by with_unfolding_all rfl)
  refine wpAny_getItem_list_slice (items := its.toArray) hl (Heap.IsSliceOf.new _ vl vu vs) pl pu ps (by decide) ?_ (by rw [List.size_toArray]; omega)
  rw [PySem.W.krv_pick]
  refine ⟨.ref _, _, I5.laid (t' := s4.toks) (o := .lst xs.reverse) (fun _ _ z => Heap.get?_push_of_some _ z) (Nat.le_refl _) ⟨by rw [List.length_reverse]; exact hz, its.reverse, 0, r.reverse, Heap.get?_push_size _ rfl⟩, rfl, q _ (I5.hok.fresh (Nat.le_refl _))⟩
variable {g : GC} {s : SS} {k : Nat} {W : WX} {a : Expr} {ma : M D}
def fRevL : D → Option Ob
  | .list ds => some (.lst ds.reverse)
  | _ => none
def mUnL (f : D → Option Ob) (ma : M D) : M Ob := fun ρ => bnd (ma ρ) fun d ρ1 => lft (f d) ρ1
theorem dl_revL (ok : Ok g s k W X) (ha : DM g W X a ma) {k' : Nat} {p1 p2 p3 pos : Pos} : DL g W X (.Subscript a (.Slice none none (some (.UnaryOp .USub (.Constant (.int 1) k' p1) p2)) p3) pos) (mUnL fRevL ma) := by
  obtain ⟨ta, pa, sa⟩ := ha
  refine ⟨_, pe_revL pa, fun B F H σ ρ Q E h => ?_⟩
  refine sa.then (R := PoL g.K g.mg W B F σ Q) E (fun x ρ' z => z) (fun z => z) h fun d ρ1 v F1 H1 g1 E1 r1 h1 => ?_
  unfold fRevL at h1
  split at h1
  · cases r1 with
    | lst h2 z2 r2 =>
      rename_i xs
      refine ⟨_, xs, rfl, by rw [ok.hK]; exact (h2.mono E1.sub).sq, fun p np => ?_⟩
      have gw : Grow F1 H1 F1 (upd H1 p (.lst xs.reverse)) := Grow.made E1.sub np
      exact (PoL.later g1 h1) p F1 _ (gw.gr E1.subB) (E1.grow gw) (E1.sub.nn np) (E1.subB.nn np) ⟨xs.reverse, upd_same, by rw [List.length_reverse]; exact z2, r2.rev⟩ (fresh_own E1 np)
  · exact h1.elim
end
end DX

set_option maxHeartbeats 1000000
namespace DX
open PySem PySem.Spec PyProof.Rows L2
/-! ### sorted(set(x)), x a list of rows of one length, of small ints -/
theorem lex_code {B : Int} : ∀ {a b : List Int}, a.length = b.length → TS.Bd B a → TS.Bd B b → HT.lexLt a b = true → TS.code B a < TS.code B b
  | [], [], _, _, _, h => by rw [HT.lexLt_nil_nil] at h; cases h
  | [], _ :: _, hl, _, _, _ => by simp at hl
  | _ :: _, [], hl, _, _, _ => by simp at hl
  | x :: a, y :: b, hl, ha, hb, h => by
    have hl' : a.length = b.length := by simpa using hl
    have ha' : TS.Bd B a := fun m hm => ha m (List.mem_cons_of_mem _ hm)
    have hb' : TS.Bd B b := fun m hm => hb m (List.mem_cons_of_mem _ hm)
    rw [HT.lexLt_cons] at h
    by_cases e : x = y
    · subst e
      rw [if_pos rfl] at h
      exact (TS.code_same hl').mpr (lex_code hl' ha' hb' h)
    · rw [if_neg e] at h
      exact TS.code_lt hl' ha' hb' (of_decide_eq_true h)
def rowsSame (l : List (List Int)) : Bool := match l with
  | [] => true
  | a :: r => r.all fun b => decide (b.length = a.length)
def rowsSmall (l : List (List Int)) : Bool := l.all fun b => b.all fun x => decide (0 ≤ x) && decide (x < 64)
def ddR : List (List Int) → List (List Int)
  | [] => []
  | a :: l => if (ddR l).contains a = true then ddR l else a :: ddR l
theorem mem_ddR : ∀ {l : List (List Int)} {x : List Int}, x ∈ ddR l ↔ x ∈ l
  | [], x => Iff.rfl
  | a :: l, x => by
    unfold ddR
    split
    · rename_i h
      have h : a ∈ ddR l := by simpa using h
      rw [mem_ddR, List.mem_cons]
      exact ⟨.inr, fun z => z.elim (fun e => by rw [e]; exact mem_ddR.mp h) id⟩
    · rw [List.mem_cons, List.mem_cons, mem_ddR]
theorem nd_ddR : ∀ l : List (List Int), (ddR l).Nodup
  | [] => List.nodup_nil
  | a :: l => by
    unfold ddR
    split
    · exact nd_ddR l
    · rename_i h
      exact List.nodup_cons.mpr ⟨by simpa using h, nd_ddR l⟩
def fSortX : D → Option Ob
  | .list ds => match rowsD ds with
    | some l => if (decide (l.length < 64) && (rowsSame l && rowsSmall l)) = true then some (.lst ((sortR (ddR l)).map rwD)) else none
    | none => none
  | _ => none
section
variable {g : GC} {s : SS} {k : Nat} {W : WX} {X : Cx} {pos p p2 q : Pos} {a : Expr} {ma : M D}
theorem dl_sortX (ok : Ok g s k W X) (bf : BF g) (ha : DM g W X a ma) (hg : gloB s.sc "sorted" = true := by decide +kernel) (hg2 : gloB s.sc "set" = true := by decide +kernel)
    (na : starEach [a] X.env = (false, eval a X.env) :: starEach [] X.env := by rfl) : DL g W X (.Call (.Name "sorted" p) [.Call (.Name "set" p2) [a] [] q] [] pos) (mUnL fSortX ma) := by
  obtain ⟨ta, pa, sa⟩ := ha
  refine ⟨_, pe_callB (cr_sortedT ok.calm) (ok.glo hg) (by rw [ok.hmg]; exact bf.sorted) (by decide +kernel) (pa_cons (pe_callTy (cr_setOfT ok.calm (by have := ok.units; omega)) (ok.glo hg2) (by rw [ok.hmg]; exact bf.set) (by decide +kernel) (pa_cons pa pa_nil na) (by decide +kernel) (by decide +kernel) na rfl) pa_nil) (by decide +kernel) (by decide +kernel) rfl rfl, fun B F H σ ρ Q E h => ?_⟩
  refine sa.then (R := PoL g.K g.mg W B F σ Q) E (fun x ρ' z => z) (fun z => z) h fun d ρ1 v F1 H1 g1 E1 r1 h1 => ?_
  unfold fSortX at h1
  split at h1
  case h_2 => exact h1.elim
  cases r1 with
  | lst h2 z2 r2 =>
  rename_i ds al xs
  cases er : rowsD ds with
  | none => rw [er] at h1; exact h1.elim
  | some l =>
  rw [er] at h1
  simp only at h1
  split at h1
  case isFalse => exact h1.elim
  rename_i hok
  simp only [Bool.and_eq_true, decide_eq_true_eq] at hok
  obtain ⟨hlen, hsame, hsmall⟩ := hok
  obtain ⟨gr, gk⟩ := rowsD_at r2 er
  have hrefs : ∀ x ∈ xs, ∃ t, x = V.ref t := fun x hx => by
    obtain ⟨t, o, e, _⟩ := (gr x hx).1
    exact ⟨t, e⟩
  -- the rows, with their addresses
  let adr : V → Addr := fun x => match x with
    | .ref t => t
    | _ => 0
  let ks : List (Addr × List Int) := xs.map fun x => (adr x, keyR F1 x)
  have hks1 : ks.map (fun p => V.ref p.1) = xs := by
    show (xs.map _).map _ = xs
    rw [List.map_map]
    refine (List.map_congr_left fun x hx => ?_).trans (List.map_id xs)
    obtain ⟨t, rfl⟩ := hrefs x hx
    rfl
  have hks2 : ks.map (·.2) = l := by
    show (xs.map _).map _ = l
    rw [List.map_map, ← gk]; rfl
  have hmem : ∀ p ∈ ks, ∃ x ∈ xs, p = (adr x, keyR F1 x) := fun p hp => by
    obtain ⟨x, hx, e⟩ := List.mem_map.mp hp
    exact ⟨x, hx, e.symm⟩
  have hrow : ∀ p ∈ ks, RowAt F1 (V.ref p.1) p.2 := fun p hp => by
    obtain ⟨x, hx, rfl⟩ := hmem p hp
    obtain ⟨t, rfl⟩ := hrefs x hx
    exact (gr _ hx).1
  have hrp : ∀ p ∈ ks, Rp g.K F1 (V.ref p.1) (rwD p.2) := fun p hp => by
    obtain ⟨x, hx, rfl⟩ := hmem p hp
    obtain ⟨t, rfl⟩ := hrefs x hx
    exact (gr _ hx).2
  have hSq : ∀ (H' : Hp), Sub F1 H' → ∀ p ∈ ks, SqT X.K H' p.1 (p.2.map V.int) := fun H' sb p hp => by
    obtain ⟨t, o, e, ht, _⟩ := hrow p hp
    cases e
    exact .inl (.inr ⟨o, sb _ _ ht⟩)
  have hl2 : ∀ p ∈ ks, p.2 ∈ l := fun p hp => by rw [← hks2]; exact List.mem_map.mpr ⟨p, hp, rfl⟩
  -- one length, small
  obtain ⟨dl, hd1, hdl⟩ : ∃ dl, 1 ≤ dl ∧ ∀ r ∈ l, r.length = dl := by
    cases l with
    | nil => exact ⟨1, Nat.le_refl _, fun r hr => by cases hr⟩
    | cons r0 l0 =>
      refine ⟨r0.length, ?_, fun r hr => ?_⟩
      · obtain ⟨x0, hx0, e0⟩ : ∃ x ∈ xs, keyR F1 x = r0 := by
          have : r0 ∈ xs.map (keyR F1) := by rw [gk]; exact List.mem_cons_self
          obtain ⟨x, hx, e⟩ := List.mem_map.mp this
          exact ⟨x, hx, e⟩
        obtain ⟨_, _, _, _, hne⟩ := (gr x0 hx0).1
        rw [e0] at hne
        exact List.length_pos_iff.mpr hne
      · rcases List.mem_cons.mp hr with rfl | hr
        · rfl
        · have := List.all_eq_true.mp hsame r hr
          exact of_decide_eq_true this
  have hbd : ∀ r ∈ l, TS.Bd 64 r := fun r hr m hm => by
    have := List.all_eq_true.mp (List.all_eq_true.mp hsmall r hr) m hm
    rw [Bool.and_eq_true, decide_eq_true_eq, decide_eq_true_eq] at this
    exact this
  refine ⟨al, ks, rfl, by rw [hks1, ok.hK]; exact (h2.mono E1.sub).sq, hSq H1 E1.sub, by have := congrArg List.length hks2; rw [List.length_map] at this; omega, fun aS L nS hsub hall => ?_⟩
  have gw : Grow F1 H1 F1 (upd H1 aS (SetTO X.prog X.w aS L)) := Grow.made E1.sub nS
  have E2 := E1.grow gw
  refine ⟨aS, L, dl, 64, rfl, upd_same, fun p hp => hSq _ E2.sub p (hsub p hp), hd1, fun p hp => ⟨hdl _ (hl2 p (hsub p hp)), hbd _ (hl2 p (hsub p hp))⟩, fun L' p' pm nd few pw np => ?_⟩
  have gw2 : Grow F1 (upd H1 aS (SetTO X.prog X.w aS L)) F1 (upd (upd H1 aS (SetTO X.prog X.w aS L)) p' (.lst (L'.map fun q => V.ref q.1))) := Grow.made E2.sub np
  have hL' : ∀ p ∈ L', p ∈ ks := fun p hp => hsub p (pm.mem_iff.mp hp)
  have esort : sortR (ddR l) = L'.map (·.2) := sortR_eq (List.pairwise_map.mpr (pw.imp_of_mem fun {x y} hx hy hxy => by
      cases ql : HT.lexLt y.2 x.2 with
      | false => rfl
      | true =>
        have hx' := hl2 x (hL' x hx)
        have hy' := hl2 y (hL' y hy)
        have := lex_code (B := 64) (by rw [hdl _ hx', hdl _ hy']) (hbd _ hy') (hbd _ hx') ql
        omega)) ((List.perm_ext_iff_of_nodup nd (nd_ddR l)).mpr fun r => by
      rw [mem_ddR, List.mem_map]
      constructor
      · rintro ⟨p, hp, rfl⟩; exact hl2 p (hL' p hp)
      · intro hr
        rw [← hks2] at hr
        obtain ⟨p, hp, rfl⟩ := List.mem_map.mp hr
        obtain ⟨p2, hp2, e⟩ := List.mem_map.mp (hall p hp)
        exact ⟨p2, pm.mem_iff.mpr hp2, e⟩)
  have hrpa : RpA g.K F1 (L'.map fun q => V.ref q.1) ((sortR (ddR l)).map rwD) := by
    rw [esort, List.map_map]
    have all : ∀ L' : List (Addr × List Int), (∀ p ∈ L', p ∈ ks) → RpA g.K F1 (L'.map fun q => V.ref q.1) (L'.map (rwD ∘ (·.2))) := fun L' => by
      induction L' with
      | nil => exact fun _ => .nil
      | cons q L' ih => exact fun hq => .cons (hrp q (hq q List.mem_cons_self)) (ih fun p hp => hq p (List.mem_cons_of_mem _ hp))
    exact all L' hL'
  exact (PoL.later g1 h1) p' F1 _ ((gw.trans gw2).gr E1.subB) (E2.grow gw2) (E2.sub.nn np) (E2.subB.nn np) ⟨_, upd_same, by rw [List.length_map]; show L'.length ≤ 16777216; omega, hrpa⟩ (fresh_own E2 np)
end
end DX

set_option maxHeartbeats 1000000
namespace DX
open PySem PySem.Spec PyProof.Rows L2
/-! ### defs as values, and calls of them -/
def fnOf : D → Option Str
  | .dict [(.bool true, .str x)] => some x
  | _ => none
theorem fnOf_eq {d : D} {x : Str} (h : fnOf d = some x) : d = fnD x := by
  unfold fnOf at h
  split at h
  · cases h; rfl
  · cases h
theorem fn_inv {K : KC} {F : Hp} {v : V} {d : D} {x : Str} (h : Rp K F v d) (e : d = fnD x) : ∃ f, v = .ref f ∧ K.mg x = some (.ref f) := by
  cases h with
  | fn m => cases e; exact ⟨_, rfl, m⟩
  | dI h q r =>
    exfalso
    rename_i ds _
    cases ds with
    | nil => simp at e
    | cons p t => simp at e
  | dT h a b c =>
    exfalso
    rename_i ds _
    cases ds with
    | nil => simp at e
    | cons p t => simp at e
  | _ => cases e
abbrev Tbl := List (Str × Nat × (List D → FR))
def lookF : Tbl → Str → Option (Nat × (List D → FR))
  | [], _ => none
  | (y, r) :: t, x => match y == x with
    | true => some r
    | false => lookF t x
structure TbOk (g : GC) (k : Nat) (t : Tbl) : Prop where
  ok : ∀ e ∈ t, ∃ j ps, j ≤ k ∧ ps.length = e.2.1 ∧ FD g e.1 j ps e.2.2
theorem tb_nil {g : GC} {k : Nat} : TbOk g k [] := ⟨fun _ h => by cases h⟩
theorem tb_cons {g : GC} {k j : Nat} {x : Str} {ps : List Str} {fn : List D → FR} {t : Tbl} (F : FD g x j ps fn) (h : TbOk g k t) (hj : j ≤ k := by decide) : TbOk g k ((x, ps.length, fn) :: t) := ⟨fun e he => by
  rcases List.mem_cons.mp he with rfl | he
  · exact ⟨j, ps, hj, rfl, F⟩
  · exact h.ok e he⟩
theorem lookF_mem : ∀ {t : Tbl} {x : Str} {r : Nat × (List D → FR)}, lookF t x = some r → (x, r) ∈ t
  | [], _, _, h => by cases h
  | (y, r') :: t, x, r, h => by
    unfold lookF at h
    cases q : y == x with
    | true =>
      rw [q] at h
      cases h
      have : y = x := by simpa using q
      subst this
      exact List.mem_cons_self
    | false =>
      rw [q] at h
      exact List.mem_cons_of_mem _ (lookF_mem h)
def mCallE (t : Tbl) (mf : M D) (ma : M (List D)) : M D := fun ρ => bnd (mf ρ) fun d ρ1 => match fnOf d with
  | none => .bad
  | some x => (match lookF t x with
    | none => .bad
    | some r => mCall r.1 r.2 ma ρ1)
section
variable {X : Cx} {k : Nat} {W : WX} {p pos : Pos} {fe e : Expr} {es : List Expr} {tf : TE} {t : TA}
theorem pe_callE {S : Addr → Sp → Prop} (A : ∀ f sp, S f sp → ∃ j fd ps, FnOk X.prog X.w X.K X.mg X.base (L2.CX X.prog X.w) j f fd ps sp ∧ Room j X.A ∧ PySem.W.keepIn X.K (.ref f) = true ∧ Binds X.K fd ps []) (tk : Takes X W) (hf : PE X fe tf) (ha : PA X (e :: es) t)
    (ht : eval (.Call fe (e :: es) [] pos) X.env = (do callWith pos (← eval fe X.env) [] (backTo pos (starEach (e :: es) X.env)) (backToKw pos (keywordEach [] X.env))) := by rfl)
    (he : starEach (e :: es) X.env = (false, eval e X.env) :: starEach es X.env := by rfl) (hpl : (backTo pos (starEach es X.env)).any (·.1) = false := by rfl) :
    PE X (.Call fe (e :: es) [] pos) (fun σ H Q => tf σ H fun y H1 => ∃ f sp, y = .ref f ∧ S f sp ∧ t σ H1 fun vs H2 => sp vs H2 Q (WE W σ)) := by
  refine ⟨fun pins s σ H Q I h => ?_⟩
  refine Call_ (thn (hf.run pins s σ H _ I h) fun u s1 ⟨y, H1, I1, ry, f, sp, ey, hS, q⟩ => ?_) ht
  subst ey
  obtain rfl : u = Value.ref f := ry
  obtain ⟨j, fd, ps, F, hr, hk, hb⟩ := A f sp hS
  refine PySem.W.callWith_K (h₀ := X.base) I1.ok.mod.kin hk (thn (ha.run pos pins s1 σ H1 _ I1 q) fun us s2 ⟨vs, H2, I2, r, q2⟩ => ⟨I2.kIn, ?_⟩) he hpl
  exact run_fnS (E := WE W) F hr hb (passAt tk σ) I2 r q2
end
section
variable {g : GC} {s : SS} {k : Nat} {W : WX} {pin : List Nat} {X : Cx} {pos p : Pos} {fe e : Expr} {es : List Expr} {mf : M D} {ma : M (List D)}
theorem dm_fn (ok : Ok g s k W X) {x : Str} {j : Nat} {ps : List Str} {fn : List D → FR} (F : FD g x j ps fn) (hg : gloB s.sc x = true := by decide +kernel) (hd : (x == ("__debug__" : Str)) = false := by decide +kernel) : DM g W X (.Name x pos) (mC (fnD x)) := by
  obtain ⟨f, fd, hm, _⟩ := F.ex
  exact dm_const (v := .ref f) (pe_glob (ok.glo hg) (by rw [ok.hmg]; exact hm) rfl hd) fun _ => .fn hm
theorem dm_callE (ok : Ok g s k W X) {tb : Tbl} (ht : TbOk g k tb) (hf : DM g W X fe mf) (ha : DA g W X (e :: es) ma)
    (hev : eval (.Call fe (e :: es) [] pos) X.env = (do callWith pos (← eval fe X.env) [] (backTo pos (starEach (e :: es) X.env)) (backToKw pos (keywordEach [] X.env))) := by rfl)
    (he : starEach (e :: es) X.env = (false, eval e X.env) :: starEach es X.env := by rfl) (hpl : (backTo pos (starEach es X.env)).any (·.1) = false := by rfl) : DM g W X (.Call fe (e :: es) [] pos) (mCallE tb mf ma) := by
  obtain ⟨tf, pf, sf⟩ := hf
  obtain ⟨ta, pa, sa⟩ := ha
  refine ⟨_, pe_callE (W := W) (S := fun f sp => ∃ x r j ps fd, (x, r) ∈ tb ∧ j ≤ k ∧ g.mg x = some (.ref f) ∧ PySem.W.keepIn g.K.K (.ref f) = true ∧ Binds g.K.K fd ps [] ∧ FnOk g.K.P g.K.w g.K.K g.mg g.base (L2.CX g.K.P g.K.w) j f fd ps sp) (fun f sp hS => ?_) ok.tk pf pa hev he hpl, fun B F H σ ρ Q E h => ?_⟩
  · obtain ⟨x, r, j, ps, fd, _, hj, _, hk, hb, fo⟩ := hS
    exact ⟨j, fd, ps, by rw [ok.hP, ok.hw, ok.hK, ok.hmg, ok.hbase]; exact fo, ok.room.mono hj, by rw [ok.hK]; exact hk, by rw [ok.hK]; exact hb⟩
  · refine sf.then (R := PoE g.K g.mg W B F σ Q) E (fun x ρ' z => z) (fun z => z) h fun d ρ1 v F1 H1 g1 E1 r1 h1 => ?_
    cases ex : fnOf d with
    | none => rw [ex] at h1; exact h1.elim
    | some x =>
    rw [ex] at h1
    simp only at h1
    cases el : lookF tb x with
    | none => rw [el] at h1; exact h1.elim
    | some r =>
    rw [el] at h1
    simp only at h1
    obtain ⟨f, rfl, hm⟩ := fn_inv r1 (fnOf_eq ex)
    obtain ⟨j, ps, hj, hl, Fd⟩ := ht.ok (x, r) (lookF_mem el)
    obtain ⟨f', fd, hm', hk, hb, fo⟩ := Fd.ex
    have : f' = f := by
      have hm2 : g.K.mg x = some (.ref f') := hm'
      rw [hm] at hm2
      exact (Value.ref.inj (Option.some.inj hm2)).symm
    subst this
    refine ⟨f', _, rfl, ⟨x, r, j, ps, fd, lookF_mem el, hj, hm', hk, hb, fo⟩, ?_⟩
    have h1 := PoE.later g1 h1
    refine sa.then (R := PoE g.K g.mg W B F1 σ Q) E1 (fun x ρ' z => z) (fun z => z) h1 fun ds ρ2 vs F2 H2 g2 E2 r2 h2 => ?_
    by_cases hl2 : ds.length = r.1
    · rw [if_pos hl2] at h2
      refine ⟨F2, ds, E2.sub, r2, by rw [hl]; exact hl2, ?_⟩
      have h2 := PoE.later g2 h2
      cases ef : r.2 ds with
      | ok d => rw [ef] at h2; exact fun v F' H' gw rr => h2 v F' H' (gw.gr E2.subB) (E2.grow gw) rr
      | exc x => rw [ef] at h2; exact fun C F' H' e gw => h2 C F' H' e (gw.gr E2.subB) (E2.grow gw)
      | bad => rw [ef] at h2; exact h2
    · rw [if_neg hl2] at h2; exact h2.elim
end
end DX

set_option maxHeartbeats 1000000
namespace DX
open PySem PySem.Spec PyProof.Rows L2
/-! ### dicts with ints as keys -/
def lookI (kvs : List (Int × D)) (k : Int) : Option D := (kvs.find? fun p => decide (p.1 = k)).map (·.2)
def putI (kvs : List (Int × D)) (k : Int) (v : D) : List (Int × D) := if (kvs.any fun p => decide (p.1 = k)) = true then kvs.map (fun p => if p.1 = k then (p.1, v) else p) else kvs ++ [(k, v)]
def RI (K : KC) (F : Hp) (kv : List (Key × V)) (ds : List (Int × D)) : Prop := kv.map (·.1) = ds.map (fun p => Sum.inl p.1) ∧ RpA K F (kv.map (·.2)) (ds.map (·.2))
section
variable {K : KC} {F : Hp}
theorem RI.uncons {e : Key × V} {kv : List (Key × V)} {p : Int × D} {ds : List (Int × D)} (h : RI K F (e :: kv) (p :: ds)) : e.1 = Sum.inl p.1 ∧ Rp K F e.2 p.2 ∧ RI K F kv ds := by
  obtain ⟨h1, h2⟩ := h
  simp only [List.map_cons, List.cons.injEq] at h1
  cases h2 with
  | cons a b => exact ⟨h1.1, a, h1.2, b⟩
theorem RI.cons {e : Key × V} {kv : List (Key × V)} {p : Int × D} {ds : List (Int × D)} (h1 : e.1 = Sum.inl p.1) (h2 : Rp K F e.2 p.2) (h : RI K F kv ds) : RI K F (e :: kv) (p :: ds) := ⟨by simp [h1, h.1], .cons h2 h.2⟩
theorem RI.len {kv : List (Key × V)} {ds : List (Int × D)} (h : RI K F kv ds) : kv.length = ds.length := by
  have := congrArg List.length h.1
  simpa using this
theorem RI.find : ∀ {kv : List (Key × V)} {ds : List (Int × D)}, RI K F kv ds → ∀ k, (kv.any fun e => decide (e.1 = Sum.inl k)) = (ds.any fun p => decide (p.1 = k)) ∧ (∀ d, lookI ds k = some d → ∃ v, valV kv (Sum.inl k) = some v ∧ Rp K F v d) ∧ (lookI ds k = none → valV kv (Sum.inl k) = none)
  | [], [], _, k => ⟨rfl, fun d h => (by simp [lookI] at h), fun _ => rfl⟩
  | [], _ :: _, h, _ => by simp [RI] at h
  | _ :: _, [], h, _ => by simp [RI] at h
  | e :: kv, p :: ds, h, k => by
    obtain ⟨h1, h2, h3⟩ := h.uncons
    obtain ⟨i1, i2, i3⟩ := RI.find h3 k
    by_cases hp : p.1 = k
    · have he : e.1 = Sum.inl k := by rw [h1, hp]
      have a1 : valV (e :: kv) (Sum.inl k) = some e.2 := valV_pos he
      have a2 : lookI (p :: ds) k = some p.2 := by simp [lookI, List.find?_cons, hp]
      rw [a1, a2, List.any_cons, List.any_cons, decide_eq_true he, decide_eq_true hp]
      exact ⟨rfl, fun d hd => by cases hd; exact ⟨_, rfl, h2⟩, fun z => (by cases z)⟩
    · have he : ¬ e.1 = Sum.inl k := fun z => hp (Sum.inl.inj (h1.symm.trans z))
      have a1 : valV (e :: kv) (Sum.inl k) = valV kv (Sum.inl k) := valV_neg he
      have a2 : lookI (p :: ds) k = lookI ds k := by simp [lookI, List.find?_cons, hp]
      rw [a1, a2, List.any_cons, List.any_cons, decide_eq_false he, decide_eq_false hp, Bool.false_or, Bool.false_or]
      exact ⟨i1, i2, i3⟩
theorem RI.repl {v : V} {d : D} (hv : Rp K F v d) (k : Int) : ∀ {kv : List (Key × V)} {ds : List (Int × D)}, RI K F kv ds → RI K F (kv.map fun e => if e.1 = Sum.inl k then (e.1, v) else e) (ds.map fun p => if p.1 = k then (p.1, d) else p)
  | [], [], h => h
  | [], _ :: _, h => by simp [RI] at h
  | _ :: _, [], h => by simp [RI] at h
  | e :: kv, p :: ds, h => by
    obtain ⟨h1, h2, h3⟩ := h.uncons
    rw [List.map_cons, List.map_cons]
    refine RI.cons ?_ ?_ (RI.repl hv k h3)
    · by_cases hp : p.1 = k
      · rw [if_pos hp, if_pos (by rw [h1, hp])]; exact h1
      · rw [if_neg hp, if_neg (fun z => hp (Sum.inl.inj (h1.symm.trans z)))]; exact h1
    · by_cases hp : p.1 = k
      · rw [if_pos hp, if_pos (by rw [h1, hp])]; exact hv
      · rw [if_neg hp, if_neg (fun z => hp (Sum.inl.inj (h1.symm.trans z)))]; exact h2
theorem RI.put {kv : List (Key × V)} {ds : List (Int × D)} {v : V} {d : D} (h : RI K F kv ds) (k : Int) (hv : Rp K F v d) : RI K F (L2.putK kv (Sum.inl k) v) (putI ds k d) := by
  unfold L2.putK putI
  rw [(h.find k).1]
  split
  · exact h.repl hv k
  · refine ⟨by simp [h.1], ?_⟩
    rw [List.map_append, List.map_append]
    exact h.2.append (.cons hv .nil)
end
def ownI (ρ : Rho) (i : Nat) : Option (List (Int × D)) := match ρ[i]? with
  | some (.own (.dI kvs)) => some kvs
  | _ => none
theorem ownI_of {ρ : Rho} {i : Nat} {kvs : List (Int × D)} (h : ownI ρ i = some kvs) : ρ[i]? = some (.own (.dI kvs)) := by
  unfold ownI at h
  split at h
  · cases h; assumption
  · cases h
def getI (kvs : List (Int × D)) (d : D) : Option D := match d with
  | .int k => lookI kvs k
  | _ => none
def mGetI (i : Nat) (mb : M D) : M D := fun ρ => match ownI ρ i with
  | some _ => bnd (mb ρ) fun d ρ1 => (match ownI ρ1 i with
    | some kvs => lft (getI kvs d) ρ1
    | none => .bad)
  | none => .bad
section
variable {g : GC} {s : SS} {k : Nat} {W : WX} {pin : List Nat} {X : Cx} {pos p px : Pos} {a b e : Expr} {ma mb : M D} {na : M (List D)}
theorem dm_getI (ok : Ok g s k W X) (i : Nat) {x : Str} (sl : Sl s i x) (hb : DM g W X b mb) (hs : NoSl b := by exact fun _ _ => rfl) : DM g W X (.Subscript (.Name x px) b pos) (mGetI i mb) := by
  obtain ⟨tb, pb, sb⟩ := hb
  refine ⟨_, pe_dget (by have := ok.units; omega) (sl.pe ok) pb hs, fun B F H σ ρ Q E h => ?_⟩
  unfold mGetI at h
  cases e0 : ownI ρ i with
  | none => rw [e0] at h; exact h.elim
  | some ds0 =>
  rw [e0] at h
  simp only at h
  obtain ⟨q, hq, _⟩ := E.own i _ (ownI_of e0)
  refine ⟨.ref q, hq, ?_⟩
  refine sb.then (R := PoE g.K g.mg W B F σ Q) E (fun x ρ' z => z) (fun z => z) h fun d ρ1 v F1 H1 g1 E1 r1 h1 => ?_
  cases e1 : ownI ρ1 i with
  | none => rw [e1] at h1; exact h1.elim
  | some kvs =>
  rw [e1] at h1
  simp only at h1
  cases ef : getI kvs d with
  | none => rw [ef] at h1; exact h1.elim
  | some z =>
  rw [ef] at h1
  obtain ⟨q', a1, a2, a3, kv, a4, a5, a6⟩ := E1.own i _ (ownI_of e1)
  rw [hq] at a1; cases a1
  unfold getI at ef
  split at ef
  · rename_i kk
    cases r1
    obtain ⟨v', e2, r2⟩ := ((show RI g.K F1 kv kvs from ⟨a5, a6⟩).find kk).2.1 z ef
    exact ⟨q, v', rfl, .inl ⟨kv, Sum.inl kk, .inl a4, rfl, e2.symm⟩, (PoE.later g1 h1) v' F1 H1 Gr.refl E1 r2⟩
  · cases ef
/-! d[k] = e -/
def sPutI (i : Nat) (mk : M D) (me : M D) : MS := fun ρ => sBnd (me ρ) fun d ρ1 => (match ownI ρ1 i with
  | some _ => sBnd (mk ρ1) fun kd ρ2 => (match kd, ownI ρ2 i with
    | .int n, some kvs => if kvs.length < sizeLine then .next (ρ2.set i (.own (.dI (putI kvs n d)))) else .bad
    | _, _ => .bad)
  | none => .bad)
theorem ds_putI (ok : Ok g s k W X) (i : Nat) {x : Str} (sl : Sl s i x) (hk : DM g W X b mb) (he : DM g W X e ma) (hs : swapsWith e (some (.Subscript (.Name x px) b p)) pos.line X.env = pure false := by rfl) :
    DS g W pin X (.Assign [.Subscript (.Name x px) b p] e pos) (sPutI i mb ma) := by
  obtain ⟨tj, pj, sj⟩ := hk
  obtain ⟨te, pe, se⟩ := he
  refine ⟨_, ps_dput (by have := ok.units; omega) (sl.pe ok) pj pe hs, fun B F H σ ρ D E h => ?_⟩
  refine se.thenS E h fun d ρ1 v F1 H1 g1 E1 r1 h1 => ?_
  cases e1 : ownI ρ1 i with
  | none => rw [e1] at h1; exact h1.elim
  | some kv0 =>
  rw [e1] at h1
  simp only at h1
  obtain ⟨q, hq, _⟩ := E1.own i _ (ownI_of e1)
  refine ⟨.ref q, hq, ?_⟩
  refine sj.thenS E1 h1 fun kd ρ2 w F2 H2 g2 E2 r2 h2 => ?_
  cases kd with
  | int n =>
    cases e2 : ownI ρ2 i with
    | none => rw [e2] at h2; exact h2.elim
    | some kvs =>
    rw [e2] at h2
    simp only at h2
    obtain ⟨q', a1, a2, a3, kv, a4, a5, a6⟩ := E2.own i _ (ownI_of e2)
    rw [hq] at a1; cases a1
    cases r2
    have ri : RI g.K F2 kv kvs := ⟨a5, a6⟩
    by_cases hz : kvs.length < sizeLine
    · rw [if_pos hz] at h2
      have ri2 := ri.put n (r1.mono g2.sub)
      refine ⟨q, _, rfl, DPut.k (k := Sum.inl n) a4 (by rw [ri.len]; exact hz), ?_⟩
      exact h2 F2 _ σ Gr.refl Kp.refl (E2.write (ownI_of e2) hq ⟨_, upd_same, ri2.1, ri2.2⟩)
    · rw [if_neg hz] at h2; exact h2.elim
  | _ => exact h2.elim
/-! {k: v} -/
def dspI (k v : D) (ρ : Rho) : MR Ob := match k with
  | .int n => .ok (.dI [(n, v)]) ρ
  | _ => .bad
def mDispI (mk mv : M D) : M Ob := fun ρ => bnd (mk ρ) fun k ρ1 => bnd (mv ρ1) fun v ρ2 => dspI k v ρ2
theorem dl_dispI (ok : Ok g s k W X) {mk mv : M D} (hk : DM g W X a mk) (hv : DM g W X b mv) : DL g W X (.Dict [some a] [b] pos) (mDispI mk mv) := by
  obtain ⟨tk, pk, sk⟩ := hk
  obtain ⟨tv, pv, sv⟩ := hv
  refine ⟨_, pe_disp (pps_cons pk pv pps_nil) rfl rfl (by simp) (Nat.le_of_ble_eq_true rfl), fun B F H σ ρ Q E h => ?_⟩
  intro p np
  have nB := E.subB.nn np
  have nF := E.sub.nn np
  have E1 : DX.Env g.K (upd B p (.dK [])) F (upd H p (.dK [])) σ ρ := (E.other nF nB (fresh_own E np)).addB upd_same (fresh_own E np)
  refine sk.then (R := PoL g.K g.mg W B F σ Q) E1 (fun x ρ' z C F' H' e g' E' => z C F' H' e g'.dropB (E'.dropB nB)) (fun z => z) h fun d ρ1 v F1 H1 g1 E2 r1 h1 => ?_
  refine sv.then (R := PoL g.K g.mg W B F1 σ Q) E2 (fun x ρ' z C F' H' e g' E' => z C F' H' e g'.dropB (E'.dropB nB)) (fun z => z) (h1.later g1.dropB) fun d2 ρ2 v2 F2 H2 g2 E3 r2 h2 => ?_
  unfold dspI at h2
  split at h2
  · rename_i n
    have nF2 : F2 p = none := g2.stayN (g1.stayN nF)
    cases r1
    refine ⟨E3.subB p _ upd_same, [(Sum.inl n, v2)], rfl, Nat.le_of_ble_eq_true rfl, ?_⟩
    have E4 := (E3.dropB nB).other (o := .dK (mergeK [] [(Sum.inl n, v2)])) nF2 nB E3.notOwn
    exact (PoL.later g2.dropB h2) p F2 _ Gr.refl E4 nF2 nB ⟨[(Sum.inl n, v2)], upd_same, rfl, .cons r2 .nil⟩ E3.notOwn
  · exact h2.elim
/-! d[k], d a dict as data -/
def kvsI : List (D × D) → Option (List (Int × D))
  | [] => some []
  | (.int n, v) :: r => (kvsI r).map fun l => (n, v) :: l
  | _ :: _ => none
def fGetD (d i : D) : Option D := match d with
  | .dict es => (kvsI es).bind fun kvs => getI kvs i
  | _ => none
theorem kvsI_map : ∀ ds : List (Int × D), kvsI (ds.map fun p => (.int p.1, p.2)) = some ds
  | [] => rfl
  | p :: ds => by rw [List.map_cons, kvsI, kvsI_map ds]; rfl
theorem dm_getD (ok : Ok g s k W X) (ha : DM g W X a ma) (hb : DM g W X b mb) (hs : NoSl b := by exact fun _ _ => rfl) : DM g W X (.Subscript a b pos) (mBin fGetD ma mb) := by
  obtain ⟨ta, pa, sa⟩ := ha
  obtain ⟨tb, pb, sb⟩ := hb
  refine ⟨_, pe_dget (by have := ok.units; omega) pa pb hs, fun B F H σ ρ Q E h => ?_⟩
  refine sa.then (R := PoE g.K g.mg W B F σ Q) E (fun x ρ' z => z) (fun z => z) h fun d ρ1 v F1 H1 g1 E1 r1 h1 => ?_
  refine sb.then (R := PoE g.K g.mg W B F1 σ Q) E1 (fun x ρ' z => z) (fun z => z) (h1.later g1) fun d2 ρ2 v2 F2 H2 g2 E2 r2 h2 => ?_
  cases ef : fGetD d d2 with
  | none => rw [ef] at h2; exact h2.elim
  | some z =>
  rw [ef] at h2
  have r1' := r1.mono g2.sub
  unfold fGetD at ef
  split at ef
  · rename_i es
    generalize hd : PyData.dict es = dd at r1'
    cases r1' with
    | dI h0 q r =>
      rename_i ds
      have : es = ds.map fun p => (PyData.int p.1, p.2) := PyData.dict.inj hd
      subst this
      rw [kvsI_map] at ef
      simp only [Option.bind_some] at ef
      unfold getI at ef
      split at ef
      · rename_i kk
        cases r2
        obtain ⟨v', e2, r3⟩ := ((show RI g.K F2 _ ds from ⟨q, r⟩).find kk).2.1 z ef
        exact ⟨_, v', rfl, .inl ⟨_, Sum.inl kk, .inl (E2.sub _ _ h0), rfl, e2.symm⟩, (PoE.later g2 h2) v' F2 H2 Gr.refl E2 r3⟩
      · cases ef
    | dT h0 q e r =>
      exfalso
      rename_i ds
      have := PyData.dict.inj hd
      subst this
      cases ds with
      | nil =>
        simp only [List.map_nil, kvsI, Option.bind_some] at ef
        unfold getI at ef
        split at ef
        · simp [lookI] at ef
        · cases ef
      | cons p t => simp [kvsI] at ef
    | exc h0 m => exfalso; have := PyData.dict.inj hd; subst this; simp [kvsI] at ef
    | fn m => exfalso; have := PyData.dict.inj hd; subst this; simp [kvsI] at ef
    | _ => cases hd
  · cases ef
/-! ### range with a step of -1 -/
def rngD (i0 : Int) (n : Nat) : List D := (List.range n).map fun j => .int (i0 + (j : Nat) * (-1))
def rng3 : List D → Option (List D)
  | [.int i, .int j, .int (-1)] => if -(2 ^ 62) ≤ i ∧ i < 2 ^ 62 ∧ -(2 ^ 62) ≤ j ∧ j < 2 ^ 62 then some (rngD i (i - j).toNat) else none
  | _ => none
def iRange3 (ma : M (List D)) : M (List D) := fun ρ => bnd (ma ρ) fun ds ρ1 => lft (rng3 ds) ρ1
theorem itr_rangeC {lo : Bool} {K : KC} {F : Hp} {i0 : Int} {n : Nat} : ItR lo K F (Itc i0 (-1) n) (rngD i0 n) := by
  intro F' H' s1 s2
  refine ⟨by show n ≤ (rngD i0 n).length; simp [rngD], fun i x ex => ?_⟩
  unfold rngD at ex
  rw [List.getElem?_map] at ex
  have hi : i < n := by
    by_cases hi : i < n
    · exact hi
    · rw [List.getElem?_eq_none (by simpa using hi)] at ex; cases ex
  rw [List.getElem?_range hi] at ex
  cases ex
  refine ⟨hi, fun v H3 hy => ?_⟩
  obtain ⟨rfl, rfl⟩ := hy
  exact ⟨F', Grow.refl s2, Or.inl (.int _)⟩
theorem rp3 {K : KC} {F : Hp} {xs : List V} {d e f : D} (h : RpA K F xs [d, e, f]) : ∃ v w u, xs = [v, w, u] ∧ Rp K F v d ∧ Rp K F w e ∧ Rp K F u f := by
  cases h with
  | cons a t =>
    obtain ⟨v, w, rfl, r, r'⟩ := rp2 t
    exact ⟨_, _, _, rfl, a, r, r'⟩
theorem di_range3 {lo : Bool} (ok : Ok g s k W X) (bf : BF g) {tg a b c : Expr} {ma : M (List D)} {p : Pos} (h : DA g W X [a, b, c] ma) (hg : gloB s.sc "range" = true := by decide +kernel) (hs : starEach [a, b, c] X.env = (false, eval a X.env) :: starEach [b, c] X.env := by rfl) (hs2 : (backTo pos (starEach [b, c] X.env)).any (·.1) = false := by rfl) :
    DI lo g W X tg (.Call (.Name "range" p) [a, b, c] [] pos) (iRange3 ma) := by
  obtain ⟨t, p, q⟩ := h
  refine ⟨_, pi_range3 (ok.glo hg) (by rw [ok.hmg]; exact bf.range) p hs hs2, fun B F H σ ρ R E h => ?_⟩
  refine q B F H σ ρ _ E ?_
  unfold iRange3 at h
  cases e : ma ρ with
  | bad => rw [e] at h; exact h
  | exc x ρ1 => rw [e] at h; exact h
  | ok ds ρ1 =>
    rw [e] at h
    intro vs F' H' g' E' r
    simp only [bnd_ok] at h
    cases e2 : rng3 ds with
    | none => rw [e2] at h; exact False.elim h
    | some xs =>
    rw [e2] at h
    unfold rng3 at e2
    split at e2
    · split at e2
      · rename_i hz
        cases e2
        obtain ⟨v, w, u, rfl, r1, r2, r3⟩ := rp3 r
        cases r1
        cases r2
        cases r3
        exact ⟨_, _, _, _, rfl, RgC.neg hz.1 hz.2.1 hz.2.2.1 hz.2.2.2, h _ F' H' g' E' itr_rangeC⟩
      · cases e2
    · cases e2
/-! ### list(range(n)) -/
def fRgL : D → Option Ob
  | .int n => if 0 ≤ n ∧ n ≤ 16777216 then some (.lst (rangeD 0 n.toNat)) else none
  | _ => none
theorem rp_rg {K : KC} {F : Hp} (a : Int) (n : Nat) : RpA K F ((List.range n).map fun i => V.int (a + (i : Nat))) (rangeD a n) := by
  unfold rangeD
  generalize List.range n = l
  induction l with
  | nil => exact .nil
  | cons x l ih => exact .cons (.int _) ih
theorem dl_listRg (ok : Ok g s k W X) (bf : BF g) (ha : DM g W X a ma) {p2 : Pos} (hc : X.calm = true) (hg : gloB s.sc "list" = true := by decide +kernel) (hg2 : gloB s.sc "range" = true := by decide +kernel) (na : starEach [.Call (.Name "range" p2) [a] [] px] X.env = (false, eval (.Call (.Name "range" p2) [a] [] px) X.env) :: starEach [] X.env := by rfl) (nb : starEach [a] X.env = (false, eval a X.env) :: starEach [] X.env := by rfl) :
    DL g W X (.Call (.Name "list" p) [.Call (.Name "range" p2) [a] [] px] [] pos) (mUnL fRgL ma) := by
  obtain ⟨ta, pa, sa⟩ := ha
  refine ⟨_, pe_listRg hc (ok.glo hg) (by rw [ok.hmg]; exact bf.list) (prg_1 (ok.glo hg2) (by rw [ok.hmg]; exact bf.range) pa nb) na, fun B F H σ ρ Q E h => ?_⟩
  refine sa.then (R := PoL g.K g.mg W B F σ Q) E (fun x ρ' z => z) (fun z => z) h fun d ρ1 v F1 H1 g1 E1 r1 h1 => ?_
  unfold fRgL at h1
  split at h1
  · split at h1
    · rename_i n hz
      cases r1
      have hs : (n - 0).toNat = n.toNat := by omega
      refine ⟨n, rfl, RgOk.of_le (by omega) hz.2 (by omega) hz.1, fun p np => ?_⟩
      have gw : Grow F1 H1 F1 (upd H1 p (.lst (rgV 0 n))) := Grow.made E1.sub np
      exact (PoL.later g1 h1) p F1 _ (gw.gr E1.subB) (E1.grow gw) (E1.sub.nn np) (E1.subB.nn np) ⟨rgV 0 n, upd_same, by rw [rgV_length, sizeLine_eq]; omega, by unfold rgV; rw [hs]; exact rp_rg 0 _⟩ (fresh_own E1 np)
    · exact h1.elim
  · exact h1.elim
end
end DX

set_option maxHeartbeats 1000000
namespace DX
open PySem PySem.Spec PyProof.Rows L2
section
variable {g : GC} {s : SS} {k : Nat} {W : WX} {X : Cx} {pos p : Pos}
/-! ### f() -/
theorem dm_call0 (ok : Ok g s k W X) {x : Str} {j : Nat} {fn : List D → FR} (F : FD g x j [] fn) (hj : j ≤ k := by decide) (hg : gloB s.sc x = true := by decide +kernel) (hd : (x == ("__debug__" : Str)) = false := by decide +kernel) : DM g W X (.Call (.Name x p) [] [] pos) (mCall 0 fn mNil) := by
  obtain ⟨f, fd, hm, hk, hb, fo⟩ := F.ex
  have fo' : FnOk X.prog X.w X.K X.mg X.base (L2.CX X.prog X.w) j f fd [] (spD g.K g.mg 0 fn) := by
    rw [ok.hP, ok.hw, ok.hK, ok.hmg, ok.hbase]; exact fo
  refine ⟨fun σ H Q => spD g.K g.mg 0 fn [] H Q (WE W σ), ⟨fun pins s1 σ H Q I h => ?_⟩, fun B F H σ ρ Q E h => ?_⟩
  · refine wpAny_Call_Name_kw (ld_glob I (ok.glo hg) (by rw [ok.hmg]; exact hm) ?_ hd)
    exact PySem.W.callWith_K0 I.kIn (by rw [ok.hK]; exact hk) (run_fnS (us := []) (E := WE W) fo' (ok.room.mono hj) (by rw [ok.hK]; exact hb) (passAt ok.tk σ) I .nil h)
  · refine ⟨F, [], E.sub, .nil, rfl, ?_⟩
    have h1 : PoE g.K g.mg W B F σ Q (match fn [] with | .ok d => .ok d ρ | .exc x => .exc x ρ | .bad => .bad) := h
    cases ef : fn [] with
    | ok d => rw [ef] at h1; exact fun v F' H' gw r => h1 v F' H' (gw.gr E.subB) (E.grow gw) r
    | exc x => rw [ef] at h1; exact fun C F' H' e gw => h1 C F' H' e (gw.gr E.subB) (E.grow gw)
    | bad => rw [ef] at h1; exact h1
end
end DX

set_option maxHeartbeats 1000000
namespace DX
open PySem PySem.Spec PyProof.Rows L2
/-! ### a look at the heap behind the head of a long program: what is reached, level by level; a number's bits hold what was seen -/
def bitB (s a : Nat) : Bool := Nat.beq (Nat.land (Nat.shiftRight s a) 1) 1
def newB {α : Type} : List Addr → List Addr → Nat → (List Addr → Nat → α) → α
  | [], acc, s, k => k acc s
  | a :: r, acc, s, k => HandSHeadRun.frNat a fun a => match bitB s a with
    | true => newB r acc s k
    | false => HandSHeadRun.frNat (Nat.lor s (Nat.shiftLeft 1 a)) fun s => newB r (a :: acc) s k
def lvB (g : Addr → Option Obj) : Nat → List Addr → List Addr → Nat → List Addr
  | 0, _, all, _ => all
  | n + 1, fresh, all, s => newB (fresh.flatMap fun a => match g a with
    | some o => He.refsD o
    | none => []) [] s fun new s => lvB g n new (all ++ new) s
def adB (g : Addr → Option Obj) (n : Nat) : List Addr := lvB g n [mainGlobals] [mainGlobals] (Nat.shiftLeft 1 mainGlobals)
def frB (g : Addr → Option Obj) (n : Nat) : PySem.W.Frag := He.frG g (adB g n)
def obsQ (p : PySem.W.Frag → Bool) (n : Nat) (fa : List He.Fa) (fn : List He.DefD) (g : Addr → Option Obj) : AlP := (p (frB g n), He.obsD fa fn (frB g n))
def hookQ (p : PySem.W.Frag → Bool) (n : Nat) (fa : List He.Fa) (fn : List He.DefD) : PySem.W.Hook where
  α := AlP
  obs := fun s => obsQ p n fa fn s.heap.get?
  val := fun _ => (true, He.valD fn)
  says := fun _ h => ∃ K : PySem.W.Frag, K.In h ∧ He.SaysD fa fn K ∧ p K = true
  of := fun _ _ e => ⟨_, He.frG_in, congrArg (fun z : AlP => z.2) e, congrArg (fun z : AlP => z.1) e⟩
  keeps := fun _ _ _ ⟨K, hK, c⟩ k => ⟨K, PySem.W.Frag.In.keeps hK k, c⟩
theorem obsQ_eq {p : PySem.W.Frag → Bool} {n : Nat} {fa : List He.Fa} {fn : List He.DefD} {g : Addr → Option Obj} {s : Shared} (h : ∀ a, g a = s.heap.get? a) : obsQ p n fa fn g = (hookQ p n fa fn).obs s := by
  have e : g = s.heap.get? := funext h
  rw [e]; rfl
end DX

set_option maxHeartbeats 1000000
/-! Native forms: what a data form gives, told without an environment: the names are Lean's own variables.
    A state of type τ goes along (nothing, or the town of a law). -/
namespace NX
open PySem PySem.Spec PyProof.Rows L2 DX

inductive RT (τ α : Type) where
  | ok (a : α) (t : τ)
  | exc (s : Str) (t : τ)
  | bad
abbrev T (τ α : Type) := τ → RT τ α
def bR {τ α β : Type} (r : RT τ α) (k : α → T τ β) : RT τ β := match r with
  | .ok a t => k a t
  | .exc s t => .exc s t
  | .bad => .bad
def bT {τ α β : Type} (n : T τ α) (k : α → T τ β) : T τ β := fun t => bR (n t) k
def pT {τ α : Type} (a : α) : T τ α := fun t => .ok a t
def xT {τ α : Type} (x : Str) : T τ α := fun t => .exc x t
def lT {τ α : Type} (o : Option α) : T τ α := fun t => match o with
  | some a => .ok a t
  | none => .bad
def iT {τ α : Type} (b : Bool) (x y : T τ α) : T τ α := fun t => if b = true then x t else y t
def zT {τ α : Type} : T τ α := fun _ => .bad
section
variable {τ α β : Type}
@[simp] theorem bR_ok (a : α) (t : τ) (k : α → T τ β) : bR (.ok a t) k = k a t := rfl
@[simp] theorem bR_exc (x : Str) (t : τ) (k : α → T τ β) : bR (.exc x t : RT τ α) k = .exc x t := rfl
@[simp] theorem bR_bad (k : α → T τ β) : bR (.bad : RT τ α) k = .bad := rfl
@[simp] theorem bT_ap (n : T τ α) (k : α → T τ β) (t : τ) : bT n k t = bR (n t) k := rfl
@[simp] theorem pT_ap (a : α) (t : τ) : (pT a : T τ α) t = .ok a t := rfl
@[simp] theorem xT_ap (a : Str) (t : τ) : (xT a : T τ α) t = .exc a t := rfl
@[simp] theorem lT_some (a : α) (t : τ) : (lT (some a) : T τ α) t = .ok a t := rfl
@[simp] theorem lT_none (t : τ) : (lT (none : Option α) : T τ α) t = .bad := rfl
@[simp] theorem iT_true (x y : T τ α) (t : τ) : iT true x y t = x t := rfl
@[simp] theorem iT_false (x y : T τ α) (t : τ) : iT false x y t = y t := rfl
theorem iT_ap (b : Bool) (x y : T τ α) (t : τ) : iT b x y t = if b = true then x t else y t := rfl
@[simp] theorem iT_dec (p : Prop) [Decidable p] (x y : T τ α) (t : τ) : iT (decide p) x y t = if p then x t else y t := by
  by_cases h : p <;> simp [iT, h]
@[simp] theorem iT_not (b : Bool) (x y : T τ α) (t : τ) : iT (!b) x y t = iT b y x t := by cases b <;> rfl
@[simp] theorem zT_ap (t : τ) : (zT : T τ α) t = .bad := rfl
@[simp] theorem bR_ite (p : Prop) [Decidable p] (x y : RT τ α) (k : α → T τ β) : bR (if p then x else y) k = if p then bR x k else bR y k := by
  by_cases h : p <;> simp [h]
end

/-! ### slots -/
inductive Spc where
  | any
  | val (d : D)
  | own (o : Ob)
  | frz (o : Ob)
abbrev Slots := List (Nat × Spc)
def Spc.ok : Spc → Option Cell → Prop
  | .any, _ => True
  | .val d, c => c = some (.val d)
  | .own o, c => c = some (.own o)
  | .frz o, c => c = some (.own o) ∨ c = some (.val o.d)
def sat : Slots → Nat → Spc
  | [], _ => .any
  | (j, s) :: r, i => match Nat.beq j i with
    | true => s
    | false => sat r i
inductive SLe : Spc → Spc → Prop
  | any {s : Spc} : SLe s .any
  | rf {s : Spc} : SLe s s
  | frz {o : Ob} : SLe (.own o) (.frz o)
  | vfz {o : Ob} : SLe (.val o.d) (.frz o)
theorem SLe.ok {a b : Spc} (h : SLe a b) {c : Option Cell} (g : a.ok c) : b.ok c := by
  cases h with
  | any => exact True.intro
  | rf => exact g
  | frz => exact .inl g
  | vfz => exact .inr g
structure Ctx (τ : Type) where
  N : Nat
  O : List Nat
  sl : Option Nat
  cell : τ → Cell
abbrev cx0 (N : Nat) (O : List Nat) : Ctx Unit := ⟨N, O, none, fun _ => .no⟩
abbrev cxT (N : Nat) (O : List Nat) : Ctx (List D) := ⟨N, O, some 1, fun t => .own (.lst t)⟩
structure Has {τ : Type} (C : Ctx τ) (S : Slots) (t : τ) (ρ : Rho) : Prop where
  len : ρ.length = C.N
  no : ∀ i, C.O.contains i = false → ∀ o, ρ[i]? ≠ some (.own o)
  tk : ∀ i, C.sl = some i → ρ[i]? = some (C.cell t)
  sp : ∀ i, i < C.N → (sat S i).ok ρ[i]?
/-- S says at least what S' says, at the places of a list -/
inductive Sle (S S' : Slots) : List Nat → Prop
  | nil : Sle S S' []
  | cons {i : Nat} {r : List Nat} : SLe (sat S i) (sat S' i) → Sle S S' r → Sle S S' (i :: r)
theorem Sle.get {S S' : Slots} {r : List Nat} (h : Sle S S' r) : ∀ i ∈ r, SLe (sat S i) (sat S' i) := by
  induction h with
  | nil => intro i hi; cases hi
  | cons a _ ih =>
    intro j hj
    cases hj with
    | head => exact a
    | tail _ z => exact ih j z
section
variable {τ : Type} {C : Ctx τ} {S S' : Slots} {t : τ} {ρ : Rho}
theorem Has.le (h : Has C S t ρ) (g : Sle S S' (List.range C.N)) : Has C S' t ρ :=
  ⟨h.len, h.no, h.tk, fun i hi => (g.get i (List.mem_range.mpr hi)).ok (h.sp i hi)⟩
theorem Has.nil (h : Has C S t ρ) : Has C [] t ρ := ⟨h.len, h.no, h.tk, fun _ _ => True.intro⟩
theorem sat_cons_same {i : Nat} {s : Spc} : sat ((i, s) :: S) i = s := by
  unfold sat; rw [show Nat.beq i i = true from Nat.beq_refl i]
theorem sat_cons_ne {i j : Nat} {s : Spc} (h : j ≠ i) : sat ((j, s) :: S) i = sat S i := by
  have : Nat.beq j i = false := by
    cases e : Nat.beq j i with
    | false => rfl
    | true => exact absurd (Nat.eq_of_beq_eq_true e) h
  rw [sat, this]
theorem Has.set {i : Nat} {c : Cell} {s : Spc} (h : Has C S t ρ) (hi : C.O.contains i = false → ∀ o, c ≠ .own o) (hs : C.sl ≠ some i) (hc : s.ok (some c)) (hl : i < C.N) : Has C ((i, s) :: S) t (ρ.set i c) where
  len := by rw [List.length_set]; exact h.len
  no := fun j hj o e => by
    by_cases z : i = j
    · subst z
      rw [List.getElem?_set_self (by rw [h.len]; exact hl)] at e
      exact hi hj o (Option.some.inj e)
    · rw [List.getElem?_set_ne z] at e
      exact h.no j hj o e
  tk := fun j hj => by
    have z : i ≠ j := fun z => hs (by rw [hj, z])
    rw [List.getElem?_set_ne z]; exact h.tk j hj
  sp := fun j hj => by
    by_cases z : i = j
    · subst z
      rw [sat_cons_same, List.getElem?_set_self (by rw [h.len]; exact hl)]; exact hc
    · rw [sat_cons_ne z, List.getElem?_set_ne z]; exact h.sp j hj
theorem Has.val {i : Nat} {d : D} (h : Has C S t ρ) (hs : sat S i = .val d) (hl : i < C.N) : ρ[i]? = some (.val d) := by
  have := h.sp i hl; rw [hs] at this; exact this
theorem Has.own {i : Nat} {d : Ob} (h : Has C S t ρ) (hs : sat S i = .own d) (hl : i < C.N) : ρ[i]? = some (.own d) := by
  have := h.sp i hl; rw [hs] at this; exact this
/-- the state's slot is written -/
theorem Has.town {i : Nat} {t' : τ} (h : Has C S t ρ) (hs : C.sl = some i) (hl : i < C.N) (ho : C.O.contains i = true) (hn : sat S i = .any) : Has C S t' (ρ.set i (C.cell t')) where
  len := by rw [List.length_set]; exact h.len
  no := fun j hj o e => by
    by_cases z : i = j
    · subst z; rw [ho] at hj; cases hj
    · rw [List.getElem?_set_ne z] at e; exact h.no j hj o e
  tk := fun j hj => by
    rw [hs] at hj; cases hj
    rw [List.getElem?_set_self (by rw [h.len]; exact hl)]
  sp := fun j hj => by
    by_cases z : i = j
    · subst z; rw [hn]; exact True.intro
    · rw [List.getElem?_set_ne z]; exact h.sp j hj
end

/-! ### expressions -/
def NE {τ α : Type} (C : Ctx τ) (S : Slots) (m : M α) (n : T τ α) : Prop := ∀ t ρ, Has C S t ρ → match n t with
  | .ok a t' => ∃ ρ', m ρ = .ok a ρ' ∧ Has C S t' ρ'
  | .exc x t' => ∃ ρ', m ρ = .exc x ρ' ∧ Has C S t' ρ'
  | .bad => True
section
variable {τ α β : Type} {C : Ctx τ} {S : Slots}
theorem ne_bnd {m : M α} {n : T τ α} {k : α → M β} {k' : α → T τ β} (h : NE C S m n) (hk : ∀ a, NE C S (k a) (k' a)) : NE C S (fun ρ => bnd (m ρ) k) (bT n k') := by
  intro t ρ g
  have q := h t ρ g
  show match bR (n t) k' with | .ok a t' => _ | .exc x t' => _ | .bad => _
  cases e : n t with
  | ok a t' =>
    rw [e] at q
    obtain ⟨ρ', e1, g1⟩ := q
    have q2 := hk a t' ρ' g1
    simp only [bR_ok]
    simp only [e1, bnd_ok]
    exact q2
  | exc x t' =>
    rw [e] at q
    obtain ⟨ρ', e1, g1⟩ := q
    simp only [bR_exc]
    simp only [e1, bnd_exc]
    exact ⟨ρ', rfl, g1⟩
  | bad => simp only [bR_bad]
theorem ne_p (a : α) : NE C S (fun ρ => .ok a ρ) (pT a) := fun t ρ g => ⟨ρ, rfl, g⟩
theorem ne_l (o : Option α) : NE C S (fun ρ => lft o ρ) (lT o) := fun t ρ g => by
  cases o with
  | some a => exact ⟨ρ, rfl, g⟩
  | none => exact True.intro
theorem ne_z {m : M α} : NE C S m zT := fun t ρ g => True.intro
theorem NE.cast {m m' : M α} {n n' : T τ α} (h : NE C S m n) (e : ∀ ρ, m' ρ = m ρ) (e' : ∀ t, n' t = n t) : NE C S m' n' := fun t ρ g => by
  have q := h t ρ g; rw [e' t]; simp only [e]; exact q

def nC {τ : Type} (d : D) : T τ D := pT d
theorem ne_c (d : D) : NE C S (mC d) (nC d) := ne_p d
theorem ne_var {i : Nat} {d : D} (h : sat S i = .val d := by rfl) (hl : (decide (i < C.N)) = true := by rfl) : NE C S (mVar i) (nC d) := fun t ρ g => by
  refine ⟨ρ, ?_, g⟩
  unfold mVar; rw [g.val h (of_decide_eq_true hl)]
theorem ne_frz {i : Nat} {o : Ob} (h : sat S i = .frz o := by rfl) (hl : (decide (i < C.N)) = true := by rfl) (hs : (C.sl == some i) = false := by rfl) : NE C S (mFrz i) (nC o.d) := fun t ρ g => by
  have hl := of_decide_eq_true hl
  have q := g.sp i hl
  rw [h] at q
  rcases q with q | q
  · refine ⟨ρ.set i (.val o.d), ?_, ?_⟩
    · unfold mFrz; rw [q]
    · have g2 := g.set (i := i) (c := .val o.d) (s := .frz o) (fun _ _ e => by cases e) (fun e => by rw [e] at hs; simp at hs) (.inr rfl) hl
      refine ⟨g2.len, g2.no, g2.tk, fun j hj => ?_⟩
      have q2 := g2.sp j hj
      by_cases z : i = j
      · subst z; rw [h]; rw [sat_cons_same] at q2; exact q2
      · rw [sat_cons_ne z] at q2; exact q2
  · refine ⟨ρ, ?_, g⟩
    unfold mFrz; rw [q]
theorem ne_frzV {i : Nat} {d : D} (h : sat S i = .val d := by rfl) (hl : (decide (i < C.N)) = true := by rfl) : NE C S (mFrz i) (nC d) := fun t ρ g => by
  refine ⟨ρ, ?_, g⟩
  unfold mFrz; rw [g.val h (of_decide_eq_true hl)]

def nBin {τ : Type} (f : D → D → Option D) (a b : T τ D) : T τ D := bT a fun x => bT b fun y => lT (f x y)
def nUn {τ : Type} (f : D → Option D) (a : T τ D) : T τ D := bT a fun x => lT (f x)
def nApp {τ : Type} (f : List D → Option D) (a : T τ (List D)) : T τ D := bT a fun x => lT (f x)
def nNil {τ : Type} : T τ (List D) := pT []
def nCons {τ : Type} (a : T τ D) (b : T τ (List D)) : T τ (List D) := bT a fun x => bT b fun y => pT (x :: y)
def gdT {τ α : Type} (p : Prop) [Decidable p] (a : α) : T τ α := lT (if p then some a else none)
def nTup {τ : Type} (a : T τ (List D)) : T τ D := bT a fun ds => gdT (ds.length ≤ sizeLine) (.tuple ds)
def nLst {τ : Type} (a : T τ (List D)) : T τ (List D) := bT a fun ds => gdT (ds.length ≤ sizeLine) ds
def nB {τ : Type} (a : T τ D) : T τ Bool := bT a fun d => match d with
  | .bool b => pT b
  | _ => zT
def nAnd {τ : Type} (a b : T τ D) : T τ D := bT a fun d => match d with
  | .bool true => b
  | .bool false => pT (.bool false)
  | _ => zT
def nOr {τ : Type} (a b : T τ D) : T τ D := bT a fun d => match d with
  | .bool true => pT (.bool true)
  | .bool false => b
  | _ => zT
def nNot {τ : Type} (a : T τ D) : T τ D := bT a fun d => match d with
  | .bool b => pT (.bool (!b))
  | _ => zT
def tAndN {τ : Type} (a b : T τ Bool) : T τ Bool := bT a fun x => iT x b (pT false)
def tOrN {τ : Type} (a b : T τ Bool) : T τ Bool := bT a fun x => iT x (pT true) b
def tNotN {τ : Type} (a : T τ Bool) : T τ Bool := bT a fun x => pT (!x)
def nIf {τ : Type} (c : T τ Bool) (a b : T τ D) : T τ D := bT c fun x => iT x a b
def nCh {τ : Type} (f f' : D → D → Option D) (a b c : T τ D) : T τ D := bT a fun x => bT b fun y => match f x y with
  | some (.bool true) => bT c fun z => lT (f' y z)
  | some (.bool false) => pT (.bool false)
  | _ => zT
def nCh3 {τ : Type} (f1 f2 f3 : D → D → Option D) (a b c d : T τ D) : T τ D := bT a fun x => bT b fun y => match f1 x y with
  | some (.bool true) => bT c fun z => (match f2 y z with
    | some (.bool true) => bT d fun w => lT (f3 z w)
    | some (.bool false) => pT (.bool false)
    | _ => zT)
  | some (.bool false) => pT (.bool false)
  | _ => zT
def oN {τ : Type} : T τ (Option Int) := pT none
def oS {τ : Type} (a : T τ D) : T τ (Option Int) := bT a fun d => match d with
  | .int i => pT (some i)
  | _ => zT
def nSl {τ : Type} (a : T τ D) (l h : T τ (Option Int)) : T τ D := bT a fun d => bT l fun lo => bT h fun hi => lT (fSl d lo hi)
variable {ma mb mc md : M D} {na nb nc nd : T τ D} {mas : M (List D)} {nas : T τ (List D)} {f f' f3 : D → D → Option D} {ta tb : M Bool} {ua ub : T τ Bool}
theorem ne_bin (ha : NE C S ma na) (hb : NE C S mb nb) : NE C S (mBin f ma mb) (nBin f na nb) := ne_bnd ha fun _ => ne_bnd hb fun _ => ne_l _
theorem ne_un {f : D → Option D} (ha : NE C S ma na) : NE C S (mUn f ma) (nUn f na) := ne_bnd ha fun _ => ne_l _
theorem ne_app {f : List D → Option D} (ha : NE C S mas nas) : NE C S (mApp f mas) (nApp f nas) := ne_bnd ha fun _ => ne_l _
theorem ne_nil : NE C S mNil nNil := ne_p []
theorem ne_cons (ha : NE C S ma na) (hb : NE C S mas nas) : NE C S (mCons ma mas) (nCons na nas) := ne_bnd ha fun _ => ne_bnd hb fun _ => ne_p _
theorem ne_gd (p : Prop) [Decidable p] (a : α) : NE C S (fun ρ => if p then .ok a ρ else .bad) (gdT p a) := fun t ρ g => by
  unfold gdT
  by_cases h : p
  · rw [if_pos h]; refine ⟨ρ, ?_, g⟩; simp only [if_pos h]
  · rw [if_neg h]; exact True.intro
theorem ne_tup (ha : NE C S mas nas) : NE C S (mTup mas) (nTup nas) := ne_bnd ha fun ds => ne_gd _ _
theorem ne_B (ha : NE C S ma na) : NE C S (asB ma) (nB na) := ne_bnd ha fun d => by cases d <;> first | exact ne_p _ | exact ne_z
theorem ne_and (ha : NE C S ma na) (hb : NE C S mb nb) : NE C S (mAndV ma mb) (nAnd na nb) := ne_bnd ha fun d => by
  cases d with
  | bool b => cases b <;> first | exact hb | exact ne_p _
  | _ => exact ne_z
theorem ne_or (ha : NE C S ma na) (hb : NE C S mb nb) : NE C S (mOrV ma mb) (nOr na nb) := ne_bnd ha fun d => by
  cases d with
  | bool b => cases b <;> first | exact hb | exact ne_p _
  | _ => exact ne_z
theorem ne_not (ha : NE C S ma na) : NE C S (mNotV ma) (nNot na) := ne_bnd ha fun d => by cases d <;> first | exact ne_p _ | exact ne_z
theorem ne_tand (ha : NE C S ta ua) (hb : NE C S tb ub) : NE C S (tAndM ta tb) (tAndN ua ub) := ne_bnd ha fun b => by
  cases b with
  | true => exact hb
  | false => exact ne_p false
theorem ne_tor (ha : NE C S ta ua) (hb : NE C S tb ub) : NE C S (tOrM ta tb) (tOrN ua ub) := ne_bnd ha fun b => by
  cases b with
  | true => exact ne_p true
  | false => exact hb
theorem ne_tnot (ha : NE C S ta ua) : NE C S (tNotM ta) (tNotN ua) := ne_bnd ha fun b => ne_p _
theorem ne_if (hc : NE C S ta ua) (ha : NE C S ma na) (hb : NE C S mb nb) : NE C S (mIf ta ma mb) (nIf ua na nb) := ne_bnd hc fun b => by
  cases b with
  | true => exact ha
  | false => exact hb
theorem ne_ch (ha : NE C S ma na) (hb : NE C S mb nb) (hc : NE C S mc nc) : NE C S (mChain f f' ma mb mc) (nCh f f' na nb nc) := ne_bnd ha fun x => ne_bnd hb fun y => by
  cases e : f x y with
  | none => exact ne_z
  | some d =>
    cases d with
    | bool b => cases b <;> first | exact ne_p _ | exact ne_bnd hc fun z => ne_l _
    | _ => exact ne_z
theorem ne_ch3 (ha : NE C S ma na) (hb : NE C S mb nb) (hc : NE C S mc nc) (hd : NE C S md nd) : NE C S (mCh3 f f' f3 ma mb mc md) (nCh3 f f' f3 na nb nc nd) := ne_bnd ha fun x => ne_bnd hb fun y => by
  cases e : f x y with
  | none => exact ne_z
  | some d =>
    cases d with
    | bool b =>
      cases b
      · exact ne_p _
      · refine ne_bnd hc fun z => ?_
        cases e2 : f' y z with
        | none => exact ne_z
        | some d =>
          cases d with
          | bool b => cases b <;> first | exact ne_p _ | exact ne_bnd hd fun z => ne_l _
          | _ => exact ne_z
    | _ => exact ne_z
theorem ne_oN : NE C S oNo oN := ne_p none
theorem ne_oS (ha : NE C S ma na) : NE C S (oSome ma) (oS na) := ne_bnd ha fun d => by cases d <;> first | exact ne_p _ | exact ne_z
theorem ne_sl {ml mh : M (Option Int)} {nl nh : T τ (Option Int)} (ha : NE C S ma na) (hl : NE C S ml nl) (hh : NE C S mh nh) : NE C S (mSl ma ml mh) (nSl na nl nh) :=
  ne_bnd ha fun _ => ne_bnd hl fun _ => ne_bnd hh fun _ => ne_l _

/-! new lists -/
def oL {τ : Type} (n : T τ (List D)) : T τ Ob := bT n fun ds => pT (Ob.lst ds)
def NL (C : Ctx τ) (S : Slots) (m : M Ob) (n : T τ (List D)) : Prop := NE C S m (oL n)
def oDT {τ : Type} (n : T τ (List (List Int × D))) : T τ Ob := bT n fun ds => pT (Ob.dT ds)
def NDT (C : Ctx τ) (S : Slots) (m : M Ob) (n : T τ (List (List Int × D))) : Prop := NE C S m (oDT n)
def nLd {τ : Type} (n : T τ (List D)) : T τ D := bT n fun ds => pT (.list ds)
theorem NE.n {m : M α} {n n' : T τ α} (h : NE C S m n) (e : ∀ t, n' t = n t) : NE C S m n' := fun t ρ g => by rw [e t]; exact h t ρ g
theorem bR_assoc {γ : Type} (r : RT τ α) (k : α → T τ β) (l : β → T τ γ) : bR (bR r k) l = bR r fun a => bT (k a) l := by cases r <;> rfl
theorem ne_ld {m : M Ob} {n : T τ (List D)} (h : NL C S m n) : NE C S (mLd m) (nLd n) := by
  have := ne_bnd (k := fun (o : Ob) ρ1 => .ok o.d ρ1) (k' := fun o => pT o.d) h fun o => ne_p o.d
  refine this.n fun t => ?_
  simp only [nLd, oL, bT_ap, bR_assoc]
  congr 1
theorem nl_lst (h : NE C S mas nas) : NL C S (mLst mas) (nLst nas) := by
  have := ne_bnd (k := fun (ds : List D) ρ1 => if ds.length ≤ sizeLine then .ok (Ob.lst ds) ρ1 else .bad) (k' := fun ds => gdT (ds.length ≤ sizeLine) (Ob.lst ds)) h fun ds => ne_gd _ _
  refine this.n fun t => ?_
  simp only [nLst, oL, bT_ap, bR_assoc]
  congr 1
  funext ds t
  simp only [bT_ap, gdT]
  split <;> rfl
def catL : D → D → Option (List D)
  | .list a, .list b => if a.length + b.length ≤ sizeLine then some (a ++ b) else none
  | _, _ => none
theorem catL_eq (d e : D) : fCat d e = (catL d e).map .lst := by
  cases d <;> cases e <;> try rfl
  simp only [fCat, catL]
  split <;> rfl
def nCat {τ : Type} (a b : T τ D) : T τ (List D) := bT a fun x => bT b fun y => lT (catL x y)
theorem nl_of {m : M α} {n : T τ α} {k : α → M Ob} {k' : α → T τ (List D)} (h : NE C S m n) (hk : ∀ a, NL C S (k a) (k' a)) : NL C S (fun ρ => bnd (m ρ) k) (bT n k') :=
  (ne_bnd h hk).n fun t => by simp only [oL, bT_ap, bR_assoc]
theorem nl_l {o : Option Ob} {o' : Option (List D)} (e : o = o'.map .lst) : NL C S (fun ρ => lft o ρ) (lT o') := (ne_l o).n fun t => by subst e; cases o' <;> rfl
theorem nl_cat (ha : NE C S ma na) (hb : NE C S mb nb) : NL C S (mBinL fCat ma mb) (nCat na nb) := nl_of ha fun _ => nl_of hb fun _ => nl_l (catL_eq _ _)
def listL : List D → Option (List D)
  | [.list ds] => some ds
  | [.tuple ds] => some ds
  | _ => none
theorem listL_eq (ds : List D) : fList ds = (listL ds).map .lst := by
  match ds with
  | [] => rfl
  | [d] => cases d <;> rfl
  | d :: _ :: _ => cases d <;> rfl
def nList {τ : Type} (a : T τ (List D)) : T τ (List D) := bT a fun ds => lT (listL ds)
theorem nl_list (h : NE C S mas nas) : NL C S (mAppL fList mas) (nList nas) := nl_of h fun _ => nl_l (listL_eq _)
def dictL : List D → Option (List (List Int × D))
  | [.list ds] => (pairsT ds).map mergeT
  | _ => none
def nDict {τ : Type} (a : T τ (List D)) : T τ (List (List Int × D)) := bT a fun ds => lT (dictL ds)
theorem nd_dict (h : NE C S mas nas) : NDT C S (mAppL fDictT mas) (nDict nas) := by
  refine (ne_bnd h fun ds => ne_l (fDictT ds)).n fun t => ?_
  simp only [oDT, nDict, bT_ap, bR_assoc]
  congr 1
  funext ds t
  have e : fDictT ds = (dictL ds).map .dT := by
    match ds with
    | [] => rfl
    | [d] => cases d <;> first | rfl | (simp only [fDictT, dictL, Option.map_map]; rfl)
    | d :: _ :: _ => cases d <;> rfl
  rw [e]
  cases dictL ds <;> rfl
def nRep {τ : Type} (a : T τ (List D)) (b : T τ D) : T τ (List D) := bT a fun ds => bT b fun d => match d with
  | .int n => gdT (-(2 ^ 63) ≤ n ∧ n < 2 ^ 63 ∧ ds.length * n.toNat ≤ sizeLine) (List.replicate n.toNat ds).flatten
  | _ => zT
theorem nl_gd (p : Prop) [Decidable p] (a : List D) : NL C S (fun ρ => if p then .ok (.lst a) ρ else .bad) (gdT p a) := by
  refine (ne_gd p (Ob.lst a)).n fun t => ?_
  simp only [oL, bT_ap, gdT]
  split <;> rfl
theorem nl_z {m : M Ob} : NL C S m zT := fun t ρ g => True.intro
theorem nl_rep {mo : M Ob} {no : T τ (List D)} (ha : NL C S mo no) (hb : NE C S mb nb) : NL C S (mRep mo mb) (nRep no nb) := by
  have h : NL C S (mRep mo mb) (bT (oL no) fun o => match o with
    | .lst ds => bT nb fun d => (match d with
      | .int n => gdT (-(2 ^ 63) ≤ n ∧ n < 2 ^ 63 ∧ ds.length * n.toNat ≤ sizeLine) (List.replicate n.toNat ds).flatten
      | _ => zT)
    | _ => zT) := nl_of ha fun o => by
      cases o with
      | lst ds =>
        refine nl_of hb fun d => ?_
        cases d <;> first | exact nl_z | exact nl_gd _ _
      | _ => exact nl_z
  refine NE.n h fun t => ?_
  simp only [nRep, oL, bT_ap, bR_assoc]
  congr 1

/-! own lists and dicts -/
theorem ownL_of {i : Nat} {ρ : Rho} {ds : List D} (h : ρ[i]? = some (.own (.lst ds))) : ownL ρ i = some ds := by unfold ownL; rw [h]
theorem ownT_of {i : Nat} {ρ : Rho} {ds : List (List Int × D)} (h : ρ[i]? = some (.own (.dT ds))) : ownT ρ i = some ds := by unfold ownT; rw [h]
/-- an own list that is read ahead of, and behind, a part -/
theorem ne_own2 {i : Nat} {ds : List D} {m : M α} {n : T τ α} {k : List D → α → M β} {k' : α → T τ β} (h : NE C S m n) (hk : ∀ a, NE C S (k ds a) (k' a)) (hs : sat S i = .own (.lst ds)) (hl : (decide (i < C.N)) = true) :
    NE C S (fun ρ => match ownL ρ i with
      | some _ => bnd (m ρ) fun a ρ1 => (match ownL ρ1 i with
        | some ds => k ds a ρ1
        | none => .bad)
      | none => .bad) (bT n k') := by
  have hl := of_decide_eq_true hl
  have q : NE C S (fun ρ => bnd (m ρ) fun a ρ1 => (match ownL ρ1 i with
        | some ds => k ds a ρ1
        | none => .bad)) (bT n k') := ne_bnd h fun a => by
    intro t ρ g
    have := hk a t ρ g
    simp only [ownL_of (g.own hs hl)]
    exact this
  intro t ρ g
  have := q t ρ g
  simp only [ownL_of (g.own hs hl)]
  exact this
theorem ne_own1 {i : Nat} {ds : List D} {m : M α} {n : T τ α} {k : List D → α → M β} {k' : α → T τ β} (h : NE C S m n) (hk : ∀ a, NE C S (k ds a) (k' a)) (hs : sat S i = .own (.lst ds)) (hl : (decide (i < C.N)) = true) :
    NE C S (fun ρ => bnd (m ρ) fun a ρ1 => (match ownL ρ1 i with
        | some ds => k ds a ρ1
        | none => .bad)) (bT n k') := by
  have hl := of_decide_eq_true hl
  refine ne_bnd h fun a => ?_
  intro t ρ g
  have := hk a t ρ g
  simp only [ownL_of (g.own hs hl)]
  exact this
def nIxO {τ : Type} (ds : List D) (b : T τ D) : T τ D := bT b fun d => lT (fIx (.list ds) d)
theorem ne_ixO {i : Nat} {ds : List D} (hb : NE C S mb nb) (hs : sat S i = .own (.lst ds) := by rfl) (hl : (decide (i < C.N)) = true := by rfl) : NE C S (mIxO i mb) (nIxO ds nb) :=
  ne_own2 (k := fun ds d ρ => lft (fIx (.list ds) d) ρ) hb (fun _ => ne_l _) hs hl
def onlyT {τ : Type} (o : Option D) : T τ D := match o with
  | some (.bool b) => pT (.bool b)
  | _ => zT
theorem ne_only (o : Option D) : NE C S (fun ρ => onlyB o ρ) (onlyT o) := by
  unfold onlyB onlyT
  cases o with
  | none => exact ne_z
  | some d => cases d <;> first | exact ne_p _ | exact ne_z
def nCmR {τ : Type} (f : D → D → Option D) (a : T τ D) (ds : List D) : T τ D := bT a fun d => onlyT (f d (.list ds))
def nCmL {τ : Type} (f : D → D → Option D) (ds : List D) (b : T τ D) : T τ D := bT b fun d => onlyT (f (.list ds) d)
theorem ne_cmR {i : Nat} {ds : List D} (ha : NE C S ma na) (hs : sat S i = .own (.lst ds) := by rfl) (hl : (decide (i < C.N)) = true := by rfl) : NE C S (mCmpOR f ma i) (nCmR f na ds) :=
  ne_own1 (k := fun ds d ρ => onlyB (f d (.list ds)) ρ) ha (fun _ => ne_only _) hs hl
theorem ne_cmL {i : Nat} {ds : List D} (ha : NE C S ma na) (hs : sat S i = .own (.lst ds) := by rfl) (hl : (decide (i < C.N)) = true := by rfl) : NE C S (mCmpOL f i ma) (nCmL f ds na) :=
  ne_own2 (k := fun ds d ρ => onlyB (f (.list ds) d) ρ) ha (fun _ => ne_only _) hs hl
def nLenO {τ : Type} (ds : List D) : T τ D := pT (.int ds.length)
theorem ne_lenO {i : Nat} {ds : List D} (hs : sat S i = .own (.lst ds) := by rfl) (hl : (decide (i < C.N)) = true := by rfl) : NE C S (mLenO i) (nLenO ds) := fun t ρ g => by
  refine ⟨ρ, ?_, g⟩
  unfold mLenO; rw [ownL_of (g.own hs (of_decide_eq_true hl))]
def nCatO {τ : Type} (ds : List D) (b : T τ D) : T τ (List D) := bT b fun d => lT (catL (.list ds) d)
theorem nl_catO {i : Nat} {ds : List D} (hb : NE C S mb nb) (hs : sat S i = .own (.lst ds) := by rfl) (hl : (decide (i < C.N)) = true := by rfl) : NL C S (mCatO i mb) (nCatO ds nb) := by
  have h : NE C S (mCatO i mb) (bT nb fun d => oL (lT (catL (.list ds) d))) := ne_own2 (k := fun ds d ρ => lft (fCat (.list ds) d) ρ) hb (fun _ => nl_l (catL_eq _ _)) hs hl
  exact h.n fun t => by simp only [oL, nCatO, bT_ap, bR_assoc]
def nInT {τ : Type} (neg : Bool) (a : T τ D) (kvs : List (List Int × D)) : T τ D := bT a fun d => match keyT d with
  | some ns => pT (.bool (xor neg (lookT kvs ns).isSome))
  | none => zT
theorem ne_inT {i : Nat} {neg : Bool} {kvs : List (List Int × D)} (ha : NE C S ma na) (hs : sat S i = .own (.dT kvs) := by rfl) (hl : (decide (i < C.N)) = true := by rfl) : NE C S (mInT neg ma i) (nInT neg na kvs) := by
  refine ne_bnd ha fun d => ?_
  intro t ρ g
  simp only [ownT_of (g.own hs (of_decide_eq_true hl))]
  cases keyT d with
  | none => exact True.intro
  | some ns => exact ⟨ρ, rfl, g⟩

/-! calls -/
def frT {τ : Type} (r : FR) : T τ D := fun t => match r with
  | .ok d => .ok d t
  | .exc s => .exc s t
  | .bad => .bad
@[simp] theorem frT_ok (d : D) (t : τ) : frT (.ok d) t = .ok d t := rfl
@[simp] theorem frT_exc (d : Str) (t : τ) : frT (.exc d) t = .exc d t := rfl
@[simp] theorem frT_bad (t : τ) : (frT .bad : T τ D) t = .bad := rfl
/-- q tells what fn gives at k arguments, where it tells anything -/
def LeQ (k : Nat) (q fn : List D → FR) : Prop := ∀ ds, q ds = .bad ∨ (ds.length = k ∧ q ds = fn ds)
def gq (k : Nat) (fn : List D → FR) : List D → FR := fun ds => if ds.length = k then fn ds else .bad
theorem leq_gq {k : Nat} {fn : List D → FR} : LeQ k (gq k fn) fn := fun ds => by
  unfold gq
  by_cases h : ds.length = k
  · rw [if_pos h]; exact .inr ⟨h, rfl⟩
  · rw [if_neg h]; exact .inl rfl
def nCall {τ : Type} (q : List D → FR) (a : T τ (List D)) : T τ D := bT a fun ds => frT (q ds)
theorem ne_call {k : Nat} {q fn : List D → FR} (hq : LeQ k q fn) (ha : NE C S mas nas) : NE C S (mCall k fn mas) (nCall q nas) := by
  refine ne_bnd ha fun ds => ?_
  intro t ρ g
  rcases hq ds with h | ⟨h1, h2⟩
  · rw [h]; exact True.intro
  · simp only [h1, if_true]
    rw [← h2]
    cases q ds with
    | ok d => exact ⟨ρ, rfl, g⟩
    | exc x => exact ⟨ρ, rfl, g⟩
    | bad => exact True.intro
end
def frtT (q : D → List D → List D → FRT) (d0 : D) (dr : List D) : T (List D) D := fun t => match q d0 t dr with
  | .ok d t' => .ok d t'
  | .exc s t' => .exc s t'
  | .bad => .bad
def LeQT (k : Nat) (q fn : D → List D → List D → FRT) : Prop := ∀ d ts ds, q d ts ds = .bad ∨ (ds.length + 2 = k ∧ q d ts ds = fn d ts ds)
def gqT (k : Nat) (fn : D → List D → List D → FRT) : D → List D → List D → FRT := fun d ts ds => if ds.length + 2 = k then fn d ts ds else .bad
theorem leqT_gq {k : Nat} {fn : D → List D → List D → FRT} : LeQT k (gqT k fn) fn := fun d ts ds => by
  unfold gqT
  by_cases h : ds.length + 2 = k
  · rw [if_pos h]; exact .inr ⟨h, rfl⟩
  · rw [if_neg h]; exact .inl rfl
def nCallT (q : D → List D → List D → FRT) (a : T (List D) D) (r : T (List D) (List D)) : T (List D) D := bT a fun d0 => bT r fun dr => frtT q d0 dr
section
variable {N : Nat} {O : List Nat} {S : Slots}
theorem ne_callT {k : Nat} {q fn : D → List D → List D → FRT} {m0 : M D} {n0 : T (List D) D} {mr : M (List D)} {nr : T (List D) (List D)} (hq : LeQT k q fn) (h0 : NE (cxT N O) S m0 n0) (hr : NE (cxT N O) S mr nr)
    (hl : (decide (1 < N)) = true := by rfl) (ho : O.contains 1 = true := by rfl) (hn : sat S 1 = .any := by rfl) : NE (cxT N O) S (mCallT k fn m0 1 mr) (nCallT q n0 nr) := by
  refine ne_bnd h0 fun d0 => ?_
  have q2 : NE (cxT N O) S (fun ρ => bnd (mr ρ) fun dr ρ2 => if dr.length + 2 = k then callT fn d0 1 dr ρ2 else .bad) (bT nr fun dr => frtT q d0 dr) := by
    refine ne_bnd hr fun dr => ?_
    intro t ρ g
    unfold frtT
    rcases hq d0 t dr with h | ⟨h1, h2⟩
    · rw [h]; exact True.intro
    · simp only [h1, if_true]
      have e : ownL ρ 1 = some t := ownL_of (g.tk 1 rfl)
      unfold callT
      rw [e]
      simp only []
      rw [← h2]
      cases q d0 t dr with
      | ok d t' => exact ⟨_, rfl, g.town (i := 1) rfl (of_decide_eq_true hl) ho hn⟩
      | exc x t' => exact ⟨_, rfl, g.town (i := 1) rfl (of_decide_eq_true hl) ho hn⟩
      | bad => exact True.intro
  intro t ρ g
  have := q2 t ρ g
  simp only [show ownL ρ 1 = some t from ownL_of (g.tk 1 rfl)]
  exact this
end
end NX

set_option maxHeartbeats 1000000
namespace NX
open PySem PySem.Spec PyProof.Rows L2 DX
/-! ### targets -/
def NG {τ π : Type} (C : Ctx τ) (S : Slots) (gs : D → Rho → Option Rho) (f : D → Option π) (Kp : π → Slots) : Prop := ∀ x t ρ, Has C S t ρ → match f x with
  | some p => ∃ ρ', gs x ρ = some ρ' ∧ Has C (Kp p ++ S) t ρ'
  | none => True
def g1 (d : D) : Option D := some d
def g2 : D → Option (D × D)
  | .tuple [a, b] => some (a, b)
  | _ => none
def g3 : D → Option (D × D × D)
  | .tuple [a, b, c] => some (a, b, c)
  | _ => none
def g4 : D → Option (D × D × D × D)
  | .tuple [a, b, c, d] => some (a, b, c, d)
  | _ => none
@[simp] theorem g1_eq (d : D) : g1 d = some d := rfl
@[simp] theorem g2_eq (a b : D) : g2 (.tuple [a, b]) = some (a, b) := rfl
@[simp] theorem g3_eq (a b c : D) : g3 (.tuple [a, b, c]) = some (a, b, c) := rfl
@[simp] theorem g4_eq (a b c d : D) : g4 (.tuple [a, b, c, d]) = some (a, b, c, d) := rfl
/-- a slot may be stored: it is no object's own and not the state's -/
def Ctx.free {τ : Type} (C : Ctx τ) (i : Nat) : Bool := decide (i < C.N) && !(C.sl == some i)
theorem Has.setV {τ : Type} {C : Ctx τ} {S : Slots} {t : τ} {ρ : Rho} {i : Nat} {d : D} (h : Has C S t ρ) (f : C.free i = true) : Has C ((i, .val d) :: S) t (ρ.set i (.val d)) := by
  simp only [Ctx.free, Bool.and_eq_true, decide_eq_true_eq, Bool.not_eq_true'] at f
  exact h.set (fun _ _ e => by cases e) (fun e => by rw [e] at f; simp at f) rfl f.1
theorem Has.setO {τ : Type} {C : Ctx τ} {S : Slots} {t : τ} {ρ : Rho} {i : Nat} {d : Ob} (h : Has C S t ρ) (f : C.free i = true) (ho : C.O.contains i = true) : Has C ((i, .own d) :: S) t (ρ.set i (.own d)) := by
  simp only [Ctx.free, Bool.and_eq_true, decide_eq_true_eq, Bool.not_eq_true'] at f
  exact h.set (fun e => by rw [ho] at e; cases e) (fun e => by rw [e] at f; simp at f) rfl f.1
section
variable {τ : Type} {C : Ctx τ} {S : Slots}
theorem ng1 {i : Nat} (h : C.free i = true := by rfl) : NG C S (gSet i) g1 (fun d => [(i, .val d)]) := fun x t ρ g => ⟨_, rfl, g.setV h⟩
theorem ng2 {i j : Nat} (hi : C.free i = true := by rfl) (hj : C.free j = true := by rfl) : NG C S (gTupD (gsCons (gSet i) (gsCons (gSet j) gsNil))) g2 (fun p => [(j, .val p.2), (i, .val p.1)]) := fun x t ρ g => by
  unfold g2
  split
  · rename_i p h
    split at h
    · cases h; exact ⟨_, rfl, (g.setV hi).setV hj⟩
    · cases h
  · trivial
theorem ng3 {i j k : Nat} (hi : C.free i = true := by rfl) (hj : C.free j = true := by rfl) (hk : C.free k = true := by rfl) : NG C S (gTupD (gsCons (gSet i) (gsCons (gSet j) (gsCons (gSet k) gsNil)))) g3 (fun p => [(k, .val p.2.2), (j, .val p.2.1), (i, .val p.1)]) := fun x t ρ g => by
  unfold g3
  split
  · rename_i p h
    split at h
    · cases h; exact ⟨_, rfl, ((g.setV hi).setV hj).setV hk⟩
    · cases h
  · trivial
theorem ng4 {i j k l : Nat} (hi : C.free i = true := by rfl) (hj : C.free j = true := by rfl) (hk : C.free k = true := by rfl) (hl : C.free l = true := by rfl) : NG C S (gTupD (gsCons (gSet i) (gsCons (gSet j) (gsCons (gSet k) (gsCons (gSet l) gsNil))))) g4 (fun p => [(l, .val p.2.2.2), (k, .val p.2.2.1), (j, .val p.2.1), (i, .val p.1)]) := fun x t ρ g => by
  unfold g4
  split
  · rename_i p h
    split at h
    · cases h; exact ⟨_, rfl, (((g.setV hi).setV hj).setV hk).setV hl⟩
    · cases h
  · trivial
end
/-! ### what is walked -/
def nSeq {τ : Type} (a : T τ D) : T τ (List D) := bT a fun d => lT (seqD d)
/-! (bounds are told by Nat.ble: a check of the kernel that meets them stops at once) -/
def rg1 : List D → Option (List D)
  | [.int j] => if Nat.ble j.natAbs 1000000 = true then some (rangeD 0 j.toNat) else none
  | _ => none
def rg2 : List D → Option (List D)
  | [.int i, .int j] => if (Nat.ble i.natAbs 1000000 && Nat.ble j.natAbs 1000000) = true then some (rangeD i (j - i).toNat) else none
  | _ => none
theorem rg1_le {ds xs : List D} (h : rg1 ds = some xs) : rng1 ds = some xs := by
  unfold rg1 at h
  split at h
  · rename_i j
    split at h
    · rename_i hz
      have hz := Nat.le_of_ble_eq_true hz
      cases h
      rw [rng1, if_pos ⟨by omega, by omega⟩]
    · cases h
  · cases h
theorem rg2_le {ds xs : List D} (h : rg2 ds = some xs) : rng2 ds = some xs := by
  unfold rg2 at h
  split at h
  · rename_i i j
    split at h
    · rename_i hz
      rw [Bool.and_eq_true] at hz
      have h1 := Nat.le_of_ble_eq_true hz.1
      have h2 := Nat.le_of_ble_eq_true hz.2
      cases h
      rw [rng2, if_pos ⟨by omega, by omega, by omega, by omega⟩]
    · cases h
  · cases h
def nRange1 {τ : Type} (a : T τ (List D)) : T τ (List D) := bT a fun ds => lT (rg1 ds)
def nRange2 {τ : Type} (a : T τ (List D)) : T τ (List D) := bT a fun ds => lT (rg2 ds)
def gMul : D → D → Option D
  | .int i, .int j => if (Nat.ble i.natAbs 18446744073709551615 || Nat.ble j.natAbs 18446744073709551615) = true then some (.int (i * j)) else none
  | _, _ => none
def gDiv : D → D → Option D
  | .int i, .int j => if (Nat.ble 1 j.toNat && Nat.ble j.toNat 1073741823) = true then some (.int (i / j)) else none
  | _, _ => none
def gPow : D → D → Option D
  | .int i, .int j => if (decide (0 ≤ j) && Nat.ble j.natAbs 1000000 && Nat.ble i.natAbs 18446744073709551615) = true then some (.int (i ^ j.toNat)) else none
  | _, _ => none
def gShl : D → D → Option D
  | .int i, .int j => if (decide (0 ≤ j) && Nat.ble j.natAbs 1000000 && Nat.ble i.natAbs 18446744073709551615) = true then some (.int (i * 2 ^ j.toNat)) else none
  | _, _ => none
theorem gMul_le {a b z : D} (h : gMul a b = some z) : fMul a b = some z := by
  unfold gMul at h
  split at h
  · split at h
    · rename_i i j hz
      cases h
      rw [Bool.or_eq_true] at hz
      rw [fMul, if_pos]
      rcases hz with hz | hz
      · have := Nat.le_of_ble_eq_true hz; exact .inl ⟨by omega, by omega⟩
      · have := Nat.le_of_ble_eq_true hz; exact .inr ⟨by omega, by omega⟩
    · cases h
  · cases h
theorem gDiv_le {a b z : D} (h : gDiv a b = some z) : fDiv a b = some z := by
  unfold gDiv at h
  split at h
  · split at h
    · rename_i i j hz
      cases h
      rw [Bool.and_eq_true] at hz
      have h1 := Nat.le_of_ble_eq_true hz.1
      have h2 := Nat.le_of_ble_eq_true hz.2
      rw [fDiv, if_pos ⟨by omega, by omega⟩]
    · cases h
  · cases h
theorem gPow_le {a b z : D} (h : gPow a b = some z) : fPow a b = some z := by
  unfold gPow at h
  split at h
  · split at h
    · rename_i i j hz
      cases h
      simp only [Bool.and_eq_true, decide_eq_true_eq] at hz
      have h1 := Nat.le_of_ble_eq_true hz.1.2
      have h2 := Nat.le_of_ble_eq_true hz.2
      rw [fPow, if_pos ⟨hz.1.1, by omega, by omega⟩]
    · cases h
  · cases h
theorem gShl_le {a b z : D} (h : gShl a b = some z) : fShl a b = some z := by
  unfold gShl at h
  split at h
  · split at h
    · rename_i i j hz
      cases h
      simp only [Bool.and_eq_true, decide_eq_true_eq] at hz
      have h1 := Nat.le_of_ble_eq_true hz.1.2
      have h2 := Nat.le_of_ble_eq_true hz.2
      rw [fShl, if_pos ⟨hz.1.1, by omega, by omega⟩]
    · cases h
  · cases h
section
variable {τ : Type} {C : Ctx τ} {S : Slots} {ma : M D} {na : T τ D} {mas : M (List D)} {nas : T τ (List D)}
theorem ni_seq (h : NE C S ma na) : NE C S (iSeq ma) (nSeq na) := ne_bnd h fun _ => ne_l _
theorem ne_le {α : Type} {o o' : Option α} (h : ∀ {a}, o' = some a → o = some a) : NE C S (fun ρ => lft o ρ) (lT o') := fun t ρ g => by
  cases e : o' with
  | none => exact True.intro
  | some a => rw [h e]; exact ⟨ρ, rfl, g⟩
theorem ni_range1 (h : NE C S mas nas) : NE C S (iRange1 mas) (nRange1 nas) := ne_bnd h fun _ => ne_le rg1_le
theorem ni_range2 (h : NE C S mas nas) : NE C S (iRange2 mas) (nRange2 nas) := ne_bnd h fun _ => ne_le rg2_le
theorem ne_binG {f g : D → D → Option D} {mb : M D} {nb : T τ D} (hf : ∀ {a b z}, g a b = some z → f a b = some z) (ha : NE C S ma na) (hb : NE C S mb nb) : NE C S (mBin f ma mb) (nBin g na nb) := ne_bnd ha fun _ => ne_bnd hb fun _ => ne_le hf
end
/-! ### comprehensions -/
/-- no exception leaves -/
def cT {τ α β : Type} (n : T τ α) (k : α → T τ β) : T τ β := fun t => match n t with
  | .ok a t => k a t
  | _ => .bad
def cmL {τ π : Type} (f : D → Option π) (test : π → T τ Bool) (elt : π → T τ D) : List D → T τ (List D)
  | [] => pT []
  | x :: xs => match f x with
    | none => zT
    | some p => cT (test p) fun b => match b with
      | true => cT (elt p) fun d => cT (cmL f test elt xs) fun ds => pT (d :: ds)
      | false => cmL f test elt xs
def nYes {τ : Type} : T τ Bool := pT true
def nComp {τ π : Type} (ni : T τ (List D)) (f : D → Option π) (test : π → T τ Bool) (elt : π → T τ D) : T τ (List D) := bT ni fun xs => if xs.length ≤ sizeLine then cmL f test elt xs else zT
abbrev anyS (vs : List Nat) : Slots := vs.map fun i => (i, .any)
theorem sat_any {vs : List Nat} {S : Slots} {i : Nat} : sat (anyS vs ++ S) i = if vs.contains i = true then .any else sat S i := by
  induction vs with
  | nil => simp
  | cons v vs ih =>
    by_cases h : v = i
    · subst h
      show sat ((v, .any) :: (anyS vs ++ S)) v = _
      rw [sat_cons_same, if_pos (by simp)]
    · show sat ((v, .any) :: (anyS vs ++ S)) i = _
      rw [sat_cons_ne h, ih]
      have : (v :: vs).contains i = vs.contains i := by
        rw [List.contains_cons]
        have : (i == v) = false := by simpa using fun e => h e.symm
        rw [this, Bool.false_or]
      rw [this]
theorem sat_app {A S : Slots} {i : Nat} (h : (A.all fun q => !(q.1 == i)) = true) : sat (A ++ S) i = sat S i := by
  induction A with
  | nil => rfl
  | cons a A ih =>
    simp only [List.all_cons, Bool.and_eq_true, Bool.not_eq_true', beq_eq_false_iff_ne] at h
    obtain ⟨j, s⟩ := a
    show sat ((j, s) :: (A ++ S)) i = _
    rw [sat_cons_ne h.1]
    exact ih (by simpa using h.2)
theorem Has.wipe {τ : Type} {C : Ctx τ} {S : Slots} {t : τ} {ρ : Rho} {vs : List Nat} (h : Has C S t ρ) (hs : (vs.all fun v => !(C.sl == some v)) = true) : Has C (anyS vs ++ S) t (wipeR ρ vs) := by
  have hl : (wipeR ρ vs).length = C.N := by rw [wipeR_length]; exact h.len
  have key : ∀ (vs : List Nat) (i : Nat), vs.contains i = true → (wipeR ρ vs)[i]? = some .no ∨ (wipeR ρ vs)[i]? = none := by
    intro vs
    induction vs with
    | nil => intro i hi; simp at hi
    | cons v vs ih =>
      intro i hi
      unfold wipeR
      by_cases e : v = i
      · subst e
        by_cases hv : v < ρ.length
        · left; rw [List.getElem?_set_self (by rw [wipeR_length]; exact hv)]
        · right; rw [List.getElem?_eq_none (by rw [List.length_set, wipeR_length]; omega)]
      · rw [List.getElem?_set_ne e]
        refine ih i ?_
        simp only [List.contains_cons, Bool.or_eq_true, beq_iff_eq] at hi
        rcases hi with hi | hi
        · exact absurd hi.symm e
        · exact hi
  refine ⟨hl, fun i hi o e => ?_, fun i hi => ?_, fun i hi => ?_⟩
  · by_cases hc : vs.contains i = true
    · rcases key vs i hc with q | q <;> rw [q] at e <;> cases e
    · rw [wipeR_get_in (by simpa using hc)] at e; exact h.no i hi o e
  · have : ¬ i ∈ vs := fun z => by
      have := List.all_eq_true.mp hs i z
      rw [hi] at this; simp at this
    rw [wipeR_get_in this]; exact h.tk i hi
  · rw [sat_any]
    by_cases hc : vs.contains i = true
    · rw [if_pos hc]; exact True.intro
    · rw [if_neg hc, wipeR_get_in (by simpa using hc)]; exact h.sp i hi
/-- the names of a block are as before -/
theorem Has.unw {τ : Type} {C : Ctx τ} {S : Slots} {t t' : τ} {ρ1 ρ2 : Rho} {vs : List Nat} (h1 : Has C S t ρ1) (h2 : Has C (anyS vs ++ S) t' ρ2) (hs : (vs.all fun v => !(C.sl == some v)) = true) : Has C S t' (unw ρ1 vs ρ2) := by
  have hl : (DX.unw ρ1 vs ρ2).length = C.N := by rw [unw_length]; exact h2.len
  have inn : ∀ i, i ∈ vs → i < C.N → (DX.unw ρ1 vs ρ2)[i]? = ρ1[i]? := fun i hi hn => by
    rw [unw_get_in hi (by rw [h2.len]; exact hn), List.getD_eq_getElem?_getD, List.getElem?_eq_getElem (by rw [h1.len]; exact hn)]; rfl
  refine ⟨hl, fun i hi o e => ?_, fun i hi => ?_, fun i hi => ?_⟩
  · by_cases hc : i ∈ vs
    · by_cases hn : i < C.N
      · rw [inn i hc hn] at e; exact h1.no i hi o e
      · rw [List.getElem?_eq_none (by omega)] at e; cases e
    · rw [unw_out hc] at e; exact h2.no i hi o e
  · have : ¬ i ∈ vs := fun z => by
      have := List.all_eq_true.mp hs i z
      rw [hi] at this; simp at this
    rw [unw_out this]; exact h2.tk i hi
  · by_cases hc : i ∈ vs
    · rw [inn i hc hi]; exact h1.sp i hi
    · rw [unw_out hc]
      have := h2.sp i hi
      rw [sat_any, if_neg (by simpa using hc)] at this
      exact this
section
variable {τ π : Type} {C : Ctx τ} {S : Slots}
theorem cmL_ok {gs : D → Rho → Option Rho} {f : D → Option π} {Kp : π → Slots} {test : M Bool} {elt : M D} {nt : π → T τ Bool} {ne : π → T τ D} {vs : List Nat} (hg : NG C (anyS vs ++ S) gs f Kp)
    (ht : ∀ p, NE C (Kp p ++ (anyS vs ++ S)) test (nt p)) (he : ∀ p, NE C (Kp p ++ (anyS vs ++ S)) elt (ne p)) (hk : ∀ p, ((Kp p).all fun q => vs.contains q.1) = true) (hs : (vs.all fun v => !(C.sl == some v)) = true) :
    ∀ (xs : List D), NE C (anyS vs ++ S) (compL gs test elt vs xs) (cmL f nt ne xs)
  | [] => ne_p []
  | x :: xs => by
    have ih := cmL_ok hg ht he hk hs xs
    have back : ∀ p t ρ, Has C (Kp p ++ (anyS vs ++ S)) t ρ → Has C (anyS vs ++ S) t (wipeR ρ vs) := fun p t ρ g => by
      have g' := g.wipe hs
      refine ⟨g'.len, g'.no, g'.tk, fun i hi => ?_⟩
      have q := g'.sp i hi
      rw [sat_any] at q ⊢
      by_cases hc : vs.contains i = true
      · rw [if_pos hc]; exact True.intro
      · rw [if_neg hc] at q ⊢
        have e : sat (Kp p ++ (anyS vs ++ S)) i = sat (anyS vs ++ S) i := sat_app (by
          rw [List.all_eq_true]
          intro z hz
          have := List.all_eq_true.mp (hk p) z hz
          simp only [Bool.not_eq_true', beq_eq_false_iff_ne]
          intro e
          rw [e] at this
          exact hc this)
        rw [e, sat_any, if_neg hc] at q
        exact q
    intro t ρ g
    unfold cmL compL
    have q := hg x t ρ g
    cases ef : f x with
    | none => exact True.intro
    | some p =>
      rw [ef] at q
      obtain ⟨ρ1, e1, h1⟩ := q
      have q2 := ht p t ρ1 h1
      simp only [cT]
      cases et : nt p t with
      | exc _ _ => exact True.intro
      | bad => exact True.intro
      | ok b t1 =>
        rw [et] at q2
        obtain ⟨ρ2, e2, h2⟩ := q2
        simp only [e1, e2, cBnd_ok]
        cases b with
        | false =>
          have := ih t1 _ (back p t1 ρ2 h2)
          exact this
        | true =>
          have q3 := he p t1 ρ2 h2
          simp only [cT]
          cases ee : ne p t1 with
          | exc _ _ => exact True.intro
          | bad => exact True.intro
          | ok d t2 =>
            rw [ee] at q3
            obtain ⟨ρ3, e3, h3⟩ := q3
            have q4 := ih t2 _ (back p t2 ρ3 h3)
            simp only [e3, cBnd_ok]
            cases ec : cmL f nt ne xs t2 with
            | exc _ _ => exact True.intro
            | bad => exact True.intro
            | ok ds t3 =>
              rw [ec] at q4
              obtain ⟨ρ4, e4, h4⟩ := q4
              exact ⟨ρ4, by rw [e4]; rfl, h4⟩
theorem cmL_ne {f : D → Option π} {nt : π → T τ Bool} {ne : π → T τ D} : ∀ (xs : List D) (t : τ) (x : Str) (t' : τ), cmL f nt ne xs t ≠ .exc x t'
  | [], t, x, t', e => by cases e
  | y :: ys, t, x, t', e => by
    unfold cmL at e
    cases hf : f y with
    | none => simp only [hf] at e; cases e
    | some p =>
      simp only [hf, cT] at e
      cases ht : nt p t with
      | exc _ _ => rw [ht] at e; cases e
      | bad => rw [ht] at e; cases e
      | ok b t1 =>
        rw [ht] at e
        cases b with
        | false => exact cmL_ne ys t1 x t' e
        | true =>
          simp only [cT] at e
          cases he : ne p t1 with
          | exc _ _ => rw [he] at e; cases e
          | bad => rw [he] at e; cases e
          | ok d t2 =>
            rw [he] at e
            simp only [cT] at e
            cases hc : cmL f nt ne ys t2 with
            | exc _ _ => rw [hc] at e; cases e
            | bad => rw [hc] at e; cases e
            | ok ds t3 => rw [hc] at e; cases e
theorem nl_comp {gs : D → Rho → Option Rho} {f : D → Option π} {Kp : π → Slots} {test : M Bool} {elt : M D} {nt : π → T τ Bool} {ne : π → T τ D} {vs : List Nat} {k : Nat} {mi : M (List D)} {ni : T τ (List D)} (hi : NE C S mi ni) (hg : NG C (anyS vs ++ S) gs f Kp)
    (ht : ∀ p, NE C (Kp p ++ (anyS vs ++ S)) test (nt p)) (he : ∀ p, NE C (Kp p ++ (anyS vs ++ S)) elt (ne p)) (hk : ∀ p, ((Kp p).all fun q => vs.contains q.1) = true := by intro _; rfl) (hs : (vs.all fun v => !(C.sl == some v)) = true := by rfl)
    (ho : (vs.all fun v => !(C.O.contains v)) = true := by rfl) (hn : (decide (C.N ≤ k)) = true := by rfl) : NL C S (mComp k mi gs test elt vs) (nComp ni f nt ne) := by
  refine nl_of hi fun xs => ?_
  intro t ρ g
  by_cases hl : xs.length ≤ sizeLine
  · simp only [if_pos hl]
    have cond : noOwn ρ vs = true ∧ xs.length ≤ sizeLine ∧ ρ.length ≤ k := by
      refine ⟨?_, hl, by rw [g.len]; exact of_decide_eq_true hn⟩
      unfold noOwn
      rw [List.all_eq_true]
      intro v hv
      have := List.all_eq_true.mp ho v hv
      simp only [Bool.not_eq_true'] at this
      have q := g.no v this
      split
      · rename_i o e; exact absurd e (q o)
      · rfl
    rw [if_pos cond]
    have q := cmL_ok hg ht he hk hs xs t (wipeR ρ vs) (g.wipe hs)
    unfold oL
    simp only [bT_ap]
    cases ec : cmL f nt ne xs t with
    | exc x t' => 
      rw [ec] at q
      obtain ⟨ρ', e', h'⟩ := q
      exfalso
      exact cmL_ne xs t x t' ec
    | bad => exact True.intro
    | ok ds t' =>
      rw [ec] at q
      obtain ⟨ρ', e', h'⟩ := q
      simp only [bR_ok, pT_ap]
      refine ⟨unw ρ vs ρ', ?_, g.unw h' hs⟩
      rw [e']; rfl
  · simp only [if_neg hl]; exact True.intro
end
/-! ### statements -/
inductive SN (β σ : Type) where
  | next (s : σ)
  | ret (d : D)
  | brk (l : β)
  | cont (l : β)
def NS {τ β σ : Type} (C : Ctx τ) (S : Slots) (Kb : β → Slots) (K : σ → Slots) (m : MS) (n : T τ (SN β σ)) : Prop := ∀ t ρ, Has C S t ρ → match n t with
  | .ok (.next s) t' => ∃ ρ', m ρ = .next ρ' ∧ Has C (K s) t' ρ'
  | .ok (.ret d) t' => ∃ ρ', m ρ = .ret d ρ' ∧ Has C [] t' ρ'
  | .ok (.brk l) t' => ∃ ρ', m ρ = .brk ρ' ∧ Has C (Kb l) t' ρ'
  | .ok (.cont l) t' => ∃ ρ', m ρ = .cont ρ' ∧ Has C (Kb l) t' ρ'
  | .exc x t' => ∃ ρ', m ρ = .exc x ρ' ∧ Has C [] t' ρ'
  | .bad => True
def nRet {τ β σ : Type} (n : T τ D) : T τ (SN β σ) := bT n fun d => pT (.ret d)
def nNext {τ β σ : Type} (s : σ) : T τ (SN β σ) := pT (.next s)
def nBrk {τ β σ : Type} (s : β) : T τ (SN β σ) := pT (.brk s)
def nCont {τ β σ : Type} (s : β) : T τ (SN β σ) := pT (.cont s)
def nThen {τ β σ σ' : Type} (n : T τ (SN β σ)) (k : σ → T τ (SN β σ')) : T τ (SN β σ') := bT n fun r => match r with
  | .next s => k s
  | .ret d => pT (.ret d)
  | .brk l => pT (.brk l)
  | .cont l => pT (.cont l)
section
variable {τ α β σ σ' : Type} {C : Ctx τ} {S S' : Slots} {Kb : β → Slots} {K : σ → Slots} {K' : σ' → Slots}
/-- a statement that first reckons something -/
theorem ns_bnd {m : M α} {n : T τ α} {k : α → MS} {k' : α → T τ (SN β σ)} (h : NE C S m n) (hk : ∀ a, NS C S Kb K (k a) (k' a)) : NS C S Kb K (fun ρ => sBnd (m ρ) k) (bT n k') := by
  intro t ρ g
  have q := h t ρ g
  simp only [bT_ap]
  cases e : n t with
  | ok a t' =>
    rw [e] at q
    obtain ⟨ρ', e1, g1⟩ := q
    have q2 := hk a t' ρ' g1
    simp only [bR_ok, e1, sBnd_ok]
    exact q2
  | exc x t' =>
    rw [e] at q
    obtain ⟨ρ', e1, g1⟩ := q
    simp only [bR_exc, e1, sBnd_exc]
    exact ⟨ρ', rfl, g1.nil⟩
  | bad => exact True.intro
theorem NS.m {m m' : MS} {n : T τ (SN β σ)} (h : NS C S Kb K m n) (e : ∀ ρ, m' ρ = m ρ) : NS C S Kb K m' n := fun t ρ g => by
  have q := h t ρ g; simp only [e]; exact q
theorem NS.le {m : MS} {n : T τ (SN β σ)} (h : NS C S' Kb K m n) (g : Sle S S' (List.range C.N)) : NS C S Kb K m n := fun t ρ q => h t ρ (q.le g)
/-- an own object is held as one that may be frozen -/
theorem ns_frz {m : MS} {n : T τ (SN β σ)} {i : Nat} {o : Ob} (h : NS C ((i, .frz o) :: S) Kb K m n) (hs : sat S i = .own o := by rfl) : NS C S Kb K m n := fun t ρ q => h t ρ ⟨q.len, q.no, q.tk, fun j hj => by
  by_cases z : i = j
  · subst z; rw [sat_cons_same]
    have := q.sp i hj; rw [hs] at this; exact .inl this
  · rw [sat_cons_ne z]; exact q.sp j hj⟩
theorem sSeq_next {m : MS} (ρ : Rho) : sSeq m sNext ρ = m ρ := by unfold sSeq sNext; cases m ρ <;> rfl
theorem sSeq_assoc {a b c : MS} (ρ : Rho) : sSeq (sSeq a b) c ρ = sSeq a (sSeq b c) ρ := by unfold sSeq; cases a ρ <;> rfl
theorem ns_last {m : MS} {n : T τ (SN β σ)} (h : NS C S Kb K (sSeq m sNext) n) : NS C S Kb K m n := h.m fun ρ => (sSeq_next ρ).symm
theorem ns_assoc {a b c : MS} {n : T τ (SN β σ)} (h : NS C S Kb K (sSeq a (sSeq b c)) n) : NS C S Kb K (sSeq (sSeq a b) c) n := h.m fun ρ => sSeq_assoc ρ
theorem ns_seq0 {r : MS} {n : T τ (SN β σ)} (h : NS C S Kb K r n) : NS C S Kb K (sSeq sNext r) n := h.m fun ρ => rfl
theorem ns_end (s : σ) (h : Sle S (K s) (List.range C.N)) : NS C S Kb K sNext (nNext s) := fun t ρ g => ⟨ρ, rfl, g.le h⟩
theorem ns_brk {r : MS} (s : β) (h : Sle S (Kb s) (List.range C.N)) : NS C S Kb K (sSeq sBrk r) (nBrk s) := fun t ρ g => ⟨ρ, rfl, g.le h⟩
theorem ns_cont {r : MS} (s : β) (h : Sle S (Kb s) (List.range C.N)) : NS C S Kb K (sSeq sCont r) (nCont s) := fun t ρ g => ⟨ρ, rfl, g.le h⟩
theorem ns_brk1 (s : β) (h : Sle S (Kb s) (List.range C.N)) : NS C S Kb K sBrk (nBrk s) := fun t ρ g => ⟨ρ, rfl, g.le h⟩
theorem ns_cont1 (s : β) (h : Sle S (Kb s) (List.range C.N)) : NS C S Kb K sCont (nCont s) := fun t ρ g => ⟨ρ, rfl, g.le h⟩
theorem ns_ret {m : M D} {n : T τ D} {r : MS} (h : NE C S m n) : NS C S Kb K (sSeq (sRet m) r) (nRet n) := by
  have : NS C S Kb K (fun ρ => sBnd (m ρ) fun d ρ1 => .ret d ρ1) (nRet n) := ns_bnd h fun d t ρ g => ⟨ρ, rfl, g.nil⟩
  refine this.m fun ρ => ?_
  unfold sSeq sRet
  cases m ρ <;> rfl
theorem ns_ret1 {m : M D} {n : T τ D} (h : NE C S m n) : NS C S Kb K (sRet m) (nRet n) := ns_bnd h fun d t ρ g => ⟨ρ, rfl, g.nil⟩
theorem ns_retN {r : MS} : NS C S Kb K (sSeq sRetN r) (nRet (nC .none)) := fun t ρ g => ⟨ρ, rfl, g.nil⟩
theorem ns_retN1 : NS C S Kb K sRetN (nRet (nC .none)) := fun t ρ g => ⟨ρ, rfl, g.nil⟩
theorem ns_raise {x : Str} {r : MS} : NS C S Kb K (sSeq (sRaise x) r) (xT x) := fun t ρ g => ⟨ρ, rfl, g.nil⟩
theorem ns_raise1 {x : Str} : NS C S Kb K (sRaise x) (xT x) := fun t ρ g => ⟨ρ, rfl, g.nil⟩
/-- a statement that reckons and goes on -/
theorem ns_go {m : M α} {n : T τ α} {st : α → Rho → SR} {ms r : MS} {k' : α → T τ (SN β σ)} (e : ∀ ρ, ms ρ = sBnd (m ρ) st) (h : NE C S m n) (hk : ∀ a t ρ, Has C S t ρ → match k' a t with
    | .bad => True
    | _ => ∃ ρ1 S1, st a ρ = .next ρ1 ∧ Has C S1 t ρ1 ∧ NS C S1 Kb K r (k' a)) : NS C S Kb K (sSeq ms r) (bT n k') := by
  have : NS C S Kb K (fun ρ => sBnd (m ρ) fun a ρ1 => thn2 (st a ρ1) r) (bT n k') := ns_bnd h fun a t ρ g => by
    have q := hk a t ρ g
    cases e : k' a t with
    | bad => exact True.intro
    | ok s t' =>
      rw [e] at q
      obtain ⟨ρ1, S1, e1, g1, h1⟩ := q
      have := h1 t ρ1 g1
      rw [e] at this
      simp only [e1, thn2_next]
      exact this
    | exc s t' =>
      rw [e] at q
      obtain ⟨ρ1, S1, e1, g1, h1⟩ := q
      have := h1 t ρ1 g1
      rw [e] at this
      simp only [e1, thn2_next]
      exact this
  refine this.m fun ρ => ?_
  unfold sSeq
  rw [e]
  cases m ρ <;> rfl
theorem ns_set {i : Nat} {m : M D} {n : T τ D} {r : MS} {k : D → T τ (SN β σ)} (h : NE C S m n) (hk : ∀ d, NS C ((i, .val d) :: S) Kb K r (k d)) (hf : C.free i = true := by rfl) : NS C S Kb K (sSeq (sSet i m) r) (bT n k) :=
  ns_go (st := fun d ρ1 => .next (ρ1.set i (.val d))) (fun _ => rfl) h fun d t ρ g => by
    split
    · trivial
    · exact ⟨_, _, rfl, g.setV hf, hk d⟩
theorem ns_setL {i : Nat} {m : M Ob} {n : T τ (List D)} {r : MS} {k : List D → T τ (SN β σ)} (h : NL C S m n) (hk : ∀ d, NS C ((i, .own (.lst d)) :: S) Kb K r (k d)) (hf : C.free i = true := by rfl) (ho : C.O.contains i = true := by rfl) : NS C S Kb K (sSeq (sSetL i m) r) (bT n k) := by
  have q : NS C S Kb K (sSeq (sSetL i m) r) (bT (oL n) fun o => match o with
    | .lst ds => k ds
    | _ => zT) := ns_go (st := fun d ρ1 => .next (ρ1.set i (.own d))) (fun _ => rfl) h fun o t ρ g => by
      cases o with
      | lst ds =>
        split
        · trivial
        · exact ⟨_, _, rfl, g.setO hf ho, hk ds⟩
      | _ => trivial
  intro t ρ g
  have := q t ρ g
  simp only [oL, bT_ap, bR_assoc] at this
  exact this
theorem ns_setT {i : Nat} {m : M Ob} {n : T τ (List (List Int × D))} {r : MS} {k : List (List Int × D) → T τ (SN β σ)} (h : NDT C S m n) (hk : ∀ d, NS C ((i, .own (.dT d)) :: S) Kb K r (k d)) (hf : C.free i = true := by rfl) (ho : C.O.contains i = true := by rfl) : NS C S Kb K (sSeq (sSetL i m) r) (bT n k) := by
  have q : NS C S Kb K (sSeq (sSetL i m) r) (bT (oDT n) fun o => match o with
    | .dT ds => k ds
    | _ => zT) := ns_go (st := fun d ρ1 => .next (ρ1.set i (.own d))) (fun _ => rfl) h fun o t ρ g => by
      cases o with
      | dT ds =>
        split
        · trivial
        · exact ⟨_, _, rfl, g.setO hf ho, hk ds⟩
      | _ => trivial
  intro t ρ g
  have := q t ρ g
  simp only [oDT, bT_ap, bR_assoc] at this
  exact this
theorem ns_drop {m : M D} {n : T τ D} {r : MS} {k : T τ (SN β σ)} (h : NE C S m n) (hk : NS C S Kb K r k) : NS C S Kb K (sSeq (sDrop m) r) (bT n fun _ => k) :=
  ns_go (st := fun d ρ1 => .next ρ1) (fun _ => rfl) h fun d t ρ g => by
    split
    · trivial
    · exact ⟨_, _, rfl, g, hk⟩
theorem ns_par {i j : Nat} {m : M (List D)} {n : T τ (List D)} {r : MS} {k : D → D → T τ (SN β σ)} (h : NE C S m n) (hk : ∀ x y, NS C ((j, .val y) :: (i, .val x) :: S) Kb K r (k x y)) (hi : C.free i = true := by rfl) (hj : C.free j = true := by rfl) :
    NS C S Kb K (sSeq (sPar i j m) r) (bT n fun ds => match ds with
      | [x, y] => k x y
      | _ => zT) :=
  ns_go (st := fun ds ρ1 => match ds with
    | [x, y] => .next ((ρ1.set i (.val x)).set j (.val y))
    | _ => .bad) (fun _ => rfl) h fun ds t ρ g => by
    split
    · trivial
    · rename_i hb
      split at hb
      · exact ⟨_, _, rfl, (g.setV hi).setV hj, hk _ _⟩
      · exact absurd rfl hb
theorem ns_unp {π : Type} {m : M D} {n : T τ D} {gs : D → Rho → Option Rho} {f : D → Option π} {Kp : π → Slots} {r : MS} {k : π → T τ (SN β σ)} (h : NE C S m n) (hg : NG C S gs f Kp) (hk : ∀ p, NS C (Kp p ++ S) Kb K r (k p)) :
    NS C S Kb K (sSeq (sUnp m gs) r) (bT n fun d => bT (lT (f d)) k) :=
  ns_go (st := fun d ρ1 => match gs d ρ1 with
    | some ρ2 => .next ρ2
    | none => .bad) (fun _ => rfl) h fun d t ρ g => by
    have q := hg d t ρ g
    cases e : f d with
    | none => trivial
    | some p =>
      rw [e] at q
      obtain ⟨ρ', e1, g1⟩ := q
      simp only [e1, bT_ap, lT_some, bR_ok]
      split
      · trivial
      · exact ⟨_, _, rfl, g1, hk p⟩
theorem ns_if {c : M Bool} {nc : T τ Bool} {a b : MS} {na nb : T τ (SN β σ)} (hc : NE C S c nc) (ha : NS C S Kb K a na) (hb : NS C S Kb K b nb) : NS C S Kb K (sIf c a b) (bT nc fun x => iT x na nb) := ns_bnd hc fun x => by
  cases x with
  | true => exact ha
  | false => exact hb
/-- both ways go on with what follows -/
theorem ns_ifs {c : M Bool} {nc : T τ Bool} {a b r : MS} {na nb : T τ (SN β σ)} (hc : NE C S c nc) (ha : NS C S Kb K (sSeq a r) na) (hb : NS C S Kb K (sSeq b r) nb) : NS C S Kb K (sSeq (sIf c a b) r) (bT nc fun x => iT x na nb) := by
  refine (ns_if hc ha hb).m fun ρ => ?_
  unfold sSeq sIf sBnd
  cases c ρ with
  | ok b ρ1 => cases b <;> rfl
  | _ => rfl
theorem ns_then {a r : MS} {na : T τ (SN β σ)} {nr : σ → T τ (SN β σ')} (ha : NS C S Kb K a na) (hr : ∀ s, NS C (K s) Kb K' r (nr s)) : NS C S Kb K' (sSeq a r) (nThen na nr) := by
  intro t ρ g
  have q := ha t ρ g
  unfold nThen sSeq
  simp only [bT_ap]
  cases e : na t with
  | bad => exact True.intro
  | exc x t' =>
    rw [e] at q
    obtain ⟨ρ', e1, g1⟩ := q
    simp only [bR_exc, e1]
    exact ⟨ρ', rfl, g1⟩
  | ok s t' =>
    rw [e] at q
    cases s with
    | next s =>
      obtain ⟨ρ', e1, g1⟩ := q
      simp only [bR_ok, e1]
      exact hr s t' ρ' g1
    | ret d => obtain ⟨ρ', e1, g1⟩ := q; simp only [bR_ok, e1]; exact ⟨ρ', rfl, g1⟩
    | brk d => obtain ⟨ρ', e1, g1⟩ := q; simp only [bR_ok, e1]; exact ⟨ρ', rfl, g1⟩
    | cont d => obtain ⟨ρ', e1, g1⟩ := q; simp only [bR_ok, e1]; exact ⟨ρ', rfl, g1⟩
end
/-! ### loops -/
def forN {τ β π σ : Type} (f : D → Option π) (body : π → σ → T τ (SN σ σ)) : List D → σ → T τ (SN β σ)
  | [], s => pT (.next s)
  | x :: xs, s => match f x with
    | none => zT
    | some p => bT (body p s) fun r => match r with
      | .next s => forN f body xs s
      | .cont s => forN f body xs s
      | .brk s => pT (.next s)
      | .ret d => pT (.ret d)
def whN {τ β σ : Type} (c : σ → T τ Bool) (body : σ → T τ (SN σ σ)) : Nat → σ → T τ (SN β σ)
  | 0, _ => zT
  | n + 1, s => bT (c s) fun b => iT b (bT (body s) fun r => match r with
      | .next s => whN c body n s
      | .cont s => whN c body n s
      | .brk s => pT (.next s)
      | .ret d => pT (.ret d)) (pT (.next s))
section
variable {τ β π σ : Type} {C : Ctx τ} {S : Slots} {Kb : β → Slots}
theorem forN_ok {gs : D → Rho → Option Rho} {f : D → Option π} {Kp : π → Slots} {body : MS} {nb : π → σ → T τ (SN σ σ)} (L : σ → Slots) (hg : ∀ s, NG C (L s ++ S) gs f Kp)
    (hb : ∀ p s, NS C (Kp p ++ (L s ++ S)) (fun s => L s ++ S) (fun s => L s ++ S) body (nb p s)) : ∀ (xs : List D) (s : σ), NS C (L s ++ S) Kb (fun s => L s ++ S) (forL gs body xs) (forN f nb xs s)
  | [], s => fun t ρ g => ⟨ρ, rfl, g⟩
  | x :: xs, s => by
    intro t ρ g
    have q := hg s x t ρ g
    unfold forN forL
    cases e : f x with
    | none => exact True.intro
    | some p =>
      rw [e] at q
      obtain ⟨ρ1, e1, g1⟩ := q
      have q2 := hb p s t ρ1 g1
      simp only [bT_ap, e1]
      cases e2 : nb p s t with
      | bad => exact True.intro
      | exc y t' => rw [e2] at q2; obtain ⟨ρ', e3, g3⟩ := q2; simp only [bR_exc, e3]; exact ⟨ρ', rfl, g3⟩
      | ok r t' =>
        rw [e2] at q2
        cases r with
        | next s' =>
          obtain ⟨ρ', e3, g3⟩ := q2
          simp only [bR_ok, e3]
          exact forN_ok L hg hb xs s' t' ρ' g3
        | cont s' =>
          obtain ⟨ρ', e3, g3⟩ := q2
          simp only [bR_ok, e3]
          exact forN_ok L hg hb xs s' t' ρ' g3
        | brk s' => obtain ⟨ρ', e3, g3⟩ := q2; simp only [bR_ok, e3]; exact ⟨ρ', rfl, g3⟩
        | ret d => obtain ⟨ρ', e3, g3⟩ := q2; simp only [bR_ok, e3]; exact ⟨ρ', rfl, g3⟩
theorem ns_for {gs : D → Rho → Option Rho} {f : D → Option π} {Kp : π → Slots} {body : MS} {nb : π → σ → T τ (SN σ σ)} {mi : M (List D)} {ni : T τ (List D)} (L : σ → Slots) (s0 : σ) (hi : NE C S mi ni) (hle : Sle S (L s0 ++ S) (List.range C.N)) (hg : ∀ s, NG C (L s ++ S) gs f Kp)
    (hb : ∀ p s, NS C (Kp p ++ (L s ++ S)) (fun s => L s ++ S) (fun s => L s ++ S) body (nb p s)) : NS C S Kb (fun s => L s ++ S) (sFor mi gs body) (bT ni fun xs => forN f nb xs s0) :=
  ns_bnd hi fun xs => (forN_ok L hg hb xs s0).le hle
theorem whN_ok {c : M Bool} {nc : σ → T τ Bool} {body : MS} {nb : σ → T τ (SN σ σ)} (L : σ → Slots) (hc : ∀ s, NE C (L s ++ S) c (nc s))
    (hb : ∀ s, NS C (L s ++ S) (fun s => L s ++ S) (fun s => L s ++ S) body (nb s)) : ∀ (k : Nat) (s : σ), NS C (L s ++ S) Kb (fun s => L s ++ S) (whileN c body k) (whN nc nb k s)
  | 0, s => fun t ρ g => True.intro
  | k + 1, s => by
    intro t ρ g
    have q := hc s t ρ g
    unfold whN whileN
    simp only [bT_ap]
    cases e : nc s t with
    | bad => exact True.intro
    | exc y t' => rw [e] at q; obtain ⟨ρ', e3, g3⟩ := q; simp only [bR_exc, e3]; exact ⟨ρ', rfl, g3.nil⟩
    | ok b t1 =>
      rw [e] at q
      obtain ⟨ρ1, e1, g1⟩ := q
      simp only [bR_ok, e1]
      cases b with
      | false => simp only [iT_false, pT_ap]; exact ⟨ρ1, rfl, g1⟩
      | true =>
        simp only [iT_true, bT_ap]
        have q2 := hb s t1 ρ1 g1
        cases e2 : nb s t1 with
        | bad => exact True.intro
        | exc y t' => rw [e2] at q2; obtain ⟨ρ', e3, g3⟩ := q2; simp only [bR_exc, e3, sBnd_ok]; exact ⟨ρ', rfl, g3⟩
        | ok r t' =>
          rw [e2] at q2
          cases r with
          | next s' =>
            obtain ⟨ρ', e3, g3⟩ := q2
            simp only [bR_ok, e3, sBnd_ok]
            exact whN_ok L hc hb k s' t' ρ' g3
          | cont s' =>
            obtain ⟨ρ', e3, g3⟩ := q2
            simp only [bR_ok, e3, sBnd_ok]
            exact whN_ok L hc hb k s' t' ρ' g3
          | brk s' => obtain ⟨ρ', e3, g3⟩ := q2; simp only [bR_ok, e3, sBnd_ok]; exact ⟨ρ', rfl, g3⟩
          | ret d => obtain ⟨ρ', e3, g3⟩ := q2; simp only [bR_ok, e3, sBnd_ok]; exact ⟨ρ', rfl, g3⟩
theorem ns_while {c : M Bool} {nc : σ → T τ Bool} {body : MS} {nb : σ → T τ (SN σ σ)} {k : Nat} (L : σ → Slots) (s0 : σ) (hle : Sle S (L s0 ++ S) (List.range C.N)) (hc : ∀ s, NE C (L s ++ S) c (nc s))
    (hb : ∀ s, NS C (L s ++ S) (fun s => L s ++ S) (fun s => L s ++ S) body (nb s)) : NS C S Kb (fun s => L s ++ S) (whileN c body k) (whN nc nb k s0) := (whN_ok L hc hb k s0).le hle
end
/-! ### own objects are written -/
def nApd {τ β σ : Type} (ds : List D) (n : T τ D) (k : List D → T τ (SN β σ)) : T τ (SN β σ) := bT n fun d => if ds.length < sizeLine then k (ds ++ [d]) else zT
def nPutO {τ β σ : Type} (ds : List D) (nj n : T τ D) (k : List D → T τ (SN β σ)) : T τ (SN β σ) := bT n fun d => bT nj fun j => match j with
  | .int jj => (match ixN ds.length jj with
    | some i => k (ds.set i d)
    | none => zT)
  | _ => zT
def nPutT {τ β σ : Type} (kvs : List (List Int × D)) (nk n : T τ D) (k : List (List Int × D) → T τ (SN β σ)) : T τ (SN β σ) := bT n fun d => bT nk fun j => match keyT j with
  | some ns => if kvs.length < sizeLine then k (putT kvs ns d) else zT
  | none => zT
section
variable {τ β σ : Type} {C : Ctx τ} {S : Slots} {Kb : β → Slots} {K : σ → Slots}
theorem ns_append {i : Nat} {ds : List D} {m : M D} {n : T τ D} {r : MS} {k : List D → T τ (SN β σ)} (h : NE C S m n) (hk : ∀ d, NS C ((i, .own (.lst d)) :: S) Kb K r (k d)) (hs : sat S i = .own (.lst ds) := by rfl) (hf : C.free i = true := by rfl) (ho : C.O.contains i = true := by rfl) :
    NS C S Kb K (sSeq (sAppend i m) r) (nApd ds n k) := by
  have hl : i < C.N := by simp only [Ctx.free, Bool.and_eq_true, decide_eq_true_eq] at hf; exact hf.1
  have q : NS C S Kb K (fun ρ => sBnd (m ρ) fun d ρ1 => thn2 (match ownL ρ1 i with
    | some ds => if ds.length < sizeLine then .next (ρ1.set i (.own (.lst (ds ++ [d])))) else .bad
    | none => .bad) r) (nApd ds n k) := ns_bnd h fun d t ρ g => by
    simp only [ownL_of (g.own hs hl)]
    by_cases hz : ds.length < sizeLine
    · simp only [if_pos hz, thn2_next]
      exact hk _ t _ (g.setO hf ho)
    · simp only [if_neg hz]; exact True.intro
  intro t ρ g
  have := q t ρ g
  have e : sSeq (sAppend i m) r ρ = sBnd (m ρ) fun d ρ1 => thn2 (match ownL ρ1 i with
    | some ds => if ds.length < sizeLine then .next (ρ1.set i (.own (.lst (ds ++ [d])))) else .bad
    | none => .bad) r := by
    unfold sSeq sAppend
    rw [ownL_of (g.own hs hl)]
    cases m ρ <;> rfl
  simp only [e]; exact this
theorem ns_putO {i : Nat} {ds : List D} {m mj : M D} {n nj : T τ D} {r : MS} {k : List D → T τ (SN β σ)} (h : NE C S m n) (hj : NE C S mj nj) (hk : ∀ d, NS C ((i, .own (.lst d)) :: S) Kb K r (k d)) (hs : sat S i = .own (.lst ds) := by rfl) (hf : C.free i = true := by rfl) (ho : C.O.contains i = true := by rfl) :
    NS C S Kb K (sSeq (sPutO i mj m) r) (nPutO ds nj n k) := by
  have hl : i < C.N := by simp only [Ctx.free, Bool.and_eq_true, decide_eq_true_eq] at hf; exact hf.1
  have q : NS C S Kb K (fun ρ => sBnd (m ρ) fun d ρ1 => sBnd (mj ρ1) fun j ρ2 => thn2 (match j, ownL ρ2 i with
    | .int jj, some ds => (match ixN ds.length jj with
      | some n => .next (ρ2.set i (.own (.lst (ds.set n d))))
      | none => .bad)
    | _, _ => .bad) r) (nPutO ds nj n k) := ns_bnd h fun d => ns_bnd hj fun j t ρ g => by
    simp only [ownL_of (g.own hs hl)]
    cases j with
    | int jj =>
      simp only
      cases e : ixN ds.length jj with
      | none => exact True.intro
      | some x => simp only [thn2_next]; exact hk _ t _ (g.setO hf ho)
    | _ => exact True.intro
  intro t ρ g
  have := q t ρ g
  have e : ∀ ρ, Has C S t ρ → True := fun _ _ => True.intro
  have hm := h t ρ g
  unfold nPutO at this ⊢
  simp only [bT_ap] at this ⊢
  cases en : n t with
  | bad => exact True.intro
  | exc x t' =>
    rw [en] at hm this
    obtain ⟨ρ', e1, g1⟩ := hm
    simp only [bR_exc]
    refine ⟨ρ', ?_, g1.nil⟩
    unfold sSeq sPutO; rw [e1]; rfl
  | ok d t' =>
    rw [en] at hm this
    obtain ⟨ρ', e1, g1⟩ := hm
    simp only [bR_ok] at this ⊢
    have e2 : sSeq (sPutO i mj m) r ρ = (fun ρ => sBnd (m ρ) fun d ρ1 => sBnd (mj ρ1) fun j ρ2 => thn2 (match j, ownL ρ2 i with
      | .int jj, some ds => (match ixN ds.length jj with
        | some n => .next (ρ2.set i (.own (.lst (ds.set n d))))
        | none => .bad)
      | _, _ => .bad) r) ρ := by
      unfold sSeq sPutO
      simp only [e1, sBnd_ok, ownL_of (g1.own hs hl)]
      cases mj ρ' <;> rfl
    simp only [e2]; exact this
theorem ns_putT {i : Nat} {kvs : List (List Int × D)} {m mj : M D} {n nj : T τ D} {r : MS} {k : List (List Int × D) → T τ (SN β σ)} (h : NE C S m n) (hj : NE C S mj nj) (hk : ∀ d, NS C ((i, .own (.dT d)) :: S) Kb K r (k d)) (hs : sat S i = .own (.dT kvs) := by rfl) (hf : C.free i = true := by rfl) (ho : C.O.contains i = true := by rfl) :
    NS C S Kb K (sSeq (sPutT i mj m) r) (nPutT kvs nj n k) := by
  have hl : i < C.N := by simp only [Ctx.free, Bool.and_eq_true, decide_eq_true_eq] at hf; exact hf.1
  have q : NS C S Kb K (fun ρ => sBnd (m ρ) fun d ρ1 => sBnd (mj ρ1) fun j ρ2 => thn2 (match keyT j, ownT ρ2 i with
    | some ns, some kvs => if kvs.length < sizeLine then .next (ρ2.set i (.own (.dT (putT kvs ns d)))) else .bad
    | _, _ => .bad) r) (nPutT kvs nj n k) := ns_bnd h fun d => ns_bnd hj fun j t ρ g => by
    simp only [ownT_of (g.own hs hl)]
    cases keyT j with
    | none => exact True.intro
    | some ns =>
      simp only
      by_cases hz : kvs.length < sizeLine
      · simp only [if_pos hz, thn2_next]; exact hk _ t _ (g.setO hf ho)
      · simp only [if_neg hz]; exact True.intro
  intro t ρ g
  have := q t ρ g
  have hm := h t ρ g
  unfold nPutT at this ⊢
  simp only [bT_ap] at this ⊢
  cases en : n t with
  | bad => exact True.intro
  | exc x t' =>
    rw [en] at hm this
    obtain ⟨ρ', e1, g1⟩ := hm
    simp only [bR_exc]
    refine ⟨ρ', ?_, g1.nil⟩
    unfold sSeq sPutT; rw [e1]; rfl
  | ok d t' =>
    rw [en] at hm this
    obtain ⟨ρ', e1, g1⟩ := hm
    simp only [bR_ok] at this ⊢
    have e2 : sSeq (sPutT i mj m) r ρ = (fun ρ => sBnd (m ρ) fun d ρ1 => sBnd (mj ρ1) fun j ρ2 => thn2 (match keyT j, ownT ρ2 i with
      | some ns, some kvs => if kvs.length < sizeLine then .next (ρ2.set i (.own (.dT (putT kvs ns d)))) else .bad
      | _, _ => .bad) r) ρ := by
      unfold sSeq sPutT
      simp only [e1, sBnd_ok, ownT_of (g1.own hs hl)]
      cases mj ρ' <;> rfl
    simp only [e2]; exact this
end
/-! ### defs -/
def S0 : Nat → List D → Slots
  | _, [] => []
  | k, d :: ds => (k, .val d) :: S0 (k + 1) ds
theorem sat_S0 {k : Nat} : ∀ {ds : List D} {i : Nat}, sat (S0 k ds) i = if h : k ≤ i ∧ i - k < ds.length then .val (ds[i - k]'h.2) else .any
  | [], i => by simp [S0, sat]
  | d :: ds, i => by
    show sat ((k, .val d) :: S0 (k + 1) ds) i = _
    by_cases h : k = i
    · subst h
      rw [sat_cons_same]; simp
    · rw [sat_cons_ne h, sat_S0]
      by_cases h2 : k ≤ i ∧ i - k < (d :: ds).length
      · rw [dif_pos h2]
        have h3 : k + 1 ≤ i ∧ i - (k + 1) < ds.length := by simp at h2; omega
        rw [dif_pos h3]
        congr 1
        have : i - k = (i - (k + 1)) + 1 := by omega
        simp [this]
      · rw [dif_neg h2, dif_neg (fun h3 => h2 (by simp; omega))]
def finF (n : T Unit (SN Unit Unit)) : FR := match n () with
  | .ok (.ret d) _ => .ok d
  | .ok (.next _) _ => .ok .none
  | .exc x _ => .exc x
  | _ => .bad
def finT (n : T (List D) (SN Unit Unit)) (t : List D) : FRT := match n t with
  | .ok (.ret d) t => .ok d t
  | .ok (.next _) t => .ok .none t
  | .exc x t => .exc x t
  | _ => .bad
abbrev k0 : Unit → Slots := fun _ => []
theorem has_rho0 {N : Nat} {O : List Nat} {ds : List D} (h : ds.length ≤ N) : Has (cx0 N O) (S0 0 ds) () (rho0 N ds) := by
  unfold rho0
  have hl : (ds.map Cell.val ++ List.replicate (N - ds.length) Cell.no).length = N := by simp; omega
  refine ⟨hl, fun i _ o e => ?_, fun i hi => (by cases hi), fun i hi => ?_⟩
  · rw [List.getElem?_append] at e
    split at e
    · rw [List.getElem?_map] at e
      cases q : ds[i]? with
      | none => rw [q] at e; cases e
      | some d => rw [q] at e; cases e
    · rw [List.getElem?_replicate] at e
      split at e <;> cases e
  · rw [sat_S0]
    by_cases hd : i < ds.length
    · rw [dif_pos ⟨Nat.zero_le _, by simpa using hd⟩, List.getElem?_append_left (by simpa using hd), List.getElem?_map]
      simp [Spc.ok, hd]
    · rw [dif_neg (fun z => hd (by simpa using z.2))]; exact True.intro
theorem fin_ok {N : Nat} {O : List Nat} {ds : List D} {m : MS} {n : T Unit (SN Unit Unit)} (hl : ds.length ≤ N) (h : NS (cx0 N O) (S0 0 ds) k0 k0 m n) : finF n = .bad ∨ finF n = runF N m ds := by
  have q := h () (rho0 N ds) (has_rho0 hl)
  unfold finF runF
  cases e : n () with
  | bad => exact .inl rfl
  | exc x t => rw [e] at q; obtain ⟨ρ', e1, _⟩ := q; rw [e1]; exact .inr rfl
  | ok s t =>
    rw [e] at q
    cases s with
    | next s => obtain ⟨ρ', e1, _⟩ := q; rw [e1]; exact .inr rfl
    | ret d => obtain ⟨ρ', e1, _⟩ := q; rw [e1]; exact .inr rfl
    | brk s => exact .inl rfl
    | cont s => exact .inl rfl
theorem has_rhoT {N : Nat} {O : List Nat} {d0 : D} {ts ds : List D} (h : ds.length + 2 ≤ N) (ho : O.contains 1 = true) : Has (cxT N O) ((0, .val d0) :: S0 2 ds) ts (rhoT N d0 ts ds) := by
  unfold rhoT
  have hl : (Cell.val d0 :: Cell.own (.lst ts) :: (ds.map Cell.val ++ List.replicate (N - 2 - ds.length) Cell.no)).length = N := by simp; omega
  refine ⟨hl, fun i hi o e => ?_, fun i hi => by cases hi; rfl, fun i hi => ?_⟩
  · match i with
    | 0 => cases e
    | 1 => rw [ho] at hi; cases hi
    | i + 2 =>
      simp only [List.getElem?_cons_succ] at e
      rw [List.getElem?_append] at e
      split at e
      · rw [List.getElem?_map] at e
        cases q : ds[i]? with
        | none => rw [q] at e; cases e
        | some d => rw [q] at e; cases e
      · rw [List.getElem?_replicate] at e
        split at e <;> cases e
  · match i with
    | 0 => rw [sat_cons_same]; rfl
    | 1 =>
      rw [sat_cons_ne (by decide), sat_S0, dif_neg (by omega)]; exact True.intro
    | i + 2 =>
      rw [sat_cons_ne (by omega), sat_S0]
      by_cases hd : i < ds.length
      · rw [dif_pos ⟨by omega, by simpa using hd⟩]
        simp only [List.getElem?_cons_succ]
        rw [List.getElem?_append_left (by simpa using hd), List.getElem?_map]
        simp [Spc.ok, hd]
      · rw [dif_neg (fun z => hd (by simpa using z.2))]; exact True.intro
theorem finT_ok {N : Nat} {O : List Nat} {d0 : D} {ts ds : List D} {m : MS} {n : T (List D) (SN Unit Unit)} (hl : ds.length + 2 ≤ N) (ho : O.contains 1 = true) (h : NS (cxT N O) ((0, .val d0) :: S0 2 ds) k0 k0 m n) : finT n ts = .bad ∨ finT n ts = runT N m d0 ts ds := by
  have q := h ts (rhoT N d0 ts ds) (has_rhoT hl ho)
  unfold finT runT
  have tk : ∀ {t ρ}, Has (cxT N O) [] t ρ → ownL ρ 1 = some t := fun g => ownL_of (g.tk 1 rfl)
  cases e : n ts with
  | bad => exact .inl rfl
  | exc x t => rw [e] at q; obtain ⟨ρ', e1, g⟩ := q; rw [e1]; simp only [tk g]; exact .inr trivial
  | ok s t =>
    rw [e] at q
    cases s with
    | next s => obtain ⟨ρ', e1, g⟩ := q; rw [e1]; simp only [tk g]; exact .inr trivial
    | ret d => obtain ⟨ρ', e1, g⟩ := q; rw [e1]; simp only [tk g]; exact .inr trivial
    | brk s => exact .inl rfl
    | cont s => exact .inl rfl
/-- a law: its first statement makes the town -/
theorem law_run {N : Nat} {O : List Nat} {s d : D} {ts t' : List D} {fn : List D → FRL} {m r : MS} {n : T (List D) (SN Unit Unit)} (hm : m = sSeq (sSetL 1 (mCallL 1 fn (mCons (mVar 0) mNil))) r) (hN : 2 ≤ N) (ho : O.contains 1 = true) (ht : fn [s] = .ok (.lst ts)) (hr : NS (cxT N O) [(0, .val s)] k0 k0 r n)
    (hn : n ts = .ok (.ret d) t') : runF N m [s] = .ok d := by
  have h0 := has_rho0 (N := N) (O := O) (ds := [s]) (by simp; omega)
  have e0 : (rho0 N [s])[0]? = some (.val s) := h0.val (i := 0) rfl (by show 0 < N; omega)
  have h1 : Has (cxT N O) [(0, .val s)] ts ((rho0 N [s]).set 1 (.own (.lst ts))) := by
    refine ⟨by rw [List.length_set]; exact h0.len, fun i hi o e => ?_, fun i hi => ?_, fun i hi => ?_⟩
    · by_cases z : 1 = i
      · subst z; rw [ho] at hi; cases hi
      · rw [List.getElem?_set_ne z] at e; exact h0.no i hi o e
    · cases hi; rw [List.getElem?_set_self (by rw [h0.len]; show 1 < N; omega)]
    · by_cases z : 1 = i
      · subst z; exact True.intro
      · rw [List.getElem?_set_ne z]; exact h0.sp i hi
  have q := hr ts _ h1
  rw [hn] at q
  obtain ⟨ρ', e1, _⟩ := q
  have e2 : m (rho0 N [s]) = r ((rho0 N [s]).set 1 (.own (.lst ts))) := by
    subst hm
    unfold sSeq sSetL mCallL mCons mNil mVar
    simp only [e0, bnd_ok, List.length_cons, List.length_nil, ht, if_true, sBnd_ok]
  unfold runF
  rw [e2, e1]
end NX

set_option maxHeartbeats 1000000
namespace NX
open PySem PySem.Spec PyProof.Rows L2 DX
section
variable {τ α β σ σ' : Type} {C : Ctx τ} {S : Slots} {Kb : β → Slots} {K : σ → Slots} {K' : σ' → Slots}
theorem ns_join {a r : MS} {na : T τ (SN β σ)} {nr : σ → T τ (SN β σ')} (L : σ → Slots) (ha : NS C S Kb (fun s => L s ++ S) a na) (hr : ∀ s, NS C (L s ++ S) Kb K' r (nr s)) : NS C S Kb K' (sSeq a r) (nThen na nr) := ns_then ha hr
theorem ns_bad {m : MS} : NS C S Kb K m zT := fun _ _ _ => True.intro
variable {n : T τ (SN β σ)} {a b c d e f g r : MS}
theorem ns_assoc2 (h : NS C S Kb K (sSeq a (sSeq b r)) n) : NS C S Kb K (sSeq (sSeq a b) r) n := ns_assoc h
theorem ns_assoc3 (h : NS C S Kb K (sSeq a (sSeq b (sSeq c r))) n) : NS C S Kb K (sSeq (sSeq a (sSeq b c)) r) n := h.m fun ρ => by
  unfold sSeq; cases a ρ <;> try rfl
  rename_i ρ1; simp only; cases b ρ1 <;> rfl
theorem ns_assoc4 (h : NS C S Kb K (sSeq a (sSeq b (sSeq c (sSeq d r)))) n) : NS C S Kb K (sSeq (sSeq a (sSeq b (sSeq c d))) r) n := h.m fun ρ => by
  unfold sSeq; cases a ρ <;> try rfl
  rename_i ρ1; simp only; cases b ρ1 <;> try rfl
  rename_i ρ2; simp only; cases c ρ2 <;> rfl
theorem ns_assoc5 (h : NS C S Kb K (sSeq a (sSeq b (sSeq c (sSeq d (sSeq e r))))) n) : NS C S Kb K (sSeq (sSeq a (sSeq b (sSeq c (sSeq d e)))) r) n := h.m fun ρ => by
  unfold sSeq; cases a ρ <;> try rfl
  rename_i ρ1; simp only; cases b ρ1 <;> try rfl
  rename_i ρ2; simp only; cases c ρ2 <;> try rfl
  rename_i ρ3; simp only; cases d ρ3 <;> rfl
end
section
variable {τ : Type} {C : Ctx τ} {S : Slots} {ma mb : M D} {na nb : T τ D}
def nEnum {τ : Type} (a : T τ D) : T τ (List D) := bT a fun d => lT (enD d)
theorem ni_enum (h : NE C S ma na) : NE C S (iEnm ma) (nEnum na) := ne_bnd h fun _ => ne_l _
def nDisp1 {τ : Type} (a b : T τ D) : T τ (List (List Int × D)) := bT a fun k => bT b fun v => lT ((keyT k).map fun ns => [(ns, v)])
theorem nd_disp1 (ha : NE C S ma na) (hb : NE C S mb nb) : NDT C S (mDisp1 ma mb) (nDisp1 na nb) := by
  have : NE C S (mDisp1 ma mb) (bT na fun k => bT nb fun v => lT ((keyT k).map fun ns => Ob.dT [(ns, v)])) := ne_bnd ha fun k => ne_bnd hb fun v => by
    unfold dsp1
    cases keyT k with
    | none => exact ne_z
    | some ns => exact ne_p _
  refine this.n fun t => ?_
  simp only [oDT, nDisp1, bT_ap, bR_assoc]
  congr 1
  funext k t
  simp only [bT_ap, bR_assoc]
  congr 1
  funext v t
  cases keyT k <;> rfl
end
end NX

set_option maxHeartbeats 1000000
namespace NX
open PySem PySem.Spec PyProof.Rows L2 DX
/-! ### the matrix of _law_closure -/
def cmM {τ π : Type} (f : D → Option π) (elt : π → T τ (List D)) : List D → T τ Rows
  | [] => pT []
  | x :: xs => match f x with
    | none => zT
    | some p => cT (elt p) fun ds => match boolsOf ds with
      | some r => cT (cmM f elt xs) fun rs => pT (r :: rs)
      | none => zT
def nCompM {τ π : Type} (ni : T τ (List D)) (f : D → Option π) (elt : π → T τ (List D)) : T τ Rows := bT ni fun xs => if xs.length ≤ sizeLine then cmM f elt xs else zT
section
variable {τ π : Type} {C : Ctx τ} {S : Slots}
theorem wipe_back {Kp : π → Slots} {vs : List Nat} (hk : ∀ p, ((Kp p).all fun q => vs.contains q.1) = true) (hs : (vs.all fun v => !(C.sl == some v)) = true) (p : π) (t : τ) (ρ : Rho) (g : Has C (Kp p ++ (anyS vs ++ S)) t ρ) : Has C (anyS vs ++ S) t (wipeR ρ vs) := by
  have g' := g.wipe hs
  refine ⟨g'.len, g'.no, g'.tk, fun i hi => ?_⟩
  have q := g'.sp i hi
  rw [sat_any] at q ⊢
  by_cases hc : vs.contains i = true
  · rw [if_pos hc]; exact True.intro
  · rw [if_neg hc] at q ⊢
    have e : sat (Kp p ++ (anyS vs ++ S)) i = sat (anyS vs ++ S) i := sat_app (by
      rw [List.all_eq_true]
      intro z hz
      have := List.all_eq_true.mp (hk p) z hz
      simp only [Bool.not_eq_true', beq_eq_false_iff_ne]
      intro e
      rw [e] at this
      exact hc this)
    rw [e, sat_any, if_neg hc] at q
    exact q
theorem cmM_ne {f : D → Option π} {ne : π → T τ (List D)} : ∀ (xs : List D) (t : τ) (x : Str) (t' : τ), cmM f ne xs t ≠ .exc x t'
  | [], t, x, t', e => by cases e
  | y :: ys, t, x, t', e => by
    unfold cmM at e
    cases hf : f y with
    | none => simp only [hf] at e; cases e
    | some p =>
      simp only [hf, cT] at e
      cases he : ne p t with
      | exc _ _ => rw [he] at e; cases e
      | bad => rw [he] at e; cases e
      | ok ds t2 =>
        rw [he] at e
        simp only at e
        cases hb : boolsOf ds with
        | none => rw [hb] at e; cases e
        | some r =>
          rw [hb] at e
          simp only [cT] at e
          cases hc : cmM f ne ys t2 with
          | exc _ _ => rw [hc] at e; cases e
          | bad => rw [hc] at e; cases e
          | ok ds t3 => rw [hc] at e; cases e
theorem cmM_ok {gs : D → Rho → Option Rho} {f : D → Option π} {Kp : π → Slots} {elt : M Ob} {ne : π → T τ (List D)} {vs : List Nat} (hg : NG C (anyS vs ++ S) gs f Kp)
    (he : ∀ p, NL C (Kp p ++ (anyS vs ++ S)) elt (ne p)) (hk : ∀ p, ((Kp p).all fun q => vs.contains q.1) = true) (hs : (vs.all fun v => !(C.sl == some v)) = true) :
    ∀ (xs : List D), NE C (anyS vs ++ S) (compM gs elt vs xs) (cmM f ne xs)
  | [] => ne_p []
  | x :: xs => by
    have ih := cmM_ok hg he hk hs xs
    intro t ρ g
    unfold cmM compM
    have q := hg x t ρ g
    cases ef : f x with
    | none => exact True.intro
    | some p =>
      rw [ef] at q
      obtain ⟨ρ1, e1, h1⟩ := q
      have q3 := he p t ρ1 h1
      simp only [cT]
      unfold oL at q3
      simp only [bT_ap] at q3
      cases ee : ne p t with
      | exc _ _ => exact True.intro
      | bad => exact True.intro
      | ok ds t2 =>
        rw [ee] at q3
        simp only [bR_ok, pT_ap] at q3
        obtain ⟨ρ3, e3, h3⟩ := q3
        simp only [e1, e3, cBnd_ok, rowB]
        cases hb : boolsOf ds with
        | none => exact True.intro
        | some r =>
          have q4 := ih t2 _ (wipe_back hk hs p t2 ρ3 h3)
          simp only [cT]
          cases ec : cmM f ne xs t2 with
          | exc _ _ => exact True.intro
          | bad => exact True.intro
          | ok ds t3 =>
            rw [ec] at q4
            obtain ⟨ρ4, e4, h4⟩ := q4
            exact ⟨ρ4, by rw [e4]; rfl, h4⟩
theorem ne_compM {gs : D → Rho → Option Rho} {f : D → Option π} {Kp : π → Slots} {elt : M Ob} {ne : π → T τ (List D)} {vs : List Nat} {k : Nat} {mi : M (List D)} {ni : T τ (List D)} (hi : NE C S mi ni) (hg : NG C (anyS vs ++ S) gs f Kp)
    (he : ∀ p, NL C (Kp p ++ (anyS vs ++ S)) elt (ne p)) (hk : ∀ p, ((Kp p).all fun q => vs.contains q.1) = true := by intro _; rfl) (hs : (vs.all fun v => !(C.sl == some v)) = true := by rfl)
    (ho : (vs.all fun v => !(C.O.contains v)) = true := by rfl) (hn : (decide (C.N ≤ k)) = true := by rfl) : NE C S (mCompM k mi gs elt vs) (nCompM ni f ne) := by
  refine ne_bnd hi fun xs => ?_
  intro t ρ g
  by_cases hl : xs.length ≤ sizeLine
  · simp only [if_pos hl]
    have cond : noOwn ρ vs = true ∧ xs.length ≤ sizeLine ∧ ρ.length ≤ k := by
      refine ⟨?_, hl, by rw [g.len]; exact of_decide_eq_true hn⟩
      unfold noOwn
      rw [List.all_eq_true]
      intro v hv
      have := List.all_eq_true.mp ho v hv
      simp only [Bool.not_eq_true'] at this
      have q := g.no v this
      split
      · rename_i o e; exact absurd e (q o)
      · rfl
    rw [if_pos cond]
    have q := cmM_ok hg he hk hs xs t (wipeR ρ vs) (g.wipe hs)
    cases ec : cmM f ne xs t with
    | exc x t' => exact absurd ec (cmM_ne xs t x t')
    | bad => exact True.intro
    | ok ds t' =>
      rw [ec] at q
      obtain ⟨ρ', e', h'⟩ := q
      refine ⟨unw ρ vs ρ', ?_, g.unw h' hs⟩
      rw [e']; rfl
  · simp only [if_neg hl]; exact True.intro
/-! loops over the matrix -/
def NMx (C : Ctx τ) (S : Slots) (m : Rows → Rho → Option (Rows × Rho)) (n : Rows → Option Rows) : Prop := ∀ rows t ρ, Has C S t ρ → match n rows with
  | some rows' => ∃ ρ', m rows ρ = some (rows', ρ') ∧ Has C S t ρ'
  | none => True
def cellN (a b c : D) (rows : Rows) : Option Rows := match a, b, c with
  | .int a, .int b, .int c => (match orAnd (cellM rows a b) (cellM rows a c) (cellM rows c b) with
    | some v => some (setM rows a b v)
    | none => none)
  | _, _, _ => none
theorem nmx_cell {ia ib ic : Nat} {a b c : D} (ha : sat S ia = .val a := by rfl) (hb : sat S ib = .val b := by rfl) (hc : sat S ic = .val c := by rfl) (la : (decide (ia < C.N)) = true := by rfl) (lb : (decide (ib < C.N)) = true := by rfl) (lc : (decide (ic < C.N)) = true := by rfl) :
    NMx C S (sCell ia ib ic) (cellN a b c) := fun rows t ρ g => by
  have e1 := g.val ha (of_decide_eq_true la)
  have e2 := g.val hb (of_decide_eq_true lb)
  have e3 := g.val hc (of_decide_eq_true lc)
  unfold cellN
  split
  · rename_i r heq
    split at heq
    · split at heq
      · rename_i v ev
        cases heq
        refine ⟨ρ, ?_, g⟩
        unfold sCell slotI
        rw [e1, e2, e3]
        simp only [ev]
      · cases heq
    · cases heq
  · trivial
def forR (nb : D → Rows → Option Rows) : List D → Rows → Option Rows
  | [], rows => some rows
  | x :: xs, rows => (nb x rows).bind (forR nb xs)
theorem nmx_for {i : Nat} {mi : M (List D)} {ni : T τ (List D)} {o : Option (List D)} {body : Rows → Rho → Option (Rows × Rho)} {nb : D → Rows → Option Rows} (hi : NE C S mi ni) (hx : ∀ t, ni t = lT o t) (hb : ∀ d, NMx C ((i, .val d) :: S) body (nb d)) (hany : sat S i = .any := by rfl) (hf : C.free i = true := by rfl) :
    NMx C S (sForM mi (gSet i) body) (fun rows => o.bind fun xs => forR nb xs rows) := by
  have loop : ∀ (xs : List D), NMx C S (fun rows ρ => forMx (gSet i) body xs rows ρ) (forR nb xs) := by
    intro xs
    induction xs with
    | nil => intro rows t ρ g; exact ⟨ρ, rfl, g⟩
    | cons x xs ih =>
      intro rows t ρ g
      have q := hb x rows t (ρ.set i (.val x)) (g.setV hf)
      unfold forR
      cases e : nb x rows with
      | none => exact True.intro
      | some r1 =>
        rw [e] at q
        obtain ⟨ρ1, e1, g1⟩ := q
        have g2 : Has C S t ρ1 := ⟨g1.len, g1.no, g1.tk, fun j hj => by
          by_cases z : i = j
          · subst z; rw [hany]; exact True.intro
          · have := g1.sp j hj; rw [sat_cons_ne z] at this; exact this⟩
        have q2 := ih r1 t ρ1 g2
        simp only [Option.bind_some]
        cases e2 : forR nb xs r1 with
        | none => exact True.intro
        | some r2 =>
          rw [e2] at q2
          obtain ⟨ρ2, e3, g3⟩ := q2
          refine ⟨ρ2, ?_, g3⟩
          have e4 : forMx (gSet i) body (x :: xs) rows ρ = forMx (gSet i) body xs r1 ρ1 := by
            rw [forMx]; simp only [gSet, e1]
          exact e4.trans e3
  intro rows t ρ g
  have q := hi t ρ g
  rw [hx t] at q
  cases o with
  | none => exact True.intro
  | some xs =>
  obtain ⟨ρ', e1, g1⟩ := q
  have q2 := loop xs rows t ρ' g1
  unfold sForM
  rw [e1]
  exact q2
theorem NS.n {β σ : Type} {Kb : β → Slots} {K : σ → Slots} {m : MS} {n n' : T τ (SN β σ)} (h : NS C S Kb K m n) (e : ∀ t, n' t = n t) : NS C S Kb K m n' := fun t ρ g => by rw [e t]; exact h t ρ g
theorem ns_mat {β σ : Type} {Kb : β → Slots} {K : σ → Slots} {i : Nat} {mc : M Rows} {nc : T τ Rows} {m2 : Rows → Rho → Option (Rows × Rho)} {n2 : Rows → Option Rows} {r : MS} {k : D → T τ (SN β σ)} (hc : NE C S mc nc) (h2 : NMx C ((i, .any) :: S) m2 n2) (hr : ∀ d, NS C ((i, .val d) :: S) Kb K r (k d)) (hf : C.free i = true := by rfl) :
    NS C S Kb K (sSeq (sMat i mc m2) r) (bT nc fun rows => bT (lT (n2 rows)) fun rows' => bT (gdT (rows'.length ≤ sizeLine ∧ ∀ r ∈ rows', r.length ≤ sizeLine) ()) fun _ => k (matD rows')) := by
  have hl : i < C.N := by simp only [Ctx.free, Bool.and_eq_true, decide_eq_true_eq] at hf; exact hf.1
  have hs : C.sl ≠ some i := fun e => by simp only [Ctx.free, e, Bool.and_eq_true, Bool.not_eq_true'] at hf; simp at hf
  refine ns_go (st := fun rows ρ1 => if i < ρ1.length then (match m2 rows (ρ1.set i .no) with
    | some (rows', ρ2) => if rows'.length ≤ sizeLine ∧ ∀ r ∈ rows', r.length ≤ sizeLine then .next (ρ2.set i (.val (matD rows'))) else .bad
    | none => .bad) else .bad) (fun _ => rfl) hc fun rows t ρ g => ?_
  have g0 : Has C ((i, .any) :: S) t (ρ.set i .no) := g.set (fun _ o e => by cases e) hs True.intro hl
  have q := h2 rows t _ g0
  simp only [bT_ap]
  cases e : n2 rows with
  | none => trivial
  | some rows' =>
    rw [e] at q
    obtain ⟨ρ2, e2, g2⟩ := q
    simp only [lT_some, bR_ok, gdT]
    by_cases hz : rows'.length ≤ sizeLine ∧ ∀ r ∈ rows', r.length ≤ sizeLine
    · rw [if_pos hz]
      show match k (matD rows') t with | .bad => True | _ => _
      split
      · trivial
      · refine ⟨ρ2.set i (.val (matD rows')), (i, .val (matD rows')) :: S, ?_, ?_, NS.n (hr (matD rows')) fun t' => ?_⟩
        · rw [if_pos (by rw [g.len]; exact hl), e2]
          simp only [if_pos hz]
        · have g3 := g2.setV (d := matD rows') hf
          refine ⟨g3.len, g3.no, g3.tk, fun j hj => ?_⟩
          have := g3.sp j hj
          by_cases z : i = j
          · subst z; rw [sat_cons_same] at this ⊢; exact this
          · rw [sat_cons_ne z, sat_cons_ne z] at this; rw [sat_cons_ne z]; exact this
        · simp only [bT_ap, lT_some, bR_ok, gdT, if_pos hz]
    · rw [if_neg hz]; trivial
end
end NX

set_option maxHeartbeats 1000000
namespace NX
open PySem PySem.Spec PyProof.Rows L2 DX
/-! ### what native forms give -/
section
variable {τ α β σ σ' π : Type} {t : τ}
@[simp] theorem nC_ap (d : D) (t : τ) : (nC d : T τ D) t = .ok d t := rfl
@[simp] theorem nBin_ap (f : D → D → Option D) (a b : T τ D) (t : τ) : nBin f a b t = bR (a t) fun x => bT b fun y => lT (f x y) := rfl
@[simp] theorem nUn_ap (f : D → Option D) (a : T τ D) (t : τ) : nUn f a t = bR (a t) fun x => lT (f x) := rfl
@[simp] theorem nApp_ap (f : List D → Option D) (a : T τ (List D)) (t : τ) : nApp f a t = bR (a t) fun x => lT (f x) := rfl
@[simp] theorem nNil_ap (t : τ) : (nNil : T τ (List D)) t = .ok [] t := rfl
@[simp] theorem nCons_ap (a : T τ D) (b : T τ (List D)) (t : τ) : nCons a b t = bR (a t) fun x => bT b fun y => pT (x :: y) := rfl
@[simp] theorem gdT_ap (p : Prop) [Decidable p] (a : α) (t : τ) : gdT p a t = if p then .ok a t else .bad := by unfold gdT; split <;> rfl
@[simp] theorem nTup_ap (a : T τ (List D)) (t : τ) : nTup a t = bR (a t) fun ds => gdT (ds.length ≤ sizeLine) (.tuple ds) := rfl
@[simp] theorem nLst_ap (a : T τ (List D)) (t : τ) : nLst a t = bR (a t) fun ds => gdT (ds.length ≤ sizeLine) ds := rfl
def bolT {τ : Type} (d : D) : T τ Bool := match d with
  | .bool b => pT b
  | _ => zT
@[simp] theorem bolT_bool (b : Bool) (t : τ) : bolT (.bool b) t = .ok b t := rfl
@[simp] theorem nB_ap (a : T τ D) (t : τ) : nB a t = bR (a t) bolT := rfl
def andT {τ : Type} (b : T τ D) (d : D) : T τ D := match d with
  | .bool true => b
  | .bool false => pT (.bool false)
  | _ => zT
@[simp] theorem andT_bool (b : T τ D) (x : Bool) (t : τ) : andT b (.bool x) t = iT x b (pT (.bool false)) t := by cases x <;> rfl
@[simp] theorem nAnd_ap (a b : T τ D) (t : τ) : nAnd a b t = bR (a t) (andT b) := rfl
def orT {τ : Type} (b : T τ D) (d : D) : T τ D := match d with
  | .bool true => pT (.bool true)
  | .bool false => b
  | _ => zT
@[simp] theorem orT_bool (b : T τ D) (x : Bool) (t : τ) : orT b (.bool x) t = iT x (pT (.bool true)) b t := by cases x <;> rfl
@[simp] theorem nOr_ap (a b : T τ D) (t : τ) : nOr a b t = bR (a t) (orT b) := rfl
def notT {τ : Type} (d : D) : T τ D := match d with
  | .bool b => pT (.bool (!b))
  | _ => zT
@[simp] theorem notT_bool (x : Bool) (t : τ) : (notT (.bool x) : T τ D) t = .ok (.bool (!x)) t := rfl
@[simp] theorem nNot_ap (a : T τ D) (t : τ) : nNot a t = bR (a t) notT := rfl
@[simp] theorem tAndN_ap (a b : T τ Bool) (t : τ) : tAndN a b t = bR (a t) fun x => iT x b (pT false) := rfl
@[simp] theorem tOrN_ap (a b : T τ Bool) (t : τ) : tOrN a b t = bR (a t) fun x => iT x (pT true) b := rfl
@[simp] theorem tNotN_ap (a : T τ Bool) (t : τ) : tNotN a t = bR (a t) fun x => pT (!x) := rfl
@[simp] theorem nIf_ap (c : T τ Bool) (a b : T τ D) (t : τ) : nIf c a b t = bR (c t) fun x => iT x a b := rfl
def chT {τ : Type} (o : Option D) (k : T τ D) : T τ D := match o with
  | some (.bool true) => k
  | some (.bool false) => pT (.bool false)
  | _ => zT
@[simp] theorem chT_bool (x : Bool) (k : T τ D) (t : τ) : chT (some (.bool x)) k t = iT x k (pT (.bool false)) t := by cases x <;> rfl
@[simp] theorem nCh_ap (f f' : D → D → Option D) (a b c : T τ D) (t : τ) : nCh f f' a b c t = bR (a t) fun x => bT b fun y => chT (f x y) (bT c fun z => lT (f' y z)) := rfl
@[simp] theorem nCh3_ap (f f' f3 : D → D → Option D) (a b c d : T τ D) (t : τ) : nCh3 f f' f3 a b c d t = bR (a t) fun x => bT b fun y => chT (f x y) (bT c fun z => chT (f' y z) (bT d fun w => lT (f3 z w))) := rfl
@[simp] theorem oN_ap (t : τ) : (oN : T τ (Option Int)) t = .ok none t := rfl
def intT {τ : Type} (d : D) : T τ (Option Int) := match d with
  | .int i => pT (some i)
  | _ => zT
@[simp] theorem intT_int (i : Int) (t : τ) : (intT (.int i) : T τ (Option Int)) t = .ok (some i) t := rfl
@[simp] theorem oS_ap (a : T τ D) (t : τ) : oS a t = bR (a t) intT := rfl
@[simp] theorem nSl_ap (a : T τ D) (l h : T τ (Option Int)) (t : τ) : nSl a l h t = bR (a t) fun d => bT l fun lo => bT h fun hi => lT (fSl d lo hi) := rfl
@[simp] theorem nLd_ap (n : T τ (List D)) (t : τ) : nLd n t = bR (n t) fun ds => pT (.list ds) := rfl
@[simp] theorem nCat_ap (a b : T τ D) (t : τ) : nCat a b t = bR (a t) fun x => bT b fun y => lT (catL x y) := rfl
@[simp] theorem catL_list (a b : List D) : catL (.list a) (.list b) = if a.length + b.length ≤ sizeLine then some (a ++ b) else none := rfl
@[simp] theorem nList_ap (a : T τ (List D)) (t : τ) : nList a t = bR (a t) fun ds => lT (listL ds) := rfl
@[simp] theorem listL_list (ds : List D) : listL [.list ds] = some ds := rfl
@[simp] theorem listL_tuple (ds : List D) : listL [.tuple ds] = some ds := rfl
@[simp] theorem nDict_ap (a : T τ (List D)) (t : τ) : nDict a t = bR (a t) fun ds => lT (dictL ds) := rfl
@[simp] theorem nDisp1_ap (a b : T τ D) (t : τ) : nDisp1 a b t = bR (a t) fun k => bT b fun v => lT ((keyT k).map fun ns => [(ns, v)]) := rfl
@[simp] theorem nIxO_ap (ds : List D) (b : T τ D) (t : τ) : nIxO ds b t = bR (b t) fun d => lT (fIx (.list ds) d) := rfl
@[simp] theorem onlyT_bool (b : Bool) (t : τ) : (onlyT (some (.bool b)) : T τ D) t = .ok (.bool b) t := rfl
@[simp] theorem nCmR_ap (f : D → D → Option D) (a : T τ D) (ds : List D) (t : τ) : nCmR f a ds t = bR (a t) fun d => onlyT (f d (.list ds)) := rfl
@[simp] theorem nCmL_ap (f : D → D → Option D) (ds : List D) (b : T τ D) (t : τ) : nCmL f ds b t = bR (b t) fun d => onlyT (f (.list ds) d) := rfl
@[simp] theorem nLenO_ap (ds : List D) (t : τ) : (nLenO ds : T τ D) t = .ok (.int ds.length) t := rfl
@[simp] theorem nCatO_ap (ds : List D) (b : T τ D) (t : τ) : nCatO ds b t = bR (b t) fun d => lT (catL (.list ds) d) := rfl
def inT' {τ : Type} (neg : Bool) (kvs : List (List Int × D)) (d : D) : T τ D := match keyT d with
  | some ns => pT (.bool (xor neg (lookT kvs ns).isSome))
  | none => zT
@[simp] theorem nInT_ap (neg : Bool) (a : T τ D) (kvs : List (List Int × D)) (t : τ) : nInT neg a kvs t = bR (a t) (inT' neg kvs) := rfl
theorem inT_key {neg : Bool} {kvs : List (List Int × D)} {d : D} {ns : List Int} (h : keyT d = some ns) (t : τ) : (inT' neg kvs d : T τ D) t = .ok (.bool (xor neg (lookT kvs ns).isSome)) t := by unfold inT'; rw [h]; rfl
@[simp] theorem nCall_ap (q : List D → FR) (a : T τ (List D)) (t : τ) : nCall q a t = bR (a t) fun ds => frT (q ds) := rfl
@[simp] theorem nSeq_ap (a : T τ D) (t : τ) : nSeq a t = bR (a t) fun d => lT (seqD d) := rfl
@[simp] theorem nRange1_ap (a : T τ (List D)) (t : τ) : nRange1 a t = bR (a t) fun ds => lT (rg1 ds) := rfl
@[simp] theorem nRange2_ap (a : T τ (List D)) (t : τ) : nRange2 a t = bR (a t) fun ds => lT (rg2 ds) := rfl
@[simp] theorem nEnum_ap (a : T τ D) (t : τ) : nEnum a t = bR (a t) fun d => lT (enD d) := rfl
@[simp] theorem nYes_ap (t : τ) : (nYes : T τ Bool) t = .ok true t := rfl
theorem nComp_ap (ni : T τ (List D)) (f : D → Option π) (test : π → T τ Bool) (elt : π → T τ D) (t : τ) : nComp ni f test elt t = bR (ni t) fun xs => if xs.length ≤ sizeLine then cmL f test elt xs else zT := rfl
@[simp] theorem nRet_ap (n : T τ D) (t : τ) : (nRet n : T τ (SN β σ)) t = bR (n t) fun d => pT (.ret d) := rfl
@[simp] theorem nNext_ap (s : σ) (t : τ) : (nNext s : T τ (SN β σ)) t = .ok (.next s) t := rfl
@[simp] theorem nBrk_ap (s : β) (t : τ) : (nBrk s : T τ (SN β σ)) t = .ok (.brk s) t := rfl
@[simp] theorem nCont_ap (s : β) (t : τ) : (nCont s : T τ (SN β σ)) t = .ok (.cont s) t := rfl
def thenT {τ β σ σ' : Type} (k : σ → T τ (SN β σ')) (r : SN β σ) : T τ (SN β σ') := match r with
  | .next s => k s
  | .ret d => pT (.ret d)
  | .brk l => pT (.brk l)
  | .cont l => pT (.cont l)
@[simp] theorem thenT_next (k : σ → T τ (SN β σ')) (s : σ) : thenT k (.next s) = k s := rfl
@[simp] theorem thenT_ret (k : σ → T τ (SN β σ')) (d : D) (t : τ) : thenT k (.ret d) t = .ok (.ret d) t := rfl
@[simp] theorem thenT_brk (k : σ → T τ (SN β σ')) (d : β) (t : τ) : thenT k (.brk d) t = .ok (.brk d) t := rfl
@[simp] theorem thenT_cont (k : σ → T τ (SN β σ')) (d : β) (t : τ) : thenT k (.cont d) t = .ok (.cont d) t := rfl
@[simp] theorem nThen_ap (n : T τ (SN β σ)) (k : σ → T τ (SN β σ')) (t : τ) : nThen n k t = bR (n t) (thenT k) := by
  unfold nThen; simp only [bT_ap]; congr 1
@[simp] theorem nApd_ap (ds : List D) (n : T τ D) (k : List D → T τ (SN β σ)) (t : τ) : nApd ds n k t = bR (n t) fun d => if ds.length < sizeLine then k (ds ++ [d]) else zT := rfl
@[simp] theorem ite_ap {p : Prop} [Decidable p] (x y : T τ α) (t : τ) : (if p then x else y) t = if p then x t else y t := by split <;> rfl
def putOT {τ β σ : Type} (ds : List D) (d : D) (k : List D → T τ (SN β σ)) (j : D) : T τ (SN β σ) := match j with
  | .int jj => (match ixN ds.length jj with
    | some i => k (ds.set i d)
    | none => zT)
  | _ => zT
@[simp] theorem nPutO_ap (ds : List D) (nj n : T τ D) (k : List D → T τ (SN β σ)) (t : τ) : nPutO ds nj n k t = bR (n t) fun d => bT nj (putOT ds d k) := rfl
theorem putOT_at {ds : List D} {d : D} {k : List D → T τ (SN β σ)} {jj : Int} {i : Nat} (h : ixN ds.length jj = some i) : putOT ds d k (.int jj) = k (ds.set i d) := by unfold putOT; simp only [h]
def putTT {τ β σ : Type} (kvs : List (List Int × D)) (d : D) (k : List (List Int × D) → T τ (SN β σ)) (j : D) : T τ (SN β σ) := match keyT j with
  | some ns => if kvs.length < sizeLine then k (putT kvs ns d) else zT
  | none => zT
@[simp] theorem nPutT_ap (kvs : List (List Int × D)) (nj n : T τ D) (k : List (List Int × D) → T τ (SN β σ)) (t : τ) : nPutT kvs nj n k t = bR (n t) fun d => bT nj (putTT kvs d k) := rfl
theorem putTT_key {kvs : List (List Int × D)} {d : D} {k : List (List Int × D) → T τ (SN β σ)} {j : D} {ns : List Int} (h : keyT j = some ns) (hl : kvs.length < sizeLine) : putTT kvs d k j = k (putT kvs ns d) := by unfold putTT; simp only [h, if_pos hl]
end
@[simp] theorem nCallT_ap (q : D → List D → List D → FRT) (a : T (List D) D) (r : T (List D) (List D)) (t : List D) : nCallT q a r t = bR (a t) fun d0 => bT r fun dr => frtT q d0 dr := rfl
theorem frtT_ok {q : D → List D → List D → FRT} {d0 d : D} {dr t t' : List D} (h : q d0 t dr = .ok d t') : frtT q d0 dr t = .ok d t' := by unfold frtT; rw [h]
@[simp] theorem gq1 (fn : List D → FR) (a : D) : gq 1 fn [a] = fn [a] := rfl
@[simp] theorem gq2 (fn : List D → FR) (a b : D) : gq 2 fn [a, b] = fn [a, b] := rfl
@[simp] theorem gq3 (fn : List D → FR) (a b c : D) : gq 3 fn [a, b, c] = fn [a, b, c] := rfl
@[simp] theorem gqT3 (fn : D → List D → List D → FRT) (d a : D) (t : List D) : gqT 3 fn d t [a] = fn d t [a] := rfl
theorem frtT_ok3 {fn : D → List D → List D → FRT} {d0 d a : D} {t t' : List D} (h : fn d0 t [a] = .ok d t') : frtT (gqT 3 fn) d0 [a] t = .ok d t' := frtT_ok (by rw [gqT3]; exact h)
def finR (r : RT Unit (SN Unit Unit)) : FR := match r with
  | .ok (.ret d) _ => .ok d
  | .ok (.next _) _ => .ok .none
  | .exc x _ => .exc x
  | _ => .bad
@[simp] theorem finF_eq (n : T Unit (SN Unit Unit)) : finF n = finR (n ()) := rfl
@[simp] theorem finR_ret (d : D) (t : Unit) : finR (.ok (.ret d) t) = .ok d := rfl
@[simp] theorem finR_next (t s : Unit) : finR (.ok (.next s) t) = .ok .none := rfl
@[simp] theorem finR_exc (x : Str) (t : Unit) : finR (.exc x t) = .exc x := rfl
@[simp] theorem finR_ite {p : Prop} [Decidable p] (x y : RT Unit (SN Unit Unit)) : finR (if p then x else y) = if p then finR x else finR y := by split <;> rfl
def finRT (r : RT (List D) (SN Unit Unit)) : FRT := match r with
  | .ok (.ret d) t => .ok d t
  | .ok (.next _) t => .ok .none t
  | .exc x t => .exc x t
  | _ => .bad
@[simp] theorem finT_eq (n : T (List D) (SN Unit Unit)) (t : List D) : finT n t = finRT (n t) := rfl
@[simp] theorem finRT_ret (d : D) (t : List D) : finRT (.ok (.ret d) t) = .ok d t := rfl
@[simp] theorem finRT_next (t : List D) (s : Unit) : finRT (.ok (.next s) t) = .ok .none t := rfl
@[simp] theorem finRT_exc (x : Str) (t : List D) : finRT (.exc x t) = .exc x t := rfl
/-! ### loops -/
section
variable {τ α β σ γ π : Type} {f : D → Option π} {e : α → D} {body : π → σ → T τ (SN σ σ)}
theorem forN_nil (s : σ) : (forN f body [] s : T τ (SN β σ)) = pT (.next s) := rfl
theorem forN_step {x : D} {xs : List D} {p : π} {s s' : σ} {t t' : τ} (h : f x = some p) (hb : body p s t = .ok (.next s') t' ∨ body p s t = .ok (.cont s') t') : (forN f body (x :: xs) s : T τ (SN β σ)) t = forN f body xs s' t' := by
  rw [forN, h]; simp only [bT_ap]; rcases hb with hb | hb <;> rw [hb] <;> rfl
theorem forN_ret {x : D} {xs : List D} {p : π} {s : σ} {t t' : τ} {d : D} (h : f x = some p) (hb : body p s t = .ok (.ret d) t') : (forN f body (x :: xs) s : T τ (SN β σ)) t = .ok (.ret d) t' := by
  rw [forN, h]; simp only [bT_ap]; rw [hb]; rfl
theorem forN_brk {x : D} {xs : List D} {p : π} {s s' : σ} {t t' : τ} (h : f x = some p) (hb : body p s t = .ok (.brk s') t') : (forN f body (x :: xs) s : T τ (SN β σ)) t = .ok (.next s') t' := by
  rw [forN, h]; simp only [bT_ap]; rw [hb]; rfl
theorem forN_exc {x : D} {xs : List D} {p : π} {s : σ} {t t' : τ} {d : Str} (h : f x = some p) (hb : body p s t = .exc d t') : (forN f body (x :: xs) s : T τ (SN β σ)) t = .exc d t' := by
  rw [forN, h]; simp only [bT_ap]; rw [hb]; rfl
theorem forN_inv (I : Nat → σ → τ → Prop) : ∀ (ys : List α) (k : Nat) (s : σ) (t : τ), I k s t →
    (∀ i y, ys[i]? = some y → ∀ s t, I (k + i) s t → ∃ p s' t', f (e y) = some p ∧ (body p s t = .ok (.next s') t' ∨ body p s t = .ok (.cont s') t') ∧ I (k + i + 1) s' t') →
    ∃ s' t', (forN f body (ys.map e) s : T τ (SN β σ)) t = .ok (.next s') t' ∧ I (k + ys.length) s' t'
  | [], k, s, t, h0, _ => ⟨s, t, rfl, h0⟩
  | y :: ys, k, s, t, h0, st => by
    obtain ⟨p, s1, t1, e1, e2, h2⟩ := st 0 y rfl s t h0
    obtain ⟨s', t', e3, h3⟩ := forN_inv I ys (k + 1) s1 t1 h2 fun i z hz s t hI => by
      have := st (i + 1) z (by simpa using hz) s t (by rw [show k + (i + 1) = k + 1 + i by omega]; exact hI)
      rw [show k + (i + 1) + 1 = k + 1 + i + 1 by omega] at this
      exact this
    refine ⟨s', t', ?_, by rw [show k + (y :: ys).length = k + 1 + ys.length by simp; omega]; exact h3⟩
    rw [List.map_cons, forN_step e1 e2]; exact e3
/-- a fold, while P holds -/
theorem forN_fold {φ : γ → σ} (step : γ → α → γ) (P : γ → Prop) {t : τ} : ∀ (ys : List α) (c : γ), P c → (∀ y ∈ ys, ∀ c, P c → P (step c y) ∧ ∃ p, f (e y) = some p ∧ (body p (φ c) t = .ok (.next (φ (step c y))) t ∨ body p (φ c) t = .ok (.cont (φ (step c y))) t)) →
    (forN f body (ys.map e) (φ c) : T τ (SN β σ)) t = .ok (.next (φ (ys.foldl step c))) t
  | [], c, _, _ => rfl
  | y :: ys, c, h0, st => by
    obtain ⟨h1, p, e1, e2⟩ := st y List.mem_cons_self c h0
    rw [List.map_cons, forN_step e1 e2, forN_fold step P ys _ h1 fun z hz => st z (List.mem_cons_of_mem _ hz), List.foldl_cons]
theorem forN_fold_inv (step : γ → α → γ) (P : γ → Prop) : ∀ (ys : List α) (c : γ), P c → (∀ y ∈ ys, ∀ c, P c → P (step c y)) → P (ys.foldl step c)
  | [], c, h, _ => h
  | y :: ys, c, h, st => forN_fold_inv step P ys _ (st y List.mem_cons_self c h) fun z hz => st z (List.mem_cons_of_mem _ hz)
/-- the first that fits ends it -/
theorem forN_find (c : α → Bool) (r : α → D) {s : σ} {t : τ} : ∀ (ys : List α), (∀ y ∈ ys, ∃ p, f (e y) = some p ∧ (c y = true → body p s t = .ok (.ret (r y)) t) ∧ (c y = false → body p s t = .ok (.next s) t ∨ body p s t = .ok (.cont s) t)) →
    (forN f body (ys.map e) s : T τ (SN β σ)) t = match ys.find? c with
      | some y => .ok (.ret (r y)) t
      | none => .ok (.next s) t
  | [], _ => rfl
  | y :: ys, st => by
    obtain ⟨p, e1, h1, h2⟩ := st y List.mem_cons_self
    rw [List.map_cons, List.find?_cons]
    cases q : c y with
    | true => rw [forN_ret e1 (h1 q)]
    | false => rw [forN_step e1 (h2 q), forN_find c r ys fun z hz => st z (List.mem_cons_of_mem _ hz)]
theorem forN_any (c : α → Bool) (d : D) {s : σ} {t : τ} (ys : List α) (h : ∀ y ∈ ys, ∃ p, f (e y) = some p ∧ (c y = true → body p s t = .ok (.ret d) t) ∧ (c y = false → body p s t = .ok (.next s) t ∨ body p s t = .ok (.cont s) t)) :
    (forN f body (ys.map e) s : T τ (SN β σ)) t = if ys.any c then .ok (.ret d) t else .ok (.next s) t := by
  rw [forN_find c (fun _ => d) ys h]
  cases q : ys.find? c with
  | none =>
    rw [List.find?_eq_none] at q
    have : ys.any c = false := by rw [List.any_eq_false]; exact q
    rw [this]; rfl
  | some y =>
    have : ys.any c = true := by rw [List.any_eq_true]; exact ⟨y, List.mem_of_find?_eq_some q, List.find?_some q⟩
    rw [this]; rfl
/-! ### comprehensions -/
variable {test : π → T τ Bool} {elt : π → T τ D}
theorem cmL_pure {t : τ} (c : α → Bool) (h : α → D) : ∀ (ys : List α), (∀ y ∈ ys, ∃ p, f (e y) = some p ∧ test p t = .ok (c y) t ∧ (c y = true → elt p t = .ok (h y) t)) → cmL f test elt (ys.map e) t = .ok ((ys.filter c).map h) t
  | [], _ => rfl
  | y :: ys, st => by
    obtain ⟨p, e1, e2, e3⟩ := st y List.mem_cons_self
    have ih := cmL_pure c h ys fun z hz => st z (List.mem_cons_of_mem _ hz)
    rw [List.map_cons, cmL, e1]
    simp only [cT, e2]
    cases q : c y with
    | true => simp only [e3 q, cT, ih, pT_ap, List.filter_cons, q, if_true, List.map_cons]
    | false => simp only [ih, List.filter_cons, q]; rfl
theorem cmL_map {t : τ} (h : α → D) (ys : List α) (st : ∀ y ∈ ys, ∃ p, f (e y) = some p ∧ elt p t = .ok (h y) t) : cmL f (fun _ => nYes) elt (ys.map e) t = .ok (ys.map h) t := by
  have := cmL_pure (test := fun _ => nYes) (fun _ => true) h ys fun y hy => by
    obtain ⟨p, a, b⟩ := st y hy
    exact ⟨p, a, rfl, fun _ => b⟩
  rw [this, List.filter_eq_self.mpr fun _ _ => rfl]
theorem nComp_pure {t : τ} {ni : T τ (List D)} (c : α → Bool) (h : α → D) (ys : List α) (hi : ni t = .ok (ys.map e) t) (hl : ys.length ≤ sizeLine) (st : ∀ y ∈ ys, ∃ p, f (e y) = some p ∧ test p t = .ok (c y) t ∧ (c y = true → elt p t = .ok (h y) t)) : nComp ni f test elt t = .ok ((ys.filter c).map h) t := by
  rw [nComp_ap, hi, bR_ok, if_pos (by rw [List.length_map]; exact hl), cmL_pure c h ys st]
theorem nComp_map {t : τ} {ni : T τ (List D)} (h : α → D) (ys : List α) (hi : ni t = .ok (ys.map e) t) (hl : ys.length ≤ sizeLine) (st : ∀ y ∈ ys, ∃ p, f (e y) = some p ∧ elt p t = .ok (h y) t) : nComp ni f (fun _ => nYes) elt t = .ok (ys.map h) t := by
  rw [nComp_ap, hi, bR_ok, if_pos (by rw [List.length_map]; exact hl), cmL_map h ys st]
end
/-- each turn ends the loop with a value that fits, or keeps I; one of them ends it -/
theorem forN_must {τ α β σ π : Type} {f : D → Option π} {e : α → D} {body : π → σ → T τ (SN σ σ)} (I : Nat → σ → Prop) (G : D → Prop) {t : τ} : ∀ (ys : List α) (k : Nat) (s : σ), I k s →
    (∀ y ∈ ys, ∀ k s, I k s → ∃ p, f (e y) = some p ∧ ((∃ d, body p s t = .ok (.ret d) t ∧ G d) ∨ (∃ s', body p s t = .ok (.next s') t ∧ I (k + 1) s'))) →
    (∃ y ∈ ys, ∀ k s p, I k s → f (e y) = some p → ∃ d, body p s t = .ok (.ret d) t ∧ G d) → ∃ d, (forN f body (ys.map e) s : T τ (SN β σ)) t = .ok (.ret d) t ∧ G d
  | [], _, _, _, _, h => by obtain ⟨y, hy, _⟩ := h; cases hy
  | y :: ys, k, s, h0, st, h => by
    obtain ⟨p, e1, e2⟩ := st y List.mem_cons_self k s h0
    rcases e2 with ⟨d, e2, g⟩ | ⟨s', e2, h1⟩
    · exact ⟨d, by rw [List.map_cons, forN_ret e1 e2], g⟩
    · obtain ⟨z, hz, hy⟩ := h
      rcases List.mem_cons.mp hz with rfl | hz
      · obtain ⟨d, e3, g⟩ := hy k s p h0 e1
        exact ⟨d, by rw [List.map_cons, forN_ret e1 e3], g⟩
      · obtain ⟨d, e4, g⟩ := forN_must I G ys (k + 1) s' h1 (fun z hz => st z (List.mem_cons_of_mem _ hz)) ⟨z, hz, hy⟩
        exact ⟨d, by rw [List.map_cons, forN_step e1 (.inl e2)]; exact e4, g⟩
/-- .. or none ends it -/
theorem forN_may {τ α β σ π : Type} {f : D → Option π} {e : α → D} {body : π → σ → T τ (SN σ σ)} (I : Nat → σ → Prop) (G : D → Prop) {t : τ} : ∀ (ys : List α) (k : Nat) (s : σ), I k s →
    (∀ y ∈ ys, ∀ k s, I k s → ∃ p, f (e y) = some p ∧ ((∃ d, body p s t = .ok (.ret d) t ∧ G d) ∨ (∃ s', body p s t = .ok (.next s') t ∧ I (k + 1) s'))) →
    (∃ d, (forN f body (ys.map e) s : T τ (SN β σ)) t = .ok (.ret d) t ∧ G d) ∨ ∃ s', (forN f body (ys.map e) s : T τ (SN β σ)) t = .ok (.next s') t ∧ I (k + ys.length) s'
  | [], k, s, h0, _ => .inr ⟨s, rfl, h0⟩
  | y :: ys, k, s, h0, st => by
    obtain ⟨p, e1, e2⟩ := st y List.mem_cons_self k s h0
    rcases e2 with ⟨d, e2, g⟩ | ⟨s', e2, h1⟩
    · exact .inl ⟨d, by rw [List.map_cons, forN_ret e1 e2], g⟩
    · rcases forN_may I G ys (k + 1) s' h1 (fun z hz => st z (List.mem_cons_of_mem _ hz)) with ⟨d, e4, g⟩ | ⟨s2, e4, h2⟩
      · exact .inl ⟨d, by rw [List.map_cons, forN_step e1 (.inl e2)]; exact e4, g⟩
      · exact .inr ⟨s2, by rw [List.map_cons, forN_step e1 (.inl e2)]; exact e4, by rw [show k + (y :: ys).length = k + 1 + ys.length by simp; omega]; exact h2⟩
theorem whN_end {τ β σ : Type} {c : σ → T τ Bool} {body : σ → T τ (SN σ σ)} {k : Nat} {s : σ} {t t' : τ} (h : c s t = .ok false t') : (whN c body (k + 1) s : T τ (SN β σ)) t = .ok (.next s) t' := by
  rw [whN]; simp only [bT_ap, h, bR_ok, iT_false, pT_ap]
theorem whN_go {τ β σ : Type} {c : σ → T τ Bool} {body : σ → T τ (SN σ σ)} {k : Nat} {s s' : σ} {t t1 t2 : τ} (h : c s t = .ok true t1) (hb : body s t1 = .ok (.next s') t2 ∨ body s t1 = .ok (.cont s') t2) : (whN c body (k + 1) s : T τ (SN β σ)) t = whN c body k s' t2 := by
  rw [whN]; simp only [bT_ap, h, bR_ok, iT_true]; rcases hb with hb | hb <;> rw [hb] <;> rfl
theorem whN_ret {τ β σ : Type} {c : σ → T τ Bool} {body : σ → T τ (SN σ σ)} {k : Nat} {s : σ} {d : D} {t t1 t2 : τ} (h : c s t = .ok true t1) (hb : body s t1 = .ok (.ret d) t2) : (whN c body (k + 1) s : T τ (SN β σ)) t = .ok (.ret d) t2 := by
  rw [whN]; simp only [bT_ap, h, bR_ok, iT_true]; rw [hb]; rfl
/-! ### loops that append -/
theorem forN_app {τ α β γ π : Type} {f : D → Option π} {e : α → D} {enc : γ → D} {body : π → List D → T τ (SN (List D) (List D))} (g : α → List γ) (m B : Nat) {t : τ} : ∀ (ys : List α) (c : List γ), (∀ y ∈ ys, (g y).length ≤ m) → c.length + ys.length * m ≤ B →
    (∀ y ∈ ys, ∀ c : List γ, c.length ≤ B → ∃ p, f (e y) = some p ∧ body p (c.map enc) t = .ok (.next ((c ++ g y).map enc)) t) → (forN f body (ys.map e) (c.map enc) : T τ (SN β (List D))) t = .ok (.next ((c ++ ys.flatMap g).map enc)) t
  | [], c, _, _, _ => by simp [forN]
  | y :: ys, c, hg, hl, st => by
    have h1 := hg y List.mem_cons_self
    rw [List.length_cons, Nat.succ_mul] at hl
    obtain ⟨p, e1, e2⟩ := st y List.mem_cons_self c (by omega)
    rw [List.map_cons, forN_step e1 (.inl e2), forN_app g m B ys (c ++ g y) (fun z hz => hg z (List.mem_cons_of_mem _ hz)) (by rw [List.length_append]; omega) fun z hz => st z (List.mem_cons_of_mem _ hz), List.flatMap_cons, List.append_assoc]
theorem flatMap_ite {α γ : Type} (p : α → Bool) (h : α → γ) : ∀ ys : List α, (ys.flatMap fun y => if p y = true then [h y] else []) = (ys.filter p).map h
  | [] => rfl
  | y :: ys => by
    rw [List.flatMap_cons, flatMap_ite p h ys, List.filter_cons]
    cases p y <;> rfl
/-! ### folds -/
theorem foldl_app {α β : Type} (g : α → List β) : ∀ (ys : List α) (c : List β), ys.foldl (fun c y => c ++ g y) c = c ++ ys.flatMap g
  | [], c => by simp
  | y :: ys, c => by rw [List.foldl_cons, foldl_app g ys, List.flatMap_cons, List.append_assoc]
theorem foldl_filter {α β : Type} (p : α → Bool) (g : α → β) : ∀ (ys : List α) (c : List β), ys.foldl (fun c y => if p y = true then c ++ [g y] else c) c = c ++ (ys.filter p).map g
  | [], c => by simp
  | y :: ys, c => by
    rw [List.foldl_cons, foldl_filter p g ys]
    cases q : p y <;> simp [q]
theorem range_get {n i a : Nat} (h : (List.range n)[i]? = some a) : a = i ∧ i < n := by
  have hi : i < n := by have := (List.getElem?_eq_some_iff.mp h).1; simpa using this
  rw [List.getElem?_range hi] at h
  cases h
  exact ⟨rfl, hi⟩
abbrev nD (n : Nat) : D := .int n
theorem ble_of {a b : Nat} (h : a ≤ b) : Nat.ble a b = true := Nat.ble_eq_true_of_le h
theorem rngN (n : Nat) (h : n ≤ 1000000) : rg1 [.int n] = some ((List.range n).map nD) := by
  have e : rg1 [.int n] = if Nat.ble (n : Int).natAbs 1000000 = true then some (rangeD 0 (n : Int).toNat) else none := by rw [rg1]
  rw [e, if_pos (ble_of (by omega))]
  unfold rangeD
  congr 1
  simp
theorem rngN2 (a n : Nat) (h1 : a ≤ n) (h : n ≤ 1000000) : rg2 [.int a, .int n] = some ((List.range (n - a)).map fun i => nD (a + i)) := by
  have e : rg2 [.int a, .int n] = if (Nat.ble (a : Int).natAbs 1000000 && Nat.ble (n : Int).natAbs 1000000) = true then some (rangeD a ((n : Int) - a).toNat) else none := by rw [rg2]
  rw [e, if_pos (by rw [Bool.and_eq_true]; exact ⟨ble_of (by omega), ble_of (by omega)⟩)]
  unfold rangeD
  rw [show ((n : Int) - a).toNat = n - a by omega]
  congr 1
theorem gMul_ok {i j : Int} (h : i.natAbs < 2 ^ 64 ∨ j.natAbs < 2 ^ 64) : gMul (.int i) (.int j) = some (.int (i * j)) := by
  rw [gMul, if_pos]
  rw [Bool.or_eq_true]
  rcases h with h | h
  · exact .inl (ble_of (by omega))
  · exact .inr (ble_of (by omega))
theorem gDiv_ok {i j : Int} (h : 0 < j ∧ j < 1073741824) : gDiv (.int i) (.int j) = some (.int (i / j)) := by
  rw [gDiv, if_pos]
  rw [Bool.and_eq_true]
  exact ⟨ble_of (by omega), ble_of (by omega)⟩
theorem gShl_ok {i j : Int} (h : 0 ≤ j ∧ j ≤ 1000000 ∧ i.natAbs < 2 ^ 64) : gShl (.int i) (.int j) = some (.int (i * 2 ^ j.toNat)) := by
  rw [gShl, if_pos]
  simp only [Bool.and_eq_true, decide_eq_true_eq]
  exact ⟨⟨h.1, ble_of (by omega)⟩, ble_of (by omega)⟩
end NX

set_option maxHeartbeats 1000000
namespace NX
open PySem PySem.Spec PyProof.Rows L2 DX
section
variable {τ α β σ π π1 : Type} {C : Ctx τ} {S : Slots} {ma mb : M D} {na nb : T τ D} {mas : M (List D)} {nas : T τ (List D)}
/-! ### sorted -/
def sortL : List D → Option (List D)
  | [.list ds] => (rowsD ds).map fun l => (sortR l).map rwD
  | [.tuple ds] => (rowsD ds).map fun l => (sortR l).map rwD
  | _ => none
theorem sortL_eq (ds : List D) : fSort ds = (sortL ds).map .lst := by
  match ds with
  | [] => rfl
  | [d] => cases d <;> first | rfl | (simp only [fSort, sortL, Option.map_map]; rfl)
  | d :: _ :: _ => cases d <;> rfl
def nSort {τ : Type} (a : T τ (List D)) : T τ (List D) := bT a fun ds => lT (sortL ds)
theorem nl_sort (h : NE C S mas nas) : NL C S (mAppL fSort mas) (nSort nas) := nl_of h fun _ => nl_l (sortL_eq _)
@[simp] theorem nSort_ap (a : T τ (List D)) (t : τ) : nSort a t = bR (a t) fun ds => lT (sortL ds) := rfl
def nSortT {τ : Type} (kvs : List (List Int × D)) : T τ (List D) := lT ((rowsK kvs).map fun l => (sortR l).map rwD)
theorem nl_sortT {i : Nat} {kvs : List (List Int × D)} (hs : sat S i = .own (.dT kvs) := by rfl) (hl : (decide (i < C.N)) = true := by rfl) : NL C S (mSortT i) (nSortT kvs) := by
  intro t ρ g
  have h : NL C S (fun ρ => lft ((rowsK kvs).map fun l => .lst ((sortR l).map rwD)) ρ) (nSortT kvs) := nl_l (by rw [Option.map_map]; rfl)
  have := h t ρ g
  unfold mSortT
  simp only [ownT_of (g.own hs (of_decide_eq_true hl))]
  exact this
@[simp] theorem nSortT_ap (kvs : List (List Int × D)) (t : τ) : (nSortT kvs : T τ (List D)) t = lT ((rowsK kvs).map fun l => (sortR l).map rwD) t := rfl
/-! ### x[::-1] of a list -/
def revL : D → Option (List D)
  | .list ds => some ds.reverse
  | _ => none
theorem revL_eq (d : D) : fRevL d = (revL d).map .lst := by cases d <;> rfl
def nRevL {τ : Type} (a : T τ D) : T τ (List D) := bT a fun d => lT (revL d)
theorem nl_revL (h : NE C S ma na) : NL C S (mUnL fRevL ma) (nRevL na) := nl_of h fun _ => nl_l (revL_eq _)
@[simp] theorem nRevL_ap (a : T τ D) (t : τ) : nRevL a t = bR (a t) fun d => lT (revL d) := rfl
@[simp] theorem revL_list (ds : List D) : revL (.list ds) = some ds.reverse := rfl
/-! ### sorted(set(x)) -/
def sortX : D → Option (List D)
  | .list ds => match rowsD ds with
    | some l => if (decide (l.length < 64) && (rowsSame l && rowsSmall l)) = true then some ((sortR (ddR l)).map rwD) else none
    | none => none
  | _ => none
theorem sortX_eq (d : D) : fSortX d = (sortX d).map .lst := by
  cases d <;> try rfl
  rename_i ds
  have key : ∀ o : Option (List (List Int)), (match o with
      | some l => if (decide (l.length < 64) && (rowsSame l && rowsSmall l)) = true then some (Ob.lst ((sortR (ddR l)).map rwD)) else none
      | none => none) = Option.map Ob.lst (match o with
      | some l => if (decide (l.length < 64) && (rowsSame l && rowsSmall l)) = true then some ((sortR (ddR l)).map rwD) else none
      | none => none) := fun o => by
    cases o with
    | none => rfl
    | some l => simp only; split <;> rfl
  exact key (rowsD ds)
def nSortX {τ : Type} (a : T τ D) : T τ (List D) := bT a fun d => lT (sortX d)
theorem nl_sortX (h : NE C S ma na) : NL C S (mUnL fSortX ma) (nSortX na) := nl_of h fun _ => nl_l (sortX_eq _)
@[simp] theorem nSortX_ap (a : T τ D) (t : τ) : nSortX a t = bR (a t) fun d => lT (sortX d) := rfl
/-! ### index -/
def nIdx {τ : Type} (a b : T τ D) : T τ D := bT a fun d => match seqD d with
  | none => zT
  | some _ => bT b fun e => lT (fIndex d e)
theorem ne_idx (ha : NE C S ma na) (hb : NE C S mb nb) : NE C S (mIdx ma mb) (nIdx na nb) := ne_bnd ha fun d => by
  cases seqD d with
  | none => exact ne_z
  | some _ => exact ne_bnd hb fun e => ne_l _
def idxT {τ : Type} (b : T τ D) (d : D) : T τ D := match seqD d with
  | none => zT
  | some _ => bT b fun e => lT (fIndex d e)
@[simp] theorem nIdx_ap (a b : T τ D) (t : τ) : nIdx a b t = bR (a t) (idxT b) := rfl
@[simp] theorem idxT_tuple (b : T τ D) (ds : List D) (t : τ) : idxT b (.tuple ds) t = bR (b t) fun e => lT (fIndex (.tuple ds) e) := rfl
@[simp] theorem idxT_list (b : T τ D) (ds : List D) (t : τ) : idxT b (.list ds) t = bR (b t) fun e => lT (fIndex (.list ds) e) := rfl
/-! ### two generators -/
def cmL2 {τ π π1 : Type} (f : D → Option π) (test : π → T τ Bool) (ni1 : π → T τ (List D)) (f1 : D → Option π1) (test1 : π → π1 → T τ Bool) (elt : π → π1 → T τ D) : List D → T τ (List D)
  | [] => pT []
  | x :: xs => match f x with
    | none => zT
    | some p => cT (test p) fun b => match b with
      | true => cT (ni1 p) fun ys => cT (cmL f1 (test1 p) (elt p) ys) fun ds => cT (cmL2 f test ni1 f1 test1 elt xs) fun es => pT (ds ++ es)
      | false => cmL2 f test ni1 f1 test1 elt xs
def nComp2 {τ π π1 : Type} (ni : T τ (List D)) (f : D → Option π) (test : π → T τ Bool) (ni1 : π → T τ (List D)) (f1 : D → Option π1) (test1 : π → π1 → T τ Bool) (elt : π → π1 → T τ D) : T τ (List D) :=
  bT ni fun xs => cT (cmL2 f test ni1 f1 test1 elt xs) fun ds => if ds.length ≤ sizeLine then pT ds else zT
theorem has_back {A : Slots} {vs : List Nat} {t : τ} {ρ : Rho} (g : Has C (A ++ (anyS vs ++ S)) t ρ) (hk : (A.all fun q => vs.contains q.1) = true) (hs : (vs.all fun v => !(C.sl == some v)) = true) : Has C (anyS vs ++ S) t (wipeR ρ vs) := by
  have g' := g.wipe hs
  refine ⟨g'.len, g'.no, g'.tk, fun i hi => ?_⟩
  have q := g'.sp i hi
  rw [sat_any] at q ⊢
  by_cases hc : vs.contains i = true
  · rw [if_pos hc]; exact True.intro
  · rw [if_neg hc] at q ⊢
    have e : sat (A ++ (anyS vs ++ S)) i = sat (anyS vs ++ S) i := sat_app (by
      rw [List.all_eq_true]
      intro z hz
      have := List.all_eq_true.mp hk z hz
      simp only [Bool.not_eq_true', beq_eq_false_iff_ne]
      intro e
      rw [e] at this
      exact hc this)
    rw [e, sat_any, if_neg hc] at q
    exact q
variable {gs gs1 : D → Rho → Option Rho} {f : D → Option π} {f1 : D → Option π1} {Kp : π → Slots} {Kp1 : π → π1 → Slots} {test test1 : M Bool} {elt : M D} {nt : π → T τ Bool} {nt1 : π → π1 → T τ Bool} {ne : π → π1 → T τ D} {vs vs1 : List Nat} {mi mi1 : M (List D)} {ni : T τ (List D)} {ni1 : π → T τ (List D)}
theorem cmL2_ok (hg : NG C (anyS vs ++ S) gs f Kp) (ht : ∀ p, NE C (Kp p ++ (anyS vs ++ S)) test (nt p)) (hi1 : ∀ p, NE C (Kp p ++ (anyS vs ++ S)) mi1 (ni1 p)) (hg1 : ∀ p, NG C (anyS vs1 ++ (Kp p ++ (anyS vs ++ S))) gs1 f1 (Kp1 p))
    (ht1 : ∀ p p1, NE C (Kp1 p p1 ++ (anyS vs1 ++ (Kp p ++ (anyS vs ++ S)))) test1 (nt1 p p1)) (he : ∀ p p1, NE C (Kp1 p p1 ++ (anyS vs1 ++ (Kp p ++ (anyS vs ++ S)))) elt (ne p p1))
    (hk : ∀ p, ((Kp p).all fun q => vs.contains q.1) = true) (hk1 : ∀ p p1, ((Kp1 p p1).all fun q => vs1.contains q.1) = true) (hs : (vs.all fun v => !(C.sl == some v)) = true) (hv : (vs1.all fun v => vs.contains v) = true) :
    ∀ (xs : List D), NE C (anyS vs ++ S) (compL2 gs test mi1 gs1 test1 elt vs vs1 xs) (cmL2 f nt ni1 f1 nt1 ne xs)
  | [] => ne_p []
  | x :: xs => by
    have ih := cmL2_ok hg ht hi1 hg1 ht1 he hk hk1 hs hv xs
    have hs1 : (vs1.all fun v => !(C.sl == some v)) = true := List.all_eq_true.mpr fun v hv' => List.all_eq_true.mp hs v (by have := List.all_eq_true.mp hv v hv'; simpa using this)
    intro t ρ g
    unfold cmL2 compL2
    have q := hg x t ρ g
    cases ef : f x with
    | none => exact True.intro
    | some p =>
      rw [ef] at q
      obtain ⟨ρ1, e1, h1⟩ := q
      have q2 := ht p t ρ1 h1
      simp only [cT]
      cases et : nt p t with
      | exc _ _ => exact True.intro
      | bad => exact True.intro
      | ok b t1 =>
        rw [et] at q2
        obtain ⟨ρ2, e2, h2⟩ := q2
        simp only [e1, e2, cBnd_ok]
        cases b with
        | false => exact ih t1 _ (has_back h2 (hk p) hs)
        | true =>
          have q3 := hi1 p t1 ρ2 h2
          simp only [cT]
          cases ee : ni1 p t1 with
          | exc _ _ => exact True.intro
          | bad => exact True.intro
          | ok ys t2 =>
            rw [ee] at q3
            obtain ⟨ρ3, e3, h3⟩ := q3
            have q4 := cmL_ok (hg1 p) (ht1 p) (he p) (hk1 p) hs1 ys t2 (wipeR ρ3 vs1) (h3.wipe hs1)
            simp only [e3, cBnd_ok]
            cases ec : cmL f1 (nt1 p) (ne p) ys t2 with
            | exc _ _ => exact True.intro
            | bad => exact True.intro
            | ok ds t3 =>
              rw [ec] at q4
              obtain ⟨ρ4, e4, h4⟩ := q4
              rw [← List.append_assoc] at h4
              have q5 := ih t3 _ (has_back h4 (by
                rw [List.all_append, Bool.and_eq_true]
                refine ⟨?_, hk p⟩
                rw [List.all_eq_true]
                intro z hz
                obtain ⟨v, hv', rfl⟩ := List.mem_map.mp hz
                exact List.all_eq_true.mp hv v hv') hs)
              simp only [e4, cBnd_ok]
              cases ec2 : cmL2 f nt ni1 f1 nt1 ne xs t3 with
              | exc _ _ => exact True.intro
              | bad => exact True.intro
              | ok es t4 =>
                rw [ec2] at q5
                obtain ⟨ρ5, e5, h5⟩ := q5
                exact ⟨ρ5, by rw [e5]; rfl, h5⟩
theorem nl_comp2 {k : Nat} (hi : NE C S mi ni) (hg : NG C (anyS vs ++ S) gs f Kp) (ht : ∀ p, NE C (Kp p ++ (anyS vs ++ S)) test (nt p)) (hi1 : ∀ p, NE C (Kp p ++ (anyS vs ++ S)) mi1 (ni1 p)) (hg1 : ∀ p, NG C (anyS vs1 ++ (Kp p ++ (anyS vs ++ S))) gs1 f1 (Kp1 p))
    (ht1 : ∀ p p1, NE C (Kp1 p p1 ++ (anyS vs1 ++ (Kp p ++ (anyS vs ++ S)))) test1 (nt1 p p1)) (he : ∀ p p1, NE C (Kp1 p p1 ++ (anyS vs1 ++ (Kp p ++ (anyS vs ++ S)))) elt (ne p p1))
    (hk : ∀ p, ((Kp p).all fun q => vs.contains q.1) = true := by intro _; rfl) (hk1 : ∀ p p1, ((Kp1 p p1).all fun q => vs1.contains q.1) = true := by intro _ _; rfl) (hs : (vs.all fun v => !(C.sl == some v)) = true := by rfl) (hv : (vs1.all fun v => vs.contains v) = true := by rfl)
    (ho : (vs.all fun v => !(C.O.contains v)) = true := by rfl) (hn : (decide (C.N ≤ k)) = true := by rfl) : NL C S (mComp2 k mi gs test mi1 gs1 test1 elt vs vs1) (nComp2 ni f nt ni1 f1 nt1 ne) := by
  refine nl_of hi fun xs => ?_
  intro t ρ g
  have cond : noOwn ρ vs = true ∧ ρ.length ≤ k := by
    refine ⟨?_, by rw [g.len]; exact of_decide_eq_true hn⟩
    unfold noOwn
    rw [List.all_eq_true]
    intro v hv
    have := List.all_eq_true.mp ho v hv
    simp only [Bool.not_eq_true'] at this
    have q := g.no v this
    split
    · rename_i o e; exact absurd e (q o)
    · rfl
  have q := cmL2_ok hg ht hi1 hg1 ht1 he hk hk1 hs hv xs t (wipeR ρ vs) (g.wipe hs)
  unfold oL
  simp only [bT_ap, cT, if_pos cond]
  cases ec : cmL2 f nt ni1 f1 nt1 ne xs t with
  | exc x t' => exact True.intro
  | bad => exact True.intro
  | ok ds t' =>
    rw [ec] at q
    obtain ⟨ρ', e', h'⟩ := q
    simp only [e', cBnd_ok]
    by_cases hl : ds.length ≤ sizeLine
    · simp only [if_pos hl, pT_ap, bR_ok]
      exact ⟨unw ρ vs ρ', rfl, g.unw h' hs⟩
    · simp only [if_neg hl]; exact True.intro
/-- what two generators give -/
theorem cmL2_pure {γ : Type} {e : α → D} {e1 : γ → D} {test : π → T τ Bool} {test1 : π → π1 → T τ Bool} {elt : π → π1 → T τ D} {t : τ} (c : α → Bool) (z : α → List γ) (c1 : α → γ → Bool) (h : α → γ → D) : ∀ (ys : List α), (∀ y ∈ ys, ∃ p, f (e y) = some p ∧ test p t = .ok (c y) t ∧ (c y = true → ni1 p t = .ok ((z y).map e1) t ∧ ∀ w ∈ z y, ∃ p1, f1 (e1 w) = some p1 ∧ test1 p p1 t = .ok (c1 y w) t ∧ (c1 y w = true → elt p p1 t = .ok (h y w) t))) →
    cmL2 f test ni1 f1 test1 elt (ys.map e) t = .ok ((ys.filter c).flatMap fun y => ((z y).filter (c1 y)).map (h y)) t
  | [], _ => rfl
  | y :: ys, st => by
    obtain ⟨p, a1, a2, a3⟩ := st y List.mem_cons_self
    have ih := cmL2_pure c z c1 h ys fun z hz => st z (List.mem_cons_of_mem _ hz)
    rw [List.map_cons, cmL2, a1]
    simp only [cT, a2]
    cases q : c y with
    | true =>
      obtain ⟨b1, b2⟩ := a3 q
      have b3 := cmL_pure (c1 y) (h y) (z y) b2
      simp only [cT, b1, b3, ih, pT_ap, List.filter_cons, q, if_true, List.flatMap_cons]
    | false => simp only [ih, List.filter_cons, q]; rfl
theorem nComp2_pure {γ : Type} {e : α → D} {e1 : γ → D} {test : π → T τ Bool} {test1 : π → π1 → T τ Bool} {elt : π → π1 → T τ D} {t : τ} (c : α → Bool) (z : α → List γ) (c1 : α → γ → Bool) (h : α → γ → D) (ys : List α) (hi : ni t = .ok (ys.map e) t) (hl : ((ys.filter c).flatMap fun y => ((z y).filter (c1 y)).map (h y)).length ≤ sizeLine)
    (st : ∀ y ∈ ys, ∃ p, f (e y) = some p ∧ test p t = .ok (c y) t ∧ (c y = true → ni1 p t = .ok ((z y).map e1) t ∧ ∀ w ∈ z y, ∃ p1, f1 (e1 w) = some p1 ∧ test1 p p1 t = .ok (c1 y w) t ∧ (c1 y w = true → elt p p1 t = .ok (h y w) t))) :
    nComp2 ni f test ni1 f1 test1 elt t = .ok ((ys.filter c).flatMap fun y => ((z y).filter (c1 y)).map (h y)) t := by
  unfold nComp2
  rw [bT_ap, hi, bR_ok]
  simp only [cT, cmL2_pure c z c1 h ys st, if_pos hl, pT_ap]
end
end NX

set_option maxHeartbeats 1000000
namespace NX
open PySem PySem.Spec PyProof.Rows L2 DX
section
variable {τ : Type} {C : Ctx τ} {S : Slots} {ma : M D} {na : T τ D}
/-! ### list(range(n)) -/
def rgL : D → Option (List D)
  | .int n => if (decide (0 ≤ n) && Nat.ble n.toNat 16777216) = true then some (rangeD 0 n.toNat) else none
  | _ => none
theorem rgL_eq (d : D) : fRgL d = (rgL d).map .lst := by
  cases d with
  | int n =>
    show (if 0 ≤ n ∧ n ≤ 16777216 then _ else _) = Option.map _ (if _ then _ else _)
    have : (decide (0 ≤ n) && Nat.ble n.toNat 16777216) = decide (0 ≤ n ∧ n ≤ 16777216) := by
      rw [Bool.eq_iff_iff]
      simp only [Bool.and_eq_true, decide_eq_true_eq, Nat.ble_eq]
      omega
    rw [this]
    by_cases h : 0 ≤ n ∧ n ≤ 16777216
    · rw [if_pos h, if_pos (decide_eq_true h)]; rfl
    · rw [if_neg h, if_neg (by simpa using h)]; rfl
  | _ => rfl
def nRgL {τ : Type} (a : T τ D) : T τ (List D) := bT a fun d => lT (rgL d)
theorem nl_rgL (h : NE C S ma na) : NL C S (mUnL fRgL ma) (nRgL na) := nl_of h fun _ => nl_l (rgL_eq _)
@[simp] theorem nRgL_ap (a : T τ D) (t : τ) : nRgL a t = bR (a t) fun d => lT (rgL d) := rfl
end
end NX

set_option maxHeartbeats 1000000
namespace LB
open PySem PySem.Spec PyProof.Rows L2 DX
def fuel : Nat := 100000
def m__law_town : M Ob := (mBinL fCat (mLd (mLst (mCons (mC (.int 0)) mNil))) (mLd (mAppL fList (mCons (mVar 0) mNil))))
def fn__law_town : List D → FRL := runL 1 m__law_town
def m__law_draw : MS := (sSeq (sPutO 1 (mC (.int 0)) (mBin fAdd (mIxO 1 (mC (.int 0))) (mC (.int 1))))
    (sSeq (sIf (asB (mBin fEq (mVar 0) (mLd (mLst mNil)))) (sRet (mBin fMod (mBin fDiv (mBin fMul (mBin fMul (mIxO 1 (mC (.int 0))) (mIxO 1 (mC (.int 0)))) (mC (.int 7))) (mC (.int 3))) (mVar 2))) sNext)
    (sSeq (sSet 3 (mBin fMod (mIxO 1 (mC (.int 0))) (mApp fLen (mCons (mVar 0) mNil))))
    (sSeq (sSet 4 (mIxO 1 (mBin fAdd (mC (.int 1)) (mVar 3))))
    (sSeq (sIf (tAndM (asB (mBin fGe (mBin fIx (mVar 0) (mVar 3)) (mBin fPow (mC (.int 10)) (mC (.int 18))))) (asB (mBin fGt (mVar 4) (mC (.int 0))))) (sSeq (sPutO 1 (mBin fAdd (mC (.int 1)) (mVar 3)) (mBin fDiv (mVar 4) (mVar 2)))
    (sRet (mBin fMod (mVar 4) (mVar 2)))) sNext)
    (sSeq (sSet 5 (mBin fMod (mBin fAdd (mBin fIx (mVar 0) (mVar 3)) (mBin fMul (mC (.int 104729)) (mIxO 1 (mC (.int 0))))) (mC (.int 4294967291))))
    (sSeq (sSet 5 (mBin fMod (mBin fPow (mVar 5) (mC (.int 5))) (mC (.int 4294967279))))
    (sRet (mBin fMod (mBin fDiv (mBin fMod (mBin fAdd (mBin fMul (mBin fDiv (mVar 5) (mC (.int 64))) (mC (.int 69621))) (mVar 5)) (mC (.int 4294967231))) (mC (.int 8))) (mVar 2))))))))))
def fn__law_draw : D → List D → List D → FRT := runT 6 m__law_draw
def m__law_pick : MS := (sRet (mBin fIx (mVar 2) (mCallT 3 fn__law_draw (mVar 0) 1 (mCons (mApp fLen (mCons (mVar 2) mNil)) mNil))))
def fn__law_pick : D → List D → List D → FRT := runT 3 m__law_pick
/-! ### draws -/
/-- the town: a count, then what is left of each number of the script -/
def Town (ns : List Int) (b : Nat) (ts : List D) : Prop := ∃ (c : Nat) (ls : List Int), ts = .int c :: ls.map .int ∧ c ≤ b ∧ ls.length = ns.length
theorem Town.mono {ns : List Int} {b b' : Nat} {ts : List D} (h : Town ns b ts) (hb : b ≤ b') : Town ns b' ts := by
  obtain ⟨c, ls, e, h1, h2⟩ := h
  exact ⟨c, ls, e, by omega, h2⟩
theorem town_ok (ns : List Int) (h : ns.length ≤ 63) : ∃ ts, fn__law_town [.list (ns.map .int)] = .ok (.lst ts) ∧ Town ns 0 ts := by
  refine ⟨.int 0 :: ns.map .int, ?_, 0, ns, rfl, Nat.le_refl _, rfl⟩
  have h1 : 1 + ns.length ≤ 16777216 := by omega
  simp [fn__law_town, runL_eq, m__law_town, rho0, fList, fCat, Ob.d, h1]
theorem draw_ok {ns : List Int} {b : Nat} {ts : List D} (h : Town ns b ts) (hb : b < 2 ^ 60) (lim : Int) (h0 : 0 < lim) (h1 : lim < 2 ^ 30) :
    ∃ (r : Int) (ts' : List D), fn__law_draw (.list (ns.map .int)) ts [.int lim] = .ok (.int r) ts' ∧ 0 ≤ r ∧ r < lim ∧ Town ns (b + 1) ts' := by
  obtain ⟨c, ls, rfl, hc, hl⟩ := h
  have bnd : ∀ x : Int, 0 ≤ x % lim ∧ x % lim < lim := fun x => ⟨Int.emod_nonneg _ (by omega), Int.emod_lt_of_pos _ h0⟩
  have m1 : fMul (.int ((c : Int) + 1)) (.int ((c : Int) + 1)) = some (.int (((c : Int) + 1) * ((c : Int) + 1))) := fMul_ok (.inl ⟨by omega, by omega⟩)
  have m2 : ∀ x : Int, fMul (.int x) (.int 7) = some (.int (x * 7)) := fun x => fMul_ok (.inr ⟨by decide, by decide⟩)
  have d3 : ∀ x : Int, fDiv (.int x) (.int 3) = some (.int (x / 3)) := fun x => fDiv_ok ⟨by decide, by decide⟩
  have ml : ∀ x : Int, fMod (.int x) (.int lim) = some (.int (x % lim)) := fun x => fMod_ok h0
  have dl : ∀ x : Int, fDiv (.int x) (.int lim) = some (.int (x / lim)) := fun x => fDiv_ok ⟨h0, by omega⟩
  by_cases hn : ns = []
  · refine ⟨((c : Int) + 1) * ((c : Int) + 1) * 7 / 3 % lim, .int ((c : Int) + 1) :: ls.map .int, ?_, (bnd _).1, (bnd _).2, c + 1, ls, by simp, by omega, hl⟩
    have e := fEq_nil ns
    rw [decide_eq_true hn] at e
    simp [fn__law_draw, runT_eq, m__law_draw, rhoT, ixN, e, m1, m2, d3, ml]
  · have e := fEq_nil ns
    rw [decide_eq_false hn] at e
    have hpos : 0 < ns.length := by cases ns with | nil => exact absurd rfl hn | cons _ _ => simp
    obtain ⟨k, hk, hkl⟩ : ∃ k : Nat, ((c : Int) + 1) % (ns.length : Int) = (k : Int) ∧ k < ns.length := by
      refine ⟨(((c : Int) + 1) % (ns.length : Int)).toNat, ?_, ?_⟩
      · rw [Int.toNat_of_nonneg (Int.emod_nonneg _ (by omega))]
      · have := Int.emod_lt_of_pos ((c : Int) + 1) (show (0 : Int) < ns.length by omega)
        have := Int.emod_nonneg ((c : Int) + 1) (show (ns.length : Int) ≠ 0 by omega)
        omega
    have mn : fMod (.int ((c : Int) + 1)) (.int (ns.length : Int)) = some (.int (k : Int)) := by rw [fMod_ok (by omega), hk]
    have a1 : atI (PyData.int ((c : Int) + 1) :: ls.map PyData.int) (1 + (k : Int)) = some (.int (ls[k]'(by omega))) := by
      rw [show (1 + (k : Int)) = ((k + 1 : Nat) : Int) by omega, DX.atI_nat]
      simp [List.getElem?_eq_getElem (show k < ls.length by omega)]
    have a2 : atI (ns.map PyData.int) (k : Int) = some (.int ns[k]) := by
      rw [DX.atI_nat]; simp [List.getElem?_eq_getElem hkl]
    have i1 : ixN (ls.length + 1) (1 + (k : Int)) = some (k + 1) := by
      rw [show (1 + (k : Int)) = ((k + 1 : Nat) : Int) by omega, ixN_nat (by omega)]
    have p1 : fPow (.int 10) (.int 18) = some (.int 1000000000000000000) := by rw [fPow_ok ⟨by decide, by decide, by decide⟩]; rfl
    generalize hx : ls[k]'(by omega) = x at a1
    generalize hy : ns[k] = y at a2
    by_cases hbig : (1000000000000000000 : Int) ≤ y ∧ 0 < x
    · refine ⟨x % lim, .int ((c : Int) + 1) :: (ls.set k (x / lim)).map .int, ?_, (bnd _).1, (bnd _).2, c + 1, ls.set k (x / lim), by simp, by omega, by simpa using hl⟩
      simp [fn__law_draw, runT_eq, m__law_draw, rhoT, ixN_nat, e, mn, a1, a2, p1, hbig.1, hbig.2, dl, i1, ml, show ixN (ls.length + 1) 0 = some 0 from ixN_nat (k := 0) (by omega), List.map_set]
    · refine ⟨((((((y + 104729 * ((c : Int) + 1)) % 4294967291) ^ 5 % 4294967279) / 64 * 69621 + ((y + 104729 * ((c : Int) + 1)) % 4294967291) ^ 5 % 4294967279) % 4294967231) / 8) % lim, .int ((c : Int) + 1) :: ls.map .int, ?_, (bnd _).1, (bnd _).2, c + 1, ls, by simp, by omega, hl⟩
      · have t1 : (kTAnd (kAsB (lft (fGe (.int y) (.int 1000000000000000000)) [Cell.val (PyData.list (ns.map PyData.int)), Cell.own (Ob.lst (PyData.int ((c : Int) + 1) :: ls.map PyData.int)), Cell.val (PyData.int lim), Cell.val (PyData.int k), Cell.val (PyData.int x), Cell.no])) (asB (mBin fGt (mVar 4) (mC (.int 0))))) = .ok false [Cell.val (PyData.list (ns.map PyData.int)), Cell.own (Ob.lst (PyData.int ((c : Int) + 1) :: ls.map PyData.int)), Cell.val (PyData.int lim), Cell.val (PyData.int k), Cell.val (PyData.int x), Cell.no] := by
          by_cases h2 : (1000000000000000000 : Int) ≤ y
          · have h3 : ¬ 0 < x := fun z => hbig ⟨h2, z⟩
            simp [h2, h3]
          · simp [h2]
        have m4 : fMul (.int 104729) (.int ((c : Int) + 1)) = some (.int (104729 * ((c : Int) + 1))) := fMul_ok (.inl ⟨by decide, by decide⟩)
        have r1 : ∀ z : Int, fMod (.int z) (.int 4294967291) = some (.int (z % 4294967291)) := fun z => fMod_ok (by decide)
        have r2 : ∀ z : Int, fMod (.int z) (.int 4294967279) = some (.int (z % 4294967279)) := fun z => fMod_ok (by decide)
        have r3 : ∀ z : Int, fMod (.int z) (.int 4294967231) = some (.int (z % 4294967231)) := fun z => fMod_ok (by decide)
        have r4 : ∀ z : Int, fDiv (.int z) (.int 64) = some (.int (z / 64)) := fun z => fDiv_ok ⟨by decide, by decide⟩
        have r5 : ∀ z : Int, fDiv (.int z) (.int 8) = some (.int (z / 8)) := fun z => fDiv_ok ⟨by decide, by decide⟩
        have r6 : ∀ z : Int, fMul (.int z) (.int 69621) = some (.int (z * 69621)) := fun z => fMul_ok (.inr ⟨by decide, by decide⟩)
        have p5 : fPow (.int ((y + 104729 * ((c : Int) + 1)) % 4294967291)) (.int 5) = some (.int (((y + 104729 * ((c : Int) + 1)) % 4294967291) ^ 5)) := by
          refine fPow_ok ⟨by decide, by decide, ?_⟩
          have u1 := Int.emod_nonneg (y + 104729 * ((c : Int) + 1)) (show (4294967291 : Int) ≠ 0 by decide)
          have u2 := Int.emod_lt_of_pos (y + 104729 * ((c : Int) + 1)) (show (0 : Int) < 4294967291 by decide)
          omega
        simp [fn__law_draw, runT_eq, m__law_draw, rhoT, e, mn, a1, a2, p1, ml, show ixN (ls.length + 1) 0 = some 0 from ixN_nat (k := 0) (by omega), -fGe_int, t1, m4, r1, r2, r3, r4, r5, r6, p5]
theorem draw_nat {ns : List Int} {b : Nat} {ts : List D} (h : Town ns b ts) (hb : b < 2 ^ 60) (lim : Nat) (h0 : 0 < lim) (h1 : lim < 2 ^ 30) :
    ∃ (r : Nat) (ts' : List D), fn__law_draw (.list (ns.map .int)) ts [.int lim] = .ok (.int r) ts' ∧ r < lim ∧ Town ns (b + 1) ts' := by
  obtain ⟨r, ts', e, g0, g1, t⟩ := draw_ok h hb lim (by omega) (by omega)
  refine ⟨r.toNat, ts', ?_, by omega, t⟩
  rw [e, Int.toNat_of_nonneg g0]
theorem pick_ok {ns : List Int} {b : Nat} {ts : List D} (h : Town ns b ts) (hb : b < 2 ^ 60) (cs : List D) (h0 : 0 < cs.length) (h1 : cs.length < 2 ^ 30) :
    ∃ (d : D) (ts' : List D), fn__law_pick (.list (ns.map .int)) ts [.list cs] = .ok d ts' ∧ d ∈ cs ∧ Town ns (b + 1) ts' := by
  obtain ⟨r, ts', e, g1, t⟩ := draw_nat h hb cs.length h0 h1
  refine ⟨cs[r], ts', ?_, List.getElem_mem _, t⟩
  have a : atI cs (r : Int) = some cs[r] := by rw [DX.atI_nat, List.getElem?_eq_getElem g1]
  simp [fn__law_pick, runT_eq, m__law_pick, rhoT, e, a]
end LB

set_option maxHeartbeats 1000000
namespace LB
open PySem PySem.Spec PyProof.Rows L2 DX NX
def m_is_between : MS := (sRet (mAndV (mIsi "int" (mVar 0)) (mAndV (mNotV (mIsi "bool" (mVar 0))) (mChain fLe fLe (mVar 1) (mVar 0) (mVar 2)))))
def fn_is_between : List D → FR := runF 3 m_is_between
def c1_is_pair : M Ob := mComp 3 (iSeq (mVar 1)) (gSet 2) tYesM (mCall 3 fn_is_between (mCons (mVar 2) (mCons (mC (.int 0)) (mCons (mBin fSub (mVar 0) (mC (.int 1))) mNil)))) [2]
def m_is_pair : MS := (sRet (mAndV (mIsi "tuple" (mVar 1)) (mAndV (mBin fEq (mApp fLen (mCons (mVar 1) mNil)) (mC (.int 2))) (mApp fAll (mCons (mLd c1_is_pair) mNil)))))
def fn_is_pair : List D → FR := runF 3 m_is_pair
def c1_is_ascending : M Ob := mComp 2 (iRange1 (mCons (mBin fSub (mApp fLen (mCons (mVar 0) mNil)) (mC (.int 1))) mNil)) (gSet 1) tYesM (mBin fLt (mBin fIx (mVar 0) (mVar 1)) (mBin fIx (mVar 0) (mBin fAdd (mVar 1) (mC (.int 1))))) [1]
def m_is_ascending : MS := (sRet (mApp fAll (mCons (mLd c1_is_ascending) mNil)))
def fn_is_ascending : List D → FR := runF 2 m_is_ascending
def c1_is_closed : M Ob := mComp 7 (iSeq (mVar 0)) (gSet 2) tYesM (mTup (mCons (mVar 2) (mCons (mC (.bool true)) mNil))) [2]
def b1_is_closed : MS := (sIf (tAndM (asB (mBin fEq (mVar 4) (mVar 5))) (asB (mInT true (mTup (mCons (mVar 3) (mCons (mVar 6) mNil))) 1))) (sRet (mC (.bool false))) sNext)
def l1_is_closed : MS := sFor (iSeq (mVar 0)) (gTupD (gsCons (gSet 5) (gsCons (gSet 6) gsNil))) b1_is_closed
def b2_is_closed : MS := (sSeq (sIf (asB (mBin fEq (mVar 3) (mVar 4))) (sRet (mC (.bool false))) sNext)
    l1_is_closed)
def l2_is_closed : MS := sFor (iSeq (mVar 0)) (gTupD (gsCons (gSet 3) (gsCons (gSet 4) gsNil))) b2_is_closed
def m_is_closed : MS := (sSeq (sSetL 1 (mAppL fDictT (mCons (mLd c1_is_closed) mNil)))
    (sSeq l2_is_closed
    (sRet (mC (.bool true)))))
def fn_is_closed : List D → FR := runF 7 m_is_closed
def c1_is_order : M Ob := mComp 4 (iSeq (mVar 2)) (gSet 3) tYesM (mCall 2 fn_is_pair (mCons (mVar 1) (mCons (mVar 3) mNil))) [3]
def m_is_order : MS := (sSeq (sIf (tOrM (tNotM (asB (mIsi "tuple" (mVar 0)))) (tOrM (asB (mBin fNe (mApp fLen (mCons (mVar 0) mNil)) (mC (.int 2)))) (tNotM (asB (mCall 3 fn_is_between (mCons (mBin fIx (mVar 0) (mC (.int 0))) (mCons (mC (.int 1)) (mCons (mC (.int 8)) mNil)))))))) (sRet (mC (.bool false))) sNext)
    (sSeq (sUnp (mVar 0) (gTupD (gsCons (gSet 1) (gsCons (gSet 2) gsNil))))
    (sSeq (sIf (tOrM (tNotM (asB (mIsi "tuple" (mVar 2)))) (tNotM (asB (mApp fAll (mCons (mLd c1_is_order) mNil))))) (sRet (mC (.bool false))) sNext)
    (sRet (mAndV (mCall 1 fn_is_ascending (mCons (mVar 2) mNil)) (mCall 1 fn_is_closed (mCons (mVar 2) mNil)))))))
def fn_is_order : List D → FR := runF 4 m_is_order
def m_check_order : MS := (sIf (tNotM (asB (mCall 1 fn_is_order (mCons (mVar 0) mNil)))) (sRaise "InvalidOrder") sNext)
def fn_check_order : List D → FR := runF 1 m_check_order
/-! ### orders as data -/
abbrev pD (p : Nat × Nat) : D := .tuple [.int p.1, .int p.2]
abbrev psD (ps : List (Nat × Nat)) : D := .tuple (ps.map pD)
abbrev oD (n : Nat) (ps : List (Nat × Nat)) : D := .tuple [.int n, psD ps]
theorem sh_pD (p : Nat × Nat) : Sh 1 (pD p) := sh_tuple fun d hd => by
  rcases List.mem_cons.mp hd with rfl | hd
  · exact sh_int
  · rcases List.mem_cons.mp hd with rfl | hd
    · exact sh_int
    · cases hd
theorem sh_psD (ps : List (Nat × Nat)) : Sh 2 (psD ps) := sh_tuple fun d hd => by
  obtain ⟨p, _, rfl⟩ := List.mem_map.mp hd
  exact sh_pD p
theorem sh_oD (n : Nat) (ps : List (Nat × Nat)) : Sh 3 (oD n ps) := sh_tuple fun d hd => by
  rcases List.mem_cons.mp hd with rfl | hd
  · exact sh_int
  · rcases List.mem_cons.mp hd with rfl | hd
    · exact sh_psD ps
    · cases hd
theorem eqv_pD (a b : Nat × Nat) : PyData.eqv (pD a) (pD b) = decide (a = b) := by
  obtain ⟨a1, a2⟩ := a
  obtain ⟨b1, b2⟩ := b
  by_cases h1 : a1 = b1 <;> by_cases h2 : a2 = b2 <;> simp [h1, h2] <;> omega
theorem eqv_psD (a b : List (Nat × Nat)) : PyData.eqv (psD a) (psD b) = decide (a = b) := by
  rw [eqv_tuple, eqvAll_map eqv_pD]
theorem any_pD (ps : List (Nat × Nat)) (p : Nat × Nat) : ((ps.map pD).any fun z => PyData.eqv z (pD p)) = decide (p ∈ ps) := by
  rw [List.any_map]
  have : ((fun z => PyData.eqv z (pD p)) ∘ pD) = fun q => decide (q = p) := by funext q; exact eqv_pD q p
  rw [this]
  by_cases h : p ∈ ps
  · rw [decide_eq_true h, List.any_eq_true]; exact ⟨p, h, by simp⟩
  · rw [decide_eq_false h, List.any_eq_false]; intro q hq; simp; rintro rfl; exact h hq
theorem between_ok (i lo hi : Int) : fn_is_between [.int i, .int lo, .int hi] = .ok (.bool (decide (lo ≤ i) && decide (i ≤ hi))) := by
  by_cases h : lo ≤ i <;> simp [fn_is_between, runF_eq, m_is_between, rho0, h]
theorem pair_ok (n : Nat) (p : Nat × Nat) : fn_is_pair [.int n, pD p] = .ok (.bool (decide (p.1 < n) && decide (p.2 < n))) := by
  have hc : c1_is_pair [.val (.int n), .val (pD p), .no] = .ok (.lst ([p.1, p.2].map fun i => .bool (decide (i < n)))) [.val (.int n), .val (pD p), .no] := by
    refine mComp_map (e := fun i : Nat => .int i) [p.1, p.2] (by simp) rfl (by simp) (by simp) fun y hy => ⟨_, rfl, rfl, ?_⟩
    simp [wipeR, between_ok]
    omega
  simp only [List.map_cons, List.map_nil] at hc
  simp [fn_is_pair, runF_eq, m_is_pair, rho0, hc, fAll, boolsOf]
def plt (p q : Nat × Nat) : Bool := if p.1 = q.1 then decide (p.2 < q.2) else decide (p.1 < q.1)
def ascB (ps : List (Nat × Nat)) : Bool := (List.range (ps.length - 1)).all fun k => plt (ps.getD k (0, 0)) (ps.getD (k + 1) (0, 0))
theorem lt_pD (p q : Nat × Nat) : fLt (pD p) (pD q) = some (.bool (plt p q)) := by
  have e : fLt (pD p) (pD q) = some (.bool (HT.lexLt [(p.1 : Int), (p.2 : Int)] [(q.1 : Int), (q.2 : Int)])) := rfl
  rw [e]
  by_cases h1 : p.1 = q.1
  · simp [HT.lexLt, plt, h1]; try omega
  · have : ¬ (p.1 : Int) = (q.1 : Int) := by omega
    simp [HT.lexLt, plt, h1, this]
theorem at_ps {ps : List (Nat × Nat)} {k : Nat} (h : k < ps.length) : atI (ps.map pD) (k : Int) = some (pD (ps.getD k (0, 0))) := by
  rw [DX.atI_nat, List.getElem?_map, List.getElem?_eq_getElem h, List.getD_eq_getElem?_getD, List.getElem?_eq_getElem h]; rfl
theorem ascending_ok (ps : List (Nat × Nat)) (hl : ps.length ≤ 1000) : fn_is_ascending [psD ps] = .ok (.bool (ascB ps)) := by
  have hc : c1_is_ascending [.val (psD ps), .no] = .ok (.lst ((List.range (ps.length - 1)).map fun k => .bool (plt (ps.getD k (0, 0)) (ps.getD (k + 1) (0, 0))))) [.val (psD ps), .no] := by
    refine mComp_map (e := fun i : Nat => .int i) (List.range (ps.length - 1)) ?_ rfl (by simp; omega) (by simp) fun k hk => ⟨_, rfl, rfl, ?_⟩
    · simp
      by_cases h0 : ps.length = 0
      · simp [h0]; rfl
      · rw [show (ps.length : Int) - 1 = ((ps.length - 1 : Nat) : Int) by omega, rng1_nat _ (by omega)]; rfl
    · have hk' : k < ps.length - 1 := List.mem_range.mp hk
      have e1 := at_ps (ps := ps) (k := k) (by omega)
      have e2 := at_ps (ps := ps) (k := k + 1) (by omega)
      rw [show ((k + 1 : Nat) : Int) = (k : Int) + 1 by omega] at e2
      simp [wipeR, e1, e2, lt_pD]
  simp [fn_is_ascending, runF_eq, m_is_ascending, rho0, hc]
  rfl

/-! closed -/
theorem lookT_put (kvs : List (List Int × D)) (k k' : List Int) (v : D) : (lookT (putT kvs k v) k').isSome = (decide (k' = k) || (lookT kvs k').isSome) := by
  have key : ∀ (l : List (List Int × D)) (a : List Int), (lookT l a).isSome = l.any fun p => decide (p.1 = a) := fun l a => by
    unfold lookT
    induction l with
    | nil => rfl
    | cons x xs ih => by_cases h : x.1 = a <;> simp_all [List.find?_cons]
  unfold putT
  split
  · rename_i h
    rw [key] at h
    rw [key, key, List.any_map]
    have e : ((fun p : List Int × D => decide (p.1 = k')) ∘ fun p => if p.1 = k then (p.1, v) else p) = fun p => decide (p.1 = k') := by
      funext p; simp only [Function.comp]; split <;> rfl
    rw [e]
    by_cases hk : k' = k
    · subst hk; simp [h]
    · simp [hk]
  · rw [key, key, List.any_append]
    by_cases hk : k' = k
    · subst hk; simp
    · have : ¬ k = k' := fun z => hk z.symm
      simp [hk, this]
theorem lookT_merge (kvs : List (List Int × D)) (k : List Int) : (lookT (mergeT kvs) k).isSome = kvs.any fun p => decide (p.1 = k) := by
  have g : ∀ (l acc : List (List Int × D)), (lookT (l.foldl (fun a p => putT a p.1 p.2) acc) k).isSome = ((l.any fun p => decide (p.1 = k)) || (lookT acc k).isSome) := fun l => by
    induction l with
    | nil => intro acc; simp
    | cons x xs ih =>
      intro acc
      rw [List.foldl_cons, ih, lookT_put, List.any_cons]
      have : decide (k = x.1) = decide (x.1 = k) := by by_cases h : k = x.1 <;> simp [h, eq_comm]
      rw [this]
      cases decide (x.1 = k) <;> cases (xs.any fun p => decide (p.1 = k)) <;> simp
  unfold mergeT
  rw [g]
  simp [lookT]
theorem pairsT_map (ps : List (Nat × Nat)) (v : D) : pairsT (ps.map fun p => .tuple [pD p, v]) = some (ps.map fun p => ([(p.1 : Int), (p.2 : Int)], v)) := by
  induction ps with
  | nil => rfl
  | cons p r ih => rw [List.map_cons, pairsT, ih]; rfl
theorem look_ps (ps : List (Nat × Nat)) (v : D) (a b : Nat) : (lookT (mergeT (ps.map fun p => ([(p.1 : Int), (p.2 : Int)], v))) [(a : Int), (b : Int)]).isSome = decide ((a, b) ∈ ps) := by
  rw [lookT_merge, List.any_map]
  by_cases h : (a, b) ∈ ps
  · rw [decide_eq_true h, List.any_eq_true]; exact ⟨_, h, by simp⟩
  · rw [decide_eq_false h, List.any_eq_false]
    rintro ⟨c, d⟩ hq
    simp only [Function.comp, decide_eq_true_eq, List.cons.injEq, and_true]
    rintro ⟨h1, h2⟩
    apply h
    have e1 : c = a := by omega
    have e2 : d = b := by omega
    rw [← e1, ← e2]; exact hq
def closB (ps : List (Nat × Nat)) : Bool := !(ps.any fun p => decide (p.1 = p.2) || ps.any fun q => decide (p.2 = q.1) && !decide ((p.1, q.2) ∈ ps))
theorem closed_ok (ps : List (Nat × Nat)) (hl : ps.length ≤ 1000) : fn_is_closed [psD ps] = .ok (.bool (closB ps)) := by
  have hc : c1_is_closed [.val (psD ps), .no, .no, .no, .no, .no, .no] = .ok (.lst (ps.map fun p => .tuple [pD p, .bool true])) [.val (psD ps), .no, .no, .no, .no, .no, .no] :=
    mComp_map (e := pD) ps (by simp) rfl (by simp; omega) (by simp) fun p hp => ⟨_, rfl, rfl, by simp [wipeR]⟩
  have hd : fDictT [.list (ps.map fun p => .tuple [pD p, .bool true])] = some (.dT (mergeT (ps.map fun p => ([(p.1 : Int), (p.2 : Int)], .bool true)))) := by
    show (pairsT _).map _ = _
    rw [pairsT_map]; rfl
  generalize hm : mergeT (ps.map fun p => ([(p.1 : Int), (p.2 : Int)], PyData.bool true)) = kvs at hd
  have hlk : ∀ a b : Nat, (lookT kvs [(a : Int), (b : Int)]).isSome = decide ((a, b) ∈ ps) := fun a b => by rw [← hm]; exact look_ps ps _ a b
  let I1 : Nat × Nat → Rho → Prop := fun p ρ => ∃ c5 c6, ρ = [.val (psD ps), .own (.dT kvs), .no, .val (.int p.1), .val (.int p.2), c5, c6]
  let I2 : Rho → Prop := fun ρ => ∃ c3 c4 c5 c6, ρ = [.val (psD ps), .own (.dT kvs), .no, c3, c4, c5, c6]
  have inner : ∀ (p : Nat × Nat) (ρ : Rho), I1 p ρ → _ := fun p ρ h0 => forL_any (gs := gTupD (gsCons (gSet 5) (gsCons (gSet 6) gsNil))) (body := b1_is_closed) (e := pD) (fun q : Nat × Nat => decide (p.2 = q.1) && !decide ((p.1, q.2) ∈ ps)) (.bool false) (I1 p) ps ρ h0 (by
    rintro q hq ρ ⟨c5, c6, rfl⟩
    refine ⟨_, rfl, ?_, ?_⟩
    · intro hp
      simp only [Bool.and_eq_true, decide_eq_true_eq, Bool.not_eq_true', decide_eq_false_iff_not] at hp
      exact ⟨_, by simp [b1_is_closed, hlk, hp.1, hp.2]; rfl⟩
    · intro hp
      refine ⟨[.val (psD ps), .own (.dT kvs), .no, .val (.int p.1), .val (.int p.2), .val (.int q.1), .val (.int q.2)], .inl ?_, _, _, rfl⟩
      by_cases h1 : p.2 = q.1
      · have h2 : (p.1, q.2) ∈ ps := by simpa [h1] using hp
        simp [b1_is_closed, hlk, h1, h2]
      · have h3 : ¬ (p.2 : Int) = (q.1 : Int) := by omega
        simp [b1_is_closed, h3])
  have outer := forL_any (gs := gTupD (gsCons (gSet 3) (gsCons (gSet 4) gsNil))) (body := b2_is_closed) (e := pD) (fun p : Nat × Nat => decide (p.1 = p.2) || ps.any fun q => decide (p.2 = q.1) && !decide ((p.1, q.2) ∈ ps)) (.bool false) I2 ps [.val (psD ps), .own (.dT kvs), .no, .no, .no, .no, .no] ⟨_, _, _, _, rfl⟩ (by
    rintro p hp ρ ⟨c3, c4, c5, c6, rfl⟩
    refine ⟨_, rfl, ?_, ?_⟩
    · intro h
      by_cases h1 : p.1 = p.2
      · exact ⟨_, by simp [b2_is_closed, h1]; rfl⟩
      · have h2 : ¬ (p.1 : Int) = (p.2 : Int) := by omega
        have h3 := (inner p _ ⟨c5, c6, rfl⟩).1 (by simpa [h1] using h)
        obtain ⟨ρ', e'⟩ := h3
        exact ⟨ρ', by simp [b2_is_closed, h2, l1_is_closed]; exact e'⟩
    · intro h
      rw [Bool.or_eq_false_iff] at h
      have h1 : ¬ p.1 = p.2 := by simpa using h.1
      have h2 : ¬ (p.1 : Int) = (p.2 : Int) := by omega
      obtain ⟨ρ', e', c5', c6', rfl⟩ := (inner p _ ⟨c5, c6, rfl⟩).2 h.2
      exact ⟨_, .inl (by simp [b2_is_closed, h2, l1_is_closed]; exact e'), _, _, _, _, rfl⟩)
  have start : fn_is_closed [psD ps] = outF (thn2 (forL (gTupD (gsCons (gSet 3) (gsCons (gSet 4) gsNil))) b2_is_closed (ps.map pD) [.val (psD ps), .own (.dT kvs), .no, .no, .no, .no, .no]) (sRet (mC (.bool true)))) := by
    simp [fn_is_closed, runF_eq, m_is_closed, rho0, hc, hd, l2_is_closed]
  rw [start]
  unfold closB
  cases h : ps.any fun p : Nat × Nat => decide (p.1 = p.2) || ps.any fun q => decide (p.2 = q.1) && !decide ((p.1, q.2) ∈ ps) with
  | true => obtain ⟨ρ', e'⟩ := outer.1 h; rw [e']; rfl
  | false => obtain ⟨ρ', e', _⟩ := outer.2 h; rw [e']; rfl
def ordB (n : Nat) (ps : List (Nat × Nat)) : Bool := decide (1 ≤ n) && decide (n ≤ 8) && (ps.all fun p => decide (p.1 < n) && decide (p.2 < n)) && ascB ps && closB ps
theorem order_ok (n : Nat) (ps : List (Nat × Nat)) (hl : ps.length ≤ 1000) : fn_is_order [oD n ps] = .ok (.bool (ordB n ps)) := by
  have b1 := between_ok n 1 8
  have hc : c1_is_order [.val (oD n ps), .val (.int n), .val (psD ps), .no] = .ok (.lst (ps.map fun p => .bool (decide (p.1 < n) && decide (p.2 < n)))) [.val (oD n ps), .val (.int n), .val (psD ps), .no] :=
    mComp_map (e := pD) ps (by simp) rfl (by simp; omega) (by simp) fun p hp => ⟨_, rfl, rfl, by simp [wipeR, pair_ok]⟩
  have e1 : (decide ((1 : Int) ≤ (n : Int)) && decide ((n : Int) ≤ 8)) = (decide (1 ≤ n) && decide (n ≤ 8)) := by
    have a1 : ((1 : Int) ≤ (n : Int)) ↔ 1 ≤ n := by omega
    have a2 : ((n : Int) ≤ 8) ↔ n ≤ 8 := by omega
    simp only [a1, a2]
  rw [e1] at b1
  unfold ordB
  cases h1 : (decide (1 ≤ n) && decide (n ≤ 8)) with
  | false => rw [h1] at b1; simp [fn_is_order, runF_eq, m_is_order, rho0, b1]
  | true =>
    rw [h1] at b1
    have ha := fAll_map (fun p : Nat × Nat => decide (p.1 < n) && decide (p.2 < n)) ps
    cases h2 : (ps.all fun p => decide (p.1 < n) && decide (p.2 < n)) with
    | false => rw [h2] at ha; simp [fn_is_order, runF_eq, m_is_order, rho0, b1, hc, ha]
    | true =>
      rw [h2] at ha
      have hasc := ascending_ok ps hl
      cases h3 : ascB ps with
      | false => rw [h3] at hasc; simp [fn_is_order, runF_eq, m_is_order, rho0, b1, hc, ha, hasc]
      | true => rw [h3] at hasc; simp [fn_is_order, runF_eq, m_is_order, rho0, b1, hc, ha, hasc, closed_ok ps hl]
theorem check_ok (n : Nat) (ps : List (Nat × Nat)) (hl : ps.length ≤ 1000) (h : ordB n ps = true) : fn_check_order [oD n ps] = .ok .none := by
  have e := order_ok n ps hl
  rw [h] at e
  simp [fn_check_order, runF_eq, m_check_order, rho0, e]
end LB

set_option maxHeartbeats 1000000
namespace LB
open PySem PySem.Spec PyProof.Rows L2 DX NX
def c1__law_closure : M Ob := mComp 7 (iRange1 (mCons (mVar 0) mNil)) (gSet 4) tYesM (mBin fIn (mTup (mCons (mVar 3) (mCons (mVar 4) mNil))) (mVar 1)) [4]
def m1__law_closure : M Rows := mCompM 7 (iRange1 (mCons (mVar 0) mNil)) (gSet 3) c1__law_closure [3]
def f1__law_closure : Rows → Rho → Option (Rows × Rho) := sForM (iRange1 (mCons (mVar 0) mNil)) (gSet 4) (sCell 3 4 5)
def f2__law_closure : Rows → Rho → Option (Rows × Rho) := sForM (iRange1 (mCons (mVar 0) mNil)) (gSet 3) f1__law_closure
def f3__law_closure : Rows → Rho → Option (Rows × Rho) := sForM (iRange1 (mCons (mVar 0) mNil)) (gSet 5) f2__law_closure
def c2__law_closure : M Ob := mComp 7 (iRange1 (mCons (mVar 0) mNil)) (gSet 4) (asB (mBin fIx (mBin fIx (mVar 2) (mVar 3)) (mVar 4))) (mTup (mCons (mVar 3) (mCons (mVar 4) mNil))) [4]
def b1__law_closure : MS := (sSet 6 (mLd (mBinL fCat (mVar 6) (mLd c2__law_closure))))
def l1__law_closure : MS := sFor (iRange1 (mCons (mVar 0) mNil)) (gSet 3) b1__law_closure
def r1__law_closure : MS := (sSeq (sSet 6 (mLd (mLst mNil)))
    (sSeq l1__law_closure
    (sRet (mTup (mCons (mVar 0) (mCons (mApp fTuple (mCons (mVar 6) mNil)) mNil))))))
def m__law_closure : MS := (sSeq (sMat 2 m1__law_closure f3__law_closure)
    r1__law_closure)
def fn__law_closure : List D → FR := runF 7 m__law_closure
def B1__law_closure (size_1 : D) (found_8 : D) : (D) → (D) → T Unit (SN (D) (D)) :=
  fun (a_11 : D) (s_10 : D) =>
  (bT (nLd (nCat (nC s_10) (nLd (nComp (nRange1 (nCons (nC size_1) nNil)) g1 (fun b_13 => (nB (nBin fIx (nBin fIx (nC found_8) (nC a_11)) (nC b_13)))) (fun b_13 => (nTup (nCons (nC a_11) (nCons (nC b_13) nNil)))))))) fun rows_12 =>
  (nNext rows_12))
def q__law_closure : List D → FR
  | [size_1, pairs_2] => finF (bT (nCompM (nRange1 (nCons (nC size_1) nNil)) g1 (fun a_3 => (nComp (nRange1 (nCons (nC size_1) nNil)) g1 (fun b_4 => nYes) (fun b_4 => (nBin fIn (nTup (nCons (nC a_3) (nCons (nC b_4) nNil))) (nC pairs_2)))))) fun rows => bT (lT ((fun rows => (rg1 [size_1]).bind fun xs => forR (fun c_5 => (fun rows => (rg1 [size_1]).bind fun xs => forR (fun a_6 => (fun rows => (rg1 [size_1]).bind fun xs => forR (fun b_7 => (cellN a_6 b_7 c_5)) xs rows)) xs rows)) xs rows) rows)) fun rows2 => bT (gdT (rows2.length ≤ sizeLine ∧ ∀ r ∈ rows2, r.length ≤ sizeLine) ()) fun _ => (fun found_8 => (bT (nLd (nLst nNil)) fun rows_9 =>
  (nThen (σ := D) (bT (nRange1 (nCons (nC size_1) nNil)) fun xs => forN g1 (B1__law_closure size_1 found_8) xs rows_9) fun s_14 =>
  (nRet (nTup (nCons (nC size_1) (nCons (nApp fTuple (nCons (nC s_14) nNil)) nNil))))))) (matD rows2))
  | _ => .bad
theorem n__law_closure : LeQ 2 q__law_closure fn__law_closure
  | [size_1, pairs_2] => (fin_ok (N := 7) (O := []) (Nat.le_of_ble_eq_true rfl) (ns_mat (n2 := (fun rows => (rg1 [size_1]).bind fun xs => forR (fun c_5 => (fun rows => (rg1 [size_1]).bind fun xs => forR (fun a_6 => (fun rows => (rg1 [size_1]).bind fun xs => forR (fun b_7 => (cellN a_6 b_7 c_5)) xs rows)) xs rows)) xs rows)) (k := fun found_8 => (bT (nLd (nLst nNil)) fun rows_9 =>
  (nThen (σ := D) (bT (nRange1 (nCons (nC size_1) nNil)) fun xs => forN g1 (B1__law_closure size_1 found_8) xs rows_9) fun s_14 =>
  (nRet (nTup (nCons (nC size_1) (nCons (nApp fTuple (nCons (nC s_14) nNil)) nNil))))))) (ne_compM (ni_range1 (ne_cons ne_var ne_nil)) ng1 (fun a_3 => (nl_comp (ni_range1 (ne_cons ne_var ne_nil)) ng1 (fun b_4 => (ne_p true)) (fun b_4 => (ne_bin (ne_tup (ne_cons ne_var (ne_cons ne_var ne_nil))) ne_var))))) (nmx_for (ni_range1 (ne_cons ne_var ne_nil)) (fun _ => rfl) (fun c_5 => (nmx_for (ni_range1 (ne_cons ne_var ne_nil)) (fun _ => rfl) (fun a_6 => (nmx_for (ni_range1 (ne_cons ne_var ne_nil)) (fun _ => rfl) (fun b_7 => nmx_cell)))))) (fun found_8 => (ns_set (ne_ld (nl_lst ne_nil)) fun rows_9 => (ns_join (fun (s : D) => [(6, .val s), (3, .any)]) (ns_for (fun (s : D) => [(6, .val s), (3, .any)]) rows_9 (ni_range1 (ne_cons ne_var ne_nil)) (.cons .rf (.cons .rf (.cons .rf (.cons .any (.cons .rf (.cons .rf (.cons .rf .nil))))))) (fun _ => ng1) (fun a_11 s_10 => (ns_last (ns_set (ne_ld (nl_cat ne_var (ne_ld (nl_comp (ni_range1 (ne_cons ne_var ne_nil)) ng1 (fun b_13 => (ne_B (ne_bin (ne_bin ne_var ne_var) ne_var))) (fun b_13 => (ne_tup (ne_cons ne_var (ne_cons ne_var ne_nil)))))))) fun rows_12 => (ns_end rows_12 (.cons .rf (.cons .rf (.cons .rf (.cons .any (.cons .rf (.cons .rf (.cons .rf .nil)))))))))))) fun s_14 => (ns_ret1 (ne_tup (ne_cons ne_var (ne_cons (ne_app (ne_cons ne_var ne_nil)) ne_nil))))))))).imp id fun h => ⟨rfl, h⟩
  | [] => .inl rfl
  | [_] => .inl rfl
  | _ :: _ :: _ :: _ => .inl rfl
def c1__law_order_of : M Ob := mComp 10 (iRange1 (mCons (mVar 2) mNil)) (gSet 6) (asB (mCmpOR fNotIn (mVar 6) 4)) (mVar 6) [6]
def b1__law_order_of : MS := (sAppend 4 (mCallT 3 fn__law_pick (mVar 0) 1 (mCons (mLd c1__law_order_of) mNil)))
def l1__law_order_of : MS := sFor (iRange1 (mCons (mVar 2) mNil)) (gSet 5) b1__law_order_of
def b2__law_order_of : MS := (sIf (tAndM (asB (mBin fLt (mVar 3) (mC (.int 2)))) (asB (mBin fLt (mCallT 3 fn__law_draw (mVar 0) 1 (mCons (mC (.int 5)) mNil)) (mBin fAdd (mC (.int 1)) (mVar 3))))) (sAppend 7 (mTup (mCons (mVar 8) (mCons (mVar 9) mNil)))) (sIf (tAndM (asB (mBin fEq (mVar 3) (mC (.int 2)))) (tAndM (asB (mChain fLt fLe (mVar 8) (mBin fDiv (mBin fAdd (mVar 2) (mC (.int 1))) (mC (.int 2))) (mVar 9))) (asB (mBin fGt (mCallT 3 fn__law_draw (mVar 0) 1 (mCons (mC (.int 3)) mNil)) (mC (.int 0)))))) (sAppend 7 (mTup (mCons (mVar 8) (mCons (mVar 9) mNil)))) sNext))
def l2__law_order_of : MS := sFor (iRange2 (mCons (mBin fAdd (mVar 8) (mC (.int 1))) (mCons (mVar 2) mNil))) (gSet 9) b2__law_order_of
def b3__law_order_of : MS := l2__law_order_of
def l3__law_order_of : MS := sFor (iRange1 (mCons (mVar 2) mNil)) (gSet 8) b3__law_order_of
def c2__law_order_of : M Ob := mComp 10 (iSeq (mFrz 7)) (gTupD (gsCons (gSet 8) (gsCons (gSet 9) gsNil))) tYesM (mTup (mCons (mBin fIx (mFrz 4) (mVar 8)) (mCons (mBin fIx (mFrz 4) (mVar 9)) mNil))) [8, 9]
def r4__law_order_of : MS := (sRet (mCall 2 fn__law_closure (mCons (mVar 2) (mCons (mLd c2__law_order_of) mNil))))
def r3__law_order_of : MS := (sSeq l3__law_order_of
    r4__law_order_of)
def r2__law_order_of : MS := (sSeq (sSetL 7 (mLst mNil))
    r3__law_order_of)
def r1__law_order_of : MS := (sSeq l1__law_order_of
    r2__law_order_of)
def m__law_order_of : MS := (sSeq (sSetL 4 (mLst mNil))
    r1__law_order_of)
def fn__law_order_of : D → List D → List D → FRT := runT 10 m__law_order_of
def B1__law_order_of (script_1 : D) (size_2 : D) : (D) → ((List D)) → T (List D) (SN ((List D)) ((List D))) :=
  fun (k_6 : D) (s_5 : (List D)) =>
  (nApd s_5 (nCallT (gqT 3 fn__law_pick) (nC script_1) (nCons (nLd (nComp (nRange1 (nCons (nC size_2) nNil)) g1 (fun name_7 => (nB (nCmR fNotIn (nC name_7) s_5))) (fun name_7 => (nC name_7)))) nNil)) fun names_8 =>
  (nNext names_8))
def B2__law_order_of (script_1 : D) (size_2 : D) (way_3 : D) (a_12 : D) : (D) → ((List D)) → T (List D) (SN ((List D)) ((List D))) :=
  fun (b_14 : D) (s_13 : (List D)) =>
  (bT (tAndN (nB (nBin fLt (nC way_3) (nC (.int 2)))) (nB (nBin fLt (nCallT (gqT 3 fn__law_draw) (nC script_1) (nCons (nC (.int 5)) nNil)) (nBin fAdd (nC (.int 1)) (nC way_3))))) fun b => iT b
  (nApd s_13 (nTup (nCons (nC a_12) (nCons (nC b_14) nNil))) fun pairs_15 =>
  (nNext pairs_15))
  (bT (tAndN (nB (nBin fEq (nC way_3) (nC (.int 2)))) (tAndN (nB (nCh fLt fLe (nC a_12) (nBin gDiv (nBin fAdd (nC size_2) (nC (.int 1))) (nC (.int 2))) (nC b_14))) (nB (nBin fGt (nCallT (gqT 3 fn__law_draw) (nC script_1) (nCons (nC (.int 3)) nNil)) (nC (.int 0)))))) fun b => iT b
  (nApd s_13 (nTup (nCons (nC a_12) (nCons (nC b_14) nNil))) fun pairs_16 =>
  (nNext pairs_16))
  (nNext s_13)))
def B3__law_order_of (script_1 : D) (size_2 : D) (way_3 : D) : (D) → ((List D)) → T (List D) (SN ((List D)) ((List D))) :=
  fun (a_12 : D) (s_11 : (List D)) =>
  (nThen (σ := (List D)) (bT (nRange2 (nCons (nBin fAdd (nC a_12) (nC (.int 1))) (nCons (nC size_2) nNil))) fun xs => forN g1 (B2__law_order_of script_1 size_2 way_3 a_12) xs s_11) fun s_17 =>
  (nNext s_17))
def q__law_order_of : D → List D → List D → FRT
  | script_1, t, [size_2, way_3] => finT (bT (nLst nNil) fun names_4 =>
  (nThen (σ := (List D)) (bT (nRange1 (nCons (nC size_2) nNil)) fun xs => forN g1 (B1__law_order_of script_1 size_2) xs names_4) fun s_9 =>
  (bT (nLst nNil) fun pairs_10 =>
  (nThen (σ := (List D)) (bT (nRange1 (nCons (nC size_2) nNil)) fun xs => forN g1 (B3__law_order_of script_1 size_2 way_3) xs pairs_10) fun s_18 =>
  (nRet (nCall q__law_closure (nCons (nC size_2) (nCons (nLd (nComp (nSeq (nC (.list s_18))) g2 (fun p_20 => nYes) (fun p_20 => (nTup (nCons (nBin fIx (nC (.list s_9)) (nC p_20.1)) (nCons (nBin fIx (nC (.list s_9)) (nC p_20.2)) nNil)))))) nNil)))))))) t
  | _, _, _ => .bad
theorem n__law_order_of : LeQT 4 q__law_order_of fn__law_order_of
  | script_1, t, [size_2, way_3] => (finT_ok (N := 10) (O := [1, 4, 7]) (Nat.le_of_ble_eq_true rfl) rfl (ns_setL (nl_lst ne_nil) fun names_4 => (ns_join (fun (s : (List D)) => [(4, .own (.lst s)), (5, .any)]) (ns_for (fun (s : (List D)) => [(4, .own (.lst s)), (5, .any)]) names_4 (ni_range1 (ne_cons ne_var ne_nil)) (.cons .rf (.cons .rf (.cons .rf (.cons .rf (.cons .rf (.cons .any (.cons .rf (.cons .rf (.cons .rf (.cons .rf .nil)))))))))) (fun _ => ng1) (fun k_6 s_5 => (ns_last (ns_append (ne_callT leqT_gq ne_var (ne_cons (ne_ld (nl_comp (ni_range1 (ne_cons ne_var ne_nil)) ng1 (fun name_7 => (ne_B (ne_cmR ne_var))) (fun name_7 => ne_var))) ne_nil)) fun names_8 => (ns_end names_8 (.cons .rf (.cons .rf (.cons .rf (.cons .rf (.cons .rf (.cons .any (.cons .rf (.cons .rf (.cons .rf (.cons .rf .nil))))))))))))))) fun s_9 => (ns_setL (nl_lst ne_nil) fun pairs_10 => (ns_join (fun (s : (List D)) => [(7, .own (.lst s)), (8, .any), (9, .any)]) (ns_for (fun (s : (List D)) => [(7, .own (.lst s)), (8, .any), (9, .any)]) pairs_10 (ni_range1 (ne_cons ne_var ne_nil)) (.cons .rf (.cons .rf (.cons .rf (.cons .rf (.cons .rf (.cons .rf (.cons .rf (.cons .rf (.cons .any (.cons .any .nil)))))))))) (fun _ => ng1) (fun a_12 s_11 => (ns_last (ns_join (fun (s : (List D)) => [(7, .own (.lst s)), (9, .any)]) (ns_for (fun (s : (List D)) => [(7, .own (.lst s)), (9, .any)]) s_11 (ni_range2 (ne_cons (ne_bin ne_var (ne_c _)) (ne_cons ne_var ne_nil))) (.cons .rf (.cons .rf (.cons .rf (.cons .rf (.cons .rf (.cons .rf (.cons .rf (.cons .rf (.cons .rf (.cons .any .nil)))))))))) (fun _ => ng1) (fun b_14 s_13 => (ns_if (ne_tand (ne_B (ne_bin ne_var (ne_c _))) (ne_B (ne_bin (ne_callT leqT_gq ne_var (ne_cons (ne_c _) ne_nil)) (ne_bin (ne_c _) ne_var)))) (ns_last (ns_append (ne_tup (ne_cons ne_var (ne_cons ne_var ne_nil))) fun pairs_15 => (ns_end pairs_15 (.cons .rf (.cons .rf (.cons .rf (.cons .rf (.cons .rf (.cons .rf (.cons .rf (.cons .rf (.cons .rf (.cons .any .nil))))))))))))) (ns_if (ne_tand (ne_B (ne_bin ne_var (ne_c _))) (ne_tand (ne_B (ne_ch ne_var (ne_binG (f := fDiv) (g := gDiv) gDiv_le (ne_bin ne_var (ne_c _)) (ne_c _)) ne_var)) (ne_B (ne_bin (ne_callT leqT_gq ne_var (ne_cons (ne_c _) ne_nil)) (ne_c _))))) (ns_last (ns_append (ne_tup (ne_cons ne_var (ne_cons ne_var ne_nil))) fun pairs_16 => (ns_end pairs_16 (.cons .rf (.cons .rf (.cons .rf (.cons .rf (.cons .rf (.cons .rf (.cons .rf (.cons .rf (.cons .rf (.cons .any .nil))))))))))))) (ns_end s_13 (.cons .rf (.cons .rf (.cons .rf (.cons .rf (.cons .rf (.cons .rf (.cons .rf (.cons .rf (.cons .rf (.cons .any .nil))))))))))))))) fun s_17 => (ns_end s_17 (.cons .rf (.cons .rf (.cons .rf (.cons .rf (.cons .rf (.cons .rf (.cons .rf (.cons .rf (.cons .any (.cons .any .nil))))))))))))))) fun s_18 => (ns_frz (i := 4) (o := .lst s_9) (ns_frz (i := 7) (o := .lst s_18) (ns_ret1 (ne_call n__law_closure (ne_cons ne_var (ne_cons (ne_ld (nl_comp (ni_seq (ne_frz (o := .lst s_18))) ng2 (fun p_20 => (ne_p true)) (fun p_20 => (ne_tup (ne_cons (ne_bin (ne_frz (o := .lst s_9)) ne_var) (ne_cons (ne_bin (ne_frz (o := .lst s_9)) ne_var) ne_nil)))))) ne_nil))))))))))).imp id fun h => ⟨rfl, h⟩
  | _, _, [] => .inl rfl
  | _, _, [_] => .inl rfl
  | _, _, _ :: _ :: _ :: _ => .inl rfl
def m__law_order : MS := (sSeq (sSet 3 (mBin fAdd (mC (.int 1)) (mCallT 3 fn__law_draw (mVar 0) 1 (mCons (mVar 2) mNil))))
    (sRet (mCallT 4 fn__law_order_of (mVar 0) 1 (mCons (mVar 3) (mCons (mCallT 3 fn__law_draw (mVar 0) 1 (mCons (mC (.int 3)) mNil)) mNil)))))
def fn__law_order : D → List D → List D → FRT := runT 4 m__law_order
def q__law_order : D → List D → List D → FRT
  | script_1, t, [most_2] => finT (bT (nBin fAdd (nC (.int 1)) (nCallT (gqT 3 fn__law_draw) (nC script_1) (nCons (nC most_2) nNil))) fun size_3 =>
  (nRet (nCallT q__law_order_of (nC script_1) (nCons (nC size_3) (nCons (nCallT (gqT 3 fn__law_draw) (nC script_1) (nCons (nC (.int 3)) nNil)) nNil))))) t
  | _, _, _ => .bad
theorem n__law_order : LeQT 3 q__law_order fn__law_order
  | script_1, t, [most_2] => (finT_ok (N := 4) (O := [1]) (Nat.le_of_ble_eq_true rfl) rfl (ns_set (ne_bin (ne_c _) (ne_callT leqT_gq ne_var (ne_cons ne_var ne_nil))) fun size_3 => (ns_ret1 (ne_callT n__law_order_of ne_var (ne_cons ne_var (ne_cons (ne_callT leqT_gq ne_var (ne_cons (ne_c _) ne_nil)) ne_nil)))))).imp id fun h => ⟨rfl, h⟩
  | _, _, [] => .inl rfl
  | _, _, _ :: _ :: _ => .inl rfl
/-! ### a matrix as a function -/
def tab (n : Nat) (f : Nat → Nat → Bool) : Rows := (List.range n).map fun a => (List.range n).map fun b => f a b
theorem tab_row {n : Nat} {f : Nat → Nat → Bool} {a : Nat} (h : a < n) : (tab n f)[a]? = some ((List.range n).map fun b => f a b) := by
  unfold tab; rw [List.getElem?_map, List.getElem?_range h]; rfl
theorem tab_congr {n : Nat} {f g : Nat → Nat → Bool} (h : ∀ a b, a < n → b < n → f a b = g a b) : tab n f = tab n g := by
  unfold tab
  refine List.map_congr_left fun a ha => List.map_congr_left fun b hb => h a b (List.mem_range.mp ha) (List.mem_range.mp hb)
theorem cell_tab {n : Nat} {f : Nat → Nat → Bool} {a b : Nat} (ha : a < n) (hb : b < n) : cellM (tab n f) (a : Int) (b : Int) = some (f a b) := by
  unfold cellM
  rw [if_pos ⟨by omega, by omega⟩, Int.toNat_natCast, Int.toNat_natCast, tab_row ha]
  simp [hb]
def put2 (f : Nat → Nat → Bool) (a b : Nat) (v : Bool) : Nat → Nat → Bool := fun x y => if x = a ∧ y = b then v else f x y
theorem set_tab {n : Nat} {f : Nat → Nat → Bool} {a b : Nat} {v : Bool} (ha : a < n) (hb : b < n) : setM (tab n f) (a : Int) (b : Int) v = tab n (put2 f a b v) := by
  unfold setM
  rw [Int.toNat_natCast, tab_row ha]
  simp only [Int.toNat_natCast]
  apply List.ext_getElem?
  intro x
  by_cases hx : a = x
  · subst hx
    rw [List.getElem?_set_self (by unfold tab; simpa using ha), tab_row ha]
    congr 1
    apply List.ext_getElem?
    intro y
    by_cases hy : b = y
    · subst hy
      rw [List.getElem?_set_self (by simpa using hb), List.getElem?_map, List.getElem?_range hb]
      simp [put2]
    · rw [List.getElem?_set_ne hy, List.getElem?_map, List.getElem?_map]
      by_cases hyn : y < n
      · rw [List.getElem?_range hyn]
        have : ¬ y = b := fun z => hy z.symm
        simp [put2, this]
      · rw [List.getElem?_eq_none (by simpa using hyn)]; rfl
  · rw [List.getElem?_set_ne hx]
    unfold tab
    rw [List.getElem?_map, List.getElem?_map]
    by_cases hxn : x < n
    · rw [List.getElem?_range hxn]
      have : ¬ x = a := fun z => hx z.symm
      simp [put2, this]
    · rw [List.getElem?_eq_none (by simpa using hxn)]; rfl
def stepW (f : Nat → Nat → Bool) (c : Nat) : Nat → Nat → Bool := fun a b => f a b || (f a c && f c b)
def warsh : Nat → (Nat → Nat → Bool) → Nat → Nat → Bool
  | 0, f => f
  | c + 1, f => stepW (warsh c f) c
theorem warsh_zero (f : Nat → Nat → Bool) : warsh 0 f = f := by rw [warsh]
theorem warsh_succ (c : Nat) (f : Nat → Nat → Bool) : warsh (c + 1) f = stepW (warsh c f) c := by rw [warsh]

theorem forR_inv {α : Type} {nb : D → Rows → Option Rows} {e : α → D} (I : Nat → Rows → Prop) : ∀ (ys : List α) (k : Nat) (rows : Rows), I k rows → (∀ i y, ys[i]? = some y → ∀ rows, I (k + i) rows → ∃ rows', nb (e y) rows = some rows' ∧ I (k + i + 1) rows') →
    ∃ rows', forR nb (ys.map e) rows = some rows' ∧ I (k + ys.length) rows'
  | [], k, rows, h0, _ => ⟨rows, rfl, h0⟩
  | y :: ys, k, rows, h0, st => by
    obtain ⟨r1, e1, h1⟩ := st 0 y rfl rows h0
    obtain ⟨r2, e2, h2⟩ := forR_inv I ys (k + 1) r1 h1 fun i z hz rows hI => by
      have := st (i + 1) z (by simpa using hz) rows (by rw [show k + (i + 1) = k + 1 + i by omega]; exact hI)
      rw [show k + (i + 1) + 1 = k + 1 + i + 1 by omega] at this
      exact this
    refine ⟨r2, ?_, by rw [show k + (y :: ys).length = k + 1 + ys.length by simp; omega]; exact h2⟩
    rw [List.map_cons, forR, e1]; exact e2
theorem cellN_tab {n a b c : Nat} {f : Nat → Nat → Bool} (ha : a < n) (hb : b < n) (hc : c < n) : cellN (nD a) (nD b) (nD c) (tab n f) = some (tab n (put2 f a b (f a b || (f a c && f c b)))) := by
  unfold cellN
  simp only [nD, cell_tab ha hb, cell_tab ha hc, cell_tab hc hb, orAnd]
  rw [set_tab ha hb]
theorem warsh_in {n a c : Nat} {f : Nat → Nat → Bool} (ha : a < n) (hc : c < n) :
    forR (fun b => cellN (nD a) b (nD c)) ((List.range n).map nD) (tab n f) = some (tab n (fun x y => if x = a then stepW f c x y else f x y)) := by
  obtain ⟨rows', e, rfl⟩ := forR_inv (nb := fun b => cellN (nD a) b (nD c)) (e := nD) (fun k rows => rows = tab n (fun x y => if x = a ∧ y < k then stepW f c x y else f x y)) (List.range n) 0 (tab n f) (tab_congr fun x y _ _ => by simp) (by
    rintro i b hb rows rfl
    obtain ⟨rfl, hi⟩ := range_get hb
    rw [Nat.zero_add]
    refine ⟨_, cellN_tab ha hi hc, tab_congr fun x y hx hy => ?_⟩
    have r2 : (if a = a ∧ c < b then stepW f c a c else f a c) = f a c := by
      split
      · unfold stepW; cases f a c <;> cases f c c <;> rfl
      · rfl
    have r1 : (if a = a ∧ b < b then stepW f c a b else f a b) = f a b := by simp
    have r3 : (if c = a ∧ b < b then stepW f c c b else f c b) = f c b := by simp
    dsimp only [put2]
    rw [r1, r2, r3]
    by_cases h1 : x = a ∧ y = b
    · obtain ⟨rfl, rfl⟩ := h1
      rw [if_pos ⟨rfl, rfl⟩, if_pos ⟨rfl, by omega⟩]
      rfl
    · rw [if_neg h1]
      by_cases h2 : x = a
      · subst h2
        have h3 : ¬ y = b := fun z => h1 ⟨rfl, z⟩
        by_cases h4 : y < b
        · rw [if_pos ⟨rfl, h4⟩, if_pos ⟨rfl, by omega⟩]
        · rw [if_neg (fun z => h4 z.2), if_neg (fun z => h4 (by omega))]
      · rw [if_neg (fun z => h2 z.1), if_neg (fun z => h2 z.1)])
  rw [e]
  congr 1
  refine tab_congr fun x y hx hy => ?_
  have hy' : y < 0 + (List.range n).length := by simpa using hy
  by_cases h : x = a
  · rw [if_pos ⟨h, hy'⟩, if_pos h]
  · rw [if_neg (fun z => h z.1), if_neg h]
theorem warsh_mid {n c : Nat} {f : Nat → Nat → Bool} (hn : n < 1000) (hc : c < n) :
    forR (fun a => fun rows => (rg1 [nD n]).bind fun xs => forR (fun b => cellN a b (nD c)) xs rows) ((List.range n).map nD) (tab n f) = some (tab n (stepW f c)) := by
  obtain ⟨rows', e, rfl⟩ := forR_inv (nb := fun a => fun rows => (rg1 [nD n]).bind fun xs => forR (fun b => cellN a b (nD c)) xs rows) (e := nD) (fun k rows => rows = tab n (fun x y => if x < k then stepW f c x y else f x y)) (List.range n) 0 (tab n f) (tab_congr fun x y _ _ => by simp) (by
    rintro i a ha rows rfl
    obtain ⟨rfl, hi⟩ := range_get ha
    rw [Nat.zero_add]
    refine ⟨_, by rw [rngN n (by omega)]; exact warsh_in hi hc, tab_congr fun x y hx hy => ?_⟩
    have rc : ∀ y, (if c < a then stepW f c c y else f c y) = f c y := fun y => by
      split
      · unfold stepW; cases f c y <;> cases f c c <;> rfl
      · rfl
    show (if x = a then stepW (fun x y => if x < a then stepW f c x y else f x y) c x y else (if x < a then stepW f c x y else f x y)) = (if x < a + 1 then stepW f c x y else f x y)
    by_cases h1 : x = a
    · subst h1
      rw [if_pos rfl, if_pos (by omega)]
      show ((if x < x then stepW f c x y else f x y) || ((if x < x then stepW f c x c else f x c) && (if c < x then stepW f c c y else f c y))) = stepW f c x y
      rw [rc y, if_neg (by omega), if_neg (by omega)]
      rfl
    · rw [if_neg h1]
      by_cases h2 : x < a
      · rw [if_pos h2, if_pos (by omega)]
      · rw [if_neg h2, if_neg (by omega)])
  rw [e]
  congr 1
  refine tab_congr fun x y hx hy => ?_
  rw [if_pos (by simpa using hx)]
theorem warsh_all {n : Nat} {f : Nat → Nat → Bool} (hn : n < 1000) :
    forR (fun c => fun rows => (rg1 [nD n]).bind fun xs => forR (fun a => fun rows => (rg1 [nD n]).bind fun xs => forR (fun b => cellN a b c) xs rows) xs rows) ((List.range n).map nD) (tab n f) = some (tab n (warsh n f)) := by
  obtain ⟨rows', e, rfl⟩ := forR_inv (nb := fun c => fun rows => (rg1 [nD n]).bind fun xs => forR (fun a => fun rows => (rg1 [nD n]).bind fun xs => forR (fun b => cellN a b c) xs rows) xs rows) (e := nD) (fun k rows => rows = tab n (warsh k f)) (List.range n) 0 (tab n f) (by rw [warsh_zero]) (by
    rintro i c hc rows rfl
    obtain ⟨rfl, hi⟩ := range_get hc
    rw [Nat.zero_add]
    refine ⟨tab n (stepW (warsh c f) c), ?_, by rw [warsh_succ]⟩
    have := warsh_mid (f := warsh c f) hn hi
    simp only [rngN n (by omega), Option.bind_some] at this ⊢
    exact this)
  rw [e, Nat.zero_add, List.length_range]
/-! what it gives -/
theorem warsh_sub {f : Nat → Nat → Bool} : ∀ {c a b : Nat}, f a b = true → warsh c f a b = true
  | 0, a, b, h => by rw [warsh_zero]; exact h
  | c + 1, a, b, h => by rw [warsh_succ]; unfold stepW; rw [warsh_sub h]; rfl
/-- through the first c elements it is transitive -/
theorem warsh_trans {f : Nat → Nat → Bool} : ∀ {c k a b : Nat}, k < c → warsh c f a k = true → warsh c f k b = true → warsh c f a b = true
  | 0, k, a, b, hk, _, _ => by omega
  | c + 1, k, a, b, hk, h1, h2 => by
    rw [warsh_succ] at h1 h2 ⊢
    unfold stepW at h1 h2 ⊢
    simp only [Bool.or_eq_true, Bool.and_eq_true] at h1 h2 ⊢
    have T := fun {k a b : Nat} => warsh_trans (f := f) (c := c) (k := k) (a := a) (b := b)
    by_cases hc : k = c
    · subst hc
      right
      exact ⟨h1.elim id (·.1), h2.elim id (·.2)⟩
    · have hk' : k < c := by omega
      rcases h1 with h1 | h1 <;> rcases h2 with h2 | h2
      · exact .inl (T hk' h1 h2)
      · exact .inr ⟨T hk' h1 h2.1, h2.2⟩
      · exact .inr ⟨h1.1, T hk' h1.2 h2⟩
      · exact .inr ⟨h1.1, h2.2⟩
/-- it holds no more than any transitive relation above f -/
theorem warsh_least {f : Nat → Nat → Bool} {R : Nat → Nat → Prop} (h0 : ∀ a b, f a b = true → R a b) (ht : ∀ a b c, R a b → R b c → R a c) : ∀ {c a b : Nat}, warsh c f a b = true → R a b
  | 0, a, b, h => by rw [warsh_zero] at h; exact h0 a b h
  | c + 1, a, b, h => by
    rw [warsh_succ] at h
    unfold stepW at h
    simp only [Bool.or_eq_true, Bool.and_eq_true] at h
    rcases h with h | h
    · exact warsh_least h0 ht h
    · exact ht a c b (warsh_least h0 ht h.1) (warsh_least h0 ht h.2)
/-! the pairs of a relation below n -/
def relR (n : Nat) (f : Nat → Nat → Bool) (a : Nat) : List (Nat × Nat) := ((List.range n).filter fun b => f a b).map fun b => (a, b)
def relP (n : Nat) (f : Nat → Nat → Bool) : List (Nat × Nat) := (List.range n).flatMap (relR n f)
theorem relR_len (n : Nat) (f : Nat → Nat → Bool) (a : Nat) : (relR n f a).length ≤ n := by
  unfold relR; rw [List.length_map]; exact Nat.le_trans (List.length_filter_le _ _) (by simp)
theorem rel_flat (n : Nat) (f : Nat → Nat → Bool) : ∀ l : List Nat, (l.flatMap (relR n f)).length ≤ l.length * n
  | [] => by simp
  | a :: l => by
    rw [List.flatMap_cons, List.length_append, List.length_cons, Nat.succ_mul]
    have := relR_len n f a
    have := rel_flat n f l
    omega
theorem relP_len {n : Nat} (f : Nat → Nat → Bool) (h : n ≤ 8) : (relP n f).length ≤ 64 := by
  have := rel_flat n f (List.range n)
  rw [List.length_range] at this
  have a3 : n * n ≤ 8 * 8 := Nat.mul_le_mul h h
  unfold relP
  omega
theorem mem_relP {n : Nat} {f : Nat → Nat → Bool} {a b : Nat} : (a, b) ∈ relP n f ↔ a < n ∧ b < n ∧ f a b = true := by
  unfold relP relR
  simp only [List.mem_flatMap, List.mem_range, List.mem_map, List.mem_filter, Prod.mk.injEq]
  constructor
  · rintro ⟨a', h1, b', ⟨h2, h3⟩, rfl, rfl⟩; exact ⟨h1, h2, h3⟩
  · rintro ⟨h1, h2, h3⟩; exact ⟨a, h1, b, ⟨h2, h3⟩, rfl, rfl⟩

theorem at_tabD {n : Nat} {f : Nat → Nat → Bool} {a : Nat} (ha : a < n) : fIx (matD (tab n f)) (nD a) = some (.list ((List.range n).map fun b => .bool (f a b))) := by
  show atI _ _ = _
  rw [DX.atI_nat]
  unfold tab
  rw [List.map_map, List.getElem?_map, List.getElem?_range ha]
  simp [Function.comp_def]
theorem at_rowD {n : Nat} {g : Nat → Bool} {b : Nat} (hb : b < n) : fIx (.list ((List.range n).map fun b => .bool (g b))) (nD b) = some (.bool (g b)) := by
  show atI _ _ = _
  rw [DX.atI_nat, List.getElem?_map, List.getElem?_range hb]
  rfl
theorem cmM_pure {τ α π : Type} {f : D → Option π} {elt : π → T τ (List D)} {e : α → D} {r : α → List Bool} {t : τ} : ∀ (ys : List α), (∀ y ∈ ys, ∃ p, f (e y) = some p ∧ elt p t = .ok ((r y).map .bool) t) → cmM f elt (ys.map e) t = .ok (ys.map r) t
  | [], _ => rfl
  | y :: ys, h => by
    obtain ⟨p, e1, e2⟩ := h y List.mem_cons_self
    rw [List.map_cons, cmM, e1]
    simp only [NX.cT, e2, boolsOf_map, cmM_pure ys fun z hz => h z (List.mem_cons_of_mem _ hz), pT_ap, List.map_cons]
/-- the pairs of a relation, as the law lists them -/
theorem clos_comp {n : Nat} (hn : n ≤ 8) {P : D} {f : Nat → Nat → Bool} (hin : ∀ a b : Nat, fIn (pD (a, b)) P = some (.bool (f a b))) (t : Unit) :
    nCompM (nRange1 (nCons (nC (nD n)) nNil)) g1 (fun a => (nComp (nRange1 (nCons (nC (nD n)) nNil)) g1 (fun _ => nYes) (fun b => nBin fIn (nTup (nCons (nC a) (nCons (nC b) nNil))) (nC P)))) t = .ok (tab n f) t := by
  have hr := rngN n (by omega)
  unfold nCompM
  simp only [bT_ap, nRange1_ap, nCons_ap, nC_ap, nNil_ap, bR_ok, pT_ap, hr, lT_some]
  rw [if_pos (by simp; omega)]
  exact cmM_pure (List.range n) fun a ha => ⟨_, rfl, by
    rw [List.map_map]
    refine nComp_map (e := nD) (fun b => .bool (f a b)) (List.range n) (by simp [hr]) (by simp; omega) fun b hb => ⟨_, rfl, ?_⟩
    have := hin a b
    simp [this]⟩
theorem clos_step {n a : Nat} (hn : n ≤ 8) (F : Nat → Nat → Bool) (ha : a < n) (t' : Unit) : B1__law_closure (nD n) (matD (tab n F)) (nD a) (.list (((List.range a).flatMap (relR n F)).map pD)) t' = .ok (.next (.list (((List.range (a + 1)).flatMap (relR n F)).map pD))) t' := by
  have hr := rngN n (by omega)
  have hc : nComp (nRange1 (nCons (nC (nD n)) nNil)) g1 (fun b => nB (nBin fIx (nBin fIx (nC (matD (tab n F))) (nC (nD a))) (nC b))) (fun b => nTup (nCons (nC (nD a)) (nCons (nC b) nNil))) t' = .ok ((relR n F a).map pD) t' := by
    refine (nComp_pure (e := nD) (fun b => F a b) (fun b => pD (a, b)) (List.range n) (by simp [hr]) (by simp; omega) fun b hb => ⟨_, rfl, ?_, fun _ => by simp⟩).trans ?_
    · have e1 := at_tabD (f := F) ha
      have e2 := at_rowD (g := F a) (List.mem_range.mp hb)
      simp only [nB_ap, nBin_ap, nC_ap, bR_ok, bT_ap, e1, lT_some, e2, bolT_bool]
    · unfold relR; rw [List.map_map]; rfl
  generalize hL : (List.range a).flatMap (relR n F) = L
  have hlen1 : L.length + (relR n F a).length ≤ 16777216 := by
    have a1 := rel_flat n F (List.range a)
    have a2 := relR_len n F a
    rw [List.length_range, hL] at a1
    have a3 : a * n ≤ 8 * 8 := Nat.mul_le_mul (by omega) hn
    omega
  have hs : (List.range (a + 1)).flatMap (relR n F) = L ++ relR n F a := by rw [List.range_succ, List.flatMap_append, hL]; simp
  rw [hs]
  unfold B1__law_closure
  simp [hc, hlen1]
theorem clos_loop {n : Nat} (hn : n ≤ 8) (F : Nat → Nat → Bool) (t : Unit) : (forN g1 (B1__law_closure (nD n) (matD (tab n F))) ((List.range n).map nD) (.list []) : T Unit (SN Unit D)) t = .ok (.next (.list ((relP n F).map pD))) t := by
  have := forN_inv (β := Unit) (f := g1) (e := nD) (body := B1__law_closure (nD n) (matD (tab n F))) (fun i s t' => s = .list (((List.range i).flatMap (relR n F)).map pD) ∧ t' = t) (List.range n) 0 (.list []) t ⟨rfl, rfl⟩ (by
    rintro i a ha s t' ⟨rfl, rfl⟩
    obtain ⟨rfl, hi⟩ := range_get ha
    rw [Nat.zero_add]
    exact ⟨_, _, t', rfl, .inl (clos_step hn F hi t'), rfl, rfl⟩)
  obtain ⟨s', t', e, rfl, rfl⟩ := this
  rw [e, Nat.zero_add, List.length_range]
  rfl
/-- the order that follows from pairs, as the law lists it -/
theorem closure_ok {n : Nat} (hn : n ≤ 8) {P : D} {f : Nat → Nat → Bool} (hin : ∀ a b : Nat, fIn (pD (a, b)) P = some (.bool (f a b))) :
    q__law_closure [nD n, P] = .ok (oD n (relP n (warsh n f))) := by
  have hr := rngN n (by omega)
  have hz : (tab n (warsh n f)).length ≤ sizeLine ∧ ∀ r ∈ tab n (warsh n f), r.length ≤ sizeLine := by
    refine ⟨by unfold tab; simp; omega, fun r hr => ?_⟩
    unfold tab at hr
    obtain ⟨a, _, rfl⟩ := List.mem_map.mp hr
    simp; omega
  have hw := warsh_all (n := n) (f := f) (by omega)
  have h1 := clos_comp hn hin
  have h2 := clos_loop hn (warsh n f)
  generalize hF : warsh n f = F at *
  simp only [hr, Option.bind_some] at hw
  unfold q__law_closure
  simp only [finF_eq, bT_ap, h1, bR_ok, hr, Option.bind_some, hw, lT_some, gdT_ap]
  rw [if_pos hz]
  simp only [bR_ok, nLd_ap, nLst_ap, nNil_ap, gdT_ap, List.length_nil, Nat.zero_le, if_true, pT_ap, nThen_ap, bT_ap, nRange1_ap, nCons_ap, nC_ap, hr, lT_some, h2, thenT_next]
  simp
/-! ### orders -/
theorem nodup_le {α : Type} [DecidableEq α] : ∀ {a b : List α}, a.Nodup → (∀ x ∈ a, x ∈ b) → a.length ≤ b.length
  | [], b, _, _ => by simp
  | x :: a, b, hd, hs => by
    have hx : x ∈ b := hs x List.mem_cons_self
    have h1 := nodup_le (a := a) (b := b.erase x) (List.nodup_cons.mp hd).2 fun y hy => by
      have hne : y ≠ x := fun e => (List.nodup_cons.mp hd).1 (e ▸ hy)
      exact (List.mem_erase_of_ne hne).mpr (hs y (List.mem_cons_of_mem _ hy))
    rw [List.length_erase_of_mem hx] at h1
    have : 0 < b.length := List.length_pos_of_mem hx
    rw [List.length_cons]; omega
theorem plt_iff {p q : Nat × Nat} : plt p q = true ↔ p.1 < q.1 ∨ (p.1 = q.1 ∧ p.2 < q.2) := by
  unfold plt
  by_cases h : p.1 = q.1
  · rw [if_pos h, decide_eq_true_eq]; omega
  · rw [if_neg h, decide_eq_true_eq]; omega
theorem asc_iff {ps : List (Nat × Nat)} : ascB ps = true ↔ ps.Pairwise fun p q => plt p q = true := by
  unfold ascB
  rw [List.all_eq_true]
  constructor
  · intro h
    have tr : ∀ a b c : Nat × Nat, plt a b = true → plt b c = true → plt a c = true := by
      intro a b c h1 h2
      rw [plt_iff] at *
      omega
    have adj : ∀ k, k + 1 < ps.length → plt (ps.getD k (0, 0)) (ps.getD (k + 1) (0, 0)) = true := fun k hk => h k (List.mem_range.mpr (by omega))
    rw [List.pairwise_iff_getElem]
    intro i j hi hj hij
    have : ∀ d i, i + d + 1 < ps.length → plt (ps.getD i (0, 0)) (ps.getD (i + d + 1) (0, 0)) = true := by
      intro d
      induction d with
      | zero => intro i hi; exact adj i hi
      | succ d ih => intro i hi; exact tr _ _ _ (ih i (by omega)) (by have := adj (i + d + 1) (by omega); rw [show i + (d + 1) + 1 = i + d + 1 + 1 by omega]; exact this)
    have h2 := this (j - i - 1) i (by omega)
    rw [show i + (j - i - 1) + 1 = j by omega, List.getD_eq_getElem?_getD, List.getD_eq_getElem?_getD, List.getElem?_eq_getElem hi, List.getElem?_eq_getElem hj] at h2
    exact h2
  · intro h k hk
    have hk' : k < ps.length - 1 := List.mem_range.mp hk
    have := List.pairwise_iff_getElem.mp h k (k + 1) (by omega) (by omega) (by omega)
    rw [List.getD_eq_getElem?_getD, List.getD_eq_getElem?_getD, List.getElem?_eq_getElem (by omega), List.getElem?_eq_getElem (by omega)]
    exact this
theorem clos_iff {ps : List (Nat × Nat)} : closB ps = true ↔ (∀ a b, (a, b) ∈ ps → a ≠ b) ∧ ∀ a b c, (a, b) ∈ ps → (b, c) ∈ ps → (a, c) ∈ ps := by
  unfold closB
  rw [Bool.not_eq_true', List.any_eq_false]
  constructor
  · intro h
    refine ⟨fun a b hp e => ?_, fun a b c h1 h2 => ?_⟩
    · have := h (a, b) hp
      simp [e] at this
    · have := h (a, b) h1
      simp only [Bool.or_eq_true, decide_eq_true_eq, List.any_eq_true, Bool.and_eq_true, Bool.not_eq_true', decide_eq_false_iff_not, not_or, not_exists] at this
      by_cases hm : (a, c) ∈ ps
      · exact hm
      · exact absurd ⟨h2, rfl, hm⟩ (this.2 (b, c))
  · rintro ⟨h1, h2⟩ ⟨a, b⟩ hp
    simp only [Bool.or_eq_true, decide_eq_true_eq, List.any_eq_true, Bool.and_eq_true, Bool.not_eq_true', decide_eq_false_iff_not, not_or]
    refine ⟨h1 a b hp, ?_⟩
    rintro ⟨⟨c, d⟩, hq, hbc, hno⟩
    simp only at hbc
    subst hbc
    exact hno (h2 a b d hp hq)
/-- an order of n elements, by its pairs -/
structure Od (n : Nat) (ps : List (Nat × Nat)) : Prop where
  pos : 1 ≤ n
  le8 : n ≤ 8
  bd : ∀ a b, (a, b) ∈ ps → a < n ∧ b < n
  asc : ps.Pairwise fun p q => plt p q = true
  irr : ∀ a b, (a, b) ∈ ps → a ≠ b
  tr : ∀ a b c, (a, b) ∈ ps → (b, c) ∈ ps → (a, c) ∈ ps
theorem od_iff {n : Nat} {ps : List (Nat × Nat)} : ordB n ps = true ↔ Od n ps := by
  unfold ordB
  simp only [Bool.and_eq_true, decide_eq_true_eq, List.all_eq_true, asc_iff, clos_iff]
  constructor
  · rintro ⟨⟨⟨⟨h1, h2⟩, h3⟩, h4⟩, h5, h6⟩
    exact ⟨h1, h2, fun a b hp => h3 (a, b) hp, h4, h5, h6⟩
  · rintro ⟨h1, h2, h3, h4, h5, h6⟩
    exact ⟨⟨⟨⟨h1, h2⟩, fun p hp => h3 p.1 p.2 hp⟩, h4⟩, h5, h6⟩
theorem relP_asc (n : Nat) (F : Nat → Nat → Bool) : (relP n F).Pairwise fun p q => plt p q = true := by
  unfold relP
  rw [List.pairwise_flatMap]
  refine ⟨fun a ha => ?_, ?_⟩
  · unfold relR
    rw [List.pairwise_map]
    refine List.Pairwise.imp (R := fun x y => x < y) ?_ (List.Pairwise.filter _ List.pairwise_lt_range)
    intro x y h
    simp [plt, h]
  · refine List.Pairwise.imp (R := fun x y => x < y) ?_ List.pairwise_lt_range
    intro x y h p hp q hq
    unfold relR at hp hq
    obtain ⟨p2, _, rfl⟩ := List.mem_map.mp hp
    obtain ⟨q2, _, rfl⟩ := List.mem_map.mp hq
    simp [plt, h]
    omega
theorem od_relP {n : Nat} {F : Nat → Nat → Bool} (h1 : 1 ≤ n) (h8 : n ≤ 8) (hi : ∀ a, a < n → F a a = false) (ht : ∀ a b c, a < n → b < n → c < n → F a b = true → F b c = true → F a c = true) : Od n (relP n F) where
  pos := h1
  le8 := h8
  bd := fun a b h => ⟨(mem_relP.mp h).1, (mem_relP.mp h).2.1⟩
  asc := relP_asc n F
  irr := fun a b h e => by
    obtain ⟨h1, h2, h3⟩ := mem_relP.mp h
    subst e
    rw [hi a h1] at h3; cases h3
  tr := fun a b c h g => by
    obtain ⟨h1, h2, h3⟩ := mem_relP.mp h
    obtain ⟨g1, g2, g3⟩ := mem_relP.mp g
    exact mem_relP.mpr ⟨h1, g2, ht a b c h1 h2 g2 h3 g3⟩
theorem Od.len {n : Nat} {ps : List (Nat × Nat)} (h : Od n ps) : ps.length ≤ 64 := by
  have nd : ps.Nodup := h.asc.imp fun {a b} hab e => by
    subst e; unfold plt at hab; simp at hab
  have sub : ∀ p ∈ ps, p ∈ (List.range 8).flatMap fun a => (List.range 8).map fun b => (a, b) := fun p hp => by
    obtain ⟨a, b⟩ := p
    have := h.bd a b hp
    have := h.le8
    simp only [List.mem_flatMap, List.mem_range, List.mem_map]
    exact ⟨a, by omega, b, by omega, rfl⟩
  exact nodup_le nd sub
theorem Od.b {n : Nat} {ps : List (Nat × Nat)} (h : Od n ps) : ordB n ps = true := od_iff.mpr h
theorem Od.check {n : Nat} {ps : List (Nat × Nat)} (h : Od n ps) : fn_check_order [oD n ps] = .ok .none := check_ok n ps (by have := h.len; omega) h.b
theorem in_psT (ps : List (Nat × Nat)) (p : Nat × Nat) : fIn (pD p) (psD ps) = some (.bool (decide (p ∈ ps))) := by
  rw [fInT_sh (k := 2) (sh_pD p).up (sh_psD ps), any_pD ps p]
theorem notin_psT (ps : List (Nat × Nat)) (p : Nat × Nat) : fNotIn (pD p) (psD ps) = some (.bool (!decide (p ∈ ps))) := by
  have : fNotIn (pD p) (psD ps) = some (.bool (xor true ((ps.map pD).any fun z => PyData.eqv z (pD p)))) := by
    show (if (SeqAt.shaped _ && SeqAt.shaped _) = true then _ else _) = _
    rw [(sh_pD p).s (by decide), (sh_psD ps).s (by decide)]; rfl
  rw [this, any_pD]; simp
theorem sh_psL (ps : List (Nat × Nat)) : Sh 2 (.list (ps.map pD)) := sh_list fun d hd => by
  obtain ⟨p, _, rfl⟩ := List.mem_map.mp hd
  exact sh_pD p
theorem in_psL (ps : List (Nat × Nat)) (p : Nat × Nat) : fIn (pD p) (.list (ps.map pD)) = some (.bool (decide (p ∈ ps))) := by
  rw [fInL_sh (k := 2) (sh_pD p).up (sh_psL ps), any_pD ps p]
theorem notin_psL (ps : List (Nat × Nat)) (p : Nat × Nat) : fNotIn (pD p) (.list (ps.map pD)) = some (.bool (!decide (p ∈ ps))) := by
  have : fNotIn (pD p) (.list (ps.map pD)) = some (.bool (xor true ((ps.map pD).any fun z => PyData.eqv z (pD p)))) := by
    show (if (SeqAt.shaped _ && SeqAt.shaped _) = true then _ else _) = _
    rw [(sh_pD p).s (by decide), (sh_psL ps).s (by decide)]; rfl
  rw [this, any_pD]; simp
theorem any_nD (xs : List Nat) (x : Nat) : ((xs.map nD).any fun z => PyData.eqv z (nD x)) = decide (x ∈ xs) := by
  rw [List.any_map]
  have : ((fun z => PyData.eqv z (nD x)) ∘ nD) = fun q => decide (q = x) := by
    funext q; simp only [Function.comp, nD, eqv_int]; by_cases h : q = x <;> simp [h]; omega
  rw [this]
  by_cases h : x ∈ xs
  · rw [decide_eq_true h, List.any_eq_true]; exact ⟨x, h, by simp⟩
  · rw [decide_eq_false h, List.any_eq_false]; intro q hq; simp; rintro rfl; exact h hq
theorem sh_nsL (xs : List Nat) : Sh 1 (.list (xs.map nD)) := sh_list fun d hd => by
  obtain ⟨p, _, rfl⟩ := List.mem_map.mp hd
  exact sh_int
theorem sh_nsT (xs : List Nat) : Sh 1 (.tuple (xs.map nD)) := sh_tuple fun d hd => by
  obtain ⟨p, _, rfl⟩ := List.mem_map.mp hd
  exact sh_int
theorem notin_nsL (xs : List Nat) (x : Nat) : fNotIn (nD x) (.list (xs.map nD)) = some (.bool (!decide (x ∈ xs))) := by
  have : fNotIn (nD x) (.list (xs.map nD)) = some (.bool (xor true ((xs.map nD).any fun z => PyData.eqv z (nD x)))) := by
    show (if (SeqAt.shaped _ && SeqAt.shaped _) = true then _ else _) = _
    rw [(sh_int (k := 0)).s (by decide), (sh_nsL xs).s (by decide)]; rfl
  rw [this, any_nD]; simp
theorem atNs {xs : List Nat} {k : Nat} (h : k < xs.length) : atI (xs.map nD) (k : Int) = some (nD xs[k]) := by
  rw [DX.atI_nat, List.getElem?_map, List.getElem?_eq_getElem h]; rfl
/-! ### _law_order -/
theorem names_step {ns : List Int} {ts : List D} {n b : Nat} {xs : List Nat} (k : D) (hn : n ≤ 8) (ht : Town ns b ts) (hb : b < 2 ^ 50) (hl : xs.length < n) (hx : ∀ x ∈ xs, x < n) (hd : xs.Nodup) :
    ∃ x ts', B1__law_order_of (.list (ns.map .int)) (nD n) k (xs.map nD) ts = .ok (.next ((xs ++ [x]).map nD)) ts' ∧ x < n ∧ x ∉ xs ∧ Town ns (b + 1) ts' := by
  have hr := rngN n (by omega)
  have hc : nComp (nRange1 (nCons (nC (nD n)) nNil)) g1 (fun name => nB (nCmR fNotIn (nC name) (xs.map nD))) (fun name => nC name) ts = .ok (((List.range n).filter fun x => !decide (x ∈ xs)).map nD) ts :=
    nComp_pure (e := nD) (fun x => !decide (x ∈ xs)) nD (List.range n) (by simp [hr]) (by simp; omega) fun x hx => ⟨_, rfl, by simp [notin_nsL], fun _ => rfl⟩
  have hne : ∃ x, x < n ∧ x ∉ xs := by
    by_cases h : ∃ x, x < n ∧ x ∉ xs
    · exact h
    · exfalso
      have sub : ∀ x ∈ List.range n, x ∈ xs := fun x hx' => by
        by_cases hm : x ∈ xs
        · exact hm
        · exact absurd ⟨x, List.mem_range.mp hx', hm⟩ h
      have := nodup_le List.nodup_range sub
      rw [List.length_range] at this
      omega
  generalize hcs : (List.range n).filter (fun x => !decide (x ∈ xs)) = cs at hc
  have hcl : 0 < cs.length := by
    obtain ⟨x, h1, h2⟩ := hne
    have : x ∈ cs := by rw [← hcs, List.mem_filter]; exact ⟨List.mem_range.mpr h1, by simp [h2]⟩
    cases cs with
    | nil => cases this
    | cons _ _ => simp
  have hcl2 : cs.length ≤ 8 := by
    rw [← hcs]
    have := List.length_filter_le (fun x => !decide (x ∈ xs)) (List.range n)
    rw [List.length_range] at this
    omega
  obtain ⟨d, ts', e1, hd', ht'⟩ := pick_ok ht (by omega) (cs.map nD) (by simpa using hcl) (by rw [List.length_map]; omega)
  obtain ⟨x, hxc, rfl⟩ := List.mem_map.mp hd'
  rw [← hcs, List.mem_filter] at hxc
  have e2 := frtT_ok3 e1
  refine ⟨x, ts', ?_, List.mem_range.mp hxc.1, by simpa using hxc.2, ht'⟩
  unfold B1__law_order_of
  simp only [nApd_ap, nCallT_ap, nC_ap, bR_ok, bT_ap, nCons_ap, nLd_ap, hc, pT_ap, nNil_ap, e2]
  rw [if_pos (by rw [List.length_map]; show xs.length < 16777216; omega)]
  simp
theorem pairs_step {ns : List Int} {ts : List D} {n b a c way : Nat} {ps : List (Nat × Nat)} (hn : n ≤ 8) (ht : Town ns b ts) (hb : b < 2 ^ 50) (hw : way < 3) (hl : ps.length ≤ 1000) :
    ∃ ps' ts', B2__law_order_of (.list (ns.map .int)) (nD n) (nD way) (nD a) (nD c) (ps.map pD) ts = .ok (.next (ps'.map pD)) ts' ∧ (ps' = ps ∨ ps' = ps ++ [(a, c)]) ∧ Town ns (b + 1) ts' := by
  have hlt : ps.length < sizeLine := by show ps.length < 16777216; omega
  obtain ⟨r, ts1, e1, g1, t1⟩ := draw_nat ht (by omega) 5 (by decide) (by decide)
  obtain ⟨r2, ts2, e2, g2, t2⟩ := draw_nat ht (by omega) 3 (by decide) (by decide)
  have e1 := frtT_ok3 e1
  have e2 := frtT_ok3 e2
  unfold B2__law_order_of
  by_cases h2 : way = 2
  · subst h2
    by_cases h3 : (a : Int) < ((n : Int) + 1) / 2 ∧ ((n : Int) + 1) / 2 ≤ c
    · by_cases h4 : 0 < r2
      · refine ⟨_, ts2, ?_, .inr rfl, t2⟩
        have e2' : frtT (gqT 3 fn__law_draw) (.list (ns.map .int)) [.int 3] ts = .ok (.int r2) ts2 := e2
        simp [gDiv_ok, h3.1, h3.2, e2', h4, hlt]
      · refine ⟨_, ts2, ?_, .inl rfl, t2⟩
        have e2' : frtT (gqT 3 fn__law_draw) (.list (ns.map .int)) [.int 3] ts = .ok (.int r2) ts2 := e2
        simp [gDiv_ok, h3.1, h3.2, e2', h4]
    · refine ⟨_, ts, ?_, .inl rfl, ht.mono (Nat.le_succ _)⟩
      by_cases h5 : (a : Int) < ((n : Int) + 1) / 2
      · have h6 : ¬ ((n : Int) + 1) / 2 ≤ c := fun z => h3 ⟨h5, z⟩
        simp [gDiv_ok, h5, h6]
      · simp [gDiv_ok, h5]
  · have h5 : (way : Int) < 2 := by omega
    have h6 : ¬ (way : Int) = 2 := by omega
    have e1' : frtT (gqT 3 fn__law_draw) (.list (ns.map .int)) [.int 5] ts = .ok (.int r) ts1 := e1
    by_cases h7 : (r : Int) < 1 + way
    · refine ⟨_, ts1, ?_, .inr rfl, t1⟩
      simp [h5, e1', h7, hlt]
    · refine ⟨_, ts1, ?_, .inl rfl, t1⟩
      simp [h5, e1', h7, h6]
theorem warsh_od {n : Nat} {f : Nat → Nat → Bool} (h1 : 1 ≤ n) (h8 : n ≤ 8) (r : Nat → Nat) (h : ∀ a b, f a b = true → r a < r b) : Od n (relP n (warsh n f)) := by
  have hr : ∀ {a b}, warsh n f a b = true → r a < r b := fun {a b} hw => warsh_least (R := fun a b => r a < r b) h (fun _ _ _ x y => Nat.lt_trans x y) hw
  refine od_relP h1 h8 (fun a _ => ?_) fun a b c _ hb _ x y => warsh_trans hb x y
  cases q : warsh n f a a with
  | false => rfl
  | true => exact absurd (hr q) (Nat.lt_irrefl _)
theorem idx_nodup {xs : List Nat} (h : xs.Nodup) {i : Nat} (hi : i < xs.length) : xs.idxOf xs[i] = i := by
  have h1 : xs.idxOf xs[i] < xs.length := List.idxOf_lt_length_of_mem (List.getElem_mem hi)
  have h2 : xs[xs.idxOf xs[i]] = xs[i] := List.getElem_idxOf h1
  by_cases e : xs.idxOf xs[i] = i
  · exact e
  · exfalso
    rcases Nat.lt_or_gt_of_ne e with z | z
    · exact (List.pairwise_iff_getElem.mp h _ _ h1 hi z) h2
    · exact (List.pairwise_iff_getElem.mp h _ _ hi h1 z) h2.symm
theorem order_of_ok {ns : List Int} {ts : List D} {n b way : Nat} (h1 : 1 ≤ n) (hn : n ≤ 8) (ht : Town ns b ts) (hb : b < 2 ^ 49) (hw : way < 3) :
    ∃ ps ts', q__law_order_of (.list (ns.map .int)) ts [nD n, nD way] = .ok (oD n ps) ts' ∧ Od n ps ∧ Town ns (b + 80) ts' := by
  have hr := rngN n (by omega)
  obtain ⟨s1, t1, e1, xs, rfl, hxl, hxb, hxd, ht1⟩ := forN_inv (β := Unit) (f := g1) (e := nD) (body := B1__law_order_of (.list (ns.map .int)) (nD n)) (fun k s t => ∃ xs : List Nat, s = xs.map nD ∧ xs.length = k ∧ (∀ x ∈ xs, x < n) ∧ xs.Nodup ∧ Town ns (b + k) t) (List.range n) 0 [] ts ⟨[], rfl, rfl, fun _ h => (by cases h), List.nodup_nil, ht⟩ (by
    rintro i y hy s t ⟨xs, rfl, hxl, hxb, hxd, ht'⟩
    obtain ⟨rfl, hi⟩ := range_get hy
    rw [Nat.zero_add] at *
    obtain ⟨x, t', e, hx, hx2, ht2⟩ := names_step (nD y) hn ht' (by omega) (by omega) hxb hxd
    refine ⟨_, _, t', rfl, .inl e, xs ++ [x], rfl, by simp [hxl], fun z hz => ?_, ?_, ht2⟩
    · rcases List.mem_append.mp hz with h | h
      · exact hxb z h
      · rw [List.mem_singleton.mp h]; exact hx
    · rw [List.nodup_append]
      exact ⟨hxd, by simp, fun a ha c hc e => by rw [List.mem_singleton.mp hc] at e; subst e; exact hx2 ha⟩)
  rw [Nat.zero_add, List.length_range] at hxl ht1
  have inner : ∀ (a : Nat) (ps : List (Nat × Nat)) (c : Nat) (t : List D), a < n → (∀ p ∈ ps, p.1 < p.2 ∧ p.2 < n) → ps.length ≤ 8 * a → Town ns (b + 8 + 8 * a) t → ∃ (ps' : List (Nat × Nat)) (t' : List D), B3__law_order_of (.list (ns.map .int)) (nD n) (nD way) (nD a) (ps.map pD) t = .ok (.next (ps'.map pD)) t' ∧ (∀ p ∈ ps', p.1 < p.2 ∧ p.2 < n) ∧ ps'.length ≤ 8 * (a + 1) ∧ Town ns (b + 8 + 8 * (a + 1)) t' := by
    intro a ps c t ha hps hpl htt
    obtain ⟨s', t', e, ps', rfl, hp', hl', ht'⟩ := forN_inv (β := List D) (f := g1) (e := fun i : Nat => nD (a + 1 + i)) (body := B2__law_order_of (.list (ns.map .int)) (nD n) (nD way) (nD a)) (fun k s t => ∃ ps' : List (Nat × Nat), s = ps'.map pD ∧ (∀ p ∈ ps', p.1 < p.2 ∧ p.2 < n) ∧ ps'.length ≤ 8 * a + k ∧ Town ns (b + 8 + 8 * a + k) t) (List.range (n - (a + 1))) 0 (ps.map pD) t ⟨ps, rfl, hps, hpl, htt⟩ (by
      rintro i y hy s t ⟨ps', rfl, hp', hl', ht'⟩
      obtain ⟨rfl, hi⟩ := range_get hy
      rw [Nat.zero_add] at *
      obtain ⟨ps2, t2, e, hor, ht2⟩ := pairs_step (a := a) (c := a + 1 + y) (ps := ps') hn ht' (by omega) hw (by omega)
      refine ⟨_, _, t2, rfl, .inl e, ps2, rfl, ?_, ?_, ht2⟩
      · rcases hor with rfl | rfl
        · exact hp'
        · intro p hp
          rcases List.mem_append.mp hp with h | h
          · exact hp' p h
          · rw [List.mem_singleton.mp h]; show a < a + 1 + y ∧ a + 1 + y < n; omega
      · rcases hor with rfl | rfl
        · omega
        · rw [List.length_append, List.length_singleton]; omega)
    rw [Nat.zero_add, List.length_range] at hl' ht'
    refine ⟨ps', t', ?_, hp', by omega, ht'.mono (by omega)⟩
    have hr2 := rngN2 (a + 1) n (by omega) (by omega)
    have ec : (((a + 1 : Nat) : Int)) = (a : Int) + 1 := by omega
    rw [ec] at hr2
    unfold B3__law_order_of
    simp only [nThen_ap, bT_ap, nRange2_ap, nCons_ap, nBin_ap, nC_ap, bR_ok, fAdd_int, lT_some, pT_ap, nNil_ap, hr2, e, thenT_next, nNext_ap]
  obtain ⟨s2, t2, e2, ps, rfl, hps, hpl, ht2⟩ := forN_inv (β := Unit) (f := g1) (e := nD) (body := B3__law_order_of (.list (ns.map .int)) (nD n) (nD way)) (fun k s t => ∃ ps : List (Nat × Nat), s = ps.map pD ∧ (∀ p ∈ ps, p.1 < p.2 ∧ p.2 < n) ∧ ps.length ≤ 8 * k ∧ Town ns (b + 8 + 8 * k) t) (List.range n) 0 [] t1 ⟨[], rfl, fun _ h => (by cases h), by simp, ht1.mono (by omega)⟩ (by
    rintro i y hy s t ⟨ps, rfl, hps, hpl, ht'⟩
    obtain ⟨rfl, hi⟩ := range_get hy
    rw [Nat.zero_add] at *
    obtain ⟨ps', t', e, h1, h2, h3⟩ := inner y ps 0 t hi hps hpl ht'
    exact ⟨_, _, t', rfl, .inl e, ps', rfl, h1, h2, h3⟩)
  rw [Nat.zero_add, List.length_range] at hpl ht2
  have key : ∀ p ∈ ps, p.1 < xs.length ∧ p.2 < xs.length := fun p hp => by have := hps p hp; omega
  let g : Nat × Nat → Nat × Nat := fun p => (xs.getD p.1 0, xs.getD p.2 0)
  have hc : nComp (nSeq (nC (.list (ps.map pD)))) g2 (fun _ => nYes) (fun p => nTup (nCons (nBin fIx (nC (.list (xs.map nD))) (nC p.1)) (nCons (nBin fIx (nC (.list (xs.map nD))) (nC p.2)) nNil))) t2 = .ok (ps.map fun p => pD (g p)) t2 :=
    nComp_map (e := pD) (fun p => pD (g p)) ps (by simp) (by show ps.length ≤ 16777216; omega) fun p hp => ⟨_, rfl, by
      have k1 := key p hp
      have a1 := atNs k1.1
      have a2 := atNs k1.2
      have b1 : xs.getD p.1 0 = xs[p.1] := by rw [List.getD_eq_getElem?_getD, List.getElem?_eq_getElem k1.1]; rfl
      have b2 : xs.getD p.2 0 = xs[p.2] := by rw [List.getD_eq_getElem?_getD, List.getElem?_eq_getElem k1.2]; rfl
      show _ = RT.ok (pD (xs.getD p.1 0, xs.getD p.2 0)) t2
      rw [b1, b2]
      simp [a1, a2]⟩
  rw [show (ps.map fun p => pD (g p)) = (ps.map g).map pD by rw [List.map_map]; rfl] at hc
  have hcl := closure_ok (n := n) hn (P := .list ((ps.map g).map pD)) (f := fun a b => decide ((a, b) ∈ ps.map g)) fun a b => in_psL (ps.map g) (a, b)
  refine ⟨relP n (warsh n fun a b => decide ((a, b) ∈ ps.map g)), t2, ?_, warsh_od h1 hn (fun x => xs.idxOf x) ?_, ht2.mono (by omega)⟩
  · unfold q__law_order_of
    simp only [finT_eq, bT_ap, nLst_ap, nNil_ap, bR_ok, gdT_ap, List.length_nil, Nat.zero_le, if_true, nThen_ap, nRange1_ap, nCons_ap, nC_ap, pT_ap, hr, lT_some, e1, thenT_next, e2, nRet_ap, nCall_ap, nLd_ap, hc, hcl, frT_ok, finRT_ret]
  · intro a b' hab
    obtain ⟨p, hp, e⟩ := List.mem_map.mp (of_decide_eq_true hab)
    have k1 := key p hp
    have b1 : xs.getD p.1 0 = xs[p.1] := by rw [List.getD_eq_getElem?_getD, List.getElem?_eq_getElem k1.1]; rfl
    have b2 : xs.getD p.2 0 = xs[p.2] := by rw [List.getD_eq_getElem?_getD, List.getElem?_eq_getElem k1.2]; rfl
    obtain ⟨rfl, rfl⟩ := Prod.mk.inj (show (xs.getD p.1 0, xs.getD p.2 0) = (a, b') from e)
    show xs.idxOf (xs.getD p.1 0) < xs.idxOf (xs.getD p.2 0)
    rw [b1, b2, idx_nodup hxd k1.1, idx_nodup hxd k1.2]
    exact (hps p hp).1
/-- a drawn order -/
theorem lorder_ok {ns : List Int} {ts : List D} {b m : Nat} (h1 : 1 ≤ m) (hm : m ≤ 8) (ht : Town ns b ts) (hb : b < 2 ^ 48) :
    ∃ n ps ts', q__law_order (.list (ns.map .int)) ts [nD m] = .ok (oD n ps) ts' ∧ n ≤ m ∧ Od n ps ∧ Town ns (b + 82) ts' := by
  obtain ⟨r, t1, e1, g1, ht1⟩ := draw_nat ht (by omega) m (by omega) (by omega)
  obtain ⟨w, t2, e2, g2, ht2⟩ := draw_nat ht1 (by omega) 3 (by decide) (by decide)
  obtain ⟨ps, t3, e3, ho, ht3⟩ := order_of_ok (n := 1 + r) (way := w) (by omega) (by omega) ht2 (by omega) (by omega)
  have e1 := frtT_ok3 e1
  have e2' : frtT (gqT 3 fn__law_draw) (.list (ns.map .int)) [.int 3] t1 = .ok (.int w) t2 := frtT_ok3 e2
  have e3 := frtT_ok e3
  have ec : ((1 + r : Nat) : Int) = 1 + (r : Int) := by omega
  refine ⟨1 + r, ps, t3, ?_, by omega, ho, ht3.mono (by omega)⟩
  unfold q__law_order
  simp only [nD, ec] at e3
  simp only [finT_eq, bT_ap, nBin_ap, nC_ap, bR_ok, nCallT_ap, nCons_ap, nNil_ap, pT_ap, e1, fAdd_int, lT_some, nRet_ap, e2', e3, finRT_ret]
/-! ### slices, sums of tuples, empty lists -/
theorem sl_to {α : Type} (e : α → D) (xs : List α) (k : Nat) (h : k ≤ xs.length) : fSl (.tuple (xs.map e)) none (some (k : Int)) = some (.tuple ((xs.take k).map e)) := by
  show some (PyData.tuple (DX.cutD _ _ _)) = _
  unfold DX.cutD
  rw [HT.sIx_none, HT.sIx_nat, List.drop_zero, List.length_map, ← List.map_take, Nat.sub_zero, Nat.min_eq_left h]
theorem sl_from {α : Type} (e : α → D) (xs : List α) (k : Nat) (h : k ≤ xs.length) : fSl (.tuple (xs.map e)) (some (k : Int)) none = some (.tuple ((xs.drop k).map e)) := by
  show some (PyData.tuple (DX.cutD _ _ _)) = _
  unfold DX.cutD
  rw [HT.sIx_none, HT.sIx_nat, List.length_map, Nat.min_eq_left h, ← List.map_drop, List.take_of_length_le (by simp)]
theorem add_T {α : Type} (e : α → D) (xs ys : List α) (h : xs.length + ys.length ≤ 1000000) : fAdd (.tuple (xs.map e)) (.tuple (ys.map e)) = some (.tuple ((xs ++ ys).map e)) := by
  show (if _ then _ else _) = _
  rw [if_pos (by simp; omega), List.map_append]
theorem eq_nilL {k : Nat} {ds : List D} (h : Sh k (.list ds)) (hk : k ≤ 64 := by decide) : fEq (.list ds) (.list []) = some (.bool (decide (ds = []))) := by
  rw [fEq_sh h ⟨by rw [PyData.canLay0, PyData.canLayAll0], by rw [PyData.depth, PyData.depthAll]; have := h.2; rw [PyData.depth] at this; omega⟩ hk, eqv_list]
  cases ds <;> simp
theorem ne_nilL {k : Nat} {ds : List D} (h : Sh k (.list ds)) (hk : k ≤ 64 := by decide) : fNe (.list ds) (.list []) = some (.bool (!decide (ds = []))) := by
  rw [fNe_sh h ⟨by rw [PyData.canLay0, PyData.canLayAll0], by rw [PyData.depth, PyData.depthAll]; have := h.2; rw [PyData.depth] at this; omega⟩ hk, eqv_list]
  cases ds <;> simp
end LB

set_option maxHeartbeats 4000000
namespace LW
open PySem PySem.Spec PyProof.Rows L2 DX NX LB
def top (i : Nat) : Stmt := PySem.Challenge.pw_orderdims_k01_order_ends.main.body.getD i (.Pass ⟨0, 0, 0, 0⟩)

abbrev s__law_bad_orders : SS := ⟨["bads"], defScope (top 153), none⟩
def m__law_bad_orders : MS := (sSeq (sSet 0 (mLd (mLst (mCons (mC .none) (mCons (mC (.int 5)) (mCons (mTup mNil) (mCons (mC (.str (PySem.Str.ofString "3"))) (mCons (mTup (mCons (mC (.int 3)) mNil)) (mCons (mLd (mLst (mCons (mC (.int 3)) (mCons (mTup mNil) mNil)))) (mCons (mTup (mCons (mC (.int 3)) (mCons (mLd (mLst mNil)) mNil))) (mCons (mTup (mCons (mC (.int 0)) (mCons (mTup mNil) mNil))) (mCons (mTup (mCons (mC (.int 9)) (mCons (mTup mNil) mNil))) (mCons (mTup (mCons (mC (.bool true)) (mCons (mTup mNil) mNil))) (mCons (mTup (mCons (mC (.int 3)) (mCons (mTup (mCons (mTup (mCons (mC (.int 0)) (mCons (mC (.int 0)) mNil))) mNil)) mNil))) (mCons (mTup (mCons (mC (.int 3)) (mCons (mTup (mCons (mTup (mCons (mC (.int 0)) (mCons (mC (.int 3)) mNil))) mNil)) mNil))) mNil)))))))))))))))
    (sSeq (sSet 0 (mLd (mBinL fCat (mVar 0) (mLd (mLst (mCons (mTup (mCons (mC (.int 3)) (mCons (mTup (mCons (mTup (mCons (mC (.int 0)) (mCons (mC (.int 1)) mNil))) (mCons (mTup (mCons (mC (.int 1)) (mCons (mC (.int 2)) mNil))) mNil))) mNil))) (mCons (mTup (mCons (mC (.int 3)) (mCons (mTup (mCons (mTup (mCons (mC (.int 0)) (mCons (mC (.int 2)) mNil))) (mCons (mTup (mCons (mC (.int 0)) (mCons (mC (.int 1)) mNil))) mNil))) mNil))) (mCons (mTup (mCons (mC (.int 2)) (mCons (mTup (mCons (mTup (mCons (mC (.int 0)) (mCons (mC (.int 1)) mNil))) (mCons (mTup (mCons (mC (.int 0)) (mCons (mC (.int 1)) mNil))) mNil))) mNil))) (mCons (mTup (mCons (mC (.int 2)) (mCons (mTup (mCons (mTup (mCons (mC (.int 0)) (mCons (mC (.int 1)) mNil))) (mCons (mTup (mCons (mC (.int 1)) (mCons (mC (.int 0)) mNil))) mNil))) mNil))) mNil)))))))))
    (sSeq (sSet 0 (mLd (mBinL fCat (mVar 0) (mLd (mLst (mCons (mTup (mCons (mC (.int 2)) (mCons (mTup (mCons (mTup (mCons (mC (.int 0)) (mCons (mC (.bool true)) mNil))) mNil)) mNil))) (mCons (mTup (mCons (mC (.int 2)) (mCons (mTup (mCons (mLd (mLst (mCons (mC (.int 0)) (mCons (mC (.int 1)) mNil)))) mNil)) mNil))) (mCons (mTup (mCons (mC (.int 2)) (mCons (mTup (mCons (mTup (mCons (mC (.int 0)) (mCons (mC (.int 1)) (mCons (mC (.int 1)) mNil)))) mNil)) mNil))) (mCons (mTup (mCons (mC (.int 2)) (mCons (mTup (mCons (mTup (mCons (mUn fNeg (mC (.int 1))) (mCons (mC (.int 0)) mNil))) mNil)) mNil))) (mCons (mTup (mCons (mC (.int 2)) (mCons (mTup (mCons (mC .none) mNil)) mNil))) (mCons (mTup (mCons (mC (.int 3)) (mCons (mTup mNil) (mCons (mTup mNil) mNil)))) mNil)))))))))))
    (sRet (mLd (mBinL fCat (mVar 0) (mLd (mLst (mCons (mTup (mCons (mC (.int 2)) (mCons (mTup (mCons (mTup (mCons (mC (.int 0)) (mCons (mC (.str (PySem.Str.ofString "1"))) mNil))) mNil)) mNil))) (mCons (mTup (mCons (mC (.str (PySem.Str.ofString "2"))) (mCons (mTup mNil) mNil))) mNil))))))))))
def fn__law_bad_orders : List D → FR := runF 1 m__law_bad_orders
theorem S__law_bad_orders : FnScope ["bads"] [] (defScope (top 153)) := ⟨rfl, rfl, rfl, by decide +kernel, rfl, by decide +kernel, by decide +kernel⟩
theorem d__law_bad_orders {g : GC} {W : WX} {X : Cx} (bf : BF g)  (ok : Ok g s__law_bad_orders 0 W X) : DSs g W [] X (defBody (top 153)) m__law_bad_orders :=
  (dss_cons (ds_set ok 0 ((dl_lst (da_cons dm_none (da_cons dm_int (da_cons (dm_tup da_nil) (da_cons dm_str (da_cons (dm_tup (da_cons dm_int da_nil)) (da_cons ((dl_lst (da_cons dm_int (da_cons (dm_tup da_nil) da_nil)))).dm (da_cons (dm_tup (da_cons dm_int (da_cons ((dl_lst da_nil)).dm da_nil))) (da_cons (dm_tup (da_cons dm_int (da_cons (dm_tup da_nil) da_nil))) (da_cons (dm_tup (da_cons dm_int (da_cons (dm_tup da_nil) da_nil))) (da_cons (dm_tup (da_cons dm_bool (da_cons (dm_tup da_nil) da_nil))) (da_cons (dm_tup (da_cons dm_int (da_cons (dm_tup (da_cons (dm_tup (da_cons dm_int (da_cons dm_int da_nil))) da_nil)) da_nil))) (da_cons (dm_tup (da_cons dm_int (da_cons (dm_tup (da_cons (dm_tup (da_cons dm_int (da_cons dm_int da_nil))) da_nil)) da_nil))) da_nil)))))))))))))).dm)
    (dss_cons (ds_set ok 0 ((dl_cat ok (dm_var ok 0) ((dl_lst (da_cons (dm_tup (da_cons dm_int (da_cons (dm_tup (da_cons (dm_tup (da_cons dm_int (da_cons dm_int da_nil))) (da_cons (dm_tup (da_cons dm_int (da_cons dm_int da_nil))) da_nil))) da_nil))) (da_cons (dm_tup (da_cons dm_int (da_cons (dm_tup (da_cons (dm_tup (da_cons dm_int (da_cons dm_int da_nil))) (da_cons (dm_tup (da_cons dm_int (da_cons dm_int da_nil))) da_nil))) da_nil))) (da_cons (dm_tup (da_cons dm_int (da_cons (dm_tup (da_cons (dm_tup (da_cons dm_int (da_cons dm_int da_nil))) (da_cons (dm_tup (da_cons dm_int (da_cons dm_int da_nil))) da_nil))) da_nil))) (da_cons (dm_tup (da_cons dm_int (da_cons (dm_tup (da_cons (dm_tup (da_cons dm_int (da_cons dm_int da_nil))) (da_cons (dm_tup (da_cons dm_int (da_cons dm_int da_nil))) da_nil))) da_nil))) da_nil)))))).dm)).dm)
    (dss_cons (ds_set ok 0 ((dl_cat ok (dm_var ok 0) ((dl_lst (da_cons (dm_tup (da_cons dm_int (da_cons (dm_tup (da_cons (dm_tup (da_cons dm_int (da_cons dm_bool da_nil))) da_nil)) da_nil))) (da_cons (dm_tup (da_cons dm_int (da_cons (dm_tup (da_cons ((dl_lst (da_cons dm_int (da_cons dm_int da_nil)))).dm da_nil)) da_nil))) (da_cons (dm_tup (da_cons dm_int (da_cons (dm_tup (da_cons (dm_tup (da_cons dm_int (da_cons dm_int (da_cons dm_int da_nil)))) da_nil)) da_nil))) (da_cons (dm_tup (da_cons dm_int (da_cons (dm_tup (da_cons (dm_tup (da_cons (dm_neg dm_int) (da_cons dm_int da_nil))) da_nil)) da_nil))) (da_cons (dm_tup (da_cons dm_int (da_cons (dm_tup (da_cons dm_none da_nil)) da_nil))) (da_cons (dm_tup (da_cons dm_int (da_cons (dm_tup da_nil) (da_cons (dm_tup da_nil) da_nil)))) da_nil)))))))).dm)).dm)
    (dss_one (ds_ret ((dl_cat ok (dm_var ok 0) ((dl_lst (da_cons (dm_tup (da_cons dm_int (da_cons (dm_tup (da_cons (dm_tup (da_cons dm_int (da_cons dm_str da_nil))) da_nil)) da_nil))) (da_cons (dm_tup (da_cons dm_str (da_cons (dm_tup da_nil) da_nil))) da_nil)))).dm)).dm)))))

abbrev s__law_draw : SS := ⟨["script", "town", "limit", "at", "left", "number"], defScope (top 144), none⟩
theorem S__law_draw : FnScope ["script", "town", "limit", "at", "left", "number"] ["script", "town", "limit"] (defScope (top 144)) := ⟨rfl, rfl, rfl, by decide +kernel, rfl, by decide +kernel, by decide +kernel⟩
theorem d__law_draw {g : GC} {W : WX} {X : Cx} (bf : BF g)  (ok : Ok g s__law_draw 0 W X) : DSs g W [1] X (defBody (top 144)) m__law_draw :=
  (dss_cons (ds_putO ok 1 {} dm_int (dm_add ok (dm_ixO ok 1 {} dm_int) dm_int))
    (dss_cons (ds_if (dt_cmp (cr_eq ok) (dm_var ok 0) ((dl_lst da_nil)).dm) (dss_one (ds_ret (dm_mod (dm_div (dm_mul (dm_mul (dm_ixO ok 1 {} dm_int) (dm_ixO ok 1 {} dm_int)) dm_int) dm_int) (dm_var ok 2)))) dss_nil)
    (dss_cons (ds_set ok 3 (dm_mod (dm_ixO ok 1 {} dm_int) (dm_len ok bf (da_cons (dm_var ok 0) da_nil))))
    (dss_cons (ds_set ok 4 (dm_ixO ok 1 {} (dm_add ok dm_int (dm_var ok 3))))
    (dss_cons (ds_if ((dw_and (dt_cmp cr_ge (dm_ix ok (dm_var ok 0) (dm_var ok 3)) (dm_pow dm_int dm_int)) (dw_and1 (dt_cmp cr_gt (dm_var ok 4) dm_int)))).dt (dss_cons (ds_putO ok 1 {} (dm_add ok dm_int (dm_var ok 3)) (dm_div (dm_var ok 4) (dm_var ok 2)))
    (dss_one (ds_ret (dm_mod (dm_var ok 4) (dm_var ok 2))))) dss_nil)
    (dss_cons (ds_set ok 5 (dm_mod (dm_add ok (dm_ix ok (dm_var ok 0) (dm_var ok 3)) (dm_mul dm_int (dm_ixO ok 1 {} dm_int))) dm_int))
    (dss_cons (ds_set ok 5 (dm_mod (dm_pow (dm_var ok 5) dm_int) dm_int))
    (dss_one (ds_ret (dm_mod (dm_div (dm_mod (dm_add ok (dm_mul (dm_div (dm_var ok 5) dm_int) dm_int) (dm_var ok 5)) dm_int) dm_int) (dm_var ok 2)))))))))))

abbrev s__law_closure : SS := ⟨["size", "pairs", "found", "a", "b", "c", "rows"], defScope (top 151), none⟩
theorem S__law_closure : FnScope ["size", "pairs", "found", "a", "b", "c", "rows"] ["size", "pairs"] (defScope (top 151)) := ⟨rfl, rfl, rfl, by decide +kernel, rfl, by decide +kernel, by decide +kernel⟩
theorem d__law_closure {g : GC} {W : WX} {X : Cx} (bf : BF g)  (ok : Ok g s__law_closure 0 W X) : DSs g W [] X (defBody (top 151)) m__law_closure :=
  (dss_mat (lo := false) (own := [("a", 3)]) ok 2 { hi := (di_range1 ok bf (da_cons (dm_var ok 0) da_nil)), hg := fun _ ok1 => (dg_name ok1 3), he := fun _ ok1 => (dl_comp ok1 (lo := false) (own := [("b", 4)]) { hi := (di_range1 ok1 bf (da_cons (dm_var ok1 0) da_nil)), hg := fun _ ok2 => (dg_name ok2 4), ht := fun _ ok2 => dts_nil, he := fun _ ok2 => (dm_cmp (cr_in ok2) (dm_tup (da_cons (dm_var ok2 3) (da_cons (dm_var ok2 4) da_nil))) (dm_var ok2 1)) }) } (dms_for ok (di_range1 ok bf (da_cons (dm_var ok 0) da_nil)) (dg_name ok 5) (dms_for ok (di_range1 ok bf (da_cons (dm_var ok 0) da_nil)) (dg_name ok 3) (dms_for ok (di_range1 ok bf (da_cons (dm_var ok 0) da_nil)) (dg_name ok 4) (dms_cell ok 2 3 4 5 {} {} {} {})))) (dss_cons (ds_set ok 6 ((dl_lst da_nil)).dm)
    (dss_cons (ds_for (lo := false) ok (di_range1 ok bf (da_cons (dm_var ok 0) da_nil)) (dg_name ok 3) (dss_one (ds_set ok 6 ((dl_cat ok (dm_var ok 6) ((dl_comp ok (lo := false) (own := [("b", 4)]) { hi := (di_range1 ok bf (da_cons (dm_var ok 0) da_nil)), hg := fun _ ok1 => (dg_name ok1 4), ht := fun _ ok1 => (dts_one (dt_val (dm_ix ok1 (dm_ix ok1 (dm_var ok1 2) (dm_var ok1 3)) (dm_var ok1 4)))), he := fun _ ok1 => (dm_tup (da_cons (dm_var ok1 3) (da_cons (dm_var ok1 4) da_nil))) })).dm)).dm)))
    (dss_one (ds_ret (dm_tup (da_cons (dm_var ok 0) (da_cons (dm_tuple ok bf (da_cons (dm_var ok 6) da_nil)) da_nil))))))) (hs := ok.swc))

abbrev s__law_pick : SS := ⟨["script", "town", "choices"], defScope (top 145), none⟩
theorem S__law_pick : FnScope ["script", "town", "choices"] ["script", "town", "choices"] (defScope (top 145)) := ⟨rfl, rfl, rfl, by decide +kernel, rfl, by decide +kernel, by decide +kernel⟩
theorem d__law_pick {g : GC} {W : WX} {X : Cx} (bf : BF g) (F__law_draw : FT g "_law_draw" 1 ["script", "town", "limit"] fn__law_draw) (ok : Ok g s__law_pick 1 W X) : DSs g W [1] X (defBody (top 145)) m__law_pick :=
  (dss_one (ds_ret (dm_ix ok (dm_var ok 2) (dm_callTown ok F__law_draw (dm_var ok 0) 1 (da_cons (dm_len ok bf (da_cons (dm_var ok 2) da_nil)) da_nil)))))

abbrev s__law_order_of : SS := ⟨["script", "town", "size", "way", "names", "k", "name", "pairs", "a", "b"], defScope (top 150), none⟩
theorem S__law_order_of : FnScope ["script", "town", "size", "way", "names", "k", "name", "pairs", "a", "b"] ["script", "town", "size", "way"] (defScope (top 150)) := ⟨rfl, rfl, rfl, by decide +kernel, rfl, by decide +kernel, by decide +kernel⟩
theorem d__law_order_of {g : GC} {W : WX} {X : Cx} (bf : BF g) (F__law_closure : FD g "_law_closure" 1 ["size", "pairs"] fn__law_closure) (F__law_draw : FT g "_law_draw" 1 ["script", "town", "limit"] fn__law_draw) (F__law_pick : FT g "_law_pick" 2 ["script", "town", "choices"] fn__law_pick) (ok : Ok g s__law_order_of 2 W X) : DSs g W [1] X (defBody (top 150)) m__law_order_of :=
  (dss_cons (ds_setL ok 4 (dl_lst da_nil))
    (dss_cons (ds_for (lo := false) ok (di_range1 ok bf (da_cons (dm_var ok 2) da_nil)) (dg_name ok 5) (dss_one (ds_append ok 4 {} (dm_callTown ok F__law_pick (dm_var ok 0) 1 (da_cons ((dl_comp ok (lo := false) (own := [("name", 6)]) { hi := (di_range1 ok bf (da_cons (dm_var ok 2) da_nil)), hg := fun _ ok1 => (dg_name ok1 6), ht := fun _ ok1 => (dts_one (dt_cmpOR ok1 (cr_notin ok1) (dm_var ok1 6) 4 {})), he := fun _ ok1 => (dm_var ok1 6) })).dm da_nil)))))
    (dss_cons (ds_setL ok 7 (dl_lst da_nil))
    (dss_cons (ds_for (lo := false) ok (di_range1 ok bf (da_cons (dm_var ok 2) da_nil)) (dg_name ok 8) (dss_one (ds_for (lo := false) ok (di_range2 ok bf (da_cons (dm_add ok (dm_var ok 8) dm_int) (da_cons (dm_var ok 2) da_nil))) (dg_name ok 9) (dss_one (ds_if ((dw_and (dt_cmp (cr_lt ok) (dm_var ok 3) dm_int) (dw_and1 (dt_cmp (cr_lt ok) (dm_callTown ok F__law_draw (dm_var ok 0) 1 (da_cons dm_int da_nil)) (dm_add ok dm_int (dm_var ok 3)))))).dt (dss_one (ds_append ok 7 {} (dm_tup (da_cons (dm_var ok 8) (da_cons (dm_var ok 9) da_nil))))) (dss_one (ds_if ((dw_and (dt_cmp (cr_eq ok) (dm_var ok 3) dm_int) (dw_and (dt_chain (cr_lt ok) cr_le (dm_var ok 8) (dm_div (dm_add ok (dm_var ok 2) dm_int) dm_int) (dm_var ok 9)) (dw_and1 (dt_cmp cr_gt (dm_callTown ok F__law_draw (dm_var ok 0) 1 (da_cons dm_int da_nil)) dm_int))))).dt (dss_one (ds_append ok 7 {} (dm_tup (da_cons (dm_var ok 8) (da_cons (dm_var ok 9) da_nil))))) dss_nil)))))))
    (dss_one (ds_ret (dm_call ok F__law_closure (da_cons (dm_var ok 2) (da_cons ((dl_comp ok (lo := false) (own := [("a", 8), ("b", 9)]) { hi := (di_seq ok (dm_frz ok 7)), hg := fun _ ok1 => (dg_tup ok1 (dgs_cons (dg_name ok1 8) (dgs_cons (dg_name ok1 9) dgs_nil)) (gsCons_len (gsCons_len (fun _ _ _ h => gsNil_len h)))), ht := fun _ ok1 => dts_nil, he := fun _ ok1 => (dm_tup (da_cons (dm_ix ok1 (dm_frz ok1 4) (dm_var ok1 8)) (da_cons (dm_ix ok1 (dm_frz ok1 4) (dm_var ok1 9)) da_nil))) })).dm da_nil)))))))))

abbrev s__law_order : SS := ⟨["script", "town", "most", "size"], defScope (top 149), none⟩
theorem S__law_order : FnScope ["script", "town", "most", "size"] ["script", "town", "most"] (defScope (top 149)) := ⟨rfl, rfl, rfl, by decide +kernel, rfl, by decide +kernel, by decide +kernel⟩
theorem d__law_order {g : GC} {W : WX} {X : Cx} (bf : BF g) (F__law_draw : FT g "_law_draw" 1 ["script", "town", "limit"] fn__law_draw) (F__law_order_of : FT g "_law_order_of" 3 ["script", "town", "size", "way"] fn__law_order_of) (ok : Ok g s__law_order 3 W X) : DSs g W [1] X (defBody (top 149)) m__law_order :=
  (dss_cons (ds_set ok 3 (dm_add ok dm_int (dm_callTown ok F__law_draw (dm_var ok 0) 1 (da_cons (dm_var ok 2) da_nil))))
    (dss_one (ds_ret (dm_callTown ok F__law_order_of (dm_var ok 0) 1 (da_cons (dm_var ok 3) (da_cons (dm_callTown ok F__law_draw (dm_var ok 0) 1 (da_cons dm_int da_nil)) da_nil))))))

abbrev s_is_ascending : SS := ⟨["values", "k"], defScope (top 18), none⟩
theorem S_is_ascending : FnScope ["values", "k"] ["values"] (defScope (top 18)) := ⟨rfl, rfl, rfl, by decide +kernel, rfl, by decide +kernel, by decide +kernel⟩
theorem d_is_ascending {g : GC} {W : WX} {X : Cx} (bf : BF g)  (ok : Ok g s_is_ascending 0 W X) : DSs g W [] X (defBody (top 18)) m_is_ascending :=
  (dss_one (ds_ret (dm_all ok bf (da_cons ((dl_comp ok (lo := false) (own := [("k", 1)]) { hi := (di_range1 ok bf (da_cons (dm_sub (dm_len ok bf (da_cons (dm_var ok 0) da_nil)) dm_int) da_nil)), hg := fun _ ok1 => (dg_name ok1 1), ht := fun _ ok1 => dts_nil, he := fun _ ok1 => (dm_cmp (cr_lt ok1) (dm_ix ok1 (dm_var ok1 0) (dm_var ok1 1)) (dm_ix ok1 (dm_var ok1 0) (dm_add ok1 (dm_var ok1 1) dm_int))) })).dm da_nil))))

abbrev s_is_between : SS := ⟨["value", "low", "high"], defScope (top 16), none⟩
theorem S_is_between : FnScope ["value", "low", "high"] ["value", "low", "high"] (defScope (top 16)) := ⟨rfl, rfl, rfl, by decide +kernel, rfl, by decide +kernel, by decide +kernel⟩
theorem d_is_between {g : GC} {W : WX} {X : Cx} (bf : BF g)  (ok : Ok g s_is_between 0 W X) : DSs g W [] X (defBody (top 16)) m_is_between :=
  (dss_one (ds_ret (dm_and (dm_isi ok bf "int" "int" (by decide +kernel) bf.int (dm_var ok 0)) (dm_and (dm_not (dm_isi ok bf "bool" "bool" (by decide +kernel) bf.bool (dm_var ok 0))) (dm_one (dm_chain cr_le cr_le (dm_var ok 1) (dm_var ok 0) (dm_var ok 2)))))))

abbrev s_is_closed : SS := ⟨["pairs", "there", "pair", "a", "b", "c", "d"], defScope (top 19), none⟩
theorem S_is_closed : FnScope ["pairs", "there", "pair", "a", "b", "c", "d"] ["pairs"] (defScope (top 19)) := ⟨rfl, rfl, rfl, by decide +kernel, rfl, by decide +kernel, by decide +kernel⟩
theorem d_is_closed {g : GC} {W : WX} {X : Cx} (bf : BF g)  (ok : Ok g s_is_closed 0 W X) : DSs g W [] X (defBody (top 19)) m_is_closed :=
  (dss_cons (ds_setL ok 1 (dl_dictT ok bf (da_cons ((dl_comp ok (lo := false) (own := [("pair", 2)]) { hi := (di_seq ok (dm_var ok 0)), hg := fun _ ok1 => (dg_name ok1 2), ht := fun _ ok1 => dts_nil, he := fun _ ok1 => (dm_tup (da_cons (dm_var ok1 2) (da_cons dm_bool da_nil))) })).dm da_nil)))
    (dss_cons (ds_for (lo := false) ok (di_seq ok (dm_var ok 0)) (dg_tup ok (dgs_cons (dg_name ok 3) (dgs_cons (dg_name ok 4) dgs_nil)) (gsCons_len (gsCons_len (fun _ _ _ h => gsNil_len h)))) (dss_cons (ds_if (dt_cmp (cr_eq ok) (dm_var ok 3) (dm_var ok 4)) (dss_one (ds_ret dm_bool)) dss_nil)
    (dss_one (ds_for (lo := false) ok (di_seq ok (dm_var ok 0)) (dg_tup ok (dgs_cons (dg_name ok 5) (dgs_cons (dg_name ok 6) dgs_nil)) (gsCons_len (gsCons_len (fun _ _ _ h => gsNil_len h)))) (dss_one (ds_if ((dw_and (dt_cmp (cr_eq ok) (dm_var ok 4) (dm_var ok 5)) (dw_and1 (dt_notinT ok (dm_tup (da_cons (dm_var ok 3) (da_cons (dm_var ok 6) da_nil))) 1 {})))).dt (dss_one (ds_ret dm_bool)) dss_nil))))))
    (dss_one (ds_ret dm_bool))))

abbrev s_is_pair : SS := ⟨["size", "value", "one"], defScope (top 17), none⟩
theorem S_is_pair : FnScope ["size", "value", "one"] ["size", "value"] (defScope (top 17)) := ⟨rfl, rfl, rfl, by decide +kernel, rfl, by decide +kernel, by decide +kernel⟩
theorem d_is_pair {g : GC} {W : WX} {X : Cx} (bf : BF g) (F_is_between : FD g "is_between" 1 ["value", "low", "high"] fn_is_between) (ok : Ok g s_is_pair 1 W X) : DSs g W [] X (defBody (top 17)) m_is_pair :=
  (dss_one (ds_ret (dm_and (dm_isi ok bf "tuple" "tuple" (by decide +kernel) bf.tuple (dm_var ok 1)) (dm_and (dm_cmp (cr_eq ok) (dm_len ok bf (da_cons (dm_var ok 1) da_nil)) dm_int) (dm_one (dm_all ok bf (da_cons ((dl_comp ok (lo := false) (own := [("one", 2)]) { hi := (di_seq ok (dm_var ok 1)), hg := fun _ ok1 => (dg_name ok1 2), ht := fun _ ok1 => dts_nil, he := fun _ ok1 => (dm_call ok1 F_is_between (da_cons (dm_var ok1 2) (da_cons dm_int (da_cons (dm_sub (dm_var ok1 0) dm_int) da_nil)))) })).dm da_nil)))))))

abbrev s_is_order : SS := ⟨["value", "size", "pairs", "pair"], defScope (top 20), none⟩
theorem S_is_order : FnScope ["value", "size", "pairs", "pair"] ["value"] (defScope (top 20)) := ⟨rfl, rfl, rfl, by decide +kernel, rfl, by decide +kernel, by decide +kernel⟩
theorem d_is_order {g : GC} {W : WX} {X : Cx} (bf : BF g) (F_is_ascending : FD g "is_ascending" 1 ["values"] fn_is_ascending) (F_is_between : FD g "is_between" 1 ["value", "low", "high"] fn_is_between) (F_is_closed : FD g "is_closed" 1 ["pairs"] fn_is_closed) (F_is_pair : FD g "is_pair" 2 ["size", "value"] fn_is_pair) (c_MOST : ∃ t, g.mg "MOST" = some (.int 8 t)) (ok : Ok g s_is_order 2 W X) : DSs g W [] X (defBody (top 20)) m_is_order :=
  (dss_cons (ds_if ((dw_or (dt_not (dt_val (dm_isi ok bf "tuple" "tuple" (by decide +kernel) bf.tuple (dm_var ok 0)))) (dw_or (dt_cmp (cr_ne ok) (dm_len ok bf (da_cons (dm_var ok 0) da_nil)) dm_int) (dw_or1 (dt_not (dt_val (dm_call ok F_is_between (da_cons (dm_ix ok (dm_var ok 0) dm_int) (da_cons dm_int (da_cons (dm_gint ok c_MOST) da_nil)))))))))).dt (dss_one (ds_ret dm_bool)) dss_nil)
    (dss_cons (ds_unp (dm_var ok 0) (dg_tup ok (dgs_cons (dg_name ok 1) (dgs_cons (dg_name ok 2) dgs_nil)) (gsCons_len (gsCons_len (fun _ _ _ h => gsNil_len h)))))
    (dss_cons (ds_if ((dw_or (dt_not (dt_val (dm_isi ok bf "tuple" "tuple" (by decide +kernel) bf.tuple (dm_var ok 2)))) (dw_or1 (dt_not (dt_val (dm_all ok bf (da_cons ((dl_comp ok (lo := false) (own := [("pair", 3)]) { hi := (di_seq ok (dm_var ok 2)), hg := fun _ ok1 => (dg_name ok1 3), ht := fun _ ok1 => dts_nil, he := fun _ ok1 => (dm_call ok1 F_is_pair (da_cons (dm_var ok1 1) (da_cons (dm_var ok1 3) da_nil))) })).dm da_nil))))))).dt (dss_one (ds_ret dm_bool)) dss_nil)
    (dss_one (ds_ret (dm_and (dm_call ok F_is_ascending (da_cons (dm_var ok 2) da_nil)) (dm_one (dm_call ok F_is_closed (da_cons (dm_var ok 2) da_nil)))))))))

abbrev s_check_order : SS := ⟨["value"], defScope (top 21), none⟩
theorem S_check_order : FnScope ["value"] ["value"] (defScope (top 21)) := ⟨rfl, rfl, rfl, by decide +kernel, rfl, by decide +kernel, by decide +kernel⟩
theorem d_check_order {g : GC} {W : WX} {X : Cx} (bf : BF g) (F_is_order : FD g "is_order" 3 ["value"] fn_is_order) (X_InvalidOrder : ExF g "InvalidOrder") (ok : Ok g s_check_order 3 W X) : DSs g W [] X (defBody (top 21)) m_check_order :=
  (dss_one (ds_if (dt_not (dt_val (dm_call ok F_is_order (da_cons (dm_var ok 0) da_nil)))) (dss_one (ds_raise ok X_InvalidOrder)) dss_nil))

abbrev s_is_plain : SS := ⟨["value", "one"], defScope (top 55), none⟩
def c1_is_plain : M Ob := mComp 2 (iSeq (mVar 0)) (gSet 1) tYesM (mAndV (mIsi "int" (mVar 1)) (mNotV (mIsi "bool" (mVar 1)))) [1]
def m_is_plain : MS := (sSeq (sIf (tOrM (tNotM (asB (mIsi "tuple" (mVar 0)))) (asB (mBin fNe (mApp fLen (mCons (mVar 0) mNil)) (mC (.int 2))))) (sRet (mC (.bool false))) sNext)
    (sRet (mApp fAll (mCons (mLd c1_is_plain) mNil))))
def fn_is_plain : List D → FR := runF 2 m_is_plain
theorem S_is_plain : FnScope ["value", "one"] ["value"] (defScope (top 55)) := ⟨rfl, rfl, rfl, by decide +kernel, rfl, by decide +kernel, by decide +kernel⟩
theorem d_is_plain {g : GC} {W : WX} {X : Cx} (bf : BF g)  (ok : Ok g s_is_plain 0 W X) : DSs g W [] X (defBody (top 55)) m_is_plain :=
  (dss_cons (ds_if ((dw_or (dt_not (dt_val (dm_isi ok bf "tuple" "tuple" (by decide +kernel) bf.tuple (dm_var ok 0)))) (dw_or1 (dt_cmp (cr_ne ok) (dm_len ok bf (da_cons (dm_var ok 0) da_nil)) dm_int)))).dt (dss_one (ds_ret dm_bool)) dss_nil)
    (dss_one (ds_ret (dm_all ok bf (da_cons ((dl_comp ok (lo := false) (own := [("one", 1)]) { hi := (di_seq ok (dm_var ok 0)), hg := fun _ ok1 => (dg_name ok1 1), ht := fun _ ok1 => dts_nil, he := fun _ ok1 => (dm_and (dm_isi ok1 bf "int" "int" (by decide +kernel) bf.int (dm_var ok1 1)) (dm_one (dm_not (dm_isi ok1 bf "bool" "bool" (by decide +kernel) bf.bool (dm_var ok1 1))))) })).dm da_nil)))))

abbrev s_loose_pairs : SS := ⟨["order", "size", "pairs", "found", "a", "b"], defScope (top 26), none⟩
def b1_loose_pairs : MS := (sIf (tAndM (asB (mBin fNe (mVar 4) (mVar 5))) (tAndM (asB (mBin fNotIn (mTup (mCons (mVar 4) (mCons (mVar 5) mNil))) (mVar 2))) (asB (mBin fNotIn (mTup (mCons (mVar 5) (mCons (mVar 4) mNil))) (mVar 2))))) (sAppend 3 (mTup (mCons (mVar 4) (mCons (mVar 5) mNil)))) sNext)
def l1_loose_pairs : MS := sFor (iRange1 (mCons (mVar 1) mNil)) (gSet 5) b1_loose_pairs
def b2_loose_pairs : MS := l1_loose_pairs
def l2_loose_pairs : MS := sFor (iRange1 (mCons (mVar 1) mNil)) (gSet 4) b2_loose_pairs
def m_loose_pairs : MS := (sSeq (sUnp (mVar 0) (gTupD (gsCons (gSet 1) (gsCons (gSet 2) gsNil))))
    (sSeq (sSetL 3 (mLst mNil))
    (sSeq l2_loose_pairs
    (sRet (mApp fTuple (mCons (mFrz 3) mNil))))))
def fn_loose_pairs : List D → FR := runF 6 m_loose_pairs
theorem S_loose_pairs : FnScope ["order", "size", "pairs", "found", "a", "b"] ["order"] (defScope (top 26)) := ⟨rfl, rfl, rfl, by decide +kernel, rfl, by decide +kernel, by decide +kernel⟩
theorem d_loose_pairs {g : GC} {W : WX} {X : Cx} (bf : BF g)  (ok : Ok g s_loose_pairs 0 W X) : DSs g W [] X (defBody (top 26)) m_loose_pairs :=
  (dss_cons (ds_unp (dm_var ok 0) (dg_tup ok (dgs_cons (dg_name ok 1) (dgs_cons (dg_name ok 2) dgs_nil)) (gsCons_len (gsCons_len (fun _ _ _ h => gsNil_len h)))))
    (dss_cons (ds_setL ok 3 (dl_lst da_nil))
    (dss_cons (ds_for (lo := false) ok (di_range1 ok bf (da_cons (dm_var ok 1) da_nil)) (dg_name ok 4) (dss_one (ds_for (lo := false) ok (di_range1 ok bf (da_cons (dm_var ok 1) da_nil)) (dg_name ok 5) (dss_one (ds_if ((dw_and (dt_cmp (cr_ne ok) (dm_var ok 4) (dm_var ok 5)) (dw_and (dt_cmp (cr_notin ok) (dm_tup (da_cons (dm_var ok 4) (da_cons (dm_var ok 5) da_nil))) (dm_var ok 2)) (dw_and1 (dt_cmp (cr_notin ok) (dm_tup (da_cons (dm_var ok 5) (da_cons (dm_var ok 4) da_nil))) (dm_var ok 2)))))).dt (dss_one (ds_append ok 3 {} (dm_tup (da_cons (dm_var ok 4) (da_cons (dm_var ok 5) da_nil))))) dss_nil)))))
    (dss_one (ds_ret (dm_tuple ok bf (da_cons (dm_frz ok 3) da_nil)))))))

abbrev s_is_loose : SS := ⟨["order", "value", "some", "pair"], defScope (top 54), none⟩
def c1_is_loose : M Ob := mComp 4 (iSeq (mVar 1)) (gSet 3) tYesM (mAndV (mCall 1 fn_is_plain (mCons (mVar 3) mNil)) (mBin fIn (mVar 3) (mVar 2))) [3]
def m_is_loose : MS := (sSeq (sIf (tNotM (asB (mIsi "tuple" (mVar 1)))) (sRet (mC (.bool false))) sNext)
    (sSeq (sSet 2 (mCall 1 fn_loose_pairs (mCons (mVar 0) mNil)))
    (sRet (mApp fAll (mCons (mLd c1_is_loose) mNil)))))
def fn_is_loose : List D → FR := runF 4 m_is_loose
theorem S_is_loose : FnScope ["order", "value", "some", "pair"] ["order", "value"] (defScope (top 54)) := ⟨rfl, rfl, rfl, by decide +kernel, rfl, by decide +kernel, by decide +kernel⟩
theorem d_is_loose {g : GC} {W : WX} {X : Cx} (bf : BF g) (F_is_plain : FD g "is_plain" 1 ["value"] fn_is_plain) (F_loose_pairs : FD g "loose_pairs" 1 ["order"] fn_loose_pairs) (ok : Ok g s_is_loose 1 W X) : DSs g W [] X (defBody (top 54)) m_is_loose :=
  (dss_cons (ds_if (dt_not (dt_val (dm_isi ok bf "tuple" "tuple" (by decide +kernel) bf.tuple (dm_var ok 1)))) (dss_one (ds_ret dm_bool)) dss_nil)
    (dss_cons (ds_set ok 2 (dm_call ok F_loose_pairs (da_cons (dm_var ok 0) da_nil)))
    (dss_one (ds_ret (dm_all ok bf (da_cons ((dl_comp ok (lo := false) (own := [("pair", 3)]) { hi := (di_seq ok (dm_var ok 1)), hg := fun _ ok1 => (dg_name ok1 3), ht := fun _ ok1 => dts_nil, he := fun _ ok1 => (dm_and (dm_call ok1 F_is_plain (da_cons (dm_var ok1 3) da_nil)) (dm_one (dm_cmp (cr_in ok1) (dm_var ok1 3) (dm_var ok1 2)))) })).dm da_nil))))))

abbrev s_check_pairs : SS := ⟨["order", "value"], defScope (top 58), none⟩
def m_check_pairs : MS := (sIf (tOrM (tNotM (asB (mCall 2 fn_is_loose (mCons (mVar 0) (mCons (mVar 1) mNil))))) (tNotM (asB (mCall 1 fn_is_ascending (mCons (mVar 1) mNil))))) (sRaise "InvalidPairs") sNext)
def fn_check_pairs : List D → FR := runF 2 m_check_pairs
theorem S_check_pairs : FnScope ["order", "value"] ["order", "value"] (defScope (top 58)) := ⟨rfl, rfl, rfl, by decide +kernel, rfl, by decide +kernel, by decide +kernel⟩
theorem d_check_pairs {g : GC} {W : WX} {X : Cx} (bf : BF g) (F_is_ascending : FD g "is_ascending" 1 ["values"] fn_is_ascending) (F_is_loose : FD g "is_loose" 2 ["order", "value"] fn_is_loose) (X_InvalidPairs : ExF g "InvalidPairs") (ok : Ok g s_check_pairs 2 W X) : DSs g W [] X (defBody (top 58)) m_check_pairs :=
  (dss_one (ds_if ((dw_or (dt_not (dt_val (dm_call ok F_is_loose (da_cons (dm_var ok 0) (da_cons (dm_var ok 1) da_nil))))) (dw_or1 (dt_not (dt_val (dm_call ok F_is_ascending (da_cons (dm_var ok 1) da_nil))))))).dt (dss_one (ds_raise ok X_InvalidPairs)) dss_nil))

abbrev s_alternating_cycle : SS := ⟨["order", "pairs"], defScope (top 65), none⟩
def m_alternating_cycle : MS := (sSeq (sDrop (mCall 1 fn_check_order (mCons (mVar 0) mNil)))
    (sSeq (sDrop (mCall 2 fn_check_pairs (mCons (mVar 0) (mCons (mVar 1) mNil))))
    sBad))
def fn_alternating_cycle : List D → FR := runF 2 m_alternating_cycle
theorem S_alternating_cycle : FnScope ["order", "pairs"] ["order", "pairs"] (defScope (top 65)) := ⟨rfl, rfl, rfl, by decide +kernel, rfl, by decide +kernel, by decide +kernel⟩
theorem d_alternating_cycle {g : GC} {W : WX} {X : Cx} (bf : BF g) (F_check_order : FD g "check_order" 4 ["value"] fn_check_order) (F_check_pairs : FD g "check_pairs" 3 ["order", "value"] fn_check_pairs) (ok : Ok g s_alternating_cycle 4 W X) : DSs g W [] X (defBody (top 65)) m_alternating_cycle :=
  (dss_cons (ds_expr (dm_call ok F_check_order (da_cons (dm_var ok 0) da_nil)))
    (dss_cons (ds_expr (dm_call ok F_check_pairs (da_cons (dm_var ok 0) (da_cons (dm_var ok 1) da_nil))))
    (dss_one ds_never)))

abbrev s_antichain_partition : SS := ⟨["order"], defScope (top 104), none⟩
def m_antichain_partition : MS := (sSeq (sDrop (mCall 1 fn_check_order (mCons (mVar 0) mNil)))
    sBad)
def fn_antichain_partition : List D → FR := runF 1 m_antichain_partition
theorem S_antichain_partition : FnScope ["order"] ["order"] (defScope (top 104)) := ⟨rfl, rfl, rfl, by decide +kernel, rfl, by decide +kernel, by decide +kernel⟩
theorem d_antichain_partition {g : GC} {W : WX} {X : Cx} (bf : BF g) (F_check_order : FD g "check_order" 4 ["value"] fn_check_order) (ok : Ok g s_antichain_partition 4 W X) : DSs g W [] X (defBody (top 104)) m_antichain_partition :=
  (dss_cons (ds_expr (dm_call ok F_check_order (da_cons (dm_var ok 0) da_nil)))
    (dss_one ds_never))

abbrev s_balanced_pair : SS := ⟨["order", "whole", "best", "first", "second", "gap"], defScope (top 50), none⟩
def r4_balanced_pair : MS := sBad
def r3_balanced_pair : MS := (sSeq sBad
    r4_balanced_pair)
def r2_balanced_pair : MS := (sSeq sBad
    r3_balanced_pair)
def r1_balanced_pair : MS := (sSeq sBad
    r2_balanced_pair)
def m_balanced_pair : MS := (sSeq (sDrop (mCall 1 fn_check_order (mCons (mVar 0) mNil)))
    r1_balanced_pair)
def fn_balanced_pair : List D → FR := runF 6 m_balanced_pair
theorem S_balanced_pair : FnScope ["order", "whole", "best", "first", "second", "gap"] ["order"] (defScope (top 50)) := ⟨rfl, rfl, rfl, by decide +kernel, rfl, by decide +kernel, by decide +kernel⟩
theorem d_balanced_pair {g : GC} {W : WX} {X : Cx} (bf : BF g) (F_check_order : FD g "check_order" 4 ["value"] fn_check_order) (ok : Ok g s_balanced_pair 4 W X) : DSs g W [] X (defBody (top 50)) m_balanced_pair :=
  (dss_cons (ds_expr (dm_call ok F_check_order (da_cons (dm_var ok 0) da_nil)))
    (dss_cons ds_never
    (dss_cons ds_never
    (dss_cons ds_never
    (dss_one ds_never)))))

abbrev s_both : SS := ⟨["one", "other", "more", "size", "pairs", "a", "b"], defScope (top 33), none⟩
def r6_both : MS := sBad
def r5_both : MS := (sSeq sBad
    r6_both)
def r4_both : MS := (sSeq sBad
    r5_both)
def r3_both : MS := (sSeq sBad
    r4_both)
def r2_both : MS := (sSeq sBad
    r3_both)
def r1_both : MS := (sSeq (sDrop (mCall 1 fn_check_order (mCons (mVar 1) mNil)))
    r2_both)
def m_both : MS := (sSeq (sDrop (mCall 1 fn_check_order (mCons (mVar 0) mNil)))
    r1_both)
def fn_both : List D → FR := runF 7 m_both
theorem S_both : FnScope ["one", "other", "more", "size", "pairs", "a", "b"] ["one", "other", "more"] (defScope (top 33)) := ⟨rfl, rfl, rfl, by decide +kernel, rfl, by decide +kernel, by decide +kernel⟩
theorem d_both {g : GC} {W : WX} {X : Cx} (bf : BF g) (F_check_order : FD g "check_order" 4 ["value"] fn_check_order) (ok : Ok g s_both 4 W X) : DSs g W [] X (defBody (top 33)) m_both :=
  (dss_cons (ds_expr (dm_call ok F_check_order (da_cons (dm_var ok 0) da_nil)))
    (dss_cons (ds_expr (dm_call ok F_check_order (da_cons (dm_var ok 1) da_nil)))
    (dss_cons ds_never
    (dss_cons ds_never
    (dss_cons ds_never
    (dss_cons ds_never
    (dss_one ds_never)))))))
def q_both : List D → FR
  | [one_1, other_2, more_3] => finF (bT (nCall (gq 1 fn_check_order) (nCons (nC one_1) nNil)) fun _ =>
  (bT (nCall (gq 1 fn_check_order) (nCons (nC other_2) nNil)) fun _ =>
  zT))
  | _ => .bad
theorem n_both : LeQ 3 q_both fn_both
  | [one_1, other_2, more_3] => (fin_ok (N := 7) (O := []) (Nat.le_of_ble_eq_true rfl) (ns_drop (ne_call leq_gq (ne_cons ne_var ne_nil)) (ns_drop (ne_call leq_gq (ne_cons ne_var ne_nil)) ns_bad))).imp id fun h => ⟨rfl, h⟩
  | [] => .inl rfl
  | [_] => .inl rfl
  | [_, _] => .inl rfl
  | _ :: _ :: _ :: _ :: _ => .inl rfl

abbrev s_beside : SS := ⟨["one", "other"], defScope (top 34), none⟩
def m_beside : MS := (sRet (mCall 3 fn_both (mCons (mVar 0) (mCons (mVar 1) (mCons (mC (.bool false)) mNil)))))
def fn_beside : List D → FR := runF 2 m_beside
theorem S_beside : FnScope ["one", "other"] ["one", "other"] (defScope (top 34)) := ⟨rfl, rfl, rfl, by decide +kernel, rfl, by decide +kernel, by decide +kernel⟩
theorem d_beside {g : GC} {W : WX} {X : Cx} (bf : BF g) (F_both : FD g "both" 5 ["one", "other", "more"] fn_both) (ok : Ok g s_beside 5 W X) : DSs g W [] X (defBody (top 34)) m_beside :=
  (dss_one (ds_ret (dm_call ok F_both (da_cons (dm_var ok 0) (da_cons (dm_var ok 1) (da_cons dm_bool da_nil))))))
def q_beside : List D → FR
  | [one_1, other_2] => finF (nRet (nCall q_both (nCons (nC one_1) (nCons (nC other_2) (nCons (nC (.bool false)) nNil)))))
  | _ => .bad
theorem n_beside : LeQ 2 q_beside fn_beside
  | [one_1, other_2] => (fin_ok (N := 2) (O := []) (Nat.le_of_ble_eq_true rfl) (ns_ret1 (ne_call n_both (ne_cons ne_var (ne_cons ne_var (ne_cons (ne_c _) ne_nil)))))).imp id fun h => ⟨rfl, h⟩
  | [] => .inl rfl
  | [_] => .inl rfl
  | _ :: _ :: _ :: _ => .inl rfl

abbrev s_chain_partition : SS := ⟨["order"], defScope (top 103), none⟩
def m_chain_partition : MS := (sSeq (sDrop (mCall 1 fn_check_order (mCons (mVar 0) mNil)))
    sBad)
def fn_chain_partition : List D → FR := runF 1 m_chain_partition
theorem S_chain_partition : FnScope ["order"] ["order"] (defScope (top 103)) := ⟨rfl, rfl, rfl, by decide +kernel, rfl, by decide +kernel, by decide +kernel⟩
theorem d_chain_partition {g : GC} {W : WX} {X : Cx} (bf : BF g) (F_check_order : FD g "check_order" 4 ["value"] fn_check_order) (ok : Ok g s_chain_partition 4 W X) : DSs g W [] X (defBody (top 103)) m_chain_partition :=
  (dss_cons (ds_expr (dm_call ok F_check_order (da_cons (dm_var ok 0) da_nil)))
    (dss_one ds_never))

abbrev s_closure : SS := ⟨["size", "pairs", "found", "pair", "middle", "a", "b"], defScope (top 22), none⟩
def c1_closure : M Ob := mComp 7 (iSeq (mVar 1)) (gSet 3) tYesM (mTup (mCons (mVar 3) (mCons (mC (.bool true)) mNil))) [3]
def b1_closure : MS := (sIf (tAndM (asB (mInT false (mTup (mCons (mVar 5) (mCons (mVar 4) mNil))) 2)) (asB (mInT false (mTup (mCons (mVar 4) (mCons (mVar 6) mNil))) 2))) (sPutT 2 (mTup (mCons (mVar 5) (mCons (mVar 6) mNil))) (mC (.bool true))) sNext)
def l1_closure : MS := sFor (iRange1 (mCons (mVar 0) mNil)) (gSet 6) b1_closure
def b2_closure : MS := l1_closure
def l2_closure : MS := sFor (iRange1 (mCons (mVar 0) mNil)) (gSet 5) b2_closure
def b3_closure : MS := l2_closure
def l3_closure : MS := sFor (iRange1 (mCons (mVar 0) mNil)) (gSet 4) b3_closure
def c2_closure : M Ob := mComp 7 (iRange1 (mCons (mVar 0) mNil)) (gSet 5) tYesM (mInT false (mTup (mCons (mVar 5) (mCons (mVar 5) mNil))) 2) [5]
def m_closure : MS := (sSeq (sSetL 2 (mAppL fDictT (mCons (mLd c1_closure) mNil)))
    (sSeq l3_closure
    (sSeq (sIf (asB (mApp fAny (mCons (mLd c2_closure) mNil))) (sRet (mC .none)) sNext)
    (sRet (mTup (mCons (mVar 0) (mCons (mApp fTuple (mCons (mLd (mSortT 2)) mNil)) mNil)))))))
def fn_closure : List D → FR := runF 7 m_closure
theorem S_closure : FnScope ["size", "pairs", "found", "pair", "middle", "a", "b"] ["size", "pairs"] (defScope (top 22)) := ⟨rfl, rfl, rfl, by decide +kernel, rfl, by decide +kernel, by decide +kernel⟩
theorem d_closure {g : GC} {W : WX} {X : Cx} (bf : BF g)  (ok : Ok g s_closure 0 W X) : DSs g W [] X (defBody (top 22)) m_closure :=
  (dss_cons (ds_setL ok 2 (dl_dictT ok bf (da_cons ((dl_comp ok (lo := false) (own := [("pair", 3)]) { hi := (di_seq ok (dm_var ok 1)), hg := fun _ ok1 => (dg_name ok1 3), ht := fun _ ok1 => dts_nil, he := fun _ ok1 => (dm_tup (da_cons (dm_var ok1 3) (da_cons dm_bool da_nil))) })).dm da_nil)))
    (dss_cons (ds_for (lo := false) ok (di_range1 ok bf (da_cons (dm_var ok 0) da_nil)) (dg_name ok 4) (dss_one (ds_for (lo := false) ok (di_range1 ok bf (da_cons (dm_var ok 0) da_nil)) (dg_name ok 5) (dss_one (ds_for (lo := false) ok (di_range1 ok bf (da_cons (dm_var ok 0) da_nil)) (dg_name ok 6) (dss_one (ds_if ((dw_and (dt_inT ok (dm_tup (da_cons (dm_var ok 5) (da_cons (dm_var ok 4) da_nil))) 2 {}) (dw_and1 (dt_inT ok (dm_tup (da_cons (dm_var ok 4) (da_cons (dm_var ok 6) da_nil))) 2 {})))).dt (dss_one (ds_putT ok 2 {} (dm_tup (da_cons (dm_var ok 5) (da_cons (dm_var ok 6) da_nil))) dm_bool)) dss_nil)))))))
    (dss_cons (ds_if (dt_val (dm_any ok bf (da_cons ((dl_comp ok (lo := false) (own := [("a", 5)]) { hi := (di_range1 ok bf (da_cons (dm_var ok 0) da_nil)), hg := fun _ ok1 => (dg_name ok1 5), ht := fun _ ok1 => dts_nil, he := fun _ ok1 => (dm_inT ok1 (dm_tup (da_cons (dm_var ok1 5) (da_cons (dm_var ok1 5) da_nil))) 2 {}) })).dm da_nil))) (dss_one (ds_ret dm_none)) dss_nil)
    (dss_one (ds_ret (dm_tup (da_cons (dm_var ok 0) (da_cons (dm_tuple ok bf (da_cons ((dl_sortT ok bf 2 {})).dm da_nil)) da_nil))))))))

abbrev s_closed : SS := ⟨["size", "some", "pair", "found"], defScope (top 23), none⟩
def c1_closed : M Ob := mComp 4 (iSeq (mVar 1)) (gSet 2) tYesM (mCall 2 fn_is_pair (mCons (mVar 0) (mCons (mVar 2) mNil))) [2]
def r4_closed : MS := (sRet (mVar 3))
def r3_closed : MS := (sSeq (sIf (asB (mBin fIs (mVar 3) (mC .none))) (sRaise "InvalidOrder") sNext)
    r4_closed)
def r2_closed : MS := (sSeq (sSet 3 (mCall 2 fn_closure (mCons (mVar 0) (mCons (mVar 1) mNil))))
    r3_closed)
def r1_closed : MS := (sSeq (sIf (tOrM (tNotM (asB (mIsi "tuple" (mVar 1)))) (tNotM (asB (mApp fAll (mCons (mLd c1_closed) mNil))))) (sRaise "InvalidOrder") sNext)
    r2_closed)
def m_closed : MS := (sSeq (sIf (tNotM (asB (mCall 3 fn_is_between (mCons (mVar 0) (mCons (mC (.int 1)) (mCons (mC (.int 8)) mNil)))))) (sRaise "InvalidOrder") sNext)
    r1_closed)
def fn_closed : List D → FR := runF 4 m_closed
theorem S_closed : FnScope ["size", "some", "pair", "found"] ["size", "some"] (defScope (top 23)) := ⟨rfl, rfl, rfl, by decide +kernel, rfl, by decide +kernel, by decide +kernel⟩
theorem d_closed {g : GC} {W : WX} {X : Cx} (bf : BF g) (F_closure : FD g "closure" 1 ["size", "pairs"] fn_closure) (F_is_between : FD g "is_between" 1 ["value", "low", "high"] fn_is_between) (F_is_pair : FD g "is_pair" 2 ["size", "value"] fn_is_pair) (X_InvalidOrder : ExF g "InvalidOrder") (c_MOST : ∃ t, g.mg "MOST" = some (.int 8 t)) (ok : Ok g s_closed 2 W X) : DSs g W [] X (defBody (top 23)) m_closed :=
  (dss_cons (ds_if (dt_not (dt_val (dm_call ok F_is_between (da_cons (dm_var ok 0) (da_cons dm_int (da_cons (dm_gint ok c_MOST) da_nil)))))) (dss_one (ds_raise ok X_InvalidOrder)) dss_nil)
    (dss_cons (ds_if ((dw_or (dt_not (dt_val (dm_isi ok bf "tuple" "tuple" (by decide +kernel) bf.tuple (dm_var ok 1)))) (dw_or1 (dt_not (dt_val (dm_all ok bf (da_cons ((dl_comp ok (lo := false) (own := [("pair", 2)]) { hi := (di_seq ok (dm_var ok 1)), hg := fun _ ok1 => (dg_name ok1 2), ht := fun _ ok1 => dts_nil, he := fun _ ok1 => (dm_call ok1 F_is_pair (da_cons (dm_var ok1 0) (da_cons (dm_var ok1 2) da_nil))) })).dm da_nil))))))).dt (dss_one (ds_raise ok X_InvalidOrder)) dss_nil)
    (dss_cons (ds_set ok 3 (dm_call ok F_closure (da_cons (dm_var ok 0) (da_cons (dm_var ok 1) da_nil))))
    (dss_cons (ds_if (dt_cmp cr_is (dm_var ok 3) dm_none) (dss_one (ds_raise ok X_InvalidOrder)) dss_nil)
    (dss_one (ds_ret (dm_var ok 3)))))))

abbrev s_conjugate : SS := ⟨["order", "pair", "one", "other", "found", "a", "b"], defScope (top 87), none⟩
def r6_conjugate : MS := sBad
def r5_conjugate : MS := (sSeq sBad
    r6_conjugate)
def r4_conjugate : MS := (sSeq sBad
    r5_conjugate)
def r3_conjugate : MS := (sSeq sBad
    r4_conjugate)
def r2_conjugate : MS := (sSeq sBad
    r3_conjugate)
def r1_conjugate : MS := (sSeq sBad
    r2_conjugate)
def m_conjugate : MS := (sSeq (sDrop (mCall 1 fn_check_order (mCons (mVar 0) mNil)))
    r1_conjugate)
def fn_conjugate : List D → FR := runF 7 m_conjugate
theorem S_conjugate : FnScope ["order", "pair", "one", "other", "found", "a", "b"] ["order"] (defScope (top 87)) := ⟨rfl, rfl, rfl, by decide +kernel, rfl, by decide +kernel, by decide +kernel⟩
theorem d_conjugate {g : GC} {W : WX} {X : Cx} (bf : BF g) (F_check_order : FD g "check_order" 4 ["value"] fn_check_order) (ok : Ok g s_conjugate 4 W X) : DSs g W [] X (defBody (top 87)) m_conjugate :=
  (dss_cons (ds_expr (dm_call ok F_check_order (da_cons (dm_var ok 0) da_nil)))
    (dss_cons ds_never
    (dss_cons ds_never
    (dss_cons ds_never
    (dss_cons ds_never
    (dss_cons ds_never
    (dss_one ds_never)))))))

abbrev s_count_extensions : SS := ⟨["order"], defScope (top 44), none⟩
def m_count_extensions : MS := (sSeq (sDrop (mCall 1 fn_check_order (mCons (mVar 0) mNil)))
    sBad)
def fn_count_extensions : List D → FR := runF 1 m_count_extensions
theorem S_count_extensions : FnScope ["order"] ["order"] (defScope (top 44)) := ⟨rfl, rfl, rfl, by decide +kernel, rfl, by decide +kernel, by decide +kernel⟩
theorem d_count_extensions {g : GC} {W : WX} {X : Cx} (bf : BF g) (F_check_order : FD g "check_order" 4 ["value"] fn_check_order) (ok : Ok g s_count_extensions 4 W X) : DSs g W [] X (defBody (top 44)) m_count_extensions :=
  (dss_cons (ds_expr (dm_call ok F_check_order (da_cons (dm_var ok 0) da_nil)))
    (dss_one ds_never))

abbrev s_covers : SS := ⟨["order"], defScope (top 25), none⟩
def m_covers : MS := (sSeq (sDrop (mCall 1 fn_check_order (mCons (mVar 0) mNil)))
    sBad)
def fn_covers : List D → FR := runF 1 m_covers
theorem S_covers : FnScope ["order"] ["order"] (defScope (top 25)) := ⟨rfl, rfl, rfl, by decide +kernel, rfl, by decide +kernel, by decide +kernel⟩
theorem d_covers {g : GC} {W : WX} {X : Cx} (bf : BF g) (F_check_order : FD g "check_order" 4 ["value"] fn_check_order) (ok : Ok g s_covers 4 W X) : DSs g W [] X (defBody (top 25)) m_covers :=
  (dss_cons (ds_expr (dm_call ok F_check_order (da_cons (dm_var ok 0) da_nil)))
    (dss_one ds_never))

abbrev s_critical_pairs : SS := ⟨["order"], defScope (top 53), none⟩
def m_critical_pairs : MS := (sSeq (sDrop (mCall 1 fn_check_order (mCons (mVar 0) mNil)))
    sBad)
def fn_critical_pairs : List D → FR := runF 1 m_critical_pairs
theorem S_critical_pairs : FnScope ["order"] ["order"] (defScope (top 53)) := ⟨rfl, rfl, rfl, by decide +kernel, rfl, by decide +kernel, by decide +kernel⟩
theorem d_critical_pairs {g : GC} {W : WX} {X : Cx} (bf : BF g) (F_check_order : FD g "check_order" 4 ["value"] fn_check_order) (ok : Ok g s_critical_pairs 4 W X) : DSs g W [] X (defBody (top 53)) m_critical_pairs :=
  (dss_cons (ds_expr (dm_call ok F_check_order (da_cons (dm_var ok 0) da_nil)))
    (dss_one ds_never))

abbrev s_dimension : SS := ⟨["order"], defScope (top 77), none⟩
def m_dimension : MS := (sSeq (sDrop (mCall 1 fn_check_order (mCons (mVar 0) mNil)))
    sBad)
def fn_dimension : List D → FR := runF 1 m_dimension
theorem S_dimension : FnScope ["order"] ["order"] (defScope (top 77)) := ⟨rfl, rfl, rfl, by decide +kernel, rfl, by decide +kernel, by decide +kernel⟩
theorem d_dimension {g : GC} {W : WX} {X : Cx} (bf : BF g) (F_check_order : FD g "check_order" 4 ["value"] fn_check_order) (ok : Ok g s_dimension 4 W X) : DSs g W [] X (defBody (top 77)) m_dimension :=
  (dss_cons (ds_expr (dm_call ok F_check_order (da_cons (dm_var ok 0) da_nil)))
    (dss_one ds_never))

abbrev s_dual : SS := ⟨["order"], defScope (top 29), none⟩
def m_dual : MS := (sSeq (sDrop (mCall 1 fn_check_order (mCons (mVar 0) mNil)))
    sBad)
def fn_dual : List D → FR := runF 1 m_dual
theorem S_dual : FnScope ["order"] ["order"] (defScope (top 29)) := ⟨rfl, rfl, rfl, by decide +kernel, rfl, by decide +kernel, by decide +kernel⟩
theorem d_dual {g : GC} {W : WX} {X : Cx} (bf : BF g) (F_check_order : FD g "check_order" 4 ["value"] fn_check_order) (ok : Ok g s_dual 4 W X) : DSs g W [] X (defBody (top 29)) m_dual :=
  (dss_cons (ds_expr (dm_call ok F_check_order (da_cons (dm_var ok 0) da_nil)))
    (dss_one ds_never))

abbrev s_bit : SS := ⟨["element"], defScope (top 38), none⟩
def m_bit : MS := (sRet (mBin fShl (mC (.int 1)) (mVar 0)))
def fn_bit : List D → FR := runF 1 m_bit
theorem S_bit : FnScope ["element"] ["element"] (defScope (top 38)) := ⟨rfl, rfl, rfl, by decide +kernel, rfl, by decide +kernel, by decide +kernel⟩
theorem d_bit {g : GC} {W : WX} {X : Cx} (bf : BF g)  (ok : Ok g s_bit 0 W X) : DSs g W [] X (defBody (top 38)) m_bit :=
  (dss_one (ds_ret (dm_shl dm_int (dm_var ok 0))))

abbrev s_free_elements : SS := ⟨["below", "placed", "some", "element"], defScope (top 42), none⟩
def c1_free_elements : M Ob := mComp 4 (iRange1 (mCons (mApp fLen (mCons (mVar 0) mNil)) mNil)) (gSet 3) (asB (mBin fEq (mBin fBitAnd (mVar 1) (mCall 1 fn_bit (mCons (mVar 3) mNil))) (mC (.int 0)))) (mVar 3) [3]
def c2_free_elements : M Ob := mComp 4 (iSeq (mVar 2)) (gSet 3) (asB (mBin fEq (mBin fBitAnd (mBin fIx (mVar 0) (mVar 3)) (mVar 1)) (mBin fIx (mVar 0) (mVar 3)))) (mVar 3) [3]
def m_free_elements : MS := (sSeq (sSet 2 (mLd c1_free_elements))
    (sRet (mLd c2_free_elements)))
def fn_free_elements : List D → FR := runF 4 m_free_elements
theorem S_free_elements : FnScope ["below", "placed", "some", "element"] ["below", "placed"] (defScope (top 42)) := ⟨rfl, rfl, rfl, by decide +kernel, rfl, by decide +kernel, by decide +kernel⟩
theorem d_free_elements {g : GC} {W : WX} {X : Cx} (bf : BF g) (F_bit : FD g "bit" 1 ["element"] fn_bit) (ok : Ok g s_free_elements 1 W X) : DSs g W [] X (defBody (top 42)) m_free_elements :=
  (dss_cons (ds_setCF ok 2 (lo := false) (own := [("element", 3)]) { hi := (di_range1 ok bf (da_cons (dm_len ok bf (da_cons (dm_var ok 0) da_nil)) da_nil)), hg := fun _ ok1 => (dg_name ok1 3), ht := fun _ ok1 => (dts_one (dt_cmp (cr_eq ok1) (dm_band (dm_var ok1 1) (dm_call ok1 F_bit (da_cons (dm_var ok1 3) da_nil))) dm_int)), he := fun _ ok1 => (dm_var ok1 3) })
    (dss_one (ds_ret ((dl_comp ok (lo := false) (own := [("element", 3)]) { hi := (di_seq ok (dm_var ok 2)), hg := fun _ ok1 => (dg_name ok1 3), ht := fun _ ok1 => (dts_one (dt_cmp (cr_eq ok1) (dm_band (dm_ix ok1 (dm_var ok1 0) (dm_var ok1 3)) (dm_var ok1 1)) (dm_ix ok1 (dm_var ok1 0) (dm_var ok1 3)))), he := fun _ ok1 => (dm_var ok1 3) })).dm)))

abbrev s_masks_below : SS := ⟨["order", "found", "a", "b"], defScope (top 37), none⟩
def b1_masks_below : MS := (sPutO 1 (mVar 3) (mBin fAdd (mIxO 1 (mVar 3)) (mCall 1 fn_bit (mCons (mVar 2) mNil))))
def l1_masks_below : MS := sFor (iSeq (mBin fIx (mVar 0) (mC (.int 1)))) (gTupD (gsCons (gSet 2) (gsCons (gSet 3) gsNil))) b1_masks_below
def m_masks_below : MS := (sSeq (sSetL 1 (mRep (mLst (mCons (mC (.int 0)) mNil)) (mBin fIx (mVar 0) (mC (.int 0)))))
    (sSeq l1_masks_below
    (sRet (mFrz 1))))
def fn_masks_below : List D → FR := runF 4 m_masks_below
theorem S_masks_below : FnScope ["order", "found", "a", "b"] ["order"] (defScope (top 37)) := ⟨rfl, rfl, rfl, by decide +kernel, rfl, by decide +kernel, by decide +kernel⟩
theorem d_masks_below {g : GC} {W : WX} {X : Cx} (bf : BF g) (F_bit : FD g "bit" 1 ["element"] fn_bit) (ok : Ok g s_masks_below 1 W X) : DSs g W [] X (defBody (top 37)) m_masks_below :=
  (dss_cons (ds_setL ok 1 (dl_rep (dl_lst (da_cons dm_int da_nil)) (dm_ix ok (dm_var ok 0) dm_int)))
    (dss_cons (ds_for (lo := false) ok (di_seq ok (dm_ix ok (dm_var ok 0) dm_int)) (dg_tup ok (dgs_cons (dg_name ok 2) (dgs_cons (dg_name ok 3) dgs_nil)) (gsCons_len (gsCons_len (fun _ _ _ h => gsNil_len h)))) (dss_one (ds_putO ok 1 {} (dm_var ok 3) (dm_add ok (dm_ixO ok 1 {} (dm_var ok 3)) (dm_call ok F_bit (da_cons (dm_var ok 2) da_nil))))))
    (dss_one (ds_ret (dm_frz ok 1)))))

abbrev s_endings : SS := ⟨["order", "below", "whole", "found", "placed", "element"], defScope (top 43), none⟩
def c1_endings : M Ob := mComp 6 (iSeq (mCall 2 fn_free_elements (mCons (mVar 1) (mCons (mVar 4) mNil)))) (gSet 5) tYesM (mGetI 3 (mBin fBitOr (mVar 4) (mCall 1 fn_bit (mCons (mVar 5) mNil)))) [5]
def b1_endings : MS := (sPutI 3 (mVar 4) (mApp fSum (mCons (mLd c1_endings) mNil)))
def l1_endings : MS := sFor (iRange3 (mCons (mBin fSub (mVar 2) (mC (.int 1))) (mCons (mUn fNeg (mC (.int 1))) (mCons (mUn fNeg (mC (.int 1))) mNil)))) (gSet 4) b1_endings
def r4_endings : MS := (sRet (mFrz 3))
def r3_endings : MS := (sSeq l1_endings
    r4_endings)
def r2_endings : MS := (sSeq (sSetL 3 (mDispI (mVar 2) (mC (.int 1))))
    r3_endings)
def r1_endings : MS := (sSeq (sSet 2 (mBin fSub (mCall 1 fn_bit (mCons (mBin fIx (mVar 0) (mC (.int 0))) mNil)) (mC (.int 1))))
    r2_endings)
def m_endings : MS := (sSeq (sSet 1 (mCall 1 fn_masks_below (mCons (mVar 0) mNil)))
    r1_endings)
def fn_endings : List D → FR := runF 6 m_endings
theorem S_endings : FnScope ["order", "below", "whole", "found", "placed", "element"] ["order"] (defScope (top 43)) := ⟨rfl, rfl, rfl, by decide +kernel, rfl, by decide +kernel, by decide +kernel⟩
theorem d_endings {g : GC} {W : WX} {X : Cx} (bf : BF g) (F_bit : FD g "bit" 1 ["element"] fn_bit) (F_free_elements : FD g "free_elements" 2 ["below", "placed"] fn_free_elements) (F_masks_below : FD g "masks_below" 2 ["order"] fn_masks_below) (ok : Ok g s_endings 2 W X) : DSs g W [] X (defBody (top 43)) m_endings :=
  (dss_cons (ds_set ok 1 (dm_call ok F_masks_below (da_cons (dm_var ok 0) da_nil)))
    (dss_cons (ds_set ok 2 (dm_sub (dm_call ok F_bit (da_cons (dm_ix ok (dm_var ok 0) dm_int) da_nil)) dm_int))
    (dss_cons (ds_setL ok 3 (dl_dispI ok (dm_var ok 2) dm_int))
    (dss_cons (ds_for (lo := false) ok (di_range3 ok bf (da_cons (dm_sub (dm_var ok 2) dm_int) (da_cons (dm_neg dm_int) (da_cons (dm_neg dm_int) da_nil)))) (dg_name ok 4) (dss_one (ds_putI ok 3 {} (dm_var ok 4) (dm_sum ok bf (da_cons ((dl_comp ok (lo := false) (own := [("element", 5)]) { hi := (di_seq ok (dm_call ok F_free_elements (da_cons (dm_var ok 1) (da_cons (dm_var ok 4) da_nil)))), hg := fun _ ok1 => (dg_name ok1 5), ht := fun _ ok1 => dts_nil, he := fun _ ok1 => (dm_getI ok1 3 {} (dm_bor (dm_var ok1 4) (dm_call ok1 F_bit (da_cons (dm_var ok1 5) da_nil)))) })).dm da_nil)))))
    (dss_one (ds_ret (dm_frz ok 3)))))))

abbrev s_extension_at : SS := ⟨["order", "index", "ways", "below", "found", "placed", "element", "many"], defScope (top 45), none⟩
def r6_extension_at : MS := sBad
def r5_extension_at : MS := (sSeq sBad
    r6_extension_at)
def r4_extension_at : MS := (sSeq sBad
    r5_extension_at)
def r3_extension_at : MS := (sSeq sBad
    r4_extension_at)
def r2_extension_at : MS := (sSeq (sIf (tNotM (asB (mCall 3 fn_is_between (mCons (mVar 1) (mCons (mC (.int 0)) (mCons (mBin fSub (mBin fGetD (mVar 2) (mC (.int 0))) (mC (.int 1))) mNil)))))) (sRaise "InvalidIndex") sNext)
    r3_extension_at)
def r1_extension_at : MS := (sSeq (sSet 2 (mCall 1 fn_endings (mCons (mVar 0) mNil)))
    r2_extension_at)
def m_extension_at : MS := (sSeq (sDrop (mCall 1 fn_check_order (mCons (mVar 0) mNil)))
    r1_extension_at)
def fn_extension_at : List D → FR := runF 8 m_extension_at
theorem S_extension_at : FnScope ["order", "index", "ways", "below", "found", "placed", "element", "many"] ["order", "index"] (defScope (top 45)) := ⟨rfl, rfl, rfl, by decide +kernel, rfl, by decide +kernel, by decide +kernel⟩
theorem d_extension_at {g : GC} {W : WX} {X : Cx} (bf : BF g) (F_check_order : FD g "check_order" 4 ["value"] fn_check_order) (F_endings : FD g "endings" 3 ["order"] fn_endings) (F_is_between : FD g "is_between" 1 ["value", "low", "high"] fn_is_between) (X_InvalidIndex : ExF g "InvalidIndex") (ok : Ok g s_extension_at 4 W X) : DSs g W [] X (defBody (top 45)) m_extension_at :=
  (dss_cons (ds_expr (dm_call ok F_check_order (da_cons (dm_var ok 0) da_nil)))
    (dss_cons (ds_set ok 2 (dm_call ok F_endings (da_cons (dm_var ok 0) da_nil)))
    (dss_cons (ds_if (dt_not (dt_val (dm_call ok F_is_between (da_cons (dm_var ok 1) (da_cons dm_int (da_cons (dm_sub (dm_getD ok (dm_var ok 2) dm_int) dm_int) da_nil)))))) (dss_one (ds_raise ok X_InvalidIndex)) dss_nil)
    (dss_cons ds_never
    (dss_cons ds_never
    (dss_cons ds_never
    (dss_one ds_never)))))))

abbrev s_forcing_chain : SS := ⟨["order", "start", "found"], defScope (top 91), none⟩
def m_forcing_chain : MS := (sSeq (sDrop (mCall 1 fn_check_order (mCons (mVar 0) mNil)))
    (sSeq sBad
    sBad))
def fn_forcing_chain : List D → FR := runF 3 m_forcing_chain
theorem S_forcing_chain : FnScope ["order", "start", "found"] ["order"] (defScope (top 91)) := ⟨rfl, rfl, rfl, by decide +kernel, rfl, by decide +kernel, by decide +kernel⟩
theorem d_forcing_chain {g : GC} {W : WX} {X : Cx} (bf : BF g) (F_check_order : FD g "check_order" 4 ["value"] fn_check_order) (ok : Ok g s_forcing_chain 4 W X) : DSs g W [] X (defBody (top 91)) m_forcing_chain :=
  (dss_cons (ds_expr (dm_call ok F_check_order (da_cons (dm_var ok 0) da_nil)))
    (dss_cons ds_never
    (dss_one ds_never)))

abbrev s_format_order : SS := ⟨["order"], defScope (top 141), none⟩
def m_format_order : MS := (sSeq (sDrop (mCall 1 fn_check_order (mCons (mVar 0) mNil)))
    sBad)
def fn_format_order : List D → FR := runF 1 m_format_order
theorem S_format_order : FnScope ["order"] ["order"] (defScope (top 141)) := ⟨rfl, rfl, rfl, by decide +kernel, rfl, by decide +kernel, by decide +kernel⟩
theorem d_format_order {g : GC} {W : WX} {X : Cx} (bf : BF g) (F_check_order : FD g "check_order" 4 ["value"] fn_check_order) (ok : Ok g s_format_order 4 W X) : DSs g W [] X (defBody (top 141)) m_format_order :=
  (dss_cons (ds_expr (dm_call ok F_check_order (da_cons (dm_var ok 0) da_nil)))
    (dss_one ds_never))

abbrev s_fractional_dimension : SS := ⟨["order", "one"], defScope (top 136), none⟩
def m_fractional_dimension : MS := (sSeq (sDrop (mCall 1 fn_check_order (mCons (mVar 0) mNil)))
    (sSeq sBad
    (sSeq sBad
    sBad)))
def fn_fractional_dimension : List D → FR := runF 2 m_fractional_dimension
theorem S_fractional_dimension : FnScope ["order", "one"] ["order"] (defScope (top 136)) := ⟨rfl, rfl, rfl, by decide +kernel, rfl, by decide +kernel, by decide +kernel⟩
theorem d_fractional_dimension {g : GC} {W : WX} {X : Cx} (bf : BF g) (F_check_order : FD g "check_order" 4 ["value"] fn_check_order) (ok : Ok g s_fractional_dimension 4 W X) : DSs g W [] X (defBody (top 136)) m_fractional_dimension :=
  (dss_cons (ds_expr (dm_call ok F_check_order (da_cons (dm_var ok 0) da_nil)))
    (dss_cons ds_never
    (dss_cons ds_never
    (dss_one ds_never))))

abbrev s_height : SS := ⟨["order"], defScope (top 98), none⟩
def m_height : MS := (sSeq (sDrop (mCall 1 fn_check_order (mCons (mVar 0) mNil)))
    sBad)
def fn_height : List D → FR := runF 1 m_height
theorem S_height : FnScope ["order"] ["order"] (defScope (top 98)) := ⟨rfl, rfl, rfl, by decide +kernel, rfl, by decide +kernel, by decide +kernel⟩
theorem d_height {g : GC} {W : WX} {X : Cx} (bf : BF g) (F_check_order : FD g "check_order" 4 ["value"] fn_check_order) (ok : Ok g s_height 4 W X) : DSs g W [] X (defBody (top 98)) m_height :=
  (dss_cons (ds_expr (dm_call ok F_check_order (da_cons (dm_var ok 0) da_nil)))
    (dss_one ds_never))

abbrev s_incomparable : SS := ⟨["order"], defScope (top 27), none⟩
def m_incomparable : MS := (sSeq (sDrop (mCall 1 fn_check_order (mCons (mVar 0) mNil)))
    sBad)
def fn_incomparable : List D → FR := runF 1 m_incomparable
theorem S_incomparable : FnScope ["order"] ["order"] (defScope (top 27)) := ⟨rfl, rfl, rfl, by decide +kernel, rfl, by decide +kernel, by decide +kernel⟩
theorem d_incomparable {g : GC} {W : WX} {X : Cx} (bf : BF g) (F_check_order : FD g "check_order" 4 ["value"] fn_check_order) (ok : Ok g s_incomparable 4 W X) : DSs g W [] X (defBody (top 27)) m_incomparable :=
  (dss_cons (ds_expr (dm_call ok F_check_order (da_cons (dm_var ok 0) da_nil)))
    (dss_one ds_never))

abbrev s_is_listed : SS := ⟨["order", "value", "one", "a", "b"], defScope (top 39), none⟩
def c1_is_listed : M Ob := mComp 5 (iSeq (mVar 1)) (gSet 2) tYesM (mCall 3 fn_is_between (mCons (mVar 2) (mCons (mC (.int 0)) (mCons (mBin fSub (mBin fIx (mVar 0) (mC (.int 0))) (mC (.int 1))) mNil)))) [2]
def c2_is_listed : M Ob := mComp 5 (iSeq (mBin fIx (mVar 0) (mC (.int 1)))) (gTupD (gsCons (gSet 3) (gsCons (gSet 4) gsNil))) tYesM (mBin fLt (mIdx (mVar 1) (mVar 3)) (mIdx (mVar 1) (mVar 4))) [3, 4]
def m_is_listed : MS := (sSeq (sIf (tOrM (tNotM (asB (mIsi "tuple" (mVar 1)))) (asB (mBin fNe (mApp fLen (mCons (mVar 1) mNil)) (mBin fIx (mVar 0) (mC (.int 0)))))) (sRet (mC (.bool false))) sNext)
    (sSeq (sIf (tOrM (tNotM (asB (mApp fAll (mCons (mLd c1_is_listed) mNil)))) (asB (mBin fNe (mUn fLenX (mVar 1)) (mBin fIx (mVar 0) (mC (.int 0)))))) (sRet (mC (.bool false))) sNext)
    (sRet (mApp fAll (mCons (mLd c2_is_listed) mNil)))))
def fn_is_listed : List D → FR := runF 5 m_is_listed
theorem S_is_listed : FnScope ["order", "value", "one", "a", "b"] ["order", "value"] (defScope (top 39)) := ⟨rfl, rfl, rfl, by decide +kernel, rfl, by decide +kernel, by decide +kernel⟩
theorem d_is_listed {g : GC} {W : WX} {X : Cx} (bf : BF g) (F_is_between : FD g "is_between" 1 ["value", "low", "high"] fn_is_between) (ok : Ok g s_is_listed 1 W X) : DSs g W [] X (defBody (top 39)) m_is_listed :=
  (dss_cons (ds_if ((dw_or (dt_not (dt_val (dm_isi ok bf "tuple" "tuple" (by decide +kernel) bf.tuple (dm_var ok 1)))) (dw_or1 (dt_cmp (cr_ne ok) (dm_len ok bf (da_cons (dm_var ok 1) da_nil)) (dm_ix ok (dm_var ok 0) dm_int))))).dt (dss_one (ds_ret dm_bool)) dss_nil)
    (dss_cons (ds_if ((dw_or (dt_not (dt_val (dm_all ok bf (da_cons ((dl_comp ok (lo := false) (own := [("one", 2)]) { hi := (di_seq ok (dm_var ok 1)), hg := fun _ ok1 => (dg_name ok1 2), ht := fun _ ok1 => dts_nil, he := fun _ ok1 => (dm_call ok1 F_is_between (da_cons (dm_var ok1 2) (da_cons dm_int (da_cons (dm_sub (dm_ix ok1 (dm_var ok1 0) dm_int) dm_int) da_nil)))) })).dm da_nil)))) (dw_or1 (dt_cmp (cr_ne ok) (dm_lenX ok bf (dm_var ok 1)) (dm_ix ok (dm_var ok 0) dm_int))))).dt (dss_one (ds_ret dm_bool)) dss_nil)
    (dss_one (ds_ret (dm_all ok bf (da_cons ((dl_comp ok (lo := false) (own := [("a", 3), ("b", 4)]) { hi := (di_seq ok (dm_ix ok (dm_var ok 0) dm_int)), hg := fun _ ok1 => (dg_tup ok1 (dgs_cons (dg_name ok1 3) (dgs_cons (dg_name ok1 4) dgs_nil)) (gsCons_len (gsCons_len (fun _ _ _ h => gsNil_len h)))), ht := fun _ ok1 => dts_nil, he := fun _ ok1 => (dm_cmp (cr_lt ok1) (dm_index ok1 (dm_var ok1 1) (dm_var ok1 3)) (dm_index ok1 (dm_var ok1 1) (dm_var ok1 4))) })).dm da_nil))))))

abbrev s_check_extension : SS := ⟨["order", "value"], defScope (top 41), none⟩
def m_check_extension : MS := (sIf (tNotM (asB (mCall 2 fn_is_listed (mCons (mVar 0) (mCons (mVar 1) mNil))))) (sRaise "InvalidExtension") sNext)
def fn_check_extension : List D → FR := runF 2 m_check_extension
theorem S_check_extension : FnScope ["order", "value"] ["order", "value"] (defScope (top 41)) := ⟨rfl, rfl, rfl, by decide +kernel, rfl, by decide +kernel, by decide +kernel⟩
theorem d_check_extension {g : GC} {W : WX} {X : Cx} (bf : BF g) (F_is_listed : FD g "is_listed" 2 ["order", "value"] fn_is_listed) (X_InvalidExtension : ExF g "InvalidExtension") (ok : Ok g s_check_extension 2 W X) : DSs g W [] X (defBody (top 41)) m_check_extension :=
  (dss_one (ds_if (dt_not (dt_val (dm_call ok F_is_listed (da_cons (dm_var ok 0) (da_cons (dm_var ok 1) da_nil))))) (dss_one (ds_raise ok X_InvalidExtension)) dss_nil))

abbrev s_index_of : SS := ⟨["order", "extension", "ways", "below", "index", "placed", "chosen", "element"], defScope (top 46), none⟩
def r5_index_of : MS := sBad
def r4_index_of : MS := (sSeq sBad
    r5_index_of)
def r3_index_of : MS := (sSeq sBad
    r4_index_of)
def r2_index_of : MS := (sSeq sBad
    r3_index_of)
def r1_index_of : MS := (sSeq (sDrop (mCall 2 fn_check_extension (mCons (mVar 0) (mCons (mVar 1) mNil))))
    r2_index_of)
def m_index_of : MS := (sSeq (sDrop (mCall 1 fn_check_order (mCons (mVar 0) mNil)))
    r1_index_of)
def fn_index_of : List D → FR := runF 8 m_index_of
theorem S_index_of : FnScope ["order", "extension", "ways", "below", "index", "placed", "chosen", "element"] ["order", "extension"] (defScope (top 46)) := ⟨rfl, rfl, rfl, by decide +kernel, rfl, by decide +kernel, by decide +kernel⟩
theorem d_index_of {g : GC} {W : WX} {X : Cx} (bf : BF g) (F_check_extension : FD g "check_extension" 3 ["order", "value"] fn_check_extension) (F_check_order : FD g "check_order" 4 ["value"] fn_check_order) (ok : Ok g s_index_of 4 W X) : DSs g W [] X (defBody (top 46)) m_index_of :=
  (dss_cons (ds_expr (dm_call ok F_check_order (da_cons (dm_var ok 0) da_nil)))
    (dss_cons (ds_expr (dm_call ok F_check_extension (da_cons (dm_var ok 0) (da_cons (dm_var ok 1) da_nil))))
    (dss_cons ds_never
    (dss_cons ds_never
    (dss_cons ds_never
    (dss_one ds_never))))))

abbrev s_is_alternating_cycle : SS := ⟨["order", "value"], defScope (top 57), none⟩
def m_is_alternating_cycle : MS := (sSeq (sDrop (mCall 1 fn_check_order (mCons (mVar 0) mNil)))
    sBad)
def fn_is_alternating_cycle : List D → FR := runF 2 m_is_alternating_cycle
theorem S_is_alternating_cycle : FnScope ["order", "value"] ["order", "value"] (defScope (top 57)) := ⟨rfl, rfl, rfl, by decide +kernel, rfl, by decide +kernel, by decide +kernel⟩
theorem d_is_alternating_cycle {g : GC} {W : WX} {X : Cx} (bf : BF g) (F_check_order : FD g "check_order" 4 ["value"] fn_check_order) (ok : Ok g s_is_alternating_cycle 4 W X) : DSs g W [] X (defBody (top 57)) m_is_alternating_cycle :=
  (dss_cons (ds_expr (dm_call ok F_check_order (da_cons (dm_var ok 0) da_nil)))
    (dss_one ds_never))

abbrev s_is_extension : SS := ⟨["order", "value"], defScope (top 40), none⟩
def m_is_extension : MS := (sSeq (sDrop (mCall 1 fn_check_order (mCons (mVar 0) mNil)))
    sBad)
def fn_is_extension : List D → FR := runF 2 m_is_extension
theorem S_is_extension : FnScope ["order", "value"] ["order", "value"] (defScope (top 40)) := ⟨rfl, rfl, rfl, by decide +kernel, rfl, by decide +kernel, by decide +kernel⟩
theorem d_is_extension {g : GC} {W : WX} {X : Cx} (bf : BF g) (F_check_order : FD g "check_order" 4 ["value"] fn_check_order) (ok : Ok g s_is_extension 4 W X) : DSs g W [] X (defBody (top 40)) m_is_extension :=
  (dss_cons (ds_expr (dm_call ok F_check_order (da_cons (dm_var ok 0) da_nil)))
    (dss_one ds_never))

abbrev s_is_forcing_chain : SS := ⟨["order", "value", "k"], defScope (top 89), none⟩
def m_is_forcing_chain : MS := (sSeq (sDrop (mCall 1 fn_check_order (mCons (mVar 0) mNil)))
    (sSeq sBad
    sBad))
def fn_is_forcing_chain : List D → FR := runF 3 m_is_forcing_chain
theorem S_is_forcing_chain : FnScope ["order", "value", "k"] ["order", "value"] (defScope (top 89)) := ⟨rfl, rfl, rfl, by decide +kernel, rfl, by decide +kernel, by decide +kernel⟩
theorem d_is_forcing_chain {g : GC} {W : WX} {X : Cx} (bf : BF g) (F_check_order : FD g "check_order" 4 ["value"] fn_check_order) (ok : Ok g s_is_forcing_chain 4 W X) : DSs g W [] X (defBody (top 89)) m_is_forcing_chain :=
  (dss_cons (ds_expr (dm_call ok F_check_order (da_cons (dm_var ok 0) da_nil)))
    (dss_cons ds_never
    (dss_one ds_never)))

abbrev s_is_partition : SS := ⟨["order", "value", "some", "one", "members", "element", "is_chain"], defScope (top 105), none⟩
def r5_is_partition : MS := sBad
def r4_is_partition : MS := (sSeq sBad
    r5_is_partition)
def r3_is_partition : MS := (sSeq sBad
    r4_is_partition)
def r2_is_partition : MS := (sSeq sBad
    r3_is_partition)
def r1_is_partition : MS := (sSeq sBad
    r2_is_partition)
def m_is_partition : MS := (sSeq (sDrop (mCall 1 fn_check_order (mCons (mVar 0) mNil)))
    r1_is_partition)
def fn_is_partition : List D → FR := runF 7 m_is_partition
theorem S_is_partition : FnScope ["order", "value", "some", "one", "members", "element", "is_chain"] ["order", "value"] (defScope (top 105)) := ⟨rfl, rfl, rfl, by decide +kernel, rfl, by decide +kernel, by decide +kernel⟩
theorem d_is_partition {g : GC} {W : WX} {X : Cx} (bf : BF g) (F_check_order : FD g "check_order" 4 ["value"] fn_check_order) (ok : Ok g s_is_partition 4 W X) : DSs g W [] X (defBody (top 105)) m_is_partition :=
  (dss_cons (ds_expr (dm_call ok F_check_order (da_cons (dm_var ok 0) da_nil)))
    (dss_cons ds_never
    (dss_cons ds_never
    (dss_cons ds_never
    (dss_cons ds_never
    (dss_one ds_never))))))

abbrev s_is_realizer : SS := ⟨["order", "value", "one", "a", "b"], defScope (top 67), none⟩
def r4_is_realizer : MS := sBad
def r3_is_realizer : MS := (sSeq sBad
    r4_is_realizer)
def r2_is_realizer : MS := (sSeq sBad
    r3_is_realizer)
def r1_is_realizer : MS := (sSeq sBad
    r2_is_realizer)
def m_is_realizer : MS := (sSeq (sDrop (mCall 1 fn_check_order (mCons (mVar 0) mNil)))
    r1_is_realizer)
def fn_is_realizer : List D → FR := runF 5 m_is_realizer
theorem S_is_realizer : FnScope ["order", "value", "one", "a", "b"] ["order", "value"] (defScope (top 67)) := ⟨rfl, rfl, rfl, by decide +kernel, rfl, by decide +kernel, by decide +kernel⟩
theorem d_is_realizer {g : GC} {W : WX} {X : Cx} (bf : BF g) (F_check_order : FD g "check_order" 4 ["value"] fn_check_order) (ok : Ok g s_is_realizer 4 W X) : DSs g W [] X (defBody (top 67)) m_is_realizer :=
  (dss_cons (ds_expr (dm_call ok F_check_order (da_cons (dm_var ok 0) da_nil)))
    (dss_cons ds_never
    (dss_cons ds_never
    (dss_cons ds_never
    (dss_one ds_never)))))

abbrev s_check_number : SS := ⟨["t"], defScope (top 73), none⟩
def m_check_number : MS := (sIf (tNotM (asB (mCall 3 fn_is_between (mCons (mVar 0) (mCons (mC (.int 1)) (mCons (mC (.int 4)) mNil)))))) (sRaise "InvalidNumber") sNext)
def fn_check_number : List D → FR := runF 1 m_check_number
theorem S_check_number : FnScope ["t"] ["t"] (defScope (top 73)) := ⟨rfl, rfl, rfl, by decide +kernel, rfl, by decide +kernel, by decide +kernel⟩
theorem d_check_number {g : GC} {W : WX} {X : Cx} (bf : BF g) (F_is_between : FD g "is_between" 1 ["value", "low", "high"] fn_is_between) (X_InvalidNumber : ExF g "InvalidNumber") (ok : Ok g s_check_number 1 W X) : DSs g W [] X (defBody (top 73)) m_check_number :=
  (dss_one (ds_if (dt_not (dt_val (dm_call ok F_is_between (da_cons (dm_var ok 0) (da_cons dm_int (da_cons dm_int da_nil)))))) (dss_one (ds_raise ok X_InvalidNumber)) dss_nil))

abbrev s_is_refutation : SS := ⟨["order", "t", "value", "colour"], defScope (top 82), none⟩
def m_is_refutation : MS := (sSeq (sDrop (mCall 1 fn_check_order (mCons (mVar 0) mNil)))
    (sSeq (sDrop (mCall 1 fn_check_number (mCons (mVar 1) mNil)))
    sBad))
def fn_is_refutation : List D → FR := runF 4 m_is_refutation
theorem S_is_refutation : FnScope ["order", "t", "value", "colour"] ["order", "t", "value"] (defScope (top 82)) := ⟨rfl, rfl, rfl, by decide +kernel, rfl, by decide +kernel, by decide +kernel⟩
theorem d_is_refutation {g : GC} {W : WX} {X : Cx} (bf : BF g) (F_check_number : FD g "check_number" 2 ["t"] fn_check_number) (F_check_order : FD g "check_order" 4 ["value"] fn_check_order) (ok : Ok g s_is_refutation 4 W X) : DSs g W [] X (defBody (top 82)) m_is_refutation :=
  (dss_cons (ds_expr (dm_call ok F_check_order (da_cons (dm_var ok 0) da_nil)))
    (dss_cons (ds_expr (dm_call ok F_check_number (da_cons (dm_var ok 1) da_nil)))
    (dss_one ds_never)))

abbrev s_is_weighted_realizer : SS := ⟨["order", "value", "one", "a", "b", "some", "extension", "weight"], defScope (top 128), none⟩
def r4_is_weighted_realizer : MS := sBad
def r3_is_weighted_realizer : MS := (sSeq sBad
    r4_is_weighted_realizer)
def r2_is_weighted_realizer : MS := (sSeq sBad
    r3_is_weighted_realizer)
def r1_is_weighted_realizer : MS := (sSeq sBad
    r2_is_weighted_realizer)
def m_is_weighted_realizer : MS := (sSeq (sDrop (mCall 1 fn_check_order (mCons (mVar 0) mNil)))
    r1_is_weighted_realizer)
def fn_is_weighted_realizer : List D → FR := runF 8 m_is_weighted_realizer
theorem S_is_weighted_realizer : FnScope ["order", "value", "one", "a", "b", "some", "extension", "weight"] ["order", "value"] (defScope (top 128)) := ⟨rfl, rfl, rfl, by decide +kernel, rfl, by decide +kernel, by decide +kernel⟩
theorem d_is_weighted_realizer {g : GC} {W : WX} {X : Cx} (bf : BF g) (F_check_order : FD g "check_order" 4 ["value"] fn_check_order) (ok : Ok g s_is_weighted_realizer 4 W X) : DSs g W [] X (defBody (top 128)) m_is_weighted_realizer :=
  (dss_cons (ds_expr (dm_call ok F_check_order (da_cons (dm_var ok 0) da_nil)))
    (dss_cons ds_never
    (dss_cons ds_never
    (dss_cons ds_never
    (dss_one ds_never)))))

abbrev s_is_weighting : SS := ⟨["order", "value", "one", "some", "scale", "pair", "weight", "weights"], defScope (top 130), none⟩
def r7_is_weighting : MS := sBad
def r6_is_weighting : MS := (sSeq sBad
    r7_is_weighting)
def r5_is_weighting : MS := (sSeq sBad
    r6_is_weighting)
def r4_is_weighting : MS := (sSeq sBad
    r5_is_weighting)
def r3_is_weighting : MS := (sSeq sBad
    r4_is_weighting)
def r2_is_weighting : MS := (sSeq sBad
    r3_is_weighting)
def r1_is_weighting : MS := (sSeq sBad
    r2_is_weighting)
def m_is_weighting : MS := (sSeq (sDrop (mCall 1 fn_check_order (mCons (mVar 0) mNil)))
    r1_is_weighting)
def fn_is_weighting : List D → FR := runF 8 m_is_weighting
theorem S_is_weighting : FnScope ["order", "value", "one", "some", "scale", "pair", "weight", "weights"] ["order", "value"] (defScope (top 130)) := ⟨rfl, rfl, rfl, by decide +kernel, rfl, by decide +kernel, by decide +kernel⟩
theorem d_is_weighting {g : GC} {W : WX} {X : Cx} (bf : BF g) (F_check_order : FD g "check_order" 4 ["value"] fn_check_order) (ok : Ok g s_is_weighting 4 W X) : DSs g W [] X (defBody (top 130)) m_is_weighting :=
  (dss_cons (ds_expr (dm_call ok F_check_order (da_cons (dm_var ok 0) da_nil)))
    (dss_cons ds_never
    (dss_cons ds_never
    (dss_cons ds_never
    (dss_cons ds_never
    (dss_cons ds_never
    (dss_cons ds_never
    (dss_one ds_never))))))))

abbrev s_largest_antichain : SS := ⟨["order"], defScope (top 99), none⟩
def m_largest_antichain : MS := (sSeq (sDrop (mCall 1 fn_check_order (mCons (mVar 0) mNil)))
    sBad)
def fn_largest_antichain : List D → FR := runF 1 m_largest_antichain
theorem S_largest_antichain : FnScope ["order"] ["order"] (defScope (top 99)) := ⟨rfl, rfl, rfl, by decide +kernel, rfl, by decide +kernel, by decide +kernel⟩
theorem d_largest_antichain {g : GC} {W : WX} {X : Cx} (bf : BF g) (F_check_order : FD g "check_order" 4 ["value"] fn_check_order) (ok : Ok g s_largest_antichain 4 W X) : DSs g W [] X (defBody (top 99)) m_largest_antichain :=
  (dss_cons (ds_expr (dm_call ok F_check_order (da_cons (dm_var ok 0) da_nil)))
    (dss_one ds_never))

abbrev s_largest_chain : SS := ⟨["order"], defScope (top 100), none⟩
def m_largest_chain : MS := (sSeq (sDrop (mCall 1 fn_check_order (mCons (mVar 0) mNil)))
    sBad)
def fn_largest_chain : List D → FR := runF 1 m_largest_chain
theorem S_largest_chain : FnScope ["order"] ["order"] (defScope (top 100)) := ⟨rfl, rfl, rfl, by decide +kernel, rfl, by decide +kernel, by decide +kernel⟩
theorem d_largest_chain {g : GC} {W : WX} {X : Cx} (bf : BF g) (F_check_order : FD g "check_order" 4 ["value"] fn_check_order) (ok : Ok g s_largest_chain 4 W X) : DSs g W [] X (defBody (top 100)) m_largest_chain :=
  (dss_cons (ds_expr (dm_call ok F_check_order (da_cons (dm_var ok 0) da_nil)))
    (dss_one ds_never))

abbrev s_least_form : SS := ⟨["order", "names"], defScope (top 119), none⟩
def m_least_form : MS := (sSeq (sDrop (mCall 1 fn_check_order (mCons (mVar 0) mNil)))
    (sSeq sBad
    sBad))
def fn_least_form : List D → FR := runF 2 m_least_form
theorem S_least_form : FnScope ["order", "names"] ["order"] (defScope (top 119)) := ⟨rfl, rfl, rfl, by decide +kernel, rfl, by decide +kernel, by decide +kernel⟩
theorem d_least_form {g : GC} {W : WX} {X : Cx} (bf : BF g) (F_check_order : FD g "check_order" 4 ["value"] fn_check_order) (ok : Ok g s_least_form 4 W X) : DSs g W [] X (defBody (top 119)) m_least_form :=
  (dss_cons (ds_expr (dm_call ok F_check_order (da_cons (dm_var ok 0) da_nil)))
    (dss_cons ds_never
    (dss_one ds_never)))

abbrev s_needed_elements : SS := ⟨["order", "size", "whole", "found", "element", "rest", "one"], defScope (top 83), none⟩
def r6_needed_elements : MS := sBad
def r5_needed_elements : MS := (sSeq sBad
    r6_needed_elements)
def r4_needed_elements : MS := (sSeq sBad
    r5_needed_elements)
def r3_needed_elements : MS := (sSeq sBad
    r4_needed_elements)
def r2_needed_elements : MS := (sSeq sBad
    r3_needed_elements)
def r1_needed_elements : MS := (sSeq sBad
    r2_needed_elements)
def m_needed_elements : MS := (sSeq (sDrop (mCall 1 fn_check_order (mCons (mVar 0) mNil)))
    r1_needed_elements)
def fn_needed_elements : List D → FR := runF 7 m_needed_elements
theorem S_needed_elements : FnScope ["order", "size", "whole", "found", "element", "rest", "one"] ["order"] (defScope (top 83)) := ⟨rfl, rfl, rfl, by decide +kernel, rfl, by decide +kernel, by decide +kernel⟩
theorem d_needed_elements {g : GC} {W : WX} {X : Cx} (bf : BF g) (F_check_order : FD g "check_order" 4 ["value"] fn_check_order) (ok : Ok g s_needed_elements 4 W X) : DSs g W [] X (defBody (top 83)) m_needed_elements :=
  (dss_cons (ds_expr (dm_call ok F_check_order (da_cons (dm_var ok 0) da_nil)))
    (dss_cons ds_never
    (dss_cons ds_never
    (dss_cons ds_never
    (dss_cons ds_never
    (dss_cons ds_never
    (dss_one ds_never)))))))

abbrev s_obstruction : SS := ⟨["order"], defScope (top 112), none⟩
def m_obstruction : MS := (sSeq (sDrop (mCall 1 fn_check_order (mCons (mVar 0) mNil)))
    sBad)
def fn_obstruction : List D → FR := runF 1 m_obstruction
theorem S_obstruction : FnScope ["order"] ["order"] (defScope (top 112)) := ⟨rfl, rfl, rfl, by decide +kernel, rfl, by decide +kernel, by decide +kernel⟩
theorem d_obstruction {g : GC} {W : WX} {X : Cx} (bf : BF g) (F_check_order : FD g "check_order" 4 ["value"] fn_check_order) (ok : Ok g s_obstruction 4 W X) : DSs g W [] X (defBody (top 112)) m_obstruction :=
  (dss_cons (ds_expr (dm_call ok F_check_order (da_cons (dm_var ok 0) da_nil)))
    (dss_one ds_never))

abbrev s_points : SS := ⟨["order", "pair", "element"], defScope (top 86), none⟩
def m_points : MS := (sSeq (sDrop (mCall 1 fn_check_order (mCons (mVar 0) mNil)))
    (sSeq sBad
    (sSeq sBad
    sBad)))
def fn_points : List D → FR := runF 3 m_points
theorem S_points : FnScope ["order", "pair", "element"] ["order"] (defScope (top 86)) := ⟨rfl, rfl, rfl, by decide +kernel, rfl, by decide +kernel, by decide +kernel⟩
theorem d_points {g : GC} {W : WX} {X : Cx} (bf : BF g) (F_check_order : FD g "check_order" 4 ["value"] fn_check_order) (ok : Ok g s_points 4 W X) : DSs g W [] X (defBody (top 86)) m_points :=
  (dss_cons (ds_expr (dm_call ok F_check_order (da_cons (dm_var ok 0) da_nil)))
    (dss_cons ds_never
    (dss_cons ds_never
    (dss_one ds_never))))

abbrev s_realizer : SS := ⟨["order", "t"], defScope (top 75), none⟩
def m_realizer : MS := (sSeq (sDrop (mCall 1 fn_check_order (mCons (mVar 0) mNil)))
    (sSeq (sDrop (mCall 1 fn_check_number (mCons (mVar 1) mNil)))
    sBad))
def fn_realizer : List D → FR := runF 2 m_realizer
theorem S_realizer : FnScope ["order", "t"] ["order", "t"] (defScope (top 75)) := ⟨rfl, rfl, rfl, by decide +kernel, rfl, by decide +kernel, by decide +kernel⟩
theorem d_realizer {g : GC} {W : WX} {X : Cx} (bf : BF g) (F_check_number : FD g "check_number" 2 ["t"] fn_check_number) (F_check_order : FD g "check_order" 4 ["value"] fn_check_order) (ok : Ok g s_realizer 4 W X) : DSs g W [] X (defBody (top 75)) m_realizer :=
  (dss_cons (ds_expr (dm_call ok F_check_order (da_cons (dm_var ok 0) da_nil)))
    (dss_cons (ds_expr (dm_call ok F_check_number (da_cons (dm_var ok 1) da_nil)))
    (dss_one ds_never)))

abbrev s_refutation : SS := ⟨["order", "t", "colour"], defScope (top 79), none⟩
def m_refutation : MS := (sSeq (sDrop (mCall 1 fn_check_order (mCons (mVar 0) mNil)))
    (sSeq (sDrop (mCall 1 fn_check_number (mCons (mVar 1) mNil)))
    (sSeq sBad
    sBad)))
def fn_refutation : List D → FR := runF 3 m_refutation
theorem S_refutation : FnScope ["order", "t", "colour"] ["order", "t"] (defScope (top 79)) := ⟨rfl, rfl, rfl, by decide +kernel, rfl, by decide +kernel, by decide +kernel⟩
theorem d_refutation {g : GC} {W : WX} {X : Cx} (bf : BF g) (F_check_number : FD g "check_number" 2 ["t"] fn_check_number) (F_check_order : FD g "check_order" 4 ["value"] fn_check_order) (ok : Ok g s_refutation 4 W X) : DSs g W [] X (defBody (top 79)) m_refutation :=
  (dss_cons (ds_expr (dm_call ok F_check_order (da_cons (dm_var ok 0) da_nil)))
    (dss_cons (ds_expr (dm_call ok F_check_number (da_cons (dm_var ok 1) da_nil)))
    (dss_cons ds_never
    (dss_one ds_never))))

abbrev s_renamed : SS := ⟨["order", "names", "name"], defScope (top 116), none⟩
def c1_renamed : M Ob := mComp 3 (iSeq (mVar 1)) (gSet 2) tYesM (mCall 3 fn_is_between (mCons (mVar 2) (mCons (mC (.int 0)) (mCons (mBin fSub (mBin fIx (mVar 0) (mC (.int 0))) (mC (.int 1))) mNil)))) [2]
def m_renamed : MS := (sSeq (sDrop (mCall 1 fn_check_order (mCons (mVar 0) mNil)))
    (sSeq (sIf (tOrM (tNotM (asB (mIsi "tuple" (mVar 1)))) (asB (mBin fNe (mApp fLen (mCons (mVar 1) mNil)) (mBin fIx (mVar 0) (mC (.int 0)))))) (sRaise "InvalidNames") sNext)
    (sSeq (sIf (tOrM (tNotM (asB (mApp fAll (mCons (mLd c1_renamed) mNil)))) (asB (mBin fNe (mUn fLenX (mVar 1)) (mBin fIx (mVar 0) (mC (.int 0)))))) (sRaise "InvalidNames") sNext)
    sBad)))
def fn_renamed : List D → FR := runF 3 m_renamed
theorem S_renamed : FnScope ["order", "names", "name"] ["order", "names"] (defScope (top 116)) := ⟨rfl, rfl, rfl, by decide +kernel, rfl, by decide +kernel, by decide +kernel⟩
theorem d_renamed {g : GC} {W : WX} {X : Cx} (bf : BF g) (F_check_order : FD g "check_order" 4 ["value"] fn_check_order) (F_is_between : FD g "is_between" 1 ["value", "low", "high"] fn_is_between) (X_InvalidNames : ExF g "InvalidNames") (ok : Ok g s_renamed 4 W X) : DSs g W [] X (defBody (top 116)) m_renamed :=
  (dss_cons (ds_expr (dm_call ok F_check_order (da_cons (dm_var ok 0) da_nil)))
    (dss_cons (ds_if ((dw_or (dt_not (dt_val (dm_isi ok bf "tuple" "tuple" (by decide +kernel) bf.tuple (dm_var ok 1)))) (dw_or1 (dt_cmp (cr_ne ok) (dm_len ok bf (da_cons (dm_var ok 1) da_nil)) (dm_ix ok (dm_var ok 0) dm_int))))).dt (dss_one (ds_raise ok X_InvalidNames)) dss_nil)
    (dss_cons (ds_if ((dw_or (dt_not (dt_val (dm_all ok bf (da_cons ((dl_comp ok (lo := false) (own := [("name", 2)]) { hi := (di_seq ok (dm_var ok 1)), hg := fun _ ok1 => (dg_name ok1 2), ht := fun _ ok1 => dts_nil, he := fun _ ok1 => (dm_call ok1 F_is_between (da_cons (dm_var ok1 2) (da_cons dm_int (da_cons (dm_sub (dm_ix ok1 (dm_var ok1 0) dm_int) dm_int) da_nil)))) })).dm da_nil)))) (dw_or1 (dt_cmp (cr_ne ok) (dm_lenX ok bf (dm_var ok 1)) (dm_ix ok (dm_var ok 0) dm_int))))).dt (dss_one (ds_raise ok X_InvalidNames)) dss_nil)
    (dss_one ds_never))))

abbrev s_renaming : SS := ⟨["one", "other", "names"], defScope (top 120), none⟩
def r6_renaming : MS := sBad
def r5_renaming : MS := (sSeq sBad
    r6_renaming)
def r4_renaming : MS := (sSeq sBad
    r5_renaming)
def r3_renaming : MS := (sSeq sBad
    r4_renaming)
def r2_renaming : MS := (sSeq sBad
    r3_renaming)
def r1_renaming : MS := (sSeq (sDrop (mCall 1 fn_check_order (mCons (mVar 1) mNil)))
    r2_renaming)
def m_renaming : MS := (sSeq (sDrop (mCall 1 fn_check_order (mCons (mVar 0) mNil)))
    r1_renaming)
def fn_renaming : List D → FR := runF 3 m_renaming
theorem S_renaming : FnScope ["one", "other", "names"] ["one", "other"] (defScope (top 120)) := ⟨rfl, rfl, rfl, by decide +kernel, rfl, by decide +kernel, by decide +kernel⟩
theorem d_renaming {g : GC} {W : WX} {X : Cx} (bf : BF g) (F_check_order : FD g "check_order" 4 ["value"] fn_check_order) (ok : Ok g s_renaming 4 W X) : DSs g W [] X (defBody (top 120)) m_renaming :=
  (dss_cons (ds_expr (dm_call ok F_check_order (da_cons (dm_var ok 0) da_nil)))
    (dss_cons (ds_expr (dm_call ok F_check_order (da_cons (dm_var ok 1) da_nil)))
    (dss_cons ds_never
    (dss_cons ds_never
    (dss_cons ds_never
    (dss_cons ds_never
    (dss_one ds_never)))))))
def q_renaming : List D → FR
  | [one_1, other_2] => finF (bT (nCall (gq 1 fn_check_order) (nCons (nC one_1) nNil)) fun _ =>
  (bT (nCall (gq 1 fn_check_order) (nCons (nC other_2) nNil)) fun _ =>
  zT))
  | _ => .bad
theorem n_renaming : LeQ 2 q_renaming fn_renaming
  | [one_1, other_2] => (fin_ok (N := 3) (O := []) (Nat.le_of_ble_eq_true rfl) (ns_drop (ne_call leq_gq (ne_cons ne_var ne_nil)) (ns_drop (ne_call leq_gq (ne_cons ne_var ne_nil)) ns_bad))).imp id fun h => ⟨rfl, h⟩
  | [] => .inl rfl
  | [_] => .inl rfl
  | _ :: _ :: _ :: _ => .inl rfl

abbrev s_representation : SS := ⟨["order", "size", "pairs", "below", "b", "a", "sizes", "some", "lefts", "rights", "ends", "found"], defScope (top 108), none⟩
def r8_representation : MS := sBad
def r7_representation : MS := (sSeq sBad
    r8_representation)
def r6_representation : MS := (sSeq sBad
    r7_representation)
def r5_representation : MS := (sSeq sBad
    r6_representation)
def r4_representation : MS := (sSeq sBad
    r5_representation)
def r3_representation : MS := (sSeq sBad
    r4_representation)
def r2_representation : MS := (sSeq sBad
    r3_representation)
def r1_representation : MS := (sSeq sBad
    r2_representation)
def m_representation : MS := (sSeq (sDrop (mCall 1 fn_check_order (mCons (mVar 0) mNil)))
    r1_representation)
def fn_representation : List D → FR := runF 12 m_representation
theorem S_representation : FnScope ["order", "size", "pairs", "below", "b", "a", "sizes", "some", "lefts", "rights", "ends", "found"] ["order"] (defScope (top 108)) := ⟨rfl, rfl, rfl, by decide +kernel, rfl, by decide +kernel, by decide +kernel⟩
theorem d_representation {g : GC} {W : WX} {X : Cx} (bf : BF g) (F_check_order : FD g "check_order" 4 ["value"] fn_check_order) (ok : Ok g s_representation 4 W X) : DSs g W [] X (defBody (top 108)) m_representation :=
  (dss_cons (ds_expr (dm_call ok F_check_order (da_cons (dm_var ok 0) da_nil)))
    (dss_cons ds_never
    (dss_cons ds_never
    (dss_cons ds_never
    (dss_cons ds_never
    (dss_cons ds_never
    (dss_cons ds_never
    (dss_cons ds_never
    (dss_one ds_never)))))))))

abbrev s_is_ascending_elements : SS := ⟨["order", "members", "one"], defScope (top 32), none⟩
def c1_is_ascending_elements : M Ob := mComp 3 (iSeq (mVar 1)) (gSet 2) tYesM (mCall 3 fn_is_between (mCons (mVar 2) (mCons (mC (.int 0)) (mCons (mBin fSub (mBin fIx (mVar 0) (mC (.int 0))) (mC (.int 1))) mNil)))) [2]
def m_is_ascending_elements : MS := (sRet (mAndV (mApp fAll (mCons (mLd c1_is_ascending_elements) mNil)) (mCall 1 fn_is_ascending (mCons (mVar 1) mNil))))
def fn_is_ascending_elements : List D → FR := runF 3 m_is_ascending_elements
theorem S_is_ascending_elements : FnScope ["order", "members", "one"] ["order", "members"] (defScope (top 32)) := ⟨rfl, rfl, rfl, by decide +kernel, rfl, by decide +kernel, by decide +kernel⟩
theorem d_is_ascending_elements {g : GC} {W : WX} {X : Cx} (bf : BF g) (F_is_ascending : FD g "is_ascending" 1 ["values"] fn_is_ascending) (F_is_between : FD g "is_between" 1 ["value", "low", "high"] fn_is_between) (ok : Ok g s_is_ascending_elements 1 W X) : DSs g W [] X (defBody (top 32)) m_is_ascending_elements :=
  (dss_one (ds_ret (dm_and (dm_all ok bf (da_cons ((dl_comp ok (lo := false) (own := [("one", 2)]) { hi := (di_seq ok (dm_var ok 1)), hg := fun _ ok1 => (dg_name ok1 2), ht := fun _ ok1 => dts_nil, he := fun _ ok1 => (dm_call ok1 F_is_between (da_cons (dm_var ok1 2) (da_cons dm_int (da_cons (dm_sub (dm_ix ok1 (dm_var ok1 0) dm_int) dm_int) da_nil)))) })).dm da_nil)) (dm_one (dm_call ok F_is_ascending (da_cons (dm_var ok 1) da_nil))))))

abbrev s_restricted : SS := ⟨["order", "members"], defScope (top 31), none⟩
def m_restricted : MS := (sSeq (sDrop (mCall 1 fn_check_order (mCons (mVar 0) mNil)))
    (sSeq (sIf (tOrM (tNotM (asB (mIsi "tuple" (mVar 1)))) (tOrM (asB (mBin fEq (mApp fLen (mCons (mVar 1) mNil)) (mC (.int 0)))) (tNotM (asB (mCall 2 fn_is_ascending_elements (mCons (mVar 0) (mCons (mVar 1) mNil))))))) (sRaise "InvalidElement") sNext)
    sBad))
def fn_restricted : List D → FR := runF 2 m_restricted
theorem S_restricted : FnScope ["order", "members"] ["order", "members"] (defScope (top 31)) := ⟨rfl, rfl, rfl, by decide +kernel, rfl, by decide +kernel, by decide +kernel⟩
theorem d_restricted {g : GC} {W : WX} {X : Cx} (bf : BF g) (F_check_order : FD g "check_order" 4 ["value"] fn_check_order) (F_is_ascending_elements : FD g "is_ascending_elements" 2 ["order", "members"] fn_is_ascending_elements) (X_InvalidElement : ExF g "InvalidElement") (ok : Ok g s_restricted 4 W X) : DSs g W [] X (defBody (top 31)) m_restricted :=
  (dss_cons (ds_expr (dm_call ok F_check_order (da_cons (dm_var ok 0) da_nil)))
    (dss_cons (ds_if ((dw_or (dt_not (dt_val (dm_isi ok bf "tuple" "tuple" (by decide +kernel) bf.tuple (dm_var ok 1)))) (dw_or (dt_cmp (cr_eq ok) (dm_len ok bf (da_cons (dm_var ok 1) da_nil)) dm_int) (dw_or1 (dt_not (dt_val (dm_call ok F_is_ascending_elements (da_cons (dm_var ok 0) (da_cons (dm_var ok 1) da_nil))))))))).dt (dss_one (ds_raise ok X_InvalidElement)) dss_nil)
    (dss_one ds_never)))

abbrev s_reversing_extension : SS := ⟨["order", "pairs"], defScope (top 61), none⟩
def m_reversing_extension : MS := (sSeq (sDrop (mCall 1 fn_check_order (mCons (mVar 0) mNil)))
    (sSeq (sDrop (mCall 2 fn_check_pairs (mCons (mVar 0) (mCons (mVar 1) mNil))))
    sBad))
def fn_reversing_extension : List D → FR := runF 2 m_reversing_extension
theorem S_reversing_extension : FnScope ["order", "pairs"] ["order", "pairs"] (defScope (top 61)) := ⟨rfl, rfl, rfl, by decide +kernel, rfl, by decide +kernel, by decide +kernel⟩
theorem d_reversing_extension {g : GC} {W : WX} {X : Cx} (bf : BF g) (F_check_order : FD g "check_order" 4 ["value"] fn_check_order) (F_check_pairs : FD g "check_pairs" 3 ["order", "value"] fn_check_pairs) (ok : Ok g s_reversing_extension 4 W X) : DSs g W [] X (defBody (top 61)) m_reversing_extension :=
  (dss_cons (ds_expr (dm_call ok F_check_order (da_cons (dm_var ok 0) da_nil)))
    (dss_cons (ds_expr (dm_call ok F_check_pairs (da_cons (dm_var ok 0) (da_cons (dm_var ok 1) da_nil))))
    (dss_one ds_never)))

abbrev s_share : SS := ⟨["order", "first", "second", "element"], defScope (top 49), none⟩
def b1_share : MS := (sIf (tNotM (asB (mCall 3 fn_is_between (mCons (mVar 3) (mCons (mC (.int 0)) (mCons (mBin fSub (mBin fIx (mVar 0) (mC (.int 0))) (mC (.int 1))) mNil)))))) (sRaise "InvalidElement") sNext)
def l1_share : MS := sFor (iSeq (mTup (mCons (mVar 1) (mCons (mVar 2) mNil)))) (gSet 3) b1_share
def m_share : MS := (sSeq (sDrop (mCall 1 fn_check_order (mCons (mVar 0) mNil)))
    (sSeq l1_share
    (sSeq (sIf (asB (mBin fEq (mVar 1) (mVar 2))) (sRaise "InvalidElement") sNext)
    sBad)))
def fn_share : List D → FR := runF 4 m_share
theorem S_share : FnScope ["order", "first", "second", "element"] ["order", "first", "second"] (defScope (top 49)) := ⟨rfl, rfl, rfl, by decide +kernel, rfl, by decide +kernel, by decide +kernel⟩
theorem d_share {g : GC} {W : WX} {X : Cx} (bf : BF g) (F_check_order : FD g "check_order" 4 ["value"] fn_check_order) (F_is_between : FD g "is_between" 1 ["value", "low", "high"] fn_is_between) (X_InvalidElement : ExF g "InvalidElement") (ok : Ok g s_share 4 W X) : DSs g W [] X (defBody (top 49)) m_share :=
  (dss_cons (ds_expr (dm_call ok F_check_order (da_cons (dm_var ok 0) da_nil)))
    (dss_cons (ds_for (lo := false) ok (di_seq ok (dm_tup (da_cons (dm_var ok 1) (da_cons (dm_var ok 2) da_nil)))) (dg_name ok 3) (dss_one (ds_if (dt_not (dt_val (dm_call ok F_is_between (da_cons (dm_var ok 3) (da_cons dm_int (da_cons (dm_sub (dm_ix ok (dm_var ok 0) dm_int) dm_int) da_nil)))))) (dss_one (ds_raise ok X_InvalidElement)) dss_nil)))
    (dss_cons (ds_if (dt_cmp (cr_eq ok) (dm_var ok 1) (dm_var ok 2)) (dss_one (ds_raise ok X_InvalidElement)) dss_nil)
    (dss_one ds_never))))

abbrev s_stacked : SS := ⟨["one", "other"], defScope (top 35), none⟩
def m_stacked : MS := (sRet (mCall 3 fn_both (mCons (mVar 0) (mCons (mVar 1) (mCons (mC (.bool true)) mNil)))))
def fn_stacked : List D → FR := runF 2 m_stacked
theorem S_stacked : FnScope ["one", "other"] ["one", "other"] (defScope (top 35)) := ⟨rfl, rfl, rfl, by decide +kernel, rfl, by decide +kernel, by decide +kernel⟩
theorem d_stacked {g : GC} {W : WX} {X : Cx} (bf : BF g) (F_both : FD g "both" 5 ["one", "other", "more"] fn_both) (ok : Ok g s_stacked 5 W X) : DSs g W [] X (defBody (top 35)) m_stacked :=
  (dss_one (ds_ret (dm_call ok F_both (da_cons (dm_var ok 0) (da_cons (dm_var ok 1) (da_cons dm_bool da_nil))))))
def q_stacked : List D → FR
  | [one_1, other_2] => finF (nRet (nCall q_both (nCons (nC one_1) (nCons (nC other_2) (nCons (nC (.bool true)) nNil)))))
  | _ => .bad
theorem n_stacked : LeQ 2 q_stacked fn_stacked
  | [one_1, other_2] => (fin_ok (N := 2) (O := []) (Nat.le_of_ble_eq_true rfl) (ns_ret1 (ne_call n_both (ne_cons ne_var (ne_cons ne_var (ne_cons (ne_c _) ne_nil)))))).imp id fun h => ⟨rfl, h⟩
  | [] => .inl rfl
  | [_] => .inl rfl
  | _ :: _ :: _ :: _ => .inl rfl

abbrev s_symmetries : SS := ⟨["order", "names"], defScope (top 121), none⟩
def m_symmetries : MS := (sSeq (sDrop (mCall 1 fn_check_order (mCons (mVar 0) mNil)))
    (sSeq sBad
    sBad))
def fn_symmetries : List D → FR := runF 2 m_symmetries
theorem S_symmetries : FnScope ["order", "names"] ["order"] (defScope (top 121)) := ⟨rfl, rfl, rfl, by decide +kernel, rfl, by decide +kernel, by decide +kernel⟩
theorem d_symmetries {g : GC} {W : WX} {X : Cx} (bf : BF g) (F_check_order : FD g "check_order" 4 ["value"] fn_check_order) (ok : Ok g s_symmetries 4 W X) : DSs g W [] X (defBody (top 121)) m_symmetries :=
  (dss_cons (ds_expr (dm_call ok F_check_order (da_cons (dm_var ok 0) da_nil)))
    (dss_cons ds_never
    (dss_one ds_never)))

abbrev s_unit_obstruction : SS := ⟨["order", "found", "size", "pairs", "some", "a", "b", "c", "d"], defScope (top 113), none⟩
def r6_unit_obstruction : MS := sBad
def r5_unit_obstruction : MS := (sSeq sBad
    r6_unit_obstruction)
def r4_unit_obstruction : MS := (sSeq sBad
    r5_unit_obstruction)
def r3_unit_obstruction : MS := (sSeq sBad
    r4_unit_obstruction)
def r2_unit_obstruction : MS := (sSeq sBad
    r3_unit_obstruction)
def r1_unit_obstruction : MS := (sSeq sBad
    r2_unit_obstruction)
def m_unit_obstruction : MS := (sSeq (sDrop (mCall 1 fn_check_order (mCons (mVar 0) mNil)))
    r1_unit_obstruction)
def fn_unit_obstruction : List D → FR := runF 9 m_unit_obstruction
theorem S_unit_obstruction : FnScope ["order", "found", "size", "pairs", "some", "a", "b", "c", "d"] ["order"] (defScope (top 113)) := ⟨rfl, rfl, rfl, by decide +kernel, rfl, by decide +kernel, by decide +kernel⟩
theorem d_unit_obstruction {g : GC} {W : WX} {X : Cx} (bf : BF g) (F_check_order : FD g "check_order" 4 ["value"] fn_check_order) (ok : Ok g s_unit_obstruction 4 W X) : DSs g W [] X (defBody (top 113)) m_unit_obstruction :=
  (dss_cons (ds_expr (dm_call ok F_check_order (da_cons (dm_var ok 0) da_nil)))
    (dss_cons ds_never
    (dss_cons ds_never
    (dss_cons ds_never
    (dss_cons ds_never
    (dss_cons ds_never
    (dss_one ds_never)))))))

abbrev s_unit_representation : SS := ⟨["order", "length", "lefts", "left"], defScope (top 110), none⟩
def m_unit_representation : MS := (sSeq (sDrop (mCall 1 fn_check_order (mCons (mVar 0) mNil)))
    (sSeq sBad
    sBad))
def fn_unit_representation : List D → FR := runF 4 m_unit_representation
theorem S_unit_representation : FnScope ["order", "length", "lefts", "left"] ["order"] (defScope (top 110)) := ⟨rfl, rfl, rfl, by decide +kernel, rfl, by decide +kernel, by decide +kernel⟩
theorem d_unit_representation {g : GC} {W : WX} {X : Cx} (bf : BF g) (F_check_order : FD g "check_order" 4 ["value"] fn_check_order) (ok : Ok g s_unit_representation 4 W X) : DSs g W [] X (defBody (top 110)) m_unit_representation :=
  (dss_cons (ds_expr (dm_call ok F_check_order (da_cons (dm_var ok 0) da_nil)))
    (dss_cons ds_never
    (dss_one ds_never)))

abbrev s_weighted_realizer : SS := ⟨["order"], defScope (top 137), none⟩
def m_weighted_realizer : MS := (sSeq (sDrop (mCall 1 fn_check_order (mCons (mVar 0) mNil)))
    (sSeq sBad
    (sSeq sBad
    sBad)))
def fn_weighted_realizer : List D → FR := runF 1 m_weighted_realizer
theorem S_weighted_realizer : FnScope ["order"] ["order"] (defScope (top 137)) := ⟨rfl, rfl, rfl, by decide +kernel, rfl, by decide +kernel, by decide +kernel⟩
theorem d_weighted_realizer {g : GC} {W : WX} {X : Cx} (bf : BF g) (F_check_order : FD g "check_order" 4 ["value"] fn_check_order) (ok : Ok g s_weighted_realizer 4 W X) : DSs g W [] X (defBody (top 137)) m_weighted_realizer :=
  (dss_cons (ds_expr (dm_call ok F_check_order (da_cons (dm_var ok 0) da_nil)))
    (dss_cons ds_never
    (dss_cons ds_never
    (dss_one ds_never))))

abbrev s_weighting : SS := ⟨["order"], defScope (top 138), none⟩
def m_weighting : MS := (sSeq (sDrop (mCall 1 fn_check_order (mCons (mVar 0) mNil)))
    (sSeq sBad
    sBad))
def fn_weighting : List D → FR := runF 1 m_weighting
theorem S_weighting : FnScope ["order"] ["order"] (defScope (top 138)) := ⟨rfl, rfl, rfl, by decide +kernel, rfl, by decide +kernel, by decide +kernel⟩
theorem d_weighting {g : GC} {W : WX} {X : Cx} (bf : BF g) (F_check_order : FD g "check_order" 4 ["value"] fn_check_order) (ok : Ok g s_weighting 4 W X) : DSs g W [] X (defBody (top 138)) m_weighting :=
  (dss_cons (ds_expr (dm_call ok F_check_order (da_cons (dm_var ok 0) da_nil)))
    (dss_cons ds_never
    (dss_one ds_never)))

abbrev s_width : SS := ⟨["order"], defScope (top 97), none⟩
def m_width : MS := (sSeq (sDrop (mCall 1 fn_check_order (mCons (mVar 0) mNil)))
    sBad)
def fn_width : List D → FR := runF 1 m_width
theorem S_width : FnScope ["order"] ["order"] (defScope (top 97)) := ⟨rfl, rfl, rfl, by decide +kernel, rfl, by decide +kernel, by decide +kernel⟩
theorem d_width {g : GC} {W : WX} {X : Cx} (bf : BF g) (F_check_order : FD g "check_order" 4 ["value"] fn_check_order) (ok : Ok g s_width 4 W X) : DSs g W [] X (defBody (top 97)) m_width :=
  (dss_cons (ds_expr (dm_call ok F_check_order (da_cons (dm_var ok 0) da_nil)))
    (dss_one ds_never))

abbrev s__law_call : SS := ⟨["way", "arguments", "order", "one", "other", "asked"], defScope (top 152), none⟩
def tb__law_call : Tbl := [(("alternating_cycle" : PySem.Str), (2 : Nat), fn_alternating_cycle), (("antichain_partition" : PySem.Str), (1 : Nat), fn_antichain_partition), (("balanced_pair" : PySem.Str), (1 : Nat), fn_balanced_pair), (("beside" : PySem.Str), (2 : Nat), fn_beside), (("chain_partition" : PySem.Str), (1 : Nat), fn_chain_partition), (("conjugate" : PySem.Str), (1 : Nat), fn_conjugate), (("count_extensions" : PySem.Str), (1 : Nat), fn_count_extensions), (("covers" : PySem.Str), (1 : Nat), fn_covers), (("critical_pairs" : PySem.Str), (1 : Nat), fn_critical_pairs), (("dimension" : PySem.Str), (1 : Nat), fn_dimension), (("dual" : PySem.Str), (1 : Nat), fn_dual), (("extension_at" : PySem.Str), (2 : Nat), fn_extension_at), (("forcing_chain" : PySem.Str), (1 : Nat), fn_forcing_chain), (("format_order" : PySem.Str), (1 : Nat), fn_format_order), (("fractional_dimension" : PySem.Str), (1 : Nat), fn_fractional_dimension), (("height" : PySem.Str), (1 : Nat), fn_height), (("incomparable" : PySem.Str), (1 : Nat), fn_incomparable), (("index_of" : PySem.Str), (2 : Nat), fn_index_of), (("is_alternating_cycle" : PySem.Str), (2 : Nat), fn_is_alternating_cycle), (("is_extension" : PySem.Str), (2 : Nat), fn_is_extension), (("is_forcing_chain" : PySem.Str), (2 : Nat), fn_is_forcing_chain), (("is_partition" : PySem.Str), (2 : Nat), fn_is_partition), (("is_realizer" : PySem.Str), (2 : Nat), fn_is_realizer), (("is_refutation" : PySem.Str), (3 : Nat), fn_is_refutation), (("is_weighted_realizer" : PySem.Str), (2 : Nat), fn_is_weighted_realizer), (("is_weighting" : PySem.Str), (2 : Nat), fn_is_weighting), (("largest_antichain" : PySem.Str), (1 : Nat), fn_largest_antichain), (("largest_chain" : PySem.Str), (1 : Nat), fn_largest_chain), (("least_form" : PySem.Str), (1 : Nat), fn_least_form), (("needed_elements" : PySem.Str), (1 : Nat), fn_needed_elements), (("obstruction" : PySem.Str), (1 : Nat), fn_obstruction), (("points" : PySem.Str), (1 : Nat), fn_points), (("realizer" : PySem.Str), (2 : Nat), fn_realizer), (("refutation" : PySem.Str), (2 : Nat), fn_refutation), (("renamed" : PySem.Str), (2 : Nat), fn_renamed), (("renaming" : PySem.Str), (2 : Nat), fn_renaming), (("representation" : PySem.Str), (1 : Nat), fn_representation), (("restricted" : PySem.Str), (2 : Nat), fn_restricted), (("reversing_extension" : PySem.Str), (2 : Nat), fn_reversing_extension), (("share" : PySem.Str), (3 : Nat), fn_share), (("stacked" : PySem.Str), (2 : Nat), fn_stacked), (("symmetries" : PySem.Str), (1 : Nat), fn_symmetries), (("unit_obstruction" : PySem.Str), (1 : Nat), fn_unit_obstruction), (("unit_representation" : PySem.Str), (1 : Nat), fn_unit_representation), (("weighted_realizer" : PySem.Str), (1 : Nat), fn_weighted_realizer), (("weighting" : PySem.Str), (1 : Nat), fn_weighting), (("width" : PySem.Str), (1 : Nat), fn_width)]
def r8__law_call : MS := (sRet (mCallE tb__law_call (mBin fIx (mTup (mCons (mC (fnD "beside")) (mCons (mC (fnD "stacked")) (mCons (mC (fnD "renaming")) mNil)))) (mBin fSub (mVar 0) (mC (.int 46)))) (mCons (mVar 2) (mCons (mVar 3) mNil))))
def r7__law_call : MS := (sSeq (sIf (asB (mBin fLt (mVar 0) (mC (.int 46)))) (sRet (mIf (asB (mBin fLt (mVar 0) (mC (.int 44)))) (mCallE tb__law_call (mBin fIx (mTup (mCons (mC (fnD "share")) (mCons (mC (fnD "is_refutation")) mNil))) (mBin fSub (mVar 0) (mC (.int 42)))) (mCons (mVar 2) (mCons (mVar 3) (mCons (mVar 4) mNil)))) (mCall 2 fn_closed (mCons (mVar 2) (mCons (mVar 3) mNil))))) sNext)
    r8__law_call)
def r6__law_call : MS := (sSeq (sIf (asB (mBin fLt (mVar 0) (mC (.int 42)))) (sSeq (sSet 5 (mTup (mCons (mC (fnD "is_extension")) (mCons (mC (fnD "is_alternating_cycle")) (mCons (mC (fnD "is_realizer")) (mCons (mC (fnD "is_forcing_chain")) (mCons (mC (fnD "is_partition")) mNil)))))))
    (sRet (mCallE tb__law_call (mBin fIx (mBin fAdd (mVar 5) (mTup (mCons (mC (fnD "is_weighted_realizer")) (mCons (mC (fnD "is_weighting")) mNil)))) (mBin fSub (mVar 0) (mC (.int 35)))) (mCons (mVar 2) (mCons (mVar 3) mNil))))) sNext)
    r7__law_call)
def r5__law_call : MS := (sSeq (sIf (asB (mBin fLt (mVar 0) (mC (.int 35)))) (sSeq (sSet 5 (mTup (mCons (mC (fnD "restricted")) (mCons (mC (fnD "extension_at")) (mCons (mC (fnD "index_of")) (mCons (mC (fnD "reversing_extension")) (mCons (mC (fnD "alternating_cycle")) (mCons (mC (fnD "realizer")) mNil))))))))
    (sRet (mCallE tb__law_call (mBin fIx (mBin fAdd (mVar 5) (mTup (mCons (mC (fnD "refutation")) (mCons (mC (fnD "renamed")) mNil)))) (mBin fSub (mVar 0) (mC (.int 27)))) (mCons (mVar 2) (mCons (mVar 3) mNil))))) sNext)
    r6__law_call)
def r4__law_call : MS := (sSeq (sIf (asB (mBin fLt (mVar 0) (mC (.int 27)))) (sRet (mCallE tb__law_call (mBin fIx (mTup (mCons (mC (fnD "fractional_dimension")) (mCons (mC (fnD "weighted_realizer")) (mCons (mC (fnD "weighting")) mNil)))) (mBin fSub (mVar 0) (mC (.int 24)))) (mCons (mVar 2) mNil))) sNext)
    r5__law_call)
def r3__law_call : MS := (sSeq (sIf (asB (mBin fLt (mVar 0) (mC (.int 24)))) (sSeq (sSet 5 (mTup (mCons (mC (fnD "antichain_partition")) (mCons (mC (fnD "representation")) (mCons (mC (fnD "unit_representation")) (mCons (mC (fnD "obstruction")) (mCons (mC (fnD "unit_obstruction")) (mCons (mC (fnD "least_form")) mNil))))))))
    (sRet (mCallE tb__law_call (mBin fIx (mBin fAdd (mVar 5) (mTup (mCons (mC (fnD "symmetries")) (mCons (mC (fnD "format_order")) mNil)))) (mBin fSub (mVar 0) (mC (.int 16)))) (mCons (mVar 2) mNil)))) sNext)
    r4__law_call)
def r2__law_call : MS := (sSeq (sIf (asB (mBin fLt (mVar 0) (mC (.int 16)))) (sSeq (sSet 5 (mTup (mCons (mC (fnD "conjugate")) (mCons (mC (fnD "forcing_chain")) (mCons (mC (fnD "points")) (mCons (mC (fnD "width")) (mCons (mC (fnD "height")) (mCons (mC (fnD "largest_chain")) mNil))))))))
    (sRet (mCallE tb__law_call (mBin fIx (mBin fAdd (mVar 5) (mTup (mCons (mC (fnD "largest_antichain")) (mCons (mC (fnD "chain_partition")) mNil)))) (mBin fSub (mVar 0) (mC (.int 8)))) (mCons (mVar 2) mNil)))) sNext)
    r3__law_call)
def r1__law_call : MS := (sSeq (sIf (asB (mBin fLt (mVar 0) (mC (.int 8)))) (sSeq (sSet 5 (mTup (mCons (mC (fnD "covers")) (mCons (mC (fnD "incomparable")) (mCons (mC (fnD "dual")) (mCons (mC (fnD "count_extensions")) (mCons (mC (fnD "balanced_pair")) (mCons (mC (fnD "critical_pairs")) mNil))))))))
    (sRet (mCallE tb__law_call (mBin fIx (mBin fAdd (mVar 5) (mTup (mCons (mC (fnD "dimension")) (mCons (mC (fnD "needed_elements")) mNil)))) (mVar 0)) (mCons (mVar 2) mNil)))) sNext)
    r2__law_call)
def m__law_call : MS := (sSeq (sUnp (mVar 1) (gTupD (gsCons (gSet 2) (gsCons (gSet 3) (gsCons (gSet 4) gsNil)))))
    r1__law_call)
def fn__law_call : List D → FR := runF 6 m__law_call
theorem S__law_call : FnScope ["way", "arguments", "order", "one", "other", "asked"] ["way", "arguments"] (defScope (top 152)) := ⟨rfl, rfl, rfl, by decide +kernel, rfl, by decide +kernel, by decide +kernel⟩
theorem tbo__law_call {g : GC} (F_alternating_cycle : FD g "alternating_cycle" 5 ["order", "pairs"] fn_alternating_cycle) (F_antichain_partition : FD g "antichain_partition" 5 ["order"] fn_antichain_partition) (F_balanced_pair : FD g "balanced_pair" 5 ["order"] fn_balanced_pair) (F_beside : FD g "beside" 6 ["one", "other"] fn_beside) (F_chain_partition : FD g "chain_partition" 5 ["order"] fn_chain_partition) (F_conjugate : FD g "conjugate" 5 ["order"] fn_conjugate) (F_count_extensions : FD g "count_extensions" 5 ["order"] fn_count_extensions) (F_covers : FD g "covers" 5 ["order"] fn_covers) (F_critical_pairs : FD g "critical_pairs" 5 ["order"] fn_critical_pairs) (F_dimension : FD g "dimension" 5 ["order"] fn_dimension) (F_dual : FD g "dual" 5 ["order"] fn_dual) (F_extension_at : FD g "extension_at" 5 ["order", "index"] fn_extension_at) (F_forcing_chain : FD g "forcing_chain" 5 ["order"] fn_forcing_chain) (F_format_order : FD g "format_order" 5 ["order"] fn_format_order) (F_fractional_dimension : FD g "fractional_dimension" 5 ["order"] fn_fractional_dimension) (F_height : FD g "height" 5 ["order"] fn_height) (F_incomparable : FD g "incomparable" 5 ["order"] fn_incomparable) (F_index_of : FD g "index_of" 5 ["order", "extension"] fn_index_of) (F_is_alternating_cycle : FD g "is_alternating_cycle" 5 ["order", "value"] fn_is_alternating_cycle) (F_is_extension : FD g "is_extension" 5 ["order", "value"] fn_is_extension) (F_is_forcing_chain : FD g "is_forcing_chain" 5 ["order", "value"] fn_is_forcing_chain) (F_is_partition : FD g "is_partition" 5 ["order", "value"] fn_is_partition) (F_is_realizer : FD g "is_realizer" 5 ["order", "value"] fn_is_realizer) (F_is_refutation : FD g "is_refutation" 5 ["order", "t", "value"] fn_is_refutation) (F_is_weighted_realizer : FD g "is_weighted_realizer" 5 ["order", "value"] fn_is_weighted_realizer) (F_is_weighting : FD g "is_weighting" 5 ["order", "value"] fn_is_weighting) (F_largest_antichain : FD g "largest_antichain" 5 ["order"] fn_largest_antichain) (F_largest_chain : FD g "largest_chain" 5 ["order"] fn_largest_chain) (F_least_form : FD g "least_form" 5 ["order"] fn_least_form) (F_needed_elements : FD g "needed_elements" 5 ["order"] fn_needed_elements) (F_obstruction : FD g "obstruction" 5 ["order"] fn_obstruction) (F_points : FD g "points" 5 ["order"] fn_points) (F_realizer : FD g "realizer" 5 ["order", "t"] fn_realizer) (F_refutation : FD g "refutation" 5 ["order", "t"] fn_refutation) (F_renamed : FD g "renamed" 5 ["order", "names"] fn_renamed) (F_renaming : FD g "renaming" 5 ["one", "other"] fn_renaming) (F_representation : FD g "representation" 5 ["order"] fn_representation) (F_restricted : FD g "restricted" 5 ["order", "members"] fn_restricted) (F_reversing_extension : FD g "reversing_extension" 5 ["order", "pairs"] fn_reversing_extension) (F_share : FD g "share" 5 ["order", "first", "second"] fn_share) (F_stacked : FD g "stacked" 6 ["one", "other"] fn_stacked) (F_symmetries : FD g "symmetries" 5 ["order"] fn_symmetries) (F_unit_obstruction : FD g "unit_obstruction" 5 ["order"] fn_unit_obstruction) (F_unit_representation : FD g "unit_representation" 5 ["order"] fn_unit_representation) (F_weighted_realizer : FD g "weighted_realizer" 5 ["order"] fn_weighted_realizer) (F_weighting : FD g "weighting" 5 ["order"] fn_weighting) (F_width : FD g "width" 5 ["order"] fn_width) : TbOk g 6 tb__law_call := by
  unfold tb__law_call
  exact (tb_cons F_alternating_cycle (tb_cons F_antichain_partition (tb_cons F_balanced_pair (tb_cons F_beside (tb_cons F_chain_partition (tb_cons F_conjugate (tb_cons F_count_extensions (tb_cons F_covers (tb_cons F_critical_pairs (tb_cons F_dimension (tb_cons F_dual (tb_cons F_extension_at (tb_cons F_forcing_chain (tb_cons F_format_order (tb_cons F_fractional_dimension (tb_cons F_height (tb_cons F_incomparable (tb_cons F_index_of (tb_cons F_is_alternating_cycle (tb_cons F_is_extension (tb_cons F_is_forcing_chain (tb_cons F_is_partition (tb_cons F_is_realizer (tb_cons F_is_refutation (tb_cons F_is_weighted_realizer (tb_cons F_is_weighting (tb_cons F_largest_antichain (tb_cons F_largest_chain (tb_cons F_least_form (tb_cons F_needed_elements (tb_cons F_obstruction (tb_cons F_points (tb_cons F_realizer (tb_cons F_refutation (tb_cons F_renamed (tb_cons F_renaming (tb_cons F_representation (tb_cons F_restricted (tb_cons F_reversing_extension (tb_cons F_share (tb_cons F_stacked (tb_cons F_symmetries (tb_cons F_unit_obstruction (tb_cons F_unit_representation (tb_cons F_weighted_realizer (tb_cons F_weighting (tb_cons F_width tb_nil)))))))))))))))))))))))))))))))))))))))))))))))
theorem d__law_call {g : GC} {W : WX} {X : Cx} (bf : BF g) (F_alternating_cycle : FD g "alternating_cycle" 5 ["order", "pairs"] fn_alternating_cycle) (F_antichain_partition : FD g "antichain_partition" 5 ["order"] fn_antichain_partition) (F_balanced_pair : FD g "balanced_pair" 5 ["order"] fn_balanced_pair) (F_beside : FD g "beside" 6 ["one", "other"] fn_beside) (F_chain_partition : FD g "chain_partition" 5 ["order"] fn_chain_partition) (F_closed : FD g "closed" 3 ["size", "some"] fn_closed) (F_conjugate : FD g "conjugate" 5 ["order"] fn_conjugate) (F_count_extensions : FD g "count_extensions" 5 ["order"] fn_count_extensions) (F_covers : FD g "covers" 5 ["order"] fn_covers) (F_critical_pairs : FD g "critical_pairs" 5 ["order"] fn_critical_pairs) (F_dimension : FD g "dimension" 5 ["order"] fn_dimension) (F_dual : FD g "dual" 5 ["order"] fn_dual) (F_extension_at : FD g "extension_at" 5 ["order", "index"] fn_extension_at) (F_forcing_chain : FD g "forcing_chain" 5 ["order"] fn_forcing_chain) (F_format_order : FD g "format_order" 5 ["order"] fn_format_order) (F_fractional_dimension : FD g "fractional_dimension" 5 ["order"] fn_fractional_dimension) (F_height : FD g "height" 5 ["order"] fn_height) (F_incomparable : FD g "incomparable" 5 ["order"] fn_incomparable) (F_index_of : FD g "index_of" 5 ["order", "extension"] fn_index_of) (F_is_alternating_cycle : FD g "is_alternating_cycle" 5 ["order", "value"] fn_is_alternating_cycle) (F_is_extension : FD g "is_extension" 5 ["order", "value"] fn_is_extension) (F_is_forcing_chain : FD g "is_forcing_chain" 5 ["order", "value"] fn_is_forcing_chain) (F_is_partition : FD g "is_partition" 5 ["order", "value"] fn_is_partition) (F_is_realizer : FD g "is_realizer" 5 ["order", "value"] fn_is_realizer) (F_is_refutation : FD g "is_refutation" 5 ["order", "t", "value"] fn_is_refutation) (F_is_weighted_realizer : FD g "is_weighted_realizer" 5 ["order", "value"] fn_is_weighted_realizer) (F_is_weighting : FD g "is_weighting" 5 ["order", "value"] fn_is_weighting) (F_largest_antichain : FD g "largest_antichain" 5 ["order"] fn_largest_antichain) (F_largest_chain : FD g "largest_chain" 5 ["order"] fn_largest_chain) (F_least_form : FD g "least_form" 5 ["order"] fn_least_form) (F_needed_elements : FD g "needed_elements" 5 ["order"] fn_needed_elements) (F_obstruction : FD g "obstruction" 5 ["order"] fn_obstruction) (F_points : FD g "points" 5 ["order"] fn_points) (F_realizer : FD g "realizer" 5 ["order", "t"] fn_realizer) (F_refutation : FD g "refutation" 5 ["order", "t"] fn_refutation) (F_renamed : FD g "renamed" 5 ["order", "names"] fn_renamed) (F_renaming : FD g "renaming" 5 ["one", "other"] fn_renaming) (F_representation : FD g "representation" 5 ["order"] fn_representation) (F_restricted : FD g "restricted" 5 ["order", "members"] fn_restricted) (F_reversing_extension : FD g "reversing_extension" 5 ["order", "pairs"] fn_reversing_extension) (F_share : FD g "share" 5 ["order", "first", "second"] fn_share) (F_stacked : FD g "stacked" 6 ["one", "other"] fn_stacked) (F_symmetries : FD g "symmetries" 5 ["order"] fn_symmetries) (F_unit_obstruction : FD g "unit_obstruction" 5 ["order"] fn_unit_obstruction) (F_unit_representation : FD g "unit_representation" 5 ["order"] fn_unit_representation) (F_weighted_realizer : FD g "weighted_realizer" 5 ["order"] fn_weighted_realizer) (F_weighting : FD g "weighting" 5 ["order"] fn_weighting) (F_width : FD g "width" 5 ["order"] fn_width) (ok : Ok g s__law_call 6 W X) : DSs g W [] X (defBody (top 152)) m__law_call :=
  have tb := tbo__law_call F_alternating_cycle F_antichain_partition F_balanced_pair F_beside F_chain_partition F_conjugate F_count_extensions F_covers F_critical_pairs F_dimension F_dual F_extension_at F_forcing_chain F_format_order F_fractional_dimension F_height F_incomparable F_index_of F_is_alternating_cycle F_is_extension F_is_forcing_chain F_is_partition F_is_realizer F_is_refutation F_is_weighted_realizer F_is_weighting F_largest_antichain F_largest_chain F_least_form F_needed_elements F_obstruction F_points F_realizer F_refutation F_renamed F_renaming F_representation F_restricted F_reversing_extension F_share F_stacked F_symmetries F_unit_obstruction F_unit_representation F_weighted_realizer F_weighting F_width
  (dss_cons (ds_unp (dm_var ok 1) (dg_tup ok (dgs_cons (dg_name ok 2) (dgs_cons (dg_name ok 3) (dgs_cons (dg_name ok 4) dgs_nil))) (gsCons_len (gsCons_len (gsCons_len (fun _ _ _ h => gsNil_len h))))))
    (dss_cons (ds_if (dt_cmp (cr_lt ok) (dm_var ok 0) dm_int) (dss_cons (ds_set ok 5 (dm_tup (da_cons (dm_fn ok F_covers) (da_cons (dm_fn ok F_incomparable) (da_cons (dm_fn ok F_dual) (da_cons (dm_fn ok F_count_extensions) (da_cons (dm_fn ok F_balanced_pair) (da_cons (dm_fn ok F_critical_pairs) da_nil))))))))
    (dss_one (ds_ret (dm_callE ok tb (dm_ix ok (dm_add ok (dm_var ok 5) (dm_tup (da_cons (dm_fn ok F_dimension) (da_cons (dm_fn ok F_needed_elements) da_nil)))) (dm_var ok 0)) (da_cons (dm_var ok 2) da_nil))))) dss_nil)
    (dss_cons (ds_if (dt_cmp (cr_lt ok) (dm_var ok 0) dm_int) (dss_cons (ds_set ok 5 (dm_tup (da_cons (dm_fn ok F_conjugate) (da_cons (dm_fn ok F_forcing_chain) (da_cons (dm_fn ok F_points) (da_cons (dm_fn ok F_width) (da_cons (dm_fn ok F_height) (da_cons (dm_fn ok F_largest_chain) da_nil))))))))
    (dss_one (ds_ret (dm_callE ok tb (dm_ix ok (dm_add ok (dm_var ok 5) (dm_tup (da_cons (dm_fn ok F_largest_antichain) (da_cons (dm_fn ok F_chain_partition) da_nil)))) (dm_sub (dm_var ok 0) dm_int)) (da_cons (dm_var ok 2) da_nil))))) dss_nil)
    (dss_cons (ds_if (dt_cmp (cr_lt ok) (dm_var ok 0) dm_int) (dss_cons (ds_set ok 5 (dm_tup (da_cons (dm_fn ok F_antichain_partition) (da_cons (dm_fn ok F_representation) (da_cons (dm_fn ok F_unit_representation) (da_cons (dm_fn ok F_obstruction) (da_cons (dm_fn ok F_unit_obstruction) (da_cons (dm_fn ok F_least_form) da_nil))))))))
    (dss_one (ds_ret (dm_callE ok tb (dm_ix ok (dm_add ok (dm_var ok 5) (dm_tup (da_cons (dm_fn ok F_symmetries) (da_cons (dm_fn ok F_format_order) da_nil)))) (dm_sub (dm_var ok 0) dm_int)) (da_cons (dm_var ok 2) da_nil))))) dss_nil)
    (dss_cons (ds_if (dt_cmp (cr_lt ok) (dm_var ok 0) dm_int) (dss_one (ds_ret (dm_callE ok tb (dm_ix ok (dm_tup (da_cons (dm_fn ok F_fractional_dimension) (da_cons (dm_fn ok F_weighted_realizer) (da_cons (dm_fn ok F_weighting) da_nil)))) (dm_sub (dm_var ok 0) dm_int)) (da_cons (dm_var ok 2) da_nil)))) dss_nil)
    (dss_cons (ds_if (dt_cmp (cr_lt ok) (dm_var ok 0) dm_int) (dss_cons (ds_set ok 5 (dm_tup (da_cons (dm_fn ok F_restricted) (da_cons (dm_fn ok F_extension_at) (da_cons (dm_fn ok F_index_of) (da_cons (dm_fn ok F_reversing_extension) (da_cons (dm_fn ok F_alternating_cycle) (da_cons (dm_fn ok F_realizer) da_nil))))))))
    (dss_one (ds_ret (dm_callE ok tb (dm_ix ok (dm_add ok (dm_var ok 5) (dm_tup (da_cons (dm_fn ok F_refutation) (da_cons (dm_fn ok F_renamed) da_nil)))) (dm_sub (dm_var ok 0) dm_int)) (da_cons (dm_var ok 2) (da_cons (dm_var ok 3) da_nil)))))) dss_nil)
    (dss_cons (ds_if (dt_cmp (cr_lt ok) (dm_var ok 0) dm_int) (dss_cons (ds_set ok 5 (dm_tup (da_cons (dm_fn ok F_is_extension) (da_cons (dm_fn ok F_is_alternating_cycle) (da_cons (dm_fn ok F_is_realizer) (da_cons (dm_fn ok F_is_forcing_chain) (da_cons (dm_fn ok F_is_partition) da_nil)))))))
    (dss_one (ds_ret (dm_callE ok tb (dm_ix ok (dm_add ok (dm_var ok 5) (dm_tup (da_cons (dm_fn ok F_is_weighted_realizer) (da_cons (dm_fn ok F_is_weighting) da_nil)))) (dm_sub (dm_var ok 0) dm_int)) (da_cons (dm_var ok 2) (da_cons (dm_var ok 3) da_nil)))))) dss_nil)
    (dss_cons (ds_if (dt_cmp (cr_lt ok) (dm_var ok 0) dm_int) (dss_one (ds_ret (dm_if (dt_cmp (cr_lt ok) (dm_var ok 0) dm_int) (dm_callE ok tb (dm_ix ok (dm_tup (da_cons (dm_fn ok F_share) (da_cons (dm_fn ok F_is_refutation) da_nil))) (dm_sub (dm_var ok 0) dm_int)) (da_cons (dm_var ok 2) (da_cons (dm_var ok 3) (da_cons (dm_var ok 4) da_nil)))) (dm_call ok F_closed (da_cons (dm_var ok 2) (da_cons (dm_var ok 3) da_nil)))))) dss_nil)
    (dss_one (ds_ret (dm_callE ok tb (dm_ix ok (dm_tup (da_cons (dm_fn ok F_beside) (da_cons (dm_fn ok F_stacked) (da_cons (dm_fn ok F_renaming) da_nil)))) (dm_sub (dm_var ok 0) dm_int)) (da_cons (dm_var ok 2) (da_cons (dm_var ok 3) da_nil)))))))))))))

abbrev s__law_name : SS := ⟨["caught", "found"], defScope (top 147), none⟩
def r7__law_name : MS := (sRet (mIf (asB (mBin fEq (mCnt (mVar 1) (mC (.bool true))) (mC (.int 1)))) (mIdx (mVar 1) (mC (.bool true))) (mUn fNeg (mC (.int 1)))))
def r6__law_name : MS := (sSeq (sSet 1 (mLd (mBinL fCat (mVar 1) (mLd (mLst (mCons (mUn (fIsE "Comparable") (mVar 0)) (mCons (mUn (fIsE "NothingToUndo") (mVar 0)) mNil)))))))
    r7__law_name)
def r5__law_name : MS := (sSeq (sSet 1 (mLd (mBinL fCat (mVar 1) (mLd (mLst (mCons (mUn (fIsE "InvalidText") (mVar 0)) (mCons (mUn (fIsE "TooLarge") (mVar 0)) mNil)))))))
    r6__law_name)
def r4__law_name : MS := (sSeq (sSet 1 (mLd (mBinL fCat (mVar 1) (mLd (mLst (mCons (mUn (fIsE "InvalidPoints") (mVar 0)) (mCons (mUn (fIsE "InvalidNames") (mVar 0)) mNil)))))))
    r5__law_name)
def r3__law_name : MS := (sSeq (sSet 1 (mLd (mBinL fCat (mVar 1) (mLd (mLst (mCons (mUn (fIsE "InvalidIndex") (mVar 0)) (mCons (mUn (fIsE "InvalidNumber") (mVar 0)) mNil)))))))
    r4__law_name)
def r2__law_name : MS := (sSeq (sSet 1 (mLd (mBinL fCat (mVar 1) (mLd (mLst (mCons (mUn (fIsE "InvalidPairs") (mVar 0)) (mCons (mUn (fIsE "InvalidExtension") (mVar 0)) mNil)))))))
    r3__law_name)
def r1__law_name : MS := (sSeq (sSet 1 (mLd (mLst (mCons (mUn (fIsE "InvalidOrder") (mVar 0)) (mCons (mUn (fIsE "InvalidElement") (mVar 0)) mNil)))))
    r2__law_name)
def m__law_name : MS := (sSeq (sIf (tNotM (asB (mUn fIsV (mVar 0)))) (sRet (mUn fNeg (mC (.int 1)))) sNext)
    r1__law_name)
def fn__law_name : List D → FR := runF 2 m__law_name
theorem S__law_name : FnScope ["caught", "found"] ["caught"] (defScope (top 147)) := ⟨rfl, rfl, rfl, by decide +kernel, rfl, by decide +kernel, by decide +kernel⟩
theorem d__law_name {g : GC} {W : WX} {X : Cx} (bf : BF g) (ef : EF g) (ve : g.mg "ValueError" = none) (ok : Ok g s__law_name 0 W X) : DSs g W [] X (defBody (top 147)) m__law_name :=
  (dss_cons (ds_if (dt_not (dt_val (dm_isV ok bf ef ve (dm_var ok 0)))) (dss_one (ds_ret (dm_neg dm_int))) dss_nil)
    (dss_cons (ds_set ok 1 ((dl_lst (da_cons (dm_isE ok bf ef "InvalidOrder" (dm_var ok 0)) (da_cons (dm_isE ok bf ef "InvalidElement" (dm_var ok 0)) da_nil)))).dm)
    (dss_cons (ds_set ok 1 ((dl_cat ok (dm_var ok 1) ((dl_lst (da_cons (dm_isE ok bf ef "InvalidPairs" (dm_var ok 0)) (da_cons (dm_isE ok bf ef "InvalidExtension" (dm_var ok 0)) da_nil)))).dm)).dm)
    (dss_cons (ds_set ok 1 ((dl_cat ok (dm_var ok 1) ((dl_lst (da_cons (dm_isE ok bf ef "InvalidIndex" (dm_var ok 0)) (da_cons (dm_isE ok bf ef "InvalidNumber" (dm_var ok 0)) da_nil)))).dm)).dm)
    (dss_cons (ds_set ok 1 ((dl_cat ok (dm_var ok 1) ((dl_lst (da_cons (dm_isE ok bf ef "InvalidPoints" (dm_var ok 0)) (da_cons (dm_isE ok bf ef "InvalidNames" (dm_var ok 0)) da_nil)))).dm)).dm)
    (dss_cons (ds_set ok 1 ((dl_cat ok (dm_var ok 1) ((dl_lst (da_cons (dm_isE ok bf ef "InvalidText" (dm_var ok 0)) (da_cons (dm_isE ok bf ef "TooLarge" (dm_var ok 0)) da_nil)))).dm)).dm)
    (dss_cons (ds_set ok 1 ((dl_cat ok (dm_var ok 1) ((dl_lst (da_cons (dm_isE ok bf ef "Comparable" (dm_var ok 0)) (da_cons (dm_isE ok bf ef "NothingToUndo" (dm_var ok 0)) da_nil)))).dm)).dm)
    (dss_one (ds_ret (dm_if (dt_cmp (cr_eq ok) (dm_count ok (dm_var ok 1) dm_bool) dm_int) (dm_index ok (dm_var ok 1) dm_bool) (dm_neg dm_int)))))))))))

abbrev s__law_outcome : SS := ⟨["way", "arguments", "caught", "result", "error"], defScope (top 146), none⟩
def r4__law_outcome : MS := (sRet (mTup (mCons (mC (.str (PySem.Str.ofString "raised"))) (mCons (mCall 1 fn__law_name (mCons (mVar 2) mNil)) mNil))))
def r3__law_outcome : MS := (sSeq (sIf (asB (mBin fIs (mVar 2) (mC .none))) (sRet (mTup (mCons (mC (.str (PySem.Str.ofString "returned"))) (mCons (mVar 3) mNil)))) sNext)
    r4__law_outcome)
def r2__law_outcome : MS := (sSeq (sTry 4 2 (sSet 3 (mCall 2 fn__law_call (mCons (mVar 0) (mCons (mVar 1) mNil)))))
    r3__law_outcome)
def r1__law_outcome : MS := (sSeq (sSet 3 (mC .none))
    r2__law_outcome)
def m__law_outcome : MS := (sSeq (sSet 2 (mC .none))
    r1__law_outcome)
def fn__law_outcome : List D → FR := runF 5 m__law_outcome
theorem S__law_outcome : FnScope ["way", "arguments", "caught", "result", "error"] ["way", "arguments"] (defScope (top 146)) := ⟨rfl, rfl, rfl, by decide +kernel, rfl, by decide +kernel, by decide +kernel⟩
theorem d__law_outcome {g : GC} {W : WX} {X : Cx} (bf : BF g) (F__law_call : FD g "_law_call" 7 ["way", "arguments"] fn__law_call) (F__law_name : FD g "_law_name" 1 ["caught"] fn__law_name) (ef : EF g) (ve : g.mg "ValueError" = none) (ok : Ok g s__law_outcome 7 W X) (hs : X.stack = X.env :: X.outer) (hf : X.env.frame = some X.env.locals) : DSs g W [] X (defBody (top 146)) m__law_outcome :=
  (dss_cons (ds_set ok 2 dm_none)
    (dss_cons (ds_set ok 3 dm_none)
    (dss_cons (ds_try ok hs hf ef 4 2 (fun W X ok => (dss_one (ds_set ok 3 (dm_call ok F__law_call (da_cons (dm_var ok 0) (da_cons (dm_var ok 1) da_nil)))))))
    (dss_cons (ds_if (dt_cmp cr_is (dm_var ok 2) dm_none) (dss_one (ds_ret (dm_tup (da_cons dm_str (da_cons (dm_var ok 3) da_nil))))) dss_nil)
    (dss_one (ds_ret (dm_tup (da_cons dm_str (da_cons (dm_call ok F__law_name (da_cons (dm_var ok 2) da_nil)) da_nil)))))))))

abbrev s__law_raises : SS := ⟨["name", "names"], defScope (top 148), none⟩
def m__law_raises : MS := (sSeq (sSet 1 (mLd (mLst (mCons (mC (.str (PySem.Str.ofString "order"))) (mCons (mC (.str (PySem.Str.ofString "element"))) (mCons (mC (.str (PySem.Str.ofString "pairs"))) (mCons (mC (.str (PySem.Str.ofString "extension"))) (mCons (mC (.str (PySem.Str.ofString "index"))) (mCons (mC (.str (PySem.Str.ofString "number"))) mNil)))))))))
    (sSeq (sSet 1 (mLd (mBinL fCat (mVar 1) (mLd (mLst (mCons (mC (.str (PySem.Str.ofString "points"))) (mCons (mC (.str (PySem.Str.ofString "names"))) (mCons (mC (.str (PySem.Str.ofString "text"))) (mCons (mC (.str (PySem.Str.ofString "large"))) (mCons (mC (.str (PySem.Str.ofString "comparable"))) (mCons (mC (.str (PySem.Str.ofString "undo"))) mNil)))))))))))
    (sRet (mTup (mCons (mC (.str (PySem.Str.ofString "raised"))) (mCons (mIdx (mVar 1) (mVar 0)) mNil))))))
def fn__law_raises : List D → FR := runF 2 m__law_raises
theorem S__law_raises : FnScope ["name", "names"] ["name"] (defScope (top 148)) := ⟨rfl, rfl, rfl, by decide +kernel, rfl, by decide +kernel, by decide +kernel⟩
theorem d__law_raises {g : GC} {W : WX} {X : Cx} (bf : BF g)  (ok : Ok g s__law_raises 0 W X) : DSs g W [] X (defBody (top 148)) m__law_raises :=
  (dss_cons (ds_set ok 1 ((dl_lst (da_cons dm_str (da_cons dm_str (da_cons dm_str (da_cons dm_str (da_cons dm_str (da_cons dm_str da_nil)))))))).dm)
    (dss_cons (ds_set ok 1 ((dl_cat ok (dm_var ok 1) ((dl_lst (da_cons dm_str (da_cons dm_str (da_cons dm_str (da_cons dm_str (da_cons dm_str (da_cons dm_str da_nil)))))))).dm)).dm)
    (dss_one (ds_ret (dm_tup (da_cons dm_str (da_cons (dm_index ok (dm_var ok 1) (dm_var ok 0)) da_nil)))))))

abbrev s__law_town : SS := ⟨["script"], defScope (top 143), none⟩
theorem S__law_town : FnScope ["script"] ["script"] (defScope (top 143)) := ⟨rfl, rfl, rfl, by decide +kernel, rfl, by decide +kernel, by decide +kernel⟩
theorem d__law_town {g : GC} {W : WX} {X : Cx} (bf : BF g)  (ok : Ok g s__law_town 0 W X) : DL g W X (retE (top 143)) m__law_town :=
  (dl_cat ok ((dl_lst (da_cons dm_int da_nil))).dm ((dl_list ok bf (da_cons (dm_var ok 0) da_nil))).dm)

abbrev s__law_wrongs : SS := ⟨["rows", "bad", "bads"], defScope (top 154), none⟩
def c1__law_wrongs : M Ob := mComp 3 (iSeq (mTup (mCons (mC .none) (mCons (mTup mNil) (mCons (mTup (mCons (mC (.int 0)) (mCons (mC (.int 0)) mNil))) (mCons (mTup (mCons (mC (.int 1)) (mCons (mC (.int 0)) mNil))) (mCons (mTup (mCons (mC (.int 3)) mNil)) (mCons (mLd (mLst (mCons (mC (.int 0)) mNil))) (mCons (mTup (mCons (mC (.bool true)) mNil)) (mCons (mTup (mCons (mUn fNeg (mC (.int 1))) mNil)) (mCons (mC (.str (PySem.Str.ofString "0"))) mNil))))))))))) (gSet 1) tYesM (mTup (mCons (mC (.int 27)) (mCons (mVar 1) (mCons (mC (.int 0)) (mCons (mC (.str (PySem.Str.ofString "element"))) mNil))))) [1]
def c2__law_wrongs : M Ob := mComp 3 (iSeq (mTup (mCons (mUn fNeg (mC (.int 1))) (mCons (mC (.int 2)) (mCons (mC (.bool true)) (mCons (mC .none) (mCons (mC (.str (PySem.Str.ofString "0"))) mNil))))))) (gSet 1) tYesM (mTup (mCons (mC (.int 28)) (mCons (mVar 1) (mCons (mC (.int 0)) (mCons (mC (.str (PySem.Str.ofString "index"))) mNil))))) [1]
def c3__law_wrongs : M Ob := mComp 3 (iSeq (mVar 2)) (gSet 1) tYesM (mTup (mCons (mC (.int 29)) (mCons (mVar 1) (mCons (mC (.int 0)) (mCons (mC (.str (PySem.Str.ofString "extension"))) mNil))))) [1]
def b1__law_wrongs : MS := (sSet 0 (mLd (mBinL fCat (mVar 0) (mLd (mLst (mCons (mTup (mCons (mC (.int 30)) (mCons (mVar 1) (mCons (mC (.int 0)) (mCons (mC (.str (PySem.Str.ofString "pairs"))) mNil))))) (mCons (mTup (mCons (mC (.int 31)) (mCons (mVar 1) (mCons (mC (.int 0)) (mCons (mC (.str (PySem.Str.ofString "pairs"))) mNil))))) mNil)))))))
def l1__law_wrongs : MS := sFor (iSeq (mLd (mBinL fCat (mVar 2) (mLd (mLst (mCons (mTup (mCons (mTup (mCons (mC (.int 1)) (mCons (mC (.str (PySem.Str.ofString "2"))) mNil))) mNil)) mNil)))))) (gSet 1) b1__law_wrongs
def b2__law_wrongs : MS := (sSet 0 (mLd (mBinL fCat (mVar 0) (mLd (mLst (mCons (mTup (mCons (mC (.int 32)) (mCons (mVar 1) (mCons (mC (.int 0)) (mCons (mC (.str (PySem.Str.ofString "number"))) mNil))))) (mCons (mTup (mCons (mC (.int 33)) (mCons (mVar 1) (mCons (mC (.int 0)) (mCons (mC (.str (PySem.Str.ofString "number"))) mNil))))) (mCons (mTup (mCons (mC (.int 43)) (mCons (mVar 1) (mCons (mC .none) (mCons (mC (.str (PySem.Str.ofString "number"))) mNil))))) mNil))))))))
def l2__law_wrongs : MS := sFor (iSeq (mTup (mCons (mC (.int 0)) (mCons (mC (.int 5)) (mCons (mC (.bool true)) (mCons (mC .none) (mCons (mC (.str (PySem.Str.ofString "2"))) (mCons (mTup (mCons (mC (.int 1)) mNil)) mNil)))))))) (gSet 1) b2__law_wrongs
def c4__law_wrongs : M Ob := mComp 3 (iSeq (mVar 2)) (gSet 1) tYesM (mTup (mCons (mC (.int 34)) (mCons (mVar 1) (mCons (mC (.int 0)) (mCons (mC (.str (PySem.Str.ofString "names"))) mNil))))) [1]
def b3__law_wrongs : MS := (sSet 0 (mLd (mBinL fCat (mVar 0) (mLd (mLst (mCons (mTup (mCons (mC (.int 42)) (mCons (mVar 1) (mCons (mVar 1) (mCons (mC (.str (PySem.Str.ofString "element"))) mNil))))) (mCons (mTup (mCons (mC (.int 42)) (mCons (mC (.int 0)) (mCons (mVar 1) (mCons (mC (.str (PySem.Str.ofString "element"))) mNil))))) mNil)))))))
def l3__law_wrongs : MS := sFor (iSeq (mTup (mCons (mUn fNeg (mC (.int 1))) (mCons (mC (.int 3)) (mCons (mC (.bool true)) (mCons (mC .none) (mCons (mC (.str (PySem.Str.ofString "0"))) mNil))))))) (gSet 1) b3__law_wrongs
def r10__law_wrongs : MS := (sRet (mLd (mBinL fCat (mVar 0) (mLd (mLst (mCons (mTup (mCons (mC (.int 42)) (mCons (mC (.int 1)) (mCons (mC (.int 1)) (mCons (mC (.str (PySem.Str.ofString "element"))) mNil))))) mNil))))))
def r9__law_wrongs : MS := (sSeq l3__law_wrongs
    r10__law_wrongs)
def r8__law_wrongs : MS := (sSeq (sSet 0 (mLd (mBinL fCat (mVar 0) (mLd c4__law_wrongs))))
    r9__law_wrongs)
def r7__law_wrongs : MS := (sSeq (sSet 2 (mLd (mLst (mCons (mC .none) (mCons (mTup (mCons (mC (.int 0)) (mCons (mC (.int 1)) mNil))) (mCons (mTup (mCons (mC (.int 0)) (mCons (mC (.int 1)) (mCons (mC (.int 1)) mNil)))) (mCons (mLd (mLst (mCons (mC (.int 0)) (mCons (mC (.int 1)) (mCons (mC (.int 2)) mNil))))) (mCons (mTup (mCons (mC (.int 0)) (mCons (mC (.int 1)) (mCons (mC (.int 3)) mNil)))) (mCons (mTup (mCons (mC (.int 0)) (mCons (mC (.int 1)) (mCons (mC (.bool true)) mNil)))) (mCons (mC (.str (PySem.Str.ofString "012"))) mNil))))))))))
    r8__law_wrongs)
def r6__law_wrongs : MS := (sSeq l2__law_wrongs
    r7__law_wrongs)
def r5__law_wrongs : MS := (sSeq l1__law_wrongs
    r6__law_wrongs)
def r4__law_wrongs : MS := (sSeq (sSet 2 (mLd (mLst (mCons (mC .none) (mCons (mLd (mLst (mCons (mTup (mCons (mC (.int 1)) (mCons (mC (.int 2)) mNil))) mNil))) (mCons (mTup (mCons (mTup (mCons (mC (.int 2)) (mCons (mC (.int 1)) mNil))) (mCons (mTup (mCons (mC (.int 1)) (mCons (mC (.int 2)) mNil))) mNil))) (mCons (mTup (mCons (mTup (mCons (mC (.int 1)) (mCons (mC (.int 2)) mNil))) (mCons (mTup (mCons (mC (.int 1)) (mCons (mC (.int 2)) mNil))) mNil))) (mCons (mTup (mCons (mTup (mCons (mC (.int 0)) (mCons (mC (.int 1)) mNil))) mNil)) (mCons (mTup (mCons (mTup (mCons (mC (.int 1)) (mCons (mC (.int 1)) mNil))) mNil)) (mCons (mTup (mCons (mTup (mCons (mC (.int 1)) (mCons (mC (.int 2)) (mCons (mC (.int 2)) mNil)))) mNil)) (mCons (mC (.int 5)) mNil)))))))))))
    r5__law_wrongs)
def r3__law_wrongs : MS := (sSeq (sSet 0 (mLd (mBinL fCat (mVar 0) (mLd c3__law_wrongs))))
    r4__law_wrongs)
def r2__law_wrongs : MS := (sSeq (sSet 2 (mLd (mLst (mCons (mC .none) (mCons (mTup (mCons (mC (.int 0)) (mCons (mC (.int 1)) mNil))) (mCons (mTup (mCons (mC (.int 1)) (mCons (mC (.int 0)) (mCons (mC (.int 2)) mNil)))) (mCons (mLd (mLst (mCons (mC (.int 0)) (mCons (mC (.int 1)) (mCons (mC (.int 2)) mNil))))) (mCons (mTup (mCons (mC (.int 0)) (mCons (mC (.int 1)) (mCons (mC (.bool true)) mNil)))) (mCons (mTup (mCons (mC (.int 0)) (mCons (mC (.int 1)) (mCons (mC (.int 1)) mNil)))) (mCons (mC (.int 5)) mNil))))))))))
    r3__law_wrongs)
def r1__law_wrongs : MS := (sSeq (sSet 0 (mLd (mBinL fCat (mVar 0) (mLd c2__law_wrongs))))
    r2__law_wrongs)
def m__law_wrongs : MS := (sSeq (sSet 0 (mLd c1__law_wrongs))
    r1__law_wrongs)
def fn__law_wrongs : List D → FR := runF 3 m__law_wrongs
theorem S__law_wrongs : FnScope ["rows", "bad", "bads"] [] (defScope (top 154)) := ⟨rfl, rfl, rfl, by decide +kernel, rfl, by decide +kernel, by decide +kernel⟩
theorem d__law_wrongs {g : GC} {W : WX} {X : Cx} (bf : BF g)  (ok : Ok g s__law_wrongs 0 W X) : DSs g W [] X (defBody (top 154)) m__law_wrongs :=
  (dss_cons (ds_setCF ok 0 (lo := false) (own := [("bad", 1)]) { hi := (di_seq ok (dm_tup (da_cons dm_none (da_cons (dm_tup da_nil) (da_cons (dm_tup (da_cons dm_int (da_cons dm_int da_nil))) (da_cons (dm_tup (da_cons dm_int (da_cons dm_int da_nil))) (da_cons (dm_tup (da_cons dm_int da_nil)) (da_cons ((dl_lst (da_cons dm_int da_nil))).dm (da_cons (dm_tup (da_cons dm_bool da_nil)) (da_cons (dm_tup (da_cons (dm_neg dm_int) da_nil)) (da_cons dm_str da_nil))))))))))), hg := fun _ ok1 => (dg_name ok1 1), ht := fun _ ok1 => dts_nil, he := fun _ ok1 => (dm_tup (da_cons dm_int (da_cons (dm_var ok1 1) (da_cons dm_int (da_cons dm_str da_nil))))) })
    (dss_cons (ds_set ok 0 ((dl_cat ok (dm_var ok 0) ((dl_comp ok (lo := false) (own := [("bad", 1)]) { hi := (di_seq ok (dm_tup (da_cons (dm_neg dm_int) (da_cons dm_int (da_cons dm_bool (da_cons dm_none (da_cons dm_str da_nil))))))), hg := fun _ ok1 => (dg_name ok1 1), ht := fun _ ok1 => dts_nil, he := fun _ ok1 => (dm_tup (da_cons dm_int (da_cons (dm_var ok1 1) (da_cons dm_int (da_cons dm_str da_nil))))) })).dm)).dm)
    (dss_cons (ds_set ok 2 ((dl_lst (da_cons dm_none (da_cons (dm_tup (da_cons dm_int (da_cons dm_int da_nil))) (da_cons (dm_tup (da_cons dm_int (da_cons dm_int (da_cons dm_int da_nil)))) (da_cons ((dl_lst (da_cons dm_int (da_cons dm_int (da_cons dm_int da_nil))))).dm (da_cons (dm_tup (da_cons dm_int (da_cons dm_int (da_cons dm_bool da_nil)))) (da_cons (dm_tup (da_cons dm_int (da_cons dm_int (da_cons dm_int da_nil)))) (da_cons dm_int da_nil))))))))).dm)
    (dss_cons (ds_set ok 0 ((dl_cat ok (dm_var ok 0) ((dl_comp ok (lo := false) (own := [("bad", 1)]) { hi := (di_seq ok (dm_var ok 2)), hg := fun _ ok1 => (dg_name ok1 1), ht := fun _ ok1 => dts_nil, he := fun _ ok1 => (dm_tup (da_cons dm_int (da_cons (dm_var ok1 1) (da_cons dm_int (da_cons dm_str da_nil))))) })).dm)).dm)
    (dss_cons (ds_set ok 2 ((dl_lst (da_cons dm_none (da_cons ((dl_lst (da_cons (dm_tup (da_cons dm_int (da_cons dm_int da_nil))) da_nil))).dm (da_cons (dm_tup (da_cons (dm_tup (da_cons dm_int (da_cons dm_int da_nil))) (da_cons (dm_tup (da_cons dm_int (da_cons dm_int da_nil))) da_nil))) (da_cons (dm_tup (da_cons (dm_tup (da_cons dm_int (da_cons dm_int da_nil))) (da_cons (dm_tup (da_cons dm_int (da_cons dm_int da_nil))) da_nil))) (da_cons (dm_tup (da_cons (dm_tup (da_cons dm_int (da_cons dm_int da_nil))) da_nil)) (da_cons (dm_tup (da_cons (dm_tup (da_cons dm_int (da_cons dm_int da_nil))) da_nil)) (da_cons (dm_tup (da_cons (dm_tup (da_cons dm_int (da_cons dm_int (da_cons dm_int da_nil)))) da_nil)) (da_cons dm_int da_nil)))))))))).dm)
    (dss_cons (ds_for (lo := false) ok (di_seq ok ((dl_cat ok (dm_var ok 2) ((dl_lst (da_cons (dm_tup (da_cons (dm_tup (da_cons dm_int (da_cons dm_str da_nil))) da_nil)) da_nil))).dm)).dm) (dg_name ok 1) (dss_one (ds_set ok 0 ((dl_cat ok (dm_var ok 0) ((dl_lst (da_cons (dm_tup (da_cons dm_int (da_cons (dm_var ok 1) (da_cons dm_int (da_cons dm_str da_nil))))) (da_cons (dm_tup (da_cons dm_int (da_cons (dm_var ok 1) (da_cons dm_int (da_cons dm_str da_nil))))) da_nil)))).dm)).dm)))
    (dss_cons (ds_for (lo := false) ok (di_seq ok (dm_tup (da_cons dm_int (da_cons dm_int (da_cons dm_bool (da_cons dm_none (da_cons dm_str (da_cons (dm_tup (da_cons dm_int da_nil)) da_nil)))))))) (dg_name ok 1) (dss_one (ds_set ok 0 ((dl_cat ok (dm_var ok 0) ((dl_lst (da_cons (dm_tup (da_cons dm_int (da_cons (dm_var ok 1) (da_cons dm_int (da_cons dm_str da_nil))))) (da_cons (dm_tup (da_cons dm_int (da_cons (dm_var ok 1) (da_cons dm_int (da_cons dm_str da_nil))))) (da_cons (dm_tup (da_cons dm_int (da_cons (dm_var ok 1) (da_cons dm_none (da_cons dm_str da_nil))))) da_nil))))).dm)).dm)))
    (dss_cons (ds_set ok 2 ((dl_lst (da_cons dm_none (da_cons (dm_tup (da_cons dm_int (da_cons dm_int da_nil))) (da_cons (dm_tup (da_cons dm_int (da_cons dm_int (da_cons dm_int da_nil)))) (da_cons ((dl_lst (da_cons dm_int (da_cons dm_int (da_cons dm_int da_nil))))).dm (da_cons (dm_tup (da_cons dm_int (da_cons dm_int (da_cons dm_int da_nil)))) (da_cons (dm_tup (da_cons dm_int (da_cons dm_int (da_cons dm_bool da_nil)))) (da_cons dm_str da_nil))))))))).dm)
    (dss_cons (ds_set ok 0 ((dl_cat ok (dm_var ok 0) ((dl_comp ok (lo := false) (own := [("bad", 1)]) { hi := (di_seq ok (dm_var ok 2)), hg := fun _ ok1 => (dg_name ok1 1), ht := fun _ ok1 => dts_nil, he := fun _ ok1 => (dm_tup (da_cons dm_int (da_cons (dm_var ok1 1) (da_cons dm_int (da_cons dm_str da_nil))))) })).dm)).dm)
    (dss_cons (ds_for (lo := false) ok (di_seq ok (dm_tup (da_cons (dm_neg dm_int) (da_cons dm_int (da_cons dm_bool (da_cons dm_none (da_cons dm_str da_nil))))))) (dg_name ok 1) (dss_one (ds_set ok 0 ((dl_cat ok (dm_var ok 0) ((dl_lst (da_cons (dm_tup (da_cons dm_int (da_cons (dm_var ok 1) (da_cons (dm_var ok 1) (da_cons dm_str da_nil))))) (da_cons (dm_tup (da_cons dm_int (da_cons dm_int (da_cons (dm_var ok 1) (da_cons dm_str da_nil))))) da_nil)))).dm)).dm)))
    (dss_one (ds_ret ((dl_cat ok (dm_var ok 0) ((dl_lst (da_cons (dm_tup (da_cons dm_int (da_cons dm_int (da_cons dm_int (da_cons dm_str da_nil))))) da_nil))).dm)).dm))))))))))))

abbrev s_law : SS := ⟨["script", "town", "order", "goods", "k", "good", "bads", "bad", "way", "one", "other", "name", "rows", "size", "some"], defScope (top 155), none⟩
def c1_law : M Ob := mComp 15 (iRange2 (mCons (mC (.int 1)) (mCons (mC (.int 8)) mNil))) (gSet 4) tYesM (mTup (mCons (mC (.int 0)) (mCons (mVar 4) mNil))) [4]
def c2_law : M Ob := mComp 15 (iSeq (mVar 3)) (gSet 5) (asB (mBin fIsNot (mCall 1 fn_is_order (mCons (mVar 5) mNil)) (mC (.bool true)))) (mVar 5) [5]
def c3_law : M Ob := mComp 15 (iSeq (mVar 6)) (gSet 7) (asB (mBin fIsNot (mCall 1 fn_is_order (mCons (mVar 7) mNil)) (mC (.bool false)))) (mVar 7) [7]
def b1_law : MS := (sIf (asB (mBin fNe (mCall 2 fn__law_outcome (mCons (mVar 8) (mCons (mTup (mCons (mVar 7) (mCons (mC .none) (mCons (mC .none) mNil)))) mNil))) (mCall 1 fn__law_raises (mCons (mC (.str (PySem.Str.ofString "order"))) mNil)))) (sRet (mC (.bool false))) sNext)
def l1_law : MS := sFor (iSeq (mLd (mBinL fCat (mLd (mUnL fRgL (mC (.int 44)))) (mLd (mLst (mCons (mC (.int 46)) (mCons (mC (.int 47)) (mCons (mC (.int 48)) mNil)))))))) (gSet 8) b1_law
def c4_law : M Ob := mComp 15 (iSeq (mTup (mCons (mC (.int 46)) (mCons (mC (.int 47)) (mCons (mC (.int 48)) mNil))))) (gSet 8) tYesM (mCall 2 fn__law_outcome (mCons (mVar 8) (mCons (mTup (mCons (mVar 2) (mCons (mVar 7) (mCons (mC (.int 0)) mNil)))) mNil))) [8]
def b2_law : MS := (sIf (asB (mBin fNe (mCall 2 fn__law_outcome (mCons (mVar 8) (mCons (mTup (mCons (mTup (mCons (mC (.int 3)) (mCons (mTup (mCons (mTup (mCons (mC (.int 0)) (mCons (mC (.int 1)) mNil))) (mCons (mTup (mCons (mC (.int 0)) (mCons (mC (.int 2)) mNil))) mNil))) mNil))) (mCons (mVar 9) (mCons (mVar 10) mNil)))) mNil))) (mCall 1 fn__law_raises (mCons (mVar 11) mNil)))) (sRet (mC (.bool false))) sNext)
def l2_law : MS := sFor (iSeq (mCall 0 fn__law_wrongs mNil)) (gTupD (gsCons (gSet 8) (gsCons (gSet 9) (gsCons (gSet 10) (gsCons (gSet 11) gsNil))))) b2_law
def b3_law : MS := (sIf (asB (mBin fNe (mCall 2 fn__law_outcome (mCons (mC (.int 44)) (mCons (mTup (mCons (mVar 13) (mCons (mVar 14) (mCons (mC (.int 0)) mNil)))) mNil))) (mCall 1 fn__law_raises (mCons (mC (.str (PySem.Str.ofString "order"))) mNil)))) (sRet (mC (.bool false))) sNext)
def l3_law : MS := sFor (iSeq (mVar 12)) (gTupD (gsCons (gSet 13) (gsCons (gSet 14) gsNil))) b3_law
def r12_law : MS := (sRet (mBin fEq (mCall 2 fn__law_outcome (mCons (mC (.int 44)) (mCons (mTup (mCons (mC (.int 3)) (mCons (mTup (mCons (mTup (mCons (mC (.int 0)) (mCons (mC (.int 1)) mNil))) (mCons (mTup (mCons (mC (.int 1)) (mCons (mC (.int 2)) mNil))) (mCons (mTup (mCons (mC (.int 2)) (mCons (mC (.int 0)) mNil))) mNil)))) (mCons (mC (.int 0)) mNil)))) mNil))) (mCall 1 fn__law_raises (mCons (mC (.str (PySem.Str.ofString "order"))) mNil))))
def r11_law : MS := (sSeq l3_law
    r12_law)
def r10_law : MS := (sSeq (sSet 12 (mLd (mLst (mCons (mTup (mCons (mC (.int 0)) (mCons (mTup mNil) mNil))) (mCons (mTup (mCons (mC (.int 9)) (mCons (mTup mNil) mNil))) (mCons (mTup (mCons (mC (.bool true)) (mCons (mTup mNil) mNil))) (mCons (mTup (mCons (mC (.int 2)) (mCons (mC .none) mNil))) (mCons (mTup (mCons (mC (.int 2)) (mCons (mLd (mLst (mCons (mTup (mCons (mC (.int 0)) (mCons (mC (.int 1)) mNil))) mNil))) mNil))) (mCons (mTup (mCons (mC (.int 2)) (mCons (mTup (mCons (mTup (mCons (mC (.int 0)) (mCons (mC (.int 2)) mNil))) mNil)) mNil))) (mCons (mTup (mCons (mC (.int 2)) (mCons (mTup (mCons (mTup (mCons (mC (.int 0)) (mCons (mC (.int 0)) mNil))) mNil)) mNil))) (mCons (mTup (mCons (mC (.int 2)) (mCons (mTup (mCons (mC (.int 0)) (mCons (mC (.int 1)) mNil))) mNil))) mNil)))))))))))
    r11_law)
def r9_law : MS := (sSeq l2_law
    r10_law)
def r8_law : MS := (sSeq (sIf (asB (mBin fNe (mLd c4_law) (mLd (mRep (mLst (mCons (mCall 1 fn__law_raises (mCons (mC (.str (PySem.Str.ofString "order"))) mNil)) mNil)) (mC (.int 3)))))) (sRet (mC (.bool false))) sNext)
    r9_law)
def r7_law : MS := (sSeq l1_law
    r8_law)
def r6_law : MS := (sSeq (sSet 7 (mCallT 3 fn__law_pick (mVar 0) 1 (mCons (mVar 6) mNil)))
    r7_law)
def r5_law : MS := (sSeq (sIf (asB (mBin fNe (mLd c3_law) (mLd (mLst mNil)))) (sRet (mC (.bool false))) sNext)
    r6_law)
def r4_law : MS := (sSeq (sSet 6 (mCall 0 fn__law_bad_orders mNil))
    r5_law)
def r3_law : MS := (sSeq (sIf (asB (mBin fNe (mLd c2_law) (mLd (mLst mNil)))) (sRet (mC (.bool false))) sNext)
    r4_law)
def r2_law : MS := (sSeq (sSet 3 (mLd (mLst (mCons (mVar 2) (mCons (mTup (mCons (mC (.int 1)) (mCons (mTup mNil) mNil))) (mCons (mTup (mCons (mC (.int 8)) (mCons (mTup mNil) mNil))) (mCons (mTup (mCons (mC (.int 2)) (mCons (mTup (mCons (mTup (mCons (mC (.int 1)) (mCons (mC (.int 0)) mNil))) mNil)) mNil))) (mCons (mTup (mCons (mC (.int 8)) (mCons (mApp fTuple (mCons (mLd c1_law) mNil)) mNil))) mNil))))))))
    r3_law)
def r1_law : MS := (sSeq (sSet 2 (mCallT 3 fn__law_order (mVar 0) 1 (mCons (mC (.int 8)) mNil)))
    r2_law)
def m_law : MS := (sSeq (sSetL 1 (mCallL 1 fn__law_town (mCons (mVar 0) mNil)))
    r1_law)
def fn_law : List D → FR := runF 15 m_law
theorem S_law : FnScope ["script", "town", "order", "goods", "k", "good", "bads", "bad", "way", "one", "other", "name", "rows", "size", "some"] ["script"] (defScope (top 155)) := ⟨rfl, rfl, rfl, by decide +kernel, rfl, by decide +kernel, by decide +kernel⟩
theorem d_law {g : GC} {W : WX} {X : Cx} (bf : BF g) (F__law_bad_orders : FD g "_law_bad_orders" 1 [] fn__law_bad_orders) (F__law_order : FT g "_law_order" 4 ["script", "town", "most"] fn__law_order) (F__law_outcome : FD g "_law_outcome" 8 ["way", "arguments"] fn__law_outcome) (F__law_pick : FT g "_law_pick" 2 ["script", "town", "choices"] fn__law_pick) (F__law_raises : FD g "_law_raises" 1 ["name"] fn__law_raises) (F__law_town : FL g "_law_town" 1 ["script"] fn__law_town) (F__law_wrongs : FD g "_law_wrongs" 1 [] fn__law_wrongs) (F_is_order : FD g "is_order" 3 ["value"] fn_is_order) (ok : Ok g s_law 8 W X) : DSs g W [] X (defBody (top 155)) m_law :=
  (dss_cons (ds_setL ok 1 (dl_call ok F__law_town (da_cons (dm_var ok 0) da_nil)))
    (dss_cons (ds_set ok 2 (dm_callTown ok F__law_order (dm_var ok 0) 1 (da_cons dm_int da_nil)))
    (dss_cons (ds_set ok 3 ((dl_lst (da_cons (dm_var ok 2) (da_cons (dm_tup (da_cons dm_int (da_cons (dm_tup da_nil) da_nil))) (da_cons (dm_tup (da_cons dm_int (da_cons (dm_tup da_nil) da_nil))) (da_cons (dm_tup (da_cons dm_int (da_cons (dm_tup (da_cons (dm_tup (da_cons dm_int (da_cons dm_int da_nil))) da_nil)) da_nil))) (da_cons (dm_tup (da_cons dm_int (da_cons (dm_tuple ok bf (da_cons ((dl_comp ok (lo := false) (own := [("k", 4)]) { hi := (di_range2 ok bf (da_cons dm_int (da_cons dm_int da_nil))), hg := fun _ ok1 => (dg_name ok1 4), ht := fun _ ok1 => dts_nil, he := fun _ ok1 => (dm_tup (da_cons dm_int (da_cons (dm_var ok1 4) da_nil))) })).dm da_nil)) da_nil))) da_nil))))))).dm)
    (dss_cons (ds_if (dt_cmp (cr_ne ok) ((dl_comp ok (lo := false) (own := [("good", 5)]) { hi := (di_seq ok (dm_var ok 3)), hg := fun _ ok1 => (dg_name ok1 5), ht := fun _ ok1 => (dts_one (dt_cmp cr_isnot (dm_call ok1 F_is_order (da_cons (dm_var ok1 5) da_nil)) dm_bool)), he := fun _ ok1 => (dm_var ok1 5) })).dm ((dl_lst da_nil)).dm) (dss_one (ds_ret dm_bool)) dss_nil)
    (dss_cons (ds_set ok 6 (dm_call0 ok F__law_bad_orders))
    (dss_cons (ds_if (dt_cmp (cr_ne ok) ((dl_comp ok (lo := false) (own := [("bad", 7)]) { hi := (di_seq ok (dm_var ok 6)), hg := fun _ ok1 => (dg_name ok1 7), ht := fun _ ok1 => (dts_one (dt_cmp cr_isnot (dm_call ok1 F_is_order (da_cons (dm_var ok1 7) da_nil)) dm_bool)), he := fun _ ok1 => (dm_var ok1 7) })).dm ((dl_lst da_nil)).dm) (dss_one (ds_ret dm_bool)) dss_nil)
    (dss_cons (ds_set ok 7 (dm_callTown ok F__law_pick (dm_var ok 0) 1 (da_cons (dm_var ok 6) da_nil)))
    (dss_cons (ds_for (lo := false) ok (di_seq ok ((dl_cat ok ((dl_listRg ok bf dm_int ok.calm)).dm ((dl_lst (da_cons dm_int (da_cons dm_int (da_cons dm_int da_nil))))).dm)).dm) (dg_name ok 8) (dss_one (ds_if (dt_cmp (cr_ne ok) (dm_call ok F__law_outcome (da_cons (dm_var ok 8) (da_cons (dm_tup (da_cons (dm_var ok 7) (da_cons dm_none (da_cons dm_none da_nil)))) da_nil))) (dm_call ok F__law_raises (da_cons dm_str da_nil))) (dss_one (ds_ret dm_bool)) dss_nil)))
    (dss_cons (ds_if (dt_cmp (cr_ne ok) ((dl_comp ok (lo := false) (own := [("way", 8)]) { hi := (di_seq ok (dm_tup (da_cons dm_int (da_cons dm_int (da_cons dm_int da_nil))))), hg := fun _ ok1 => (dg_name ok1 8), ht := fun _ ok1 => dts_nil, he := fun _ ok1 => (dm_call ok1 F__law_outcome (da_cons (dm_var ok1 8) (da_cons (dm_tup (da_cons (dm_var ok1 2) (da_cons (dm_var ok1 7) (da_cons dm_int da_nil)))) da_nil))) })).dm ((dl_rep (dl_lst (da_cons (dm_call ok F__law_raises (da_cons dm_str da_nil)) da_nil)) dm_int)).dm) (dss_one (ds_ret dm_bool)) dss_nil)
    (dss_cons (ds_for (lo := false) ok (di_seq ok (dm_call0 ok F__law_wrongs)) (dg_tup ok (dgs_cons (dg_name ok 8) (dgs_cons (dg_name ok 9) (dgs_cons (dg_name ok 10) (dgs_cons (dg_name ok 11) dgs_nil)))) (gsCons_len (gsCons_len (gsCons_len (gsCons_len (fun _ _ _ h => gsNil_len h)))))) (dss_one (ds_if (dt_cmp (cr_ne ok) (dm_call ok F__law_outcome (da_cons (dm_var ok 8) (da_cons (dm_tup (da_cons (dm_tup (da_cons dm_int (da_cons (dm_tup (da_cons (dm_tup (da_cons dm_int (da_cons dm_int da_nil))) (da_cons (dm_tup (da_cons dm_int (da_cons dm_int da_nil))) da_nil))) da_nil))) (da_cons (dm_var ok 9) (da_cons (dm_var ok 10) da_nil)))) da_nil))) (dm_call ok F__law_raises (da_cons (dm_var ok 11) da_nil))) (dss_one (ds_ret dm_bool)) dss_nil)))
    (dss_cons (ds_set ok 12 ((dl_lst (da_cons (dm_tup (da_cons dm_int (da_cons (dm_tup da_nil) da_nil))) (da_cons (dm_tup (da_cons dm_int (da_cons (dm_tup da_nil) da_nil))) (da_cons (dm_tup (da_cons dm_bool (da_cons (dm_tup da_nil) da_nil))) (da_cons (dm_tup (da_cons dm_int (da_cons dm_none da_nil))) (da_cons (dm_tup (da_cons dm_int (da_cons ((dl_lst (da_cons (dm_tup (da_cons dm_int (da_cons dm_int da_nil))) da_nil))).dm da_nil))) (da_cons (dm_tup (da_cons dm_int (da_cons (dm_tup (da_cons (dm_tup (da_cons dm_int (da_cons dm_int da_nil))) da_nil)) da_nil))) (da_cons (dm_tup (da_cons dm_int (da_cons (dm_tup (da_cons (dm_tup (da_cons dm_int (da_cons dm_int da_nil))) da_nil)) da_nil))) (da_cons (dm_tup (da_cons dm_int (da_cons (dm_tup (da_cons dm_int (da_cons dm_int da_nil))) da_nil))) da_nil)))))))))).dm)
    (dss_cons (ds_for (lo := false) ok (di_seq ok (dm_var ok 12)) (dg_tup ok (dgs_cons (dg_name ok 13) (dgs_cons (dg_name ok 14) dgs_nil)) (gsCons_len (gsCons_len (fun _ _ _ h => gsNil_len h)))) (dss_one (ds_if (dt_cmp (cr_ne ok) (dm_call ok F__law_outcome (da_cons dm_int (da_cons (dm_tup (da_cons (dm_var ok 13) (da_cons (dm_var ok 14) (da_cons dm_int da_nil)))) da_nil))) (dm_call ok F__law_raises (da_cons dm_str da_nil))) (dss_one (ds_ret dm_bool)) dss_nil)))
    (dss_one (ds_ret (dm_cmp (cr_eq ok) (dm_call ok F__law_outcome (da_cons dm_int (da_cons (dm_tup (da_cons dm_int (da_cons (dm_tup (da_cons (dm_tup (da_cons dm_int (da_cons dm_int da_nil))) (da_cons (dm_tup (da_cons dm_int (da_cons dm_int da_nil))) (da_cons (dm_tup (da_cons dm_int (da_cons dm_int da_nil))) da_nil)))) (da_cons dm_int da_nil)))) da_nil))) (dm_call ok F__law_raises (da_cons dm_str da_nil)))))))))))))))))
def B1_law (bad_8 : D) : (D) → (Unit) → T (List D) (SN (Unit) (Unit)) :=
  fun (way_10 : D) (s_9 : Unit) =>
  (bT (nB (nBin fNe (nCall (gq 2 fn__law_outcome) (nCons (nC way_10) (nCons (nTup (nCons (nC bad_8) (nCons (nC .none) (nCons (nC .none) nNil)))) nNil))) (nCall (gq 1 fn__law_raises) (nCons (nC (.str (PySem.Str.ofString "order"))) nNil)))) fun b => iT b
  (nRet (nC (.bool false)))
  (nNext ()))
def B2_law  : (D × D × D × D) → (Unit) → T (List D) (SN (Unit) (Unit)) :=
  fun (p_14 : D × D × D × D) (s_13 : Unit) =>
  (bT (nB (nBin fNe (nCall (gq 2 fn__law_outcome) (nCons (nC p_14.1) (nCons (nTup (nCons (nTup (nCons (nC (.int 3)) (nCons (nTup (nCons (nTup (nCons (nC (.int 0)) (nCons (nC (.int 1)) nNil))) (nCons (nTup (nCons (nC (.int 0)) (nCons (nC (.int 2)) nNil))) nNil))) nNil))) (nCons (nC p_14.2.1) (nCons (nC p_14.2.2.1) nNil)))) nNil))) (nCall (gq 1 fn__law_raises) (nCons (nC p_14.2.2.2) nNil)))) fun b => iT b
  (nRet (nC (.bool false)))
  (nNext ()))
def B3_law  : (D × D) → (Unit) → T (List D) (SN (Unit) (Unit)) :=
  fun (p_18 : D × D) (s_17 : Unit) =>
  (bT (nB (nBin fNe (nCall (gq 2 fn__law_outcome) (nCons (nC (.int 44)) (nCons (nTup (nCons (nC p_18.1) (nCons (nC p_18.2) (nCons (nC (.int 0)) nNil)))) nNil))) (nCall (gq 1 fn__law_raises) (nCons (nC (.str (PySem.Str.ofString "order"))) nNil)))) fun b => iT b
  (nRet (nC (.bool false)))
  (nNext ()))
def R1_law  : T (List D) (SN Unit Unit) :=
  (nRet (nBin fEq (nCall (gq 2 fn__law_outcome) (nCons (nC (.int 44)) (nCons (nTup (nCons (nC (.int 3)) (nCons (nTup (nCons (nTup (nCons (nC (.int 0)) (nCons (nC (.int 1)) nNil))) (nCons (nTup (nCons (nC (.int 1)) (nCons (nC (.int 2)) nNil))) (nCons (nTup (nCons (nC (.int 2)) (nCons (nC (.int 0)) nNil))) nNil)))) (nCons (nC (.int 0)) nNil)))) nNil))) (nCall (gq 1 fn__law_raises) (nCons (nC (.str (PySem.Str.ofString "order"))) nNil))))
def R2_law  : T (List D) (SN Unit Unit) :=
  (bT (nLd (nLst (nCons (nTup (nCons (nC (.int 0)) (nCons (nTup nNil) nNil))) (nCons (nTup (nCons (nC (.int 9)) (nCons (nTup nNil) nNil))) (nCons (nTup (nCons (nC (.bool true)) (nCons (nTup nNil) nNil))) (nCons (nTup (nCons (nC (.int 2)) (nCons (nC .none) nNil))) (nCons (nTup (nCons (nC (.int 2)) (nCons (nLd (nLst (nCons (nTup (nCons (nC (.int 0)) (nCons (nC (.int 1)) nNil))) nNil))) nNil))) (nCons (nTup (nCons (nC (.int 2)) (nCons (nTup (nCons (nTup (nCons (nC (.int 0)) (nCons (nC (.int 2)) nNil))) nNil)) nNil))) (nCons (nTup (nCons (nC (.int 2)) (nCons (nTup (nCons (nTup (nCons (nC (.int 0)) (nCons (nC (.int 0)) nNil))) nNil)) nNil))) (nCons (nTup (nCons (nC (.int 2)) (nCons (nTup (nCons (nC (.int 0)) (nCons (nC (.int 1)) nNil))) nNil))) nNil)))))))))) fun rows_16 =>
  (nThen (σ := Unit) (bT (nSeq (nC rows_16)) fun xs => forN g2 B3_law xs ()) fun s_19 =>
  (R1_law )))
def R3_law (order_2 : D) (bad_8 : D) : T (List D) (SN Unit Unit) :=
  (bT (nB (nBin fNe (nLd (nComp (nSeq (nTup (nCons (nC (.int 46)) (nCons (nC (.int 47)) (nCons (nC (.int 48)) nNil))))) g1 (fun way_12 => nYes) (fun way_12 => (nCall (gq 2 fn__law_outcome) (nCons (nC way_12) (nCons (nTup (nCons (nC order_2) (nCons (nC bad_8) (nCons (nC (.int 0)) nNil)))) nNil)))))) (nLd (nRep (nLst (nCons (nCall (gq 1 fn__law_raises) (nCons (nC (.str (PySem.Str.ofString "order"))) nNil)) nNil)) (nC (.int 3)))))) fun b => iT b
  (nRet (nC (.bool false)))
  (nThen (σ := Unit) (bT (nSeq (nCall (gq 0 fn__law_wrongs) nNil)) fun xs => forN g4 B2_law xs ()) fun s_15 =>
  (R2_law )))
def q_law (script_1 : D) : T (List D) (SN Unit Unit) :=
  (bT (nCallT q__law_order (nC script_1) (nCons (nC (.int 8)) nNil)) fun order_2 =>
  (bT (nLd (nLst (nCons (nC order_2) (nCons (nTup (nCons (nC (.int 1)) (nCons (nTup nNil) nNil))) (nCons (nTup (nCons (nC (.int 8)) (nCons (nTup nNil) nNil))) (nCons (nTup (nCons (nC (.int 2)) (nCons (nTup (nCons (nTup (nCons (nC (.int 1)) (nCons (nC (.int 0)) nNil))) nNil)) nNil))) (nCons (nTup (nCons (nC (.int 8)) (nCons (nApp fTuple (nCons (nLd (nComp (nRange2 (nCons (nC (.int 1)) (nCons (nC (.int 8)) nNil))) g1 (fun k_4 => nYes) (fun k_4 => (nTup (nCons (nC (.int 0)) (nCons (nC k_4) nNil)))))) nNil)) nNil))) nNil))))))) fun goods_3 =>
  (bT (nB (nBin fNe (nLd (nComp (nSeq (nC goods_3)) g1 (fun good_5 => (nB (nBin fIsNot (nCall (gq 1 fn_is_order) (nCons (nC good_5) nNil)) (nC (.bool true))))) (fun good_5 => (nC good_5)))) (nLd (nLst nNil)))) fun b => iT b
  (nRet (nC (.bool false)))
  (bT (nCall (gq 0 fn__law_bad_orders) nNil) fun bads_6 =>
  (bT (nB (nBin fNe (nLd (nComp (nSeq (nC bads_6)) g1 (fun bad_7 => (nB (nBin fIsNot (nCall (gq 1 fn_is_order) (nCons (nC bad_7) nNil)) (nC (.bool false))))) (fun bad_7 => (nC bad_7)))) (nLd (nLst nNil)))) fun b => iT b
  (nRet (nC (.bool false)))
  (bT (nCallT (gqT 3 fn__law_pick) (nC script_1) (nCons (nC bads_6) nNil)) fun bad_8 =>
  (nThen (σ := Unit) (bT (nSeq (nLd (nCat (nLd (nRgL (nC (.int 44)))) (nLd (nLst (nCons (nC (.int 46)) (nCons (nC (.int 47)) (nCons (nC (.int 48)) nNil)))))))) fun xs => forN g1 (B1_law bad_8) xs ()) fun s_11 =>
  (R3_law order_2 bad_8))))))))
theorem n_law (script_1 : D) : NS (cxT 15 [1]) [(0, .val script_1)] k0 k0 r1_law (q_law script_1) :=
  (ns_set (ne_callT n__law_order ne_var (ne_cons (ne_c _) ne_nil)) fun order_2 => (ns_set (ne_ld (nl_lst (ne_cons ne_var (ne_cons (ne_tup (ne_cons (ne_c _) (ne_cons (ne_tup ne_nil) ne_nil))) (ne_cons (ne_tup (ne_cons (ne_c _) (ne_cons (ne_tup ne_nil) ne_nil))) (ne_cons (ne_tup (ne_cons (ne_c _) (ne_cons (ne_tup (ne_cons (ne_tup (ne_cons (ne_c _) (ne_cons (ne_c _) ne_nil))) ne_nil)) ne_nil))) (ne_cons (ne_tup (ne_cons (ne_c _) (ne_cons (ne_app (ne_cons (ne_ld (nl_comp (ni_range2 (ne_cons (ne_c _) (ne_cons (ne_c _) ne_nil))) ng1 (fun k_4 => (ne_p true)) (fun k_4 => (ne_tup (ne_cons (ne_c _) (ne_cons ne_var ne_nil)))))) ne_nil)) ne_nil))) ne_nil))))))) fun goods_3 => (ns_ifs (ne_B (ne_bin (ne_ld (nl_comp (ni_seq ne_var) ng1 (fun good_5 => (ne_B (ne_bin (ne_call leq_gq (ne_cons ne_var ne_nil)) (ne_c _)))) (fun good_5 => ne_var))) (ne_ld (nl_lst ne_nil)))) (ns_ret (ne_c _)) (ns_seq0 (ns_set (ne_call leq_gq ne_nil) fun bads_6 => (ns_ifs (ne_B (ne_bin (ne_ld (nl_comp (ni_seq ne_var) ng1 (fun bad_7 => (ne_B (ne_bin (ne_call leq_gq (ne_cons ne_var ne_nil)) (ne_c _)))) (fun bad_7 => ne_var))) (ne_ld (nl_lst ne_nil)))) (ns_ret (ne_c _)) (ns_seq0 (ns_set (ne_callT leqT_gq ne_var (ne_cons ne_var ne_nil)) fun bad_8 => (ns_join (fun (_ : Unit) => [(8, .any)]) (ns_for (fun (_ : Unit) => [(8, .any)]) () (ni_seq (ne_ld (nl_cat (ne_ld (nl_rgL (ne_c _))) (ne_ld (nl_lst (ne_cons (ne_c _) (ne_cons (ne_c _) (ne_cons (ne_c _) ne_nil)))))))) (.cons .rf (.cons .rf (.cons .rf (.cons .rf (.cons .rf (.cons .rf (.cons .rf (.cons .rf (.cons .any (.cons .rf (.cons .rf (.cons .rf (.cons .rf (.cons .rf (.cons .rf .nil))))))))))))))) (fun _ => ng1) (fun way_10 s_9 => (ns_if (ne_B (ne_bin (ne_call leq_gq (ne_cons ne_var (ne_cons (ne_tup (ne_cons ne_var (ne_cons (ne_c _) (ne_cons (ne_c _) ne_nil)))) ne_nil))) (ne_call leq_gq (ne_cons (ne_c _) ne_nil)))) (ns_ret1 (ne_c _)) (ns_end () (.cons .rf (.cons .rf (.cons .rf (.cons .rf (.cons .rf (.cons .rf (.cons .rf (.cons .rf (.cons .any (.cons .rf (.cons .rf (.cons .rf (.cons .rf (.cons .rf (.cons .rf .nil))))))))))))))))))) fun s_11 => (ns_ifs (ne_B (ne_bin (ne_ld (nl_comp (ni_seq (ne_tup (ne_cons (ne_c _) (ne_cons (ne_c _) (ne_cons (ne_c _) ne_nil))))) ng1 (fun way_12 => (ne_p true)) (fun way_12 => (ne_call leq_gq (ne_cons ne_var (ne_cons (ne_tup (ne_cons ne_var (ne_cons ne_var (ne_cons (ne_c _) ne_nil)))) ne_nil)))))) (ne_ld (nl_rep (nl_lst (ne_cons (ne_call leq_gq (ne_cons (ne_c _) ne_nil)) ne_nil)) (ne_c _))))) (ns_ret (ne_c _)) (ns_seq0 (ns_join (fun (_ : Unit) => [(8, .any), (9, .any), (10, .any), (11, .any)]) (ns_for (fun (_ : Unit) => [(8, .any), (9, .any), (10, .any), (11, .any)]) () (ni_seq (ne_call leq_gq ne_nil)) (.cons .rf (.cons .rf (.cons .rf (.cons .rf (.cons .rf (.cons .rf (.cons .rf (.cons .rf (.cons .any (.cons .any (.cons .any (.cons .any (.cons .rf (.cons .rf (.cons .rf .nil))))))))))))))) (fun _ => ng4) (fun p_14 s_13 => (ns_if (ne_B (ne_bin (ne_call leq_gq (ne_cons ne_var (ne_cons (ne_tup (ne_cons (ne_tup (ne_cons (ne_c _) (ne_cons (ne_tup (ne_cons (ne_tup (ne_cons (ne_c _) (ne_cons (ne_c _) ne_nil))) (ne_cons (ne_tup (ne_cons (ne_c _) (ne_cons (ne_c _) ne_nil))) ne_nil))) ne_nil))) (ne_cons ne_var (ne_cons ne_var ne_nil)))) ne_nil))) (ne_call leq_gq (ne_cons ne_var ne_nil)))) (ns_ret1 (ne_c _)) (ns_end () (.cons .rf (.cons .rf (.cons .rf (.cons .rf (.cons .rf (.cons .rf (.cons .rf (.cons .rf (.cons .any (.cons .any (.cons .any (.cons .any (.cons .rf (.cons .rf (.cons .rf .nil))))))))))))))))))) fun s_15 => (by refine ns_set ?_ ?_; (next => exact (ne_ld (nl_lst (ne_cons (ne_tup (ne_cons (ne_c _) (ne_cons (ne_tup ne_nil) ne_nil))) (ne_cons (ne_tup (ne_cons (ne_c _) (ne_cons (ne_tup ne_nil) ne_nil))) (ne_cons (ne_tup (ne_cons (ne_c _) (ne_cons (ne_tup ne_nil) ne_nil))) (ne_cons (ne_tup (ne_cons (ne_c _) (ne_cons (ne_c _) ne_nil))) (ne_cons (ne_tup (ne_cons (ne_c _) (ne_cons (ne_ld (nl_lst (ne_cons (ne_tup (ne_cons (ne_c _) (ne_cons (ne_c _) ne_nil))) ne_nil))) ne_nil))) (ne_cons (ne_tup (ne_cons (ne_c _) (ne_cons (ne_tup (ne_cons (ne_tup (ne_cons (ne_c _) (ne_cons (ne_c _) ne_nil))) ne_nil)) ne_nil))) (ne_cons (ne_tup (ne_cons (ne_c _) (ne_cons (ne_tup (ne_cons (ne_tup (ne_cons (ne_c _) (ne_cons (ne_c _) ne_nil))) ne_nil)) ne_nil))) (ne_cons (ne_tup (ne_cons (ne_c _) (ne_cons (ne_tup (ne_cons (ne_c _) (ne_cons (ne_c _) ne_nil))) ne_nil))) ne_nil))))))))))); intro rows_16; exact (ns_join (fun (_ : Unit) => [(13, .any), (14, .any)]) (ns_for (fun (_ : Unit) => [(13, .any), (14, .any)]) () (ni_seq ne_var) (.cons .rf (.cons .rf (.cons .rf (.cons .rf (.cons .rf (.cons .rf (.cons .rf (.cons .rf (.cons .rf (.cons .rf (.cons .rf (.cons .rf (.cons .rf (.cons .any (.cons .any .nil))))))))))))))) (fun _ => ng2) (fun p_18 s_17 => (ns_if (ne_B (ne_bin (ne_call leq_gq (ne_cons (ne_c _) (ne_cons (ne_tup (ne_cons ne_var (ne_cons ne_var (ne_cons (ne_c _) ne_nil)))) ne_nil))) (ne_call leq_gq (ne_cons (ne_c _) ne_nil)))) (ns_ret1 (ne_c _)) (ns_end () (.cons .rf (.cons .rf (.cons .rf (.cons .rf (.cons .rf (.cons .rf (.cons .rf (.cons .rf (.cons .rf (.cons .rf (.cons .rf (.cons .rf (.cons .rf (.cons .any (.cons .any .nil))))))))))))))))))) fun s_19 => (ns_ret1 (ne_bin (ne_call leq_gq (ne_cons (ne_c _) (ne_cons (ne_tup (ne_cons (ne_c _) (ne_cons (ne_tup (ne_cons (ne_tup (ne_cons (ne_c _) (ne_cons (ne_c _) ne_nil))) (ne_cons (ne_tup (ne_cons (ne_c _) (ne_cons (ne_c _) ne_nil))) (ne_cons (ne_tup (ne_cons (ne_c _) (ne_cons (ne_c _) ne_nil))) ne_nil)))) (ne_cons (ne_c _) ne_nil)))) ne_nil))) (ne_call leq_gq (ne_cons (ne_c _) ne_nil))))))))))))))))))

end LW

set_option maxHeartbeats 1000000
namespace LW
open PySem PySem.Spec PyProof.Rows L2 DX NX LB
abbrev Sc (ns : List Int) : D := .list (ns.map .int)
abbrev I (n : Int) : D := .int n
abbrev Tp (l : List D) : D := .tuple l
abbrev Sx (s : String) : D := .str (PySem.Str.ofString s)
abbrev rz : D := .tuple [Sx "raised", .int 0]
def badsD : List D := [.none, I 5, Tp [], Sx "3", Tp [I 3], .list [I 3, Tp []], Tp [I 3, .list []], Tp [I 0, Tp []], Tp [I 9, Tp []], Tp [.bool true, Tp []], Tp [I 3, Tp [Tp [I 0, I 0]]], Tp [I 3, Tp [Tp [I 0, I 3]]],
  Tp [I 3, Tp [Tp [I 0, I 1], Tp [I 1, I 2]]], Tp [I 3, Tp [Tp [I 0, I 2], Tp [I 0, I 1]]], Tp [I 2, Tp [Tp [I 0, I 1], Tp [I 0, I 1]]], Tp [I 2, Tp [Tp [I 0, I 1], Tp [I 1, I 0]]],
  Tp [I 2, Tp [Tp [I 0, .bool true]]], Tp [I 2, Tp [.list [I 0, I 1]]], Tp [I 2, Tp [Tp [I 0, I 1, I 1]]], Tp [I 2, Tp [Tp [I (-1), I 0]]], Tp [I 2, Tp [.none]], Tp [I 3, Tp [], Tp []],
  Tp [I 2, Tp [Tp [I 0, Sx "1"]]], Tp [Sx "2", Tp []]]
theorem bads_eq : fn__law_bad_orders [] = .ok (.list badsD) := by kernel_rfl
theorem raises_order : fn__law_raises [Sx "order"] = .ok rz := by kernel_rfl
theorem bads_not : ∀ b ∈ badsD, fn_is_order [b] = .ok (.bool false) ∧ fn_check_order [b] = .exc "InvalidOrder" := by
  intro b hb
  simp only [badsD, List.mem_cons, List.not_mem_nil, or_false] at hb
  rcases hb with rfl | rfl | rfl | rfl | rfl | rfl | rfl | rfl | rfl | rfl | rfl | rfl | rfl | rfl | rfl | rfl | rfl | rfl | rfl | rfl | rfl | rfl | rfl | rfl <;> exact ⟨by kernel_rfl, by kernel_rfl⟩
theorem tail_ok (t : List D) : R2_law t = .ok (.ret (.bool true)) t := by
  kernel_rfl
theorem wrongs_ok (t : List D) : ((bT (nSeq (nCall (gq 0 fn__law_wrongs) nNil)) fun xs => forN g4 B2_law xs ()) : T (List D) (SN Unit Unit)) t = .ok (.next ()) t := by
  kernel_rfl
theorem ways_ok : ∀ b ∈ badsD, ∀ t : List D, ((bT (nSeq (nLd (nCat (nLd (nRgL (nC (.int 44)))) (nLd (nLst (nCons (nC (.int 46)) (nCons (nC (.int 47)) (nCons (nC (.int 48)) nNil)))))))) fun xs => forN g1 (B1_law b) xs ()) : T (List D) (SN Unit Unit)) t = .ok (.next ()) t := by
  intro b hb
  simp only [badsD, List.mem_cons, List.not_mem_nil, or_false] at hb
  rcases hb with rfl | rfl | rfl | rfl | rfl | rfl | rfl | rfl | rfl | rfl | rfl | rfl | rfl | rfl | rfl | rfl | rfl | rfl | rfl | rfl | rfl | rfl | rfl | rfl <;> (intro t; kernel_rfl)
theorem out_exc {w a : D} (h : fn__law_call [w, a] = .exc "InvalidOrder") : fn__law_outcome [w, a] = .ok rz := by
  have e : (sSet 3 (mCall 2 fn__law_call (mCons (mVar 0) (mCons (mVar 1) mNil)))) [.val w, .val a, .val .none, .val .none, .no] = .exc "InvalidOrder" [.val w, .val a, .val .none, .val .none, .no] := by
    show sBnd (match fn__law_call [w, a] with | .ok d => .ok d _ | .exc s => .exc s _ | .bad => .bad) _ = _
    rw [h]
    rfl
  have e2 : m__law_outcome [.val w, .val a, .no, .no, .no] = r3__law_outcome [.val w, .val a, .val (excD "InvalidOrder"), .val .none, .no] := by
    show (match sTry 4 2 (sSet 3 (mCall 2 fn__law_call (mCons (mVar 0) (mCons (mVar 1) mNil)))) [.val w, .val a, .val .none, .val .none, .no] with | .next ρ1 => r3__law_outcome ρ1 | r => r) = _
    unfold sTry
    rw [e]
    rfl
  show (match m__law_outcome [.val w, .val a, .no, .no, .no] with | .ret d _ => FR.ok d | .next _ => .ok .none | .exc s _ => .exc s | _ => .bad) = _
  rw [e2]
  kernel_rfl
theorem callE {tb : Tbl} {mf : M D} {ma : M (List D)} {ρ : Rho} {x : Str} {r : Nat × (List D → FR)} {ds : List D} (h1 : mf ρ = .ok (fnD x) ρ) (h2 : lookF tb x = some r) (h3 : ma ρ = .ok ds ρ) (h4 : ds.length = r.1) {e : Str} (h5 : r.2 ds = .exc e) : sRet (mCallE tb mf ma) ρ = .exc e ρ := by
  show sBnd (mCallE tb mf ma ρ) _ = _
  have : mCallE tb mf ma ρ = .exc e ρ := by
    unfold mCallE
    rw [h1]
    show (match lookF tb x with | none => _ | some r => _) = _
    rw [h2]
    show mCall r.1 r.2 ma ρ = _
    unfold mCall
    rw [h3]
    show (if ds.length = r.1 then _ else _) = _
    rw [if_pos h4, h5]
  rw [this]
  rfl
theorem run_exc {N : Nat} {m : MS} {ds : List D} {ρ : Rho} {x : Str} (h : m (rho0 N ds) = .exc x ρ) : runF N m ds = .exc x := by
  unfold runF
  rw [h]
theorem call46 {o b : D} {e : Str} (h : fn_beside [o, b] = .exc e) : fn__law_call [.int 46, .tuple [o, b, .int 0]] = .exc e := by
  have e1 : m__law_call [.val (.int 46), .val (.tuple [o, b, .int 0]), .no, .no, .no, .no] = r8__law_call [.val (.int 46), .val (.tuple [o, b, .int 0]), .val o, .val b, .val (.int 0), .no] := by kernel_rfl
  exact run_exc (N := 6) (e1.trans (callE (x := "beside") (r := (2, fn_beside)) (ds := [o, b]) (by kernel_rfl) (by kernel_rfl) (by kernel_rfl) rfl h))
theorem call47 {o b : D} {e : Str} (h : fn_stacked [o, b] = .exc e) : fn__law_call [.int 47, .tuple [o, b, .int 0]] = .exc e := by
  have e1 : m__law_call [.val (.int 47), .val (.tuple [o, b, .int 0]), .no, .no, .no, .no] = r8__law_call [.val (.int 47), .val (.tuple [o, b, .int 0]), .val o, .val b, .val (.int 0), .no] := by kernel_rfl
  exact run_exc (N := 6) (e1.trans (callE (x := "stacked") (r := (2, fn_stacked)) (ds := [o, b]) (by kernel_rfl) (by kernel_rfl) (by kernel_rfl) rfl h))
theorem call48 {o b : D} {e : Str} (h : fn_renaming [o, b] = .exc e) : fn__law_call [.int 48, .tuple [o, b, .int 0]] = .exc e := by
  have e1 : m__law_call [.val (.int 48), .val (.tuple [o, b, .int 0]), .no, .no, .no, .no] = r8__law_call [.val (.int 48), .val (.tuple [o, b, .int 0]), .val o, .val b, .val (.int 0), .no] := by kernel_rfl
  exact run_exc (N := 6) (e1.trans (callE (x := "renaming") (r := (2, fn_renaming)) (ds := [o, b]) (by kernel_rfl) (by kernel_rfl) (by kernel_rfl) rfl h))
theorem leq_exc {k : Nat} {q fn : List D → FR} (h : LeQ k q fn) {ds : List D} {e : Str} (hq : q ds = .exc e) : fn ds = .exc e := by
  rcases h ds with z | z
  · rw [hq] at z; cases z
  · rw [← z.2]; exact hq
theorem gqc (d : D) : gq 1 fn_check_order [d] = fn_check_order [d] := rfl
theorem three {n : Nat} {ps : List (Nat × Nat)} (h : Od n ps) {b : D} (hb : b ∈ badsD) : ∀ w ∈ [(46 : Int), 47, 48], fn__law_outcome [.int w, .tuple [oD n ps, b, .int 0]] = .ok rz := by
  have h1 := h.check
  have h2 := (bads_not b hb).2
  have hB : ∀ m : D, q_both [oD n ps, b, m] = .exc "InvalidOrder" := fun m => by
    unfold q_both
    simp only [finF_eq, bT_ap, nCall_ap, nCons_ap, nC_ap, nNil_ap, pT_ap, bR_ok, gqc, h1, h2, frT_ok, frT_exc, bR_exc, finR_exc]
  intro w hw
  simp only [List.mem_cons, List.not_mem_nil, or_false] at hw
  rcases hw with rfl | rfl | rfl
  · refine out_exc (call46 (leq_exc n_beside ?_))
    unfold q_beside
    simp only [finF_eq, bT_ap, nRet_ap, nCall_ap, nCons_ap, nC_ap, nNil_ap, pT_ap, bR_ok, hB, frT_exc, bR_exc, finR_exc]
  · refine out_exc (call47 (leq_exc n_stacked ?_))
    unfold q_stacked
    simp only [finF_eq, bT_ap, nRet_ap, nCall_ap, nCons_ap, nC_ap, nNil_ap, pT_ap, bR_ok, hB, frT_exc, bR_exc, finR_exc]
  · refine out_exc (call48 (leq_exc n_renaming ?_))
    unfold q_renaming
    simp only [finF_eq, bT_ap, nCall_ap, nCons_ap, nC_ap, nNil_ap, pT_ap, bR_ok, gqc, h1, h2, frT_ok, frT_exc, bR_exc, finR_exc]
def goodsD (o : D) : List D := [o, Tp [I 1, Tp []], Tp [I 8, Tp []], Tp [I 2, Tp [Tp [I 1, I 0]]], Tp [I 8, Tp [Tp [I 0, I 1], Tp [I 0, I 2], Tp [I 0, I 3], Tp [I 0, I 4], Tp [I 0, I 5], Tp [I 0, I 6], Tp [I 0, I 7]]]]
theorem goods_eq (o : D) (t : List D) : (nLd (nLst (nCons (nC o) (nCons (nTup (nCons (nC (.int 1)) (nCons (nTup nNil) nNil))) (nCons (nTup (nCons (nC (.int 8)) (nCons (nTup nNil) nNil))) (nCons (nTup (nCons (nC (.int 2)) (nCons (nTup (nCons (nTup (nCons (nC (.int 1)) (nCons (nC (.int 0)) nNil))) nNil)) nNil))) (nCons (nTup (nCons (nC (.int 8)) (nCons (nApp fTuple (nCons (nLd (nComp (nRange2 (nCons (nC (.int 1)) (nCons (nC (.int 8)) nNil))) g1 (fun k_4 => nYes) (fun k_4 => (nTup (nCons (nC (.int 0)) (nCons (nC k_4) nNil)))))) nNil)) nNil))) nNil)))))) : T (List D) D) t = .ok (.list (goodsD o)) t := by kernel_rfl
theorem goods_ok {n : Nat} {ps : List (Nat × Nat)} (h : Od n ps) : ∀ d ∈ goodsD (oD n ps), fn_is_order [d] = .ok (.bool true) := by
  intro d hd
  simp only [goodsD, List.mem_cons, List.not_mem_nil, or_false] at hd
  rcases hd with rfl | rfl | rfl | rfl | rfl
  · rw [order_ok n ps (by have := h.len; omega), h.b]
  all_goals kernel_rfl
theorem gqi (d : D) : gq 1 fn_is_order [d] = fn_is_order [d] := rfl
theorem none_left {cs : List D} {b c : Bool} (hbc : fIsNot (.bool b) (.bool c) = some (.bool false)) (hl : cs.length ≤ 1000) (h : ∀ d ∈ cs, fn_is_order [d] = .ok (.bool b)) (t : List D) :
    nComp (nSeq (nC (.list cs))) g1 (fun good => (nB (nBin fIsNot (nCall (gq 1 fn_is_order) (nCons (nC good) nNil)) (nC (.bool c))))) (fun good => (nC good)) t = .ok [] t := by
  have := nComp_pure (τ := List D) (t := t) (f := g1) (e := id) (ni := nSeq (nC (.list cs))) (test := fun good => (nB (nBin fIsNot (nCall (gq 1 fn_is_order) (nCons (nC good) nNil)) (nC (.bool c))))) (elt := fun good => (nC good)) (fun _ => false) id cs (by simp) (by show cs.length ≤ 16777216; omega) fun d hd => ⟨_, rfl, by
    simp only [id, nB_ap, nBin_ap, nCall_ap, nCons_ap, nNil_ap, pT_ap, nC_ap, bR_ok, bT_ap, gqi, h d hd, frT_ok, hbc, lT_some, bolT_bool], fun _ => rfl⟩
  rw [List.filter_eq_nil_iff.mpr (fun p hp z => by cases z)] at this
  exact this
theorem gqo (a b : D) : gq 2 fn__law_outcome [a, b] = fn__law_outcome [a, b] := rfl
theorem rest3 {n : Nat} {ps : List (Nat × Nat)} (h : Od n ps) {b : D} (hb : b ∈ badsD) (t : List D) : R3_law (oD n ps) b t = .ok (.ret (.bool true)) t := by
  have h3 := three h hb
  have hc : nComp (nSeq (nTup (nCons (nC (.int 46)) (nCons (nC (.int 47)) (nCons (nC (.int 48)) nNil))))) g1 (fun way_12 => nYes) (fun way_12 => (nCall (gq 2 fn__law_outcome) (nCons (nC way_12) (nCons (nTup (nCons (nC (oD n ps)) (nCons (nC b) (nCons (nC (.int 0)) nNil)))) nNil)))) t = .ok [rz, rz, rz] t := by
    have := nComp_pure (τ := List D) (t := t) (f := g1) (e := PyData.int) (ni := nSeq (nTup (nCons (nC (.int 46)) (nCons (nC (.int 47)) (nCons (nC (.int 48)) nNil))))) (test := fun way_12 => nYes) (elt := fun way_12 => (nCall (gq 2 fn__law_outcome) (nCons (nC way_12) (nCons (nTup (nCons (nC (oD n ps)) (nCons (nC b) (nCons (nC (.int 0)) nNil)))) nNil)))) (fun _ => true) (fun _ => rz) [(46 : Int), 47, 48] (by kernel_rfl) (by show (3 : Nat) ≤ 16777216; decide) fun w hw => ⟨_, rfl, rfl, fun _ => by
      have s3 : (3 : Nat) ≤ sizeLine := by decide
      simp only [nCall_ap, nCons_ap, nNil_ap, nC_ap, bT_ap, bR_ok, pT_ap, nTup_ap, gdT_ap, List.length_cons, List.length_nil, Nat.zero_add, Nat.reduceAdd, s3, if_true, gqo, h3 w hw, frT_ok]⟩
    exact this
  have hr : (nLd (nRep (nLst (nCons (nCall (gq 1 fn__law_raises) (nCons (nC (.str (PySem.Str.ofString "order"))) nNil)) nNil)) (nC (.int 3))) : T (List D) D) t = .ok (.list [rz, rz, rz]) t := by kernel_rfl
  have hn : fNe (.list [rz, rz, rz]) (.list [rz, rz, rz]) = some (.bool false) := by kernel_rfl
  have hw := wrongs_ok t
  unfold R3_law
  rw [bT_ap, nB_ap]
  simp only [nBin_ap, nLd_ap, hc, bR_ok, pT_ap]
  rw [bT_ap, hr]
  simp only [bR_ok, bT_ap, hn, lT_some, bolT_bool, iT_false, nThen_ap]
  rw [bT_ap] at hw
  rw [hw]
  simp only [bR_ok, thenT_next, tail_ok]
theorem law_true : ∀ ns : List Int, ns.length ≤ 63 → fn_law [.list (ns.map .int)] = .ok (.bool true) := by
  intro ns hns
  obtain ⟨ts0, e0, t0⟩ := town_ok ns hns
  suffices hq : ∃ t', q_law (Sc ns) ts0 = .ok (.ret (.bool true)) t' by
    obtain ⟨t', hq⟩ := hq
    exact law_run (O := [1]) rfl (by decide) rfl e0 (n_law (Sc ns)) hq
  obtain ⟨n, ps, t1, e1, hn, h, ht1⟩ := lorder_ok (m := 8) (by decide) (by decide) t0 (by decide)
  have e1 : frtT q__law_order (Sc ns) [.int 8] ts0 = .ok (oD n ps) t1 := frtT_ok e1
  obtain ⟨b, t2, e2, hb, ht2⟩ := pick_ok ht1 (by decide) badsD (by decide) (by decide)
  have e2 : frtT (gqT 3 fn__law_pick) (Sc ns) [.list badsD] t1 = .ok b t2 := frtT_ok3 e2
  have g1 := none_left (c := true) (by rfl) (by show (5 : Nat) ≤ 1000; decide) (goods_ok h) t1
  have g2 := none_left (c := false) (by rfl) (by show (24 : Nat) ≤ 1000; decide) (fun d hd => (bads_not d hd).1) t1
  have g0 := goods_eq (oD n ps) t1
  have gb : (gq 0 fn__law_bad_orders) [] = .ok (.list badsD) := bads_eq
  have hnn : fNe (.list []) (.list []) = some (.bool false) := by kernel_rfl
  have wo := ways_ok b hb t2
  have r3 := rest3 h hb t2
  refine ⟨t2, ?_⟩
  unfold q_law
  have h0 : (nCallT q__law_order (nC (Sc ns)) (nCons (nC (.int 8)) nNil) : T (List D) D) ts0 = .ok (oD n ps) t1 := by simp only [bT_ap, nCallT_ap, nCons_ap, nC_ap, bR_ok, nNil_ap, pT_ap, e1]
  rw [bT_ap, h0, bR_ok, bT_ap, g0]
  simp only [bR_ok, bT_ap, nB_ap, nBin_ap, nLd_ap, g1, nLst_ap, gdT_ap, nNil_ap, pT_ap, List.length_nil, Nat.zero_le, if_true, hnn, lT_some, bolT_bool, iT_false, nCall_ap, gb, frT_ok, g2, nCallT_ap, nCons_ap, nC_ap, e2, nThen_ap]
  rw [bT_ap] at wo
  rw [wo]
  simp only [bR_ok, thenT_next, r3]
end LW

set_option maxHeartbeats 0
namespace LW
open PySem PySem.Spec PyProof.Rows L2 DX LB
def dd (n : Str) (i : Nat) : He.DefD := ⟨(n, none), n, n, defArgs (top i), defBody (top i), defScope (top i), [], []⟩
def fnL : List He.DefD := [dd "_law_bad_orders" 153, dd "_law_draw" 144, dd "_law_closure" 151, dd "_law_pick" 145, dd "_law_order_of" 150, dd "_law_order" 149, dd "is_ascending" 18, dd "is_between" 16, dd "is_closed" 19, dd "is_pair" 17, dd "is_order" 20, dd "check_order" 21, dd "is_plain" 55, dd "loose_pairs" 26, dd "is_loose" 54, dd "check_pairs" 58, dd "alternating_cycle" 65, dd "antichain_partition" 104, dd "balanced_pair" 50, dd "both" 33, dd "beside" 34, dd "chain_partition" 103, dd "closure" 22, dd "closed" 23, dd "conjugate" 87, dd "count_extensions" 44, dd "covers" 25, dd "critical_pairs" 53, dd "dimension" 77, dd "dual" 29, dd "bit" 38, dd "free_elements" 42, dd "masks_below" 37, dd "endings" 43, dd "extension_at" 45, dd "forcing_chain" 91, dd "format_order" 141, dd "fractional_dimension" 136, dd "height" 98, dd "incomparable" 27, dd "is_listed" 39, dd "check_extension" 41, dd "index_of" 46, dd "is_alternating_cycle" 57, dd "is_extension" 40, dd "is_forcing_chain" 89, dd "is_partition" 105, dd "is_realizer" 67, dd "check_number" 73, dd "is_refutation" 82, dd "is_weighted_realizer" 128, dd "is_weighting" 130, dd "largest_antichain" 99, dd "largest_chain" 100, dd "least_form" 119, dd "needed_elements" 83, dd "obstruction" 112, dd "points" 86, dd "realizer" 75, dd "refutation" 79, dd "renamed" 116, dd "renaming" 120, dd "representation" 108, dd "is_ascending_elements" 32, dd "restricted" 31, dd "reversing_extension" 61, dd "share" 49, dd "stacked" 35, dd "symmetries" 121, dd "unit_obstruction" 113, dd "unit_representation" 110, dd "weighted_realizer" 137, dd "weighting" 138, dd "width" 97, dd "_law_call" 152, dd "_law_name" 147, dd "_law_outcome" 146, dd "_law_raises" 148, dd "_law_town" 143, dd "_law_wrongs" 154, dd "law" 155]
def faL : List He.Fa := [.glo "_law_bad_orders", .glo "_law_draw", .glo "_law_closure", .glo "_law_pick", .glo "_law_order_of", .glo "_law_order", .glo "is_ascending", .glo "is_between", .glo "is_closed", .glo "is_pair", .glo "is_order", .glo "check_order", .glo "is_plain", .glo "loose_pairs", .glo "is_loose", .glo "check_pairs", .glo "alternating_cycle", .glo "antichain_partition", .glo "balanced_pair", .glo "both", .glo "beside", .glo "chain_partition", .glo "closure", .glo "closed", .glo "conjugate", .glo "count_extensions", .glo "covers", .glo "critical_pairs", .glo "dimension", .glo "dual", .glo "bit", .glo "free_elements", .glo "masks_below", .glo "endings", .glo "extension_at", .glo "forcing_chain", .glo "format_order", .glo "fractional_dimension", .glo "height", .glo "incomparable", .glo "is_listed", .glo "check_extension", .glo "index_of", .glo "is_alternating_cycle", .glo "is_extension", .glo "is_forcing_chain", .glo "is_partition", .glo "is_realizer", .glo "check_number", .glo "is_refutation", .glo "is_weighted_realizer", .glo "is_weighting", .glo "largest_antichain", .glo "largest_chain", .glo "least_form", .glo "needed_elements", .glo "obstruction", .glo "points", .glo "realizer", .glo "refutation", .glo "renamed", .glo "renaming", .glo "representation", .glo "is_ascending_elements", .glo "restricted", .glo "reversing_extension", .glo "share", .glo "stacked", .glo "symmetries", .glo "unit_obstruction", .glo "unit_representation", .glo "weighted_realizer", .glo "weighting", .glo "width", .glo "_law_call", .glo "_law_name", .glo "_law_outcome", .glo "_law_raises", .glo "_law_town", .glo "_law_wrongs", .glo "law", .free "len", .free "all", .free "any", .free "isinstance", .free "int", .free "bool", .free "tuple", .free "str", .free "list", .free "dict", .free "set", .free "range", .free "sorted", .free "sum", .free "abs", .free "max", .free "min", .free "enumerate", .free "zip", .glo "InvalidElement", .glo "InvalidExtension", .glo "InvalidIndex", .glo "InvalidNames", .glo "InvalidNumber", .glo "InvalidOrder", .glo "InvalidPairs", .exc "InvalidElement", .exc "InvalidExtension", .exc "InvalidIndex", .exc "InvalidNames", .exc "InvalidNumber", .exc "InvalidOrder", .exc "InvalidPairs", .int "MOST" 8]
abbrev hk : PySem.W.Hook := hookQ excB 4 faL fnL
def ob (s : PySem.W.SharedT) : AlP := obsQ excB 4 faL fnL (HandSHeadRun.getT s)
theorem ob_eq (s : PySem.W.SharedT) : ob s = hk.obs s.abs := obsQ_eq (HandSHeadRun.getT_eq s)
def fr (s : PySem.W.SharedT) : PySem.W.Frag := frB (HandSHeadRun.getT s) 4
def looseL : List PySem.Str := ((["DimensionError", "InvalidOrder", "InvalidElement", "InvalidPairs", "InvalidExtension", "InvalidIndex", "InvalidNumber", "InvalidPoints", "InvalidNames", "InvalidText", "TooLarge", "Comparable", "NothingToUndo", "is_between", "is_pair", "is_ascending", "is_closed", "is_order", "check_order", "closure"] : List PySem.Str) ++ (["closed", "cover_pairs", "covers", "loose_pairs", "incomparable", "turned", "dual", "part", "restricted", "is_ascending_elements", "both", "beside", "stacked", "masks_below", "bit", "is_listed", "is_extension", "check_extension", "free_elements", "endings"] : List PySem.Str) ++ (["count_extensions", "extension_at", "index_of", "ratio", "count_before", "share", "balanced_pair", "critical", "critical_pairs", "is_loose", "is_plain", "is_cycle", "is_alternating_cycle", "check_pairs", "first_extension", "reversing", "reversing_extension", "reaches", "cycle_from", "shortest_cycle"] : List PySem.Str) ++ (["alternating_cycle", "is_realizer", "allowed_colours", "next_pair", "with_pair", "coloured", "found_groups", "check_number", "found_realizer", "realizer", "found_dimension", "dimension", "refuted", "refutation", "does_refute", "is_free_pair", "is_refutation", "needed_elements", "two_extensions", "points"] : List PySem.Str) ++ (["conjugate", "forced", "is_forcing_chain", "chain_from", "forcing_chain", "are_comparable", "is_set", "all_sets", "largest", "width", "height", "largest_antichain", "largest_chain", "divided", "partition", "chain_partition", "antichain_partition", "is_partition", "is_representation", "representation"] : List PySem.Str) ++ (["unit_places", "unit_representation", "found_obstruction", "obstruction", "unit_obstruction", "with_names", "renamed", "all_names", "check_size", "least_form", "renaming", "symmetries", "plus", "total", "is_less", "is_weight", "are_weighted", "is_weighted_realizer", "heaviest", "is_weighting"] : List PySem.Str) ++ (["changed_basis", "solved", "is_first", "found_weights", "check_small", "fractional_dimension", "weighted_realizer", "weighting", "text_of", "format_order", "_law_town", "_law_draw", "_law_pick", "_law_outcome", "_law_name", "_law_raises", "_law_order", "_law_order_of", "_law_closure", "_law_call"] : List PySem.Str) ++ (["_law_bad_orders", "_law_wrongs", "MOST"] : List PySem.Str))
theorem rn1 (w : World) (os : OsState) : (HandSHeadRun.endF (HandSHeadRun.stepQ (HandSHeadRun.denQ HandSHeadRun.tabQ) (PySem.W.OpenLaw.row PySem.Challenge.rw_orderdims_k01_order_ends).prog w) 9000 (PySem.W.OpenLaw.row PySem.Challenge.rw_orderdims_k01_order_ends).prog w os).map (fun s => HandSHeadRun.looksF (PySem.W.OpenLaw.row PySem.Challenge.rw_orderdims_k01_order_ends).prog (PySem.W.boot_heap w.params) s.abs) = some true := by kernel_rfl
theorem rn2 (w : World) (os : OsState) : (HandSHeadRun.endF (HandSHeadRun.stepQ (HandSHeadRun.denQ HandSHeadRun.tabQ) (PySem.W.OpenLaw.row PySem.Challenge.rw_orderdims_k01_order_ends).prog w) 9000 (PySem.W.OpenLaw.row PySem.Challenge.rw_orderdims_k01_order_ends).prog w os).map (fun s => HandSHeadRun.seenQ (PySem.W.view (PySem.W.OpenLaw.row PySem.Challenge.rw_orderdims_k01_order_ends).prog [155]) looseL (PySem.importedModules (PySem.W.OpenLaw.row PySem.Challenge.rw_orderdims_k01_order_ends).prog.main.body) (fun s => PySem.W.xlAt (PySem.W.view (PySem.W.OpenLaw.row PySem.Challenge.rw_orderdims_k01_order_ends).prog [155]) [] s && PySem.W.recOk (PySem.W.OpenLaw.row PySem.Challenge.rw_orderdims_k01_order_ends).toRowW.records s) s.abs) = some (PySem.W.openGood (PySem.W.view (PySem.W.OpenLaw.row PySem.Challenge.rw_orderdims_k01_order_ends).prog [155]) looseL) := by kernel_rfl
theorem rn3 (w : World) (os : OsState) : (HandSHeadRun.endF (HandSHeadRun.stepQ (HandSHeadRun.denQ HandSHeadRun.tabQ) (PySem.W.OpenLaw.row PySem.Challenge.rw_orderdims_k01_order_ends).prog w) 9000 (PySem.W.OpenLaw.row PySem.Challenge.rw_orderdims_k01_order_ends).prog w os).map (fun s => excB (fr s)) = some true := by kernel_rfl
theorem rn4 (w : World) (os : OsState) : (HandSHeadRun.endF (HandSHeadRun.stepQ (HandSHeadRun.denQ HandSHeadRun.tabQ) (PySem.W.OpenLaw.row PySem.Challenge.rw_orderdims_k01_order_ends).prog w) 9000 (PySem.W.OpenLaw.row PySem.Challenge.rw_orderdims_k01_order_ends).prog w os).map (fun s => faL.all fun f => f.ok (fr s)) = some true := by kernel_rfl
theorem rn5 (w : World) (os : OsState) : (HandSHeadRun.endF (HandSHeadRun.stepQ (HandSHeadRun.denQ HandSHeadRun.tabQ) (PySem.W.OpenLaw.row PySem.Challenge.rw_orderdims_k01_order_ends).prog w) 9000 (PySem.W.OpenLaw.row PySem.Challenge.rw_orderdims_k01_order_ends).prog w os).map (fun s => fnL.all fun f => f.ok (fr s)) = some true := by kernel_rfl
theorem rn6 (w : World) (os : OsState) : (HandSHeadRun.endF (HandSHeadRun.stepQ (HandSHeadRun.denQ HandSHeadRun.tabQ) (PySem.W.OpenLaw.row PySem.Challenge.rw_orderdims_k01_order_ends).prog w) 9000 (PySem.W.OpenLaw.row PySem.Challenge.rw_orderdims_k01_order_ends).prog w os).map (fun s => fnL.map fun d => He.fnW (fr s) d.at_) = some (fnL.map He.DefD.val) := by kernel_rfl
theorem run (w : World) : HandSHeadRun.RunEq (PySem.W.OpenLaw.row PySem.Challenge.rw_orderdims_k01_order_ends) (PySem.W.view (PySem.W.OpenLaw.row PySem.Challenge.rw_orderdims_k01_order_ends).prog [155]) hk ob 9000 looseL w := by
  intro os
  have a := rn1 w os
  have b := rn2 w os
  have c := rn3 w os
  have d := rn4 w os
  have e := rn5 w os
  have f := rn6 w os
  show (HandSHeadRun.endF (HandSHeadRun.stepQ (HandSHeadRun.denQ HandSHeadRun.tabQ) (PySem.W.OpenLaw.row PySem.Challenge.rw_orderdims_k01_order_ends).prog w) 9000 (PySem.W.OpenLaw.row PySem.Challenge.rw_orderdims_k01_order_ends).prog w os).map _ = _
  generalize (HandSHeadRun.endF (HandSHeadRun.stepQ (HandSHeadRun.denQ HandSHeadRun.tabQ) (PySem.W.OpenLaw.row PySem.Challenge.rw_orderdims_k01_order_ends).prog w) 9000 (PySem.W.OpenLaw.row PySem.Challenge.rw_orderdims_k01_order_ends).prog w os) = o at a b c d e f ⊢
  cases o with
  | none => cases a
  | some s =>
    have a := Option.some.inj a
    have b := Option.some.inj b
    have c := Option.some.inj c
    have d := Option.some.inj d
    have e := Option.some.inj e
    have f := Option.some.inj f
    refine congrArg some (Prod.ext a (Prod.ext b (Prod.ext c (Prod.ext ?_ f))))
    show ((faL.all fun f => f.ok (fr s)) && fnL.all fun f => f.ok (fr s)) = true
    rw [show (faL.all fun f => f.ok (fr s)) = true from d, show (fnL.all fun f => f.ok (fr s)) = true from e]
    rfl
theorem facts {P : Program} {w : World} {K : PySem.W.Frag} {h : Heap} {mg : Str → Option Value} {f : Addr} (X : K.In h) (G : h.Ns mainGlobals mg) (hfa : mg "law" = some (.ref f)) (c : He.SaysD faL fnL K) (cx : excB K = true) :
    ∃ fd : FuncData, (∀ (s : Shared) (v : Value), BindsTo s fd ⟨[v], []⟩ [("script", v)]) ∧ ∀ base : Heap, FnOk P w K mg base (L2.CX P w) 9 f fd ["script"] (spD ⟨P, w, K, mg⟩ mg 1 fn_law) := by
  obtain ⟨fd0, D0⟩ := c.def_ 0 (d := dd "_law_bad_orders" 153) rfl
  obtain ⟨fd1, D1⟩ := c.def_ 1 (d := dd "_law_draw" 144) rfl
  obtain ⟨fd2, D2⟩ := c.def_ 2 (d := dd "_law_closure" 151) rfl
  obtain ⟨fd3, D3⟩ := c.def_ 3 (d := dd "_law_pick" 145) rfl
  obtain ⟨fd4, D4⟩ := c.def_ 4 (d := dd "_law_order_of" 150) rfl
  obtain ⟨fd5, D5⟩ := c.def_ 5 (d := dd "_law_order" 149) rfl
  obtain ⟨fd6, D6⟩ := c.def_ 6 (d := dd "is_ascending" 18) rfl
  obtain ⟨fd7, D7⟩ := c.def_ 7 (d := dd "is_between" 16) rfl
  obtain ⟨fd8, D8⟩ := c.def_ 8 (d := dd "is_closed" 19) rfl
  obtain ⟨fd9, D9⟩ := c.def_ 9 (d := dd "is_pair" 17) rfl
  obtain ⟨fd10, D10⟩ := c.def_ 10 (d := dd "is_order" 20) rfl
  obtain ⟨fd11, D11⟩ := c.def_ 11 (d := dd "check_order" 21) rfl
  obtain ⟨fd12, D12⟩ := c.def_ 12 (d := dd "is_plain" 55) rfl
  obtain ⟨fd13, D13⟩ := c.def_ 13 (d := dd "loose_pairs" 26) rfl
  obtain ⟨fd14, D14⟩ := c.def_ 14 (d := dd "is_loose" 54) rfl
  obtain ⟨fd15, D15⟩ := c.def_ 15 (d := dd "check_pairs" 58) rfl
  obtain ⟨fd16, D16⟩ := c.def_ 16 (d := dd "alternating_cycle" 65) rfl
  obtain ⟨fd17, D17⟩ := c.def_ 17 (d := dd "antichain_partition" 104) rfl
  obtain ⟨fd18, D18⟩ := c.def_ 18 (d := dd "balanced_pair" 50) rfl
  obtain ⟨fd19, D19⟩ := c.def_ 19 (d := dd "both" 33) rfl
  obtain ⟨fd20, D20⟩ := c.def_ 20 (d := dd "beside" 34) rfl
  obtain ⟨fd21, D21⟩ := c.def_ 21 (d := dd "chain_partition" 103) rfl
  obtain ⟨fd22, D22⟩ := c.def_ 22 (d := dd "closure" 22) rfl
  obtain ⟨fd23, D23⟩ := c.def_ 23 (d := dd "closed" 23) rfl
  obtain ⟨fd24, D24⟩ := c.def_ 24 (d := dd "conjugate" 87) rfl
  obtain ⟨fd25, D25⟩ := c.def_ 25 (d := dd "count_extensions" 44) rfl
  obtain ⟨fd26, D26⟩ := c.def_ 26 (d := dd "covers" 25) rfl
  obtain ⟨fd27, D27⟩ := c.def_ 27 (d := dd "critical_pairs" 53) rfl
  obtain ⟨fd28, D28⟩ := c.def_ 28 (d := dd "dimension" 77) rfl
  obtain ⟨fd29, D29⟩ := c.def_ 29 (d := dd "dual" 29) rfl
  obtain ⟨fd30, D30⟩ := c.def_ 30 (d := dd "bit" 38) rfl
  obtain ⟨fd31, D31⟩ := c.def_ 31 (d := dd "free_elements" 42) rfl
  obtain ⟨fd32, D32⟩ := c.def_ 32 (d := dd "masks_below" 37) rfl
  obtain ⟨fd33, D33⟩ := c.def_ 33 (d := dd "endings" 43) rfl
  obtain ⟨fd34, D34⟩ := c.def_ 34 (d := dd "extension_at" 45) rfl
  obtain ⟨fd35, D35⟩ := c.def_ 35 (d := dd "forcing_chain" 91) rfl
  obtain ⟨fd36, D36⟩ := c.def_ 36 (d := dd "format_order" 141) rfl
  obtain ⟨fd37, D37⟩ := c.def_ 37 (d := dd "fractional_dimension" 136) rfl
  obtain ⟨fd38, D38⟩ := c.def_ 38 (d := dd "height" 98) rfl
  obtain ⟨fd39, D39⟩ := c.def_ 39 (d := dd "incomparable" 27) rfl
  obtain ⟨fd40, D40⟩ := c.def_ 40 (d := dd "is_listed" 39) rfl
  obtain ⟨fd41, D41⟩ := c.def_ 41 (d := dd "check_extension" 41) rfl
  obtain ⟨fd42, D42⟩ := c.def_ 42 (d := dd "index_of" 46) rfl
  obtain ⟨fd43, D43⟩ := c.def_ 43 (d := dd "is_alternating_cycle" 57) rfl
  obtain ⟨fd44, D44⟩ := c.def_ 44 (d := dd "is_extension" 40) rfl
  obtain ⟨fd45, D45⟩ := c.def_ 45 (d := dd "is_forcing_chain" 89) rfl
  obtain ⟨fd46, D46⟩ := c.def_ 46 (d := dd "is_partition" 105) rfl
  obtain ⟨fd47, D47⟩ := c.def_ 47 (d := dd "is_realizer" 67) rfl
  obtain ⟨fd48, D48⟩ := c.def_ 48 (d := dd "check_number" 73) rfl
  obtain ⟨fd49, D49⟩ := c.def_ 49 (d := dd "is_refutation" 82) rfl
  obtain ⟨fd50, D50⟩ := c.def_ 50 (d := dd "is_weighted_realizer" 128) rfl
  obtain ⟨fd51, D51⟩ := c.def_ 51 (d := dd "is_weighting" 130) rfl
  obtain ⟨fd52, D52⟩ := c.def_ 52 (d := dd "largest_antichain" 99) rfl
  obtain ⟨fd53, D53⟩ := c.def_ 53 (d := dd "largest_chain" 100) rfl
  obtain ⟨fd54, D54⟩ := c.def_ 54 (d := dd "least_form" 119) rfl
  obtain ⟨fd55, D55⟩ := c.def_ 55 (d := dd "needed_elements" 83) rfl
  obtain ⟨fd56, D56⟩ := c.def_ 56 (d := dd "obstruction" 112) rfl
  obtain ⟨fd57, D57⟩ := c.def_ 57 (d := dd "points" 86) rfl
  obtain ⟨fd58, D58⟩ := c.def_ 58 (d := dd "realizer" 75) rfl
  obtain ⟨fd59, D59⟩ := c.def_ 59 (d := dd "refutation" 79) rfl
  obtain ⟨fd60, D60⟩ := c.def_ 60 (d := dd "renamed" 116) rfl
  obtain ⟨fd61, D61⟩ := c.def_ 61 (d := dd "renaming" 120) rfl
  obtain ⟨fd62, D62⟩ := c.def_ 62 (d := dd "representation" 108) rfl
  obtain ⟨fd63, D63⟩ := c.def_ 63 (d := dd "is_ascending_elements" 32) rfl
  obtain ⟨fd64, D64⟩ := c.def_ 64 (d := dd "restricted" 31) rfl
  obtain ⟨fd65, D65⟩ := c.def_ 65 (d := dd "reversing_extension" 61) rfl
  obtain ⟨fd66, D66⟩ := c.def_ 66 (d := dd "share" 49) rfl
  obtain ⟨fd67, D67⟩ := c.def_ 67 (d := dd "stacked" 35) rfl
  obtain ⟨fd68, D68⟩ := c.def_ 68 (d := dd "symmetries" 121) rfl
  obtain ⟨fd69, D69⟩ := c.def_ 69 (d := dd "unit_obstruction" 113) rfl
  obtain ⟨fd70, D70⟩ := c.def_ 70 (d := dd "unit_representation" 110) rfl
  obtain ⟨fd71, D71⟩ := c.def_ 71 (d := dd "weighted_realizer" 137) rfl
  obtain ⟨fd72, D72⟩ := c.def_ 72 (d := dd "weighting" 138) rfl
  obtain ⟨fd73, D73⟩ := c.def_ 73 (d := dd "width" 97) rfl
  obtain ⟨fd74, D74⟩ := c.def_ 74 (d := dd "_law_call" 152) rfl
  obtain ⟨fd75, D75⟩ := c.def_ 75 (d := dd "_law_name" 147) rfl
  obtain ⟨fd76, D76⟩ := c.def_ 76 (d := dd "_law_outcome" 146) rfl
  obtain ⟨fd77, D77⟩ := c.def_ 77 (d := dd "_law_raises" 148) rfl
  obtain ⟨fd78, D78⟩ := c.def_ 78 (d := dd "_law_town" 143) rfl
  obtain ⟨fd79, D79⟩ := c.def_ 79 (d := dd "_law_wrongs" 154) rfl
  obtain ⟨fd80, D80⟩ := c.def_ 80 (d := dd "law" 155) rfl
  have e := hfa.symm.trans (He.glo_ok X G (c.fact 80 (f := .glo "law") rfl))
  cases e
  have b := FunD.bindsA (ps := ["script"]) D80 fun _ _ _ _ _ _ us hl => match us, hl with | [_], _ => rfl
  refine ⟨fd80, fun s v => b s [v] rfl, fun base => ?_⟩
  let g : GC := ⟨⟨P, w, K, mg⟩, base⟩
  have bf : BF g := ⟨He.free_ok X G (c.fact 81 (f := .free "len") rfl), He.free_ok X G (c.fact 82 (f := .free "all") rfl), He.free_ok X G (c.fact 83 (f := .free "any") rfl), He.free_ok X G (c.fact 84 (f := .free "isinstance") rfl), He.free_ok X G (c.fact 85 (f := .free "int") rfl), He.free_ok X G (c.fact 86 (f := .free "bool") rfl), He.free_ok X G (c.fact 87 (f := .free "tuple") rfl), He.free_ok X G (c.fact 88 (f := .free "str") rfl), He.free_ok X G (c.fact 89 (f := .free "list") rfl), He.free_ok X G (c.fact 90 (f := .free "dict") rfl), He.free_ok X G (c.fact 91 (f := .free "set") rfl), He.free_ok X G (c.fact 92 (f := .free "range") rfl), He.free_ok X G (c.fact 93 (f := .free "sorted") rfl), He.free_ok X G (c.fact 94 (f := .free "sum") rfl), He.free_ok X G (c.fact 95 (f := .free "abs") rfl), He.free_ok X G (c.fact 96 (f := .free "max") rfl), He.free_ok X G (c.fact 97 (f := .free "min") rfl), He.free_ok X G (c.fact 98 (f := .free "enumerate") rfl), He.free_ok X G (c.fact 99 (f := .free "zip") rfl)⟩
  obtain ⟨ef, ve⟩ : EF g ∧ g.mg "ValueError" = none := ef_of X G cx
  have X_InvalidElement : ExF g "InvalidElement" := ⟨_, He.glo_ok X G (c.fact 100 (f := .glo "InvalidElement") rfl), He.exc_ok (c.fact 107 (f := .exc "InvalidElement") rfl)⟩
  have X_InvalidExtension : ExF g "InvalidExtension" := ⟨_, He.glo_ok X G (c.fact 101 (f := .glo "InvalidExtension") rfl), He.exc_ok (c.fact 108 (f := .exc "InvalidExtension") rfl)⟩
  have X_InvalidIndex : ExF g "InvalidIndex" := ⟨_, He.glo_ok X G (c.fact 102 (f := .glo "InvalidIndex") rfl), He.exc_ok (c.fact 109 (f := .exc "InvalidIndex") rfl)⟩
  have X_InvalidNames : ExF g "InvalidNames" := ⟨_, He.glo_ok X G (c.fact 103 (f := .glo "InvalidNames") rfl), He.exc_ok (c.fact 110 (f := .exc "InvalidNames") rfl)⟩
  have X_InvalidNumber : ExF g "InvalidNumber" := ⟨_, He.glo_ok X G (c.fact 104 (f := .glo "InvalidNumber") rfl), He.exc_ok (c.fact 111 (f := .exc "InvalidNumber") rfl)⟩
  have X_InvalidOrder : ExF g "InvalidOrder" := ⟨_, He.glo_ok X G (c.fact 105 (f := .glo "InvalidOrder") rfl), He.exc_ok (c.fact 112 (f := .exc "InvalidOrder") rfl)⟩
  have X_InvalidPairs : ExF g "InvalidPairs" := ⟨_, He.glo_ok X G (c.fact 106 (f := .glo "InvalidPairs") rfl), He.exc_ok (c.fact 113 (f := .exc "InvalidPairs") rfl)⟩
  have c_MOST : ∃ t, g.mg "MOST" = some (.int 8 t) := He.int_ok X G (c.fact 114 (f := .int "MOST" 8) rfl)
  have F__law_bad_orders : FD g "_law_bad_orders" 1 [] fn__law_bad_orders := fd_mk (g := g) D0 S__law_bad_orders (He.glo_ok X G (c.fact 0 (f := .glo "_law_bad_orders") rfl)) (fun _ _ _ _ _ _ us hl => match us, hl with | [], _ => rfl) fun W X ok => d__law_bad_orders bf ok
  have F__law_draw : FT g "_law_draw" 1 ["script", "town", "limit"] fn__law_draw := ft_mk (g := g) D1 S__law_draw (He.glo_ok X G (c.fact 1 (f := .glo "_law_draw") rfl)) (fun _ _ _ _ _ _ us hl => match us, hl with | [_, _, _], _ => rfl) fun W X ok => d__law_draw bf ok
  have F__law_closure : FD g "_law_closure" 1 ["size", "pairs"] fn__law_closure := fd_mk (g := g) D2 S__law_closure (He.glo_ok X G (c.fact 2 (f := .glo "_law_closure") rfl)) (fun _ _ _ _ _ _ us hl => match us, hl with | [_, _], _ => rfl) fun W X ok => d__law_closure bf ok
  have F__law_pick : FT g "_law_pick" 2 ["script", "town", "choices"] fn__law_pick := ft_mk (g := g) D3 S__law_pick (He.glo_ok X G (c.fact 3 (f := .glo "_law_pick") rfl)) (fun _ _ _ _ _ _ us hl => match us, hl with | [_, _, _], _ => rfl) fun W X ok => d__law_pick bf F__law_draw ok
  have F__law_order_of : FT g "_law_order_of" 3 ["script", "town", "size", "way"] fn__law_order_of := ft_mk (g := g) D4 S__law_order_of (He.glo_ok X G (c.fact 4 (f := .glo "_law_order_of") rfl)) (fun _ _ _ _ _ _ us hl => match us, hl with | [_, _, _, _], _ => rfl) fun W X ok => d__law_order_of bf F__law_closure F__law_draw F__law_pick ok
  have F__law_order : FT g "_law_order" 4 ["script", "town", "most"] fn__law_order := ft_mk (g := g) D5 S__law_order (He.glo_ok X G (c.fact 5 (f := .glo "_law_order") rfl)) (fun _ _ _ _ _ _ us hl => match us, hl with | [_, _, _], _ => rfl) fun W X ok => d__law_order bf F__law_draw F__law_order_of ok
  have F_is_ascending : FD g "is_ascending" 1 ["values"] fn_is_ascending := fd_mk (g := g) D6 S_is_ascending (He.glo_ok X G (c.fact 6 (f := .glo "is_ascending") rfl)) (fun _ _ _ _ _ _ us hl => match us, hl with | [_], _ => rfl) fun W X ok => d_is_ascending bf ok
  have F_is_between : FD g "is_between" 1 ["value", "low", "high"] fn_is_between := fd_mk (g := g) D7 S_is_between (He.glo_ok X G (c.fact 7 (f := .glo "is_between") rfl)) (fun _ _ _ _ _ _ us hl => match us, hl with | [_, _, _], _ => rfl) fun W X ok => d_is_between bf ok
  have F_is_closed : FD g "is_closed" 1 ["pairs"] fn_is_closed := fd_mk (g := g) D8 S_is_closed (He.glo_ok X G (c.fact 8 (f := .glo "is_closed") rfl)) (fun _ _ _ _ _ _ us hl => match us, hl with | [_], _ => rfl) fun W X ok => d_is_closed bf ok
  have F_is_pair : FD g "is_pair" 2 ["size", "value"] fn_is_pair := fd_mk (g := g) D9 S_is_pair (He.glo_ok X G (c.fact 9 (f := .glo "is_pair") rfl)) (fun _ _ _ _ _ _ us hl => match us, hl with | [_, _], _ => rfl) fun W X ok => d_is_pair bf F_is_between ok
  have F_is_order : FD g "is_order" 3 ["value"] fn_is_order := fd_mk (g := g) D10 S_is_order (He.glo_ok X G (c.fact 10 (f := .glo "is_order") rfl)) (fun _ _ _ _ _ _ us hl => match us, hl with | [_], _ => rfl) fun W X ok => d_is_order bf F_is_ascending F_is_between F_is_closed F_is_pair c_MOST ok
  have F_check_order : FD g "check_order" 4 ["value"] fn_check_order := fd_mk (g := g) D11 S_check_order (He.glo_ok X G (c.fact 11 (f := .glo "check_order") rfl)) (fun _ _ _ _ _ _ us hl => match us, hl with | [_], _ => rfl) fun W X ok => d_check_order bf F_is_order X_InvalidOrder ok
  have F_is_plain : FD g "is_plain" 1 ["value"] fn_is_plain := fd_mk (g := g) D12 S_is_plain (He.glo_ok X G (c.fact 12 (f := .glo "is_plain") rfl)) (fun _ _ _ _ _ _ us hl => match us, hl with | [_], _ => rfl) fun W X ok => d_is_plain bf ok
  have F_loose_pairs : FD g "loose_pairs" 1 ["order"] fn_loose_pairs := fd_mk (g := g) D13 S_loose_pairs (He.glo_ok X G (c.fact 13 (f := .glo "loose_pairs") rfl)) (fun _ _ _ _ _ _ us hl => match us, hl with | [_], _ => rfl) fun W X ok => d_loose_pairs bf ok
  have F_is_loose : FD g "is_loose" 2 ["order", "value"] fn_is_loose := fd_mk (g := g) D14 S_is_loose (He.glo_ok X G (c.fact 14 (f := .glo "is_loose") rfl)) (fun _ _ _ _ _ _ us hl => match us, hl with | [_, _], _ => rfl) fun W X ok => d_is_loose bf F_is_plain F_loose_pairs ok
  have F_check_pairs : FD g "check_pairs" 3 ["order", "value"] fn_check_pairs := fd_mk (g := g) D15 S_check_pairs (He.glo_ok X G (c.fact 15 (f := .glo "check_pairs") rfl)) (fun _ _ _ _ _ _ us hl => match us, hl with | [_, _], _ => rfl) fun W X ok => d_check_pairs bf F_is_ascending F_is_loose X_InvalidPairs ok
  have F_alternating_cycle : FD g "alternating_cycle" 5 ["order", "pairs"] fn_alternating_cycle := fd_mk (g := g) D16 S_alternating_cycle (He.glo_ok X G (c.fact 16 (f := .glo "alternating_cycle") rfl)) (fun _ _ _ _ _ _ us hl => match us, hl with | [_, _], _ => rfl) fun W X ok => d_alternating_cycle bf F_check_order F_check_pairs ok
  have F_antichain_partition : FD g "antichain_partition" 5 ["order"] fn_antichain_partition := fd_mk (g := g) D17 S_antichain_partition (He.glo_ok X G (c.fact 17 (f := .glo "antichain_partition") rfl)) (fun _ _ _ _ _ _ us hl => match us, hl with | [_], _ => rfl) fun W X ok => d_antichain_partition bf F_check_order ok
  have F_balanced_pair : FD g "balanced_pair" 5 ["order"] fn_balanced_pair := fd_mk (g := g) D18 S_balanced_pair (He.glo_ok X G (c.fact 18 (f := .glo "balanced_pair") rfl)) (fun _ _ _ _ _ _ us hl => match us, hl with | [_], _ => rfl) fun W X ok => d_balanced_pair bf F_check_order ok
  have F_both : FD g "both" 5 ["one", "other", "more"] fn_both := fd_mk (g := g) D19 S_both (He.glo_ok X G (c.fact 19 (f := .glo "both") rfl)) (fun _ _ _ _ _ _ us hl => match us, hl with | [_, _, _], _ => rfl) fun W X ok => d_both bf F_check_order ok
  have F_beside : FD g "beside" 6 ["one", "other"] fn_beside := fd_mk (g := g) D20 S_beside (He.glo_ok X G (c.fact 20 (f := .glo "beside") rfl)) (fun _ _ _ _ _ _ us hl => match us, hl with | [_, _], _ => rfl) fun W X ok => d_beside bf F_both ok
  have F_chain_partition : FD g "chain_partition" 5 ["order"] fn_chain_partition := fd_mk (g := g) D21 S_chain_partition (He.glo_ok X G (c.fact 21 (f := .glo "chain_partition") rfl)) (fun _ _ _ _ _ _ us hl => match us, hl with | [_], _ => rfl) fun W X ok => d_chain_partition bf F_check_order ok
  have F_closure : FD g "closure" 1 ["size", "pairs"] fn_closure := fd_mk (g := g) D22 S_closure (He.glo_ok X G (c.fact 22 (f := .glo "closure") rfl)) (fun _ _ _ _ _ _ us hl => match us, hl with | [_, _], _ => rfl) fun W X ok => d_closure bf ok
  have F_closed : FD g "closed" 3 ["size", "some"] fn_closed := fd_mk (g := g) D23 S_closed (He.glo_ok X G (c.fact 23 (f := .glo "closed") rfl)) (fun _ _ _ _ _ _ us hl => match us, hl with | [_, _], _ => rfl) fun W X ok => d_closed bf F_closure F_is_between F_is_pair X_InvalidOrder c_MOST ok
  have F_conjugate : FD g "conjugate" 5 ["order"] fn_conjugate := fd_mk (g := g) D24 S_conjugate (He.glo_ok X G (c.fact 24 (f := .glo "conjugate") rfl)) (fun _ _ _ _ _ _ us hl => match us, hl with | [_], _ => rfl) fun W X ok => d_conjugate bf F_check_order ok
  have F_count_extensions : FD g "count_extensions" 5 ["order"] fn_count_extensions := fd_mk (g := g) D25 S_count_extensions (He.glo_ok X G (c.fact 25 (f := .glo "count_extensions") rfl)) (fun _ _ _ _ _ _ us hl => match us, hl with | [_], _ => rfl) fun W X ok => d_count_extensions bf F_check_order ok
  have F_covers : FD g "covers" 5 ["order"] fn_covers := fd_mk (g := g) D26 S_covers (He.glo_ok X G (c.fact 26 (f := .glo "covers") rfl)) (fun _ _ _ _ _ _ us hl => match us, hl with | [_], _ => rfl) fun W X ok => d_covers bf F_check_order ok
  have F_critical_pairs : FD g "critical_pairs" 5 ["order"] fn_critical_pairs := fd_mk (g := g) D27 S_critical_pairs (He.glo_ok X G (c.fact 27 (f := .glo "critical_pairs") rfl)) (fun _ _ _ _ _ _ us hl => match us, hl with | [_], _ => rfl) fun W X ok => d_critical_pairs bf F_check_order ok
  have F_dimension : FD g "dimension" 5 ["order"] fn_dimension := fd_mk (g := g) D28 S_dimension (He.glo_ok X G (c.fact 28 (f := .glo "dimension") rfl)) (fun _ _ _ _ _ _ us hl => match us, hl with | [_], _ => rfl) fun W X ok => d_dimension bf F_check_order ok
  have F_dual : FD g "dual" 5 ["order"] fn_dual := fd_mk (g := g) D29 S_dual (He.glo_ok X G (c.fact 29 (f := .glo "dual") rfl)) (fun _ _ _ _ _ _ us hl => match us, hl with | [_], _ => rfl) fun W X ok => d_dual bf F_check_order ok
  have F_bit : FD g "bit" 1 ["element"] fn_bit := fd_mk (g := g) D30 S_bit (He.glo_ok X G (c.fact 30 (f := .glo "bit") rfl)) (fun _ _ _ _ _ _ us hl => match us, hl with | [_], _ => rfl) fun W X ok => d_bit bf ok
  have F_free_elements : FD g "free_elements" 2 ["below", "placed"] fn_free_elements := fd_mk (g := g) D31 S_free_elements (He.glo_ok X G (c.fact 31 (f := .glo "free_elements") rfl)) (fun _ _ _ _ _ _ us hl => match us, hl with | [_, _], _ => rfl) fun W X ok => d_free_elements bf F_bit ok
  have F_masks_below : FD g "masks_below" 2 ["order"] fn_masks_below := fd_mk (g := g) D32 S_masks_below (He.glo_ok X G (c.fact 32 (f := .glo "masks_below") rfl)) (fun _ _ _ _ _ _ us hl => match us, hl with | [_], _ => rfl) fun W X ok => d_masks_below bf F_bit ok
  have F_endings : FD g "endings" 3 ["order"] fn_endings := fd_mk (g := g) D33 S_endings (He.glo_ok X G (c.fact 33 (f := .glo "endings") rfl)) (fun _ _ _ _ _ _ us hl => match us, hl with | [_], _ => rfl) fun W X ok => d_endings bf F_bit F_free_elements F_masks_below ok
  have F_extension_at : FD g "extension_at" 5 ["order", "index"] fn_extension_at := fd_mk (g := g) D34 S_extension_at (He.glo_ok X G (c.fact 34 (f := .glo "extension_at") rfl)) (fun _ _ _ _ _ _ us hl => match us, hl with | [_, _], _ => rfl) fun W X ok => d_extension_at bf F_check_order F_endings F_is_between X_InvalidIndex ok
  have F_forcing_chain : FD g "forcing_chain" 5 ["order"] fn_forcing_chain := fd_mk (g := g) D35 S_forcing_chain (He.glo_ok X G (c.fact 35 (f := .glo "forcing_chain") rfl)) (fun _ _ _ _ _ _ us hl => match us, hl with | [_], _ => rfl) fun W X ok => d_forcing_chain bf F_check_order ok
  have F_format_order : FD g "format_order" 5 ["order"] fn_format_order := fd_mk (g := g) D36 S_format_order (He.glo_ok X G (c.fact 36 (f := .glo "format_order") rfl)) (fun _ _ _ _ _ _ us hl => match us, hl with | [_], _ => rfl) fun W X ok => d_format_order bf F_check_order ok
  have F_fractional_dimension : FD g "fractional_dimension" 5 ["order"] fn_fractional_dimension := fd_mk (g := g) D37 S_fractional_dimension (He.glo_ok X G (c.fact 37 (f := .glo "fractional_dimension") rfl)) (fun _ _ _ _ _ _ us hl => match us, hl with | [_], _ => rfl) fun W X ok => d_fractional_dimension bf F_check_order ok
  have F_height : FD g "height" 5 ["order"] fn_height := fd_mk (g := g) D38 S_height (He.glo_ok X G (c.fact 38 (f := .glo "height") rfl)) (fun _ _ _ _ _ _ us hl => match us, hl with | [_], _ => rfl) fun W X ok => d_height bf F_check_order ok
  have F_incomparable : FD g "incomparable" 5 ["order"] fn_incomparable := fd_mk (g := g) D39 S_incomparable (He.glo_ok X G (c.fact 39 (f := .glo "incomparable") rfl)) (fun _ _ _ _ _ _ us hl => match us, hl with | [_], _ => rfl) fun W X ok => d_incomparable bf F_check_order ok
  have F_is_listed : FD g "is_listed" 2 ["order", "value"] fn_is_listed := fd_mk (g := g) D40 S_is_listed (He.glo_ok X G (c.fact 40 (f := .glo "is_listed") rfl)) (fun _ _ _ _ _ _ us hl => match us, hl with | [_, _], _ => rfl) fun W X ok => d_is_listed bf F_is_between ok
  have F_check_extension : FD g "check_extension" 3 ["order", "value"] fn_check_extension := fd_mk (g := g) D41 S_check_extension (He.glo_ok X G (c.fact 41 (f := .glo "check_extension") rfl)) (fun _ _ _ _ _ _ us hl => match us, hl with | [_, _], _ => rfl) fun W X ok => d_check_extension bf F_is_listed X_InvalidExtension ok
  have F_index_of : FD g "index_of" 5 ["order", "extension"] fn_index_of := fd_mk (g := g) D42 S_index_of (He.glo_ok X G (c.fact 42 (f := .glo "index_of") rfl)) (fun _ _ _ _ _ _ us hl => match us, hl with | [_, _], _ => rfl) fun W X ok => d_index_of bf F_check_extension F_check_order ok
  have F_is_alternating_cycle : FD g "is_alternating_cycle" 5 ["order", "value"] fn_is_alternating_cycle := fd_mk (g := g) D43 S_is_alternating_cycle (He.glo_ok X G (c.fact 43 (f := .glo "is_alternating_cycle") rfl)) (fun _ _ _ _ _ _ us hl => match us, hl with | [_, _], _ => rfl) fun W X ok => d_is_alternating_cycle bf F_check_order ok
  have F_is_extension : FD g "is_extension" 5 ["order", "value"] fn_is_extension := fd_mk (g := g) D44 S_is_extension (He.glo_ok X G (c.fact 44 (f := .glo "is_extension") rfl)) (fun _ _ _ _ _ _ us hl => match us, hl with | [_, _], _ => rfl) fun W X ok => d_is_extension bf F_check_order ok
  have F_is_forcing_chain : FD g "is_forcing_chain" 5 ["order", "value"] fn_is_forcing_chain := fd_mk (g := g) D45 S_is_forcing_chain (He.glo_ok X G (c.fact 45 (f := .glo "is_forcing_chain") rfl)) (fun _ _ _ _ _ _ us hl => match us, hl with | [_, _], _ => rfl) fun W X ok => d_is_forcing_chain bf F_check_order ok
  have F_is_partition : FD g "is_partition" 5 ["order", "value"] fn_is_partition := fd_mk (g := g) D46 S_is_partition (He.glo_ok X G (c.fact 46 (f := .glo "is_partition") rfl)) (fun _ _ _ _ _ _ us hl => match us, hl with | [_, _], _ => rfl) fun W X ok => d_is_partition bf F_check_order ok
  have F_is_realizer : FD g "is_realizer" 5 ["order", "value"] fn_is_realizer := fd_mk (g := g) D47 S_is_realizer (He.glo_ok X G (c.fact 47 (f := .glo "is_realizer") rfl)) (fun _ _ _ _ _ _ us hl => match us, hl with | [_, _], _ => rfl) fun W X ok => d_is_realizer bf F_check_order ok
  have F_check_number : FD g "check_number" 2 ["t"] fn_check_number := fd_mk (g := g) D48 S_check_number (He.glo_ok X G (c.fact 48 (f := .glo "check_number") rfl)) (fun _ _ _ _ _ _ us hl => match us, hl with | [_], _ => rfl) fun W X ok => d_check_number bf F_is_between X_InvalidNumber ok
  have F_is_refutation : FD g "is_refutation" 5 ["order", "t", "value"] fn_is_refutation := fd_mk (g := g) D49 S_is_refutation (He.glo_ok X G (c.fact 49 (f := .glo "is_refutation") rfl)) (fun _ _ _ _ _ _ us hl => match us, hl with | [_, _, _], _ => rfl) fun W X ok => d_is_refutation bf F_check_number F_check_order ok
  have F_is_weighted_realizer : FD g "is_weighted_realizer" 5 ["order", "value"] fn_is_weighted_realizer := fd_mk (g := g) D50 S_is_weighted_realizer (He.glo_ok X G (c.fact 50 (f := .glo "is_weighted_realizer") rfl)) (fun _ _ _ _ _ _ us hl => match us, hl with | [_, _], _ => rfl) fun W X ok => d_is_weighted_realizer bf F_check_order ok
  have F_is_weighting : FD g "is_weighting" 5 ["order", "value"] fn_is_weighting := fd_mk (g := g) D51 S_is_weighting (He.glo_ok X G (c.fact 51 (f := .glo "is_weighting") rfl)) (fun _ _ _ _ _ _ us hl => match us, hl with | [_, _], _ => rfl) fun W X ok => d_is_weighting bf F_check_order ok
  have F_largest_antichain : FD g "largest_antichain" 5 ["order"] fn_largest_antichain := fd_mk (g := g) D52 S_largest_antichain (He.glo_ok X G (c.fact 52 (f := .glo "largest_antichain") rfl)) (fun _ _ _ _ _ _ us hl => match us, hl with | [_], _ => rfl) fun W X ok => d_largest_antichain bf F_check_order ok
  have F_largest_chain : FD g "largest_chain" 5 ["order"] fn_largest_chain := fd_mk (g := g) D53 S_largest_chain (He.glo_ok X G (c.fact 53 (f := .glo "largest_chain") rfl)) (fun _ _ _ _ _ _ us hl => match us, hl with | [_], _ => rfl) fun W X ok => d_largest_chain bf F_check_order ok
  have F_least_form : FD g "least_form" 5 ["order"] fn_least_form := fd_mk (g := g) D54 S_least_form (He.glo_ok X G (c.fact 54 (f := .glo "least_form") rfl)) (fun _ _ _ _ _ _ us hl => match us, hl with | [_], _ => rfl) fun W X ok => d_least_form bf F_check_order ok
  have F_needed_elements : FD g "needed_elements" 5 ["order"] fn_needed_elements := fd_mk (g := g) D55 S_needed_elements (He.glo_ok X G (c.fact 55 (f := .glo "needed_elements") rfl)) (fun _ _ _ _ _ _ us hl => match us, hl with | [_], _ => rfl) fun W X ok => d_needed_elements bf F_check_order ok
  have F_obstruction : FD g "obstruction" 5 ["order"] fn_obstruction := fd_mk (g := g) D56 S_obstruction (He.glo_ok X G (c.fact 56 (f := .glo "obstruction") rfl)) (fun _ _ _ _ _ _ us hl => match us, hl with | [_], _ => rfl) fun W X ok => d_obstruction bf F_check_order ok
  have F_points : FD g "points" 5 ["order"] fn_points := fd_mk (g := g) D57 S_points (He.glo_ok X G (c.fact 57 (f := .glo "points") rfl)) (fun _ _ _ _ _ _ us hl => match us, hl with | [_], _ => rfl) fun W X ok => d_points bf F_check_order ok
  have F_realizer : FD g "realizer" 5 ["order", "t"] fn_realizer := fd_mk (g := g) D58 S_realizer (He.glo_ok X G (c.fact 58 (f := .glo "realizer") rfl)) (fun _ _ _ _ _ _ us hl => match us, hl with | [_, _], _ => rfl) fun W X ok => d_realizer bf F_check_number F_check_order ok
  have F_refutation : FD g "refutation" 5 ["order", "t"] fn_refutation := fd_mk (g := g) D59 S_refutation (He.glo_ok X G (c.fact 59 (f := .glo "refutation") rfl)) (fun _ _ _ _ _ _ us hl => match us, hl with | [_, _], _ => rfl) fun W X ok => d_refutation bf F_check_number F_check_order ok
  have F_renamed : FD g "renamed" 5 ["order", "names"] fn_renamed := fd_mk (g := g) D60 S_renamed (He.glo_ok X G (c.fact 60 (f := .glo "renamed") rfl)) (fun _ _ _ _ _ _ us hl => match us, hl with | [_, _], _ => rfl) fun W X ok => d_renamed bf F_check_order F_is_between X_InvalidNames ok
  have F_renaming : FD g "renaming" 5 ["one", "other"] fn_renaming := fd_mk (g := g) D61 S_renaming (He.glo_ok X G (c.fact 61 (f := .glo "renaming") rfl)) (fun _ _ _ _ _ _ us hl => match us, hl with | [_, _], _ => rfl) fun W X ok => d_renaming bf F_check_order ok
  have F_representation : FD g "representation" 5 ["order"] fn_representation := fd_mk (g := g) D62 S_representation (He.glo_ok X G (c.fact 62 (f := .glo "representation") rfl)) (fun _ _ _ _ _ _ us hl => match us, hl with | [_], _ => rfl) fun W X ok => d_representation bf F_check_order ok
  have F_is_ascending_elements : FD g "is_ascending_elements" 2 ["order", "members"] fn_is_ascending_elements := fd_mk (g := g) D63 S_is_ascending_elements (He.glo_ok X G (c.fact 63 (f := .glo "is_ascending_elements") rfl)) (fun _ _ _ _ _ _ us hl => match us, hl with | [_, _], _ => rfl) fun W X ok => d_is_ascending_elements bf F_is_ascending F_is_between ok
  have F_restricted : FD g "restricted" 5 ["order", "members"] fn_restricted := fd_mk (g := g) D64 S_restricted (He.glo_ok X G (c.fact 64 (f := .glo "restricted") rfl)) (fun _ _ _ _ _ _ us hl => match us, hl with | [_, _], _ => rfl) fun W X ok => d_restricted bf F_check_order F_is_ascending_elements X_InvalidElement ok
  have F_reversing_extension : FD g "reversing_extension" 5 ["order", "pairs"] fn_reversing_extension := fd_mk (g := g) D65 S_reversing_extension (He.glo_ok X G (c.fact 65 (f := .glo "reversing_extension") rfl)) (fun _ _ _ _ _ _ us hl => match us, hl with | [_, _], _ => rfl) fun W X ok => d_reversing_extension bf F_check_order F_check_pairs ok
  have F_share : FD g "share" 5 ["order", "first", "second"] fn_share := fd_mk (g := g) D66 S_share (He.glo_ok X G (c.fact 66 (f := .glo "share") rfl)) (fun _ _ _ _ _ _ us hl => match us, hl with | [_, _, _], _ => rfl) fun W X ok => d_share bf F_check_order F_is_between X_InvalidElement ok
  have F_stacked : FD g "stacked" 6 ["one", "other"] fn_stacked := fd_mk (g := g) D67 S_stacked (He.glo_ok X G (c.fact 67 (f := .glo "stacked") rfl)) (fun _ _ _ _ _ _ us hl => match us, hl with | [_, _], _ => rfl) fun W X ok => d_stacked bf F_both ok
  have F_symmetries : FD g "symmetries" 5 ["order"] fn_symmetries := fd_mk (g := g) D68 S_symmetries (He.glo_ok X G (c.fact 68 (f := .glo "symmetries") rfl)) (fun _ _ _ _ _ _ us hl => match us, hl with | [_], _ => rfl) fun W X ok => d_symmetries bf F_check_order ok
  have F_unit_obstruction : FD g "unit_obstruction" 5 ["order"] fn_unit_obstruction := fd_mk (g := g) D69 S_unit_obstruction (He.glo_ok X G (c.fact 69 (f := .glo "unit_obstruction") rfl)) (fun _ _ _ _ _ _ us hl => match us, hl with | [_], _ => rfl) fun W X ok => d_unit_obstruction bf F_check_order ok
  have F_unit_representation : FD g "unit_representation" 5 ["order"] fn_unit_representation := fd_mk (g := g) D70 S_unit_representation (He.glo_ok X G (c.fact 70 (f := .glo "unit_representation") rfl)) (fun _ _ _ _ _ _ us hl => match us, hl with | [_], _ => rfl) fun W X ok => d_unit_representation bf F_check_order ok
  have F_weighted_realizer : FD g "weighted_realizer" 5 ["order"] fn_weighted_realizer := fd_mk (g := g) D71 S_weighted_realizer (He.glo_ok X G (c.fact 71 (f := .glo "weighted_realizer") rfl)) (fun _ _ _ _ _ _ us hl => match us, hl with | [_], _ => rfl) fun W X ok => d_weighted_realizer bf F_check_order ok
  have F_weighting : FD g "weighting" 5 ["order"] fn_weighting := fd_mk (g := g) D72 S_weighting (He.glo_ok X G (c.fact 72 (f := .glo "weighting") rfl)) (fun _ _ _ _ _ _ us hl => match us, hl with | [_], _ => rfl) fun W X ok => d_weighting bf F_check_order ok
  have F_width : FD g "width" 5 ["order"] fn_width := fd_mk (g := g) D73 S_width (He.glo_ok X G (c.fact 73 (f := .glo "width") rfl)) (fun _ _ _ _ _ _ us hl => match us, hl with | [_], _ => rfl) fun W X ok => d_width bf F_check_order ok
  have F__law_call : FD g "_law_call" 7 ["way", "arguments"] fn__law_call := fd_mk (g := g) D74 S__law_call (He.glo_ok X G (c.fact 74 (f := .glo "_law_call") rfl)) (fun _ _ _ _ _ _ us hl => match us, hl with | [_, _], _ => rfl) fun W X ok => d__law_call bf F_alternating_cycle F_antichain_partition F_balanced_pair F_beside F_chain_partition F_closed F_conjugate F_count_extensions F_covers F_critical_pairs F_dimension F_dual F_extension_at F_forcing_chain F_format_order F_fractional_dimension F_height F_incomparable F_index_of F_is_alternating_cycle F_is_extension F_is_forcing_chain F_is_partition F_is_realizer F_is_refutation F_is_weighted_realizer F_is_weighting F_largest_antichain F_largest_chain F_least_form F_needed_elements F_obstruction F_points F_realizer F_refutation F_renamed F_renaming F_representation F_restricted F_reversing_extension F_share F_stacked F_symmetries F_unit_obstruction F_unit_representation F_weighted_realizer F_weighting F_width ok
  have F__law_name : FD g "_law_name" 1 ["caught"] fn__law_name := fd_mk (g := g) D75 S__law_name (He.glo_ok X G (c.fact 75 (f := .glo "_law_name") rfl)) (fun _ _ _ _ _ _ us hl => match us, hl with | [_], _ => rfl) fun W X ok => d__law_name bf ef ve ok
  have F__law_outcome : FD g "_law_outcome" 8 ["way", "arguments"] fn__law_outcome := fd_mkT (g := g) D76 S__law_outcome (He.glo_ok X G (c.fact 76 (f := .glo "_law_outcome") rfl)) (fun _ _ _ _ _ _ us hl => match us, hl with | [_, _], _ => rfl) fun W X ok hs hf => d__law_outcome bf F__law_call F__law_name ef ve ok hs hf
  have F__law_raises : FD g "_law_raises" 1 ["name"] fn__law_raises := fd_mk (g := g) D77 S__law_raises (He.glo_ok X G (c.fact 77 (f := .glo "_law_raises") rfl)) (fun _ _ _ _ _ _ us hl => match us, hl with | [_], _ => rfl) fun W X ok => d__law_raises bf ok
  have F__law_town : FL g "_law_town" 1 ["script"] fn__law_town := fl_mk (g := g) D78 S__law_town (He.glo_ok X G (c.fact 78 (f := .glo "_law_town") rfl)) (fun _ _ _ _ _ _ us hl => match us, hl with | [_], _ => rfl) (e := retE (top 143)) (pos := retP (top 143)) rfl fun W X ok => d__law_town bf ok
  have F__law_wrongs : FD g "_law_wrongs" 1 [] fn__law_wrongs := fd_mk (g := g) D79 S__law_wrongs (He.glo_ok X G (c.fact 79 (f := .glo "_law_wrongs") rfl)) (fun _ _ _ _ _ _ us hl => match us, hl with | [], _ => rfl) fun W X ok => d__law_wrongs bf ok
  exact fd_ok (g := g) D80 S_law fun W X ok => d_law bf F__law_bad_orders F__law_order F__law_outcome F__law_pick F__law_raises F__law_town F__law_wrongs F_is_order ok
end LW
open PySem PySem.W PySem.Calls PyProof.Rows
theorem PySem.Challenge.cw_orderdims_k01_order_ends_holds : PySem.Challenge.rw_orderdims_k01_order_ends.Holds := by
  w_on; o_law
  refine HandSHeadRun.head_any (r := OpenLaw.row PySem.Challenge.rw_orderdims_k01_order_ends) (q := view (OpenLaw.row PySem.Challenge.rw_orderdims_k01_order_ends).prog [155]) (H := LW.hk) (ob := LW.ob) (M := 9000) (loose := LW.looseL) (d := HandSHeadRun.topDef (OpenLaw.row PySem.Challenge.rw_orderdims_k01_order_ends).prog 155) (kwd := []) LW.ob_eq
    (by kernel_rfl) (fun s => by kernel_rfl) LW.run (by kernel_rfl) (by kernel_rfl) (by kernel_rfl) (by rfl) (by first | assumption | decide +kernel) (by decide +kernel) ⟨rfl, rfl, rfl, rfl, rfl, by decide +kernel⟩ ?hw ?hc
  case hw => w_witness2
  case hc =>
    refine DX.walk_dx (l := PySem.Challenge.rw_orderdims_k01_order_ends) (n := 63) (k := 9) (x := "script") (fn := LW.fn_law) rfl (by decide) (by kernel_rfl) ⟨rfl, by decide, by decide⟩ LW.law_true ?F
    intro w mg fa h Y G hmg0
    obtain ⟨K, KX, c, cx⟩ := Y
    have hmg : mg ("law" : PySem.Str) = some (.ref fa) := by
      have e : (HandSHeadRun.topDef (OpenLaw.row PySem.Challenge.rw_orderdims_k01_order_ends).prog 155).name = ("law" : PySem.Str) := by kernel_rfl
      rw [← e]
      exact hmg0
    obtain ⟨fd, hb, hF⟩ := LW.facts (P := (PySem.Challenge.rw_orderdims_k01_order_ends).prog) (w := w) KX G hmg c cx
    exact ⟨K, fd, KX, hb, hF⟩

