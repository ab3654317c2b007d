import PyProof.Rows.All
import Wide.All
import OpenK.AllK
import Wide.FinOn
import KE.KStateDown
import HandS.ForMost
import HandS.Wide
import HandS.WideBits
import HandS.IsInst
import HandS.TupAny
import HandS.Style
import HandS.TupLe
import HandS.Defaults
import HandS.More
import HandS.WordsExc
import HandS.Head0
import HandS.Head1
import HandS.Head2
import HandS.HeadEnd
import HandS.HeadHook1
import HandS.HeadHook2
import HandS.TupMul
import HandS.Deep
import HandS.Iter
import HandS.SortRule
import HandS.SortInts
import HandS.Zip
import PySem.Challenge.RW_firstmet_k02_texts_of_numbers
set_option Elab.async false
set_option linter.all false
set_option maxRecDepth 100000
set_option maxHeartbeats 4000000
/-! Ev1: plain data, what stands for it in the abstract heap. -/
namespace FM
open PySem PySem.Spec PyProof.Rows L2

/-- plain data; cell k: the k-th mutable dict -/
inductive D where
  | non | bl (b : Bool) | int (i : Int) | str (s : Str) | tup (ds : List D) | lst (ds : List D) | cell (k : Nat)
  deriving Inhabited

abbrev Cell := List (Key × D)
abbrev Cells := List Cell

/-! ### what represents data -/
def TupAt (K : PySem.W.Frag) (Z : Addr → Prop) (H : Hp) (a : Addr) (xs : List V) : Prop :=
  (Rd H a (.tup xs) ∧ ¬ Z a) ∨
    ∃ (o : Obj) (its : Array Value) (n : Nat), K.lookup a = some o ∧ o.cls = .type "tuple" ∧ o.data = .seq its n ∧ its.size ≤ sizeLine ∧ Vals xs its.toList
def LstAt (K : PySem.W.Frag) (Z : Addr → Prop) (H : Hp) (a : Addr) (xs : List V) : Prop :=
  (Rd H a (.lst xs) ∧ ¬ Z a) ∨
    ∃ (o : Obj) (its : Array Value) (n : Nat), K.lookup a = some o ∧ o.cls = .type "list" ∧ o.dict = none ∧ o.data = .seq its n ∧ its.size ≤ sizeLine ∧ Vals xs its.toList
theorem TupAt.sq {K : PySem.W.Frag} {Z : Addr → Prop} {H : Hp} {a : Addr} {xs : List V} (h : TupAt K Z H a xs) : SqT K H a xs := by
  rcases h with ⟨h, _⟩ | h
  · exact .inl h
  · exact .inr h
theorem LstAt.sq {K : PySem.W.Frag} {Z : Addr → Prop} {H : Hp} {a : Addr} {xs : List V} (h : LstAt K Z H a xs) : SqL K H a xs := by
  rcases h with ⟨h, _⟩ | h
  · exact .inl h
  · exact .inr h

mutual
inductive Rep (K : PySem.W.Frag) (Z : Addr → Prop) (ads : List Addr) (H : Hp) : V → D → Prop
  | non : Rep K Z ads H .non .non
  | bl (b : Bool) : Rep K Z ads H (.bl b) (.bl b)
  | int (i : Int) : Rep K Z ads H (.int i) (.int i)
  | str (x : Str) : Rep K Z ads H (.str x) (.str x)
  | tup {a : Addr} {xs : List V} {ds : List D} : TupAt K Z H a xs → RepL K Z ads H xs ds → Rep K Z ads H (.ref a) (.tup ds)
  | lst {a : Addr} {xs : List V} {ds : List D} : LstAt K Z H a xs → RepL K Z ads H xs ds → Rep K Z ads H (.ref a) (.lst ds)
  | cell {a : Addr} {k : Nat} : ads[k]? = some a → Rep K Z ads H (.ref a) (.cell k)
inductive RepL (K : PySem.W.Frag) (Z : Addr → Prop) (ads : List Addr) (H : Hp) : List V → List D → Prop
  | nil : RepL K Z ads H [] []
  | cons {v : V} {d : D} {vs : List V} {ds : List D} : Rep K Z ads H v d → RepL K Z ads H vs ds → RepL K Z ads H (v :: vs) (d :: ds)
end

section
variable {K : PySem.W.Frag} {Z Z' : Addr → Prop} {ads ads' : List Addr} {H H' : Hp}

/-- what lets a representation stand -/
structure Stay (Z Z' : Addr → Prop) (ads ads' : List Addr) (H H' : Hp) : Prop where
  keep : ∀ b o, H b = some o → ¬ Z b → H' b = some o
  free : ∀ b o, H b = some o → ¬ Z b → ¬ Z' b
  pre : ∀ (k : Nat) (a : Addr), ads[k]? = some a → ads'[k]? = some a

theorem Rd.keep {a : Addr} {u : HO} (s : Stay Z Z' ads ads' H H') (h : Rd H a u ∧ ¬ Z a) : Rd H' a u ∧ ¬ Z' a := by
  obtain ⟨h, z⟩ := h
  rcases h with h | ⟨o, h⟩
  · exact ⟨.inl (s.keep _ _ h z), s.free _ _ h z⟩
  · exact ⟨.inr ⟨o, s.keep _ _ h z⟩, s.free _ _ h z⟩
theorem TupAt.stay {a : Addr} {xs : List V} (s : Stay Z Z' ads ads' H H') (h : TupAt K Z H a xs) : TupAt K Z' H' a xs := by
  rcases h with h | h
  · exact .inl (Rd.keep s h)
  · exact .inr h
theorem LstAt.stay {a : Addr} {xs : List V} (s : Stay Z Z' ads ads' H H') (h : LstAt K Z H a xs) : LstAt K Z' H' a xs := by
  rcases h with h | h
  · exact .inl (Rd.keep s h)
  · exact .inr h
mutual
theorem Rep.stay (s : Stay Z Z' ads ads' H H') : ∀ (d : D) (v : V), Rep K Z ads H v d → Rep K Z' ads' H' v d
  | .non, _, h => by cases h; exact .non
  | .bl b, _, h => by cases h; exact .bl b
  | .int i, _, h => by cases h; exact .int i
  | .str x, _, h => by cases h; exact .str x
  | .tup ds, _, h => by
    cases h with
    | tup h1 h2 => exact .tup (h1.stay s) (RepL.stay s ds _ h2)
  | .lst ds, _, h => by
    cases h with
    | lst h1 h2 => exact .lst (h1.stay s) (RepL.stay s ds _ h2)
  | .cell k, _, h => by
    cases h with
    | cell h1 => exact .cell (s.pre _ _ h1)
theorem RepL.stay (s : Stay Z Z' ads ads' H H') : ∀ (ds : List D) (vs : List V), RepL K Z ads H vs ds → RepL K Z' ads' H' vs ds
  | [], _, h => by cases h; exact .nil
  | d :: ds, _, h => by
    cases h with
    | cons h1 h2 => exact .cons (Rep.stay s d _ h1) (RepL.stay s ds _ h2)
end
theorem RepL.length : ∀ {vs : List V} {ds : List D}, RepL K Z ads H vs ds → vs.length = ds.length
  | _, [], h => by cases h; rfl
  | _, d :: ds, h => by
    cases h with
    | cons h1 h2 => rw [List.length_cons, List.length_cons, h2.length]
theorem RepL.get : ∀ {vs : List V} {ds : List D} {i : Nat} {d : D}, RepL K Z ads H vs ds → ds[i]? = some d → ∃ v, vs[i]? = some v ∧ Rep K Z ads H v d
  | _, [], _, _, _, e => by simp at e
  | _, x :: ds, 0, d, h, e => by
    cases h with
    | cons h1 h2 => simp at e; subst e; exact ⟨_, rfl, h1⟩
  | _, x :: ds, i + 1, d, h, e => by
    cases h with
    | cons h1 h2 =>
      obtain ⟨v, e1, r⟩ := h2.get (i := i) (d := d) (by simpa using e)
      exact ⟨v, by simpa using e1, r⟩
theorem RepL.getV : ∀ {vs : List V} {ds : List D} {i : Nat} {v : V}, RepL K Z ads H vs ds → vs[i]? = some v → ∃ d, ds[i]? = some d ∧ Rep K Z ads H v d := fun {vs ds i v} h e => by
  have hl := h.length
  have hi : i < ds.length := by
    have := (List.getElem?_eq_some_iff.mp e).1
    omega
  obtain ⟨w, e2, r⟩ := h.get (i := i) (d := ds[i]) (by simp [hi])
  rw [e] at e2; cases e2
  exact ⟨_, by simp [hi], r⟩
theorem RepL.append : ∀ {vs ws : List V} {ds es : List D}, RepL K Z ads H vs ds → RepL K Z ads H ws es → RepL K Z ads H (vs ++ ws) (ds ++ es)
  | _, _, [], _, h, k => by cases h; exact k
  | _, _, d :: ds, _, h, k => by
    cases h with
    | cons h1 h2 => exact .cons h1 (h2.append k)
theorem RepL.take : ∀ {vs : List V} {ds : List D} (n : Nat), RepL K Z ads H vs ds → RepL K Z ads H (vs.take n) (ds.take n)
  | _, _, 0, _ => .nil
  | _, [], n + 1, h => by cases h; exact .nil
  | _, d :: ds, n + 1, h => by
    cases h with
    | cons h1 h2 => exact .cons h1 (h2.take n)
theorem RepL.drop : ∀ {vs : List V} {ds : List D} (n : Nat), RepL K Z ads H vs ds → RepL K Z ads H (vs.drop n) (ds.drop n)
  | _, _, 0, h => h
  | _, [], n + 1, h => by cases h; exact .nil
  | _, d :: ds, n + 1, h => by
    cases h with
    | cons h1 h2 => exact h2.drop n
theorem RepL.ofInts : ∀ (ns : List Int), RepL K Z ads H (ns.map V.int) (ns.map D.int)
  | [] => .nil
  | n :: ns => .cons (.int n) (RepL.ofInts ns)
theorem RepL.ints : ∀ {vs : List V} {ns : List Int}, RepL K Z ads H vs (ns.map D.int) → vs = ns.map V.int
  | _, [], h => by cases h; rfl
  | _, n :: ns, h => by
    cases h with
    | cons h1 h2 => cases h1; rw [List.map_cons, h2.ints]
theorem RepL.bls : ∀ {vs : List V} {ns : List Bool}, RepL K Z ads H vs (ns.map D.bl) → vs = ns.map V.bl
  | _, [], h => by cases h; rfl
  | _, n :: ns, h => by
    cases h with
    | cons h1 h2 => cases h1; rw [List.map_cons, h2.bls]
theorem RepL.strs : ∀ {vs : List V} {ns : List Str}, RepL K Z ads H vs (ns.map D.str) → vs = ns.map V.str
  | _, [], h => by cases h; rfl
  | _, n :: ns, h => by
    cases h with
    | cons h1 h2 => cases h1; rw [List.map_cons, h2.strs]
theorem RepL.one {d : D} {vs : List V} (h : RepL K Z ads H vs [d]) : ∃ v, vs = [v] ∧ Rep K Z ads H v d := by
  cases h with
  | cons h1 h2 => cases h2; exact ⟨_, rfl, h1⟩
theorem RepL.two {d e : D} {vs : List V} (h : RepL K Z ads H vs [d, e]) : ∃ v w, vs = [v, w] ∧ Rep K Z ads H v d ∧ Rep K Z ads H w e := by
  cases h with
  | cons h1 h2 => obtain ⟨w, rfl, h3⟩ := h2.one; exact ⟨_, _, rfl, h1, h3⟩
end

/-! ### the cells -/
/-- keys alike, values represented -/
def RepKV (K : PySem.W.Frag) (Z : Addr → Prop) (ads : List Addr) (H : Hp) (kvs : List (Key × V)) (kds : Cell) : Prop :=
  kvs.map (·.1) = kds.map (·.1) ∧ RepL K Z ads H (kvs.map (·.2)) (kds.map (·.2))
/-- own: lists that no plain datum may hold; ads: the cells' addresses -/
abbrev Zo (own : Addr → Prop) (ads : List Addr) : Addr → Prop := fun b => own b ∨ b ∈ ads
structure CellsR (K : PySem.W.Frag) (own : Addr → Prop) (ads : List Addr) (H : Hp) (μ : Cells) : Prop where
  len : ads.length = μ.length
  nd : ads.Nodup
  «at» : ∀ (k : Nat) (a : Addr), ads[k]? = some a → ∃ (kvs : List (Key × V)) (kds : Cell), μ[k]? = some kds ∧ H a = some (.dK kvs) ∧ RepKV K (Zo own ads) ads H kvs kds
  dis : ∀ a ∈ ads, ¬ own a
  ownT : ∀ b, own b → ∃ o, H b = some o ∧ Mut (some o)

/-- behind an expression: all that was tracked but the cells stands; new cells are new -/
structure Ext (ads : List Addr) (H : Hp) (ads' : List Addr) (H' : Hp) : Prop where
  keep : ∀ b o, H b = some o → b ∉ ads → H' b = some o
  there : ∀ b o, H b = some o → ∃ o', H' b = some o'
  new : ∀ b ∈ ads', b ∈ ads ∨ H b = none
  pre : ∀ (k : Nat) (a : Addr), ads[k]? = some a → ads'[k]? = some a
section
variable {K : PySem.W.Frag} {own : Addr → Prop} {ads ads' ads2 : List Addr} {H H' H2 : Hp} {μ : Cells}
theorem Ext.refl : Ext ads H ads H := ⟨fun _ _ h _ => h, fun _ o h => ⟨o, h⟩, fun _ h => .inl h, fun _ _ h => h⟩
theorem Ext.mem (e : Ext ads H ads' H') {b : Addr} (h : b ∈ ads) : b ∈ ads' := by
  obtain ⟨k, hk⟩ := List.mem_iff_getElem?.mp h
  exact List.mem_iff_getElem?.mpr ⟨k, e.pre _ _ hk⟩
theorem Ext.trans (e : Ext ads H ads' H') (f : Ext ads' H' ads2 H2) : Ext ads H ads2 H2 where
  keep := fun b o h hn => f.keep b o (e.keep b o h hn) fun hm => (e.new b hm).elim hn fun z => by rw [z] at h; cases h
  there := fun b o h => let ⟨o', h'⟩ := e.there b o h; f.there b o' h'
  new := fun b hb => (f.new b hb).elim (e.new b) fun z => .inr <| by
    cases q : H b with
    | none => rfl
    | some o => obtain ⟨o', h'⟩ := e.there b o q; rw [z] at h'; cases h'
  pre := fun k a h => f.pre k a (e.pre k a h)
theorem Ext.stay (e : Ext ads H ads' H') : Stay (Zo own ads) (Zo own ads') ads ads' H H' where
  keep := fun b o h z => e.keep b o h fun m => z (.inr m)
  free := fun b o h z q => q.elim (fun q => z (.inl q)) fun q => (e.new b q).elim (fun m => z (.inr m)) fun n => by rw [n] at h; cases h
  pre := e.pre
theorem Rep.ext {v : V} {d : D} (e : Ext ads H ads' H') (h : Rep K (Zo own ads) ads H v d) : Rep K (Zo own ads') ads' H' v d := h.stay e.stay
theorem RepL.ext {v : List V} {d : List D} (e : Ext ads H ads' H') (h : RepL K (Zo own ads) ads H v d) : RepL K (Zo own ads') ads' H' v d := h.stay e.stay
/-- a new object that is no cell -/
theorem Ext.fresh {p : Addr} {o : HO} (hp : H p = none) : Ext ads H ads (upd H p o) where
  keep := fun b u h _ => by rw [upd_ne (ne_of_none h hp)]; exact h
  there := fun b u h => ⟨u, by rw [upd_ne (ne_of_none h hp)]; exact h⟩
  new := fun _ h => .inl h
  pre := fun _ _ h => h
theorem RepKV.stay {Z Z' : Addr → Prop} {kvs : List (Key × V)} {kds : Cell} (s : Stay Z Z' ads ads' H H') (h : RepKV K Z ads H kvs kds) : RepKV K Z' ads' H' kvs kds := ⟨h.1, h.2.stay s⟩
/-- the cells where none of them is changed, none is new -/
theorem CellsR.same (c : CellsR K own ads H μ) (e : Ext ads H ads H') (k : ∀ a ∈ ads, H' a = H a) : CellsR K own ads H' μ where
  len := c.len
  nd := c.nd
  «at» := fun i a h => by
    obtain ⟨kvs, kds, h1, h2, h3⟩ := c.at i a h
    exact ⟨kvs, kds, h1, by rw [k a (List.mem_of_getElem? h)]; exact h2, h3.stay e.stay⟩
  dis := c.dis
  ownT := fun b h => let ⟨o, q, m⟩ := c.ownT b h; ⟨o, e.keep b o q fun z => c.dis b z h, m⟩
theorem CellsR.tracked (c : CellsR K own ads H μ) {b : Addr} (h : Zo own ads b) : ∃ o, H b = some o := by
  rcases h with h | h
  · obtain ⟨o, q, _⟩ := c.ownT b h
    exact ⟨o, q⟩
  · obtain ⟨k, hk⟩ := List.mem_iff_getElem?.mp h
    obtain ⟨kvs, _, _, h2, _⟩ := c.at k b hk
    exact ⟨_, h2⟩
theorem CellsR.freshZ (c : CellsR K own ads H μ) {p : Addr} (hp : H p = none) : ¬ Zo own ads p := fun z => by
  obtain ⟨o, h⟩ := c.tracked z
  rw [hp] at h; cases h
theorem CellsR.fresh (c : CellsR K own ads H μ) {p : Addr} {o : HO} (hp : H p = none) : CellsR K own ads (upd H p o) μ :=
  c.same (Ext.fresh hp) fun a ha => by
    have : a ≠ p := fun z => c.freshZ hp (z ▸ .inr ha)
    rw [upd_ne this]
/-- a new tuple stands for its items -/
theorem Rep.newTup (c : CellsR K own ads H μ) {p : Addr} {xs : List V} {ds : List D} (hp : H p = none) (h : RepL K (Zo own ads) ads H xs ds) : Rep K (Zo own ads) ads (upd H p (.tup xs)) (.ref p) (.tup ds) :=
  .tup (.inl ⟨.inl upd_same, c.freshZ hp⟩) (h.ext (Ext.fresh hp))
theorem Rep.newLst (c : CellsR K own ads H μ) {p : Addr} {xs : List V} {ds : List D} (hp : H p = none) (h : RepL K (Zo own ads) ads H xs ds) : Rep K (Zo own ads) ads (upd H p (.lst xs)) (.ref p) (.lst ds) :=
  .lst (.inl ⟨.inl upd_same, c.freshZ hp⟩) (h.ext (Ext.fresh hp))
end
end FM

set_option Elab.async false
set_option linter.all false
set_option maxRecDepth 100000
set_option maxHeartbeats 4000000
/-! Ev2: the little language (slots in place of names), its evaluator, the look at the real tree. -/
namespace FM
open PySem PySem.Spec PyProof.Rows L2

/-! ### syntax -/
/-- built-ins called by name on plain values -/
inductive Bi where
  | len | tuple | list | all | any | abs | int | str | max2 | min2 | sum | sorted
  deriving DecidableEq
inductive Ty where
  | int | bool | str | tuple | list
  deriving DecidableEq
/-- methods -/
inductive Me where
  | bits | partition | join
  deriving DecidableEq
inductive Tg where
  | nm (i : Nat) | tp (is : List Nat)
  deriving DecidableEq
mutual
inductive E where
  | var (i : Nat) | int (i : Int) | bl (b : Bool) | non | str (s : Str)
  | op (o : Operator) (a b : E)
  | neg (a : E)
  | cmp (o : CmpOp) (a b : E)
  | chn (o o' : CmpOp) (a b c : E)
  | and (a b : E) | or (a b : E) | not (a : E)
  | ife (c a b : E)
  | tup (es : Es) | lst (es : Es)
  | ix (a b : E)
  | sl (a : E) (lo hi : EO)
  | call (f : Nat) (es : Es)
  | callB (f : Nat) (es : Es)
  | bi (b : Bi) (es : Es)
  | isi (a : E) (t : Ty)
  | me (m : Me) (o : E) (es : Es)
  | lc (elt : E) (tg : Tg) (it : It) (cond : EO)
  | dict (ks : List Str) (es : Es)
inductive Es where
  | nil | cons (e : E) (es : Es)
inductive EO where
  | none | some (e : E)
inductive It where
  | seq (e : E) | rng1 (a : E) | rng2 (a b : E) | rng3 (a b c : E)
end
mutual
inductive S where
  | asg (i : Nat) (e : E)
  | own (i : Nat)
  | asgT (is : List Nat) (e : E)
  | par (i j : Nat) (a b : E)
  | aug (i : Nat) (o : Operator) (e : E)
  | app (i : Nat) (e : E)
  | ins (i : Nat) (k e : E)
  | daug (o k : E) (op : Operator) (e : E)
  | ret (e : E)
  | ifs (c : E) (a b : Ss)
  | whl (c : E) (b : Ss)
  | for_ (tg : Tg) (it : It) (b : Ss)
  | expr (e : E)
  | pass | brk | cont
  | frz (i : Nat)
inductive Ss where
  | nil | cons (s : S) (ss : Ss)
end

/-! ### the environment -/
inductive Sl where
  | pl (d : D) | ow (ds : List D)
abbrev Env := List (Option Sl)
def Sl.d : Sl → D
  | .pl d => d
  | .ow ds => .lst ds
def Sl.isOw : Sl → Bool
  | .pl _ => false
  | .ow _ => true
def isOw (ρ : Env) (i : Nat) : Bool := match ρ[i]? with
  | some (some s) => s.isOw
  | _ => false
/-- whether an expression may hand out a list that its slot owns -/
def lk (ρ : Env) : E → Bool
  | .var i => isOw ρ i
  | .ife _ a b => lk ρ a || lk ρ b
  | _ => false
def lks (ρ : Env) : Es → Bool
  | .nil => false
  | .cons e es => lk ρ e || lks ρ es

def It.lk (ρ : Env) : It → Bool
  | .seq e => FM.lk ρ e
  | _ => false

/-! ### values -/
mutual
def D.py : D → PyData
  | .non => .none
  | .bl b => .bool b
  | .int i => .int i
  | .str s => .str s
  | .tup ds => .tuple (pyAll ds)
  | .lst ds => .list (pyAll ds)
  | .cell _ => .none
def pyAll : List D → List PyData
  | [] => []
  | d :: ds => d.py :: pyAll ds
end
mutual
def D.noCell : D → Bool
  | .tup ds => noCells ds
  | .lst ds => noCells ds
  | .cell _ => false
  | _ => true
def noCells : List D → Bool
  | [] => true
  | d :: ds => d.noCell && noCells ds
end
mutual
def D.noLst : D → Bool
  | .tup ds => noLsts ds
  | .lst _ => false
  | _ => true
def noLsts : List D → Bool
  | [] => true
  | d :: ds => d.noLst && noLsts ds
end
def D.scal : D → Bool
  | .non => true
  | .bl _ => true
  | .int _ => true
  | .str _ => true
  | _ => false
def D.flat : D → Bool
  | .int _ => true
  | .str _ => true
  | .bl _ => true
  | .non => true
  | _ => false
def eqS : D → D → Bool
  | .non, .non => true
  | .bl a, .bl b => a == b
  | .int a, .int b => a == b
  | .str a, .str b => a == b
  | _, _ => false
def scalOk : D → D → Bool
  | .bl _, .int _ => false
  | .int _, .bl _ => false
  | a, b => a.scal && b.scal
def shOk (d : D) : Bool := d.noCell && SeqAt.shaped d.py
def eqD (a b : D) : Option Bool :=
  if scalOk a b then some (eqS a b) else if shOk a && shOk b then some (PyData.eqv a.py b.py) else none
def mulOk (i j : Int) : Bool := decide (i.natAbs.log2 + j.natAbs.log2 < 1000000)
def divOk (_ j : Int) : Bool := decide (j ≠ 0 ∧ j.natAbs < 1073741824) || decide (0 < j ∧ j.natAbs.log2 < 9000)
def powOk (i j : Int) : Bool := decide (0 ≤ j ∧ j ≤ 1000000 ∧ i.natAbs < 2 ^ 64)
def opA : Operator → D → D → Option D
  | .Add, .int i, .int j => some (.int (i + j))
  | .Add, .str a, .str b => if a.length + b.length ≤ sizeLine then some (.str (a ++ b)) else none
  | .Add, .tup a, .tup b => if a.length + b.length ≤ sizeLine then some (.tup (a ++ b)) else none
  | .Sub, .int i, .int j => some (.int (i - j))
  | .Sub, .bl a, .bl b => some (.int (b2i a - b2i b))
  | .Mult, .int i, .int j => if mulOk i j then some (.int (i * j)) else none
  | .FloorDiv, .int i, .int j => if divOk i j then some (.int (i.fdiv j)) else none
  | .Mod, .int i, .int j => if j = 0 then none else some (.int (i.fmod j))
  | .Pow, .int i, .int j => if powOk i j then some (.int (i ^ j.toNat)) else none
  | .LShift, .int i, .int j => if powOk i j then some (.int (i * 2 ^ j.toNat)) else none
  | _, _, _ => none
def negD : D → Option D
  | .int i => some (.int (-i))
  | _ => none
def isNon : D → Bool
  | .non => true
  | _ => false
/-- x in xs -/
def inD (x : D) : List D → Option Bool
  | [] => if x.flat then some false else none
  | y :: ys => if scalOk y x then (if eqS y x then (if (y :: ys).all (fun z => scalOk z x) then some true else none) else inD x ys) else none
/-- x in a list, deep -/
def inX (x : D) (b : List D) : Option Bool := match inD x b with
  | some r => some r
  | none => if shOk x && shOk (.lst b) then some ((pyAll b).any fun z => PyData.eqv z x.py) else none
def cmpD : CmpOp → D → D → Option Bool
  | .Eq, a, b => eqD a b
  | .NotEq, a, b => (eqD a b).map not
  | .Lt, .int i, .int j => some (decide (i < j))
  | .LtE, .int i, .int j => some (decide (i ≤ j))
  | .Gt, .int i, .int j => some (decide (j < i))
  | .GtE, .int i, .int j => some (decide (j ≤ i))
  | .Is, a, .non => some (isNon a)
  | .IsNot, a, .non => some (!isNon a)
  | .Is, .bl a, .bl b => some (decide (a = b))
  | .IsNot, .bl a, .bl b => some (!decide (a = b))
  | .In, .str a, .str b => some (!(Builtin.Str.occurrences b a 0 b.length 1).isEmpty)
  | .In, a, .tup b => inD a b
  | .In, a, .lst b => inX a b
  | .NotIn, a, .tup b => (inD a b).map not
  | .NotIn, a, .lst b => (inX a b).map not
  | _, _, _ => none
def valC (c : Cell) (k : Key) : Option D := (c.find? fun kv => decide (kv.1 = k)).map (·.2)
def putC (c : Cell) (k : Key) (d : D) : Cell := if (c.any fun kv => decide (kv.1 = k)) = true then c.map (fun kv => if kv.1 = k then (kv.1, d) else kv) else c ++ [(k, d)]
def keyD : D → Option Key
  | .int i => some (.inl i)
  | .str s => some (.inr s)
  | _ => none
def ixD (μ : Cells) : D → D → Option D
  | .lst ds, .int i => atI ds i
  | .tup ds, .int i => atI ds i
  | .str s, .int i => if s.length ≤ sizeLine then (atI s.cps.toList i).map fun c => .str ⟨#[c]⟩ else none
  | .cell k, d => match μ[k]?, keyD d with
    | some c, some q => valC c q
    | _, _ => none
  | _, _ => none
def cutD {α : Type} (xs : List α) (lo hi : Option Int) : List α := (xs.drop (HT.sIx xs.length 0 lo)).take (HT.sIx xs.length xs.length hi - HT.sIx xs.length 0 lo)
def slD : D → Option Int → Option Int → Option D
  | .tup ds, lo, hi => some (.tup (cutD ds lo hi))
  | .lst ds, lo, hi => some (.lst (cutD ds lo hi))
  | .str s, lo, hi => if s.length ≤ sizeLine then some (.str ⟨(cutD s.cps.toList lo hi).toArray⟩) else none
  | _, _, _ => none
def asBls : List D → Option (List Bool)
  | [] => some []
  | .bl b :: ds => (asBls ds).map (b :: ·)
  | _ => none
def asInts : List D → Option (List Int)
  | [] => some []
  | .int b :: ds => (asInts ds).map (b :: ·)
  | _ => none
def asStrs : List D → Option (List Str)
  | [] => some []
  | .str b :: ds => (asStrs ds).map (b :: ·)
  | _ => none
def insI (i : Int) : List Int → List Int
  | [] => [i]
  | x :: xs => if i ≤ x then i :: x :: xs else x :: insI i xs
def srtI (l : List Int) : List Int := l.foldr insI []
def leP (p q : Int × Int) : Bool := decide (p.1 < q.1) || (decide (p.1 = q.1) && decide (p.2 ≤ q.2))
def insP (p : Int × Int) : List (Int × Int) → List (Int × Int)
  | [] => [p]
  | x :: xs => if leP p x then p :: x :: xs else x :: insP p xs
def srtP (l : List (Int × Int)) : List (Int × Int) := l.foldr insP []
def pD (p : Int × Int) : D := .tup [.int p.1, .int p.2]
def asPairs : List D → Option (List (Int × Int))
  | [] => some []
  | .tup [.int a, .int b] :: ds => (asPairs ds).map ((a, b) :: ·)
  | _ => none
/-- sorted: ints, or pairs of ints -/
def sortD (ds : List D) : Option D := match asInts ds with
  | some ns => some (.lst ((srtI ns).map D.int))
  | none => (asPairs ds).map fun ps => .lst ((srtP ps).map pD)
def biD (μ : Cells) : Bi → List D → Option D
  | .len, [.lst ds] => some (.int ds.length)
  | .len, [.tup ds] => some (.int ds.length)
  | .len, [.str s] => if s.length ≤ sizeLine then some (.int s.length) else none
  | .tuple, [.lst ds] => some (.tup ds)
  | .tuple, [.tup ds] => some (.tup ds)
  | .list, [.lst ds] => some (.lst ds)
  | .list, [.tup ds] => some (.lst ds)
  | .all, [.lst ds] => (asBls ds).map fun bs => .bl (bs.all id)
  | .any, [.lst ds] => (asBls ds).map fun bs => .bl (bs.any id)
  | .sum, [.lst ds] => (asInts ds).map fun bs => .int bs.sum
  | .abs, [.int i] => some (.int (if i < 0 then -i else i))
  | .int, [.int i] => some (.int i)
  | .int, [.str s] => match PySem.intText? s with
    | some n => if s.length ≤ 640 then some (.int n) else none
    | none => none
  | .str, [.int i] => if i.natAbs.log2 < 1920 then some (.str (toString i)) else none
  | .max2, [.int i, .int j] => some (.int (if j > i then j else i))
  | .min2, [.int i, .int j] => some (.int (if j < i then j else i))
  | .sorted, [.lst ds] => sortD ds
  | _, _ => none
def isiD : D → Ty → Option Bool
  | .int _, .int => some true
  | .bl _, .int => some true
  | .bl _, .bool => some true
  | .str _, .str => some true
  | .tup _, .tuple => some true
  | .lst _, .list => some true
  | .cell _, _ => none
  | _, _ => some false
def meD : Me → D → List D → Option D
  | .bits, .int i, [] => some (.int (Builtin.Int.intBits i : Nat))
  | .partition, .str a, [.str b] => if (b.length == 0) = false ∧ a.length ≤ sizeLine then some (.tup [.str (Txt.partition a b).1, .str (Txt.partition a b).2.1, .str (Txt.partition a b).2.2]) else none
  | .join, .str a, [.lst ds] => match asStrs ds with
    | some ys => if (ys.map (·.length)).sum + ys.length * a.length ≤ 16777216 then some (.str (Txt.join a ys)) else none
    | none => none
  | _, _, _ => none

/-- a text so many times -/
def repS (a : Str) (k : Int) : Str := if k < 1 then Str.empty else if (k == 1 || a.length == 0) = true then a else ⟨(List.replicate k.toNat a.cps).foldl (· ++ ·) #[]⟩
def opL : Operator → D → D → Option D
  | .Add, .lst a, .lst b => if a.length + b.length ≤ sizeLine then some (.lst (a ++ b)) else none
  | .Mult, .str a, .int k => if 0 ≤ k ∧ k ≤ 1000 ∧ a.length ≤ 1000 then some (.str (repS a k)) else none
  | .Mult, .tup a, .int k => if ¬ a.isEmpty = true ∧ 2 ≤ k ∧ k ≤ 1000 ∧ a.length ≤ 1000 then some (.tup (List.replicate k.toNat a).flatten) else none
  | _, _, _ => none
def opD (o : Operator) (x y : D) : Option D := match opA o x y with
  | some z => some z
  | none => opL o x y
/-! ### binding -/
def setAll : List Nat → List D → Env → Env
  | i :: is, d :: ds, ρ => setAll is ds (ρ.set i (some (.pl d)))
  | _, _, ρ => ρ
def itemsOf : D → Option (List D)
  | .tup ds => some ds
  | _ => none
def bindT (tg : Tg) (d : D) (ρ : Env) : Option Env := match tg with
  | .nm i => some (ρ.set i (some (.pl d)))
  | .tp is => match d with
    | .tup ds => if ds.length = is.length then some (setAll is ds ρ) else none
    | _ => none
def lcGo (tg : Tg) (c : Env → Cells → Option (Bool × Cells)) (f : Env → Cells → Option (D × Cells)) (ρ : Env) : List D → Cells → Option (List D × Cells)
  | [], μ => some ([], μ)
  | x :: xs, μ =>
    match bindT tg x ρ with
    | none => none
    | some ρ1 => match c ρ1 μ with
      | none => none
      | some (false, μ1) => lcGo tg c f ρ xs μ1
      | some (true, μ1) => match f ρ1 μ1 with
        | none => none
        | some (y, μ2) => match lcGo tg c f ρ xs μ2 with
          | none => none
          | some (ys, μ3) => some (y :: ys, μ3)
def rngOk (i : Int) : Bool := decide (-(2 ^ 62) ≤ i) && decide (i < 2 ^ 62)
def rngD (lo : Int) (n : Nat) : List D := (List.range n).map fun (k : Nat) => D.int (lo + k)

def signs (s : Str) : List D := s.cps.toList.map fun c => D.str ⟨#[c]⟩
/-- a range with a step -/
def rngS (lo c : Int) (n : Nat) : List D := (List.range n).map fun (k : Nat) => D.int (lo + (k : Nat) * c)
def rgOk (i j c : Int) : Bool := decide (c ≠ 0) && decide (c.natAbs < 1073741824) && PySem.Builtin.Range.small i j c && decide (0 ≤ PySem.Builtin.Range.rangeSize i j c)
/-- an item put in at a place -/
def insAt {α : Type} (xs : List α) (i : Nat) (y : α) : List α := xs.take i ++ [y] ++ xs.drop i
/-! ### the evaluator -/
abbrev Fs := Nat → List D → Cells → Option (D × Cells)
abbrev Rs (α : Type) := Option (α × Cells)
def andThen {α β : Type} (x : Rs α) (f : α → Cells → Option β) : Option β := match x with
  | some (a, μ) => f a μ
  | none => none
def onBl {β : Type} (x : Rs D) (f : Bool → Cells → Option β) : Option β := match x with
  | some (.bl b, μ) => f b μ
  | _ => none
def wthD (z : Option D) (μ : Cells) : Rs D := z.map (·, μ)
mutual
def ev (F : Fs) : E → Env → Cells → Rs D
  | .var i, ρ, μ => match ρ[i]? with
    | some (some s) => some (s.d, μ)
    | _ => none
  | .int i, _, μ => some (.int i, μ)
  | .bl b, _, μ => some (.bl b, μ)
  | .non, _, μ => some (.non, μ)
  | .str s, _, μ => some (.str s, μ)
  | .op o a b, ρ, μ => andThen (ev F a ρ μ) fun x μ1 => andThen (ev F b ρ μ1) fun y μ2 => wthD (opD o x y) μ2
  | .neg a, ρ, μ => andThen (ev F a ρ μ) fun x μ1 => wthD (negD x) μ1
  | .cmp o a b, ρ, μ => andThen (ev F a ρ μ) fun x μ1 => andThen (ev F b ρ μ1) fun y μ2 => wthD ((cmpD o x y).map D.bl) μ2
  | .chn o o' a b c, ρ, μ => andThen (ev F a ρ μ) fun x μ1 => andThen (ev F b ρ μ1) fun y μ2 => match cmpD o x y with
    | some true => andThen (ev F c ρ μ2) fun z μ3 => wthD ((cmpD o' y z).map D.bl) μ3
    | some false => some (.bl false, μ2)
    | none => none
  | .and a b, ρ, μ => onBl (ev F a ρ μ) fun x μ1 => if x then onBl (ev F b ρ μ1) fun y μ2 => some (.bl y, μ2) else some (.bl false, μ1)
  | .or a b, ρ, μ => onBl (ev F a ρ μ) fun x μ1 => if x then some (.bl true, μ1) else onBl (ev F b ρ μ1) fun y μ2 => some (.bl y, μ2)
  | .not a, ρ, μ => onBl (ev F a ρ μ) fun x μ1 => some (.bl (!x), μ1)
  | .ife c a b, ρ, μ => onBl (ev F c ρ μ) fun x μ1 => if x then ev F a ρ μ1 else ev F b ρ μ1
  | .tup es, ρ, μ => if lks ρ es then none else andThen (evs F es ρ μ) fun xs μ1 => if xs.length ≤ sizeLine then some (.tup xs, μ1) else none
  | .lst es, ρ, μ => if lks ρ es then none else andThen (evs F es ρ μ) fun xs μ1 => if xs.length ≤ sizeLine then some (.lst xs, μ1) else none
  | .ix a b, ρ, μ => andThen (ev F a ρ μ) fun x μ1 => andThen (ev F b ρ μ1) fun y μ2 => wthD (ixD μ2 x y) μ2
  | .sl a lo hi, ρ, μ => andThen (ev F a ρ μ) fun x μ1 => andThen (evo F lo ρ μ1) fun l μ2 => andThen (evo F hi ρ μ2) fun h μ3 => wthD (slD x l h) μ3
  | .call f es, ρ, μ => if lks ρ es then none else andThen (evs F es ρ μ) fun xs μ1 => F f xs μ1
  | .callB f es, ρ, μ => andThen (evs F es ρ μ) fun xs μ1 => if noCells xs then (match F f xs [] with
    | some (d, _) => if d.noCell && d.noLst then some (d, μ1) else none
    | none => none) else none
  | .bi b es, ρ, μ => andThen (evs F es ρ μ) fun xs μ1 => wthD (biD μ1 b xs) μ1
  | .isi a t, ρ, μ => andThen (ev F a ρ μ) fun x μ1 => wthD ((isiD x t).map D.bl) μ1
  | .me m o es, ρ, μ => andThen (ev F o ρ μ) fun x μ1 => andThen (evs F es ρ μ1) fun xs μ2 => wthD (meD m x xs) μ2
  | .lc elt tg it cond, ρ, μ => andThen (evi F it ρ μ) fun xs μ1 =>
      if xs.length ≤ 16777216 then andThen (lcGo tg (fun ρ' μ' => evc F cond ρ' μ') (fun ρ' μ' => if lk ρ' elt then none else ev F elt ρ' μ') ρ xs μ1) fun ys μ2 => some (.lst ys, μ2) else none
  | .dict ks es, ρ, μ => if lks ρ es then none else andThen (evs F es ρ μ) fun xs μ1 => if xs.length = ks.length ∧ ks.length ≤ 15 ∧ ks.Nodup then some (.cell μ1.length, μ1 ++ [(ks.map Sum.inr).zip xs]) else none
def evs (F : Fs) : Es → Env → Cells → Rs (List D)
  | .nil, _, μ => some ([], μ)
  | .cons e es, ρ, μ => andThen (ev F e ρ μ) fun x μ1 => andThen (evs F es ρ μ1) fun xs μ2 => some (x :: xs, μ2)
def evo (F : Fs) : EO → Env → Cells → Rs (Option Int)
  | .none, _, μ => some (none, μ)
  | .some e, ρ, μ => andThen (ev F e ρ μ) fun x μ1 => match x with
    | .int i => some (some i, μ1)
    | _ => none
def evc (F : Fs) : EO → Env → Cells → Rs Bool
  | .none, _, μ => some (true, μ)
  | .some e, ρ, μ => onBl (ev F e ρ μ) fun x μ1 => some (x, μ1)
def evi (F : Fs) : It → Env → Cells → Rs (List D)
  | .seq e, ρ, μ => andThen (ev F e ρ μ) fun x μ1 => match x with
    | .lst ds => some (ds, μ1)
    | .tup ds => some (ds, μ1)
    | .str s => some (signs s, μ1)
    | _ => none
  | .rng1 a, ρ, μ => andThen (ev F a ρ μ) fun x μ1 => match x with
    | .int n => if rngOk n then some (rngD 0 n.toNat, μ1) else none
    | _ => none
  | .rng2 a b, ρ, μ => andThen (ev F a ρ μ) fun x μ1 => andThen (ev F b ρ μ1) fun y μ2 => match x, y with
    | .int m, .int n => if rngOk m && rngOk n then some (rngD m (n - m).toNat, μ2) else none
    | _, _ => none
  | .rng3 a b c, ρ, μ => andThen (ev F a ρ μ) fun x μ1 => andThen (ev F b ρ μ1) fun y μ2 => andThen (ev F c ρ μ2) fun z μ3 => match x, y, z with
    | .int m, .int n, .int s => if rgOk m n s then some (rngS m s (PySem.Builtin.Range.rangeSize m n s).toNat, μ3) else none
    | _, _, _ => none
end

/-! ### statements -/
inductive Res where
  | nx (ρ : Env) (μ : Cells) | bk (ρ : Env) (μ : Cells) | ct (ρ : Env) (μ : Cells) | rt (d : D) (μ : Cells)
def whileF (c : Env → Cells → Option (Bool × Cells)) (b : Env → Cells → Option Res) : Nat → Env → Cells → Option Res
  | 0, _, _ => none
  | n + 1, ρ, μ => match c ρ μ with
    | none => none
    | some (false, μ1) => some (.nx ρ μ1)
    | some (true, μ1) => match b ρ μ1 with
      | none => none
      | some (.nx ρ2 μ2) => whileF c b n ρ2 μ2
      | some (.ct ρ2 μ2) => whileF c b n ρ2 μ2
      | some (.bk ρ2 μ2) => some (.nx ρ2 μ2)
      | some (.rt d μ2) => some (.rt d μ2)
def forF (tg : Tg) (b : Env → Cells → Option Res) : List D → Env → Cells → Option Res
  | [], ρ, μ => some (.nx ρ μ)
  | x :: xs, ρ, μ => match bindT tg x ρ with
    | none => none
    | some ρ1 => match b ρ1 μ with
      | none => none
      | some (.nx ρ2 μ2) => forF tg b xs ρ2 μ2
      | some (.ct ρ2 μ2) => forF tg b xs ρ2 μ2
      | some (.bk ρ2 μ2) => some (.nx ρ2 μ2)
      | some (.rt d μ2) => some (.rt d μ2)
/-- whether no slot among these is owned -/
def noOw (ρ : Env) : List Nat → Bool
  | [] => true
  | i :: is => !isOw ρ i && noOw ρ is
mutual
def exec (F : Fs) (W : Nat) : S → Env → Cells → Option Res
  | .asg i e, ρ, μ => if lk ρ e || isOw ρ i then none else andThen (ev F e ρ μ) fun x μ1 => some (.nx (ρ.set i (some (.pl x))) μ1)
  | .own i, ρ, μ => if isOw ρ i then none else some (.nx (ρ.set i (some (.ow []))) μ)
  | .asgT is e, ρ, μ => if lk ρ e || !noOw ρ is then none else andThen (ev F e ρ μ) fun x μ1 => match x with
    | .tup ds => if ds.length = is.length then some (.nx (setAll is ds ρ) μ1) else none
    | _ => none
  | .par i j a b, ρ, μ => if lk ρ a || lk ρ b || isOw ρ i || isOw ρ j || i == j then none else andThen (ev F a ρ μ) fun x μ1 => andThen (ev F b ρ μ1) fun y μ2 => some (.nx ((ρ.set i (some (.pl x))).set j (some (.pl y))) μ2)
  | .aug i o e, ρ, μ => match ρ[i]? with
    | some (some (.pl (.int x))) => andThen (ev F e ρ μ) fun y μ1 => match o, y with
      | .Add, .int y => some (.nx (ρ.set i (some (.pl (.int (x + y))))) μ1)
      | .Sub, .int y => some (.nx (ρ.set i (some (.pl (.int (x - y))))) μ1)
      | _, _ => none
    | _ => none
  | .app i e, ρ, μ => match ρ[i]? with
    | some (some (.ow ds)) => if lk ρ e then none else andThen (ev F e ρ μ) fun x μ1 => if ds.length < sizeLine then some (.nx (ρ.set i (some (.ow (ds ++ [x])))) μ1) else none
    | _ => none
  | .ins i k e, ρ, μ => match ρ[i]? with
    | some (some (.ow ds)) => if lk ρ e || lk ρ k then none else andThen (ev F k ρ μ) fun z μ1 => andThen (ev F e ρ μ1) fun x μ2 => match z with
      | .int j => if ds.length < sizeLine ∧ 0 ≤ j ∧ j < 2 ^ 63 then some (.nx (ρ.set i (some (.ow (insAt ds j.toNat x)))) μ2) else none
      | _ => none
    | _ => none
  | .daug o k op e, ρ, μ => andThen (ev F o ρ μ) fun x μ1 => andThen (ev F k ρ μ1) fun y μ2 => match x, keyD y with
    | .cell n, some q => match (μ2[n]?).bind (valC · q) with
      | some (.int i) => andThen (ev F e ρ μ2) fun z μ3 => match op, z, μ3[n]? with
        | .Add, .int j, some c => if c.length < sizeLine then some (.nx ρ (μ3.set n (putC c q (.int (i + j))))) else none
        | .Sub, .int j, some c => if c.length < sizeLine then some (.nx ρ (μ3.set n (putC c q (.int (i - j))))) else none
        | _, _, _ => none
      | _ => none
    | _, _ => none
  | .ret e, ρ, μ => if lk ρ e then none else andThen (ev F e ρ μ) fun x μ1 => some (.rt x μ1)
  | .ifs c a b, ρ, μ => onBl (ev F c ρ μ) fun x μ1 => if x then execs F W a ρ μ1 else execs F W b ρ μ1
  | .whl c b, ρ, μ => whileF (fun ρ' μ' => onBl (ev F c ρ' μ') fun x μ1 => some (x, μ1)) (fun ρ' μ' => execs F W b ρ' μ') W ρ μ
  | .for_ tg it b, ρ, μ => andThen (evi F it ρ μ) fun xs μ1 => if it.lk ρ then none else forF tg (fun ρ' μ' => execs F W b ρ' μ') xs ρ μ1
  | .expr e, ρ, μ => andThen (ev F e ρ μ) fun _ μ1 => some (.nx ρ μ1)
  | .pass, ρ, μ => some (.nx ρ μ)
  | .brk, ρ, μ => some (.bk ρ μ)
  | .cont, ρ, μ => some (.ct ρ μ)
  | .frz i, ρ, μ => match ρ[i]? with
    | some (some (.ow ds)) => some (.nx (ρ.set i (some (.pl (.lst ds)))) μ)
    | _ => none
def execs (F : Fs) (W : Nat) : Ss → Env → Cells → Option Res
  | .nil, ρ, μ => some (.nx ρ μ)
  | .cons s ss, ρ, μ => match exec F W s ρ μ with
    | some (.nx ρ1 μ1) => execs F W ss ρ1 μ1
    | r => r
end
/-- a def: how many parameters, how many slots, its body -/
structure Fn where
  ar : Nat
  sl : Nat
  body : Ss
def runFn (F : Fs) (W : Nat) (fn : Fn) (ds : List D) (μ : Cells) : Option (D × Cells) :=
  if ds.length = fn.ar ∧ fn.ar ≤ fn.sl then
    match execs F W fn.body (ds.map (fun d => some (.pl d)) ++ List.replicate (fn.sl - fn.ar) none) μ with
    | some (.rt d μ1) => some (d, μ1)
    | some (.nx _ μ1) => some (.non, μ1)
    | _ => none
  else none
def call (T : Nat → Option Fn) (W : Nat) : Nat → Fs
  | 0, _, _, _ => none
  | n + 1, f, ds, μ => match T f with
    | some fn => runFn (call T W n) W fn ds μ
    | none => none
end FM

set_option Elab.async false
set_option linter.all false
set_option maxRecDepth 100000
set_option maxHeartbeats 4000000
/-! Ev3: operators, comparisons, subscripts, slices, built-ins, methods: what the evaluator says is what the hand layer's rules give. -/
namespace FM
open PySem PySem.Spec PyProof.Rows L2

/-- a datum's representation, or (b) a list that its slot owns -/
def RepB (K : PySem.W.Frag) (own : Addr → Prop) (ads : List Addr) (H : Hp) (b : Bool) (v : V) (d : D) : Prop :=
  Rep K (Zo own ads) ads H v d ∨ (b = true ∧ ∃ a xs ds, v = .ref a ∧ d = .lst ds ∧ H a = some (.lst xs) ∧ own a ∧ RepL K (Zo own ads) ads H xs ds)
section
variable {K : PySem.W.Frag} {own : Addr → Prop} {ads ads' : List Addr} {H H' : Hp} {μ : Cells} {b : Bool} {v : V} {d : D}
theorem RepB.of (h : Rep K (Zo own ads) ads H v d) : RepB K own ads H b v d := .inl h
theorem RepB.plain (h : RepB K own ads H false v d) : Rep K (Zo own ads) ads H v d := by
  rcases h with h | ⟨h, _⟩
  · exact h
  · cases h
theorem RepB.ext (c : CellsR K own ads H μ) (e : Ext ads H ads' H') (h : RepB K own ads H b v d) : RepB K own ads' H' b v d := by
  rcases h with h | ⟨h, a, xs, ds, e1, e2, e3, e4, e5⟩
  · exact .inl (h.ext e)
  · exact .inr ⟨h, a, xs, ds, e1, e2, e.keep _ _ e3 fun m => c.dis a m e4, e4, e5.ext e⟩
theorem RepB.non (h : RepB K own ads H b v .non) : v = .non := by
  rcases h with h | ⟨_, _, _, _, _, e, _⟩
  · cases h; rfl
  · cases e
theorem RepB.int {i : Int} (h : RepB K own ads H b v (.int i)) : v = .int i := by
  rcases h with h | ⟨_, _, _, _, _, e, _⟩
  · cases h; rfl
  · cases e
theorem RepB.bl {i : Bool} (h : RepB K own ads H b v (.bl i)) : v = .bl i := by
  rcases h with h | ⟨_, _, _, _, _, e, _⟩
  · cases h; rfl
  · cases e
theorem RepB.str {i : Str} (h : RepB K own ads H b v (.str i)) : v = .str i := by
  rcases h with h | ⟨_, _, _, _, _, e, _⟩
  · cases h; rfl
  · cases e
theorem RepB.tup {ds : List D} (h : RepB K own ads H b v (.tup ds)) : ∃ a xs, v = .ref a ∧ TupAt K (Zo own ads) H a xs ∧ RepL K (Zo own ads) ads H xs ds := by
  rcases h with h | ⟨_, _, _, _, _, e, _⟩
  · cases h with
    | tup h1 h2 => exact ⟨_, _, rfl, h1, h2⟩
  · cases e
theorem RepB.lst {ds : List D} (h : RepB K own ads H b v (.lst ds)) : ∃ a xs, v = .ref a ∧ SqL K H a xs ∧ RepL K (Zo own ads) ads H xs ds := by
  rcases h with h | ⟨_, a, xs, ds', e1, e, e3, _, e5⟩
  · cases h with
    | lst h1 h2 => exact ⟨_, _, rfl, h1.sq, h2⟩
  · cases e
    exact ⟨a, xs, e1, .inl (.inl e3), e5⟩
theorem RepB.cell {k : Nat} (h : RepB K own ads H b v (.cell k)) : ∃ a, v = .ref a ∧ ads[k]? = some a := by
  rcases h with h | ⟨_, _, _, _, _, e, _⟩
  · cases h with
    | cell h1 => exact ⟨_, rfl, h1⟩
  · cases e
mutual
theorem Rep.dp {Z : Addr → Prop} : ∀ (d : D) (v : V), Rep K Z ads H v d → d.noCell = true → Dp K H v d.py
  | .non, _, h, _ => by cases h; exact .non
  | .bl b, _, h, _ => by cases h; exact .bl b
  | .int i, _, h, _ => by cases h; exact .int i
  | .str x, _, h, _ => by cases h; exact .str x
  | .tup ds, _, h, n => by
    cases h with
    | tup h1 h2 => exact .tup h1.sq (RepL.dp ds _ h2 n)
  | .lst ds, _, h, n => by
    cases h with
    | lst h1 h2 => exact .lst h1.sq (RepL.dp ds _ h2 n)
  | .cell k, _, h, n => by cases n
theorem RepL.dp {Z : Addr → Prop} : ∀ (ds : List D) (vs : List V), RepL K Z ads H vs ds → noCells ds = true → DpAll K H vs (pyAll ds)
  | [], _, h, _ => by cases h; exact .nil
  | d :: ds, _, h, n => by
    cases h with
    | cons h1 h2 =>
      have n' : (d.noCell && noCells ds) = true := n
      rw [Bool.and_eq_true] at n'
      exact .cons (Rep.dp d _ h1 n'.1) (RepL.dp ds _ h2 n'.2)
end
theorem RepB.dp (h : RepB K own ads H b v d) (n : d.noCell = true) : Dp K H v d.py := by
  rcases h with h | ⟨_, a, xs, ds, e1, e, e3, _, e5⟩
  · exact h.dp d v n
  · subst e1 e
    exact .lst (.inl (.inl e3)) (e5.dp ds xs n)
end

/-- what is wanted behind: the datum z, the cells μ' -/
abbrev Fin (K : PySem.W.Frag) (own : Addr → Prop) (ads : List Addr) (H : Hp) (b : Bool) (z : D) (μ' : Cells) (Q : VK) : Prop :=
  ∀ v H' ads', Ext ads H ads' H' → CellsR K own ads' H' μ' → RepB K own ads' H' b v z → Q v H'
section
variable {K : PySem.W.Frag} {own : Addr → Prop} {ads ads' : List Addr} {H H' : Hp} {μ : Cells} {b : Bool} {Q : VK}
theorem Fin.int {i : Int} (q : Fin K own ads H b (.int i) μ Q) (c : CellsR K own ads H μ) : Q (.int i) H := q _ _ _ .refl c (.inl (.int i))
theorem Fin.bl {i : Bool} (q : Fin K own ads H b (.bl i) μ Q) (c : CellsR K own ads H μ) : Q (.bl i) H := q _ _ _ .refl c (.inl (.bl i))
theorem Fin.str {i : Str} (q : Fin K own ads H b (.str i) μ Q) (c : CellsR K own ads H μ) : Q (.str i) H := q _ _ _ .refl c (.inl (.str i))
theorem Fin.same {v : V} {d : D} (q : Fin K own ads H b d μ Q) (c : CellsR K own ads H μ) (h : Rep K (Zo own ads) ads H v d) : Q v H := q _ _ _ .refl c (.inl h)
theorem Fin.newT {xs : List V} {ds : List D} (q : Fin K own ads H b (.tup ds) μ Q) (c : CellsR K own ads H μ) (h : RepL K (Zo own ads) ads H xs ds) : ∀ p, H p = none → Q (.ref p) (upd H p (.tup xs)) :=
  fun p hp => q _ _ _ (.fresh hp) (c.fresh hp) (.inl (Rep.newTup c hp h))
theorem Fin.newL {xs : List V} {ds : List D} (q : Fin K own ads H b (.lst ds) μ Q) (c : CellsR K own ads H μ) (h : RepL K (Zo own ads) ads H xs ds) : ∀ p, H p = none → Q (.ref p) (upd H p (.lst xs)) :=
  fun p hp => q _ _ _ (.fresh hp) (c.fresh hp) (.inl (Rep.newLst c hp h))
end

/-! ### operators -/
def rA (K : PySem.W.Frag) (o : Operator) : R2 := fun x y H Q => ∃ own ads μ b1 b2 dx dy dz, CellsR K own ads H μ ∧ RepB K own ads H b1 x dx ∧ RepB K own ads H b2 y dy ∧ opA o dx dy = some dz ∧ Fin K own ads H false dz μ Q
def rD (K : PySem.W.Frag) (o : Operator) : R2 := fun x y H Q => ∃ own ads μ b1 b2 dx dy dz, CellsR K own ads H μ ∧ RepB K own ads H b1 x dx ∧ RepB K own ads H b2 y dy ∧ opD o dx dy = some dz ∧ Fin K own ads H false dz μ Q
section
variable {X : Cx}
theorem op_subB : OpR X (binaryOp .Sub) (fun x y H Q => ∃ i j, x = .bl i ∧ y = .bl j ∧ Q (.int (b2i i - b2i j)) H) := by
  intro pins s σ H x y v u Q I rx ry h
  obtain ⟨i, j, rfl, rfl, q⟩ := h
  cases rx
  cases ry
  exact PyProof.Rows.sub_bool ⟨.int _, H, I.tok _, ⟨_, rfl⟩, q⟩
theorem op_fdivD : OpR X (binaryOp .FloorDiv) (rI (fun i j => divOk i j = true) fun i j => .int (i.fdiv j)) := by
  intro pins s σ H x y v u Q I rx ry h
  obtain ⟨i, j, e1, e2, hc, q⟩ := h
  unfold divOk at hc
  rw [Bool.or_eq_true, decide_eq_true_eq, decide_eq_true_eq] at hc
  rcases hc with hc | hc
  · exact op_fdivN pins s σ H x y v u Q I rx ry ⟨i, j, e1, e2, hc, q⟩
  · refine op_fdivW pins s σ H x y v u Q I rx ry ⟨i, j, e1, e2, hc, ?_⟩
    have e : i.fdiv j = i / j := Int.fdiv_eq_ediv_of_nonneg i (by omega)
    show Q (V.int (i / j)) H
    rw [← e]
    exact q
theorem mulOk_ok {i j : Int} (h : mulOk i j = true) : CMulW i j := by
  unfold mulOk at h
  have z := of_decide_eq_true h
  exact z
theorem powOk_ok {i j : Int} (h : powOk i j = true) : CPow i j := by
  unfold powOk at h
  have z := of_decide_eq_true h
  exact z
/-- two lists, whatever kind of list they are -/
theorem op_catL : OpR X (binaryOp .Add) (fun x y H Q => ∃ l b xs zs, x = .ref l ∧ y = .ref b ∧ SqL X.K H l xs ∧ SqL X.K H b zs ∧ xs.length + zs.length ≤ sizeLine ∧ ∀ p, H p = none → Q (.ref p) (upd H p (.lst (xs ++ zs)))) := by
  intro pins s σ H x y v u Q I rx ry h
  obtain ⟨l, b, xs, zs, rfl, rfl, hH, hB, hz, q⟩ := h
  cases rx
  cases ry
  obtain ⟨its, r, ⟨⟨cls, dd, data, sls⟩, n, e, hc, hdn, hdt⟩, hl⟩ := I.list hH
  obtain ⟨its2, r2, ⟨⟨cls2, dd2, data2, sls2⟩, n2, e2, hc2, hdn2, hdt2⟩, hl2⟩ := I.list hB
  simp only at hc hdt hc2 hdt2
  subst hc hdt hc2 hdt2
  have q1 := r.length
  have q2 := r2.length
  have ea : its.toArray ++ its2.toArray = (its ++ its2).toArray := by simp
  refine concat_meets ⟨_, e, rfl⟩ ⟨_, e2, rfl⟩ noFill_list_add seq_list_add PySem.F.slot_list_add PySem.F.entry_list_add (PySem.F.args_list_add_2 _ _) (PyProof.Rows.list_addW l b its.toArray its2.toArray n n2 dd dd2 sls sls2 (by rw [List.size_toArray, List.size_toArray]; omega)) ⟨e, e2, ?_⟩
  rw [ea]
  exact ⟨.ref _, _, I.lnew (t' := s.toks) (r.append r2) (by rw [List.length_append]; omega), rfl, q _ I.fresh⟩
theorem RepL.flat {K : PySem.W.Frag} {Z : Addr → Prop} {ads : List Addr} {H : Hp} {xs : List V} {ds : List D} (l : RepL K Z ads H xs ds) : ∀ n : Nat, RepL K Z ads H (List.replicate n xs).flatten (List.replicate n ds).flatten
  | 0 => .nil
  | n + 1 => by
    rw [List.replicate_succ, List.replicate_succ, List.flatten_cons, List.flatten_cons]
    exact l.append (l.flat n)
theorem op_A (o : Operator) : OpR X (binaryOp o) (rA X.K o) := by
  intro pins s σ H x y v u Q I rx ry h
  obtain ⟨own, ads, μ, b1, b2, dx, dy, dz, c, h1, h2, hz, q⟩ := h
  unfold opA at hz
  split at hz
  · cases hz; exact op_add pins s σ H x y v u Q I rx ry ⟨_, _, h1.int, h2.int, q.int c⟩
  · split at hz
    · cases hz; exact op_add_str pins s σ H x y v u Q I rx ry ⟨_, _, h1.str, h2.str, by assumption, q.str c⟩
    · cases hz
  · split at hz
    · rename_i hl
      cases hz
      obtain ⟨a1, xs, e1, t1, l1⟩ := h1.tup
      obtain ⟨a2, ys, e2, t2, l2⟩ := h2.tup
      refine op_catA pins s σ H x y v u Q I rx ry ⟨a1, a2, xs, ys, e1, e2, t1.sq, t2.sq, by rw [l1.length, l2.length]; exact hl, fun e => ?_, fun _ e => ?_, fun _ _ => q.newT c (l1.append l2)⟩
      · subst e
        cases l1
        exact q.same c (.tup t2 l2)
      · subst e
        cases l2
        rw [List.append_nil] at q
        exact q.same c (.tup t1 l1)
    · cases hz
  · cases hz; exact op_sub pins s σ H x y v u Q I rx ry ⟨_, _, h1.int, h2.int, q.int c⟩
  · cases hz; exact op_subB pins s σ H x y v u Q I rx ry ⟨_, _, h1.bl, h2.bl, q.int c⟩
  · split at hz
    · rename_i hm
      cases hz; exact op_mulW pins s σ H x y v u Q I rx ry ⟨_, _, h1.int, h2.int, mulOk_ok hm, q.int c⟩
    · cases hz
  · split at hz
    · cases hz; exact op_fdivD pins s σ H x y v u Q I rx ry ⟨_, _, h1.int, h2.int, by assumption, q.int c⟩
    · cases hz
  · split at hz
    · cases hz
    · cases hz; exact op_modN pins s σ H x y v u Q I rx ry ⟨_, _, h1.int, h2.int, by assumption, q.int c⟩
  · split at hz
    · rename_i hm
      cases hz; exact op_pow pins s σ H x y v u Q I rx ry ⟨_, _, h1.int, h2.int, powOk_ok hm, q.int c⟩
    · cases hz
  · split at hz
    · rename_i hm
      cases hz; exact op_shl pins s σ H x y v u Q I rx ry ⟨_, _, h1.int, h2.int, powOk_ok hm, q.int c⟩
    · cases hz
  · cases hz
def rRepS : R2 := fun x y H Q => ∃ (a : Str) (k : Int), x = .str a ∧ y = .int k ∧ 0 ≤ k ∧ k ≤ 1000 ∧ a.length ≤ 1000 ∧ Q (.str (repS a k)) H
theorem op_repS : OpR X (binaryOp .Mult) rRepS := by
  intro pins s σ H x y v u Q I rx ry h
  obtain ⟨a, k, rfl, rfl, h0, h1, h2, q⟩ := h
  obtain ⟨t, rfl⟩ := rx
  obtain ⟨t', rfl⟩ := ry
  have c0 : (decide (k < -(2 ^ 63 : Int)) || decide (k ≥ 2 ^ 63)) = false := by
    rw [decide_eq_false (by omega), decide_eq_false (by omega)] <;> rfl
  have m1 : a.length * k.toNat ≤ 1000 * 1000 := Nat.mul_le_mul h2 (by omega)
  have tl : Builtin.Str.tooLong (a.length * k.toNat) = false := by
    unfold Builtin.Str.tooLong
    rw [sizeLine_eq]
    exact decide_eq_false (by omega)
  refine PySem.P.mul_str c0 (fun h _ => ?_) (fun _ _ => tl) ?_
  · have : (a.length : Int) ≤ (2 ^ 63 - 1) / k := by
      rw [Int.le_ediv_iff_mul_le (by omega)]
      have : (a.length : Int) * k ≤ 1000 * k := Int.mul_le_mul_of_nonneg_right (by omega) h0
      omega
    omega
  · unfold repS at q
    split
    · rename_i hk
      rw [if_pos hk] at q
      exact ⟨by decide, .str Str.empty, H, I.tok _, ⟨_, rfl⟩, q⟩
    · rename_i hk
      rw [if_neg hk] at q
      split
      · rename_i hb
        rw [if_pos hb] at q
        exact ⟨.str a, H, I, ⟨_, rfl⟩, q⟩
      · rename_i hb
        rw [if_neg hb] at q
        refine ⟨?_, .str _, H, I.tok _, ⟨_, rfl⟩, q⟩
        have e : ((List.replicate k.toNat a.cps).foldl (· ++ ·) #[]).size = k.toNat * a.cps.size := by
          have go : ∀ (m : Nat) (b : Array Nat), ((List.replicate m a.cps).foldl (· ++ ·) b).size = b.size + m * a.cps.size := by
            intro m
            induction m with
            | zero => intro b; simp
            | succ m ih => intro b; rw [List.replicate_succ, List.foldl_cons, ih, Array.size_append, Nat.succ_mul]; omega
          rw [go]
          simp
        show ((List.replicate k.toNat a.cps).foldl (· ++ ·) #[]).size ≤ sizeLine
        rw [e, sizeLine_eq]
        have : a.cps.size = a.length := rfl
        rw [this, Nat.mul_comm]
        omega
theorem op_D (o : Operator) : OpR X (binaryOp o) (rD X.K o) := by
  intro pins s σ H x y v u Q I rx ry h
  obtain ⟨own, ads, μ, b1, b2, dx, dy, dz, c, h1, h2, hz, q⟩ := h
  unfold opD at hz
  split at hz
  · rename_i z hA
    cases hz
    exact op_A o pins s σ H x y v u Q I rx ry ⟨own, ads, μ, b1, b2, dx, dy, _, c, h1, h2, hA, q⟩
  · unfold opL at hz
    split at hz
    · split at hz
      · rename_i hl
        cases hz
        obtain ⟨a1, xs, e1, t1, l1⟩ := h1.lst
        obtain ⟨a2, ys, e2, t2, l2⟩ := h2.lst
        exact op_catL pins s σ H x y v u Q I rx ry ⟨a1, a2, xs, ys, e1, e2, t1, t2, by rw [l1.length, l2.length]; exact hl, q.newL c (l1.append l2)⟩
      · cases hz
    · split at hz
      · rename_i hl
        cases hz
        have e1 := h1.str
        have ez := h2.int
        exact op_repS pins s σ H x y v u Q I rx ry ⟨_, _, e1, ez, hl.1, hl.2.1, hl.2.2, q.str c⟩
      · cases hz
    · split at hz
      · rename_i hl
        cases hz
        obtain ⟨a1, xs, e1, t1, l1⟩ := h1.tup
        have ez := h2.int
        exact op_repT pins s σ H x y v u Q I rx ry ⟨a1, _, xs, e1, ez, t1.sq, fun z => hl.1 (by subst z; cases l1; rfl), hl.2.1, hl.2.2.1, by rw [l1.length]; exact hl.2.2.2, q.newT c (l1.flat _)⟩
      · cases hz
    · cases hz
def rN (K : PySem.W.Frag) : V → Hp → VK → Prop := fun x H Q => ∃ own ads μ b1 dx dz, CellsR K own ads H μ ∧ RepB K own ads H b1 x dx ∧ negD dx = some dz ∧ Fin K own ads H false dz μ Q
theorem un_D : UnR X (unaryOp .USub) (rN X.K) := by
  intro pins s σ H x v Q I rx h
  obtain ⟨own, ads, μ, b1, dx, dz, c, h1, hz, q⟩ := h
  unfold negD at hz
  split at hz
  · cases hz; exact un_neg pins s σ H x v Q I rx ⟨_, h1.int, q.int c⟩
  · cases hz
end

/-! ### comparisons -/
theorem eqS_scal {K : PySem.W.Frag} {own : Addr → Prop} {ads : List Addr} {H : Hp} {b1 b2 : Bool} {x y : V} {dx dy : D} (h1 : RepB K own ads H b1 x dx) (h2 : RepB K own ads H b2 y dy) (h : scalOk dx dy = true) :
    scal x y = true ∧ decide (x = y) = eqS dx dy := by
  cases dx <;> cases dy <;> first
    | (exfalso; revert h; decide)
    | (exfalso; revert h; simp [scalOk, D.scal]; done)
    | skip
  all_goals first | (have e1 := h1.non; subst e1) | (have e1 := h1.int; subst e1) | (have e1 := h1.bl; subst e1) | (have e1 := h1.str; subst e1)
  all_goals first | (have e2 := h2.non; subst e2) | (have e2 := h2.int; subst e2) | (have e2 := h2.bl; subst e2) | (have e2 := h2.str; subst e2)
  all_goals refine ⟨rfl, ?_⟩
  all_goals first | rfl | (simp [eqS]; done) | (simp only [eqS]; first | exact dec_int | exact dec_bl | exact dec_str)
theorem eqS_V {K : PySem.W.Frag} {own : Addr → Prop} {ads : List Addr} {H : Hp} {b1 b2 : Bool} {x y : V} {dx dy : D} (h1 : RepB K own ads H b1 x dx) (h2 : RepB K own ads H b2 y dy) (h : scalOk dx dy = true) :
    flatV x = true ∧ flatV y = true ∧ eqV x y = eqS dx dy := by
  cases dx <;> cases dy <;> first
    | (exfalso; revert h; decide)
    | (exfalso; revert h; simp [scalOk, D.scal]; done)
    | skip
  all_goals first | (have e1 := h1.non; subst e1) | (have e1 := h1.int; subst e1) | (have e1 := h1.bl; subst e1) | (have e1 := h1.str; subst e1)
  all_goals first | (have e2 := h2.non; subst e2) | (have e2 := h2.int; subst e2) | (have e2 := h2.bl; subst e2) | (have e2 := h2.str; subst e2)
  all_goals refine ⟨rfl, rfl, ?_⟩
  all_goals first | rfl | (simp [eqS, eqV]; done)
theorem inD_V {K : PySem.W.Frag} {own : Addr → Prop} {ads : List Addr} {H : Hp} {b1 : Bool} {x : V} {dx : D} (h1 : RepB K own ads H b1 x dx) : ∀ {ds : List D} {xs : List V} {r : Bool}, RepL K (Zo own ads) ads H xs ds → inD dx ds = some r → ds ≠ [] →
    flatV x = true ∧ xs.all flatV = true ∧ inV x xs = r
  | [], _, _, _, _, n => absurd rfl n
  | d :: ds, _, r, h, e, _ => by
    cases h with
    | @cons v _ vs _ hv hl =>
      unfold inD at e
      by_cases hs : scalOk d dx = true
      · rw [if_pos hs] at e
        obtain ⟨f1, f2, f3⟩ := eqS_V (RepB.of (b := false) hv) h1 hs
        by_cases he : eqS d dx = true
        · rw [if_pos he] at e
          split at e
          · rename_i ha
            cases e
            refine ⟨f2, ?_, ?_⟩
            · have all : ∀ (ds : List D) (vs : List V), RepL K (Zo own ads) ads H vs ds → ds.all (fun z => scalOk z dx) = true → vs.all flatV = true := by
                intro ds
                induction ds with
                | nil => intro vs h _; cases h; rfl
                | cons d' ds ih =>
                  intro vs h ha
                  cases h with
                  | cons g1 g2 =>
                    rw [List.all_cons, Bool.and_eq_true] at ha
                    rw [List.all_cons, Bool.and_eq_true]
                    exact ⟨(eqS_V (RepB.of (b := false) g1) h1 ha.1).1, ih _ g2 ha.2⟩
              exact all _ _ (.cons hv hl) ha
            · show (List.any (v :: vs) fun y => eqV y x) = true
              rw [List.any_cons, f3, he]
              rfl
          · cases e
        · rw [if_neg he] at e
          by_cases hn : ds = []
          · subst hn
            cases hl
            unfold inD at e
            have e : r = false := by
              split at e
              · cases e; rfl
              · cases e
            subst e
            refine ⟨f2, by simp [f1], ?_⟩
            show (List.any [v] fun y => eqV y x) = false
            rw [List.any_cons, f3]
            simpa using he
          · obtain ⟨g1, g2, g3⟩ := inD_V h1 hl e hn
            refine ⟨g1, by rw [List.all_cons, f1, g2]; rfl, ?_⟩
            show (List.any (v :: vs) fun y => eqV y x) = r
            rw [List.any_cons, f3]
            have he' : eqS d dx = false := by simpa using he
            rw [he', Bool.false_or]
            exact g3
      · rw [if_neg hs] at e
        cases e
def rCm (K : PySem.W.Frag) (o : CmpOp) : R2 := fun x y H Q => ∃ own ads μ b1 b2 dx dy r, CellsR K own ads H μ ∧ RepB K own ads H b1 x dx ∧ RepB K own ads H b2 y dy ∧ cmpD o dx dy = some r ∧ Q (.bl r) H
section
variable {X : Cx}
theorem eq_D {own : Addr → Prop} {ads : List Addr} {H : Hp} {b1 b2 : Bool} {x y : V} {dx dy : D} {r : Bool} (h1 : RepB X.K own ads H b1 x dx) (h2 : RepB X.K own ads H b2 y dy) (h : eqD dx dy = some r) {Q : VK} (q : Q (.bl r) H) :
    rEq x y H Q ∨ rEqD X.K x y H Q := by
  unfold eqD at h
  split at h
  · rename_i hs
    cases h
    obtain ⟨g1, g2⟩ := eqS_scal h1 h2 hs
    exact .inl ⟨g1, by rw [g2]; exact q⟩
  · split at h
    · rename_i hs
      cases h
      rw [Bool.and_eq_true] at hs
      obtain ⟨s1, s2⟩ := hs
      unfold shOk at s1 s2
      rw [Bool.and_eq_true] at s1 s2
      exact .inr ⟨_, _, h1.dp s1.1, h2.dp s2.1, s1.2, s2.2, q⟩
    · cases h
theorem ne_D {own : Addr → Prop} {ads : List Addr} {H : Hp} {b1 b2 : Bool} {x y : V} {dx dy : D} {r : Bool} (h1 : RepB X.K own ads H b1 x dx) (h2 : RepB X.K own ads H b2 y dy) (h : eqD dx dy = some r) {Q : VK} (q : Q (.bl (!r)) H) :
    rNe x y H Q ∨ rNeD X.K x y H Q := by
  unfold eqD at h
  split at h
  · rename_i hs
    cases h
    obtain ⟨g1, g2⟩ := eqS_scal h1 h2 hs
    exact .inl ⟨g1, by rw [g2]; exact q⟩
  · split at h
    · rename_i hs
      cases h
      rw [Bool.and_eq_true] at hs
      obtain ⟨s1, s2⟩ := hs
      unfold shOk at s1 s2
      rw [Bool.and_eq_true] at s1 s2
      exact .inr ⟨_, _, h1.dp s1.1, h2.dp s2.1, s1.2, s2.2, q⟩
    · cases h
theorem isNon_V {own : Addr → Prop} {ads : List Addr} {H : Hp} {b1 : Bool} {x : V} {dx : D} (h1 : RepB X.K own ads H b1 x dx) : decide (x = V.non) = isNon dx := by
  cases dx with
  | non => rw [h1.non]; rfl
  | bl b => rw [h1.bl]; rfl
  | int i => rw [h1.int]; rfl
  | str s => rw [h1.str]; rfl
  | tup ds => obtain ⟨a, xs, e, _⟩ := h1.tup; rw [e]; rfl
  | lst ds => obtain ⟨a, xs, e, _⟩ := h1.lst; rw [e]; rfl
  | cell k => obtain ⟨a, e, _⟩ := h1.cell; rw [e]; rfl
theorem flat_V {own : Addr → Prop} {ads : List Addr} {H : Hp} {b1 : Bool} {x : V} {dx : D} (h1 : RepB X.K own ads H b1 x dx) (h : dx.flat = true) : flatV x = true := by
  cases dx with
  | non => rw [h1.non]; rfl
  | bl b => rw [h1.bl]; rfl
  | int i => rw [h1.int]; rfl
  | str s => rw [h1.str]; rfl
  | _ => cases h
/-- x in xs, where it is said; of the empty one if x is flat -/
theorem in_D {own : Addr → Prop} {ads : List Addr} {H : Hp} {b1 : Bool} {x : V} {dx : D} {ds : List D} {xs : List V} {r : Bool} (h1 : RepB X.K own ads H b1 x dx) (l : RepL X.K (Zo own ads) ads H xs ds) (h : inD dx ds = some r) :
    flatV x = true ∧ xs.all flatV = true ∧ inV x xs = r := by
  by_cases hn : ds = []
  · subst hn
    cases l
    unfold inD at h
    split at h
    · rename_i hf
      cases h
      exact ⟨flat_V h1 hf, rfl, rfl⟩
    · cases h
  · exact inD_V h1 l h hn
theorem inX_V {own : Addr → Prop} {ads : List Addr} {H : Hp} {b1 b2 : Bool} {x y : V} {dx : D} {ds : List D} {r : Bool} (h1 : RepB X.K own ads H b1 x dx) (h2 : RepB X.K own ads H b2 y (.lst ds)) (h : inX dx ds = some r) :
    (∃ a xs, y = .ref a ∧ SqL X.K H a xs ∧ flatV x = true ∧ xs.all flatV = true ∧ inV x xs = r) ∨ ∃ d ds, Dp X.K H x d ∧ Dp X.K H y (.list ds) ∧ SeqAt.shaped d = true ∧ SeqAt.shaped (.list ds) = true ∧ (ds.any fun z => PyData.eqv z d) = r := by
  unfold inX at h
  split at h
  · rename_i r' hr
    cases h
    obtain ⟨a, xs, e, t, l⟩ := h2.lst
    obtain ⟨g1, g2, g3⟩ := in_D h1 l hr
    exact .inl ⟨a, xs, e, t, g1, g2, g3⟩
  · split at h
    · rename_i hs
      cases h
      rw [Bool.and_eq_true] at hs
      obtain ⟨s1, s2⟩ := hs
      unfold shOk at s1 s2
      rw [Bool.and_eq_true] at s1 s2
      exact .inr ⟨_, _, h1.dp s1.1, h2.dp s2.1, s1.2, s2.2, rfl⟩
    · cases h
theorem cm_D (hu : X.A.units + 65 < cLine) (o : CmpOp) : OpR X (compareOp o) (rCm X.K o) := by
  intro pins s σ H x y v u Q I rx ry h
  obtain ⟨own, ads, μ, b1, b2, dx, dy, r, c, h1, h2, hz, q⟩ := h
  unfold cmpD at hz
  split at hz
  · rcases eq_D h1 h2 hz q with h | h
    · exact op_eq pins s σ H x y v u Q I rx ry h
    · exact op_eqD (Nat.lt_of_succ_lt hu) pins s σ H x y v u Q I rx ry h
  · obtain ⟨r', hr, e⟩ := Option.map_eq_some_iff.mp hz
    subst e
    rcases ne_D h1 h2 hr q with h | h
    · exact op_ne pins s σ H x y v u Q I rx ry h
    · exact op_neD (Nat.lt_of_succ_lt hu) pins s σ H x y v u Q I rx ry h
  · cases hz; exact op_lt pins s σ H x y v u Q I rx ry ⟨_, _, h1.int, h2.int, q⟩
  · cases hz; exact op_le pins s σ H x y v u Q I rx ry ⟨_, _, h1.int, h2.int, q⟩
  · cases hz; exact op_gt pins s σ H x y v u Q I rx ry ⟨_, _, h1.int, h2.int, q⟩
  · cases hz; exact op_ge pins s σ H x y v u Q I rx ry ⟨_, _, h1.int, h2.int, q⟩
  · cases hz; exact op_isN pins s σ H x y v u Q I rx ry ⟨h2.non, by rw [isNon_V h1]; exact q⟩
  · cases hz; exact op_notN pins s σ H x y v u Q I rx ry ⟨h2.non, by rw [isNon_V h1]; exact q⟩
  · cases hz; exact op_is_bl pins s σ H x y v u Q I rx ry ⟨_, _, h1.bl, h2.bl, q⟩
  · cases hz; exact op_isnot_bl pins s σ H x y v u Q I rx ry ⟨_, _, h1.bl, h2.bl, q⟩
  · cases hz; exact op_in_str pins s σ H x y v u Q I rx ry ⟨_, _, h1.str, h2.str, q⟩
  · obtain ⟨a, xs, e, t, l⟩ := h2.tup
    obtain ⟨g1, g2, g3⟩ := in_D h1 l hz
    exact op_in_seq pins s σ H x y v u Q I rx ry ⟨a, xs, e, .inr t.sq, g1, g2, by rw [if_neg Bool.false_ne_true, g3]; exact q⟩
  · rcases inX_V h1 h2 hz with ⟨a, xs, e, t, g1, g2, g3⟩ | ⟨d, ds, g1, g2, g3, g4, g5⟩
    · exact op_in_seq pins s σ H x y v u Q I rx ry ⟨a, xs, e, .inl t, g1, g2, by rw [if_neg Bool.false_ne_true, g3]; exact q⟩
    · exact op_inD hu pins s σ H x y v u Q I rx ry ⟨d, ds, g1, g2, g3, g4, by rw [g5]; exact q⟩
  · obtain ⟨r', hr, e⟩ := Option.map_eq_some_iff.mp hz
    subst e
    obtain ⟨a, xs, e, t, l⟩ := h2.tup
    obtain ⟨g1, g2, g3⟩ := in_D h1 l hr
    exact op_notIn_seq pins s σ H x y v u Q I rx ry ⟨a, xs, e, .inr t.sq, g1, g2, by rw [if_pos rfl, g3]; exact q⟩
  · obtain ⟨r', hr, e⟩ := Option.map_eq_some_iff.mp hz
    subst e
    rcases inX_V h1 h2 hr with ⟨a, xs, e, t, g1, g2, g3⟩ | ⟨d, ds, g1, g2, g3, g4, g5⟩
    · exact op_notIn_seq pins s σ H x y v u Q I rx ry ⟨a, xs, e, .inl t, g1, g2, by rw [if_pos rfl, g3]; exact q⟩
    · exact op_notInD hu pins s σ H x y v u Q I rx ry ⟨d, ds, g1, g2, g3, g4, by rw [g5]; exact q⟩
  · cases hz
end
end FM

set_option Elab.async false
set_option linter.all false
set_option maxRecDepth 100000
set_option maxHeartbeats 4000000
/-! Ev4: subscripts, slices, built-ins, methods. -/
namespace FM
open PySem PySem.Spec PyProof.Rows L2

/-! ### subscripts -/
theorem atI_rep {K : PySem.W.Frag} {Z : Addr → Prop} {ads : List Addr} {H : Hp} {xs : List V} {ds : List D} {i : Int} {d : D} (l : RepL K Z ads H xs ds) (h : atI ds i = some d) : ∃ v, atI xs i = some v ∧ Rep K Z ads H v d := by
  unfold atI at h ⊢
  rw [l.length]
  cases e : ixN ds.length i with
  | none => rw [e] at h; cases h
  | some j =>
    rw [e] at h
    obtain ⟨v, h1, h2⟩ := l.get (show ds[j]? = some d from h)
    exact ⟨v, h1, h2⟩
theorem valC_rep {K : PySem.W.Frag} {Z : Addr → Prop} {ads : List Addr} {H : Hp} {k : Key} : ∀ {kvs : List (Key × V)} {c : Cell} {d : D}, RepKV K Z ads H kvs c → valC c k = some d → ∃ v, valV kvs k = some v ∧ Rep K Z ads H v d
  | [], [], _, _, h => by cases h
  | [], _ :: _, _, r, _ => by cases r.1
  | _ :: _, [], _, r, _ => by cases r.1
  | (k1, v1) :: kvs, (k2, d2) :: c, d, ⟨r1, r2⟩, h => by
    have r1' : k1 :: kvs.map (·.1) = k2 :: c.map (·.1) := r1
    have r2' : RepL K Z ads H (v1 :: kvs.map (·.2)) (d2 :: c.map (·.2)) := r2
    injection r1' with e1 e2
    subst e1
    cases r2' with
    | cons g1 g2 =>
      by_cases e : k1 = k
      · refine ⟨v1, valV_pos e, ?_⟩
        have z : valC ((k1, d2) :: c) k = some d2 := by simp [valC, List.find?_cons, e]
        rw [z] at h
        cases h
        exact g1
      · have z : valC ((k1, d2) :: c) k = valC c k := by simp [valC, List.find?_cons, e]
        rw [z] at h
        rw [valV_neg (p := (k1, v1)) e]
        exact valC_rep ⟨e2, g2⟩ h
theorem keyD_V {K : PySem.W.Frag} {own : Addr → Prop} {ads : List Addr} {H : Hp} {b : Bool} {v : V} {d : D} {k : Key} (h : RepB K own ads H b v d) (e : keyD d = some k) : v = kV k := by
  cases d with
  | int i => cases e; exact h.int
  | str s => cases e; exact h.str
  | _ => cases e
def rIxD' (K : PySem.W.Frag) : R2 := fun x y H Q => ∃ own ads μ b1 b2 dx dy dz, CellsR K own ads H μ ∧ RepB K own ads H b1 x dx ∧ RepB K own ads H b2 y dy ∧ ixD μ dx dy = some dz ∧ Fin K own ads H false dz μ Q
section
variable {X : Cx}
theorem ix_dict (hu : X.A.units + 1 < cLine) : IxR X (fun x y H Q => ∃ a v, x = .ref a ∧ DGet H a y (some v) ∧ Q v H) := by
  intro value slice pins s σ H x y v u Q I rx ry h hs
  obtain ⟨a, w, rfl, g, q⟩ := h
  obtain rfl : v = Value.ref a := rx
  unfold subscriptTail
  have hT := dict_typeIs I g
  refine wpAny_bind ?_
  rw [getitemInPython_of_ne hT.not_modules]
  refine wpAny_bind (wpAny_specialOf hT PySem.F.slot_dict_getitem.lookup ?_)
  have fin : wpAny (model X.prog X.w) X.A (subscripted slice false (.ref a) u) (fun r s₃ => wpAny (model X.prog X.w) X.A (letTemporaryGo value (.ref a) r >>= fun _ => pure r) (EP X pins σ Q) X.xe s₃) X.xe s := by
    rw [hs]
    exact wpAny_operating (d_getItem hu I g ry fun w' s' I' r' => wpAny_bind (wpAny_letTemporaryGo (wpAny_pure ⟨w, H, I', r', q⟩)))
  first
    | exact wpAny_pure (wpAny_bind fin)
    | exact wpAny_bind (wpAny_pure (wpAny_bind fin))
    | exact wpAny_bind fin
theorem ix_D (hu : X.A.units + 1 < cLine) : IxR X (rIxD' X.K) := by
  intro value slice pins s σ H x y v u Q I rx ry h hs
  obtain ⟨own, ads, μ, b1, b2, dx, dy, dz, c, h1, h2, hz, q⟩ := h
  unfold ixD at hz
  split at hz
  · obtain ⟨a, xs, e, t, l⟩ := h1.lst
    obtain ⟨w, g1, g2⟩ := atI_rep l hz
    exact ix_list value slice pins s σ H x y v u Q I rx ry ⟨a, xs, _, w, e, h2.int, t, g1, q.same c g2⟩ hs
  · obtain ⟨a, xs, e, t, l⟩ := h1.tup
    obtain ⟨w, g1, g2⟩ := atI_rep l hz
    exact ix_tup value slice pins s σ H x y v u Q I rx ry ⟨a, xs, _, w, e, h2.int, t.sq, g1, q.same c g2⟩ hs
  · split at hz
    · rename_i hl
      obtain ⟨c', hc, e⟩ := Option.map_eq_some_iff.mp hz
      subst e
      exact ix_str value slice pins s σ H x y v u Q I rx ry ⟨_, _, c', h1.str, h2.int, hl, hc, q.str c⟩ hs
    · cases hz
  · split at hz
    · rename_i k _ _ cl qk e1 e2
      obtain ⟨a, e, ha⟩ := h1.cell
      obtain ⟨kvs, kds, m1, m2, m3⟩ := c.at k a ha
      rw [e1] at m1
      cases m1
      obtain ⟨w, g1, g2⟩ := valC_rep m3 hz
      refine ix_dict hu value slice pins s σ H x y v u Q I rx ry ⟨a, w, e, ?_, q.same c g2⟩ hs
      rw [keyD_V h2 e2, ← g1]
      exact DGet.k m2
    · cases hz
  · cases hz
/-! ### slices -/
theorem cutV_D {α : Type} (xs : List V) (ys : List α) (e : xs.length = ys.length) (lo hi : Option Int) : cutV xs lo hi = cutD xs lo hi := rfl
theorem RepL.cut {K : PySem.W.Frag} {Z : Addr → Prop} {ads : List Addr} {H : Hp} {xs : List V} {ds : List D} (l : RepL K Z ads H xs ds) (lo hi : Option Int) : RepL K Z ads H (cutV xs lo hi) (cutD ds lo hi) := by
  unfold cutV cutD
  rw [l.length]
  exact (l.drop _).take _
theorem cutD_whole {α : Type} (xs : List α) (lo hi : Option Int) (h : HT.sIx xs.length 0 lo = 0 ∧ HT.sIx xs.length xs.length hi = xs.length) : cutD xs lo hi = xs := by
  unfold cutD
  rw [h.1, h.2]
  simp
def rSlD (K : PySem.W.Frag) : V → Option Int → Option Int → Hp → VK → Prop := fun x lo hi H Q => ∃ own ads μ b1 dx dz, CellsR K own ads H μ ∧ RepB K own ads H b1 x dx ∧ slD dx lo hi = some dz ∧ Fin K own ads H false dz μ Q
theorem sl_D : SlR X (rSlD X.K) := by
  intro pins s σ H x v vl vu lo hi sl Q I rx hs pl pu h
  obtain ⟨own, ads, μ, b1, dx, dz, c, h1, hz, q⟩ := h
  unfold slD at hz
  split at hz
  · cases hz
    obtain ⟨a, xs, e, t, l⟩ := h1.tup
    refine sl_tupA pins s σ H x v vl vu lo hi sl Q I rx hs pl pu ⟨a, xs, e, t.sq, fun w => ?_, fun w => q.newT c (l.cut lo hi)⟩
    rw [l.length] at w
    rw [cutD_whole _ lo hi w] at q
    exact q.same c (.tup t l)
  · cases hz
    obtain ⟨a, xs, e, t, l⟩ := h1.lst
    exact sl_list pins s σ H x v vl vu lo hi sl Q I rx hs pl pu ⟨a, xs, e, t, q.newL c (l.cut lo hi)⟩
  · split at hz
    · rename_i hl
      cases hz
      exact sl_str pins s σ H x v vl vu lo hi sl Q I rx hs pl pu ⟨_, h1.str, hl, by
        have z := q.str c
        unfold cutD at z
        exact z⟩
    · cases hz
  · cases hz
end

/-! ### built-ins -/
theorem asBls_ok : ∀ {ds : List D} {bs : List Bool}, asBls ds = some bs → ds = bs.map D.bl
  | [], _, h => by cases h; rfl
  | d :: ds, bs, h => by
    cases d with
    | bl b =>
      obtain ⟨r, h1, e⟩ := Option.map_eq_some_iff.mp (show (asBls ds).map (b :: ·) = some bs from h)
      subst e
      rw [asBls_ok h1]
      rfl
    | _ => cases h
theorem asInts_ok : ∀ {ds : List D} {bs : List Int}, asInts ds = some bs → ds = bs.map D.int
  | [], _, h => by cases h; rfl
  | d :: ds, bs, h => by
    cases d with
    | int b =>
      obtain ⟨r, h1, e⟩ := Option.map_eq_some_iff.mp (show (asInts ds).map (b :: ·) = some bs from h)
      subst e
      rw [asInts_ok h1]
      rfl
    | _ => cases h
theorem asStrs_ok : ∀ {ds : List D} {bs : List Str}, asStrs ds = some bs → ds = bs.map D.str
  | [], _, h => by cases h; rfl
  | d :: ds, bs, h => by
    cases d with
    | str b =>
      obtain ⟨r, h1, e⟩ := Option.map_eq_some_iff.mp (show (asStrs ds).map (b :: ·) = some bs from h)
      subst e
      rw [asStrs_ok h1]
      rfl
    | _ => cases h
def Bi.name : Bi → Str
  | .len => "len" | .tuple => "tuple" | .list => "list" | .all => "all" | .any => "any" | .abs => "abs" | .int => "int" | .str => "str" | .max2 => "max" | .min2 => "min" | .sum => "sum" | .sorted => "sorted"
def Bi.val : Bi → Value
  | .len => .builtin "len" | .tuple => .type "tuple" | .list => .type "list" | .all => .builtin "all" | .any => .builtin "any" | .abs => .builtin "abs" | .int => .type "int" | .str => .type "str"
  | .max2 => .builtin "max" | .min2 => .builtin "min" | .sum => .builtin "sum" | .sorted => .builtin "sorted"
theorem Bi.boot (b : Bi) : bootBuiltins b.name = some b.val := by cases b <;> decide +kernel
/-- several values -/
def RepBL (K : PySem.W.Frag) (own : Addr → Prop) (ads : List Addr) (H : Hp) : List V → List D → Prop
  | [], [] => True
  | v :: vs, d :: ds => RepB K own ads H true v d ∧ RepBL K own ads H vs ds
  | _, _ => False
theorem RepBL.one {K : PySem.W.Frag} {own : Addr → Prop} {ads : List Addr} {H : Hp} {vs : List V} {d : D} (h : RepBL K own ads H vs [d]) : ∃ v, vs = [v] ∧ RepB K own ads H true v d := by
  cases vs with
  | nil => exact h.elim
  | cons v vs =>
    cases vs with
    | nil => exact ⟨v, rfl, h.1⟩
    | cons _ _ => exact h.2.elim
theorem RepBL.two {K : PySem.W.Frag} {own : Addr → Prop} {ads : List Addr} {H : Hp} {vs : List V} {d e : D} (h : RepBL K own ads H vs [d, e]) : ∃ v w, vs = [v, w] ∧ RepB K own ads H true v d ∧ RepB K own ads H true w e := by
  cases vs with
  | nil => exact h.elim
  | cons v vs =>
    obtain ⟨w, e, h2⟩ := RepBL.one h.2
    subst e
    exact ⟨v, w, rfl, h.1, h2⟩
theorem RepBL.ext {K : PySem.W.Frag} {own : Addr → Prop} {ads ads' : List Addr} {H H' : Hp} {μ : Cells} (c : CellsR K own ads H μ) (e : Ext ads H ads' H') : ∀ {vs : List V} {ds : List D}, RepBL K own ads H vs ds → RepBL K own ads' H' vs ds
  | [], [], _ => True.intro
  | v :: vs, d :: ds, h => ⟨h.1.ext c e, RepBL.ext c e h.2⟩
  | [], _ :: _, h => h.elim
  | _ :: _, [], h => h.elim
def rBi (K : PySem.W.Frag) (b : Bi) : List V → Hp → VK → Prop := fun xs H Q => ∃ own ads μ ds dz, CellsR K own ads H μ ∧ RepBL K own ads H xs ds ∧ biD μ b ds = some dz ∧ Fin K own ads H false dz μ Q
/-! ### sorted -/
theorem insI_perm (i : Int) : ∀ l, (insI i l).Perm (i :: l)
  | [] => List.Perm.refl _
  | x :: xs => by
    unfold insI
    split
    · exact List.Perm.refl _
    · exact ((insI_perm i xs).cons x).trans (List.Perm.swap i x xs)
theorem srtI_perm : ∀ l, (srtI l).Perm l
  | [] => List.Perm.refl _
  | x :: xs => (insI_perm x _).trans ((srtI_perm xs).cons x)
theorem insI_pw (i : Int) : ∀ l, l.Pairwise (· ≤ ·) → (insI i l).Pairwise (· ≤ ·)
  | [], _ => List.pairwise_singleton ..
  | x :: xs, h => by
    obtain ⟨h1, h2⟩ := List.pairwise_cons.mp h
    unfold insI
    split
    · rename_i hi
      exact List.pairwise_cons.mpr ⟨fun y hy => by
        rcases List.mem_cons.mp hy with rfl | hy
        · exact hi
        · exact Int.le_trans hi (h1 y hy), h⟩
    · rename_i hi
      refine List.pairwise_cons.mpr ⟨fun y hy => ?_, insI_pw i xs h2⟩
      rcases List.mem_cons.mp ((insI_perm i xs).mem_iff.mp hy) with rfl | hy
      · omega
      · exact h1 y hy
theorem srtI_pw : ∀ l, (srtI l).Pairwise (· ≤ ·)
  | [] => List.Pairwise.nil
  | x :: xs => insI_pw x _ (srtI_pw xs)
theorem srtI_uniq {l m : List Int} (p : m.Perm l) (h : m.Pairwise (· ≤ ·)) : m = srtI l :=
  List.Perm.eq_of_pairwise (le := (· ≤ ·)) (fun a b _ _ h1 h2 => Int.le_antisymm h1 h2) h (srtI_pw l) (p.trans (srtI_perm l).symm)
theorem leP_iff {p q : Int × Int} : leP p q = true ↔ p.1 < q.1 ∨ (p.1 = q.1 ∧ p.2 ≤ q.2) := by
  unfold leP
  simp
theorem leP_total {p q : Int × Int} (h : ¬ leP p q = true) : leP q p = true := by
  rw [leP_iff] at *
  omega
theorem leP_trans {p q r : Int × Int} (h : leP p q = true) (g : leP q r = true) : leP p r = true := by
  rw [leP_iff] at *
  omega
theorem insP_perm (i : Int × Int) : ∀ l, (insP i l).Perm (i :: l)
  | [] => List.Perm.refl _
  | x :: xs => by
    unfold insP
    split
    · exact List.Perm.refl _
    · exact ((insP_perm i xs).cons x).trans (List.Perm.swap i x xs)
theorem srtP_perm : ∀ l, (srtP l).Perm l
  | [] => List.Perm.refl _
  | x :: xs => (insP_perm x _).trans ((srtP_perm xs).cons x)
theorem insP_pw (i : Int × Int) : ∀ l, l.Pairwise (fun a b => leP a b = true) → (insP i l).Pairwise (fun a b => leP a b = true)
  | [], _ => List.pairwise_singleton ..
  | x :: xs, h => by
    obtain ⟨h1, h2⟩ := List.pairwise_cons.mp h
    unfold insP
    split
    · rename_i hi
      exact List.pairwise_cons.mpr ⟨fun y hy => by
        rcases List.mem_cons.mp hy with rfl | hy
        · exact hi
        · exact leP_trans hi (h1 y hy), h⟩
    · rename_i hi
      refine List.pairwise_cons.mpr ⟨fun y hy => ?_, insP_pw i xs h2⟩
      rcases List.mem_cons.mp ((insP_perm i xs).mem_iff.mp hy) with rfl | hy
      · exact leP_total hi
      · exact h1 y hy
theorem srtP_pw : ∀ l, (srtP l).Pairwise (fun a b => leP a b = true)
  | [] => List.Pairwise.nil
  | x :: xs => insP_pw x _ (srtP_pw xs)
theorem srtP_uniq {l m : List (Int × Int)} (p : m.Perm l) (h : m.Pairwise (fun a b => leP a b = true)) : m = srtP l :=
  List.Perm.eq_of_pairwise (le := fun a b => leP a b = true) (fun a b _ _ h1 h2 => by
    rw [leP_iff] at *
    exact Prod.ext (by omega) (by omega)) h (srtP_pw l) (p.trans (srtP_perm l).symm)
theorem asPairs_ok : ∀ {ds : List D} {ps : List (Int × Int)}, asPairs ds = some ps → ds = ps.map pD
  | [], _, h => by cases h; rfl
  | d :: ds, ps, h => by
    unfold asPairs at h
    split at h
    · rename_i e
      cases e
    · rename_i a b ds' e
      cases e
      obtain ⟨r, h1, e⟩ := Option.map_eq_some_iff.mp h
      subst e
      rw [asPairs_ok h1]
      rfl
    · cases h
theorem repL_all {K : PySem.W.Frag} {Z : Addr → Prop} {ads : List Addr} {H : Hp} : ∀ {vs : List V} {ds : List D}, RepL K Z ads H vs ds → ∀ v ∈ vs, ∃ d ∈ ds, Rep K Z ads H v d
  | _, [], h, v, hv => by cases h; cases hv
  | _, d :: ds, h, v, hv => by
    cases h with
    | cons h1 h2 =>
      rcases List.mem_cons.mp hv with rfl | hv
      · exact ⟨d, List.mem_cons_self .., h1⟩
      · obtain ⟨e, e1, e2⟩ := repL_all h2 v hv
        exact ⟨e, List.mem_cons_of_mem _ e1, e2⟩
theorem rep_pD {K : PySem.W.Frag} {Z : Addr → Prop} {ads : List Addr} {H : Hp} {v : V} {p : Int × Int} (h : Rep K Z ads H v (pD p)) : ∃ t, v = .ref t ∧ SqT K H t [.int p.1, .int p.2] := by
  cases h with
  | tup h1 h2 =>
    cases h2 with
    | cons h3 h4 =>
      cases h4 with
      | cons h5 h6 =>
        cases h3
        cases h5
        cases h6
        exact ⟨_, rfl, h1.sq⟩
section
variable {X : Cx}
open Classical in
/-- which pair stands at a value -/
noncomputable def kOf (K : PySem.W.Frag) (H : Hp) (v : V) : Int × Int := if h : ∃ p : Int × Int, ∃ t, v = .ref t ∧ SqT K H t [.int p.1, .int p.2] then h.choose else (0, 0)
theorem kOf_spec {K : PySem.W.Frag} {H : Hp} {v : V} (h : ∃ p : Int × Int, ∃ t, v = .ref t ∧ SqT K H t [.int p.1, .int p.2]) : ∃ t, v = .ref t ∧ SqT K H t [.int (kOf K H v).1, .int (kOf K H v).2] := by
  unfold kOf
  rw [dif_pos h]
  exact h.choose_spec
theorem kOf_eq {pins : List (Addr × Obj)} {σ : L2.St} {H : Hp} {s : Shared} (I : Inv X pins σ H s) {v : V} {p : Int × Int} (h : ∃ t, v = .ref t ∧ SqT X.K H t [.int p.1, .int p.2]) : kOf X.K H v = p := by
  obtain ⟨t, e1, e2⟩ := kOf_spec ⟨p, h⟩
  obtain ⟨t', e3, e4⟩ := h
  subst e1
  cases e3
  have z := I.tuple_inj e2 e4
  have z1 : (kOf X.K H (.ref t)).1 = p.1 := V.int.inj (List.cons.inj z).1
  have z2 : (kOf X.K H (.ref t)).2 = p.2 := V.int.inj (List.cons.inj (List.cons.inj z).2).1
  exact Prod.ext z1 z2
theorem sorted_D {own : Addr → Prop} {ads : List Addr} {H : Hp} {μ : Cells} {a : Addr} {ys : List V} {ds : List D} {dz : D} (c : CellsR X.K own ads H μ) (t : SqL X.K H a ys) (l : RepL X.K (Zo own ads) ads H ys ds) (hz : sortD ds = some dz)
    {pins : List (Addr × Obj)} {s : Shared} {σ : L2.St} {us : List Value} {Q : VK} (I : Inv X pins σ H s) (r : Vals [V.ref a] us) (q : Fin X.K own ads H false dz μ Q) :
    wpAny (model X.prog X.w) X.A (PySem.call (.builtin "sorted") us) (EP X pins σ Q) X.xe s := by
  unfold sortD at hz
  split at hz
  · rename_i ns hn
    cases hz
    rw [asInts_ok hn] at l
    have e3 := l.ints
    subst e3
    refine cr_sortedI pins s σ H _ us Q I r ⟨a, ns, rfl, t, fun ns' p h1 h2 h3 => ?_⟩
    rw [srtI_uniq h1 h2]
    exact q.newL c (RepL.ofInts _) p h3
  · obtain ⟨ps, hp, e⟩ := Option.map_eq_some_iff.mp hz
    subst e
    rw [asPairs_ok hp] at l
    obtain ⟨its, rv, hl, hzl⟩ := I.list t
    obtain ⟨u, rfl, ru⟩ := vals1 r
    obtain rfl : u = Value.ref a := ru
    have hx : ∀ x ∈ ys, ∃ p : Int × Int, p ∈ ps ∧ (∃ t, x = .ref t ∧ SqT X.K H t [.int p.1, .int p.2]) := fun x m => by
      obtain ⟨d, d1, d2⟩ := repL_all l x m
      obtain ⟨p, p1, rfl⟩ := List.mem_map.mp d1
      exact ⟨p, p1, rep_pD d2⟩
    obtain ⟨e1, e2⟩ := refs_back rv fun x m => by
      obtain ⟨_, _, t, e, _⟩ := hx x m
      exact ⟨t, e⟩
    refine SrtO.sorted_pairsO (k := fun u => kOf X.K H (backV u)) hl.isList (by rw [← rv.length]; exact hzl) (fun v hv => ?_) fun h' d out h1 h2 kp hd hn => ?_
    · obtain ⟨t, rfl⟩ := e2 v hv
      have hm : V.ref t ∈ ys := by rw [e1]; exact List.mem_map.mpr ⟨_, hv, rfl⟩
      obtain ⟨p, _, t', e, ht⟩ := hx _ hm
      cases e
      obtain ⟨its2, r2, ⟨o, ho, hc, n, hd⟩, _⟩ := I.tuple ht
      obtain ⟨u1, u2, rfl, ri, rj⟩ := vals2 r2
      obtain ⟨t1, rfl⟩ := ri
      obtain ⟨t2, rfl⟩ := rj
      have ke : kOf X.K H (backV (Value.ref t)) = p := kOf_eq I ⟨t, rfl, ht⟩
      rw [ke]
      exact ⟨t, o, t1, t2, n, rfl, ho, hc, hd⟩
    · have h3 : ∀ u ∈ out, ∃ a, u = Value.ref a := fun u hu => e2 u (h2.perm.mem_iff.mp hu)
      obtain ⟨n, hn⟩ := hn
      have pm : (out.map backV).Perm ys := by rw [e1]; exact h2.perm.map backV
      have kp1 : ((out.map backV).map (kOf X.K H)).Perm ps := by
        have kl : ∀ {vs : List V} {qs : List (Int × Int)}, RepL X.K (Zo own ads) ads H vs (qs.map pD) → vs.map (kOf X.K H) = qs := by
          intro vs qs
          induction qs generalizing vs with
          | nil => intro h; cases h; rfl
          | cons q qs ih =>
            intro h
            cases h with
            | cons g1 g2 => rw [List.map_cons, ih g2, kOf_eq I (rep_pD g1)]
        have := pm.map (kOf X.K H)
        rwa [kl l] at this
      have srt : ((out.map backV).map (kOf X.K H)).Pairwise (fun a b => leP a b = true) := by
        rw [List.map_map, List.pairwise_map]
        refine h1.imp fun {x y} z => ?_
        have z' := SrtO.lexB_no.mp z
        rw [leP_iff]
        simp only [Function.comp]
        omega
      have un := srtP_uniq kp1 srt
      have rl : RepL X.K (Zo own ads) ads H (out.map backV) ((srtP ps).map pD) := by
        rw [← un]
        have go : ∀ ws : List V, (∀ w ∈ ws, w ∈ ys) → RepL X.K (Zo own ads) ads H ws ((ws.map (kOf X.K H)).map pD) := by
          intro ws
          induction ws with
          | nil => intro _; exact .nil
          | cons w ws ih =>
            intro h
            obtain ⟨d, d1, d2⟩ := repL_all l w (h w (List.mem_cons_self ..))
            obtain ⟨p, p1, rfl⟩ := List.mem_map.mp d1
            have ke := kOf_eq I (rep_pD d2)
            rw [List.map_cons, List.map_cons, ke]
            exact .cons d2 (ih fun z hz => h z (List.mem_cons_of_mem _ hz))
        exact go _ fun w hw => pm.mem_iff.mp hw
      have hb := h2.len
      refine ⟨.ref d, upd H d (.lst (out.map backV)), I.laid (t' := s.toks) kp hd ⟨?_, out, n, vals_back h3, hn⟩, rfl, q.newL c rl d (I.hok.fresh hd)⟩
      show (out.map backV).length ≤ sizeLine
      rw [pm.length_eq]
      exact hzl
end
section
variable {X : Cx}
theorem bi_D (hc : X.calm = true) (b : Bi) : CallR X b.val (rBi X.K b) := by
  intro pins s σ H xs us Q I r h
  obtain ⟨own, ads, μ, ds, dz, c, h1, hz, q⟩ := h
  unfold biD at hz
  split at hz
  · cases hz
    obtain ⟨v, e, h2⟩ := h1.one
    obtain ⟨a, ys, e2, t, l⟩ := h2.lst
    subst e e2
    exact call_len_seq pins s σ H _ us Q I r ⟨a, ys, rfl, .inl t, by rw [l.length]; exact q.int c⟩
  · cases hz
    obtain ⟨v, e, h2⟩ := h1.one
    obtain ⟨a, ys, e2, t, l⟩ := h2.tup
    subst e e2
    exact call_len_seq pins s σ H _ us Q I r ⟨a, ys, rfl, .inr t.sq, by rw [l.length]; exact q.int c⟩
  · split at hz
    · rename_i hl
      cases hz
      obtain ⟨v, e, h2⟩ := h1.one
      have e2 := h2.str
      subst e e2
      exact call_len_str pins s σ H _ us Q I r ⟨_, rfl, hl, q.int c⟩
    · cases hz
  · cases hz
    obtain ⟨v, e, h2⟩ := h1.one
    obtain ⟨a, ys, e2, t, l⟩ := h2.lst
    subst e e2
    exact call_tuple_of pins s σ H _ us Q I r ⟨a, ys, rfl, .inl ⟨t, q.newT c l⟩⟩
  · cases hz
    obtain ⟨v, e, h2⟩ := h1.one
    obtain ⟨a, ys, e2, t, l⟩ := h2.tup
    subst e e2
    exact call_tuple_of pins s σ H _ us Q I r ⟨a, ys, rfl, .inr ⟨t.sq, q.same c (.tup t l)⟩⟩
  · cases hz
    obtain ⟨v, e, h2⟩ := h1.one
    obtain ⟨a, ys, e2, t, l⟩ := h2.lst
    subst e e2
    exact call_list_of pins s σ H _ us Q I r ⟨a, ys, rfl, .inl t, q.newL c l⟩
  · cases hz
    obtain ⟨v, e, h2⟩ := h1.one
    obtain ⟨a, ys, e2, t, l⟩ := h2.tup
    subst e e2
    exact call_list_of pins s σ H _ us Q I r ⟨a, ys, rfl, .inr t.sq, q.newL c l⟩
  · obtain ⟨bs, hb, e0⟩ := Option.map_eq_some_iff.mp hz
    subst e0
    obtain ⟨v, e, h2⟩ := h1.one
    obtain ⟨a, ys, e2, t, l⟩ := h2.lst
    subst e e2
    rw [asBls_ok hb] at l
    have e3 := l.bls
    subst e3
    exact cr_all hc pins s σ H _ us Q I r ⟨a, bs, rfl, t, q.bl c⟩
  · obtain ⟨bs, hb, e0⟩ := Option.map_eq_some_iff.mp hz
    subst e0
    obtain ⟨v, e, h2⟩ := h1.one
    obtain ⟨a, ys, e2, t, l⟩ := h2.lst
    subst e e2
    rw [asBls_ok hb] at l
    have e3 := l.bls
    subst e3
    exact cr_any hc pins s σ H _ us Q I r ⟨a, bs, rfl, t, q.bl c⟩
  · obtain ⟨bs, hb, e0⟩ := Option.map_eq_some_iff.mp hz
    subst e0
    obtain ⟨v, e, h2⟩ := h1.one
    obtain ⟨a, ys, e2, t, l⟩ := h2.lst
    subst e e2
    rw [asInts_ok hb] at l
    have e3 := l.ints
    subst e3
    exact cr_sum hc pins s σ H _ us Q I r ⟨a, bs, rfl, t, q.int c⟩
  · cases hz
    obtain ⟨v, e, h2⟩ := h1.one
    have e2 := h2.int
    subst e e2
    exact call_abs pins s σ H _ us Q I r ⟨_, rfl, q.int c⟩
  · cases hz
    obtain ⟨v, e, h2⟩ := h1.one
    have e2 := h2.int
    subst e e2
    exact call_int1 pins s σ H _ us Q I r (.inl ⟨_, rfl, q.int c⟩)
  · split at hz
    · rename_i hn
      split at hz
      · rename_i hl
        cases hz
        obtain ⟨v, e, h2⟩ := h1.one
        have e2 := h2.str
        subst e e2
        exact call_int_str pins s σ H _ us Q I r ⟨_, _, rfl, hn, hl, q.int c⟩
      · cases hz
    · cases hz
  · split at hz
    · rename_i hl
      cases hz
      obtain ⟨v, e, h2⟩ := h1.one
      have e2 := h2.int
      subst e e2
      exact call_str_int pins s σ H _ us Q I r ⟨_, rfl, hl, q.str c⟩
    · cases hz
  · cases hz
    obtain ⟨v, w, e, h2, h3⟩ := h1.two
    have e2 := h2.int
    have e3 := h3.int
    subst e e2 e3
    exact call_max2 hc pins s σ H _ us Q I r ⟨_, _, rfl, q.int c⟩
  · cases hz
    obtain ⟨v, w, e, h2, h3⟩ := h1.two
    have e2 := h2.int
    have e3 := h3.int
    subst e e2 e3
    exact call_min2 hc pins s σ H _ us Q I r ⟨_, _, rfl, q.int c⟩
  · obtain ⟨v, e, h2⟩ := h1.one
    obtain ⟨a, ys, e2, t, l⟩ := h2.lst
    subst e e2
    exact sorted_D c t l hz I r q
  · cases hz
end

/-! ### isinstance -/
def Ty.name : Ty → String
  | .int => "int" | .bool => "bool" | .str => "str" | .tuple => "tuple" | .list => "list"
def Ty.py : Ty → Str
  | .int => "int" | .bool => "bool" | .str => "str" | .tuple => "tuple" | .list => "list"
theorem Ty.boot (t : Ty) : bootBuiltins t.py = some (.type t.name) := by cases t <;> decide +kernel
theorem isi_kit {K : PySem.W.Frag} {own : Addr → Prop} {ads : List Addr} {H : Hp} {b : Bool} {v : V} {d : D} {t : Ty} {r : Bool} (h : RepB K own ads H b v d) (e : isiD d t = some r) : ∃ u, TyX K H v u ∧ PySem.W.kitOne K u (.type t.name) = some r := by
  cases d with
  | non =>
    rw [h.non]
    refine ⟨_, .base .non, kit_ty ?_⟩
    cases t <;> (cases e; decide +kernel)
  | bl x =>
    rw [h.bl]
    refine ⟨_, .base (.bl x), kit_ty ?_⟩
    cases t <;> (cases e; decide +kernel)
  | int x =>
    rw [h.int]
    refine ⟨_, .base (.int x), kit_ty ?_⟩
    cases t <;> (cases e; decide +kernel)
  | str x =>
    rw [h.str]
    refine ⟨_, .base (.str x), kit_ty ?_⟩
    cases t <;> (cases e; decide +kernel)
  | tup ds =>
    obtain ⟨a, xs, e1, t1, l⟩ := h.tup
    rw [e1]
    have ty : TyX K H (.ref a) (.type "tuple") := by
      rcases t1 with ⟨t1 | ⟨o, t1⟩, _⟩ | ⟨o, its, n, t1, t2, _⟩
      · exact .base (.tup t1)
      · exact .fTuple t1
      · exact .kTuple t1 t2
    refine ⟨_, ty, kit_ty ?_⟩
    cases t <;> (cases e; decide +kernel)
  | lst ds =>
    obtain ⟨a, xs, e1, t1, l⟩ := h.lst
    rw [e1]
    have ty : TyX K H (.ref a) (.type "list") := by
      rcases t1 with (t1 | ⟨o, t1⟩) | ⟨o, its, n, t1, t2, _⟩
      · exact .base (.lst t1)
      · exact .base (.frz t1)
      · exact .kList t1 t2
    refine ⟨_, ty, kit_ty ?_⟩
    cases t <;> (cases e; decide +kernel)
  | cell k => cases e

/-! ### methods -/
def Me.name : Me → Str
  | .bits => "bit_length" | .partition => "partition" | .join => "join"
end FM

set_option Elab.async false
set_option linter.all false
set_option maxRecDepth 100000
set_option maxHeartbeats 4000000
/-! Ev5: the look at the real tree; expressions. -/
namespace FM
open PySem PySem.Spec PyProof.Rows L2

/-! ### the look -/
def visB (sc : Scope) (x : Str) : Bool := match sc.names.lookup x with
  | some .local => true
  | some .cell => true
  | some .free => true
  | _ => false
def gloB (sc : Scope) (x : Str) : Bool := match sc.names.lookup x with
  | some .globalImplicit => true
  | _ => false
def locB (sc : Scope) (x : Str) : Bool := match sc.names.lookup x with
  | some .local => true
  | some .cell => true
  | _ => false
def notStar : Expr → Bool
  | .Starred _ _ => false
  | _ => true
def notSlice : Expr → Bool
  | .Slice _ _ _ _ => false
  | _ => true
def notSet : Expr → Bool
  | .Set _ _ _ => false
  | _ => true
def notCall : Expr → Bool
  | .Call _ _ _ _ => false
  | _ => true
theorem starEach_cons {e : Expr} (h : notStar e = true) (es : List Expr) (env : PySem.Env) : starEach (e :: es) env = (false, eval e env) :: starEach es env := by
  cases e <;> first | rfl | cases h
theorem plainIx_of {e : Expr} (h : notSlice e = true) : PlainIx e := by
  intro o i
  cases e <;> first | rfl | cases h
theorem folded_of {e : Expr} (h : notSet e = true) (env : PySem.Env) (x : Value) : foldedSetIterable e env x = pure x := by
  cases e <;> first | rfl | cases h
theorem marks_of {e : Expr} (h : notSet e = true) (o : CmpOp) : behindInMarks o e = false := by
  cases e <;> first | rfl | cases h
/-- the base of a method's call: no super() -/
def baseOk : Expr → Bool
  | .Call (.Name _ _) [] [] _ => false
  | _ => true
theorem base_of {o : Expr} (h : baseOk o = true) (m : Str) (env : PySem.Env) : attributeBase o m env (eval o env) = eval o env := by
  unfold attributeBase
  split
  · cases h
  · rfl
def nameIs (N : List Str) (sc : Scope) (i : Nat) (x : Str) : Bool := decide (N[i]? = some x) && visB sc x && !(x == ("__debug__" : Str)) && !(x == ("__classdict__" : Str))
def ownOf (N : List Str) : List Nat → List (Str × Nat)
  | [] => []
  | i :: is => (N.getD i "", i) :: ownOf N is
def Tg.slots : Tg → List Nat
  | .nm i => [i]
  | .tp is => is
def chkTs (N : List Str) (sc : Scope) : List Nat → List Expr → Bool
  | [], [] => true
  | i :: is, .Name x _ :: es => decide (N[i]? = some x) && locB sc x && chkTs N sc is es
  | _, _ => false
def chkTg (N : List Str) (sc : Scope) : Tg → Expr → Bool
  | .nm i, .Name x _ => decide (N[i]? = some x) && locB sc x
  | .tp is, .Tuple es _ _ => chkTs N sc is es && decide is.Nodup
  | _, _ => false
def Bi.argsOk : Bi → List Expr → Bool
  | _, [] => false
  | _, _ => true
def chkKs : List Str → List (Option Expr) → Bool
  | [], [] => true
  | k :: ks, some (.Constant (.str j) _ _) :: r => decide (k = j) && chkKs ks r
  | _, _ => false
def Me.arOk : Me → List Expr → Bool
  | .bits, xs => xs.isEmpty
  | _, xs => xs.length == 1
mutual
def chkE (N fs : List Str) : E → Scope → Expr → Bool
  | .var i, sc, .Name x _ => nameIs N sc i x
  | .int i, _, .Constant (.int j) _ _ => decide (i = j)
  | .bl i, _, .Constant (.bool j) _ _ => decide (i = j)
  | .non, _, .Constant .none _ _ => true
  | .str i, _, .Constant (.str j) _ _ => decide (i = j)
  | .op o a b, sc, .BinOp x o' y _ => decide (o = o') && chkE N fs a sc x && chkE N fs b sc y
  | .neg a, sc, .UnaryOp .USub x _ => chkE N fs a sc x
  | .cmp o a b, sc, .Compare x [o'] [y] _ => decide (o = o') && notSet y && chkE N fs a sc x && chkE N fs b sc y
  | .chn o p a b c, sc, .Compare x [o', p'] [y, z] _ => decide (o = o') && decide (p = p') && notSet y && notSet z && chkE N fs a sc x && chkE N fs b sc y && chkE N fs c sc z
  | .and a b, sc, .BoolOp .And (x :: y :: r) pos => chkE N fs a sc x && (if r.isEmpty then chkE N fs b sc y else chkE N fs b sc (.BoolOp .And (y :: r) pos))
  | .or a b, sc, .BoolOp .Or (x :: y :: r) pos => chkE N fs a sc x && (if r.isEmpty then chkE N fs b sc y else chkE N fs b sc (.BoolOp .Or (y :: r) pos))
  | .not a, sc, .UnaryOp .Not x _ => chkE N fs a sc x
  | .ife c a b, sc, .IfExp z x y _ => chkE N fs c sc z && chkE N fs a sc x && chkE N fs b sc y
  | .tup es, sc, .Tuple xs _ _ => chkEs N fs es sc xs
  | .lst es, sc, .List xs _ => chkEs N fs es sc xs
  | .ix a b, sc, .Subscript x y _ => notSlice y && chkE N fs a sc x && chkE N fs b sc y
  | .sl a lo hi, sc, .Subscript x (.Slice l h none _) _ => chkE N fs a sc x && chkEO N fs lo sc l && chkEO N fs hi sc h
  | .call f es, sc, .Call (.Name g _) xs [] _ => decide (fs[f]? = some g) && gloB sc g && !(g == ("__debug__" : Str)) && chkEs N fs es sc xs
  | .callB f es, sc, .Call (.Name g _) xs [] _ => decide (fs[f]? = some g) && gloB sc g && !(g == ("__debug__" : Str)) && chkEs N fs es sc xs && !xs.isEmpty
  | .bi b es, sc, .Call (.Name g _) xs [] _ => decide (g = b.name) && gloB sc g && !xs.isEmpty && chkEs N fs es sc xs
  | .isi a t, sc, .Call (.Name g _) [x, .Name h _] [] _ => decide (g = "isinstance") && gloB sc g && decide (h = t.py) && gloB sc h && notStar x && chkE N fs a sc x
  | .me m o es, sc, .Call (.Attribute x g apos) xs [] cpos => decide (g = m.name) && (apos.endLine == cpos.line) && baseOk x && chkE N fs o sc x && m.arOk xs && chkEs N fs es sc xs
  | .lc elt tg it cond, sc, .ListComp x [⟨t, i, ifs, n⟩] scope _ => decide (n = 0) && blkC N sc scope (ownOf N tg.slots) && notSet i && chkTg N scope tg t && chkIt N fs it sc i && chkC N fs cond scope ifs && chkE N fs elt scope x
  | .dict ks es, sc, .Dict keys values _ => chkKs ks keys && decide (keys.length = values.length) && !keys.isEmpty && chkEs N fs es sc values
  | _, _, _ => false
def chkEs (N fs : List Str) : Es → Scope → List Expr → Bool
  | .nil, _, [] => true
  | .cons e es, sc, x :: xs => notStar x && chkE N fs e sc x && chkEs N fs es sc xs
  | _, _, _ => false
def chkEO (N fs : List Str) : EO → Scope → Option Expr → Bool
  | .none, _, none => true
  | .some e, sc, some x => chkE N fs e sc x
  | _, _, _ => false
def chkC (N fs : List Str) : EO → Scope → List Expr → Bool
  | .none, _, [] => true
  | .some e, sc, [x] => chkE N fs e sc x
  | _, _, _ => false
def chkIt (N fs : List Str) : It → Scope → Expr → Bool
  | .seq e, sc, x => chkE N fs e sc x
  | .rng1 a, sc, .Call (.Name g _) [x] [] _ => decide (g = "range") && gloB sc g && notStar x && chkE N fs a sc x
  | .rng2 a b, sc, .Call (.Name g _) [x, y] [] _ => decide (g = "range") && gloB sc g && notStar x && notStar y && chkE N fs a sc x && chkE N fs b sc y
  | .rng3 a b c, sc, .Call (.Name g _) [x, y, z] [] _ => decide (g = "range") && gloB sc g && notStar x && notStar y && notStar z && chkE N fs a sc x && chkE N fs b sc y && chkE N fs c sc z
  | _, _, _ => false
end

/-! ### where one stands -/
/-- a def's promise: what F says of plain arguments -/
def spF (K : PySem.W.Frag) (ar : Nat) (F : List D → Cells → Option (D × Cells)) : Sp := fun vs H Q _ => vs.length = ar ∧ ∃ own ads ds μ d μ', RepL K (Zo own ads) ads H vs ds ∧ CellsR K own ads H μ ∧ F ds μ = some (d, μ') ∧ Fin K own ads H false d μ' Q
/-- the def g of the text keeps what F says -/
def FnH (P : Program) (w : World) (K : PySem.W.Frag) (mg : Str → Option Value) (base : Heap) (n : Nat) (g : Str) (F : List D → Cells → Option (D × Cells)) : Prop :=
  ∀ ds μ d μ', F ds μ = some (d, μ') → ∃ a fd ps, mg g = some (.ref a) ∧ PySem.W.keepIn K (.ref a) = true ∧ Binds K fd ps [] ∧ ps.length = ds.length ∧ FnOk P w K mg base CX0 n a fd ps (spF K ps.length F)
/-- the built-in names -/
def bnames : List Str := ["len", "tuple", "list", "all", "any", "abs", "int", "str", "max", "min", "sum", "range", "isinstance", "bool", "sorted"]
structure GX (N fs : List Str) (F : Fs) (n : Nat) (sc : Scope) (X : Cx) : Prop where
  hN : X.N = N
  nd : N.Nodup
  calm : X.calm = true
  nox : X.xe = fun _ _ => False
  room : Room n X.A
  vis : ∀ x, visB sc x = true → Vis X.env.scope x
  glo : ∀ x, gloB sc x = true → Gl X x
  loc : ∀ x, locB sc x = true → Loc X.env.scope x ∧ (X.fn x = true ∨ X.env.scope.names.lookup x = some .local)
  cap : ∀ x, (sc.names.lookup x = some .cell ∨ sc.names.lookup x = some .free) → (X.env.scope.names.lookup x = some .cell ∨ X.env.scope.names.lookup x = some .free)
  bn : ∀ x ∈ bnames, X.mg x = none
  fn : ∀ f g, fs[f]? = some g → FnH X.prog X.w X.K X.mg X.base n g (F f)

/-! ### readings -/
def SlR (K : PySem.W.Frag) (own : Addr → Prop) (ads : List Addr) (H : Hp) : Sl → V → Prop
  | .pl d, v => Rep K (Zo own ads) ads H v d
  | .ow ds, v => ∃ a xs, v = .ref a ∧ H a = some (.lst xs) ∧ own a ∧ RepL K (Zo own ads) ads H xs ds
def EnvR (K : PySem.W.Frag) (own : Addr → Prop) (ads : List Addr) (H : Hp) (σ : L2.St) (ρ : Env) : Prop :=
  ∀ (i : Nat) (s : Sl), ρ[i]? = some (some s) → ∃ v : V, σ[i]? = some (some v) ∧ SlR K own ads H s v
theorem SlR.ext {K : PySem.W.Frag} {own : Addr → Prop} {ads ads' : List Addr} {H H' : Hp} {μ : Cells} {s : Sl} {v : V} (c : CellsR K own ads H μ) (e : Ext ads H ads' H') (h : SlR K own ads H s v) : SlR K own ads' H' s v := by
  cases s with
  | pl d => exact Rep.ext e h
  | ow ds =>
    obtain ⟨a, xs, e1, e2, e3, e4⟩ := h
    exact ⟨a, xs, e1, e.keep _ _ e2 fun m => c.dis a m e3, e3, e4.ext e⟩
theorem EnvR.ext {K : PySem.W.Frag} {own : Addr → Prop} {ads ads' : List Addr} {H H' : Hp} {μ : Cells} {σ : L2.St} {ρ : Env} (c : CellsR K own ads H μ) (e : Ext ads H ads' H') (h : EnvR K own ads H σ ρ) : EnvR K own ads' H' σ ρ := fun i s q => by
  obtain ⟨v, h1, h2⟩ := h i s q
  exact ⟨v, h1, h2.ext c e⟩
/-- the whole of a state: slots, cells -/
structure Hold (K : PySem.W.Frag) (own : Addr → Prop) (ads : List Addr) (H : Hp) (σ : L2.St) (ρ : Env) (μ : Cells) : Prop where
  e : EnvR K own ads H σ ρ
  c : CellsR K own ads H μ
  len : ρ.length = σ.length
/-- behind: the datum, the cells; the environment stands -/
abbrev Fin2 (K : PySem.W.Frag) (own : Addr → Prop) (ads : List Addr) (H : Hp) (σ : L2.St) (ρ : Env) (b : Bool) (z : D) (μ' : Cells) (Q : VK) : Prop :=
  ∀ v H' ads', Ext ads H ads' H' → Hold K own ads' H' σ ρ μ' → RepB K own ads' H' b v z → Q v H'
def tE (K : PySem.W.Frag) (F : Fs) (e : E) : TE := fun σ H Q => ∃ own ads ρ μ d μ', Hold K own ads H σ ρ μ ∧ ev F e ρ μ = some (d, μ') ∧ Fin2 K own ads H σ ρ (lk ρ e) d μ' Q
def tEs (K : PySem.W.Frag) (F : Fs) (es : Es) : TA := fun σ H Q => ∃ own ads ρ μ ds μ', Hold K own ads H σ ρ μ ∧ evs F es ρ μ = some (ds, μ') ∧
  ∀ vs H' ads', Ext ads H ads' H' → Hold K own ads' H' σ ρ μ' → RepBL K own ads' H' vs ds → (lks ρ es = false → RepL K (Zo own ads') ads' H' vs ds) → Q vs H'
def tEO (K : PySem.W.Frag) (F : Fs) (e : EO) : TO := fun σ H Q => ∃ own ads ρ μ d μ', Hold K own ads H σ ρ μ ∧ evo F e ρ μ = some (d, μ') ∧ ∀ H' ads', Ext ads H ads' H' → Hold K own ads' H' σ ρ μ' → Q d H'
/-- as a test -/
def tT (K : PySem.W.Frag) (F : Fs) (e : E) : TT := fun σ H Q => ∃ own ads ρ μ b μ', Hold K own ads H σ ρ μ ∧ ev F e ρ μ = some (.bl b, μ') ∧ ∀ H' ads', Ext ads H ads' H' → Hold K own ads' H' σ ρ μ' → Q b H'
def tC' (K : PySem.W.Frag) (F : Fs) (e : EO) : TT := fun σ H Q => ∃ own ads ρ μ b μ', Hold K own ads H σ ρ μ ∧ evc F e ρ μ = some (b, μ') ∧ ∀ H' ads', Ext ads H ads' H' → Hold K own ads' H' σ ρ μ' → Q b H'
theorem PE.imp {X : Cx} {e : Expr} {t t' : TE} (h : PE X e t) (i : ∀ σ H Q, t' σ H Q → t σ H Q) : PE X e t' := ⟨fun pins s σ H Q I q => h.run pins s σ H Q I (i _ _ _ q)⟩
theorem PT.imp {X : Cx} {e : Expr} {t t' : TT} (h : PT X e t) (i : ∀ σ H Q, t' σ H Q → t σ H Q) : PT X e t' := ⟨fun pins s σ H Q I q => h.run pins s σ H Q I (i _ _ _ q)⟩
theorem PTs.imp {X : Cx} {e : List Expr} {t t' : TT} (h : PTs X e t) (i : ∀ σ H Q, t' σ H Q → t σ H Q) : PTs X e t' := ⟨fun pins s σ H Q I q => h.run pins s σ H Q I (i _ _ _ q)⟩
theorem PA.imp {X : Cx} {e : List Expr} {t t' : TA} (h : PA X e t) (i : ∀ σ H Q, t' σ H Q → t σ H Q) : PA X e t' := ⟨fun pos pins s σ H Q I q => h.run pos pins s σ H Q I (i _ _ _ q)⟩
theorem PO.imp {X : Cx} {e : Option Expr} {t t' : TO} (h : PO X e t) (i : ∀ σ H Q, t' σ H Q → t σ H Q) : PO X e t' := ⟨fun pins s σ H Q I q => h.run pins s σ H Q I (i _ _ _ q)⟩
theorem andThen_some {α β : Type} {x : Rs α} {f : α → Cells → Option β} {r : β} (h : andThen x f = some r) : ∃ a μ, x = some (a, μ) ∧ f a μ = some r := by
  unfold andThen at h
  split at h
  · exact ⟨_, _, rfl, h⟩
  · cases h
theorem onBl_some {β : Type} {x : Rs D} {f : Bool → Cells → Option β} {r : β} (h : onBl x f = some r) : ∃ b μ, x = some (.bl b, μ) ∧ f b μ = some r := by
  unfold onBl at h
  split at h
  · exact ⟨_, _, rfl, h⟩
  · cases h
theorem wthD_some {z : Option D} {μ μ' : Cells} {d : D} (h : wthD z μ = some (d, μ')) : z = some d ∧ μ' = μ := by
  unfold wthD at h
  obtain ⟨a, h1, h2⟩ := Option.map_eq_some_iff.mp h
  cases h2
  exact ⟨h1, rfl⟩
section
variable {K : PySem.W.Frag} {F : Fs} {own : Addr → Prop} {ads ads' : List Addr} {H H' : Hp} {σ : L2.St} {ρ : Env} {μ μ' : Cells} {Q : VK}
theorem Fin2.fin {b : Bool} {d : D} (h : Hold K own ads H σ ρ μ) (q : Fin2 K own ads H σ ρ b d μ' Q) (e0 : EnvR K own ads H σ ρ) : ∀ v H' ads', Ext ads H ads' H' → CellsR K own ads' H' μ' → RepB K own ads' H' b v d → Q v H' :=
  fun v H' ads' e c r => q v H' ads' e ⟨e0.ext h.c e, c, h.len⟩ r
/-- one part, then what follows -/
theorem tE.one {a : E} {x : D} (h : Hold K own ads H σ ρ μ) (ha : ev F a ρ μ = some (x, μ')) (k : ∀ v H' ads', Ext ads H ads' H' → Hold K own ads' H' σ ρ μ' → RepB K own ads' H' (lk ρ a) v x → Q v H') : tE K F a σ H Q :=
  ⟨own, ads, ρ, μ, x, μ', h, ha, k⟩
end
end FM

set_option Elab.async false
set_option linter.all false
set_option maxRecDepth 100000
set_option maxHeartbeats 4000000
/-! Ev6: one lemma a construct. -/
namespace FM
open PySem PySem.Spec PyProof.Rows L2

def plainT : Expr → Bool
  | .UnaryOp .Not _ _ => false
  | .BoolOp _ _ _ => false
  | .IfExp _ _ _ _ => false
  | .Compare _ _ _ _ => false
  | _ => true
theorem plainT_of {e : Expr} (h : plainT e = true) (env : PySem.Env) (whole : Sem Value) : isTrue e env whole = (do let v ← whole; standAt e.pos; holding [v] (truthy v)) := by
  cases e with
  | UnaryOp op x p => cases op <;> first | rfl | cases h
  | _ => first | rfl | cases h
theorem room65 {k : Nat} {A : Around} (r : Room k A) : A.units + 65 < cLine := by have := r.un; omega
section
variable {X : Cx} {F : Fs}
/-- as a value and as a test -/
structure Both (X : Cx) (F : Fs) (x : Expr) (e : E) : Prop where
  v : PE X x (tE X.K F e)
  t : PT X x (tT X.K F e)
theorem Both.mk' {x : Expr} {e : E} (h : PE X x (tE X.K F e)) (p : plainT x = true) : Both X F x e := by
  refine ⟨h, PT.imp (pt_val h (plainT_of p _)) fun σ H Q ⟨own, ads, ρ, μ, b, μ', h, he, q⟩ => ?_⟩
  exact ⟨own, ads, ρ, μ, _, μ', h, he, fun v H' ads' e' h' r => ⟨b, r.bl, q H' ads' e' h'⟩⟩

theorem s_var {N fs : List Str} {n : Nat} {sc : Scope} (G : GX N fs F n sc X) {i : Nat} {x : Str} {pos : Pos} (h : nameIs N sc i x = true) : Both X F (.Name x pos) (.var i) := by
  unfold nameIs at h
  rw [Bool.and_eq_true, Bool.and_eq_true, Bool.and_eq_true, decide_eq_true_eq] at h
  obtain ⟨⟨⟨h1, h2⟩, h3⟩, h4⟩ := h
  refine Both.mk' (PE.imp (pe_var (i := i) (by rw [G.hN]; exact h1) (G.vis x h2) (by simpa using h3) (by simpa using h4)) ?_) rfl
  intro σ H Q ⟨own, ads, ρ, μ, d, μ', h, he, q⟩
  unfold ev at he
  cases e : ρ[i]? with
  | none => rw [e] at he; cases he
  | some o =>
    cases o with
    | none => rw [e] at he; cases he
    | some s =>
      rw [e] at he
      cases he
      obtain ⟨v, h5, h6⟩ := h.e i s e
      refine ⟨v, h5, q v H ads .refl h ?_⟩
      cases s with
      | pl d => exact .inl h6
      | ow ds =>
        obtain ⟨a, xs, e1, e2, e3, e4⟩ := h6
        refine .inr ⟨?_, a, xs, ds, e1, rfl, e2, e3, e4⟩
        show isOw ρ i = true
        unfold isOw
        rw [e]
        rfl
theorem s_int {i : Int} {k : Nat} {pos : Pos} : Both X F (.Constant (.int i) k pos) (.int i) :=
  Both.mk' (PE.imp pe_int fun σ H Q ⟨own, ads, ρ, μ, d, μ', h, he, q⟩ => by cases he; exact q _ H ads .refl h (.inl (.int i))) rfl
theorem s_bl {i : Bool} {k : Nat} {pos : Pos} : Both X F (.Constant (.bool i) k pos) (.bl i) :=
  Both.mk' (PE.imp pe_bl fun σ H Q ⟨own, ads, ρ, μ, d, μ', h, he, q⟩ => by cases he; exact q _ H ads .refl h (.inl (.bl i))) rfl
theorem s_non {k : Nat} {pos : Pos} : Both X F (.Constant .none k pos) .non :=
  Both.mk' (PE.imp pe_non fun σ H Q ⟨own, ads, ρ, μ, d, μ', h, he, q⟩ => by cases he; exact q _ H ads .refl h (.inl .non)) rfl
theorem s_str {i : Str} {k : Nat} {pos : Pos} : Both X F (.Constant (.str i) k pos) (.str i) :=
  Both.mk' (PE.imp pe_str fun σ H Q ⟨own, ads, ρ, μ, d, μ', h, he, q⟩ => by cases he; exact q _ H ads .refl h (.inl (.str i))) rfl
/-- from Fin2 to Fin -/
theorem toFin {K : PySem.W.Frag} {own : Addr → Prop} {ads ads1 : List Addr} {H H1 : Hp} {σ : L2.St} {ρ : Env} {μ1 μ' : Cells} {b : Bool} {d : D} {Q : VK} (e1 : Ext ads H ads1 H1) (h1 : Hold K own ads1 H1 σ ρ μ1) (q : Fin2 K own ads H σ ρ b d μ' Q) : Fin K own ads1 H1 b d μ' Q :=
  fun v H' ads' e c r => q v H' ads' (e1.trans e) ⟨h1.e.ext h1.c e, c, h1.len⟩ r
theorem s_op {o : Operator} {a b : E} {x y : Expr} {pos : Pos} (ha : Both X F x a) (hb : Both X F y b) : Both X F (.BinOp x o y pos) (.op o a b) := by
  refine Both.mk' (PE.imp (pe_op (op_D o) ha.v hb.v) ?_) rfl
  intro σ H Q ⟨own, ads, ρ, μ, d, μ', h, he, q⟩
  unfold ev at he
  obtain ⟨dx, μ1, e1, he⟩ := andThen_some he
  obtain ⟨dy, μ2, e2, he⟩ := andThen_some he
  obtain ⟨hz, rfl⟩ := wthD_some he
  exact ⟨own, ads, ρ, μ, dx, μ1, h, e1, fun v H1 ads1 x1 h1 r1 => ⟨own, ads1, ρ, μ1, dy, μ', h1, e2, fun w H2 ads2 x2 h2 r2 =>
    ⟨own, ads2, μ', _, _, dx, dy, d, h2.c, r1.ext h1.c x2, r2, hz, toFin (x1.trans x2) h2 q⟩⟩⟩
theorem s_neg {a : E} {x : Expr} {pos : Pos} (ha : Both X F x a) : Both X F (.UnaryOp .USub x pos) (.neg a) := by
  refine Both.mk' (PE.imp (pe_un un_D ha.v) ?_) rfl
  intro σ H Q ⟨own, ads, ρ, μ, d, μ', h, he, q⟩
  unfold ev at he
  obtain ⟨dx, μ1, e1, he⟩ := andThen_some he
  obtain ⟨hz, rfl⟩ := wthD_some he
  exact ⟨own, ads, ρ, μ, dx, μ', h, e1, fun v H1 ads1 x1 h1 r1 => ⟨own, ads1, μ', _, dx, d, h1.c, r1, hz, toFin x1 h1 q⟩⟩
theorem s_cmp {N fs : List Str} {n : Nat} {sc : Scope} (G : GX N fs F n sc X) {o : CmpOp} {a b : E} {x y : Expr} {pos : Pos} (ha : Both X F x a) (hb : Both X F y b) (hs : notSet y = true) : Both X F (.Compare x [o] [y] pos) (.cmp o a b) := by
  refine ⟨PE.imp (pe_cmpR (cm_D (room65 G.room) o) ha.v hb.v (marks_of hs o)) ?_, PT.imp (pt_cmpR (cm_D (room65 G.room) o) ha.v hb.v (marks_of hs o)) ?_⟩
  · intro σ H Q ⟨own, ads, ρ, μ, d, μ', h, he, q⟩
    unfold ev at he
    obtain ⟨dx, μ1, e1, he⟩ := andThen_some he
    obtain ⟨dy, μ2, e2, he⟩ := andThen_some he
    obtain ⟨hz, rfl⟩ := wthD_some he
    obtain ⟨r, hr, e3⟩ := Option.map_eq_some_iff.mp hz
    subst e3
    exact ⟨own, ads, ρ, μ, dx, μ1, h, e1, fun v H1 ads1 x1 h1 r1 => ⟨own, ads1, ρ, μ1, dy, μ', h1, e2, fun w H2 ads2 x2 h2 r2 =>
      ⟨own, ads2, μ', _, _, dx, dy, r, h2.c, r1.ext h1.c x2, r2, hr, q _ H2 ads2 (x1.trans x2) h2 (.inl (.bl r))⟩⟩⟩
  · intro σ H Q ⟨own, ads, ρ, μ, b', μ', h, he, q⟩
    unfold ev at he
    obtain ⟨dx, μ1, e1, he⟩ := andThen_some he
    obtain ⟨dy, μ2, e2, he⟩ := andThen_some he
    obtain ⟨hz, rfl⟩ := wthD_some he
    obtain ⟨r, hr, e3⟩ := Option.map_eq_some_iff.mp hz
    cases e3
    exact ⟨own, ads, ρ, μ, dx, μ1, h, e1, fun v H1 ads1 x1 h1 r1 => ⟨own, ads1, ρ, μ1, dy, μ', h1, e2, fun w H2 ads2 x2 h2 r2 =>
      ⟨own, ads2, μ', _, _, dx, dy, b', h2.c, r1.ext h1.c x2, r2, hr, b', rfl, q H2 ads2 (x1.trans x2) h2⟩⟩⟩
theorem cmp_bl {o : CmpOp} {dx dy : D} {z : Option D} {d : D} (h : (cmpD o dx dy).map D.bl = some d) : ∃ r, cmpD o dx dy = some r ∧ d = .bl r := by
  obtain ⟨r, h1, h2⟩ := Option.map_eq_some_iff.mp h
  exact ⟨r, h1, h2.symm⟩
theorem chn_go {o o' : CmpOp} {a b c : E} {ρ : Env} {μ μ' : Cells} {d : D} (he : ev F (.chn o o' a b c) ρ μ = some (d, μ')) : ∃ dx μ1 dy μ2 r, ev F a ρ μ = some (dx, μ1) ∧ ev F b ρ μ1 = some (dy, μ2) ∧ cmpD o dx dy = some r ∧
    ((r = false ∧ d = .bl false ∧ μ' = μ2) ∨ (r = true ∧ ∃ dz r', ev F c ρ μ2 = some (dz, μ') ∧ cmpD o' dy dz = some r' ∧ d = .bl r')) := by
  unfold ev at he
  obtain ⟨dx, μ1, e1, he⟩ := andThen_some he
  obtain ⟨dy, μ2, e2, he⟩ := andThen_some he
  split at he
  · rename_i hr
    obtain ⟨dz, μ3, e3, he⟩ := andThen_some he
    obtain ⟨hz, rfl⟩ := wthD_some he
    obtain ⟨r', h1, h2⟩ := Option.map_eq_some_iff.mp hz
    exact ⟨dx, μ1, dy, μ2, true, e1, e2, hr, .inr ⟨rfl, dz, r', e3, h1, h2.symm⟩⟩
  · rename_i hr
    cases he
    exact ⟨dx, μ1, dy, _, false, e1, e2, hr, .inl ⟨rfl, rfl, rfl⟩⟩
  · cases he
end
end FM

set_option Elab.async false
set_option linter.all false
set_option maxRecDepth 100000
set_option maxHeartbeats 4000000
/-! Ev7: chains, and, or, not, conditional expressions, displays, subscripts, slices, calls. -/
namespace FM
open PySem PySem.Spec PyProof.Rows L2
section
variable {X : Cx} {F : Fs}
theorem marks2 {b c : Expr} (h : notSet c = true) (o o' : CmpOp) : lastMarks [o, o'] [b, c] = false := marks_of h o'
theorem s_chn {N fs : List Str} {n : Nat} {sc : Scope} (G : GX N fs F n sc X) {o o' : CmpOp} {a b c : E} {x y z : Expr} {pos : Pos} (ha : Both X F x a) (hb : Both X F y b) (hc : Both X F z c) (hs : notSet z = true) :
    Both X F (.Compare x [o, o'] [y, z] pos) (.chn o o' a b c) := by
  have core : ∀ (σ : L2.St) (H : Hp) (Q : VK), tE X.K F (.chn o o' a b c) σ H Q → tChain (rCm X.K o) (rCm X.K o') (tE X.K F a) (tE X.K F b) (tE X.K F c) σ H Q := by
    intro σ H Q ⟨own, ads, ρ, μ, d, μ', h, he, q⟩
    obtain ⟨dx, μ1, dy, μ2, r, e1, e2, hr, hz⟩ := chn_go he
    refine ⟨own, ads, ρ, μ, dx, μ1, h, e1, fun v H1 ads1 x1 h1 r1 => ⟨own, ads1, ρ, μ1, dy, μ2, h1, e2, fun w H2 ads2 x2 h2 r2 => ?_⟩⟩
    refine ⟨own, ads2, μ2, _, _, dx, dy, r, h2.c, r1.ext h1.c x2, r2, hr, r, rfl, ?_⟩
    rcases hz with ⟨rfl, rfl, rfl⟩ | ⟨rfl, dz, r', e3, hr', rfl⟩
    · rw [if_neg Bool.false_ne_true]
      exact q _ H2 ads2 (x1.trans x2) h2 (.inl (.bl false))
    · rw [if_pos rfl]
      exact ⟨own, ads2, ρ, μ2, dz, μ', h2, e3, fun u H3 ads3 x3 h3 r3 => ⟨own, ads3, μ', _, _, dy, dz, r', h3.c, r2.ext h2.c x3, r3, hr', q _ H3 ads3 ((x1.trans x2).trans x3) h3 (.inl (.bl r'))⟩⟩
  refine ⟨PE.imp (pe_chain (cm_D (room65 G.room) o) (cm_D (room65 G.room) o') ha.v hb.v hc.v (marks2 hs o o')) core, PT.imp (pt_chain (cm_D (room65 G.room) o) (cm_D (room65 G.room) o') ha.v hb.v hc.v (marks2 hs o o')) ?_⟩
  intro σ H Q ⟨own, ads, ρ, μ, b', μ', h, he, q⟩
  refine core σ H _ ⟨own, ads, ρ, μ, .bl b', μ', h, he, fun v H' ads' e h' r => ⟨b', r.bl, q H' ads' e h'⟩⟩
theorem pw_of {op : BoolOp} {vs : List Expr} {pos : Pos} {t : TT} (h : PT X (.BoolOp op vs pos) t) : PW X (.BoolOp op vs pos) t := ⟨fun _ pins s σ H Q I q => h.run pins s σ H Q I q⟩
theorem and_go {a b : E} {ρ : Env} {μ μ' : Cells} {d : D} (he : ev F (.and a b) ρ μ = some (d, μ')) : ∃ x μ1, ev F a ρ μ = some (.bl x, μ1) ∧ ((x = false ∧ d = .bl false ∧ μ' = μ1) ∨ (x = true ∧ ∃ y, ev F b ρ μ1 = some (.bl y, μ') ∧ d = .bl y)) := by
  unfold ev at he
  obtain ⟨x, μ1, e1, he⟩ := onBl_some he
  cases x with
  | false => cases he; exact ⟨_, _, e1, .inl ⟨rfl, rfl, rfl⟩⟩
  | true =>
    obtain ⟨y, μ2, e2, he⟩ := onBl_some he
    cases he
    exact ⟨_, _, e1, .inr ⟨rfl, _, e2, rfl⟩⟩
theorem or_go {a b : E} {ρ : Env} {μ μ' : Cells} {d : D} (he : ev F (.or a b) ρ μ = some (d, μ')) : ∃ x μ1, ev F a ρ μ = some (.bl x, μ1) ∧ ((x = true ∧ d = .bl true ∧ μ' = μ1) ∨ (x = false ∧ ∃ y, ev F b ρ μ1 = some (.bl y, μ') ∧ d = .bl y)) := by
  unfold ev at he
  obtain ⟨x, μ1, e1, he⟩ := onBl_some he
  cases x with
  | true => cases he; exact ⟨_, _, e1, .inl ⟨rfl, rfl, rfl⟩⟩
  | false =>
    obtain ⟨y, μ2, e2, he⟩ := onBl_some he
    cases he
    exact ⟨_, _, e1, .inr ⟨rfl, _, e2, rfl⟩⟩
theorem s_and {a b : E} {x y : Expr} {r : List Expr} {pos : Pos} (ha : Both X F x a) (hb : (r = [] ∧ Both X F y b) ∨ (r ≠ [] ∧ Both X F (.BoolOp .And (y :: r) pos) b)) : Both X F (.BoolOp .And (x :: y :: r) pos) (.and a b) := by
  have hv : PE X (.BoolOp .And (y :: r) pos) (tE X.K F b) := by
    rcases hb with ⟨rfl, hb⟩ | ⟨_, hb⟩
    · exact pe_one hb.v
    · exact hb.v
  have ht : PW X (.BoolOp .And (y :: r) pos) (tT X.K F b) := by
    rcases hb with ⟨rfl, hb⟩ | ⟨_, hb⟩
    · exact pw_and1 hb.t
    · exact pw_of hb.t
  refine ⟨PE.imp (pe_and ha.v hv) ?_, PT.imp (pw_and ha.t ht).pt ?_⟩
  · intro σ H Q ⟨own, ads, ρ, μ, d, μ', h, he, q⟩
    obtain ⟨k, μ1, e1, hz⟩ := and_go he
    refine ⟨own, ads, ρ, μ, _, μ1, h, e1, fun v H1 ads1 x1 h1 r1 => ⟨k, r1.bl, ?_⟩⟩
    rcases hz with ⟨rfl, rfl, rfl⟩ | ⟨rfl, j, e2, rfl⟩
    · rw [if_neg Bool.false_ne_true]
      exact q _ H1 ads1 x1 h1 (.inl (.bl false))
    · rw [if_pos rfl]
      exact ⟨own, ads1, ρ, μ1, _, μ', h1, e2, fun w H2 ads2 x2 h2 r2 => q w H2 ads2 (x1.trans x2) h2 (.inl (by rw [r2.bl]; exact .bl j))⟩
  · intro σ H Q ⟨own, ads, ρ, μ, d, μ', h, he, q⟩
    obtain ⟨k, μ1, e1, hz⟩ := and_go he
    refine ⟨own, ads, ρ, μ, _, μ1, h, e1, fun H1 ads1 x1 h1 => ?_⟩
    rcases hz with ⟨rfl, ed, rfl⟩ | ⟨rfl, j, e2, ed⟩
    · cases ed
      rw [if_neg Bool.false_ne_true]
      exact q H1 ads1 x1 h1
    · cases ed
      rw [if_pos rfl]
      exact ⟨own, ads1, ρ, μ1, _, μ', h1, e2, fun H2 ads2 x2 h2 => q H2 ads2 (x1.trans x2) h2⟩
theorem s_or {a b : E} {x y : Expr} {r : List Expr} {pos : Pos} (ha : Both X F x a) (hb : (r = [] ∧ Both X F y b) ∨ (r ≠ [] ∧ Both X F (.BoolOp .Or (y :: r) pos) b)) : Both X F (.BoolOp .Or (x :: y :: r) pos) (.or a b) := by
  have hv : PE X (.BoolOp .Or (y :: r) pos) (tE X.K F b) := by
    rcases hb with ⟨rfl, hb⟩ | ⟨_, hb⟩
    · exact pe_one hb.v
    · exact hb.v
  have ht : PW X (.BoolOp .Or (y :: r) pos) (tT X.K F b) := by
    rcases hb with ⟨rfl, hb⟩ | ⟨_, hb⟩
    · exact pw_or1 hb.t
    · exact pw_of hb.t
  refine ⟨PE.imp (pe_or ha.v hv) ?_, PT.imp (pw_or ha.t ht).pt ?_⟩
  · intro σ H Q ⟨own, ads, ρ, μ, d, μ', h, he, q⟩
    obtain ⟨k, μ1, e1, hz⟩ := or_go he
    refine ⟨own, ads, ρ, μ, _, μ1, h, e1, fun v H1 ads1 x1 h1 r1 => ⟨k, r1.bl, ?_⟩⟩
    rcases hz with ⟨rfl, rfl, rfl⟩ | ⟨rfl, j, e2, rfl⟩
    · rw [if_pos rfl]
      exact q _ H1 ads1 x1 h1 (.inl (.bl true))
    · rw [if_neg Bool.false_ne_true]
      exact ⟨own, ads1, ρ, μ1, _, μ', h1, e2, fun w H2 ads2 x2 h2 r2 => q w H2 ads2 (x1.trans x2) h2 (.inl (by rw [r2.bl]; exact .bl j))⟩
  · intro σ H Q ⟨own, ads, ρ, μ, d, μ', h, he, q⟩
    obtain ⟨k, μ1, e1, hz⟩ := or_go he
    refine ⟨own, ads, ρ, μ, _, μ1, h, e1, fun H1 ads1 x1 h1 => ?_⟩
    rcases hz with ⟨rfl, ed, rfl⟩ | ⟨rfl, j, e2, ed⟩
    · cases ed
      rw [if_pos rfl]
      exact q H1 ads1 x1 h1
    · cases ed
      rw [if_neg Bool.false_ne_true]
      exact ⟨own, ads1, ρ, μ1, _, μ', h1, e2, fun H2 ads2 x2 h2 => q H2 ads2 (x1.trans x2) h2⟩
theorem s_not {a : E} {x : Expr} {pos : Pos} (ha : Both X F x a) : Both X F (.UnaryOp .Not x pos) (.not a) := by
  refine ⟨PE.imp (pe_not ha.v) ?_, PT.imp (pt_not ha.t) ?_⟩
  · intro σ H Q ⟨own, ads, ρ, μ, d, μ', h, he, q⟩
    unfold ev at he
    obtain ⟨k, μ1, e1, he⟩ := onBl_some he
    cases he
    exact ⟨own, ads, ρ, μ, _, _, h, e1, fun v H1 ads1 x1 h1 r1 => ⟨k, r1.bl, q _ H1 ads1 x1 h1 (.inl (.bl (!k)))⟩⟩
  · intro σ H Q ⟨own, ads, ρ, μ, d, μ', h, he, q⟩
    unfold ev at he
    obtain ⟨k, μ1, e1, he⟩ := onBl_some he
    cases he
    exact ⟨own, ads, ρ, μ, _, _, h, e1, fun H1 ads1 x1 h1 => q H1 ads1 x1 h1⟩
theorem RepB.mono {K : PySem.W.Frag} {own : Addr → Prop} {ads : List Addr} {H : Hp} {b b' : Bool} {v : V} {d : D} (h : RepB K own ads H b v d) (i : b = true → b' = true) : RepB K own ads H b' v d := by
  rcases h with h | ⟨h, z⟩
  · exact .inl h
  · exact .inr ⟨i h, z⟩
theorem pt_ifExp {c x y : Expr} {tc tx ty : TT} {pos : Pos} (hc : PT X c tc) (hx : PT X x tx) (hy : PT X y ty) : PT X (.IfExp c x y pos) (fun σ H Q => tc σ H fun b H1 => if b = true then tx σ H1 Q else ty σ H1 Q) := by
  refine ⟨fun pins s σ H Q I h => ?_⟩
  refine isTrue_IfExp (thn (hc.run pins s σ H _ I h) fun d s1 ⟨H1, I1, q1⟩ => ?_)
  cases d with
  | true => exact hx.run pins s1 σ H1 Q I1 q1
  | false => exact hy.run pins s1 σ H1 Q I1 q1
theorem s_ife {c a b : E} {z x y : Expr} {pos : Pos} (hc : Both X F z c) (ha : Both X F x a) (hb : Both X F y b) : Both X F (.IfExp z x y pos) (.ife c a b) := by
  refine ⟨PE.imp (pe_ifExp hc.t ha.v hb.v) ?_, PT.imp (pt_ifExp hc.t ha.t hb.t) ?_⟩
  · intro σ H Q ⟨own, ads, ρ, μ, d, μ', h, he, q⟩
    unfold ev at he
    obtain ⟨k, μ1, e1, he⟩ := onBl_some he
    refine ⟨own, ads, ρ, μ, _, _, h, e1, fun H1 ads1 x1 h1 => ?_⟩
    cases k with
    | true =>
      rw [if_pos rfl] at he ⊢
      refine ⟨own, ads1, ρ, μ1, d, μ', h1, he, fun v H2 ads2 x2 h2 r2 => q v H2 ads2 (x1.trans x2) h2 (r2.mono fun z => ?_)⟩
      show (lk ρ a || lk ρ b) = true
      rw [z]; rfl
    | false =>
      rw [if_neg Bool.false_ne_true] at he ⊢
      refine ⟨own, ads1, ρ, μ1, d, μ', h1, he, fun v H2 ads2 x2 h2 r2 => q v H2 ads2 (x1.trans x2) h2 (r2.mono fun z => ?_)⟩
      show (lk ρ a || lk ρ b) = true
      rw [z, Bool.or_true]
  · intro σ H Q ⟨own, ads, ρ, μ, d, μ', h, he, q⟩
    unfold ev at he
    obtain ⟨k, μ1, e1, he⟩ := onBl_some he
    refine ⟨own, ads, ρ, μ, _, _, h, e1, fun H1 ads1 x1 h1 => ?_⟩
    cases k with
    | true =>
      rw [if_pos rfl] at he ⊢
      exact ⟨own, ads1, ρ, μ1, d, μ', h1, he, fun H2 ads2 x2 h2 => q H2 ads2 (x1.trans x2) h2⟩
    | false =>
      rw [if_neg Bool.false_ne_true] at he ⊢
      exact ⟨own, ads1, ρ, μ1, d, μ', h1, he, fun H2 ads2 x2 h2 => q H2 ads2 (x1.trans x2) h2⟩

/-! ### lists of expressions -/
theorem s_nil : PA X [] (tEs X.K F .nil) := PA.imp pa_nil fun σ H Q ⟨own, ads, ρ, μ, ds, μ', h, he, q⟩ => by
  cases he
  exact q [] H ads .refl h True.intro fun _ => .nil
theorem s_cons {e : E} {es : Es} {x : Expr} {xs : List Expr} (h1 : Both X F x e) (h2 : PA X xs (tEs X.K F es)) (hs : notStar x = true) : PA X (x :: xs) (tEs X.K F (.cons e es)) := by
  refine PA.imp (pa_cons h1.v h2 (starEach_cons hs _ _)) ?_
  intro σ H Q ⟨own, ads, ρ, μ, ds, μ', h, he, q⟩
  unfold evs at he
  obtain ⟨d, μ1, e1, he⟩ := andThen_some he
  obtain ⟨ds', μ2, e2, he⟩ := andThen_some he
  cases he
  refine ⟨own, ads, ρ, μ, d, μ1, h, e1, fun v H1 ads1 x1 h1 r1 => ⟨own, ads1, ρ, μ1, ds', _, h1, e2, fun vs H2 ads2 x2 h2 r2 p2 => ?_⟩⟩
  refine q (v :: vs) H2 ads2 (x1.trans x2) h2 ⟨(r1.ext h1.c x2).mono fun _ => rfl, r2⟩ fun z => ?_
  have z' : (lk ρ e || lks ρ es) = false := z
  rw [Bool.or_eq_false_iff] at z'
  rw [z'.1] at r1
  exact .cons (r1.plain.ext x2) (p2 z'.2)
theorem s_tup {es : Es} {xs : List Expr} {k : Nat} {pos : Pos} (h : PA X xs (tEs X.K F es)) : Both X F (.Tuple xs k pos) (.tup es) := by
  refine Both.mk' (PE.imp (pe_tup h) ?_) rfl
  intro σ H Q ⟨own, ads, ρ, μ, d, μ', h, he, q⟩
  unfold ev at he
  split at he
  · cases he
  · rename_i hl
    obtain ⟨ds, μ1, e1, he⟩ := andThen_some he
    split at he
    · rename_i hz
      cases he
      refine ⟨own, ads, ρ, μ, ds, _, h, e1, fun vs H1 ads1 x1 h1 r1 p1 => ?_⟩
      have l := p1 (by simpa using hl)
      exact ⟨by rw [l.length]; exact hz, (toFin x1 h1 q).newT h1.c l⟩
    · cases he
theorem s_lst {es : Es} {xs : List Expr} {pos : Pos} (h : PA X xs (tEs X.K F es)) : Both X F (.List xs pos) (.lst es) := by
  refine Both.mk' (PE.imp (pe_lst h) ?_) rfl
  intro σ H Q ⟨own, ads, ρ, μ, d, μ', h, he, q⟩
  unfold ev at he
  split at he
  · cases he
  · rename_i hl
    obtain ⟨ds, μ1, e1, he⟩ := andThen_some he
    split at he
    · rename_i hz
      cases he
      refine ⟨own, ads, ρ, μ, ds, _, h, e1, fun vs H1 ads1 x1 h1 r1 p1 => ?_⟩
      have l := p1 (by simpa using hl)
      exact ⟨by rw [l.length]; exact hz, (toFin x1 h1 q).newL h1.c l⟩
    · cases he
theorem s_ix {N fs : List Str} {n : Nat} {sc : Scope} (G : GX N fs F n sc X) {a b : E} {x y : Expr} {pos : Pos} (ha : Both X F x a) (hb : Both X F y b) (hs : notSlice y = true) : Both X F (.Subscript x y pos) (.ix a b) := by
  refine Both.mk' (PE.imp (pe_ix (ix_D (hu_of G.room)) ha.v hb.v (plainIx_of hs)) ?_) rfl
  intro σ H Q ⟨own, ads, ρ, μ, d, μ', h, he, q⟩
  unfold ev at he
  obtain ⟨dx, μ1, e1, he⟩ := andThen_some he
  obtain ⟨dy, μ2, e2, he⟩ := andThen_some he
  obtain ⟨hz, rfl⟩ := wthD_some he
  exact ⟨own, ads, ρ, μ, dx, μ1, h, e1, fun v H1 ads1 x1 h1 r1 => ⟨own, ads1, ρ, μ1, dy, μ', h1, e2, fun w H2 ads2 x2 h2 r2 =>
    ⟨own, ads2, μ', _, _, dx, dy, d, h2.c, r1.ext h1.c x2, r2, hz, toFin (x1.trans x2) h2 q⟩⟩⟩
theorem s_onone : PO X none (tEO X.K F .none) := PO.imp po_none fun σ H Q ⟨own, ads, ρ, μ, d, μ', h, he, q⟩ => by
  cases he
  exact q H ads .refl h
theorem s_osome {e : E} {x : Expr} (h : Both X F x e) : PO X (some x) (tEO X.K F (.some e)) := by
  refine PO.imp (po_some h.v) ?_
  intro σ H Q ⟨own, ads, ρ, μ, d, μ', h, he, q⟩
  unfold evo at he
  obtain ⟨dx, μ1, e1, he⟩ := andThen_some he
  split at he
  · cases he
    exact ⟨own, ads, ρ, μ, _, _, h, e1, fun v H1 ads1 x1 h1 r1 => ⟨_, r1.int, q H1 ads1 x1 h1⟩⟩
  · cases he
theorem s_sl {a : E} {lo hi : EO} {x : Expr} {l h : Option Expr} {p2 pos : Pos} (ha : Both X F x a) (hl : PO X l (tEO X.K F lo)) (hh : PO X h (tEO X.K F hi)) : Both X F (.Subscript x (.Slice l h none p2) pos) (.sl a lo hi) := by
  refine Both.mk' (PE.imp (pe_slice sl_D ha.v hl hh) ?_) rfl
  intro σ H Q ⟨own, ads, ρ, μ, d, μ', h, he, q⟩
  unfold ev at he
  obtain ⟨dx, μ1, e1, he⟩ := andThen_some he
  obtain ⟨dl, μ2, e2, he⟩ := andThen_some he
  obtain ⟨dh, μ3, e3, he⟩ := andThen_some he
  obtain ⟨hz, rfl⟩ := wthD_some he
  exact ⟨own, ads, ρ, μ, dx, μ1, h, e1, fun v H1 ads1 x1 h1 r1 => ⟨own, ads1, ρ, μ1, dl, μ2, h1, e2, fun H2 ads2 x2 h2 => ⟨own, ads2, ρ, μ2, dh, μ', h2, e3, fun H3 ads3 x3 h3 =>
    ⟨own, ads3, μ', _, dx, d, h3.c, (r1.ext h1.c x2).ext h2.c x3, hz, toFin ((x1.trans x2).trans x3) h3 q⟩⟩⟩⟩
theorem s_cnone : PTs X [] (tC' X.K F .none) := PTs.imp pts_nil fun σ H Q ⟨own, ads, ρ, μ, d, μ', h, he, q⟩ => by
  cases he
  exact q H ads .refl h
theorem s_csome {e : E} {x : Expr} (h : Both X F x e) : PTs X [x] (tC' X.K F (.some e)) := by
  refine PTs.imp (pts_one h.t) ?_
  intro σ H Q ⟨own, ads, ρ, μ, d, μ', h, he, q⟩
  unfold evc at he
  obtain ⟨k, μ1, e1, he⟩ := onBl_some he
  cases he
  exact ⟨own, ads, ρ, μ, _, _, h, e1, q⟩
/-! ### built-ins, isinstance, methods -/
theorem noStarAny : ∀ {es : List Expr} {env : PySem.Env} {pos : Pos}, (∀ x ∈ es, notStar x = true) → (backTo pos (starEach es env)).any (·.1) = false
  | [], _, _, _ => rfl
  | e :: es, env, pos, h => by
    rw [starEach_cons (h e List.mem_cons_self)]
    have ih := noStarAny (es := es) (env := env) (pos := pos) fun x hx => h x (List.mem_cons_of_mem _ hx)
    exact ih
theorem s_bi {N fs : List Str} {n : Nat} {sc : Scope} (G : GX N fs F n sc X) {b : Bi} {es : Es} {g : Str} {x : Expr} {xs : List Expr} {p pos : Pos} (hg : g = b.name) (hgl : gloB sc g = true) (hst : ∀ y ∈ x :: xs, notStar y = true) (h : PA X (x :: xs) (tEs X.K F es)) :
    Both X F (.Call (.Name g p) (x :: xs) [] pos) (.bi b es) := by
  have hn : X.mg g = none := G.bn g (by subst hg; cases b <;> decide +kernel)
  have hb : bootBuiltins g = some b.val := by rw [hg]; exact b.boot
  have core : PE X (.Call (.Name g p) (x :: xs) [] pos) (tCB (rBi X.K b) (tEs X.K F es)) := by
    have hc := bi_D (X := X) G.calm b
    have n1 : g ≠ "__name__" := by subst hg; cases b <;> decide +kernel
    have n2 : (g == ("__debug__" : Str)) = false := by subst hg; cases b <;> decide +kernel
    have n3 := starEach_cons (hst x List.mem_cons_self) xs X.env
    have n4 := noStarAny (env := X.env) (pos := pos) fun y hy => hst y (List.mem_cons_of_mem _ hy)
    cases b <;> first
      | exact pe_callB hc (G.glo g hgl) hn hb h n1 n2 n3 n4
      | exact pe_callTy hc (G.glo g hgl) hn hb h n1 n2 n3 n4
  refine Both.mk' (PE.imp core ?_) rfl
  intro σ H Q ⟨own, ads, ρ, μ, d, μ', h, he, q⟩
  unfold ev at he
  obtain ⟨ds, μ1, e1, he⟩ := andThen_some he
  obtain ⟨hz, rfl⟩ := wthD_some he
  exact ⟨own, ads, ρ, μ, ds, μ', h, e1, fun vs H1 ads1 x1 h1 r1 _ => ⟨own, ads1, μ', ds, d, h1.c, r1, hz, toFin x1 h1 q⟩⟩
theorem s_isi {N fs : List Str} {n : Nat} {sc : Scope} (G : GX N fs F n sc X) {a : E} {t : Ty} {x : Expr} {p p2 pos : Pos} (hgl : gloB sc "isinstance" = true) (hgt : gloB sc t.py = true) (hs : notStar x = true) (h : Both X F x a) :
    Both X F (.Call (.Name "isinstance" p) [x, .Name t.py p2] [] pos) (.isi a t) := by
  have hn : X.mg "isinstance" = none := G.bn _ (by decide +kernel)
  have hn2 : X.mg t.py = none := G.bn _ (by cases t <;> decide +kernel)
  have he : PE X (.Name t.py p2) (tC (.ty t.name)) := pe_bltn (G.glo _ hgt) hn2 t.boot rfl (by cases t <;> decide +kernel) (by cases t <;> decide +kernel)
  have core := pe_callB (X := X) (pos := pos) (p := p) call_isi (G.glo _ hgl) hn (by decide +kernel) (pa_cons h.v (pa_cons he pa_nil) (starEach_cons hs _ _)) (by decide +kernel) (by decide +kernel) (starEach_cons hs _ _) rfl
  refine Both.mk' (PE.imp core ?_) rfl
  intro σ H Q ⟨own, ads, ρ, μ, d, μ', h, he, q⟩
  unfold ev at he
  obtain ⟨dx, μ1, e1, he⟩ := andThen_some he
  obtain ⟨hz, rfl⟩ := wthD_some he
  obtain ⟨r, hr, e3⟩ := Option.map_eq_some_iff.mp hz
  subst e3
  refine ⟨own, ads, ρ, μ, dx, μ', h, e1, fun v H1 ads1 x1 h1 r1 => ?_⟩
  obtain ⟨u, ty, kk⟩ := isi_kit r1 hr
  exact ⟨v, .ty t.name, u, .type t.name, r, rfl, .ty _, ty, kk, q _ H1 ads1 x1 h1 (.inl (.bl r))⟩
end
end FM

set_option Elab.async false
set_option linter.all false
set_option maxRecDepth 100000
set_option maxHeartbeats 4000000
/-! Ev8: methods, calls, targets, iterators, comprehensions. -/
namespace FM
open PySem PySem.Spec PyProof.Rows L2
section
variable {X : Cx} {F : Fs}

/-! ### methods -/
theorem meD_bits {x z : D} {ds : List D} (h : meD .bits x ds = some z) : ∃ i, x = .int i ∧ z = .int (Builtin.Int.intBits i : Nat) := by
  cases x with
  | int i =>
    cases ds with
    | nil => cases h; exact ⟨i, rfl, rfl⟩
    | cons _ _ => cases h
  | _ => cases h
theorem meD_partition {x z : D} {ds : List D} (h : meD .partition x ds = some z) : ∃ a b, x = .str a ∧ ds = [.str b] ∧ (b.length == 0) = false ∧ a.length ≤ sizeLine ∧ z = .tup [.str (Txt.partition a b).1, .str (Txt.partition a b).2.1, .str (Txt.partition a b).2.2] := by
  unfold meD at h
  split at h
  · contradiction
  · split at h
    · rename_i hc
      cases h
      exact ⟨_, _, rfl, rfl, hc.1, hc.2, rfl⟩
    · cases h
  · contradiction
  · cases h
theorem meD_join {x z : D} {ds : List D} (h : meD .join x ds = some z) : ∃ a ys, x = .str a ∧ ds = [.lst (ys.map D.str)] ∧ (ys.map (·.length)).sum + ys.length * a.length ≤ 16777216 ∧ z = .str (Txt.join a ys) := by
  unfold meD at h
  split at h
  · contradiction
  · contradiction
  · split at h
    · rename_i hy
      split at h
      · rename_i hc
        cases h
        exact ⟨_, _, rfl, by rw [asStrs_ok hy], hc, rfl⟩
      · cases h
    · cases h
  · cases h
theorem me_go {m : Me} {a : E} {es : Es} {ρ : Env} {μ μ' : Cells} {d : D} (he : ev F (.me m a es) ρ μ = some (d, μ')) : ∃ x μ1 ds, ev F a ρ μ = some (x, μ1) ∧ evs F es ρ μ1 = some (ds, μ') ∧ meD m x ds = some d := by
  unfold ev at he
  obtain ⟨x, μ1, e1, he⟩ := andThen_some he
  obtain ⟨ds, μ2, e2, he⟩ := andThen_some he
  obtain ⟨hz, rfl⟩ := wthD_some he
  exact ⟨x, μ1, ds, e1, e2, hz⟩
theorem s_bits {a : E} {x : Expr} {apos pos : Pos} (ha : Both X F x a) (hb : baseOk x = true) (hl : (apos.endLine == pos.line) = true) : Both X F (.Call (.Attribute x "bit_length" apos) [] [] pos) (.me .bits a .nil) := by
  refine Both.mk' (PE.imp (pe_bits ha.v (base_of hb _ _) hl) ?_) rfl
  intro σ H Q ⟨own, ads, ρ, μ, d, μ', h, he, q⟩
  obtain ⟨dx, μ1, ds, e1, e2, hz⟩ := me_go he
  cases e2
  obtain ⟨i, rfl, rfl⟩ := meD_bits hz
  exact ⟨own, ads, ρ, μ, _, _, h, e1, fun v H1 ads1 x1 h1 r1 => ⟨_, r1.int, q _ H1 ads1 x1 h1 (.inl (.int _))⟩⟩
theorem one_arg {y : Expr} (hs : notStar y = true) (env : PySem.Env) (cpos : Pos) : ((backTo cpos (starEach [y] env)).all (fun x => !x.1) && (backToKw cpos (keywordEach [] env)).all (fun x => x.1.isSome)
      && decide (([y] : List Expr).length + ([] : List Keyword).length + (if ([] : List Keyword).isEmpty then 0 else 1) < 30)) = true := by
  rw [starEach_cons hs]
  rfl
theorem s_partition {a : E} {es : Es} {x y : Expr} {apos pos : Pos} (ha : Both X F x a) (he : PA X [y] (tEs X.K F es)) (hs : notStar y = true) (hb : baseOk x = true) (hl : (apos.endLine == pos.line) = true) :
    Both X F (.Call (.Attribute x "partition" apos) [y] [] pos) (.me .partition a es) := by
  refine Both.mk' (PE.imp (pe_bm PySem.F.plainAttrs_str PySem.F.slot_str_partition PySem.F.type_str_partition mt_partition ha.v he (base_of hb _ _) (one_arg hs _ _) hl (starEach_cons hs _ _) rfl) ?_) rfl
  intro σ H Q ⟨own, ads, ρ, μ, d, μ', h, he, q⟩
  obtain ⟨dx, μ1, ds, e1, e2, hz⟩ := me_go he
  obtain ⟨s, t, rfl, rfl, c1, c2, rfl⟩ := meD_partition hz
  refine ⟨own, ads, ρ, μ, _, _, h, e1, fun v H1 ads1 x1 h1 r1 => ?_⟩
  have ev := r1.str
  subst ev
  refine ⟨rfl, own, ads1, ρ, μ1, _, _, h1, e2, fun vs H2 ads2 x2 h2 r2 _ => ?_⟩
  obtain ⟨w, ew, r3⟩ := r2.one
  have ew2 := r3.str
  subst ew ew2
  exact ⟨_, _, rfl, rfl, c1, c2, (toFin (x1.trans x2) h2 q).newT h2.c (.cons (.str _) (.cons (.str _) (.cons (.str _) .nil)))⟩
theorem s_join {a : E} {es : Es} {x y : Expr} {apos pos : Pos} (ha : Both X F x a) (he : PA X [y] (tEs X.K F es)) (hs : notStar y = true) (hb : baseOk x = true) (hl : (apos.endLine == pos.line) = true) :
    Both X F (.Call (.Attribute x "join" apos) [y] [] pos) (.me .join a es) := by
  refine Both.mk' (PE.imp (pe_bm PySem.F.plainAttrs_str PySem.F.slot_str_join PySem.F.type_str_join mt_join ha.v he (base_of hb _ _) (one_arg hs _ _) hl (starEach_cons hs _ _) rfl) ?_) rfl
  intro σ H Q ⟨own, ads, ρ, μ, d, μ', h, he, q⟩
  obtain ⟨dx, μ1, ds, e1, e2, hz⟩ := me_go he
  obtain ⟨s, ys, rfl, rfl, c1, rfl⟩ := meD_join hz
  refine ⟨own, ads, ρ, μ, _, _, h, e1, fun v H1 ads1 x1 h1 r1 => ?_⟩
  have ev := r1.str
  subst ev
  refine ⟨rfl, own, ads1, ρ, μ1, _, _, h1, e2, fun vs H2 ads2 x2 h2 r2 _ => ?_⟩
  obtain ⟨w, ew, r3⟩ := r2.one
  obtain ⟨p, zs, ew2, t3, l3⟩ := r3.lst
  subst ew ew2
  have e3 := l3.strs
  subst e3
  exact ⟨_, _, ys, rfl, rfl, .inl t3, c1, (toFin (x1.trans x2) h2 q).str h2.c⟩

/-! ### calls of defs -/
theorem s_call {N fs : List Str} {n : Nat} {sc : Scope} (G : GX N fs F n sc X) {f : Nat} {g : Str} {es : Es} {xs : List Expr} {p pos : Pos} (hf : fs[f]? = some g) (hgl : gloB sc g = true) (hd : (g == ("__debug__" : Str)) = false) (hst : ∀ y ∈ xs, notStar y = true) (hne : xs = [] → es = .nil)
    (h : PA X xs (tEs X.K F es)) : Both X F (.Call (.Name g p) xs [] pos) (.call f es) := by
  refine Both.mk' ⟨fun pins s σ H Q I hq => ?_⟩ rfl
  obtain ⟨own, ads, ρ, μ, d, μ', h0, he, q⟩ := hq
  unfold ev at he
  split at he
  · cases he
  · rename_i hl
    obtain ⟨ds, μ1, e1, he⟩ := andThen_some he
    obtain ⟨a, fd, ps, m1, m2, m3, m4, m5⟩ := G.fn f g hf ds μ1 d μ' he
    have read : tCall (spF X.K ps.length (F f)) [] E0 (tEs X.K F es) σ H Q := by
      refine ⟨own, ads, ρ, μ, ds, μ1, h0, e1, fun vs H1 ads1 x1 h1 r1 p1 => ?_⟩
      have l := p1 (by simpa using hl)
      refine ⟨by rw [List.append_nil, l.length, m4], own, ads1, ds, μ1, d, μ', by rw [List.append_nil]; exact l, h1.c, he, ?_⟩
      exact toFin x1 h1 q
    cases xs with
    | nil =>
      have hnil : tCall (spF X.K ps.length (F f)) [] E0 tNil σ H Q := by
        obtain rfl := hne rfl
        cases e1
        exact ⟨by rw [List.append_nil, m4]; rfl, own, ads, [], _, d, μ', .nil, h0.c, he, toFin .refl h0 q⟩
      exact (pe_call0 m5 G.room (G.glo g hgl) m1 m2 m3 .nil pass0 hd).run pins s σ H Q I hnil
    | cons y ys =>
      exact (pe_call m5 G.room (G.glo g hgl) m1 m2 m3 .nil pass0 h hd (starEach_cons (hst y List.mem_cons_self) _ _) (noStarAny fun z hz => hst z (List.mem_cons_of_mem _ hz))).run pins s σ H Q I read
end
end FM

set_option Elab.async false
set_option linter.all false
set_option maxRecDepth 100000
set_option maxHeartbeats 4000000
/-! Ev9: calls that borrow, targets, iterators. -/
namespace FM
open PySem PySem.Spec PyProof.Rows L2

/-! ### calls that borrow -/
/-- the own lists and the cells, but those handed over -/
def less (own : Addr → Prop) (ads : List Addr) (vs : List V) : Addr → Prop := fun b => Zo own ads b ∧ V.ref b ∉ vs
mutual
theorem Rep.bare {K : PySem.W.Frag} {Z Z' : Addr → Prop} {ads ads' : List Addr} {H : Hp} (hz : ∀ b, Z' b → Z b) : ∀ (d : D) (v : V), Rep K Z ads H v d → d.noCell = true → Rep K Z' ads' H v d
  | .non, _, h, _ => by cases h; exact .non
  | .bl b, _, h, _ => by cases h; exact .bl b
  | .int i, _, h, _ => by cases h; exact .int i
  | .str x, _, h, _ => by cases h; exact .str x
  | .tup ds, _, h, n => by
    cases h with
    | tup h1 h2 => exact .tup (h1.elim (fun z => .inl ⟨z.1, fun q => z.2 (hz _ q)⟩) .inr) (RepL.bare hz ds _ h2 n)
  | .lst ds, _, h, n => by
    cases h with
    | lst h1 h2 => exact .lst (h1.elim (fun z => .inl ⟨z.1, fun q => z.2 (hz _ q)⟩) .inr) (RepL.bare hz ds _ h2 n)
  | .cell k, _, h, n => by cases n
theorem RepL.bare {K : PySem.W.Frag} {Z Z' : Addr → Prop} {ads ads' : List Addr} {H : Hp} (hz : ∀ b, Z' b → Z b) : ∀ (ds : List D) (vs : List V), RepL K Z ads H vs ds → noCells ds = true → RepL K Z' ads' H vs ds
  | [], _, h, _ => by cases h; exact .nil
  | d :: ds, _, h, n => by
    cases h with
    | cons h1 h2 =>
      have n' : (d.noCell && noCells ds) = true := n
      rw [Bool.and_eq_true] at n'
      exact .cons (Rep.bare hz d _ h1 n'.1) (RepL.bare hz ds _ h2 n'.2)
end
mutual
/-- data without lists and cells: whatever is owned -/
theorem Rep.deep {K : PySem.W.Frag} {Z Z' : Addr → Prop} {ads ads' : List Addr} {H : Hp} (hz : ∀ a xs, Rd H a (.tup xs) → ¬ Z' a) : ∀ (d : D) (v : V), Rep K Z ads H v d → d.noCell = true → d.noLst = true → Rep K Z' ads' H v d
  | .non, _, h, _, _ => by cases h; exact .non
  | .bl b, _, h, _, _ => by cases h; exact .bl b
  | .int i, _, h, _, _ => by cases h; exact .int i
  | .str x, _, h, _, _ => by cases h; exact .str x
  | .tup ds, _, h, n, m => by
    cases h with
    | tup h1 h2 => exact .tup (h1.elim (fun z => .inl ⟨z.1, hz _ _ z.1⟩) .inr) (RepL.deep hz ds _ h2 n m)
  | .lst ds, _, h, n, m => by cases m
  | .cell k, _, h, n, m => by cases n
theorem RepL.deep {K : PySem.W.Frag} {Z Z' : Addr → Prop} {ads ads' : List Addr} {H : Hp} (hz : ∀ a xs, Rd H a (.tup xs) → ¬ Z' a) : ∀ (ds : List D) (vs : List V), RepL K Z ads H vs ds → noCells ds = true → noLsts ds = true → RepL K Z' ads' H vs ds
  | [], _, h, _, _ => by cases h; exact .nil
  | d :: ds, _, h, n, m => by
    cases h with
    | cons h1 h2 =>
      have n' : (d.noCell && noCells ds) = true := n
      have m' : (d.noLst && noLsts ds) = true := m
      rw [Bool.and_eq_true] at n' m'
      exact .cons (Rep.deep hz d _ h1 n'.1 m'.1) (RepL.deep hz ds _ h2 n'.2 m'.2)
end
theorem RepBL.bare {K : PySem.W.Frag} {own : Addr → Prop} {ads : List Addr} {H : Hp} (ws : List V) : ∀ (vs : List V) (ds : List D), (∀ v ∈ vs, v ∈ ws) → RepBL K own ads H vs ds → noCells ds = true → RepL K (Zo (less own ads ws) []) [] H vs ds
  | [], [], _, _, _ => .nil
  | v :: vs, d :: ds, hw, h, n => by
    have n' : (d.noCell && noCells ds) = true := n
    rw [Bool.and_eq_true] at n'
    have hz : ∀ b, Zo (less own ads ws) [] b → Zo own ads b := fun b z => z.elim (fun z => z.1) fun z => nomatch z
    refine .cons ?_ (RepBL.bare ws vs ds (fun x hx => hw x (List.mem_cons_of_mem _ hx)) h.2 n'.2)
    rcases h.1 with h1 | ⟨_, a, xs, es, e1, e2, e3, e4, e5⟩
    · exact h1.bare hz d v n'.1
    · subst e1 e2
      refine .lst (.inl ⟨.inl e3, fun z => ?_⟩) (e5.bare hz es xs n'.1)
      rcases z with z | z
      · exact z.2 (hw _ List.mem_cons_self)
      · exact nomatch z
  | [], _ :: _, _, h, _ => h.elim
  | _ :: _, [], _, h, _ => h.elim
section
variable {X : Cx} {F : Fs}
theorem s_callB {N fs : List Str} {n : Nat} {sc : Scope} (G : GX N fs F n sc X) {f : Nat} {g : Str} {es : Es} {xs : List Expr} {p pos : Pos} (hf : fs[f]? = some g) (hgl : gloB sc g = true) (hd : (g == ("__debug__" : Str)) = false) (hst : ∀ y ∈ xs, notStar y = true) (hne : xs ≠ [])
    (h : PA X xs (tEs X.K F es)) : Both X F (.Call (.Name g p) xs [] pos) (.callB f es) := by
  refine Both.mk' ⟨fun pins s σ H Q I hq => ?_⟩ rfl
  obtain ⟨own, ads, ρ, μ, d, μ', h0, he, q⟩ := hq
  unfold ev at he
  obtain ⟨ds, μ1, e1, he⟩ := andThen_some he
  split at he
  · rename_i hnc
    split at he
    · rename_i d' μ2 hF
      split at he
      · rename_i hdd
        cases he
        rw [Bool.and_eq_true] at hdd
        obtain ⟨a, fd, ps, m1, m2, m3, m4, m5⟩ := G.fn f g hf ds [] d μ2 hF
        have read : tCall (spF X.K ps.length (F f)) [] E0 (tEs X.K F es) σ H Q := by
          refine ⟨own, ads, ρ, μ, ds, _, h0, e1, fun vs H1 ads1 x1 h1 r1 _ => ?_⟩
          have l := RepBL.bare vs vs ds (fun _ z => z) r1 hnc
          have c0 : CellsR X.K (less own ads1 vs) [] H1 [] := ⟨rfl, .nil, fun k a e => by simp at e, fun a z => (nomatch z), fun b z => by
            rcases z.1 with w | w
            · exact h1.c.ownT b w
            · obtain ⟨k, hk⟩ := List.mem_iff_getElem?.mp w
              obtain ⟨kvs, _, _, w2, _⟩ := h1.c.at k b hk
              exact ⟨_, w2, True.intro⟩⟩
          refine ⟨by rw [List.append_nil, l.length, m4], less own ads1 vs, [], ds, [], d, μ2, by rw [List.append_nil]; exact l, c0, hF, ?_⟩
          intro v H2 ads2 x2 c2 r2
          have keep : ∀ b o, H1 b = some o → H2 b = some o := fun b o w => x2.keep b o w (fun z => nomatch z)
          have x3 : Ext ads1 H1 ads1 H2 := ⟨fun b o w _ => keep b o w, x2.there, fun b w => .inl w, fun _ _ w => w⟩
          have c3 : CellsR X.K own ads1 H2 μ' := h1.c.same x3 fun a ha => by
            obtain ⟨k, hk⟩ := List.mem_iff_getElem?.mp ha
            obtain ⟨kvs, _, _, w2, _⟩ := h1.c.at k a hk
            rw [w2, keep _ _ w2]
          refine q v H2 ads1 (x1.trans x3) ⟨h1.e.ext h1.c x3, c3, h1.len⟩ (.inl ?_)
          refine r2.plain.deep (fun a xs t z => ?_) d v hdd.1 hdd.2
          have w : ∃ o, H1 a = some o ∧ Mut (some o) := by
            rcases z with w | w
            · exact h1.c.ownT a w
            · obtain ⟨k, hk⟩ := List.mem_iff_getElem?.mp w
              obtain ⟨kvs, _, _, w2, _⟩ := h1.c.at k a hk
              exact ⟨_, w2, True.intro⟩
          obtain ⟨o, w1, w2⟩ := w
          have w3 := keep _ _ w1
          rcases t with t | ⟨ob, t⟩
          · rw [w3] at t; cases t; exact w2
          · rw [w3] at t; cases t; exact w2
        cases xs with
        | nil => exact absurd rfl hne
        | cons y ys =>
          exact (pe_call m5 G.room (G.glo g hgl) m1 m2 m3 .nil pass0 h hd (starEach_cons (hst y List.mem_cons_self) _ _) (noStarAny fun z hz => hst z (List.mem_cons_of_mem _ hz))).run pins s σ H Q I read
      · cases he
    · cases he
  · cases he
end

/-! ### slots set and forgotten -/
theorem Hold.set {K : PySem.W.Frag} {own : Addr → Prop} {ads : List Addr} {H : Hp} {σ : L2.St} {ρ : Env} {μ : Cells} {i : Nat} {v : V} {d : D} (h : Hold K own ads H σ ρ μ) (r : Rep K (Zo own ads) ads H v d) : Hold K own ads H (σ.set i (some v)) (ρ.set i (some (.pl d))) μ := by
  refine ⟨fun j s e => ?_, h.c, by rw [List.length_set, List.length_set]; exact h.len⟩
  by_cases hj : i = j
  · subst hj
    have hl : i < ρ.length := by
      have z := (List.getElem?_eq_some_iff.mp e).1
      rw [List.length_set] at z
      exact z
    rw [List.getElem?_set_self hl] at e
    cases e
    exact ⟨v, List.getElem?_set_self (by rw [← h.len]; exact hl), r⟩
  · rw [List.getElem?_set_ne hj] at e
    obtain ⟨w, e1, e2⟩ := h.e j s e
    exact ⟨w, by rw [List.getElem?_set_ne hj]; exact e1, e2⟩
/-- the slots forgotten, in the little language -/
def wipeR (ρ : Env) : List Nat → Env
  | [] => ρ
  | v :: vs => (wipeR ρ vs).set v none
theorem wipeR_length (ρ : Env) : ∀ vs : List Nat, (wipeR ρ vs).length = ρ.length
  | [] => rfl
  | v :: vs => by unfold wipeR; rw [List.length_set, wipeR_length ρ vs]
theorem wipeR_some {ρ : Env} {i : Nat} {x : Sl} : ∀ {vs : List Nat}, (wipeR ρ vs)[i]? = some (some x) → ρ[i]? = some (some x) ∧ i ∉ vs
  | [], h => ⟨h, by simp⟩
  | v :: vs, h => by
    unfold wipeR at h
    by_cases hi : v = i
    · subst hi
      by_cases hv : v < (wipeR ρ vs).length
      · rw [List.getElem?_set_self hv] at h; cases h
      · rw [List.getElem?_eq_none (by simpa using hv)] at h; cases h
    · rw [List.getElem?_set_ne hi] at h
      obtain ⟨h1, h2⟩ := wipeR_some h
      exact ⟨h1, by simp only [List.mem_cons, not_or]; exact ⟨fun e => hi e.symm, h2⟩⟩
theorem Hold.wipe {K : PySem.W.Frag} {own : Addr → Prop} {ads : List Addr} {H : Hp} {σ : L2.St} {ρ : Env} {μ : Cells} (h : Hold K own ads H σ ρ μ) (vs : List Nat) : Hold K own ads H (L2.wipe σ vs) (wipeR ρ vs) μ := by
  refine ⟨fun j s e => ?_, h.c, by rw [wipeR_length, L2.wipe_length]; exact h.len⟩
  obtain ⟨e1, e2⟩ := wipeR_some e
  obtain ⟨w, e3, e4⟩ := h.e j s e1
  exact ⟨w, by rw [wipe_out e2]; exact e3, e4⟩
theorem wipe_set {σ : L2.St} {i : Nat} {x : Option V} : ∀ {vs : List Nat}, i ∈ vs → L2.wipe (σ.set i x) vs = L2.wipe σ vs
  | [], h => nomatch h
  | v :: vs, h => by
    unfold L2.wipe
    by_cases hi : i ∈ vs
    · rw [wipe_set hi]
    · have e : i = v := by
        rcases List.mem_cons.mp h with e | e
        · exact e
        · exact absurd e hi
      subst e
      have z : ∀ (vs : List Nat), i ∉ vs → (L2.wipe (σ.set i x) vs) = (L2.wipe σ vs).set i x := by
        intro vs
        induction vs with
        | nil => intro _; rfl
        | cons u us ih =>
          intro hn
          simp only [List.mem_cons, not_or] at hn
          unfold L2.wipe
          rw [ih hn.2, List.set_comm _ _ hn.1]
      rw [z vs hi, List.set_set]
theorem wipe_wipe {σ : L2.St} : ∀ {vs ws : List Nat}, (∀ i ∈ vs, i ∈ ws) → L2.wipe (L2.wipe σ vs) ws = L2.wipe σ ws
  | [], _, _ => rfl
  | v :: vs, ws, h => by
    have e : L2.wipe σ (v :: vs) = (L2.wipe σ vs).set v none := rfl
    rw [e, wipe_set (h v List.mem_cons_self), wipe_wipe fun i hi => h i (List.mem_cons_of_mem _ hi)]
theorem setAll_wipeR : ∀ (is : List Nat) (ds : List D) (ρ : Env), is.Nodup → ds.length = is.length → setAll is ds (wipeR ρ is) = setAll is ds ρ
  | [], [], _, _, _ => rfl
  | [], _ :: _, _, _, e => by cases e
  | _ :: _, [], _, _, e => by cases e
  | i :: is, d :: ds, ρ, nd, e => by
    have hn := List.nodup_cons.mp nd
    show setAll is ds (((wipeR ρ is).set i none).set i (some (.pl d))) = setAll is ds (ρ.set i (some (.pl d)))
    rw [List.set_set]
    have z : ∀ (vs : List Nat), i ∉ vs → wipeR (ρ.set i (some (Sl.pl d))) vs = (wipeR ρ vs).set i (some (.pl d)) := by
      intro vs
      induction vs with
      | nil => intro _; rfl
      | cons u us ih =>
        intro hn
        simp only [List.mem_cons, not_or] at hn
        unfold wipeR
        rw [ih hn.2, List.set_comm _ _ hn.1]
    rw [← z is hn.1]
    exact setAll_wipeR is ds _ hn.2 (by simpa using e)

/-! ### targets -/
def gNames : List Nat → TGs
  | [] => gNil
  | i :: is => gCons (gName i) (gNames is)
def tTg (K : PySem.W.Frag) : Tg → TG
  | .nm i => gName i
  | .tp is => gTup K is.length (gNames is)
theorem s_ts {N fs : List Str} {F : Fs} {n : Nat} {sc : Scope} {X : Cx} (G : GX N fs F n sc X) : ∀ {is : List Nat} {es : List Expr}, chkTs N sc is es = true → PGs X es (gNames is) ∧ (assignEach es X.env).length = is.length ∧ (assignEach es X.env).findIdx? (·.1) = none
  | [], [], _ => ⟨pgs_nil, rfl, rfl⟩
  | [], e :: es, h => by cases e <;> cases h
  | i :: is, [], h => by cases h
  | i :: is, e :: es, h => by
    cases e with
    | Name x pos =>
      have h' : (decide (N[i]? = some x) && locB sc x && chkTs N sc is es) = true := h
      rw [Bool.and_eq_true, Bool.and_eq_true, decide_eq_true_eq] at h'
      obtain ⟨⟨h1, h2⟩, h3⟩ := h'
      obtain ⟨g1, g2, g3⟩ := s_ts G h3
      obtain ⟨l1, l2⟩ := G.loc x h2
      refine ⟨pgs_cons (pg_name (by rw [G.hN]; exact G.nd) (by rw [G.hN]; exact h1) l1 l2) g1 rfl, ?_, ?_⟩
      · show ((false, assign (.Name x pos) X.env) :: assignEach es X.env).length = _
        rw [List.length_cons, g2]
        rfl
      · show ((false, assign (.Name x pos) X.env) :: assignEach es X.env).findIdx? (·.1) = none
        rw [List.findIdx?_cons, if_neg Bool.false_ne_true, g3]
        rfl
    | _ => cases h
theorem s_tg {N fs : List Str} {F : Fs} {n : Nat} {sc : Scope} {X : Cx} (G : GX N fs F n sc X) {tg : Tg} {e : Expr} (h : chkTg N sc tg e = true) : PG X e (tTg X.K tg) := by
  cases tg with
  | nm i =>
    cases e with
    | Name x pos =>
      have h' : (decide (N[i]? = some x) && locB sc x) = true := h
      rw [Bool.and_eq_true, decide_eq_true_eq] at h'
      obtain ⟨l1, l2⟩ := G.loc x h'.2
      exact pg_name (by rw [G.hN]; exact G.nd) (by rw [G.hN]; exact h'.1) l1 l2
    | _ => cases h
  | tp is =>
    cases e with
    | Tuple es k pos =>
      have h' : (chkTs N sc is es && decide is.Nodup) = true := h
      rw [Bool.and_eq_true] at h'
      obtain ⟨g1, g2, g3⟩ := s_ts G h'.1
      exact pg_tup G.calm g1 g2 g3
    | _ => cases h
theorem gNames_ok {K : PySem.W.Frag} {own : Addr → Prop} {ads : List Addr} {H : Hp} {μ : Cells} {Q : L2.St → Hp → Prop} {ws : List Nat} : ∀ {is : List Nat} {ds : List D} {vs : List V} {σ : L2.St} {ρ : Env}, Hold K own ads H σ ρ μ → RepL K (Zo own ads) ads H vs ds → ds.length = is.length →
    (∀ i ∈ is, i ∈ ws) → (∀ σ1, Hold K own ads H σ1 (setAll is ds ρ) μ → L2.wipe σ1 ws = L2.wipe σ ws → Q σ1 H) → gNames is vs σ H Q
  | [], [], _, σ, ρ, h, r, _, _, k => by
    cases r
    exact ⟨rfl, k σ h rfl⟩
  | [], _ :: _, _, _, _, _, _, e, _, _ => by cases e
  | _ :: _, [], _, _, _, _, _, e, _, _ => by cases e
  | i :: is, d :: ds, _, σ, ρ, h, r, e, hw, k => by
    cases r with
    | @cons v _ vs _ r1 r2 =>
      refine ⟨v, vs, rfl, ?_⟩
      show gNames is vs (σ.set i (some v)) H Q
      refine gNames_ok (h.set r1) r2 (by simpa using e) (fun j hj => hw j (List.mem_cons_of_mem _ hj)) fun σ1 h1 w1 => k σ1 h1 ?_
      rw [w1, wipe_set (hw i List.mem_cons_self)]
theorem tg_ok {K : PySem.W.Frag} {own : Addr → Prop} {ads : List Addr} {H : Hp} {σ : L2.St} {ρ ρ1 : Env} {μ : Cells} {Q : L2.St → Hp → Prop} {tg : Tg} {v : V} {d : D} (h : Hold K own ads H σ ρ μ) (r : Rep K (Zo own ads) ads H v d) (e : bindT tg d ρ = some ρ1)
    (k : ∀ σ1, Hold K own ads H σ1 ρ1 μ → L2.wipe σ1 tg.slots = L2.wipe σ tg.slots → Q σ1 H) : tTg K tg v σ H Q := by
  cases tg with
  | nm i =>
    have e' : some (ρ.set i (some (.pl d))) = some ρ1 := e
    cases e'
    exact k _ (h.set r) (wipe_set (List.mem_singleton.mpr rfl))
  | tp is =>
    cases d with
    | tup ds =>
      have e' : (if ds.length = is.length then some (setAll is ds ρ) else none) = some ρ1 := e
      split at e'
      · rename_i hl
        cases e'
        cases r with
        | tup t l =>
          exact ⟨_, _, rfl, t.sq, by rw [l.length]; exact hl, gNames_ok h l hl (fun _ z => z) k⟩
      · cases e'
    | _ => cases e

/-! ### what is walked -/
def WalksR (K : PySem.W.Frag) (own ow : Addr → Prop) (ads : List Addr) (H : Hp) (J : L2.It) (xs : List D) (b : Bool) : Prop :=
  (∃ a vs, J = Itl K a ∧ LstAt K (Zo own ads) H a vs ∧ RepL K (Zo own ads) ads H vs xs) ∨
  (b = true ∧ ∃ a vs, J = Itl K a ∧ H a = some (.lst vs) ∧ ow a ∧ RepL K (Zo own ads) ads H vs xs) ∨
  (∃ a vs, J = Itt K a ∧ TupAt K (Zo own ads) H a vs ∧ RepL K (Zo own ads) ads H vs xs) ∨
  (∃ lo n, J = Itr lo n ∧ xs = rngD lo n) ∨
  (∃ s : Str, J = Its s ∧ xs = signs s) ∨
  (∃ lo c n, J = Itc lo c n ∧ xs = rngS lo c n)
section
variable {K : PySem.W.Frag} {own ow : Addr → Prop} {ads ads' : List Addr} {H H' : Hp} {μ : Cells} {J : L2.It} {xs : List D} {b : Bool}
theorem WalksR.ext (hw : ∀ b, ow b → own b) (c : CellsR K own ads H μ) (e : Ext ads H ads' H') (h : WalksR K own ow ads H J xs b) : WalksR K own ow ads' H' J xs b := by
  rcases h with ⟨a, vs, h1, h2, h3⟩ | ⟨hb, a, vs, h1, h2, h3, h4⟩ | ⟨a, vs, h1, h2, h3⟩ | h
  · exact .inl ⟨a, vs, h1, h2.stay e.stay, h3.ext e⟩
  · exact .inr (.inl ⟨hb, a, vs, h1, e.keep _ _ h2 fun m => c.dis a m (hw _ h3), h3, h4.ext e⟩)
  · exact .inr (.inr (.inl ⟨a, vs, h1, h2.stay e.stay, h3.ext e⟩))
  · exact .inr (.inr (.inr h))
theorem signs_get {s : Str} {i : Nat} {d : D} (h : (signs s)[i]? = some d) : i < s.cps.size ∧ ∃ c, s.cps[i]? = some c ∧ d = .str ⟨#[c]⟩ := by
  unfold signs at h
  rw [List.getElem?_map, Array.getElem?_toList] at h
  cases e : s.cps[i]? with
  | none => rw [e] at h; cases h
  | some c => rw [e] at h; cases h; exact ⟨(Array.getElem?_eq_some_iff.mp e).1, c, rfl, rfl⟩
theorem signs_length {s : Str} : (signs s).length = s.cps.size := by unfold signs; rw [List.length_map, Array.length_toList]
theorem WalksR.seqL {a : Addr} {vs : List V} (hs : SqL K H a vs) (l : RepL K (Zo own ads) ads H vs xs) (inj : ∀ ys, SqL K H a ys → ys = vs) (i : Nat) :
    (xs.length ≤ i → (Itl K a).stop i H) ∧ (∀ d, xs[i]? = some d → (Itl K a).go i H ∧ ∀ x H', (Itl K a).yld i H x H' → H' = H ∧ Rep K (Zo own ads) ads H x d) := by
  refine ⟨fun hi => ⟨vs, hs, by rw [l.length]; exact hi⟩, fun d hd => ?_⟩
  obtain ⟨v, e1, e2⟩ := l.get hd
  refine ⟨⟨vs, v, hs, e1⟩, fun x H' y => ⟨y.1, ?_⟩⟩
  have z := y.2 vs hs
  rw [e1] at z
  cases z
  exact e2
theorem WalksR.seqT {a : Addr} {vs : List V} (hs : SqT K H a vs) (l : RepL K (Zo own ads) ads H vs xs) (i : Nat) :
    (xs.length ≤ i → (Itt K a).stop i H) ∧ (∀ d, xs[i]? = some d → (Itt K a).go i H ∧ ∀ x H', (Itt K a).yld i H x H' → H' = H ∧ Rep K (Zo own ads) ads H x d) := by
  refine ⟨fun hi => ⟨vs, hs, by rw [l.length]; exact hi⟩, fun d hd => ?_⟩
  obtain ⟨v, e1, e2⟩ := l.get hd
  refine ⟨⟨vs, v, hs, e1⟩, fun x H' y => ⟨y.1, ?_⟩⟩
  have z := y.2 vs hs
  rw [e1] at z
  cases z
  exact e2
theorem rngD_get {lo : Int} {n i : Nat} {d : D} (h : (rngD lo n)[i]? = some d) : i < n ∧ d = .int (lo + i) := by
  unfold rngD at h
  rw [List.getElem?_map] at h
  by_cases hi : i < n
  · rw [List.getElem?_range hi] at h
    cases h
    exact ⟨hi, rfl⟩
  · rw [List.getElem?_eq_none (by simpa using hi)] at h
    cases h
theorem rngD_length {lo : Int} {n : Nat} : (rngD lo n).length = n := by unfold rngD; rw [List.length_map, List.length_range]
theorem WalksR.turn (h : WalksR K own ow ads H J xs b) (i : Nat) :
    (xs.length ≤ i → J.stop i H) ∧ (∀ d, xs[i]? = some d → J.go i H ∧ ∀ x H', J.yld i H x H' → H' = H ∧ Rep K (Zo own ads) ads H x d) := by
  rcases h with ⟨a, vs, rfl, h2, h3⟩ | ⟨_, a, vs, rfl, h2, h3, h4⟩ | ⟨a, vs, rfl, h2, h3⟩ | ⟨lo, n, rfl, rfl⟩ | ⟨s, rfl, rfl⟩ | ⟨lo, k, n, rfl, rfl⟩
  · refine ⟨fun hi => ⟨vs, h2.sq, by rw [h3.length]; exact hi⟩, fun d hd => ?_⟩
    obtain ⟨v, e1, e2⟩ := h3.get hd
    refine ⟨⟨vs, v, h2.sq, e1⟩, fun x H' y => ⟨y.1, ?_⟩⟩
    have z := y.2 vs h2.sq
    rw [e1] at z
    cases z
    exact e2
  · refine ⟨fun hi => ⟨vs, .of h2, by rw [h4.length]; exact hi⟩, fun d hd => ?_⟩
    obtain ⟨v, e1, e2⟩ := h4.get hd
    refine ⟨⟨vs, v, .of h2, e1⟩, fun x H' y => ⟨y.1, ?_⟩⟩
    have z := y.2 vs (.of h2)
    rw [e1] at z
    cases z
    exact e2
  · exact WalksR.seqT h2.sq h3 i
  · refine ⟨fun hi => ?_, fun d hd => ?_⟩
    · rw [rngD_length] at hi
      exact hi
    · obtain ⟨h1, h2⟩ := rngD_get hd
      refine ⟨h1, fun x H' y => ⟨y.1, ?_⟩⟩
      rw [h2, y.2]
      exact .int _
  · refine ⟨fun hi => ?_, fun d hd => ?_⟩
    · rw [signs_length] at hi
      exact hi
    · obtain ⟨h1, c, h2, h3⟩ := signs_get hd
      subst h3
      refine ⟨h1, fun x H' ⟨y1, c', y2, y3⟩ => ⟨y1, ?_⟩⟩
      rw [h2] at y2
      cases y2
      subst y3
      exact .str _
  · refine ⟨fun hi => ?_, fun d hd => ?_⟩
    · unfold rngS at hi
      rw [List.length_map, List.length_range] at hi
      exact hi
    · unfold rngS at hd
      rw [List.getElem?_map] at hd
      by_cases hi : i < n
      · rw [List.getElem?_range hi] at hd
        cases hd
        refine ⟨hi, fun x H' y => ⟨y.1, ?_⟩⟩
        rw [y.2]
        exact .int _
      · rw [List.getElem?_eq_none (by simpa using hi)] at hd
        cases hd
end
def tI (K : PySem.W.Frag) (F : Fs) (it : It) : TI := fun σ H R => ∃ own ads ρ μ xs μ', Hold K own ads H σ ρ μ ∧ evi F it ρ μ = some (xs, μ') ∧
  ∀ J H' ads', Ext ads H ads' H' → Hold K own ads' H' σ ρ μ' → WalksR K own own ads' H' J xs (it.lk ρ) → R J H'
theorem PI.imp {X : Cx} {tg e : Expr} {t t' : TI} (h : PI X tg e t) (i : ∀ σ H Q, t' σ H Q → t σ H Q) : PI X tg e t' := ⟨fun pins s σ H Q I q => h.run pins s σ H Q I (i _ _ _ q)⟩
theorem PI.or {X : Cx} {tg e : Expr} {t t' : TI} (h : PI X tg e t) (h' : PI X tg e t') : PI X tg e (fun σ H R => t σ H R ∨ t' σ H R) := ⟨fun pins s σ H Q I q => q.elim (h.run pins s σ H Q I) (h'.run pins s σ H Q I)⟩
section
variable {X : Cx} {F : Fs} {tgx : Expr}
/-- a list or a tuple, whichever it is -/
theorem pi_seq {l : Expr} {tl : TE} (hl : PE X l tl) : PI X tgx l (fun σ H R => tl σ H fun x H1 => (∃ y, x = .str y ∧ R (Its y) H1) ∨ ∃ a, x = .ref a ∧ (((∃ xs, SqL X.K H1 a xs) ∧ R (Itl X.K a) H1) ∨ ((∃ xs, SqT X.K H1 a xs) ∧ R (Itt X.K a) H1))) := by
  refine ⟨fun pins s σ H R I h => ?_⟩
  refine thn (hl.run pins s σ H _ I h) fun v s1 ⟨x, H1, I1, r1, q1⟩ => ?_
  rcases q1 with ⟨y, e, q⟩ | q1
  · subst e
    obtain ⟨t, rfl⟩ := r1
    cases ha : y.cps.all (· < 128)
    · exact wpAny_pyIter_wide ha (pi_one (tk := s1.toks) I1 _ (turn_str _ y t "str_iterator" (.inr rfl)) ⟨_, Heap.get?_push_size _ rfl, rfl, rfl⟩ q)
    · exact wpAny_pyIter_ascii ha (pi_one (tk := s1.toks) I1 _ (turn_str _ y t "str_ascii_iterator" (.inl rfl)) ⟨_, Heap.get?_push_size _ rfl, rfl, rfl⟩ q)
  obtain ⟨a, e, q1⟩ := q1
  subst e
  cases r1
  rcases q1 with ⟨⟨xs, hq⟩, q⟩ | ⟨⟨xs, hq⟩, q⟩
  · obtain ⟨its, rv, p, hz⟩ := I1.list hq
    refine wpAny_pyIter_list p.isList ?_
    refine ⟨s1.heap.objs.size, [s1.heap.objs.size], _, _, H1, rfl, I1.kept (t' := s1.toks) fun b o e => Heap.get?_push_of_some _ e, turn_list a _, ⟨_, Heap.get?_push_size _ rfl, rfl, rfl⟩, fun b hb => ?_, q⟩
    have e : b = s1.heap.objs.size := by simpa using hb
    subst e
    exact I1.fpOk (Nat.le_refl _) (I1.hok.fresh (Nat.le_refl _))
  · obtain ⟨its, rv, p, hz⟩ := I1.tuple hq
    refine wpAny_pyIter_tuple (show s1.heap.IsTuple a its.toArray from p) ?_
    refine ⟨s1.heap.objs.size, [s1.heap.objs.size], _, _, H1, rfl, I1.kept (t' := s1.toks) fun b o e => Heap.get?_push_of_some _ e, turn_tuple a _, ⟨_, Heap.get?_push_size _ rfl, rfl, rfl⟩, fun b hb => ?_, q⟩
    have e : b = s1.heap.objs.size := by simpa using hb
    subst e
    exact I1.fpOk (Nat.le_refl _) (I1.hok.fresh (Nat.le_refl _))
theorem s_iseq {e : E} {x : Expr} (h : Both X F x e) : PI X tgx x (tI X.K F (.seq e)) := by
  refine PI.imp (pi_seq h.v) ?_
  intro σ H R ⟨own, ads, ρ, μ, xs, μ', h, he, q⟩
  unfold evi at he
  obtain ⟨dx, μ1, e1, he⟩ := andThen_some he
  refine ⟨own, ads, ρ, μ, dx, μ1, h, e1, fun v H1 ads1 x1 h1 r1 => ?_⟩
  split at he
  · cases he
    rcases r1 with r1 | ⟨hb, a, vs, es, f1, f2, f3, f4, f5⟩
    · cases r1 with
      | lst t l => exact .inr ⟨_, rfl, .inl ⟨⟨_, t.sq⟩, q _ H1 ads1 x1 h1 (.inl ⟨_, _, rfl, t, l⟩)⟩⟩
    · cases f2
      exact .inr ⟨a, f1, .inl ⟨⟨vs, .of f3⟩, q _ H1 ads1 x1 h1 (.inr (.inl ⟨hb, a, vs, rfl, f3, f4, f5⟩))⟩⟩
  · cases he
    obtain ⟨a, vs, f1, f2, f3⟩ := r1.tup
    exact .inr ⟨a, f1, .inr ⟨⟨vs, f2.sq⟩, q _ H1 ads1 x1 h1 (.inr (.inr (.inl ⟨a, vs, rfl, f2, f3⟩)))⟩⟩
  · cases he
    exact .inl ⟨_, r1.str, q _ H1 ads1 x1 h1 (.inr (.inr (.inr (.inr (.inl ⟨_, rfl, rfl⟩)))))⟩
  · cases he
theorem rngOk_ok {i : Int} (h : rngOk i = true) : -(2 ^ 62) ≤ i ∧ i < 2 ^ 62 := by
  unfold rngOk at h
  rw [Bool.and_eq_true, decide_eq_true_eq, decide_eq_true_eq] at h
  exact h
theorem s_rng1 {N fs : List Str} {n : Nat} {sc : Scope} (G : GX N fs F n sc X) {a : E} {x : Expr} {p pos : Pos} (hg : gloB sc "range" = true) (hs : notStar x = true) (h : Both X F x a) : PI X tgx (.Call (.Name "range" p) [x] [] pos) (tI X.K F (.rng1 a)) := by
  have hn : X.mg "range" = none := G.bn _ (by decide +kernel)
  refine PI.imp (pi_range1 (G.glo _ hg) hn (pa_cons h.v pa_nil (starEach_cons hs _ _)) (by rw [starEach_cons hs]; rfl)) ?_
  intro σ H R ⟨own, ads, ρ, μ, xs, μ', h, he, q⟩
  unfold evi at he
  obtain ⟨dx, μ1, e1, he⟩ := andThen_some he
  split at he
  · split at he
    · rename_i m hm
      cases he
      refine ⟨own, ads, ρ, μ, _, _, h, e1, fun v H1 ads1 x1 h1 r1 => ?_⟩
      have ev := r1.int
      subst ev
      exact ⟨_, rfl, (rngOk_ok hm).1, (rngOk_ok hm).2, q _ H1 ads1 x1 h1 (.inr (.inr (.inr (.inl ⟨_, _, rfl, rfl⟩))))⟩
    · cases he
  · cases he
theorem s_rng2 {N fs : List Str} {n : Nat} {sc : Scope} (G : GX N fs F n sc X) {a b : E} {x y : Expr} {p pos : Pos} (hg : gloB sc "range" = true) (hs : notStar x = true) (hs2 : notStar y = true) (h : Both X F x a) (h2 : Both X F y b) : PI X tgx (.Call (.Name "range" p) [x, y] [] pos) (tI X.K F (.rng2 a b)) := by
  have hn : X.mg "range" = none := G.bn _ (by decide +kernel)
  refine PI.imp (pi_range2 (G.glo _ hg) hn (pa_cons h.v (pa_cons h2.v pa_nil (starEach_cons hs2 _ _)) (starEach_cons hs _ _)) (by rw [starEach_cons hs, starEach_cons hs2]; rfl) (by rw [starEach_cons hs2]; rfl)) ?_
  intro σ H R ⟨own, ads, ρ, μ, xs, μ', h, he, q⟩
  unfold evi at he
  obtain ⟨dx, μ1, e1, he⟩ := andThen_some he
  obtain ⟨dy, μ2, e2, he⟩ := andThen_some he
  split at he
  · split at he
    · rename_i m k hm
      cases he
      rw [Bool.and_eq_true] at hm
      refine ⟨own, ads, ρ, μ, _, μ1, h, e1, fun v H1 ads1 x1 h1 r1 => ⟨own, ads1, ρ, μ1, _, _, h1, e2, fun w H2 ads2 x2 h2 r2 => ?_⟩⟩
      have ev := r1.int
      have ew := r2.int
      subst ev ew
      exact ⟨_, _, rfl, ⟨(rngOk_ok hm.1).1, (rngOk_ok hm.1).2, (rngOk_ok hm.2).1, (rngOk_ok hm.2).2⟩, q _ H2 ads2 (x1.trans x2) h2 (.inr (.inr (.inr (.inl ⟨_, _, rfl, rfl⟩))))⟩
    · cases he
  · cases he
theorem s_rng3 {N fs : List Str} {n : Nat} {sc : Scope} (G : GX N fs F n sc X) {a b c : E} {x y z : Expr} {p pos : Pos} (hg : gloB sc "range" = true) (hs : notStar x = true) (hs2 : notStar y = true) (hs3 : notStar z = true) (h : Both X F x a) (h2 : Both X F y b) (h3 : Both X F z c) : PI X tgx (.Call (.Name "range" p) [x, y, z] [] pos) (tI X.K F (.rng3 a b c)) := by
  have hn : X.mg "range" = none := G.bn _ (by decide +kernel)
  refine PI.imp (pi_range3 (G.glo _ hg) hn (pa_cons h.v (pa_cons h2.v (pa_cons h3.v pa_nil (starEach_cons hs3 _ _)) (starEach_cons hs2 _ _)) (starEach_cons hs _ _)) (starEach_cons hs _ _) (by rw [starEach_cons hs2, starEach_cons hs3]; rfl)) ?_
  intro σ H R ⟨own, ads, ρ, μ, xs, μ', h, he, q⟩
  unfold evi at he
  obtain ⟨dx, μ1, e1, he⟩ := andThen_some he
  obtain ⟨dy, μ2, e2, he⟩ := andThen_some he
  obtain ⟨dz, μ3, e3, he⟩ := andThen_some he
  split at he
  · split at he
    · rename_i m k j hm
      cases he
      unfold rgOk at hm
      rw [Bool.and_eq_true, Bool.and_eq_true, Bool.and_eq_true, decide_eq_true_eq, decide_eq_true_eq, decide_eq_true_eq] at hm
      obtain ⟨⟨⟨g1, g2⟩, g3⟩, g4⟩ := hm
      refine ⟨own, ads, ρ, μ, _, μ1, h, e1, fun v H1 ads1 x1 h1 r1 => ⟨own, ads1, ρ, μ1, _, _, h1, e2, fun w H2 ads2 x2 h2 r2 => ⟨own, ads2, ρ, μ2, _, _, h2, e3, fun u H3 ads3 x3 h3 r3 => ?_⟩⟩⟩
      have ev := r1.int
      have ew := r2.int
      have eu := r3.int
      subst ev ew eu
      exact ⟨_, _, _, _, rfl, ⟨g1, g2, g3, (Int.toNat_of_nonneg g4).symm⟩, q _ H3 ads3 ((x1.trans x2).trans x3) h3 (.inr (.inr (.inr (.inr (.inr ⟨_, _, _, rfl, rfl⟩)))))⟩
    · cases he
  · cases he
end
end FM

set_option Elab.async false
set_option linter.all false
set_option maxRecDepth 100000
set_option maxHeartbeats 4000000
/-! Ev10: comprehensions, dict displays, all expressions. -/
namespace FM
open PySem PySem.Spec PyProof.Rows L2

/-! ### the block of a comprehension -/
theorem lookup_cond (c : Str → NameKind → Bool) (x : Str) : ∀ names : List (Str × NameKind), (names.map fun p => if c p.1 p.2 = true then (p.1, NameKind.cell) else (p.1, p.2)).lookup x = (names.lookup x).map fun k => if c x k = true then NameKind.cell else k
  | [] => rfl
  | (n, k) :: r => by
    have ih := lookup_cond c x r
    rw [List.map_cons]
    cases hx : x == n with
    | true =>
      have e : x = n := eq_of_beq hx
      subst e
      by_cases hc : c x k = true
      · simp only [hc, if_true, List.lookup_cons, hx, Option.map_some]
      · have hc' : c x k = false := by simpa using hc
        simp [hc', List.lookup_cons]
    | false =>
      by_cases hc : c n k = true
      · simp only [hc, if_true, List.lookup_cons, hx]
        exact ih
      · have hc' : c n k = false := by simpa using hc
        simp only [hc', Bool.false_eq_true, if_false, List.lookup_cons, hx]
        exact ih
def relC (env : PySem.Env) (n : Str) (k : NameKind) : Bool := k == NameKind.free && env.scope.kind == .function && env.kindOf n == some .cell
theorem lookup_relabel (env : PySem.Env) (x : Str) (scope : Scope) : (relabel scope env).names.lookup x = (scope.names.lookup x).map fun k => if relC env x k = true then NameKind.cell else k := lookup_cond (relC env) x scope.names
theorem relC_local (env : PySem.Env) (x : Str) : relC env x .local = false := rfl
theorem relC_cell (env : PySem.Env) (x : Str) : relC env x .cell = false := rfl
theorem relC_glo (env : PySem.Env) (x : Str) : relC env x .globalImplicit = false := rfl
theorem GX.blk {N fs : List Str} {F : Fs} {n : Nat} {sc : Scope} {X : Cx} (G : GX N fs F n sc X) {scope : Scope} {s : Shared} {H : Hp} {C : Addr} {cl : List (Str × Addr)} {fp : List Addr} :
    GX N fs F n scope (X.blk s H scope (compEnvC scope cl C X.env) fp) := by
  have look : ∀ x, (compEnvC scope cl C X.env).scope.names.lookup x = (scope.names.lookup x).map fun k => if relC X.env x k = true then NameKind.cell else k := fun x => lookup_relabel X.env x scope
  have free : ∀ x, scope.names.lookup x = some .free → (compEnvC scope cl C X.env).scope.names.lookup x = some .cell ∨ (compEnvC scope cl C X.env).scope.names.lookup x = some .free := fun x e => by
    rw [look, e, Option.map_some]
    by_cases hc : relC X.env x .free = true
    · rw [if_pos hc]; exact .inl rfl
    · rw [if_neg hc]; exact .inr rfl
  refine ⟨G.hN, G.nd, G.calm, rfl, G.room, fun x h => ?_, fun x h => ?_, fun x h => ?_, fun x h => ?_, G.bn, G.fn⟩
  · unfold visB at h
    show (compEnvC scope cl C X.env).scope.names.lookup x = some .local ∨ (compEnvC scope cl C X.env).scope.names.lookup x = some .cell ∨ (compEnvC scope cl C X.env).scope.names.lookup x = some .free
    split at h
    · rename_i e; rw [look, e]; exact .inl rfl
    · rename_i e; rw [look, e]; exact .inr (.inl rfl)
    · rename_i e; exact .inr (free x e)
    · cases h
  · unfold gloB at h
    show (compEnvC scope cl C X.env).scope.names.lookup x = some .globalImplicit
    split at h
    · rename_i e; rw [look, e]; rfl
    · cases h
  · unfold locB at h
    show ((compEnvC scope cl C X.env).scope.names.lookup x = some .local ∨ (compEnvC scope cl C X.env).scope.names.lookup x = some .cell) ∧ ((scope.names.lookup x == some .cell) = true ∨ (compEnvC scope cl C X.env).scope.names.lookup x = some .local)
    split at h
    · rename_i e; rw [look, e]; exact ⟨.inl rfl, .inr rfl⟩
    · rename_i e; rw [look, e]; exact ⟨.inr rfl, .inl rfl⟩
    · cases h
  · show (compEnvC scope cl C X.env).scope.names.lookup x = some .cell ∨ (compEnvC scope cl C X.env).scope.names.lookup x = some .free
    rcases h with e | e
    · rw [look, e]; exact .inl rfl
    · exact free x e
theorem own_slots (N : List Str) : ∀ is : List Nat, (ownOf N is).map (·.2) = is
  | [] => rfl
  | i :: is => by
    show i :: (ownOf N is).map (·.2) = i :: is
    rw [own_slots N is]
theorem GX.blkOk {N fs : List Str} {F : Fs} {n : Nat} {sc : Scope} {X : Cx} (G : GX N fs F n sc X) {scope : Scope} {is : List Nat} (h : blkC N sc scope (ownOf N is) = true) : BlkOk X.N X.env.scope scope (ownOf N is) := by
  have b := blkOk_by h
  rw [G.hN]
  exact ⟨b.kind, b.uniq, b.ix, fun y hy e => G.cap y.1 (b.free y hy e), b.own⟩

/-! ### the comprehension -/
section
variable {X : Cx} {F : Fs}
theorem lcGo_len {tg : Tg} {c : Env → Cells → Option (Bool × Cells)} {f : Env → Cells → Option (D × Cells)} {ρ : Env} : ∀ {xs : List D} {μ μ' : Cells} {ys : List D}, lcGo tg c f ρ xs μ = some (ys, μ') → ys.length ≤ xs.length
  | [], _, _, _, h => by cases h; exact Nat.le_refl _
  | x :: xs, μ, μ', ys, h => by
    unfold lcGo at h
    split at h
    · cases h
    · split at h
      · cases h
      · have := lcGo_len h
        rw [List.length_cons]; omega
      · split at h
        · cases h
        · split at h
          · cases h
          · rename_i e
            cases h
            have := lcGo_len e
            rw [List.length_cons, List.length_cons]; omega
theorem antiOwn {K : PySem.W.Frag} {own own' : Addr → Prop} {ads : List Addr} {H : Hp} (h : ∀ b, own' b → own b) : Stay (Zo own ads) (Zo own' ads) ads ads H H :=
  ⟨fun _ _ e _ => e, fun _ _ _ z q => z (q.elim (fun q => .inl (h _ q)) .inr), fun _ _ e => e⟩
theorem SlR.anti {K : PySem.W.Frag} {own own' : Addr → Prop} {ads : List Addr} {H : Hp} {s : Sl} {v : V} (h : ∀ b, own' b → own b) (k : ∀ ds, s = .ow ds → ∀ a, v = .ref a → own' a) (r : SlR K own ads H s v) : SlR K own' ads H s v := by
  cases s with
  | pl d => exact Rep.stay (antiOwn (K := K) h) d v r
  | ow ds =>
    obtain ⟨a, xs, e1, e2, e3, e4⟩ := r
    exact ⟨a, xs, e1, e2, k ds rfl a e1, RepL.stay (antiOwn (K := K) h) _ _ e4⟩
theorem CellsR.anti {K : PySem.W.Frag} {own own' : Addr → Prop} {ads : List Addr} {H : Hp} {μ : Cells} (h : ∀ b, own' b → own b) (c : CellsR K own ads H μ) : CellsR K own' ads H μ where
  len := c.len
  nd := c.nd
  «at» := fun k a e => by
    obtain ⟨kvs, kds, h1, h2, h3⟩ := c.at k a e
    exact ⟨kvs, kds, h1, h2, h3.stay (antiOwn (K := K) h)⟩
  dis := fun a ha q => c.dis a ha (h a q)
  ownT := fun b q => c.ownT b (h b q)
/-- one more own object, new -/
abbrev plusOwn (own : Addr → Prop) (p : Addr) : Addr → Prop := fun b => own b ∨ b = p
theorem stayPlus {own : Addr → Prop} {ads : List Addr} {H : Hp} {p : Addr} {o : HO} (hp : H p = none) : Stay (Zo own ads) (Zo (plusOwn own p) ads) ads ads H (upd H p o) :=
  ⟨fun b u e _ => by rw [upd_ne (ne_of_none e hp)]; exact e, fun b u e z q => z (by
    rcases q with (q | q) | q
    · exact .inl q
    · subst q; rw [hp] at e; cases e
    · exact .inr q), fun _ _ e => e⟩
theorem Hold.plus {K : PySem.W.Frag} {own : Addr → Prop} {ads : List Addr} {H : Hp} {σ : L2.St} {ρ : Env} {μ : Cells} {p : Addr} {o : HO} (hp : H p = none) (mu : Mut (some o)) (h : Hold K own ads H σ ρ μ) : Hold K (plusOwn own p) ads (upd H p o) σ ρ μ := by
  refine ⟨fun i s e => ?_, ⟨h.c.len, h.c.nd, fun k a e => ?_, fun a ha q => ?_, fun b q => ?_⟩, h.len⟩
  · obtain ⟨v, h1, h2⟩ := h.e i s e
    refine ⟨v, h1, ?_⟩
    cases s with
    | pl d => exact Rep.stay (stayPlus hp) d v h2
    | ow ds =>
      obtain ⟨a, xs, e1, e2, e3, e4⟩ := h2
      exact ⟨a, xs, e1, by rw [upd_ne (ne_of_none e2 hp)]; exact e2, .inl e3, RepL.stay (stayPlus hp) _ _ e4⟩
  · obtain ⟨kvs, kds, h1, h2, h3⟩ := h.c.at k a e
    exact ⟨kvs, kds, h1, by rw [upd_ne (ne_of_none h2 hp)]; exact h2, h3.stay (stayPlus hp)⟩
  · rcases q with q | q
    · exact h.c.dis a ha q
    · subst q
      exact h.c.freshZ hp (.inr ha)
  · rcases q with q | q
    · obtain ⟨u, h1, h2⟩ := h.c.ownT b q
      exact ⟨u, by rw [upd_ne (ne_of_none h1 hp)]; exact h1, h2⟩
    · subst q
      exact ⟨o, upd_same, mu⟩
/-- the own list at p is changed -/
theorem stayWrite {own : Addr → Prop} {ads : List Addr} {H : Hp} {p : Addr} {o : HO} (h : own p) : Stay (Zo own ads) (Zo own ads) ads ads H (upd H p o) :=
  ⟨fun b u e z => by
    have ne : b ≠ p := by rintro rfl; exact z (.inl h)
    rw [upd_ne ne]; exact e, fun _ _ _ z => z, fun _ _ e => e⟩
theorem Hold.write {K : PySem.W.Frag} {own : Addr → Prop} {ads : List Addr} {H : Hp} {σ : L2.St} {ρ : Env} {μ : Cells} {p : Addr} {o : HO} (hp : own p) (mu : Mut (some o)) (hn : ∀ (i : Nat) (ds : List D), ρ[i]? = some (some (Sl.ow ds)) → σ[i]? ≠ some (some (V.ref p))) (h : Hold K own ads H σ ρ μ) : Hold K own ads (upd H p o) σ ρ μ := by
  refine ⟨fun i s e => ?_, ⟨h.c.len, h.c.nd, fun k a e => ?_, h.c.dis, fun b q => ?_⟩, h.len⟩
  · obtain ⟨v, h1, h2⟩ := h.e i s e
    refine ⟨v, h1, ?_⟩
    cases s with
    | pl d => exact Rep.stay (stayWrite hp) d v h2
    | ow ds =>
      obtain ⟨a, xs, e1, e2, e3, e4⟩ := h2
      subst e1
      have ne : a ≠ p := fun z => hn i ds e (by rw [h1, z])
      exact ⟨a, xs, rfl, by rw [upd_ne ne]; exact e2, e3, RepL.stay (stayWrite hp) _ _ e4⟩
  · obtain ⟨kvs, kds, h1, h2, h3⟩ := h.c.at k a e
    have ne : a ≠ p := fun z => h.c.dis a (List.mem_of_getElem? e) (z ▸ hp)
    exact ⟨kvs, kds, h1, by rw [upd_ne ne]; exact h2, h3.stay (stayWrite hp)⟩
  · by_cases hb : b = p
    · subst hb
      exact ⟨o, upd_same, mu⟩
    · obtain ⟨u, h1, h2⟩ := h.c.ownT b q
      exact ⟨u, by rw [upd_ne hb]; exact h1, h2⟩
theorem lc_read {K : PySem.W.Frag} {elt : E} {tg : Tg} {it : It} {cond : EO} (hnd : ∀ is, tg = .tp is → is.Nodup) (σ : L2.St) (H : Hp) (Q : VK) (h : tE K F (.lc elt tg it cond) σ H Q) : tLc (tI K F it) (tTg K tg) (tC' K F cond) (tE K F elt) tg.slots σ H Q := by
  obtain ⟨own, ads, ρ, μ, d, μ', h, he, q⟩ := h
  unfold ev at he
  obtain ⟨xs, μ1, e1, he⟩ := andThen_some he
  split at he
  · rename_i hz
    obtain ⟨ys, μ2, e2, he⟩ := andThen_some he
    cases he
    refine ⟨own, ads, ρ, μ, xs, μ1, h, e1, fun J H1 ads1 x1 h1 w1 => ?_⟩
    intro D' hD
    let P : Nat → Hp → Prop := fun i Hi => ∃ adsi μi acc yi rest, Hold K (plusOwn own D') adsi Hi σ ρ μi ∧ Ext ads1 H1 adsi Hi ∧ WalksR K (plusOwn own D') own adsi Hi J xs (it.lk ρ) ∧ Hi D' = some (.lst acc) ∧ RepL K (Zo (plusOwn own D') adsi) adsi Hi acc yi ∧
      lcGo tg (fun ρ' μ' => evc F cond ρ' μ') (fun ρ' μ' => if lk ρ' elt then none else ev F elt ρ' μ') ρ (xs.drop i) μi = some (rest, μ') ∧ ys = yi ++ rest ∧ acc.length ≤ i
    have hP0 : P 0 (upd H1 D' (.lst [])) := by
      refine ⟨ads1, μ1, [], [], ys, h1.plus hD True.intro, .fresh hD, ?_, upd_same, .nil, e2, rfl, Nat.le_refl _⟩
      rcases w1 with ⟨a, vs, g1, g2, g3⟩ | ⟨hb, a, vs, g1, g2, g3, g4⟩ | ⟨a, vs, g1, g2, g3⟩ | g
      · exact .inl ⟨a, vs, g1, g2.stay (stayPlus hD), RepL.stay (stayPlus hD) _ _ g3⟩
      · exact .inr (.inl ⟨hb, a, vs, g1, by rw [upd_ne (ne_of_none g2 hD)]; exact g2, g3, RepL.stay (stayPlus hD) _ _ g4⟩)
      · exact .inr (.inr (.inl ⟨a, vs, g1, g2.stay (stayPlus hD), RepL.stay (stayPlus hD) _ _ g3⟩))
      · exact .inr (.inr (.inr g))
    refine ⟨fun i m Hi => m = xs.length - i ∧ i ≤ xs.length ∧ P i Hi, ⟨xs.length, by simp, Nat.zero_le _, hP0⟩, ?_⟩
    rintro i m Hi ⟨rfl, hi, adsi, μi, acc, yi, rest, hh, xe, wi, hacc, hrep, hgo, hys, hlen⟩
    obtain ⟨t1, t2⟩ := wi.turn i
    by_cases hlt : i < xs.length
    · -- a turn
      have hd : xs[i]? = some xs[i] := by simp [hlt]
      obtain ⟨go, yl⟩ := t2 _ hd
      refine .inr ⟨go, P (i + 1), fun H' p => ⟨xs.length - (i + 1), by omega, rfl, hlt, p⟩, fun x H' y => ?_⟩
      obtain ⟨e3, r3⟩ := yl x H' y
      subst e3
      have hdrop : xs.drop i = xs[i] :: xs.drop (i + 1) := by rw [List.drop_eq_getElem_cons hlt]
      rw [hdrop] at hgo
      unfold lcGo at hgo
      split at hgo
      · cases hgo
      · rename_i ρ1 hb
        have hb' : bindT tg xs[i] (wipeR ρ tg.slots) = some ρ1 := by
          cases tg with
          | nm k =>
            have z : some (ρ.set k (some (Sl.pl xs[i]))) = some ρ1 := hb
            show some ((ρ.set k none).set k (some (Sl.pl xs[i]))) = some ρ1
            rw [List.set_set]
            exact z
          | tp is =>
            have nd := hnd is rfl
            revert hb
            show bindT (.tp is) xs[i] ρ = some ρ1 → bindT (.tp is) xs[i] (wipeR ρ is) = some ρ1
            unfold bindT
            cases xs[i] with
            | tup ds =>
              show (if ds.length = is.length then some (setAll is ds ρ) else none) = some ρ1 → (if ds.length = is.length then some (setAll is ds (wipeR ρ is)) else none) = some ρ1
              split
              · rename_i hl
                rw [setAll_wipeR is ds ρ nd hl]
                exact fun z => z
              · exact fun z => z
            | _ => exact fun z => z
        refine tg_ok (hh.wipe tg.slots) r3 hb' fun σ1 h1' w1' => ⟨by rw [w1', wipe_wipe fun _ z => z], ?_⟩
        -- σ again from σ1
        have back : ∀ {adsj : List Addr} {Hj : Hp} {μj : Cells}, Ext adsi H' adsj Hj → Hold K (plusOwn own D') adsj Hj σ1 ρ1 μj → Hold K (plusOwn own D') adsj Hj σ ρ μj := fun {adsj Hj μj} x2 h2 => ⟨hh.e.ext hh.c x2, h2.c, hh.len⟩
        cases hc : evc F cond ρ1 μi with
        | none => rw [hc] at hgo; cases hgo
        | some r =>
          obtain ⟨b, μj⟩ := r
          rw [hc] at hgo
          refine ⟨plusOwn own D', adsi, ρ1, μi, b, μj, h1', hc, fun Hj adsj x2 h2 => ?_⟩
          have accD : ∀ {Hj : Hp} {adsj : List Addr}, Ext adsi H' adsj Hj → Hj D' = some (.lst acc) := fun {Hj adsj} x2 => x2.keep _ _ hacc fun z => hh.c.dis _ z (.inr rfl)
          cases b with
          | false =>
            show P (i + 1) Hj
            exact ⟨adsj, μj, acc, yi, rest, back x2 h2, xe.trans x2, wi.ext (fun _ z => .inl z) hh.c x2, accD x2, hrep.ext x2, hgo, hys, by omega⟩
          | true =>
            show tE K F elt σ1 Hj fun y H4 => ∃ acc, H4 D' = some (.lst acc) ∧ acc.length < sizeLine ∧ P (i + 1) (upd H4 D' (.lst (acc ++ [y])))
            cases hl : lk ρ1 elt with
            | true =>
              simp only [hl, if_true] at hgo
              cases hgo
            | false =>
              simp only [hl, Bool.false_eq_true, if_false] at hgo
              cases hev : ev F elt ρ1 μj with
              | none => rw [hev] at hgo; cases hgo
              | some r =>
                obtain ⟨y1, μk⟩ := r
                rw [hev] at hgo
                simp only at hgo
                cases hrest : lcGo tg (fun ρ' μ' => evc F cond ρ' μ') (fun ρ' μ' => if lk ρ' elt then none else ev F elt ρ' μ') ρ (xs.drop (i + 1)) μk with
                | none => rw [hrest] at hgo; cases hgo
                | some r =>
                  obtain ⟨rest', μl⟩ := r
                  rw [hrest] at hgo
                  cases hgo
                  refine ⟨plusOwn own D', adsj, ρ1, μj, y1, μk, h2, hev, fun v Hk adsk x3 h3 r3' => ?_⟩
                  rw [hl] at r3'
                  have x4 := x2.trans x3
                  have hk := back x4 h3
                  have dk : Hk D' = some (.lst acc) := accD x4
                  have own' : plusOwn own D' D' := .inr rfl
                  have hn : ∀ (j : Nat) ds, ρ[j]? = some (some (.ow ds)) → σ[j]? ≠ some (some (.ref D')) := fun j ds ej es => by
                    obtain ⟨w, g1, g2⟩ := h1.e j _ ej
                    rw [es] at g1
                    cases g1
                    obtain ⟨a, zs, f1, f2, _⟩ := g2
                    cases f1
                    rw [hD] at f2
                    cases f2
                  refine ⟨acc, dk, ?_, adsk, μk, acc ++ [v], yi ++ [y1], rest', hk.write own' True.intro hn, ?_, ?_, upd_same, ?_, hrest, by rw [hys, List.append_assoc]; rfl, by rw [List.length_append]; simp; omega⟩
                  · rw [sizeLine_eq]; omega
                  · refine ⟨fun b o e m => ?_, fun b o e => ?_, (xe.trans x4).new, (xe.trans x4).pre⟩
                    · have ne : b ≠ D' := ne_of_none e hD
                      rw [upd_ne ne]
                      exact (xe.trans x4).keep b o e m
                    · have ne : b ≠ D' := ne_of_none e hD
                      rw [upd_ne ne]
                      exact (xe.trans x4).there b o e
                  · rcases (wi.ext (fun _ z => .inl z) hh.c x4) with ⟨a, vs, g1, g2, g3⟩ | ⟨hb, a, vs, g1, g2, g3, g4⟩ | ⟨a, vs, g1, g2, g3⟩ | g
                    · exact .inl ⟨a, vs, g1, g2.stay (stayWrite own'), RepL.stay (stayWrite own') _ _ g3⟩
                    · have ne : a ≠ D' := by
                        rintro rfl
                        obtain ⟨o, z1, _⟩ := h1.c.ownT _ g3
                        rw [hD] at z1
                        cases z1
                      exact .inr (.inl ⟨hb, a, vs, g1, by rw [upd_ne ne]; exact g2, g3, RepL.stay (stayWrite own') _ _ g4⟩)
                    · exact .inr (.inr (.inl ⟨a, vs, g1, g2.stay (stayWrite own'), RepL.stay (stayWrite own') _ _ g3⟩))
                    · exact .inr (.inr (.inr g))
                  · exact .append (RepL.stay (stayWrite own') _ _ (hrep.ext x4)) (.cons (Rep.stay (stayWrite own') _ _ r3'.plain) .nil)
    · -- the end
      have e3 : i = xs.length := by omega
      subst e3
      rw [List.drop_length] at hgo
      unfold lcGo at hgo
      cases hgo
      rw [List.append_nil] at hys
      subst hys
      refine .inl ⟨t1 (Nat.le_refl _), ?_⟩
      have anti : ∀ b, own b → plusOwn own D' b := fun b z => .inl z
      have hD' : ¬ Zo own adsi D' := fun z => by
        rcases z with z | z
        · obtain ⟨o, z1, _⟩ := h1.c.ownT _ z
          rw [hD] at z1; cases z1
        · exact hh.c.dis _ z (.inr rfl)
      refine q (.ref D') Hi adsi (x1.trans xe) ⟨h1.e.ext h1.c xe, hh.c.anti anti, hh.len⟩ (.inl (.lst (.inl ⟨.inl hacc, hD'⟩) (RepL.stay (antiOwn (K := K) anti) _ _ hrep)))
  · cases he
end
end FM

set_option Elab.async false
set_option linter.all false
set_option maxRecDepth 100000
set_option maxHeartbeats 4000000
/-! Ev11: dict displays; all expressions. -/
namespace FM
open PySem PySem.Spec PyProof.Rows L2
section
variable {X : Cx} {F : Fs}
/-! ### dict displays -/
def trsOf (K : PySem.W.Frag) (F : Fs) : List Str → Es → List (TE × TE)
  | k :: ks, .cons e es => (tC (.str k), tE K F e) :: trsOf K F ks es
  | _, _ => []
theorem pairs_read {K : PySem.W.Frag} {σ : L2.St} {ρ : Env} {own : Addr → Prop} : ∀ {ks : List Str} {es : Es} {ads : List Addr} {H : Hp} {μ μ' : Cells} {ds : List D} {Q : List (V × V) → Hp → Prop}, Hold K own ads H σ ρ μ → evs F es ρ μ = some (ds, μ') → lks ρ es = false → ds.length = ks.length →
    (∀ vs H' ads', Ext ads H ads' H' → Hold K own ads' H' σ ρ μ' → RepL K (Zo own ads') ads' H' vs ds → Q ((ks.map V.str).zip vs) H') → tPairs (trsOf K F ks es) σ H Q
  | [], .nil, _, _, _, _, _, _, h, e, _, _, k => by
    cases e
    exact k [] _ _ .refl h .nil
  | [], .cons _ _, _, _, _, _, ds, _, h, e, _, hl, k => by
    unfold evs at e
    obtain ⟨d, μ1, e1, e⟩ := andThen_some e
    obtain ⟨ds', μ2, e2, e⟩ := andThen_some e
    cases e
    cases hl
  | _ :: _, .nil, _, _, _, _, _, _, h, e, _, hl, k => by
    cases e
    cases hl
  | s :: ks, .cons x es, ads, H, μ, μ', ds, Q, h, e, hk, hl, k => by
    unfold evs at e
    obtain ⟨d, μ1, e1, e⟩ := andThen_some e
    obtain ⟨ds', μ2, e2, e⟩ := andThen_some e
    cases e
    have hk' : (lk ρ x || lks ρ es) = false := hk
    rw [Bool.or_eq_false_iff] at hk'
    show tE K F x σ H fun y H2 => tPairs (trsOf K F ks es) σ H2 fun ps H3 => Q ((V.str s, y) :: ps) H3
    refine ⟨own, ads, ρ, μ, d, μ1, h, e1, fun v H1 ads1 x1 h1 r1 => ?_⟩
    rw [hk'.1] at r1
    exact pairs_read h1 e2 hk'.2 (by simpa using hl) fun vs H2 ads2 x2 h2 l2 => k (v :: vs) H2 ads2 (x1.trans x2) h2 (.cons (r1.plain.ext x2) l2)
theorem mergeK_new : ∀ (kvs acc : List (Key × V)), (∀ p ∈ kvs, valV acc p.1 = none) → (kvs.map (·.1)).Nodup → mergeK acc kvs = acc ++ kvs
  | [], acc, _, _ => by rw [List.append_nil]; rfl
  | p :: kvs, acc, h, nd => by
    have n := List.nodup_cons.mp (show (p.1 :: kvs.map (·.1)).Nodup from nd)
    show mergeK (putK acc p.1 p.2) kvs = acc ++ p :: kvs
    rw [putK_new _ (h p List.mem_cons_self), mergeK_new kvs _ (fun q hq => ?_) n.2, List.append_assoc]
    · rfl
    · rw [valV_snoc _ _ _ _ (h p List.mem_cons_self)]
      rw [if_neg (fun e => n.1 (List.mem_map.mpr ⟨q, hq, e⟩))]
      exact h q (List.mem_cons_of_mem _ hq)
theorem zip_keys : ∀ (ks : List Str) (vs : List V), ks.length = vs.length → ((ks.map fun s => (Sum.inr s : Key)).zip vs).map (·.1) = ks.map Sum.inr ∧ ((ks.map fun s => (Sum.inr s : Key)).zip vs).map (·.2) = vs ∧ (ks.map V.str).zip vs = ((ks.map fun s => (Sum.inr s : Key)).zip vs).map fun kv => (kV kv.1, kv.2)
  | [], [], _ => ⟨rfl, rfl, rfl⟩
  | [], _ :: _, e => by cases e
  | _ :: _, [], e => by cases e
  | k :: ks, v :: vs, e => by
    obtain ⟨h1, h2, h3⟩ := zip_keys ks vs (by simpa using e)
    refine ⟨?_, ?_, ?_⟩
    · simp only [List.map_cons, List.zip_cons_cons, h1]
    · simp only [List.map_cons, List.zip_cons_cons, h2]
    · simp only [List.map_cons, List.zip_cons_cons, h3]; rfl
theorem zip_keysD : ∀ (ks : List Str) (ds : List D), ks.length = ds.length → ((ks.map fun s => (Sum.inr s : Key)).zip ds).map (·.1) = ks.map Sum.inr ∧ ((ks.map fun s => (Sum.inr s : Key)).zip ds).map (·.2) = ds
  | [], [], _ => ⟨rfl, rfl⟩
  | [], _ :: _, e => by cases e
  | _ :: _, [], e => by cases e
  | k :: ks, v :: vs, e => by
    obtain ⟨h1, h2⟩ := zip_keysD ks vs (by simpa using e)
    refine ⟨?_, ?_⟩
    · simp only [List.map_cons, List.zip_cons_cons, h1]
    · simp only [List.map_cons, List.zip_cons_cons, h2]
theorem nodup_inr : ∀ {ks : List Str}, ks.Nodup → (ks.map fun s => (Sum.inr s : Key)).Nodup
  | [], _ => .nil
  | k :: ks, h => by
    have n := List.nodup_cons.mp h
    refine List.nodup_cons.mpr ⟨fun m => ?_, nodup_inr n.2⟩
    obtain ⟨j, h1, h2⟩ := List.mem_map.mp m
    cases h2
    exact n.1 h1
theorem dict_read {K : PySem.W.Frag} {ks : List Str} {es : Es} (σ : L2.St) (H : Hp) (Q : VK) (h : tE K F (.dict ks es) σ H Q) : tDisp (trsOf K F ks es) σ H Q := by
  obtain ⟨own, ads, ρ, μ, d, μ', h, he, q⟩ := h
  unfold ev at he
  split at he
  · cases he
  · rename_i hl
    obtain ⟨ds, μ1, e1, he⟩ := andThen_some he
    split at he
    · rename_i hk
      cases he
      obtain ⟨hk1, hk2, hk3⟩ := hk
      intro p hp
      refine pairs_read (h.plus hp True.intro) e1 (by simpa using hl) hk1 fun vs H2 ads2 x2 h2 l2 => ?_
      have hn : p ∉ ads := fun m => h.c.freshZ hp (.inr m)
      have hp2 : H2 p = some (.dK []) := x2.keep p _ upd_same hn
      have hn2 : p ∉ ads2 := fun m => h2.c.dis p m (.inr rfl)
      obtain ⟨z1, z2, z3⟩ := zip_keys ks vs (by rw [l2.length]; exact hk1.symm)
      obtain ⟨w1, w2⟩ := zip_keysD ks ds hk1.symm
      refine ⟨hp2, (ks.map fun s => (Sum.inr s : Key)).zip vs, z3, ?_, ?_⟩
      · rw [List.length_zip, List.length_map]
        omega
      · have nd : (((ks.map fun s => (Sum.inr s : Key)).zip vs).map (·.1)).Nodup := by
          rw [z1]
          exact nodup_inr hk3
        rw [mergeK_new _ [] (fun _ _ => rfl) nd, List.nil_append]
        -- the heap behind
        have anti : ∀ b, own b → plusOwn own p b := fun b z => .inl z
        have x3 : Ext ads H (ads2 ++ [p]) (upd H2 p (.dK ((ks.map fun s => (Sum.inr s : Key)).zip vs))) := by
          refine ⟨fun b o e m => ?_, fun b o e => ?_, fun b m => ?_, fun k a e => ?_⟩
          · have ne : b ≠ p := ne_of_none e hp
            rw [upd_ne ne]
            exact x2.keep b o (by rw [upd_ne ne]; exact e) m
          · have ne : b ≠ p := ne_of_none e hp
            rw [upd_ne ne]
            exact x2.there b o (by rw [upd_ne ne]; exact e)
          · rcases List.mem_append.mp m with m | m
            · rcases x2.new b m with z | z
              · exact .inl z
              · refine .inr ?_
                have ne : b ≠ p := fun q => hn2 (q ▸ m)
                rw [upd_ne ne] at z
                exact z
            · rw [List.mem_singleton.mp m]
              exact .inr hp
          · have z := x2.pre k a e
            rw [List.getElem?_append_left (List.getElem?_eq_some_iff.mp z).1]
            exact z
        have st : Stay (Zo (plusOwn own p) ads2) (Zo own (ads2 ++ [p])) ads2 (ads2 ++ [p]) H2 (upd H2 p (.dK ((ks.map fun s => (Sum.inr s : Key)).zip vs))) := by
          refine ⟨fun b o e z => ?_, fun b o e z w => z ?_, fun k a e => ?_⟩
          · have ne : b ≠ p := fun w => z (.inl (.inr w))
            rw [upd_ne ne]
            exact e
          · rcases w with w | w
            · exact .inl (.inl w)
            · rcases List.mem_append.mp w with w | w
              · exact .inr w
              · exact .inl (.inr (List.mem_singleton.mp w))
          · rw [List.getElem?_append_left (List.getElem?_eq_some_iff.mp e).1]
            exact e
        have hown : ¬ own p := fun z => by
          obtain ⟨o, z1, _⟩ := h.c.ownT p z
          rw [hp] at z1; cases z1
        have c3 : CellsR K own (ads2 ++ [p]) (upd H2 p (.dK ((ks.map fun s => (Sum.inr s : Key)).zip vs))) (μ1 ++ [(ks.map Sum.inr).zip ds]) := by
          refine ⟨by rw [List.length_append, List.length_append, h2.c.len]; rfl, ?_, fun k a e => ?_, fun a m => ?_, fun b z => ?_⟩
          · rw [List.nodup_append]
            exact ⟨h2.c.nd, List.nodup_cons.mpr ⟨by simp, .nil⟩, fun a m b m2 => by
              rw [List.mem_singleton.mp m2]
              exact fun q => hn2 (q ▸ m)⟩
          · by_cases hlt : k < ads2.length
            · rw [List.getElem?_append_left hlt] at e
              obtain ⟨kvs, kds, f1, f2, f3⟩ := h2.c.at k a e
              have ne : a ≠ p := fun w => hn2 (w ▸ List.mem_of_getElem? e)
              exact ⟨kvs, kds, by rw [List.getElem?_append_left (by rw [← h2.c.len]; exact hlt)]; exact f1, by rw [upd_ne ne]; exact f2, f3.stay st⟩
            · have hk : k = ads2.length := by
                have := (List.getElem?_eq_some_iff.mp e).1
                rw [List.length_append] at this
                simp at this
                omega
              subst hk
              rw [List.getElem?_append_right (Nat.le_refl _), Nat.sub_self] at e
              cases e
              refine ⟨_, (ks.map fun s => (Sum.inr s : Key)).zip ds, ?_, upd_same, ?_⟩
              · rw [List.getElem?_append_right (by rw [h2.c.len]; exact Nat.le_refl _), h2.c.len, Nat.sub_self]
                rfl
              · refine ⟨?_, ?_⟩
                · rw [z1]; exact w1.symm
                · rw [z2]
                  have : (((ks.map Sum.inr).zip ds).map (·.2)) = ds := w2
                  rw [this]
                  exact l2.stay st
          · rcases List.mem_append.mp m with m | m
            · exact fun w => h2.c.dis a m (.inl w)
            · rw [List.mem_singleton.mp m]
              exact hown
          · obtain ⟨o, f1, f2⟩ := h2.c.ownT b (.inl z)
            have ne : b ≠ p := fun w => hown (w ▸ z)
            exact ⟨o, by rw [upd_ne ne]; exact f1, f2⟩
        refine q (.ref p) _ (ads2 ++ [p]) x3 ⟨h.e.ext h.c x3, c3, h.len⟩ (.inl (.cell ?_))
        rw [List.getElem?_append_right (by rw [h2.c.len]; exact Nat.le_refl _), h2.c.len, Nat.sub_self]
        rfl
    · cases he
end
theorem chkKs_len : ∀ {ks : List Str} {keys : List (Option Expr)}, chkKs ks keys = true → ks.length = keys.length ∧ keys.all (·.isSome) = true
  | [], [], _ => ⟨rfl, rfl⟩
  | [], _ :: _, h => absurd h Bool.false_ne_true
  | _ :: _, [], h => absurd h Bool.false_ne_true
  | k :: ks, o :: r, h => by
    cases o with
    | none => exact absurd h Bool.false_ne_true
    | some y =>
      cases y with
      | Constant c j p =>
        cases c with
        | str z =>
          have h' : (decide (k = z) && chkKs ks r) = true := h
          rw [Bool.and_eq_true] at h'
          obtain ⟨e1, e2⟩ := chkKs_len h'.2
          exact ⟨by rw [List.length_cons, List.length_cons, e1], by rw [List.all_cons, e2]; rfl⟩
        | _ => exact absurd h Bool.false_ne_true
      | _ => exact absurd h Bool.false_ne_true
theorem s_dict {X : Cx} {F : Fs} {ks : List Str} {es : Es} {keys : List (Option Expr)} {values : List Expr} {pos : Pos} (hk : chkKs ks keys = true) (hl : keys.length = values.length) (h0 : keys ≠ []) (pp : PPs X pos keys values (trsOf X.K F ks es)) :
    Both X F (.Dict keys values pos) (.dict ks es) := by
  obtain ⟨e1, e2⟩ := chkKs_len hk
  refine Both.mk' ⟨fun pins s σ H Q I h => ?_⟩ rfl
  have h15 : keys.length ≤ 15 := by
    obtain ⟨own, ads, ρ, μ, d, μ', _, he, _⟩ := h
    unfold ev at he
    split at he
    · cases he
    · obtain ⟨ds, μ1, _, he⟩ := andThen_some he
      split at he
      · rename_i hh
        rw [← e1]
        exact hh.2.1
      · cases he
  exact (pe_disp pp e2 hl h0 h15).run pins s σ H Q I (dict_read σ H Q h)
/-! ### all expressions -/
section
variable {N fs : List Str} {F : Fs} {n : Nat}
theorem and3 {a b c : Bool} (h : (a && b && c) = true) : a = true ∧ b = true ∧ c = true := by
  rw [Bool.and_eq_true, Bool.and_eq_true] at h
  exact ⟨h.1.1, h.1.2, h.2⟩
theorem and2 {a b : Bool} (h : (a && b) = true) : a = true ∧ b = true := by
  rw [Bool.and_eq_true] at h
  exact h
theorem chkEs_star : ∀ {es : Es} {sc : Scope} {xs : List Expr}, chkEs N fs es sc xs = true → ∀ x ∈ xs, notStar x = true
  | .nil, _, [], _, _, hx => nomatch hx
  | .nil, _, _ :: _, h, _, _ => by cases h
  | .cons _ _, _, [], h, _, _ => by cases h
  | .cons e es, sc, y :: ys, h, x, hx => by
    obtain ⟨h1, h2, h3⟩ := and3 (show (notStar y && chkE N fs e sc y && chkEs N fs es sc ys) = true from h)
    rcases List.mem_cons.mp hx with rfl | hx
    · exact h1
    · exact chkEs_star h3 x hx
theorem chkEs_nil {es : Es} {sc : Scope} (h : chkEs N fs es sc [] = true) : es = .nil := by
  cases es with
  | nil => rfl
  | cons _ _ => cases h
theorem s_lc {sc scope : Scope} {X : Cx} (G : GX N fs F n sc X) {elt : E} {tg : Tg} {it : It} {cond : EO} {x t i : Expr} {ifs : List Expr} {pos : Pos} (hb : blkC N sc scope (ownOf N tg.slots) = true) (hs : notSet i = true) (ht : chkTg N scope tg t = true)
    (hi : ∀ tgx, PI X tgx i (tI X.K F it)) (hc : ∀ X', GX N fs F n scope X' → PTs X' ifs (tC' X'.K F cond)) (he : ∀ X', GX N fs F n scope X' → Both X' F x elt) : Both X F (.ListComp x [⟨t, i, ifs, 0⟩] scope pos) (.lc elt tg it cond) := by
  have nd : ∀ is, tg = .tp is → is.Nodup := fun is e => by
    subst e
    cases t with
    | Tuple es k p =>
      have h' : (chkTs N scope is es && decide is.Nodup) = true := ht
      exact of_decide_eq_true (and2 h').2
    | _ => cases ht
  have core := pe_lc (X := X) (own := ownOf N tg.slots) (g := tTg X.K tg) (tt := tC' X.K F cond) (te := tE X.K F elt) (elt := x) (tg := t) (iter := i) (ifs := ifs) (scope := scope) (pos := pos) G.calm (by rw [G.hN]; exact G.nd) (hi t) (G.blkOk hb)
    (fun s H C cl fp => s_tg G.blk ht) (fun s H C cl fp => hc _ G.blk) (fun s H C cl fp => (he _ G.blk).v) (folded_of hs _)
  rw [own_slots] at core
  exact Both.mk' (PE.imp core (lc_read nd)) rfl
mutual
theorem sE : ∀ (e : E) (sc : Scope) (x : Expr) (X : Cx), GX N fs F n sc X → chkE N fs e sc x = true → Both X F x e
  | .var i, sc, x, X, G, h => by
    cases x with
    | Name y pos => exact s_var G h
    | _ => exact absurd h Bool.false_ne_true
  | .int i, sc, x, X, G, h => by
    cases x with
    | Constant c k pos =>
      cases c with
      | int j =>
        have e : i = j := of_decide_eq_true h
        subst e
        exact s_int
      | _ => exact absurd h Bool.false_ne_true
    | _ => exact absurd h Bool.false_ne_true
  | .bl i, sc, x, X, G, h => by
    cases x with
    | Constant c k pos =>
      cases c with
      | bool j =>
        have e : i = j := of_decide_eq_true h
        subst e
        exact s_bl
      | _ => exact absurd h Bool.false_ne_true
    | _ => exact absurd h Bool.false_ne_true
  | .non, sc, x, X, G, h => by
    cases x with
    | Constant c k pos =>
      cases c with
      | none => exact s_non
      | _ => exact absurd h Bool.false_ne_true
    | _ => exact absurd h Bool.false_ne_true
  | .str i, sc, x, X, G, h => by
    cases x with
    | Constant c k pos =>
      cases c with
      | str j =>
        have e : i = j := of_decide_eq_true h
        subst e
        exact s_str
      | _ => exact absurd h Bool.false_ne_true
    | _ => exact absurd h Bool.false_ne_true
  | .op o a b, sc, x, X, G, h => by
    cases x with
    | BinOp y o' z pos =>
      obtain ⟨h1, h2, h3⟩ := and3 (show (decide (o = o') && chkE N fs a sc y && chkE N fs b sc z) = true from h)
      have e : o = o' := of_decide_eq_true h1
      subst e
      exact s_op (sE a sc y X G h2) (sE b sc z X G h3)
    | _ => exact absurd h Bool.false_ne_true
  | .neg a, sc, x, X, G, h => by
    cases x with
    | UnaryOp o y pos =>
      cases o with
      | USub => exact s_neg (sE a sc y X G h)
      | _ => exact absurd h Bool.false_ne_true
    | _ => exact absurd h Bool.false_ne_true
  | .cmp o a b, sc, x, X, G, h => by
    cases x with
    | Compare y os ys pos =>
      match os, ys, h with
      | [o'], [z], h =>
        obtain ⟨h0, h3⟩ := and2 (show (decide (o = o') && notSet z && chkE N fs a sc y && chkE N fs b sc z) = true from h)
        obtain ⟨h1, h2, h4⟩ := and3 h0
        have e : o = o' := of_decide_eq_true h1
        subst e
        exact s_cmp G (sE a sc y X G h4) (sE b sc z X G h3) h2
      | [], _, h => exact absurd h Bool.false_ne_true
      | [_], [], h => exact absurd h Bool.false_ne_true
      | [_], _ :: _ :: _, h => exact absurd h Bool.false_ne_true
      | _ :: _ :: _, _, h => exact absurd h Bool.false_ne_true
    | _ => exact absurd h Bool.false_ne_true
  | .chn o p a b c, sc, x, X, G, h => by
    cases x with
    | Compare y os ys pos =>
      match os, ys, h with
      | [o', p'], [z, w], h =>
        obtain ⟨h1, h2, h3⟩ := and3 (show (decide (o = o') && decide (p = p') && notSet z && notSet w && chkE N fs a sc y && chkE N fs b sc z && chkE N fs c sc w) = true from h)
        obtain ⟨h4, h5, h6⟩ := and3 h1
        obtain ⟨h7, h8, h9⟩ := and3 h4
        have e : o = o' := of_decide_eq_true h7
        have e2 : p = p' := of_decide_eq_true h8
        subst e e2
        exact s_chn G (sE a sc y X G h6) (sE b sc z X G h2) (sE c sc w X G h3) h5
      | [], _, h => exact absurd h Bool.false_ne_true
      | [_], _, h => exact absurd h Bool.false_ne_true
      | [_, _], [], h => exact absurd h Bool.false_ne_true
      | [_, _], [_], h => exact absurd h Bool.false_ne_true
      | [_, _], _ :: _ :: _ :: _, h => exact absurd h Bool.false_ne_true
      | _ :: _ :: _ :: _, _, h => exact absurd h Bool.false_ne_true
    | _ => exact absurd h Bool.false_ne_true
  | .and a b, sc, x, X, G, h => by
    cases x with
    | BoolOp o ys pos =>
      match o, ys, h with
      | .And, y :: z :: r, h =>
        obtain ⟨h1, h2⟩ := and2 (show (chkE N fs a sc y && (if r.isEmpty then chkE N fs b sc z else chkE N fs b sc (.BoolOp .And (z :: r) pos))) = true from h)
        cases r with
        | nil => exact s_and (sE a sc y X G h1) (.inl ⟨rfl, sE b sc z X G h2⟩)
        | cons u us => exact s_and (sE a sc y X G h1) (.inr ⟨(fun q => by cases q), sE b sc _ X G h2⟩)
      | .Or, _, h => exact absurd h Bool.false_ne_true
      | .And, [], h => exact absurd h Bool.false_ne_true
      | .And, [_], h => exact absurd h Bool.false_ne_true
    | _ => exact absurd h Bool.false_ne_true
  | .or a b, sc, x, X, G, h => by
    cases x with
    | BoolOp o ys pos =>
      match o, ys, h with
      | .Or, y :: z :: r, h =>
        obtain ⟨h1, h2⟩ := and2 (show (chkE N fs a sc y && (if r.isEmpty then chkE N fs b sc z else chkE N fs b sc (.BoolOp .Or (z :: r) pos))) = true from h)
        cases r with
        | nil => exact s_or (sE a sc y X G h1) (.inl ⟨rfl, sE b sc z X G h2⟩)
        | cons u us => exact s_or (sE a sc y X G h1) (.inr ⟨(fun q => by cases q), sE b sc _ X G h2⟩)
      | .And, _, h => exact absurd h Bool.false_ne_true
      | .Or, [], h => exact absurd h Bool.false_ne_true
      | .Or, [_], h => exact absurd h Bool.false_ne_true
    | _ => exact absurd h Bool.false_ne_true
  | .not a, sc, x, X, G, h => by
    cases x with
    | UnaryOp o y pos =>
      cases o with
      | Not => exact s_not (sE a sc y X G h)
      | _ => exact absurd h Bool.false_ne_true
    | _ => exact absurd h Bool.false_ne_true
  | .ife c a b, sc, x, X, G, h => by
    cases x with
    | IfExp z y w pos =>
      obtain ⟨h1, h2, h3⟩ := and3 (show (chkE N fs c sc z && chkE N fs a sc y && chkE N fs b sc w) = true from h)
      exact s_ife (sE c sc z X G h1) (sE a sc y X G h2) (sE b sc w X G h3)
    | _ => exact absurd h Bool.false_ne_true
  | .tup es, sc, x, X, G, h => by
    cases x with
    | Tuple ys k pos => exact s_tup (sEs es sc ys X G h)
    | _ => exact absurd h Bool.false_ne_true
  | .lst es, sc, x, X, G, h => by
    cases x with
    | List ys pos => exact s_lst (sEs es sc ys X G h)
    | _ => exact absurd h Bool.false_ne_true
  | .ix a b, sc, x, X, G, h => by
    cases x with
    | Subscript y z pos =>
      have h' : (notSlice z && chkE N fs a sc y && chkE N fs b sc z) = true := by
        cases z with
        | Slice l u st p2 =>
          exfalso
          cases st with
          | none => exact absurd h Bool.false_ne_true
          | some _ => exact absurd h Bool.false_ne_true
        | _ => exact h
      obtain ⟨h1, h2, h3⟩ := and3 h'
      exact s_ix G (sE a sc y X G h2) (sE b sc z X G h3) h1
    | _ => exact absurd h Bool.false_ne_true
  | .sl a lo hi, sc, x, X, G, h => by
    cases x with
    | Subscript y z pos =>
      cases z with
      | Slice l u st p2 =>
        cases st with
        | none =>
          obtain ⟨h1, h2, h3⟩ := and3 (show (chkE N fs a sc y && chkEO N fs lo sc l && chkEO N fs hi sc u) = true from h)
          exact s_sl (sE a sc y X G h1) (sEO lo sc l X G h2) (sEO hi sc u X G h3)
        | some _ => exact absurd h Bool.false_ne_true
      | _ => exact absurd h Bool.false_ne_true
    | _ => exact absurd h Bool.false_ne_true
  | .call f es, sc, x, X, G, h => by
    cases x with
    | Call y ys ks pos =>
      cases y with
      | Name g p =>
        cases ks with
        | nil =>
          obtain ⟨h0, h4⟩ := and2 (show (decide (fs[f]? = some g) && gloB sc g && !(g == ("__debug__" : Str)) && chkEs N fs es sc ys) = true from h)
          obtain ⟨h1, h2, h3⟩ := and3 h0
          exact s_call G (of_decide_eq_true h1) h2 (by simpa using h3) (chkEs_star h4) (fun e => by subst e; exact chkEs_nil h4) (sEs es sc ys X G h4)
        | cons _ _ => exact absurd h Bool.false_ne_true
      | _ => exact absurd h Bool.false_ne_true
    | _ => exact absurd h Bool.false_ne_true
  | .callB f es, sc, x, X, G, h => by
    cases x with
    | Call y ys ks pos =>
      cases y with
      | Name g p =>
        cases ks with
        | nil =>
          obtain ⟨h00, h5⟩ := and2 (show (decide (fs[f]? = some g) && gloB sc g && !(g == ("__debug__" : Str)) && chkEs N fs es sc ys && !ys.isEmpty) = true from h)
          obtain ⟨h0, h4⟩ := and2 h00
          obtain ⟨h1, h2, h3⟩ := and3 h0
          exact s_callB G (of_decide_eq_true h1) h2 (by simpa using h3) (chkEs_star h4) (fun e => by subst e; cases h5) (sEs es sc ys X G h4)
        | cons _ _ => exact absurd h Bool.false_ne_true
      | _ => exact absurd h Bool.false_ne_true
    | _ => exact absurd h Bool.false_ne_true
  | .bi b es, sc, x, X, G, h => by
    cases x with
    | Call y ys ks pos =>
      cases y with
      | Name g p =>
        cases ks with
        | nil =>
          obtain ⟨h0, h4⟩ := and2 (show (decide (g = b.name) && gloB sc g && !ys.isEmpty && chkEs N fs es sc ys) = true from h)
          obtain ⟨h1, h2, h3⟩ := and3 h0
          cases ys with
          | nil => cases h3
          | cons z zs => exact s_bi G (of_decide_eq_true h1) h2 (chkEs_star h4) (sEs es sc (z :: zs) X G h4)
        | cons _ _ => exact absurd h Bool.false_ne_true
      | _ => exact absurd h Bool.false_ne_true
    | _ => exact absurd h Bool.false_ne_true
  | .isi a t, sc, x, X, G, h => by
    cases x with
    | Call y ys ks pos =>
      cases y with
      | Name g p =>
        cases ks with
        | nil =>
          match ys, h with
          | [], h => exact absurd h Bool.false_ne_true
          | [_], h => exact absurd h Bool.false_ne_true
          | _ :: w :: _ :: _, h => cases w <;> exact absurd h Bool.false_ne_true
          | [z, w], h =>
            cases w with
            | Name k p2 =>
              obtain ⟨h1, h2, h3⟩ := and3 (show (decide (g = "isinstance") && gloB sc g && decide (k = t.py) && gloB sc k && notStar z && chkE N fs a sc z) = true from h)
              obtain ⟨h4, h5, h6⟩ := and3 h1
              obtain ⟨h7, h8⟩ := and2 h4
              have e : g = "isinstance" := of_decide_eq_true h7
              have e2 : k = t.py := of_decide_eq_true h5
              subst e e2
              exact s_isi G h8 h6 h2 (sE a sc z X G h3)
            | _ => exact absurd h Bool.false_ne_true
        | cons _ _ => (rcases ys with _ | ⟨a1, _ | ⟨a2, _ | ⟨a3, r⟩⟩⟩ <;> first | exact absurd h Bool.false_ne_true | (cases a2 <;> exact absurd h Bool.false_ne_true))
      | _ => exact absurd h Bool.false_ne_true
    | _ => exact absurd h Bool.false_ne_true
  | .me m o es, sc, x, X, G, h => by
    cases x with
    | Call y ys ks pos =>
      cases y with
      | Attribute z g apos =>
        cases ks with
        | nil =>
          obtain ⟨h1, h2, h3⟩ := and3 (show (decide (g = m.name) && (apos.endLine == pos.line) && baseOk z && chkE N fs o sc z && m.arOk ys && chkEs N fs es sc ys) = true from h)
          obtain ⟨h4, h5, h6⟩ := and3 h1
          obtain ⟨h7, h8⟩ := and2 h4
          have e : g = m.name := of_decide_eq_true h7
          subst e
          cases m with
          | bits =>
            cases ys with
            | nil =>
              obtain rfl := chkEs_nil h3
              exact s_bits (sE o sc z X G h6) h5 h8
            | cons _ _ => cases h2
          | partition =>
            clear h h1 h4 h7
            match ys, h2, h3 with
            | [w], h2, h3 => exact s_partition (sE o sc z X G h6) (sEs es sc [w] X G h3) (chkEs_star h3 w List.mem_cons_self) h5 h8
            | [], h2, h3 => cases h2
            | _ :: _ :: _, h2, h3 => cases h2
          | join =>
            clear h h1 h4 h7
            match ys, h2, h3 with
            | [w], h2, h3 => exact s_join (sE o sc z X G h6) (sEs es sc [w] X G h3) (chkEs_star h3 w List.mem_cons_self) h5 h8
            | [], h2, h3 => cases h2
            | _ :: _ :: _, h2, h3 => cases h2
        | cons _ _ => exact absurd h Bool.false_ne_true
      | _ => exact absurd h Bool.false_ne_true
    | _ => exact absurd h Bool.false_ne_true
  | .lc elt tg it cond, sc, x, X, G, h => by
    cases x with
    | ListComp y gs scope pos =>
      match gs, h with
      | [⟨t, i, ifs, k⟩], h =>
        obtain ⟨h1, h2, h3⟩ := and3 (show (decide (k = 0) && blkC N sc scope (ownOf N tg.slots) && notSet i && chkTg N scope tg t && chkIt N fs it sc i && chkC N fs cond scope ifs && chkE N fs elt scope y) = true from h)
        obtain ⟨h4, h5, h6⟩ := and3 h1
        obtain ⟨h7, h8, h9⟩ := and3 h4
        have e : k = 0 := of_decide_eq_true h7
        subst e
        exact s_lc G h8 h9 h5 (fun tgx => sIt it sc i X tgx G h6) (fun X' G' => sC cond scope ifs X' G' h2) (fun X' G' => sE elt scope y X' G' h3)
      | [], h => exact absurd h Bool.false_ne_true
      | ⟨_, _, _, _⟩ :: _ :: _, h => exact absurd h Bool.false_ne_true
    | _ => exact absurd h Bool.false_ne_true
  | .dict ks es, sc, x, X, G, h => by
    cases x with
    | Dict keys values pos =>
      obtain ⟨h0, h4⟩ := and2 (show (chkKs ks keys && decide (keys.length = values.length) && !keys.isEmpty && chkEs N fs es sc values) = true from h)
      obtain ⟨h1, h2, h3⟩ := and3 h0
      have hl : keys.length = values.length := of_decide_eq_true h2
      have pp := sPP es ks sc keys values X pos G h1 h4 hl
      exact s_dict h1 hl (by intro e; subst e; cases h3) pp
    | _ => exact absurd h Bool.false_ne_true
theorem sPP : ∀ (es : Es) (ks : List Str) (sc : Scope) (keys : List (Option Expr)) (values : List Expr) (X : Cx) (pos : Pos), GX N fs F n sc X → chkKs ks keys = true → chkEs N fs es sc values = true → keys.length = values.length → PPs X pos keys values (trsOf X.K F ks es)
  | es, [], sc, [], [], X, pos, _, _, _, _ => by
    cases es <;> exact pps_nil
  | _, [], _, _ :: _, _, _, _, _, h, _, _ => absurd h Bool.false_ne_true
  | _, [], _, [], _ :: _, _, _, _, _, _, h => by cases h
  | _, _ :: _, _, [], _, _, _, _, h, _, _ => absurd h Bool.false_ne_true
  | .nil, _ :: _, _, _ :: _, [], _, _, _, _, _, h => by cases h
  | .nil, _ :: _, _, _ :: _, _ :: _, _, _, _, _, h, _ => absurd h Bool.false_ne_true
  | .cons e es, _ :: _, _, _ :: _, [], _, _, _, _, _, h => by cases h
  | .cons e es, k :: ks, sc, o :: keys, v :: values, X, pos, G, h1, h2, h3 => by
    obtain ⟨g1, g2, g3⟩ := and3 (show (notStar v && chkE N fs e sc v && chkEs N fs es sc values) = true from h2)
    cases o with
    | none => exact absurd h1 Bool.false_ne_true
    | some y =>
      cases y with
      | Constant c j p =>
        cases c with
        | str z =>
          obtain ⟨m1, m2⟩ := and2 (show (decide (k = z) && chkKs ks keys) = true from h1)
          have ek : k = z := of_decide_eq_true m1
          subst ek
          exact pps_cons pe_str (sE e sc v X G g2).v (sPP es ks sc keys values X pos G m2 g3 (by simpa using h3))
        | _ => exact absurd h1 Bool.false_ne_true
      | _ => exact absurd h1 Bool.false_ne_true
theorem sEs : ∀ (es : Es) (sc : Scope) (xs : List Expr) (X : Cx), GX N fs F n sc X → chkEs N fs es sc xs = true → PA X xs (tEs X.K F es)
  | .nil, sc, [], X, G, h => s_nil
  | .nil, sc, _ :: _, X, G, h => absurd h Bool.false_ne_true
  | .cons e es, sc, [], X, G, h => absurd h Bool.false_ne_true
  | .cons e es, sc, x :: xs, X, G, h => by
    obtain ⟨h1, h2, h3⟩ := and3 (show (notStar x && chkE N fs e sc x && chkEs N fs es sc xs) = true from h)
    exact s_cons (sE e sc x X G h2) (sEs es sc xs X G h3) h1
theorem sEO : ∀ (e : EO) (sc : Scope) (x : Option Expr) (X : Cx), GX N fs F n sc X → chkEO N fs e sc x = true → PO X x (tEO X.K F e)
  | .none, sc, none, X, G, h => s_onone
  | .none, sc, some _, X, G, h => absurd h Bool.false_ne_true
  | .some e, sc, none, X, G, h => absurd h Bool.false_ne_true
  | .some e, sc, some x, X, G, h => s_osome (sE e sc x X G h)
theorem sC : ∀ (e : EO) (sc : Scope) (x : List Expr) (X : Cx), GX N fs F n sc X → chkC N fs e sc x = true → PTs X x (tC' X.K F e)
  | .none, sc, [], X, G, h => s_cnone
  | .none, sc, _ :: _, X, G, h => absurd h Bool.false_ne_true
  | .some e, sc, [], X, G, h => absurd h Bool.false_ne_true
  | .some e, sc, [x], X, G, h => s_csome (sE e sc x X G h)
  | .some e, sc, _ :: _ :: _, X, G, h => absurd h Bool.false_ne_true
theorem sIt : ∀ (it : It) (sc : Scope) (x : Expr) (X : Cx) (tgx : Expr), GX N fs F n sc X → chkIt N fs it sc x = true → PI X tgx x (tI X.K F it)
  | .seq e, sc, x, X, tgx, G, h => s_iseq (sE e sc x X G h)
  | .rng1 a, sc, x, X, tgx, G, h => by
    cases x with
    | Call y ys ks pos =>
      cases y with
      | Name g p =>
        cases ks with
        | nil =>
          match ys, h with
          | [], h => exact absurd h Bool.false_ne_true
          | _ :: _ :: _, h => exact absurd h Bool.false_ne_true
          | [z], h =>
            obtain ⟨h0, h4⟩ := and2 (show (decide (g = "range") && gloB sc g && notStar z && chkE N fs a sc z) = true from h)
            obtain ⟨h1, h2, h3⟩ := and3 h0
            have e : g = "range" := of_decide_eq_true h1
            subst e
            exact s_rng1 G h2 h3 (sE a sc z X G h4)
        | cons _ _ => (rcases ys with _ | ⟨a1, _ | ⟨a2, _ | ⟨a3, r⟩⟩⟩ <;> first | exact absurd h Bool.false_ne_true | (cases a2 <;> exact absurd h Bool.false_ne_true))
      | _ => exact absurd h Bool.false_ne_true
    | _ => exact absurd h Bool.false_ne_true
  | .rng2 a b, sc, x, X, tgx, G, h => by
    cases x with
    | Call y ys ks pos =>
      cases y with
      | Name g p =>
        cases ks with
        | nil =>
          match ys, h with
          | [], h => exact absurd h Bool.false_ne_true
          | [_], h => exact absurd h Bool.false_ne_true
          | _ :: _ :: _ :: _, h => exact absurd h Bool.false_ne_true
          | [z, w], h =>
            obtain ⟨h0, h4, h5⟩ := and3 (show (decide (g = "range") && gloB sc g && notStar z && notStar w && chkE N fs a sc z && chkE N fs b sc w) = true from h)
            obtain ⟨h6, h2, h3⟩ := and3 h0
            obtain ⟨h1, h7⟩ := and2 h6
            have e : g = "range" := of_decide_eq_true h1
            subst e
            exact s_rng2 G h7 h2 h3 (sE a sc z X G h4) (sE b sc w X G h5)
        | cons _ _ => (rcases ys with _ | ⟨a1, _ | ⟨a2, _ | ⟨a3, r⟩⟩⟩ <;> first | exact absurd h Bool.false_ne_true | (cases a2 <;> exact absurd h Bool.false_ne_true))
      | _ => exact absurd h Bool.false_ne_true
    | _ => exact absurd h Bool.false_ne_true
  | .rng3 a b c, sc, x, X, tgx, G, h => by
    cases x with
    | Call y ys ks pos =>
      cases y with
      | Name g p =>
        cases ks with
        | nil =>
          match ys, h with
          | [], h => exact absurd h Bool.false_ne_true
          | [_], h => exact absurd h Bool.false_ne_true
          | [_, _], h => exact absurd h Bool.false_ne_true
          | _ :: _ :: _ :: _ :: _, h => exact absurd h Bool.false_ne_true
          | [z, w, o], h =>
            obtain ⟨h0, h4, h5⟩ := and3 (show (decide (g = "range") && gloB sc g && notStar z && notStar w && notStar o && chkE N fs a sc z && chkE N fs b sc w && chkE N fs c sc o) = true from h)
            obtain ⟨h6, h8, h9⟩ := and3 h0
            obtain ⟨h10, h2, h3⟩ := and3 h6
            obtain ⟨h1, h7⟩ := and2 h10
            have e : g = "range" := of_decide_eq_true h1
            subst e
            exact s_rng3 G h7 h2 h3 h8 (sE a sc z X G h9) (sE b sc w X G h4) (sE c sc o X G h5)
        | cons _ _ => (rcases ys with _ | ⟨a1, _ | ⟨a2, _ | ⟨a3, _ | ⟨a4, r⟩⟩⟩⟩ <;> first | exact absurd h Bool.false_ne_true | (cases a2 <;> first | exact absurd h Bool.false_ne_true | (cases a3 <;> exact absurd h Bool.false_ne_true)))
      | _ => exact absurd h Bool.false_ne_true
    | _ => exact absurd h Bool.false_ne_true
end
end
end FM

set_option Elab.async false
set_option linter.all false
set_option maxRecDepth 100000
set_option maxHeartbeats 4000000
/-! Ev12: statements. -/
namespace FM
open PySem PySem.Spec PyProof.Rows L2

/-! ### the frame -/
/-- what the frame's slots own, and what was own ahead of the call -/
def ownF (own0 : Addr → Prop) (σ : L2.St) (ρ : Env) : Addr → Prop := fun b => own0 b ∨ ∃ (i : Nat) (ds : List D), ρ[i]? = some (some (Sl.ow ds)) ∧ σ[i]? = some (some (V.ref b))
/-- what a def's body keeps: base: the state at its entry; pn, pa: what a loop around wants kept -/
structure Base where
  own0 : Addr → Prop
  ads0 : List Addr
  H0 : Hp
  pn : Addr → HO → Prop
  pa : List Addr
structure FI (K : PySem.W.Frag) (B : Base) (ads : List Addr) (H : Hp) (σ : L2.St) (ρ : Env) (μ : Cells) : Prop where
  hold : Hold K (ownF B.own0 σ ρ) ads H σ ρ μ
  ext : Ext B.ads0 B.H0 ads H
  dist : ∀ (i j : Nat) (ds es : List D) (b : Addr), ρ[i]? = some (some (Sl.ow ds)) → ρ[j]? = some (some (Sl.ow es)) → σ[i]? = some (some (V.ref b)) → σ[j]? = some (some (V.ref b)) → i = j
  new : ∀ (i : Nat) (ds : List D) (b : Addr), ρ[i]? = some (some (Sl.ow ds)) → σ[i]? = some (some (V.ref b)) → B.H0 b = none
  own0T : ∀ b, B.own0 b → ∃ o, B.H0 b = some o
  pin : ∀ b o, B.pn b o → H b = some o ∧ ¬ Zo (ownF B.own0 σ ρ) ads b
  pre : ∀ (k : Nat) (a : Addr), B.pa[k]? = some a → ads[k]? = some a
section
variable {K : PySem.W.Frag} {B : Base} {ads ads' : List Addr} {H H' : Hp} {σ : L2.St} {ρ : Env} {μ μ' : Cells}
/-- behind an expression -/
theorem FI.step (f : FI K B ads H σ ρ μ) (e : Ext ads H ads' H') (h : Hold K (ownF B.own0 σ ρ) ads' H' σ ρ μ') : FI K B ads' H' σ ρ μ' where
  hold := h
  ext := f.ext.trans e
  dist := f.dist
  new := f.new
  own0T := f.own0T
  pin := fun b o p => by
    obtain ⟨h1, h2⟩ := f.pin b o p
    exact ⟨e.keep b o h1 fun m => h2 (.inr m), e.stay.free b o h1 h2⟩
  pre := fun k a q => e.pre k a (f.pre k a q)
theorem ownF_set {own0 : Addr → Prop} {i : Nat} {v : Option V} {d : D} {b : Addr} (h : ownF own0 (σ.set i v) (ρ.set i (some (.pl d))) b) : ownF own0 σ ρ b := by
  rcases h with h | ⟨j, ds, h1, h2⟩
  · exact .inl h
  · by_cases hj : i = j
    · subst hj
      rw [List.getElem?_set] at h1
      simp at h1
    · rw [List.getElem?_set_ne hj] at h1 h2
      exact .inr ⟨j, ds, h1, h2⟩
theorem ownF_set' {own0 : Addr → Prop} {i : Nat} {d : D} {b : Addr} (h : ownF own0 σ (ρ.set i (some (.pl d))) b) : ownF own0 σ ρ b := by
  rcases h with h | ⟨j, ds, h1, h2⟩
  · exact .inl h
  · by_cases hj : i = j
    · subst hj
      rw [List.getElem?_set] at h1
      simp at h1
    · rw [List.getElem?_set_ne hj] at h1
      exact .inr ⟨j, ds, h1, h2⟩
theorem set_ow {i j : Nat} {d : D} {ds : List D} (h : (ρ.set i (some (Sl.pl d)))[j]? = some (some (Sl.ow ds))) : i ≠ j ∧ ρ[j]? = some (some (Sl.ow ds)) := by
  by_cases hj : i = j
  · subst hj
    rw [List.getElem?_set] at h
    simp at h
  · rw [List.getElem?_set_ne hj] at h
    exact ⟨hj, h⟩
/-- the environment, seen with fewer own lists -/
theorem Hold.anti {own own' : Addr → Prop} (h : ∀ b, own' b → own b) (k : ∀ (i : Nat) (ds : List D) (b : Addr), ρ[i]? = some (some (Sl.ow ds)) → σ[i]? = some (some (V.ref b)) → own' b) (x : Hold K own ads H σ ρ μ) : Hold K own' ads H σ ρ μ := by
  refine ⟨fun i s e => ?_, x.c.anti h, x.len⟩
  obtain ⟨v, h1, h2⟩ := x.e i s e
  refine ⟨v, h1, h2.anti h fun ds e1 a e2 => ?_⟩
  subst e1 e2
  exact k i ds a e h1
/-- a plain datum is stored -/
theorem FI.setPl {i : Nat} {v : V} {d : D} (f : FI K B ads H σ ρ μ) (r : Rep K (Zo (ownF B.own0 σ ρ) ads) ads H v d) : FI K B ads H (σ.set i (some v)) (ρ.set i (some (.pl d))) μ where
  hold := (f.hold.set r).anti (fun b h => ownF_set h) fun j ds b h1 h2 => .inr ⟨j, ds, h1, h2⟩
  ext := f.ext
  dist := fun j k ds es b h1 h2 h3 h4 => by
    obtain ⟨n1, g1⟩ := set_ow h1
    obtain ⟨n2, g2⟩ := set_ow h2
    rw [List.getElem?_set_ne n1] at h3
    rw [List.getElem?_set_ne n2] at h4
    exact f.dist j k ds es b g1 g2 h3 h4
  new := fun j ds b h1 h2 => by
    obtain ⟨n1, g1⟩ := set_ow h1
    rw [List.getElem?_set_ne n1] at h2
    exact f.new j ds b g1 h2
  own0T := f.own0T
  pin := fun b o p => by
    obtain ⟨h1, h2⟩ := f.pin b o p
    exact ⟨h1, fun z => h2 (z.elim (fun z => .inl (ownF_set z)) .inr)⟩
  pre := f.pre
/-- an owned list is let go: it is plain from now on -/
theorem FI.frz {i : Nat} {ds : List D} (f : FI K B ads H σ ρ μ) (hi : ρ[i]? = some (some (Sl.ow ds))) : FI K B ads H σ (ρ.set i (some (.pl (.lst ds)))) μ := by
  obtain ⟨v, e1, a, xs, e2, e3, e4, e5⟩ := f.hold.e i _ hi
  subst e2
  have fewer : ∀ b, ownF B.own0 σ (ρ.set i (some (.pl (.lst ds)))) b → ownF B.own0 σ ρ b := fun b h => ownF_set' h
  have na : ¬ Zo (ownF B.own0 σ (ρ.set i (some (.pl (.lst ds))))) ads a := by
    intro z
    rcases z with (z | ⟨j, es, z1, z2⟩) | z
    · obtain ⟨o, z1⟩ := f.own0T a z
      rw [f.new i ds a hi e1] at z1
      cases z1
    · obtain ⟨n1, g1⟩ := set_ow z1
      exact n1 (f.dist i j ds es a hi g1 e1 z2)
    · exact f.hold.c.dis a z e4
  refine ⟨?_, f.ext, fun j k ds es b h1 h2 h3 h4 => ?_, fun j ds b h1 h2 => ?_, f.own0T, fun b o p => ?_, f.pre⟩
  · refine ⟨fun j s e => ?_, f.hold.c.anti fewer, by rw [List.length_set]; exact f.hold.len⟩
    by_cases hj : i = j
    · subst hj
      have hl := (List.getElem?_eq_some_iff.mp hi).1
      rw [List.getElem?_set_self hl] at e
      cases e
      exact ⟨_, e1, .lst (.inl ⟨.inl e3, na⟩) (RepL.stay (antiOwn (K := K) fewer) _ _ e5)⟩
    · rw [List.getElem?_set_ne hj] at e
      obtain ⟨w, g1, g2⟩ := f.hold.e j s e
      refine ⟨w, g1, g2.anti fewer fun es e1 a e2 => ?_⟩
      subst e1 e2
      exact .inr ⟨j, es, by rw [List.getElem?_set_ne hj]; exact e, g1⟩
  · exact f.dist j k ds es b (set_ow h1).2 (set_ow h2).2 h3 h4
  · exact f.new j ds b (set_ow h1).2 h2
  · obtain ⟨h1, h2⟩ := f.pin b o p
    exact ⟨h1, fun z => h2 (z.elim (fun z => .inl (fewer _ z)) .inr)⟩
/-- a new list of one's own -/
theorem FI.own {i : Nat} {p : Addr} (f : FI K B ads H σ ρ μ) (hp : H p = none) (hi : isOw ρ i = false) : FI K B ads (upd H p (.lst [])) (σ.set i (some (.ref p))) (ρ.set i (some (.ow []))) μ := by
  have hp0 : B.H0 p = none := by
    cases q : B.H0 p with
    | none => rfl
    | some o => obtain ⟨o', q'⟩ := f.ext.there p o q; rw [hp] at q'; cases q'
  have not : ∀ (j : Nat) (ds : List D), ρ[j]? = some (some (Sl.ow ds)) → i ≠ j := fun j ds e z => by
    subst z
    unfold isOw at hi
    rw [e] at hi
    cases hi
  have notp : ∀ (j : Nat) (ds : List D), ρ[j]? = some (some (Sl.ow ds)) → σ[j]? ≠ some (some (V.ref p)) := fun j ds e z => by
    obtain ⟨v, e1, a, xs, e2, e3, _⟩ := f.hold.e j _ e
    rw [z] at e1
    cases e1
    cases e2
    rw [hp] at e3
    cases e3
  have look : ∀ {j : Nat} {ds : List D}, (ρ.set i (some (Sl.ow [])))[j]? = some (some (Sl.ow ds)) → (i = j ∧ ds = [] ∧ j < ρ.length) ∨ (i ≠ j ∧ ρ[j]? = some (some (Sl.ow ds))) := fun {j ds} e => by
    by_cases hj : i = j
    · subst hj
      have hl := (List.getElem?_eq_some_iff.mp e).1
      rw [List.length_set] at hl
      rw [List.getElem?_set_self hl] at e
      cases e
      exact .inl ⟨rfl, rfl, hl⟩
    · rw [List.getElem?_set_ne hj] at e
      exact .inr ⟨hj, e⟩
  have fewer : ∀ b, ownF B.own0 (σ.set i (some (V.ref p))) (ρ.set i (some (Sl.ow []))) b → plusOwn (ownF B.own0 σ ρ) p b := fun b h => by
    rcases h with h | ⟨j, ds, h1, h2⟩
    · exact .inl (.inl h)
    · rcases look h1 with ⟨e1, _, hl⟩ | ⟨e1, e2⟩
      · subst e1
        rw [List.getElem?_set_self (by rw [← f.hold.len]; exact hl)] at h2
        cases h2
        exact .inr rfl
      · rw [List.getElem?_set_ne e1] at h2
        exact .inl (.inr ⟨j, ds, e2, h2⟩)
  have hh := f.hold.plus (p := p) (o := .lst []) hp True.intro
  refine ⟨?_, f.ext.trans (.fresh hp), fun j k ds es b h1 h2 h3 h4 => ?_, fun j ds b h1 h2 => ?_, f.own0T, fun b o q => ?_, f.pre⟩
  · refine ⟨fun j s e => ?_, hh.c.anti fewer, by rw [List.length_set, List.length_set]; exact f.hold.len⟩
    by_cases hj : i = j
    · subst hj
      have hl := (List.getElem?_eq_some_iff.mp e).1
      rw [List.length_set] at hl
      rw [List.getElem?_set_self hl] at e
      cases e
      exact ⟨_, List.getElem?_set_self (by rw [← f.hold.len]; exact hl), p, [], rfl, upd_same, .inr ⟨i, [], List.getElem?_set_self hl, List.getElem?_set_self (by rw [← f.hold.len]; exact hl)⟩, .nil⟩
    · rw [List.getElem?_set_ne hj] at e
      obtain ⟨w, g1, g2⟩ := hh.e j s e
      refine ⟨w, by rw [List.getElem?_set_ne hj]; exact g1, g2.anti fewer fun es e1 a e2 => ?_⟩
      subst e1 e2
      exact .inr ⟨j, es, by rw [List.getElem?_set_ne hj]; exact e, by rw [List.getElem?_set_ne hj]; exact g1⟩
  · rcases look h1 with ⟨a1, _, l1⟩ | ⟨a1, a2⟩
    · subst a1
      rw [List.getElem?_set_self (by rw [← f.hold.len]; exact l1)] at h3
      cases h3
      rcases look h2 with ⟨b1, _, _⟩ | ⟨b1, b2⟩
      · exact b1
      · rw [List.getElem?_set_ne b1] at h4
        exact absurd h4 (notp k es b2)
    · rw [List.getElem?_set_ne a1] at h3
      rcases look h2 with ⟨b1, _, l2⟩ | ⟨b1, b2⟩
      · subst b1
        rw [List.getElem?_set_self (by rw [← f.hold.len]; exact l2)] at h4
        cases h4
        exact absurd h3 (notp j ds a2)
      · rw [List.getElem?_set_ne b1] at h4
        exact f.dist j k ds es b a2 b2 h3 h4
  · rcases look h1 with ⟨a1, _, l1⟩ | ⟨a1, a2⟩
    · subst a1
      rw [List.getElem?_set_self (by rw [← f.hold.len]; exact l1)] at h2
      cases h2
      exact hp0
    · rw [List.getElem?_set_ne a1] at h2
      exact f.new j ds b a2 h2
  · obtain ⟨h1, h2⟩ := f.pin b o q
    have ne : b ≠ p := ne_of_none h1 hp
    refine ⟨by rw [upd_ne ne]; exact h1, fun z => ?_⟩
    rcases z with z | z
    · rcases fewer b z with z | z
      · exact h2 (.inl z)
      · exact ne z
    · exact h2 (.inr z)
/-- a list of one's own with new items -/
theorem FI.wr {i : Nat} {a : Addr} {ds en : List D} {xs ys : List V} (f : FI K B ads H σ ρ μ) (hi : ρ[i]? = some (some (Sl.ow ds))) (hs : σ[i]? = some (some (V.ref a))) (ha : H a = some (.lst xs)) (hl : RepL K (Zo (ownF B.own0 σ ρ) ads) ads H ys en) :
    FI K B ads (upd H a (.lst ys)) σ (ρ.set i (some (.ow en))) μ := by
  have own : ownF B.own0 σ ρ a := .inr ⟨i, ds, hi, hs⟩
  have hlen := (List.getElem?_eq_some_iff.mp hi).1
  have look : ∀ {j : Nat} {es : List D}, (ρ.set i (some (Sl.ow en)))[j]? = some (some (Sl.ow es)) → ∃ es', ρ[j]? = some (some (Sl.ow es')) := fun {j es} e => by
    by_cases hj : i = j
    · subst hj
      exact ⟨ds, hi⟩
    · rw [List.getElem?_set_ne hj] at e
      exact ⟨es, e⟩
  have same : ∀ b, ownF B.own0 σ (ρ.set i (some (Sl.ow en))) b → ownF B.own0 σ ρ b := fun b h => by
    rcases h with h | ⟨j, es, h1, h2⟩
    · exact .inl h
    · obtain ⟨es', e⟩ := look h1
      exact .inr ⟨j, es', e, h2⟩
  have back : ∀ (j : Nat) (es : List D) (b : Addr), ρ[j]? = some (some (Sl.ow es)) → σ[j]? = some (some (V.ref b)) → ownF B.own0 σ (ρ.set i (some (Sl.ow en))) b := fun j es b e1 e2 => by
    by_cases hj : i = j
    · subst hj
      exact .inr ⟨i, _, List.getElem?_set_self hlen, e2⟩
    · exact .inr ⟨j, es, by rw [List.getElem?_set_ne hj]; exact e1, e2⟩
  have e0 : ∀ b o, B.H0 b = some o → b ≠ a := fun b o e z => by
    subst z
    rw [f.new i ds b hi hs] at e
    cases e
  refine ⟨?_, ⟨fun b o e m => ?_, fun b o e => ?_, f.ext.new, f.ext.pre⟩, fun j k es gs b h1 h2 h3 h4 => ?_, fun j es b h1 h2 => ?_, f.own0T, fun b o q => ?_, f.pre⟩
  · refine ⟨fun j s e => ?_, ⟨f.hold.c.len, f.hold.c.nd, fun k b e => ?_, fun b m z => f.hold.c.dis b m (same _ z), fun b z => ?_⟩, by rw [List.length_set]; exact f.hold.len⟩
    · by_cases hj : i = j
      · subst hj
        rw [List.getElem?_set_self hlen] at e
        cases e
        refine ⟨_, hs, a, ys, rfl, upd_same, back i ds a hi hs, ?_⟩
        exact RepL.stay (antiOwn (K := K) same) _ _ (RepL.stay (stayWrite own) _ _ hl)
      · rw [List.getElem?_set_ne hj] at e
        obtain ⟨w, g1, g2⟩ := f.hold.e j s e
        refine ⟨w, g1, ?_⟩
        cases s with
        | pl d' => exact Rep.stay (antiOwn (K := K) same) _ _ (Rep.stay (stayWrite own) _ _ g2)
        | ow es =>
          obtain ⟨a', zs, f1, f2, f3, f4⟩ := g2
          subst f1
          have ne : a' ≠ a := fun z => hj (f.dist i j ds es a hi e hs (z ▸ g1))
          exact ⟨a', zs, rfl, by rw [upd_ne ne]; exact f2, back j es a' e g1, RepL.stay (antiOwn (K := K) same) _ _ (RepL.stay (stayWrite own) _ _ f4)⟩
    · obtain ⟨kvs, kds, g1, g2, g3⟩ := f.hold.c.at k b e
      have ne : b ≠ a := fun z => f.hold.c.dis b (List.mem_of_getElem? e) (z ▸ own)
      exact ⟨kvs, kds, g1, by rw [upd_ne ne]; exact g2, (g3.stay (stayWrite own)).stay (antiOwn (K := K) same)⟩
    · by_cases hb : b = a
      · subst hb
        exact ⟨_, upd_same, True.intro⟩
      · obtain ⟨o, g1, g2⟩ := f.hold.c.ownT b (same _ z)
        exact ⟨o, by rw [upd_ne hb]; exact g1, g2⟩
  · rw [upd_ne (e0 b o e)]
    exact f.ext.keep b o e m
  · rw [upd_ne (e0 b o e)]
    exact f.ext.there b o e
  · obtain ⟨es', g1⟩ := look h1
    obtain ⟨gs', g2⟩ := look h2
    exact f.dist j k es' gs' b g1 g2 h3 h4
  · obtain ⟨es', g1⟩ := look h1
    exact f.new j es' b g1 h2
  · obtain ⟨h1, h2⟩ := f.pin b o q
    have ne : b ≠ a := fun z => h2 (.inl (z ▸ own))
    exact ⟨by rw [upd_ne ne]; exact h1, fun z => h2 (z.elim (fun z => .inl (same _ z)) .inr)⟩
/-- an item appended to a list of one's own -/
theorem FI.app {i : Nat} {a : Addr} {ds : List D} {xs : List V} {v : V} {d : D} (f : FI K B ads H σ ρ μ) (hi : ρ[i]? = some (some (Sl.ow ds))) (hs : σ[i]? = some (some (V.ref a))) (ha : H a = some (.lst xs)) (hl : RepL K (Zo (ownF B.own0 σ ρ) ads) ads H xs ds) (r : Rep K (Zo (ownF B.own0 σ ρ) ads) ads H v d) :
    FI K B ads (upd H a (.lst (xs ++ [v]))) σ (ρ.set i (some (.ow (ds ++ [d])))) μ := f.wr hi hs ha (hl.append (.cons r .nil))
theorem stayCell {own : Addr → Prop} {p : Addr} {o : HO} (h : p ∈ ads) : Stay (Zo own ads) (Zo own ads) ads ads H (upd H p o) :=
  ⟨fun b u e z => by
    have ne : b ≠ p := by rintro rfl; exact z (.inr h)
    rw [upd_ne ne]; exact e, fun _ _ _ z => z, fun _ _ e => e⟩
theorem ix_inj {N : List Addr} (hN : N.Nodup) {i j : Nat} {x : Addr} (a : N[i]? = some x) (b : N[j]? = some x) : i = j := by
  obtain ⟨h1, e1⟩ := List.getElem?_eq_some_iff.mp a
  obtain ⟨h2, e2⟩ := List.getElem?_eq_some_iff.mp b
  exact (List.getElem_inj hN).mp (e1.trans e2.symm)
/-- a cell is changed -/
theorem FI.cell {n : Nat} {a : Addr} {c : Cell} {kvs : List (Key × V)} (f : FI K B ads H σ ρ μ) (ha : ads[n]? = some a) (hk : RepKV K (Zo (ownF B.own0 σ ρ) ads) ads H kvs c) : FI K B ads (upd H a (.dK kvs)) σ ρ (μ.set n c) := by
  have mem := List.mem_of_getElem? ha
  obtain ⟨kv0, kd0, k1, k2, k3⟩ := f.hold.c.at n a ha
  have hn : n < μ.length := (List.getElem?_eq_some_iff.mp k1).1
  refine ⟨⟨fun i s e => ?_, ⟨by rw [List.length_set]; exact f.hold.c.len, f.hold.c.nd, fun k b e => ?_, f.hold.c.dis, fun b z => ?_⟩, f.hold.len⟩, ⟨fun b o e m => ?_, fun b o e => ?_, f.ext.new, f.ext.pre⟩, f.dist, f.new, f.own0T, fun b o q => ?_, f.pre⟩
  · obtain ⟨v, h1, h2⟩ := f.hold.e i s e
    refine ⟨v, h1, ?_⟩
    cases s with
    | pl d => exact Rep.stay (stayCell mem) _ _ h2
    | ow ds =>
      obtain ⟨b, zs, f1, f2, f3, f4⟩ := h2
      have ne : b ≠ a := fun z => f.hold.c.dis a mem (z ▸ f3)
      exact ⟨b, zs, f1, by rw [upd_ne ne]; exact f2, f3, RepL.stay (stayCell mem) _ _ f4⟩
  · by_cases hb : k = n
    · subst hb
      rw [ha] at e
      cases e
      exact ⟨kvs, c, List.getElem?_set_self hn, upd_same, hk.stay (stayCell mem)⟩
    · obtain ⟨kv, kd, g1, g2, g3⟩ := f.hold.c.at k b e
      have ne : b ≠ a := fun z => hb (ix_inj f.hold.c.nd e (z ▸ ha))
      exact ⟨kv, kd, by rw [List.getElem?_set_ne (Ne.symm hb)]; exact g1, by rw [upd_ne ne]; exact g2, g3.stay (stayCell mem)⟩
  · obtain ⟨o, g1, g2⟩ := f.hold.c.ownT b z
    have ne : b ≠ a := fun w => f.hold.c.dis a mem (w ▸ z)
    exact ⟨o, by rw [upd_ne ne]; exact g1, g2⟩
  · by_cases hb : b = a
    · subst hb
      rcases f.ext.new b mem with z | z
      · exact absurd z m
      · rw [z] at e; cases e
    · rw [upd_ne hb]
      exact f.ext.keep b o e m
  · by_cases hb : b = a
    · subst hb
      exact ⟨_, upd_same⟩
    · rw [upd_ne hb]
      exact f.ext.there b o e
  · obtain ⟨h1, h2⟩ := f.pin b o q
    have ne : b ≠ a := fun z => h2 (.inr (z ▸ mem))
    exact ⟨by rw [upd_ne ne]; exact h1, h2⟩
end
end FM

set_option Elab.async false
set_option linter.all false
set_option maxRecDepth 100000
set_option maxHeartbeats 4000000
/-! Ev13: the look at statements; every statement sound. -/
namespace FM
open PySem PySem.Spec PyProof.Rows L2

/-! ### the look -/
def isComp : Expr → Bool
  | .ListComp _ _ _ _ => true
  | .SetComp _ _ _ _ => true
  | .DictComp _ _ _ _ _ => true
  | _ => false
def isStar : Expr → Bool
  | .Starred .. => true
  | _ => false
/-- the names of a swap, as the model finds them -/
def swapNames (sc : Scope) (ts : List Expr) : List Str := ts.filterMap fun
  | .Name id pos => if sc.names.lookup id == some .local && pos.line == (ts.head?.map (·.pos.line)).getD 0 then some id else none
  | _ => none
def swapC (sc : Scope) (ts vs : List Expr) : Option (Option (List Str)) :=
  if (!(ts.length == 2 || ts.length == 3) || vs.length != ts.length) = true then some none
  else if vs.any isStar = true then some none
  else if ((swapNames sc ts).length != ts.length || (swapNames sc ts).eraseDups.length != (swapNames sc ts).length) = true then some none
  else if vs.all (foldedForSure 8) = true then some none
  else if vs.all (constantsAlone 8) = true then none
  else some (some (swapNames sc ts))
theorem swapC_ok {env : PySem.Env} {sc : Scope} (hsc : env.scope = sc) (hk : env.blockKind = .function) {ts vs : List Expr} {k k2 : Nat} {p p2 : Pos} {r : Option (List Str)} (h : swapC sc ts vs = some r) :
    swappedStores [.Tuple ts k p] (.Tuple vs k2 p2) env = pure r := by
  subst hsc
  unfold swapC at h
  unfold swappedStores
  simp only [hk]
  split at h
  · rename_i c
    cases h
    rw [if_pos]
    rw [Bool.or_eq_true]
    exact .inl c
  · rename_i c
    rw [if_neg (by rw [Bool.or_eq_true]; rintro (z | z); exact c z; cases z)]
    split at h
    · rename_i c2
      cases h
      rw [if_pos (by exact c2)]
    · rename_i c2
      rw [if_neg (by exact c2)]
      split at h
      · rename_i c3
        cases h
        exact if_pos c3
      · rename_i c3
        refine (if_neg c3).trans ?_
        split at h
        · rename_i c4
          cases h
          exact if_pos c4
        · rename_i c4
          refine (if_neg c4).trans ?_
          split at h
          · cases h
          · rename_i c5
            cases h
            exact if_neg c5

def opAS : Operator → Bool
  | .Add => true
  | .Sub => true
  | _ => false
/-- whether a stored comprehension is told to its name before its variables are let go -/
def swB (sc : Scope) (x : Str) (px : Pos) : Expr → Bool
  | .ListComp _ _ scope p => (sc.names.lookup x == some .local) && px.line == p.line && !(scope.names.any fun (n, k) => n == x && (k == .local || k == .cell))
  | _ => false
def isLC : Expr → Bool
  | .ListComp _ _ _ _ => true
  | _ => false
def asgOk (sc : Scope) (x : Str) (px : Pos) (v : Expr) : Bool := !isComp v || isLC v
def pairB (f g : Expr → Bool) : Expr → Bool
  | .Tuple [va, vb] _ _ => f va && g vb
  | _ => false
def swapOk (sc : Scope) (ts : List Expr) : Expr → Bool
  | .Tuple vs _ _ => decide (swapC sc ts vs = some none)
  | _ => true
def parOk (N : List Str) (sc : Scope) (i j : Nat) : Expr → Expr → Bool
  | .Tuple [.Name x px, .Name y py] _ _, .Tuple [va, vb] _ _ => decide (swapC sc [.Name x px, .Name y py] [va, vb] = some (some [x, y])) && decide (N[i]? = some x) && decide (N[j]? = some y) && decide (sc.names.lookup x = some .local) && decide (sc.names.lookup y = some .local) && notStar va && notStar vb && decide (i ≠ j)
  | _, _ => false
mutual
def chkS (N fs : List Str) (sc : Scope) : S → Stmt → Bool
  | .asg i e, .Assign [.Name x px] v _ => decide (N[i]? = some x) && locB sc x && chkE N fs e sc v && asgOk sc x px v
  | .own i, .Assign [.Name x _] (.List [] _) _ => decide (N[i]? = some x) && locB sc x
  | .asgT is e, .Assign [.Tuple ts _ _] v _ => chkTs N sc is ts && !isComp v && chkE N fs e sc v && swapOk sc ts v
  | .par i j a b, .Assign [t] v _ => parOk N sc i j t v && pairB (chkE N fs a sc) (chkE N fs b sc) v
  | .aug i o e, .AugAssign (.Name x _) o' v _ => decide (o = o') && opAS o && decide (N[i]? = some x) && locB sc x && chkE N fs e sc v
  | .app i e, .Expr (.Call (.Attribute (.Name x _) g apos) [v] [] cpos) _ => decide (g = "append") && nameIs N sc i x && (apos.endLine == cpos.line) && notStar v && chkE N fs e sc v
  | .ins i k e, .Expr (.Call (.Attribute (.Name x _) g apos) [u, v] [] cpos) _ => decide (g = "insert") && nameIs N sc i x && (apos.endLine == cpos.line) && notStar u && notStar v && chkE N fs k sc u && chkE N fs e sc v
  | .daug o k op e, .AugAssign (.Subscript a b _) op' v _ => decide (op = op') && opAS op && notSlice b && chkE N fs o sc a && chkE N fs k sc b && chkE N fs e sc v
  | .ret e, .Return (some v) _ => chkE N fs e sc v
  | .ifs c a b, .If x ys zs _ => chkE N fs c sc x && chkSs N fs sc a ys && chkSs N fs sc b zs
  | .whl c b, .While x ys [] _ => chkE N fs c sc x && chkSs N fs sc b ys
  | .for_ tg it b, .For t i ys [] _ => chkTg N sc tg t && chkIt N fs it sc i && notSet i && chkSs N fs sc b ys
  | .expr e, .Expr v _ => !isComp v && chkE N fs e sc v
  | .pass, .Pass _ => true
  | .brk, .Break _ => true
  | .cont, .Continue _ => true
  | _, _ => false
def chkSs (N fs : List Str) (sc : Scope) : Ss → List Stmt → Bool
  | .nil, [] => true
  | .cons (.frz _) ss, xs => chkSs N fs sc ss xs
  | .cons s ss, x :: xs => chkS N fs sc s x && chkSs N fs sc ss xs
  | _, _ => false
end

/-! ### readings -/
def PostR (K : PySem.W.Frag) (B : Base) (Dn : Ends) : Res → Prop
  | .nx ρ μ => ∀ σ' H' ads', FI K B ads' H' σ' ρ μ → Dn.nx σ' H'
  | .bk ρ μ => ∀ σ' H' ads', FI K B ads' H' σ' ρ μ → Dn.bk σ' H'
  | .ct ρ μ => ∀ σ' H' ads', FI K B ads' H' σ' ρ μ → Dn.ct σ' H'
  | .rt d μ => ∀ v H' ads', Ext B.ads0 B.H0 ads' H' → CellsR K B.own0 ads' H' μ → Rep K (Zo B.own0 ads') ads' H' v d → Dn.rt v H'
def tX (K : PySem.W.Frag) (run : Env → Cells → Option Res) : TS := fun Dn σ H => ∃ B ads ρ μ r, FI K B ads H σ ρ μ ∧ run ρ μ = some r ∧ PostR K B Dn r
theorem PS.imp {X : Cx} {e : Stmt} {t t' : TS} (h : PS X e t) (i : ∀ Dn σ H, t' Dn σ H → t Dn σ H) : PS X e t' := ⟨fun pins s σ H Dn I q => h.run pins s σ H Dn I (i _ _ _ q)⟩
theorem PSs.imp {X : Cx} {e : List Stmt} {t t' : TS} (h : PSs X e t) (i : ∀ Dn σ H, t' Dn σ H → t Dn σ H) : PSs X e t' := ⟨fun pins s σ H Dn I q => h.run pins s σ H Dn I (i _ _ _ q)⟩
section
variable {N fs : List Str} {F : Fs} {n : Nat} {sc : Scope} {X : Cx} {W : Nat}
/-- at a def's own level -/
structure GS (N fs : List Str) (F : Fs) (n : Nat) (sc : Scope) (X : Cx) : Prop where
  g : GX N fs F n sc X
  hsc : X.env.scope = sc
  kind : sc.kind = .function
theorem GS.block (G : GS N fs F n sc X) : X.env.blockKind = .function := by
  unfold PySem.Env.blockKind
  rw [G.hsc, G.kind]
  rfl
theorem sw_plain {v : Expr} (h : isComp v = false) (t : Option Expr) (l : Nat) (env : PySem.Env) : swapsWith v t l env = pure false := by
  cases v <;> first | rfl | cases h
theorem sw_one {v t : Expr} (h : isComp v = false) (l : Nat) (env : PySem.Env) : swapsWithSole [t] v l env = pure false := sw_plain h _ l env
theorem sw_list (G : GS N fs F n sc X) {x : Str} {px p : Pos} {elt : Expr} {gs : List Comprehension} {scope : Scope} {l : Nat} : swapsWith (.ListComp elt gs scope p) (some (.Name x px)) l X.env = pure (swB sc x px (.ListComp elt gs scope p)) := by
  unfold swapsWith
  have hk : X.env.kindOf x = sc.names.lookup x := by rw [← G.hsc]; rfl
  simp only [G.block, hk]
  rfl
theorem asg_read {e : E} {i : Nat} (Dn : Ends) (σ : L2.St) (H : Hp) (h : tX X.K (exec F W (.asg i e)) Dn σ H) : tAsg (tE X.K F e) (gName i) Dn σ H := by
  obtain ⟨B, ads, ρ, μ, r, f, he, q⟩ := h
  unfold exec at he
  split at he
  · cases he
  · rename_i hl
    obtain ⟨d, μ1, e1, he⟩ := andThen_some he
    cases he
    rw [Bool.or_eq_true, not_or] at hl
    have hl1 : lk ρ e = false := by simpa using hl.1
    refine ⟨_, ads, ρ, μ, d, μ1, f.hold, e1, fun v H1 ads1 x1 h1 r1 => ?_⟩
    rw [hl1] at r1
    exact q _ H1 ads1 ((f.step x1 h1).setPl r1.plain)
theorem s_asg (G : GS N fs F n sc X) {i : Nat} {e : E} {x : Str} {px pos : Pos} {v : Expr} (hi : N[i]? = some x) (hx : locB sc x = true) (hv : chkE N fs e sc v = true) (ho : asgOk sc x px v = true) : PS X (.Assign [.Name x px] v pos) (tX X.K (exec F W (.asg i e))) := by
  obtain ⟨l1, l2⟩ := G.g.loc x hx
  have hN : X.N.Nodup := by rw [G.g.hN]; exact G.g.nd
  have hi' : X.N[i]? = some x := by rw [G.g.hN]; exact hi
  unfold asgOk at ho
  by_cases hc : isComp v = false
  · exact PS.imp (ps_set hN hi' l1 (sE e sc v X G.g hv).v (sw_plain hc _ _ _) l2) asg_read
  · have hs : isLC v = true := by
      rw [Bool.or_eq_true] at ho
      rcases ho with ho | ho
      · rw [Bool.not_eq_true'] at ho
        exact absurd ho hc
      · exact ho
    cases v with
    | ListComp y gs scope p =>
      by_cases hs : swB sc x px (.ListComp y gs scope p) = false
      · refine PS.imp (ps_set hN hi' l1 (sE e sc _ X G.g hv).v (by rw [sw_list G, hs]) l2) asg_read
      have hs : swB sc x px (.ListComp y gs scope p) = true := by simpa using hs
      have hs' : ((sc.names.lookup x == some .local) && px.line == p.line && !(scope.names.any fun (n, k) => n == x && (k == .local || k == .cell))) = true := hs
      obtain ⟨z1, z2, z3⟩ := and3 hs'
      have hl : X.env.scope.names.lookup x = some .local := by rw [G.hsc]; exact eq_of_beq z1
      cases e with
      | lc elt tg it cond =>
        match gs, hv, hs with
        | [⟨t, i2, ifs, k⟩], hv, hs =>
          obtain ⟨h1, h2, h3⟩ := and3 (show (decide (k = 0) && blkC N sc scope (ownOf N tg.slots) && notSet i2 && chkTg N scope tg t && chkIt N fs it sc i2 && chkC N fs cond scope ifs && chkE N fs elt scope y) = true from hv)
          obtain ⟨h4, h5, h6⟩ := and3 h1
          obtain ⟨h7, h8, h9⟩ := and3 h4
          have ek : k = 0 := of_decide_eq_true h7
          subst ek
          have nd : ∀ is, tg = .tp is → is.Nodup := fun is e => by
            subst e
            cases t with
            | Tuple es k p =>
              have h' : (chkTs N scope is es && decide is.Nodup) = true := h5
              exact of_decide_eq_true (and2 h').2
            | _ => cases h5
          have sw : swapsWith (.ListComp y [⟨t, i2, ifs, 0⟩] scope p) (some (.Name x px)) pos.line X.env = pure true := by
            rw [sw_list G, hs]
          have core := ps_setLc (X := X) (i := i) (own := ownOf N tg.slots) (g := tTg X.K tg) (tt := tC' X.K F cond) (te := tE X.K F elt) (elt := y) (tg := t) (iter := i2) (ifs := ifs) (scope := scope) (pos := p) (spos := pos) (py := px) G.g.calm hN hi' hl sw (sIt it sc i2 X t G.g h6) (G.g.blkOk h8)
            (fun s H C cl fp => s_tg G.g.blk h5) (fun s H C cl fp => sC cond scope ifs _ G.g.blk h2) (fun s H C cl fp => (sE elt scope y _ G.g.blk h3).v) (folded_of h9 _)
          rw [own_slots] at core
          refine PS.imp core fun Dn σ H h => ?_
          have z := asg_read Dn σ H h
          exact lc_read nd σ H _ z
        | [], hv, _ => exact absurd hv Bool.false_ne_true
        | ⟨_, _, _, _⟩ :: _ :: _, hv, _ => exact absurd hv Bool.false_ne_true
      | _ => exact absurd hv Bool.false_ne_true
    | _ => exact absurd hs Bool.false_ne_true
end
end FM

set_option Elab.async false
set_option linter.all false
set_option maxRecDepth 100000
set_option maxHeartbeats 4000000
/-! Ev14: the other statements. -/
namespace FM
open PySem PySem.Spec PyProof.Rows L2
section
variable {N fs : List Str} {F : Fs} {n : Nat} {sc : Scope} {X : Cx} {W : Nat}
theorem s_own (G : GS N fs F n sc X) {i : Nat} {x : Str} {px p2 pos : Pos} (hi : N[i]? = some x) (hx : locB sc x = true) : PS X (.Assign [.Name x px] (.List [] p2) pos) (tX X.K (exec F W (.own i))) := by
  obtain ⟨l1, l2⟩ := G.g.loc x hx
  refine PS.imp (ps_set (by rw [G.g.hN]; exact G.g.nd) (by rw [G.g.hN]; exact hi) l1 (pe_lst pa_nil) rfl l2) fun Dn σ H ⟨B, ads, ρ, μ, r, f, he, q⟩ => ?_
  unfold exec at he
  split at he
  · cases he
  · rename_i hl
    cases he
    exact ⟨Nat.zero_le _, fun p hp => q _ _ ads (f.own hp (by simpa using hl))⟩
/-- the targets' slots, for statements -/
theorem FI.names {K : PySem.W.Frag} {B : Base} {ads : List Addr} {H : Hp} {μ : Cells} {Q : L2.St → Hp → Prop} : ∀ {is : List Nat} {ds : List D} {vs : List V} {σ : L2.St} {ρ : Env}, FI K B ads H σ ρ μ → RepL K (Zo (ownF B.own0 σ ρ) ads) ads H vs ds → ds.length = is.length →
    (∀ σ1, FI K B ads H σ1 (setAll is ds ρ) μ → Q σ1 H) → gNames is vs σ H Q
  | [], [], _, σ, ρ, f, r, _, k => by
    cases r
    exact ⟨rfl, k σ f⟩
  | [], _ :: _, _, _, _, _, _, e, _ => by cases e
  | _ :: _, [], _, _, _, _, _, e, _ => by cases e
  | i :: is, d :: ds, _, σ, ρ, f, r, e, k => by
    cases r with
    | @cons v _ vs _ r1 r2 =>
      refine ⟨v, vs, rfl, ?_⟩
      show gNames is vs (σ.set i (some v)) H Q
      exact FI.names (f.setPl r1) (RepL.stay (antiOwn (K := K) fun b h => ownF_set h) _ _ r2) (by simpa using e) k
theorem FI.tg {K : PySem.W.Frag} {B : Base} {ads : List Addr} {H : Hp} {σ : L2.St} {ρ ρ1 : Env} {μ : Cells} {Q : L2.St → Hp → Prop} {tg : Tg} {v : V} {d : D} (f : FI K B ads H σ ρ μ) (r : Rep K (Zo (ownF B.own0 σ ρ) ads) ads H v d) (e : bindT tg d ρ = some ρ1)
    (k : ∀ σ1, FI K B ads H σ1 ρ1 μ → Q σ1 H) : tTg K tg v σ H Q := by
  cases tg with
  | nm i =>
    have e' : some (ρ.set i (some (.pl d))) = some ρ1 := e
    cases e'
    exact k _ (f.setPl r)
  | tp is =>
    cases d with
    | tup ds =>
      have e' : (if ds.length = is.length then some (setAll is ds ρ) else none) = some ρ1 := e
      split at e'
      · rename_i hl
        cases e'
        cases r with
        | tup t l => exact ⟨_, _, rfl, t.sq, by rw [l.length]; exact hl, FI.names f l hl k⟩
      · cases e'
    | _ => cases e
theorem s_asgT (G : GS N fs F n sc X) {is : List Nat} {e : E} {ts : List Expr} {k : Nat} {p pos : Pos} {v : Expr} (ht : chkTs N sc is ts = true) (hc : isComp v = false) (hv : chkE N fs e sc v = true)
    (hw : swappedStores [.Tuple ts k p] v X.env = pure none) : PS X (.Assign [.Tuple ts k p] v pos) (tX X.K (exec F W (.asgT is e))) := by
  obtain ⟨g1, g2, g3⟩ := s_ts G.g ht
  refine PS.imp (ps_asg (sE e sc v X G.g hv).v (pg_tup G.g.calm g1 g2 g3) (sw_one hc _ _) hw rfl) fun Dn σ H ⟨B, ads, ρ, μ, r, f, he, q⟩ => ?_
  unfold exec at he
  split at he
  · cases he
  · rename_i hl
    obtain ⟨d, μ1, e1, he⟩ := andThen_some he
    split at he
    · split at he
      · rename_i ds hds
        cases he
        rw [Bool.or_eq_true, not_or] at hl
        have hl1 : lk ρ e = false := by simpa using hl.1
        refine ⟨_, ads, ρ, μ, _, μ1, f.hold, e1, fun v H1 ads1 x1 h1 r1 => ?_⟩
        obtain ⟨a, xs, ev, t, l⟩ := r1.tup
        exact ⟨a, xs, ev, t.sq, by rw [l.length]; exact hds, FI.names (f.step x1 h1) l hds fun σ1 f1 => q σ1 H1 ads1 f1⟩
      · cases he
    · cases he
def augF : Operator → Int → Int → Int
  | .Sub, i, j => i - j
  | _, i, j => i + j
theorem aug_go {i : Nat} {o : Operator} {e : E} {ρ : Env} {μ : Cells} {r : Res} (he : exec F W (.aug i o e) ρ μ = some r) : ∃ a b μ1, ρ[i]? = some (some (Sl.pl (.int a))) ∧ ev F e ρ μ = some (.int b, μ1) ∧ opAS o = true ∧ r = .nx (ρ.set i (some (.pl (.int (augF o a b))))) μ1 := by
  unfold exec at he
  split at he
  · rename_i a hρ
    obtain ⟨d, μ1, e1, he⟩ := andThen_some he
    split at he
    · cases he
      exact ⟨a, _, _, hρ, e1, rfl, rfl⟩
    · cases he
      exact ⟨a, _, _, hρ, e1, rfl, rfl⟩
    · cases he
  · cases he
theorem s_aug (G : GS N fs F n sc X) {i : Nat} {o : Operator} {e : E} {x : Str} {px pos : Pos} {v : Expr} (hi : N[i]? = some x) (hx : locB sc x = true) (ho : opAS o = true) (hv : chkE N fs e sc v = true) : PS X (.AugAssign (.Name x px) o v pos) (tX X.K (exec F W (.aug i o e))) := by
  obtain ⟨l1, l2⟩ := G.g.loc x hx
  have hN : X.N.Nodup := by rw [G.g.hN]; exact G.g.nd
  have hi' : X.N[i]? = some x := by rw [G.g.hN]; exact hi
  have read : ∀ (Dn : Ends) (σ : L2.St) (H : Hp), tX X.K (exec F W (.aug i o e)) Dn σ H → tAug i (tE X.K F e) (ipI (augF o)) Dn σ H := by
    intro Dn σ H ⟨B, ads, ρ, μ, r, f, he, q⟩
    obtain ⟨a, b, μ1, hρ, e1, _, rfl⟩ := aug_go he
    obtain ⟨w, g1, g2⟩ := f.hold.e i _ hρ
    have ew : w = .int a := by
      have z : Rep X.K (Zo (ownF B.own0 σ ρ) ads) ads H w (.int a) := g2
      cases z; rfl
    subst ew
    refine ⟨_, g1, _, ads, ρ, μ, _, μ1, f.hold, e1, fun v H1 ads1 x1 h1 r1 => ⟨a, b, rfl, r1.int, ?_⟩⟩
    exact q _ H1 ads1 ((f.step x1 h1).setPl (.int _))
  cases o with
  | Add => exact PS.imp (ps_aug hN hi' l1 (sE e sc v X G.g hv).v ip_add l2) read
  | Sub => exact PS.imp (ps_aug hN hi' l1 (sE e sc v X G.g hv).v ip_sub l2) read
  | _ => cases ho
theorem s_app (G : GS N fs F n sc X) {i : Nat} {e : E} {x : Str} {px apos cpos pos : Pos} {v : Expr} (hx : nameIs N sc i x = true) (hl : (apos.endLine == cpos.line) = true) (hs : notStar v = true) (hv : chkE N fs e sc v = true) :
    PS X (.Expr (.Call (.Attribute (.Name x px) "append" apos) [v] [] cpos) pos) (tX X.K (exec F W (.app i e))) := by
  have hx' := hx
  unfold nameIs at hx'
  rw [Bool.and_eq_true, Bool.and_eq_true, Bool.and_eq_true, decide_eq_true_eq] at hx'
  obtain ⟨⟨⟨h1, h2⟩, h3⟩, h4⟩ := hx'
  have pvx : PE X (.Name x px) (tVar i) := pe_var (i := i) (by rw [G.g.hN]; exact h1) (G.g.vis x h2) (by simpa using h3) (by simpa using h4)
  have core := pe_bm (X := X) (apos := apos) (cpos := cpos) PySem.F.plainAttrs_list PySem.F.slot_list_append PySem.F.type_list_append mt_append pvx (pa_cons (sE e sc v X G.g hv).v pa_nil (starEach_cons hs _ _)) rfl (one_arg hs _ _) hl (starEach_cons hs _ _) rfl
  refine PS.imp (ps_expr core rfl) fun Dn σ H ⟨B, ads, ρ, μ, r, f, he, q⟩ => ?_
  unfold exec at he
  split at he
  · rename_i ds hρ
    split at he
    · cases he
    · rename_i hle
      obtain ⟨d, μ1, e1, he⟩ := andThen_some he
      split at he
      · rename_i hz
        cases he
        obtain ⟨w, g1, a, xs, g2, g3, g4, g5⟩ := f.hold.e i _ hρ
        subst g2
        have hle' : lk ρ e = false := by simpa using hle
        refine ⟨_, g1, .inl ⟨rfl, xs, .of g3⟩, _, ads, ρ, μ, d, μ1, f.hold, e1, fun v H1 ads1 x1 h1 r1 => ?_⟩
        rw [hle'] at r1
        have ha := x1.keep a _ g3 fun m => f.hold.c.dis a m g4
        have l := g5.ext x1
        refine ⟨a, xs, v, rfl, rfl, ha, by rw [l.length]; exact hz, ?_⟩
        exact q _ _ ads1 ((f.step x1 h1).app hρ g1 ha l r1.plain)
      · cases he
  · cases he
theorem RepL.takeR {K : PySem.W.Frag} {Z : Addr → Prop} {ads : List Addr} {H : Hp} : ∀ {xs : List V} {ds : List D} (_ : RepL K Z ads H xs ds) (n : Nat), RepL K Z ads H (xs.take n) (ds.take n)
  | _, _, _, 0 => .nil
  | _, _, .nil, n + 1 => .nil
  | _, _, .cons r l, n + 1 => .cons r (l.takeR n)
theorem RepL.dropR {K : PySem.W.Frag} {Z : Addr → Prop} {ads : List Addr} {H : Hp} : ∀ {xs : List V} {ds : List D} (_ : RepL K Z ads H xs ds) (n : Nat), RepL K Z ads H (xs.drop n) (ds.drop n)
  | _, _, l, 0 => l
  | _, _, .nil, n + 1 => .nil
  | _, _, .cons r l, n + 1 => l.dropR n
theorem s_ins (G : GS N fs F n sc X) {i : Nat} {k e : E} {x : Str} {px apos cpos pos : Pos} {u v : Expr} (hx : nameIs N sc i x = true) (hl : (apos.endLine == cpos.line) = true) (hs : notStar u = true) (hs2 : notStar v = true) (hu : chkE N fs k sc u = true) (hv : chkE N fs e sc v = true) :
    PS X (.Expr (.Call (.Attribute (.Name x px) "insert" apos) [u, v] [] cpos) pos) (tX X.K (exec F W (.ins i k e))) := by
  have hx' := hx
  unfold nameIs at hx'
  rw [Bool.and_eq_true, Bool.and_eq_true, Bool.and_eq_true, decide_eq_true_eq] at hx'
  obtain ⟨⟨⟨h1, h2⟩, h3⟩, h4⟩ := hx'
  have pvx : PE X (.Name x px) (tVar i) := pe_var (i := i) (by rw [G.g.hN]; exact h1) (G.g.vis x h2) (by simpa using h3) (by simpa using h4)
  have core := pe_bm (X := X) (apos := apos) (cpos := cpos) PySem.F.plainAttrs_list PySem.F.slot_list_insert PySem.F.type_list_insert mt_insert pvx (pa_cons (sE k sc u X G.g hu).v (pa_cons (sE e sc v X G.g hv).v pa_nil (starEach_cons hs2 _ _)) (starEach_cons hs _ _)) rfl (by rw [starEach_cons hs, starEach_cons hs2]; rfl) hl (by rw [starEach_cons hs, starEach_cons hs2]) (by rw [starEach_cons hs2]; rfl)
  refine PS.imp (ps_expr core rfl) fun Dn σ H ⟨B, ads, ρ, μ, r, f, he, q⟩ => ?_
  unfold exec at he
  split at he
  · rename_i ds hρ
    split at he
    · cases he
    · rename_i hle
      obtain ⟨dk, μ1, e1, he⟩ := andThen_some he
      obtain ⟨d, μ2, e2, he⟩ := andThen_some he
      split at he
      · split at he
        · rename_i hz
          cases he
          obtain ⟨w, g1, a, xs, g2, g3, g4, g5⟩ := f.hold.e i _ hρ
          subst g2
          rw [Bool.or_eq_true, not_or] at hle
          have hle' : lk ρ e = false := by simpa using hle.1
          refine ⟨_, g1, .inl ⟨rfl, xs, .of g3⟩, _, ads, ρ, μ, _, μ1, f.hold, e1, fun v1 H1 ads1 x1 h1 r1 => ⟨_, ads1, ρ, μ1, d, μ2, h1, e2, fun v H2 ads2 x2 h2 r2 => ?_⟩⟩
          rw [hle'] at r2
          have ev := r1.int
          subst ev
          have x12 := x1.trans x2
          have ha := x12.keep a _ g3 fun m => f.hold.c.dis a m g4
          have l := g5.ext x12
          refine ⟨a, xs, _, v, rfl, rfl, ha, by rw [l.length]; exact hz.1, hz.2.1, hz.2.2, ?_⟩
          exact q _ _ ads2 ((f.step x12 h2).wr hρ g1 ha (((l.takeR _).append (.cons r2.plain .nil)).append (l.dropR _)))
        · cases he
      · cases he
  · cases he
theorem augStore_of {b : Expr} (h : notSlice b = true) (ov iv new : Value) : augStore b ov iv new = (do holding [new, ov, iv] (setItem ov iv new); release [new, ov, iv] []; pure .next) := by
  cases b <;> first | rfl | cases h
theorem putC_rep {K : PySem.W.Frag} {Z : Addr → Prop} {ads : List Addr} {H : Hp} {k : Key} {v : V} {d : D} (r : Rep K Z ads H v d) {kvs : List (Key × V)} {c : Cell} (h : RepKV K Z ads H kvs c) : RepKV K Z ads H (putK kvs k v) (putC c k d) := by
  have any : ∀ (kvs : List (Key × V)) (c : Cell), kvs.map (·.1) = c.map (·.1) → (kvs.any fun kv => decide (kv.1 = k)) = (c.any fun kv => decide (kv.1 = k)) := by
    intro kvs
    induction kvs with
    | nil => intro c e; cases c with
      | nil => rfl
      | cons _ _ => cases e
    | cons p kvs ih => intro c e; cases c with
      | nil => cases e
      | cons q c =>
        have e' : p.1 :: kvs.map (·.1) = q.1 :: c.map (·.1) := e
        injection e' with e1 e2
        rw [List.any_cons, List.any_cons, e1, ih c e2]
  have map : ∀ (kvs : List (Key × V)) (c : Cell), RepKV K Z ads H kvs c → RepKV K Z ads H (kvs.map fun kv => if kv.1 = k then (kv.1, v) else kv) (c.map fun kv => if kv.1 = k then (kv.1, d) else kv) := by
    intro kvs
    induction kvs with
    | nil => intro c e; cases c with
      | nil => exact ⟨rfl, .nil⟩
      | cons _ _ => cases e.1
    | cons p kvs ih => intro c e; cases c with
      | nil => cases e.1
      | cons q c =>
        have e1 : p.1 :: kvs.map (·.1) = q.1 :: c.map (·.1) := e.1
        have e2 : RepL K Z ads H (p.2 :: kvs.map (·.2)) (q.2 :: c.map (·.2)) := e.2
        injection e1 with e3 e4
        cases e2 with
        | cons g1 g2 =>
          obtain ⟨i1, i2⟩ := ih c ⟨e4, g2⟩
          by_cases hk : p.1 = k
          · have hk' : q.1 = k := e3 ▸ hk
            simp only [List.map_cons, hk, hk', if_true]
            exact ⟨by simp only [List.map_cons, i1], .cons r i2⟩
          · have hk' : ¬ q.1 = k := fun z => hk (e3.trans z)
            simp only [List.map_cons, hk, hk', if_false]
            exact ⟨by simp only [List.map_cons, i1, e3], .cons g1 i2⟩
  unfold putK putC
  rw [any kvs c h.1]
  split
  · exact map kvs c h
  · refine ⟨?_, ?_⟩
    · rw [List.map_append, List.map_append, h.1]
      rfl
    · rw [List.map_append, List.map_append]
      exact h.2.append (.cons r .nil)
theorem daug_go {o k e : E} {op : Operator} {ρ : Env} {μ : Cells} {r : Res} (he : exec F W (.daug o k op e) ρ μ = some r) : ∃ m μ1 y μ2 q c i j μ3 c3, ev F o ρ μ = some (.cell m, μ1) ∧ ev F k ρ μ1 = some (y, μ2) ∧ keyD y = some q ∧ μ2[m]? = some c ∧ valC c q = some (.int i) ∧
    ev F e ρ μ2 = some (.int j, μ3) ∧ μ3[m]? = some c3 ∧ c3.length < sizeLine ∧ opAS op = true ∧ r = .nx ρ (μ3.set m (putC c3 q (.int (augF op i j)))) := by
  unfold exec at he
  obtain ⟨x, μ1, e1, he⟩ := andThen_some he
  obtain ⟨y, μ2, e2, he⟩ := andThen_some he
  cases x with
  | cell m =>
    cases hq : keyD y with
    | none => simp only [hq] at he; cases he
    | some q =>
      simp only [hq] at he
      cases hc : μ2[m]? with
      | none => simp only [hc, Option.bind_none] at he; cases he
      | some c =>
        simp only [hc, Option.bind_some] at he
        cases hv : valC c q with
        | none => simp only [hv] at he; cases he
        | some old =>
          simp only [hv] at he
          cases old with
          | int i =>
            obtain ⟨z, μ3, e3, he⟩ := andThen_some he
            split at he
            · split at he
              · rename_i hl
                cases he
                exact ⟨m, μ1, y, μ2, q, c, i, _, μ3, _, e1, e2, hq, hc, hv, e3, by assumption, hl, rfl, rfl⟩
              · cases he
            · split at he
              · rename_i hl
                cases he
                exact ⟨m, μ1, y, μ2, q, c, i, _, μ3, _, e1, e2, hq, hc, hv, e3, by assumption, hl, rfl, rfl⟩
              · cases he
            · cases he
          | _ => cases he
  | _ => cases he
theorem s_daug (G : GS N fs F n sc X) {o k e : E} {op : Operator} {a b v : Expr} {p2 pos : Pos} (hs : notSlice b = true) (ho : chkE N fs o sc a = true) (hk : chkE N fs k sc b = true) (hv : chkE N fs e sc v = true) : PS X (.AugAssign (.Subscript a b p2) op v pos) (tX X.K (exec F W (.daug o k op e))) := by
  have read : ∀ (rd : V → V → Hp → VK → Prop), (∀ i j H Q, opAS op = true → Q (.int (augF op i j)) H → rd (.int i) (.int j) H Q) → ∀ (Dn : Ends) (σ : L2.St) (H : Hp), tX X.K (exec F W (.daug o k op e)) Dn σ H → sDAug (tE X.K F o) (tE X.K F k) (tE X.K F e) rd Dn σ H := by
    intro rd hrd Dn σ H ⟨B, ads, ρ, μ, r, f, he, q⟩
    obtain ⟨m, μ1, y, μ2, qk, c, i, j, μ3, c3, e1, e2, e3, e4, e5, e6, e7, e8, e9, rfl⟩ := daug_go he
    refine ⟨_, ads, ρ, μ, _, μ1, f.hold, e1, fun v H1 ads1 x1 h1 r1 => ⟨_, ads1, ρ, μ1, y, μ2, h1, e2, fun w H2 ads2 x2 h2 r2 => ?_⟩⟩
    obtain ⟨ad, ev, ha⟩ := (r1.ext h1.c x2).cell
    obtain ⟨kvs, kds, k1, k2, k3⟩ := h2.c.at m ad ha
    rw [e4] at k1
    cases k1
    obtain ⟨old, k4, k5⟩ := valC_rep k3 e5
    have eo : old = .int i := by cases k5; rfl
    subst eo
    have ew := keyD_V r2 e3
    subst ew
    refine ⟨ad, .int i, ev, by rw [← k4]; exact DGet.k k2, _, ads2, ρ, μ2, _, μ3, h2, e6, fun u H3 ads3 x3 h3 r3 => ?_⟩
    have eu := r3.int
    subst eu
    have ha3 := x3.pre m ad ha
    obtain ⟨kvs3, kds3, m1, m2, m3⟩ := h3.c.at m ad ha3
    rw [e7] at m1
    cases m1
    have hlen : kvs3.length = c3.length := by
      have := congrArg List.length m3.1
      rw [List.length_map, List.length_map] at this
      exact this
    refine hrd i j H3 _ e9 ⟨_, DPut.k m2 (by rw [hlen]; exact e8), ?_⟩
    exact q σ _ ads3 ((f.step ((x1.trans x2).trans x3) h3).cell ha3 (putC_rep (.int _) m3))
  cases op with
  | Add => exact PS.imp (ps_daug (hu_of G.g.room) (sE o sc a X G.g ho).v (sE k sc b X G.g hk).v (sE e sc v X G.g hv).v in_add (augStore_of hs)) (read _ fun i j H Q _ q => ⟨i, j, rfl, rfl, q⟩)
  | Sub => exact PS.imp (ps_daug (hu_of G.g.room) (sE o sc a X G.g ho).v (sE k sc b X G.g hk).v (sE e sc v X G.g hv).v in_sub (augStore_of hs)) (read _ fun i j H Q _ q => ⟨i, j, rfl, rfl, q⟩)
  | _ => exact ⟨fun pins s σ H Dn I h => by
      exfalso
      obtain ⟨B, ads, ρ, μ, r, f, he, q⟩ := h
      obtain ⟨m, μ1, y, μ2, qk, c, i, j, μ3, c3, e1, e2, e3, e4, e5, e6, e7, e8, e9, _⟩ := daug_go he
      cases e9⟩
theorem s_ret (G : GS N fs F n sc X) {e : E} {v : Expr} {pos : Pos} (hv : chkE N fs e sc v = true) : PS X (.Return (some v) pos) (tX X.K (exec F W (.ret e))) := by
  refine PS.imp (ps_ret (sE e sc v X G.g hv).v) fun Dn σ H ⟨B, ads, ρ, μ, r, f, he, q⟩ => ?_
  unfold exec at he
  split at he
  · cases he
  · rename_i hl
    obtain ⟨d, μ1, e1, he⟩ := andThen_some he
    cases he
    refine ⟨_, ads, ρ, μ, d, μ1, f.hold, e1, fun v H1 ads1 x1 h1 r1 => ?_⟩
    have hl' : lk ρ e = false := by simpa using hl
    rw [hl'] at r1
    have anti : ∀ b, B.own0 b → ownF B.own0 σ ρ b := fun b z => .inl z
    exact q v H1 ads1 (f.ext.trans x1) (h1.c.anti anti) (Rep.stay (antiOwn (K := X.K) anti) _ _ r1.plain)
theorem s_ifs (G : GS N fs F n sc X) {c : E} {a b : Ss} {x : Expr} {ys zs : List Stmt} {pos : Pos} (hc : chkE N fs c sc x = true) (ha : PSs X ys (tX X.K (execs F W a))) (hb : PSs X zs (tX X.K (execs F W b))) : PS X (.If x ys zs pos) (tX X.K (exec F W (.ifs c a b))) := by
  refine PS.imp (ps_if (sE c sc x X G.g hc).t ha hb) fun Dn σ H ⟨B, ads, ρ, μ, r, f, he, q⟩ => ?_
  unfold exec at he
  obtain ⟨k, μ1, e1, he⟩ := onBl_some he
  refine ⟨_, ads, ρ, μ, k, μ1, f.hold, e1, fun H1 ads1 x1 h1 => ?_⟩
  cases k with
  | true => exact ⟨B, ads1, ρ, μ1, r, f.step x1 h1, he, q⟩
  | false => exact ⟨B, ads1, ρ, μ1, r, f.step x1 h1, he, q⟩
theorem passes (G : GS N fs F n sc X) : PassesOwn (model X.prog X.w) X.A X.env X.xe := by
  rw [G.g.nox]
  exact PassesOwn.never
theorem s_whl (G : GS N fs F n sc X) {c : E} {b : Ss} {x : Expr} {ys : List Stmt} {pos : Pos} (hc : chkE N fs c sc x = true) (hb : PSs X ys (tX X.K (execs F W b))) : PS X (.While x ys [] pos) (tX X.K (exec F W (.whl c b))) := by
  refine PS.imp (ps_while (passes G) (sE c sc x X G.g hc).t hb) fun Dn σ H ⟨B, ads, ρ, μ, r, f, he, q⟩ => ?_
  unfold exec at he
  refine ⟨fun m σ H => ∃ ads ρ μ, FI X.K B ads H σ ρ μ ∧ whileF (fun ρ' μ' => onBl (ev F c ρ' μ') fun x μ1 => some (x, μ1)) (fun ρ' μ' => execs F W b ρ' μ') m ρ μ = some r, ⟨W, ads, ρ, μ, f, he⟩, ?_⟩
  clear f he
  rintro m σ H ⟨ads, ρ, μ, f, he⟩
  cases m with
  | zero => cases he
  | succ m =>
    unfold whileF at he
    split at he
    · cases he
    · rename_i μ1 hc1
      cases he
      obtain ⟨k, μ2, e1, e2⟩ := onBl_some hc1
      cases e2
      refine ⟨_, ads, ρ, μ, false, _, f.hold, e1, fun H1 ads1 x1 h1 => ?_⟩
      exact q σ H1 ads1 (f.step x1 h1)
    · rename_i μ1 hc1
      obtain ⟨k, μ2, e1, e2⟩ := onBl_some hc1
      cases e2
      refine ⟨_, ads, ρ, μ, true, _, f.hold, e1, fun H1 ads1 x1 h1 => ?_⟩
      refine ⟨fun σ H => ∃ ads ρ μ, FI X.K B ads H σ ρ μ ∧ whileF (fun ρ' μ' => onBl (ev F c ρ' μ') fun x μ1 => some (x, μ1)) (fun ρ' μ' => execs F W b ρ' μ') m ρ μ = some r, fun σ' H' z => ⟨m, Nat.lt_succ_self m, z⟩, ?_⟩
      split at he
      · cases he
      · rename_i ρ2 μ2 hb2
        exact ⟨B, ads1, ρ, _, _, f.step x1 h1, hb2, fun σ' H' ads' f' => ⟨ads', _, _, f', he⟩⟩
      · rename_i ρ2 μ2 hb2
        exact ⟨B, ads1, ρ, _, _, f.step x1 h1, hb2, fun σ' H' ads' f' => ⟨ads', _, _, f', he⟩⟩
      · rename_i ρ2 μ2 hb2
        cases he
        exact ⟨B, ads1, ρ, _, _, f.step x1 h1, hb2, fun σ' H' ads' f' => q σ' H' ads' f'⟩
      · rename_i d μ2 hb2
        cases he
        exact ⟨B, ads1, ρ, _, _, f.step x1 h1, hb2, q⟩
theorem s_for (G : GS N fs F n sc X) {tg : Tg} {it : It} {b : Ss} {t i : Expr} {ys : List Stmt} {pos : Pos} (ht : chkTg N sc tg t = true) (hi : chkIt N fs it sc i = true) (hs : notSet i = true) (hb : PSs X ys (tX X.K (execs F W b))) : PS X (.For t i ys [] pos) (tX X.K (exec F W (.for_ tg it b))) := by
  refine PS.imp (ps_for (passes G) G.g.calm (sIt it sc i X t G.g hi) (s_tg G.g ht) hb (folded_of hs _)) fun Dn σ H ⟨B, ads, ρ, μ, r, f, he, q⟩ => ?_
  unfold exec at he
  obtain ⟨xs, μ1, e1, he⟩ := andThen_some he
  split at he
  · cases he
  · rename_i hl
    have hl' : it.lk ρ = false := by simpa using hl
    refine ⟨_, ads, ρ, μ, xs, μ1, f.hold, e1, fun J H1 ads1 x1 h1 w1 => ?_⟩
    rw [hl'] at w1
    have f1 := f.step x1 h1
    let B' : Base := { B with pn := fun b o => H1 b = some o ∧ ¬ Zo (ownF B.own0 σ ρ) ads1 b, pa := ads1 }
    have f' : FI X.K B' ads1 H1 σ ρ μ1 := ⟨f1.hold, f1.ext, f1.dist, f1.new, f1.own0T, fun b o z => z, fun k a z => z⟩
    have unpin : ∀ {ads' H' σ' ρ' μ'}, FI X.K B' ads' H' σ' ρ' μ' → FI X.K B ads' H' σ' ρ' μ' := fun {ads' H' σ' ρ' μ'} g => ⟨g.hold, g.ext, g.dist, g.new, g.own0T, fun b o z => g.pin b o (f1.pin b o z), fun k a z => g.pre k a (f1.pre k a z)⟩
    refine ⟨fun i m σ' H' => m = xs.length - i ∧ i ≤ xs.length ∧ ∃ ads' ρ' μ', FI X.K B' ads' H' σ' ρ' μ' ∧ forF tg (fun ρ' μ' => execs F W b ρ' μ') (xs.drop i) ρ' μ' = some r, ⟨xs.length, by simp, Nat.zero_le _, ads1, ρ, μ1, f', he⟩, ?_⟩
    rintro i m σ' H' ⟨rfl, hi, ads', ρ', μ', g, hgo⟩
    have st : Stay (Zo (ownF B.own0 σ ρ) ads1) (Zo (ownF B.own0 σ' ρ') ads') ads1 ads' H1 H' := ⟨fun b o z1 z2 => (g.pin b o ⟨z1, z2⟩).1, fun b o z1 z2 => (g.pin b o ⟨z1, z2⟩).2, g.pre⟩
    have w' : WalksR X.K (ownF B.own0 σ' ρ') (ownF B.own0 σ' ρ') ads' H' J xs false := by
      rcases w1 with ⟨a, vs, g1, g2, g3⟩ | ⟨hb, _⟩ | ⟨a, vs, g1, g2, g3⟩ | g1
      · exact .inl ⟨a, vs, g1, g2.stay st, RepL.stay st _ _ g3⟩
      · cases hb
      · exact .inr (.inr (.inl ⟨a, vs, g1, g2.stay st, RepL.stay st _ _ g3⟩))
      · exact .inr (.inr (.inr g1))
    obtain ⟨t1, t2⟩ := w'.turn i
    by_cases hlt : i < xs.length
    · have hd : xs[i]? = some xs[i] := by simp [hlt]
      obtain ⟨go, yl⟩ := t2 _ hd
      have hdrop : xs.drop i = xs[i] :: xs.drop (i + 1) := by rw [List.drop_eq_getElem_cons hlt]
      rw [hdrop] at hgo
      unfold forF at hgo
      refine .inr ⟨go, fun σ' H' => ∃ ads' ρ' μ', FI X.K B' ads' H' σ' ρ' μ' ∧ forF tg (fun ρ' μ' => execs F W b ρ' μ') (xs.drop (i + 1)) ρ' μ' = some r, fun σ2 H2 z => ⟨xs.length - (i + 1), by omega, rfl, hlt, z⟩, fun x H2 y => ?_⟩
      obtain ⟨e3, r3⟩ := yl x H2 y
      subst e3
      split at hgo
      · cases hgo
      · rename_i ρ1 hb1
        refine g.tg r3 hb1 fun σ1 g1 => ?_
        split at hgo
        · cases hgo
        · rename_i ρ2 μ2 hb2
          exact ⟨B', ads', ρ1, μ', _, g1, hb2, fun σ2 H2 ads2 g2 => ⟨ads2, _, _, g2, hgo⟩⟩
        · rename_i ρ2 μ2 hb2
          exact ⟨B', ads', ρ1, μ', _, g1, hb2, fun σ2 H2 ads2 g2 => ⟨ads2, _, _, g2, hgo⟩⟩
        · rename_i ρ2 μ2 hb2
          cases hgo
          exact ⟨B', ads', ρ1, μ', _, g1, hb2, fun σ2 H2 ads2 g2 => q σ2 H2 ads2 (unpin g2)⟩
        · rename_i d μ2 hb2
          cases hgo
          exact ⟨B', ads', ρ1, μ', _, g1, hb2, q⟩
    · have e3 : i = xs.length := by omega
      subst e3
      rw [List.drop_length] at hgo
      unfold forF at hgo
      cases hgo
      exact .inl ⟨t1 (Nat.le_refl _), q σ' H' ads' (unpin g)⟩
theorem s_expr (G : GS N fs F n sc X) {e : E} {v : Expr} {pos : Pos} (hc : isComp v = false) (hv : chkE N fs e sc v = true) : PS X (.Expr v pos) (tX X.K (exec F W (.expr e))) := by
  refine PS.imp (ps_expr (sE e sc v X G.g hv).v (sw_plain hc _ _ _)) fun Dn σ H ⟨B, ads, ρ, μ, r, f, he, q⟩ => ?_
  unfold exec at he
  obtain ⟨d, μ1, e1, he⟩ := andThen_some he
  cases he
  exact ⟨_, ads, ρ, μ, d, μ1, f.hold, e1, fun v H1 ads1 x1 h1 r1 => q σ H1 ads1 (f.step x1 h1)⟩
theorem s_pass {pos : Pos} : PS X (.Pass pos) (tX X.K (exec F W .pass)) := PS.imp ps_pass fun Dn σ H ⟨B, ads, ρ, μ, r, f, he, q⟩ => by
  cases he
  exact q σ H ads f
theorem s_brk {pos : Pos} : PS X (.Break pos) (tX X.K (exec F W .brk)) := PS.imp ps_break fun Dn σ H ⟨B, ads, ρ, μ, r, f, he, q⟩ => by
  cases he
  exact q σ H ads f
theorem s_cont {pos : Pos} : PS X (.Continue pos) (tX X.K (exec F W .cont)) := PS.imp ps_continue fun Dn σ H ⟨B, ads, ρ, μ, r, f, he, q⟩ => by
  cases he
  exact q σ H ads f
end
end FM

set_option Elab.async false
set_option linter.all false
set_option maxRecDepth 100000
set_option maxHeartbeats 4000000
/-! Ev15: all statements; defs; the whole program; the law. -/
namespace FM
open PySem PySem.Spec PyProof.Rows L2
/-! ### how arguments bind -/
theorem zip_look : ∀ {ps : List Str} {us : List Value}, us.length = ps.length → ∀ n ∈ ps, ((ps.zip us).lookup n).isNone = false
  | [], _, _, n, h => nomatch h
  | p :: ps, [], e, _, _ => by cases e
  | p :: ps, u :: us, e, n, h => by
    rw [List.zip_cons_cons, List.lookup_cons]
    cases hn : n == p with
    | true => rfl
    | false =>
      have : n ∈ ps := by
        rcases List.mem_cons.mp h with q | q
        · subst q; simp at hn
        · exact q
      exact zip_look (by simpa using e) n this
theorem filterMap_same {α β : Type} {f g : α → Option β} : ∀ {l : List α}, (∀ m ∈ l, f m = g m) → l.filterMap f = l.filterMap g
  | [], _ => rfl
  | a :: l, h => by
    rw [List.filterMap_cons, List.filterMap_cons, h a List.mem_cons_self, filterMap_same fun m hm => h m (List.mem_cons_of_mem _ hm)]
theorem zip_find : ∀ {ps : List Str} {us : List Value}, ps.Nodup → us.length = ps.length → (ps.filterMap fun n => ((ps.zip us).lookup n).map (n, ·)) = ps.zip us
  | [], [], _, _ => rfl
  | [], _ :: _, _, e => by cases e
  | _ :: _, [], _, e => by cases e
  | p :: ps, u :: us, nd, e => by
    have n := List.nodup_cons.mp nd
    have ih := zip_find (ps := ps) (us := us) n.2 (by simpa using e)
    have z : (ps.filterMap fun n => (((p, u) :: ps.zip us).lookup n).map (n, ·)) = ps.filterMap fun n => ((ps.zip us).lookup n).map (n, ·) := filterMap_same fun m hm => by
      have ne : (m == p) = false := by
        rw [beq_eq_false_iff_ne]
        rintro rfl
        exact n.1 hm
      rw [List.lookup_cons, ne]
    rw [List.zip_cons_cons, List.filterMap_cons]
    simp only [List.lookup_cons, beq_self_eq_true, Option.map_some]
    congr 1
    exact z.trans ih
theorem binds_gen {x qual : Str} {body : List Stmt} {scope : Scope} {kV doc pm cdv ct : Value} {an : Option Addr} (as : List Arg) (us : List Value) (nd : (as.map (·.arg)).Nodup) (hl : us.length = (as.map (·.arg)).length) :
  bindArgs (PySem.W.fnOf x qual { posonlyargs := [], args := as, vararg := none, kwonlyargs := [], kw_defaults := [], kwarg := none, defaults := [] } body scope .none kV doc pm an cdv ct) ⟨us, []⟩ = pure ((as.map (·.arg)).zip us) := by
  have hf : ((as.map (·.arg)).filter fun n => (((as.map (·.arg)).zip us).lookup n).isNone) = [] := by
    rw [List.filter_eq_nil_iff]
    intro n hn
    rw [zip_look hl n hn]
    exact Bool.false_ne_true
  have hz := zip_find nd hl
  generalize hps : as.map (·.arg) = ps at *
  have h1 : decide (us.length > ps.length) = false := by rw [decide_eq_false_iff_not]; omega
  unfold bindArgs
  simp only [hps, List.map_nil, List.nil_append, List.forIn_nil, pure_bind, seqItems?, notAStandIn, h1, Bool.false_and, Bool.false_eq_true, if_false, Option.getD_none, List.length_nil, Nat.zero_sub, List.drop_nil, Nat.sub_zero, List.take_length, hf, List.isEmpty_nil, Bool.not_true, List.drop_length, List.zip_nil_left, List.append_nil, hz]

section
variable {N fs : List Str} {F : Fs} {n : Nat} {sc : Scope} {X : Cx} {W : Nat}
/-! ### all statements -/
theorem swap_none (G : GS N fs F n sc X) {ts : List Expr} {k : Nat} {p : Pos} {v : Expr} (h : swapOk sc ts v = true) : swappedStores [.Tuple ts k p] v X.env = pure none := by
  cases v with
  | Tuple vs k2 p2 => exact swapC_ok G.hsc G.block (of_decide_eq_true h)
  | _ => rfl
theorem parOk_ok {i j : Nat} {t v : Expr} (h : parOk N sc i j t v = true) : ∃ x px y py kt pt va vb k2 pt2, t = .Tuple [.Name x px, .Name y py] kt pt ∧ v = .Tuple [va, vb] k2 pt2 ∧ swapC sc [.Name x px, .Name y py] [va, vb] = some (some [x, y]) ∧ N[i]? = some x ∧ N[j]? = some y ∧
    sc.names.lookup x = some .local ∧ sc.names.lookup y = some .local ∧ notStar va = true ∧ notStar vb = true ∧ i ≠ j := by
  unfold parOk at h
  split at h
  · simp only [Bool.and_eq_true, decide_eq_true_eq] at h
    obtain ⟨⟨⟨⟨⟨⟨⟨h1, h2⟩, h3⟩, h4⟩, h5⟩, h6⟩, h7⟩, h8⟩ := h
    exact ⟨_, _, _, _, _, _, _, _, _, _, rfl, rfl, h1, h2, h3, h4, h5, h6, h7, h8⟩
  · cases h
theorem s_par (G : GS N fs F n sc X) {i j : Nat} {a b : E} {x y : Str} {px py pt pt2 pos : Pos} {kt k2 : Nat} {va vb : Expr} (hw : swapC sc [.Name x px, .Name y py] [va, vb] = some (some [x, y])) (hi : N[i]? = some x) (hj : N[j]? = some y)
    (hx : sc.names.lookup x = some .local) (hy : sc.names.lookup y = some .local) (n1 : notStar va = true) (n2 : notStar vb = true) (hij : i ≠ j) (ha : Both X F va a) (hb : Both X F vb b) : PS X (.Assign [.Tuple [.Name x px, .Name y py] kt pt] (.Tuple [va, vb] k2 pt2) pos) (tX X.K (exec F W (.par i j a b))) := by
  have core := ps_par (X := X) (pos := pos) (px := px) (py := py) (pt := pt) (pt2 := pt2) (kt := kt) (k2 := k2) G.g.calm (by rw [G.g.hN]; exact G.g.nd) (by rw [G.g.hN]; exact hi) (by rw [G.g.hN]; exact hj) hij (by rw [G.hsc]; exact hx) (by rw [G.hsc]; exact hy)
    (pa_cons ha.v (pa_cons hb.v pa_nil (starEach_cons n2 _ _)) (starEach_cons n1 _ _)) (swapC_ok G.hsc G.block hw) rfl
  refine PS.imp core fun Dn σ H ⟨B, ads, ρ, μ, r, f, he, q⟩ => ?_
  unfold exec at he
  split at he
  · cases he
  · rename_i hl
    obtain ⟨d1, μ1, e1, he⟩ := andThen_some he
    obtain ⟨d2, μ2, e2, he⟩ := andThen_some he
    cases he
    simp only [Bool.or_eq_true, not_or, Bool.not_eq_true] at hl
    refine ⟨_, ads, ρ, μ, d1, μ1, f.hold, e1, fun v H1 ads1 x1 h1 r1 => ⟨_, ads1, ρ, μ1, d2, _, h1, e2, fun w H2 ads2 x2 h2 r2 => ⟨v, w, rfl, ?_⟩⟩⟩
    have r1' := r1.ext h1.c x2
    rw [hl.1.1.1.1] at r1'
    rw [hl.1.1.1.2] at r2
    have f2 := f.step (x1.trans x2) h2
    have f3 := f2.setPl (i := i) r1'.plain
    exact q _ H2 ads2 (f3.setPl (Rep.stay (antiOwn (K := X.K) fun b h => ownF_set h) _ _ r2.plain))
theorem frz_go {i : Nat} {ss : Ss} {ρ : Env} {μ : Cells} {r : Res} (he : execs F W (.cons (.frz i) ss) ρ μ = some r) : ∃ ds, ρ[i]? = some (some (Sl.ow ds)) ∧ execs F W ss (ρ.set i (some (.pl (.lst ds)))) μ = some r := by
  unfold execs exec at he
  cases h : ρ[i]? with
  | none => simp only [h] at he; cases he
  | some o =>
    cases o with
    | none => simp only [h] at he; cases he
    | some s =>
      cases s with
      | pl d => simp only [h] at he; cases he
      | ow ds =>
        simp only [h] at he
        exact ⟨ds, rfl, he⟩
theorem cons_go {s : S} {ss : Ss} {ρ : Env} {μ : Cells} {r : Res} (he : execs F W (.cons s ss) ρ μ = some r) : ∃ r1, exec F W s ρ μ = some r1 ∧ ((∃ ρ1 μ1, r1 = .nx ρ1 μ1 ∧ execs F W ss ρ1 μ1 = some r) ∨ ((∀ ρ1 μ1, r1 ≠ .nx ρ1 μ1) ∧ r = r1)) := by
  unfold execs at he
  cases h : exec F W s ρ μ with
  | none => rw [h] at he; cases he
  | some r1 =>
    rw [h] at he
    refine ⟨r1, rfl, ?_⟩
    cases r1 with
    | nx ρ1 μ1 => exact .inl ⟨ρ1, μ1, rfl, he⟩
    | bk ρ1 μ1 => cases he; exact .inr ⟨fun _ _ e => (by cases e), rfl⟩
    | ct ρ1 μ1 => cases he; exact .inr ⟨fun _ _ e => (by cases e), rfl⟩
    | rt d μ1 => cases he; exact .inr ⟨fun _ _ e => (by cases e), rfl⟩
theorem chkSs_cons {s : S} {ss : Ss} {sts : List Stmt} (hs : ∀ i, s ≠ .frz i) (h : chkSs N fs sc (.cons s ss) sts = true) : ∃ x xs, sts = x :: xs ∧ chkS N fs sc s x = true ∧ chkSs N fs sc ss xs = true := by
  cases sts with
  | nil =>
    exfalso
    cases s <;> first | exact absurd h Bool.false_ne_true | exact hs _ rfl
  | cons x xs =>
    have h' : (chkS N fs sc s x && chkSs N fs sc ss xs) = true := by
      cases s <;> first | exact h | exact absurd rfl (hs _)
    obtain ⟨h1, h2⟩ := and2 h'
    exact ⟨x, xs, rfl, h1, h2⟩
mutual
theorem sS : ∀ (s : S) (st : Stmt), GS N fs F n sc X → chkS N fs sc s st = true → PS X st (tX X.K (exec F W s))
  | .asg i e, st, G, h => by
    cases st with
    | Assign ts v pos =>
      match ts, h with
      | [t], h =>
        cases t with
        | Name x px =>
          obtain ⟨h1, h2, h3⟩ := and3 (show (decide (N[i]? = some x) && locB sc x && chkE N fs e sc v && asgOk sc x px v) = true from h)
          obtain ⟨h4, h5⟩ := and2 h1
          exact s_asg G (of_decide_eq_true h4) h5 h2 h3
        | _ => exact absurd h Bool.false_ne_true
      | [], h => exact absurd h Bool.false_ne_true
      | t :: _ :: _, h => cases t <;> exact absurd h Bool.false_ne_true
    | _ => exact absurd h Bool.false_ne_true
  | .own i, st, G, h => by
    cases st with
    | Assign ts v pos =>
      match ts, h with
      | [t], h =>
        cases t with
        | Name x px =>
          cases v with
          | List es p2 =>
            cases es with
            | nil =>
              obtain ⟨h4, h5⟩ := and2 (show (decide (N[i]? = some x) && locB sc x) = true from h)
              exact s_own G (of_decide_eq_true h4) h5
            | cons _ _ => exact absurd h Bool.false_ne_true
          | _ => exact absurd h Bool.false_ne_true
        | _ => exact absurd h Bool.false_ne_true
      | [], h => exact absurd h Bool.false_ne_true
      | t :: _ :: _, h => cases t <;> exact absurd h Bool.false_ne_true
    | _ => exact absurd h Bool.false_ne_true
  | .asgT is e, st, G, h => by
    cases st with
    | Assign ts v pos =>
      match ts, h with
      | [t], h =>
        cases t with
        | Tuple es k p =>
          obtain ⟨h1, h2, h3⟩ := and3 (show (chkTs N sc is es && !isComp v && chkE N fs e sc v && swapOk sc es v) = true from h)
          obtain ⟨h4, h5⟩ := and2 h1
          exact s_asgT G h4 (by simpa using h5) h2 (swap_none G h3)
        | _ => exact absurd h Bool.false_ne_true
      | [], h => exact absurd h Bool.false_ne_true
      | t :: _ :: _, h => cases t <;> exact absurd h Bool.false_ne_true
    | _ => exact absurd h Bool.false_ne_true
  | .par i j a b, st, G, h => by
    cases st with
    | Assign ts v pos =>
      match ts, h with
      | [t], h =>
        have h0 : (parOk N sc i j t v && pairB (chkE N fs a sc) (chkE N fs b sc) v) = true := h
        obtain ⟨h1, h2⟩ := and2 h0
        obtain ⟨x, px, y, py, kt, pt, va, vb, k2, pt2, e1, e2, g1, g2, g3, g4, g5, g6, g7, g8⟩ := parOk_ok h1
        subst e1 e2
        obtain ⟨h3, h4⟩ := and2 (show (chkE N fs a sc va && chkE N fs b sc vb) = true from h2)
        exact s_par G g1 g2 g3 g4 g5 g6 g7 g8 (sE a sc va X G.g h3) (sE b sc vb X G.g h4)
      | [], h => exact absurd h Bool.false_ne_true
      | t :: _ :: _, h => cases t <;> exact absurd h Bool.false_ne_true
    | _ => exact absurd h Bool.false_ne_true
  | .aug i o e, st, G, h => by
    cases st with
    | AugAssign t o' v pos =>
      cases t with
      | Name x px =>
        obtain ⟨h1, h2, h3⟩ := and3 (show (decide (o = o') && opAS o && decide (N[i]? = some x) && locB sc x && chkE N fs e sc v) = true from h)
        obtain ⟨h4, h5, h6⟩ := and3 h1
        have e1 : o = o' := of_decide_eq_true h4
        subst e1
        exact s_aug G (of_decide_eq_true h6) h2 h5 h3
      | _ => exact absurd h Bool.false_ne_true
    | _ => exact absurd h Bool.false_ne_true
  | .app i e, st, G, h => by
    cases st with
    | Expr v pos =>
      cases v with
      | Call f as ks cpos =>
        cases f with
        | Attribute b g apos =>
          cases b with
          | Name x px =>
            match as, ks, h with
            | [v], [], h =>
              obtain ⟨h1, h2, h3⟩ := and3 (show (decide (g = "append") && nameIs N sc i x && (apos.endLine == cpos.line) && notStar v && chkE N fs e sc v) = true from h)
              obtain ⟨h4, h5, h6⟩ := and3 h1
              have e1 : g = "append" := of_decide_eq_true h4
              subst e1
              exact s_app G h5 h6 h2 h3
            | [], _, h => exact absurd h Bool.false_ne_true
            | [_], _ :: _, h => exact absurd h Bool.false_ne_true
            | _ :: _ :: _, _, h => exact absurd h Bool.false_ne_true
          | _ => exact absurd h Bool.false_ne_true
        | _ => exact absurd h Bool.false_ne_true
      | _ => exact absurd h Bool.false_ne_true
    | _ => exact absurd h Bool.false_ne_true
  | .ins i k e, st, G, h => by
    cases st with
    | Expr v pos =>
      cases v with
      | Call f as ks cpos =>
        cases f with
        | Attribute b g apos =>
          cases b with
          | Name x px =>
            match as, ks, h with
            | [u, v], [], h =>
              obtain ⟨h0, h7, h8⟩ := and3 (show (decide (g = "insert") && nameIs N sc i x && (apos.endLine == cpos.line) && notStar u && notStar v && chkE N fs k sc u && chkE N fs e sc v) = true from h)
              obtain ⟨h1, h2, h3⟩ := and3 h0
              obtain ⟨h4, h5, h6⟩ := and3 h1
              have e1 : g = "insert" := of_decide_eq_true h4
              subst e1
              exact s_ins G h5 h6 h2 h3 h7 h8
            | [], _, h => exact absurd h Bool.false_ne_true
            | [_], _, h => exact absurd h Bool.false_ne_true
            | [_, _], _ :: _, h => exact absurd h Bool.false_ne_true
            | _ :: _ :: _ :: _, _, h => exact absurd h Bool.false_ne_true
          | _ => exact absurd h Bool.false_ne_true
        | _ => exact absurd h Bool.false_ne_true
      | _ => exact absurd h Bool.false_ne_true
    | _ => exact absurd h Bool.false_ne_true
  | .daug o k op e, st, G, h => by
    cases st with
    | AugAssign t o' v pos =>
      cases t with
      | Subscript a b p2 =>
        obtain ⟨h1, h2, h3⟩ := and3 (show (decide (op = o') && opAS op && notSlice b && chkE N fs o sc a && chkE N fs k sc b && chkE N fs e sc v) = true from h)
        obtain ⟨h4, h5, h6⟩ := and3 h1
        obtain ⟨h7, h8⟩ := and2 h4
        have e1 : op = o' := of_decide_eq_true h7
        subst e1
        exact s_daug G h5 h6 h2 h3
      | _ => exact absurd h Bool.false_ne_true
    | _ => exact absurd h Bool.false_ne_true
  | .ret e, st, G, h => by
    cases st with
    | Return v pos =>
      cases v with
      | none => exact absurd h Bool.false_ne_true
      | some v => exact s_ret G h
    | _ => exact absurd h Bool.false_ne_true
  | .ifs c a b, st, G, h => by
    cases st with
    | If x ys zs pos =>
      obtain ⟨h1, h2, h3⟩ := and3 (show (chkE N fs c sc x && chkSs N fs sc a ys && chkSs N fs sc b zs) = true from h)
      exact s_ifs G h1 (sSs a ys G h2) (sSs b zs G h3)
    | _ => exact absurd h Bool.false_ne_true
  | .whl c b, st, G, h => by
    cases st with
    | While x ys zs pos =>
      cases zs with
      | nil =>
        obtain ⟨h1, h2⟩ := and2 (show (chkE N fs c sc x && chkSs N fs sc b ys) = true from h)
        exact s_whl G h1 (sSs b ys G h2)
      | cons _ _ => exact absurd h Bool.false_ne_true
    | _ => exact absurd h Bool.false_ne_true
  | .for_ tg it b, st, G, h => by
    cases st with
    | For t i ys zs pos =>
      cases zs with
      | nil =>
        obtain ⟨h1, h2, h3⟩ := and3 (show (chkTg N sc tg t && chkIt N fs it sc i && notSet i && chkSs N fs sc b ys) = true from h)
        obtain ⟨h4, h5⟩ := and2 h1
        exact s_for G h4 h5 h2 (sSs b ys G h3)
      | cons _ _ => exact absurd h Bool.false_ne_true
    | _ => exact absurd h Bool.false_ne_true
  | .expr e, st, G, h => by
    cases st with
    | Expr v pos =>
      obtain ⟨h1, h2⟩ := and2 (show (!isComp v && chkE N fs e sc v) = true from h)
      exact s_expr G (by simpa using h1) h2
    | _ => exact absurd h Bool.false_ne_true
  | .pass, st, G, h => by
    cases st with
    | Pass pos => exact s_pass
    | _ => exact absurd h Bool.false_ne_true
  | .brk, st, G, h => by
    cases st with
    | Break pos => exact s_brk
    | _ => exact absurd h Bool.false_ne_true
  | .cont, st, G, h => by
    cases st with
    | Continue pos => exact s_cont
    | _ => exact absurd h Bool.false_ne_true
  | .frz i, st, G, h => absurd h Bool.false_ne_true
theorem sSs : ∀ (ss : Ss) (sts : List Stmt), GS N fs F n sc X → chkSs N fs sc ss sts = true → PSs X sts (tX X.K (execs F W ss))
  | .nil, [], G, h => PSs.imp pss_nil fun Dn σ H ⟨B, ads, ρ, μ, r, f, he, q⟩ => by
    cases he
    exact q σ H ads f
  | .nil, _ :: _, G, h => absurd h Bool.false_ne_true
  | .cons s ss, sts, G, h => by
    by_cases hs : ∃ i, s = .frz i
    · obtain ⟨i, rfl⟩ := hs
      refine PSs.imp (sSs ss sts G h) fun Dn σ H ⟨B, ads, ρ, μ, r, f, he, q⟩ => ?_
      obtain ⟨ds, hρ, he⟩ := frz_go he
      exact ⟨B, ads, _, μ, r, f.frz hρ, he, q⟩
    · obtain ⟨x, xs, rfl, h1, h2⟩ := chkSs_cons (fun i e => hs ⟨i, e⟩) h
      refine PSs.imp (pss_cons (sS s x G h1) (sSs ss xs G h2)) fun Dn σ H ⟨B, ads, ρ, μ, r, f, he, q⟩ => ?_
      obtain ⟨r1, e1, he⟩ := cons_go he
      rcases he with ⟨ρ1, μ1, rfl, he⟩ | ⟨hn, rfl⟩
      · exact ⟨B, ads, ρ, μ, _, f, e1, fun σ' H' ads' f' => ⟨B, ads', ρ1, μ1, r, f', he, q⟩⟩
      · refine ⟨B, ads, ρ, μ, r, f, e1, ?_⟩
        cases r with
        | nx ρ1 μ1 => exact absurd rfl (hn ρ1 μ1)
        | bk ρ1 μ1 => exact q
        | ct ρ1 μ1 => exact q
        | rt d μ1 => exact q
end
end
end FM

set_option Elab.async false
set_option linter.all false
set_option maxRecDepth 100000
set_option maxHeartbeats 4000000
/-! Ev16: defs, the whole program, the law. -/
namespace FM
open PySem PySem.Spec PyProof.Rows L2

/-! ### a def -/
/-- a def's text: its statement, its slots (parameters first), its parameters, its body in the little language -/
structure FD where
  name : Str
  st : Stmt
  N : List Str
  ps : List Str
  body : Ss
def FD.fn (d : FD) : Fn := ⟨d.ps.length, d.N.length, d.body⟩
def plainArgs : Arguments → List Str → Bool
  | ⟨[], as, none, [], [], none, []⟩, ps => decide (as.map (·.arg) = ps)
  | _, _ => false
def scopeOk (N ps : List Str) (sc : Scope) : Bool :=
  (match sc.kind with | .function => true | _ => false) && !sc.isCoroutine && !sc.isGenerator && decide N.Nodup && decide (N.take ps.length = ps) && (ps.all fun x => locB sc x) && (sc.names.all fun y => match y.2 with | .free => false | _ => true)
def FD.chk (fs : List Str) (d : FD) : Bool := scopeOk d.N d.ps (defScope d.st) && plainArgs (defArgs d.st) d.ps && chkSs d.N fs (defScope d.st) d.body (defBody d.st)
theorem scopeOk_ok {N ps : List Str} {sc : Scope} (h : scopeOk N ps sc = true) : FnScope N ps sc := by
  unfold scopeOk at h
  simp only [Bool.and_eq_true, decide_eq_true_eq, List.all_eq_true] at h
  obtain ⟨⟨⟨⟨⟨⟨h1, h2⟩, h3⟩, h4⟩, h5⟩, h6⟩, h7⟩ := h
  refine ⟨?_, by simpa using h2, by simpa using h3, h4, h5, fun x hx => ?_, fun y hy => ?_⟩
  · split at h1
    · assumption
    · cases h1
  · have z := h6 x hx
    unfold locB at z
    split at z
    · exact .inl (by assumption)
    · exact .inr (by assumption)
    · cases z
  · have z := h7 y hy
    intro e
    simp only [e] at z
    cases z
theorem plainArgs_ok {as : Arguments} {ps : List Str} (h : plainArgs as ps = true) : ∃ l, as = { posonlyargs := [], args := l, vararg := none, kwonlyargs := [], kw_defaults := [], kwarg := none, defaults := [] } ∧ l.map (·.arg) = ps := by
  unfold plainArgs at h
  split at h
  · exact ⟨_, rfl, of_decide_eq_true h⟩
  · cases h
section
variable {P : Program} {w : World} {K : PySem.W.Frag} {mg : Str → Option Value} {base : Heap} {fs : List Str} {W : Nat}
theorem env0_get {ds : List D} {m : Nat} {i : Nat} {s : Sl} (e : (ds.map (fun d => some (Sl.pl d)) ++ List.replicate m none)[i]? = some (some s)) : ∃ d, s = .pl d ∧ ds[i]? = some d := by
  by_cases hi : i < ds.length
  · rw [List.getElem?_append_left (by simpa using hi), List.getElem?_map] at e
    cases h : ds[i]? with
    | none => rw [h] at e; cases e
    | some d => rw [h] at e; cases e; exact ⟨d, rfl, rfl⟩
  · rw [List.getElem?_append_right (by simpa using hi), List.getElem?_replicate] at e
    split at e <;> cases e
theorem start_ok {d : FD} {own : Addr → Prop} {ads : List Addr} {H : Hp} {vs : List V} {ds : List D} {μ : Cells} (l : RepL K (Zo own ads) ads H vs ds) (c : CellsR K own ads H μ) (h1 : ds.length = d.fn.ar) (h2 : d.fn.ar ≤ d.fn.sl) :
    FI K ⟨own, ads, H, fun _ _ => False, []⟩ ads H (L2.start d.N vs) (ds.map (fun d => some (Sl.pl d)) ++ List.replicate (d.fn.sl - d.fn.ar) none) μ := by
  have no : ∀ (i : Nat) (es : List D), (ds.map (fun d => some (Sl.pl d)) ++ List.replicate (d.fn.sl - d.fn.ar) none)[i]? ≠ some (some (Sl.ow es)) := fun i es e => by
    obtain ⟨d, e1, _⟩ := env0_get e
    cases e1
  have fewer : ∀ b, ownF own (L2.start d.N vs) (ds.map (fun d => some (Sl.pl d)) ++ List.replicate (d.fn.sl - d.fn.ar) none) b → own b := fun b h => by
    rcases h with h | ⟨i, es, e, _⟩
    · exact h
    · exact absurd e (no i es)
  refine ⟨⟨fun i s e => ?_, c.anti fewer, ?_⟩, .refl, fun i j es gs b e _ _ _ => absurd e (no i es), fun i es b e _ => absurd e (no i es), fun b h => ?_, fun b o z => z.elim, fun k a e => by simp at e⟩
  · obtain ⟨dd, e1, e2⟩ := env0_get e
    subst e1
    obtain ⟨v, e3, e4⟩ := l.get e2
    refine ⟨v, ?_, Rep.stay (antiOwn (K := K) fewer) _ _ e4⟩
    unfold L2.start
    have hi := (List.getElem?_eq_some_iff.mp e3).1
    rw [List.getElem?_append_left (by simpa using hi), List.getElem?_map, e3]
    rfl
  · unfold L2.start
    rw [List.length_append, List.length_append, List.length_map, List.length_map, List.length_replicate, List.length_replicate, l.length, h1]
    rfl
  · obtain ⟨o, h1, _⟩ := c.ownT b h
    exact ⟨o, h1⟩
/-- a def keeps what the evaluator says of it -/
theorem fd_ok {d : FD} {F : Fs} {n : Nat} {f : Addr} {fd : FuncData} (hd : d.chk fs = true) (FDn : FunD K d.name d.name (defArgs d.st) (defBody d.st) (defScope d.st) [] [] f fd) (bn : ∀ x ∈ bnames, mg x = none)
    (hF : ∀ f g, fs[f]? = some g → FnH P w K mg base n g (F f)) : FnOk P w K mg base CX0 (n + 1) f fd d.ps (spF K d.ps.length (runFn F W d.fn)) := by
  unfold FD.chk at hd
  obtain ⟨h1, h2, h3⟩ := and3 hd
  have S := scopeOk_ok h1
  refine FDn.ok S (fun vs H Q E h => h.1) (fun cdv A outer s H vs Q E hr h => ?_)
  have G : GS d.N fs F n (defScope d.st) (cxOf CX0 P w K mg base d.N d.name (defScope d.st) f cdv A outer s H E).nox := by
    refine ⟨⟨rfl, S.nd, rfl, rfl, hr, fun x h => ?_, fun x h => ?_, fun x h => ?_, fun x h => h, bn, hF⟩, rfl, S.kind⟩
    · unfold visB at h
      split at h
      · exact .inl (by assumption)
      · exact .inr (.inl (by assumption))
      · exact .inr (.inr (by assumption))
      · cases h
    · unfold gloB at h
      split at h
      · assumption
      · cases h
    · unfold locB at h
      split at h
      · exact ⟨.inl (by assumption), .inl rfl⟩
      · exact ⟨.inr (by assumption), .inl rfl⟩
      · cases h
  refine ⟨_, PSs.nox (sSs (W := W) d.body (defBody d.st) G h3), ?_⟩
  obtain ⟨hl, own, ads, ds, μ, dd, μ', l, c, he, q⟩ := h
  unfold runFn at he
  split at he
  · rename_i hn
    split at he
    · rename_i dr μr hx
      cases he
      refine ⟨⟨own, ads, H, fun _ _ => False, []⟩, ads, _, μ, _, ?_, hx, ?_⟩
      · exact start_ok l c hn.1 hn.2
      · exact fun v H' ads' e c' r => q v H' ads' e c' (.inl r)
    · rename_i ρr μr hx
      cases he
      refine ⟨⟨own, ads, H, fun _ _ => False, []⟩, ads, _, μ, _, ?_, hx, ?_⟩
      · exact start_ok l c hn.1 hn.2
      · intro σ' H' ads' f'
        have anti : ∀ b, own b → ownF own σ' ρr b := fun b z => .inl z
        exact q .non H' ads' f'.ext (f'.hold.c.anti anti) (.inl .non)
    · cases he
  · cases he
/-! ### the whole program -/
/-- the defs by their numbers -/
def tabOf (l : List FD) : Nat → Option Fn := fun f => (l[f]?).map FD.fn
theorem bindsF {d : FD} {f : Addr} {fd : FuncData} (hd : d.chk fs = true) (FDn : FunD K d.name d.name (defArgs d.st) (defBody d.st) (defScope d.st) [] [] f fd) :
    (∀ (kV doc pm : Value) (an : Option Addr) (cdv ct : Value) (us : List Value), us.length = d.ps.length → bindArgs (PySem.W.fnOf d.name d.name (defArgs d.st) (defBody d.st) (defScope d.st) .none kV doc pm an cdv ct) ⟨us, []⟩ = pure (d.ps.zip us)) := by
  unfold FD.chk at hd
  obtain ⟨h1, h2, h3⟩ := and3 hd
  have S := scopeOk_ok h1
  obtain ⟨l, e1, e2⟩ := plainArgs_ok h2
  have nd : d.ps.Nodup := by rw [← S.pre]; exact S.nd.sublist (List.take_sublist _ _)
  intro kV doc pm an cdv ct us hl
  rw [e1]
  have z := binds_gen (x := d.name) (qual := d.name) (body := defBody d.st) (scope := defScope d.st) (kV := kV) (doc := doc) (pm := pm) (an := an) (cdv := cdv) (ct := ct) l us (by rw [e2]; exact nd) (by rw [e2]; exact hl)
  rw [e2] at z
  exact z
theorem all_ok {l : List FD} (hfs : fs = l.map FD.name) (hd : ∀ d ∈ l, d.chk fs = true) (bn : ∀ x ∈ bnames, mg x = none)
    (hK : ∀ d ∈ l, ∃ a fd, mg d.name = some (.ref a) ∧ FunD K d.name d.name (defArgs d.st) (defBody d.st) (defScope d.st) [] [] a fd) :
    ∀ n f g, fs[f]? = some g → FnH P w K mg base n g (call (tabOf l) W n f)
  | 0, f, g, _ => fun ds μ d μ' e => by cases e
  | n + 1, f, g, hg => fun ds μ dd μ' e => by
    have ih := all_ok hfs hd bn hK n
    have hl : ∃ d, l[f]? = some d ∧ d.name = g := by
      rw [hfs, List.getElem?_map] at hg
      cases q : l[f]? with
      | none => rw [q] at hg; cases hg
      | some d => rw [q] at hg; cases hg; exact ⟨d, rfl, rfl⟩
    obtain ⟨d, q, rfl⟩ := hl
    have mem := List.mem_of_getElem? q
    have hT : tabOf l f = some d.fn := by unfold tabOf; rw [q]; rfl
    have hcall : call (tabOf l) W (n + 1) f = runFn (call (tabOf l) W n) W d.fn := by
      funext ds μ
      show (match tabOf l f with | some fn => runFn (call (tabOf l) W n) W fn ds μ | none => none) = _
      rw [hT]
    obtain ⟨a, fd, m1, m2⟩ := hK d mem
    have hdm := hd d mem
    refine ⟨a, fd, d.ps, m1, m2.kp, m2.bindsN (bindsF hdm m2), ?_, ?_⟩
    · rw [hcall] at e
      unfold runFn at e
      split at e
      · rename_i hh
        exact hh.1.symm
      · cases e
    · rw [hcall]
      exact fd_ok hdm m2 bn ih
/-- the law's promise from the evaluator's answer -/
theorem law_sp {F : List D → Cells → Option (D × Cells)} {H : Hp} {a : Addr} {ns : List Int} {μ' : Cells} (hS : SqL K H a (ns.map V.int)) (h : F [.lst (ns.map D.int)] [] = some (.bl true, μ')) :
    spF K 1 F [.ref a] H (fun v _ => v = .bl true) fun _ _ _ => False := by
  refine ⟨rfl, fun _ => False, [], [.lst (ns.map D.int)], [], .bl true, μ', .cons (.lst ?_ (RepL.ofInts ns)) .nil, ⟨rfl, .nil, fun k a e => by simp at e, fun a z => (nomatch z), fun b z => z.elim⟩, h, fun v H' ads' e c r => r.bl⟩
  rcases hS with hS | hS
  · exact .inl ⟨hS, fun z => z.elim (fun z => z) fun z => (nomatch z)⟩
  · exact .inr hS
end
end FM

set_option Elab.async false
set_option linter.all false
set_option maxRecDepth 100000
namespace FM
def B_is_whole : Ss := (.cons (.ret (.and (.isi (.var 0) .int) (.not (.isi (.var 0) .bool)))) .nil)
def B_common : Ss := (.cons (.whl (.cmp .NotEq (.var 1) (.int 0)) (.cons (.par 0 1 (.var 1) (.op .Mod (.var 0) (.var 1))) .nil)) (.cons (.ret (.bi .abs (.cons (.var 0) .nil))) .nil))
def B_frac (c_common : Nat) : Ss := (.cons (.asg 2 (.call c_common (.cons (.var 0) (.cons (.var 1) .nil)))) (.cons (.ifs (.cmp .Lt (.var 1) (.int 0)) (.cons (.asg 2 (.neg (.var 2))) .nil) .nil) (.cons (.ret (.tup (.cons (.op .FloorDiv (.var 0) (.var 2)) (.cons (.op .FloorDiv (.var 1) (.var 2)) .nil)))) .nil)))
def B_is_frac (c_is_whole : Nat) (c_common : Nat) : Ss := (.cons (.ifs (.or (.not (.isi (.var 0) .tuple)) (.or (.cmp .NotEq (.bi .len (.cons (.var 0) .nil)) (.int 2)) (.not (.bi .all (.cons (.lc (.call c_is_whole (.cons (.var 1) .nil)) (.nm 1) (.seq (.var 0)) .none) .nil))))) (.cons (.ret (.bl false)) .nil) .nil) (.cons (.ret (.and (.cmp .Gt (.ix (.var 0) (.int 1)) (.int 0)) (.cmp .Eq (.call c_common (.cons (.ix (.var 0) (.int 0)) (.cons (.ix (.var 0) (.int 1)) .nil))) (.int 1)))) .nil))
def B_whole : Ss := (.cons (.ret (.tup (.cons (.var 0) (.cons (.int 1) .nil)))) .nil)
def B_plus (c_frac : Nat) : Ss := (.cons (.ret (.call c_frac (.cons (.op .Add (.op .Mult (.ix (.var 0) (.int 0)) (.ix (.var 1) (.int 1))) (.op .Mult (.ix (.var 1) (.int 0)) (.ix (.var 0) (.int 1)))) (.cons (.op .Mult (.ix (.var 0) (.int 1)) (.ix (.var 1) (.int 1))) .nil)))) .nil)
def B_minus (c_frac : Nat) : Ss := (.cons (.ret (.call c_frac (.cons (.op .Sub (.op .Mult (.ix (.var 0) (.int 0)) (.ix (.var 1) (.int 1))) (.op .Mult (.ix (.var 1) (.int 0)) (.ix (.var 0) (.int 1)))) (.cons (.op .Mult (.ix (.var 0) (.int 1)) (.ix (.var 1) (.int 1))) .nil)))) .nil)
def B_times (c_frac : Nat) : Ss := (.cons (.ret (.call c_frac (.cons (.op .Mult (.ix (.var 0) (.int 0)) (.ix (.var 1) (.int 0))) (.cons (.op .Mult (.ix (.var 0) (.int 1)) (.ix (.var 1) (.int 1))) .nil)))) .nil)
def B_over (c_frac : Nat) : Ss := (.cons (.ret (.call c_frac (.cons (.op .Mult (.ix (.var 0) (.int 0)) (.ix (.var 1) (.int 1))) (.cons (.op .Mult (.ix (.var 0) (.int 1)) (.ix (.var 1) (.int 0))) .nil)))) .nil)
def B_sign_of : Ss := (.cons (.ret (.op .Sub (.cmp .Gt (.ix (.var 0) (.int 0)) (.int 0)) (.cmp .Lt (.ix (.var 0) (.int 0)) (.int 0)))) .nil)
def B_less : Ss := (.cons (.ret (.cmp .Lt (.op .Mult (.ix (.var 0) (.int 0)) (.ix (.var 1) (.int 1))) (.op .Mult (.ix (.var 1) (.int 0)) (.ix (.var 0) (.int 1))))) .nil)
def B_least (c_less : Nat) : Ss := (.cons (.ret (.ife (.call c_less (.cons (.var 0) (.cons (.var 1) .nil))) (.var 0) (.var 1))) .nil)
def B_most (c_less : Nat) : Ss := (.cons (.ret (.ife (.call c_less (.cons (.var 0) (.cons (.var 1) .nil))) (.var 1) (.var 0))) .nil)
def B_floor_of : Ss := (.cons (.ret (.op .FloorDiv (.ix (.var 0) (.int 0)) (.ix (.var 0) (.int 1)))) .nil)
def B_root_below : Ss := (.cons (.ifs (.cmp .Eq (.var 0) (.int 0)) (.cons (.ret (.int 0)) .nil) .nil) (.cons (.asg 1 (.op .LShift (.int 1) (.op .FloorDiv (.op .Add (.me .bits (.var 0) .nil) (.int 1)) (.int 2)))) (.cons (.whl (.bl true) (.cons (.asg 2 (.op .FloorDiv (.op .Add (.var 1) (.op .FloorDiv (.var 0) (.var 1))) (.int 2))) (.cons (.ifs (.cmp .GtE (.var 2) (.var 1)) (.cons (.ret (.var 1)) .nil) .nil) (.cons (.asg 1 (.var 2)) .nil)))) .nil)))
def B_exact_root (c_root_below : Nat) : Ss := (.cons (.ifs (.cmp .Lt (.ix (.var 0) (.int 0)) (.int 0)) (.cons (.ret .non) .nil) .nil) (.cons (.par 1 2 (.call c_root_below (.cons (.ix (.var 0) (.int 0)) .nil)) (.call c_root_below (.cons (.ix (.var 0) (.int 1)) .nil))) (.cons (.ret (.ife (.and (.cmp .Eq (.op .Mult (.var 1) (.var 1)) (.ix (.var 0) (.int 0))) (.cmp .Eq (.op .Mult (.var 2) (.var 2)) (.ix (.var 0) (.int 1)))) (.tup (.cons (.var 1) (.cons (.var 2) .nil))) .non)) .nil)))
def B_root_above (c_root_below : Nat) (c_frac : Nat) : Ss := (.cons (.asg 2 (.op .Mult (.op .Mult (.ix (.var 0) (.int 0)) (.var 1)) (.var 1))) (.cons (.asg 3 (.call c_root_below (.cons (.op .FloorDiv (.var 2) (.ix (.var 0) (.int 1))) .nil))) (.cons (.whl (.cmp .Lt (.op .Mult (.op .Mult (.var 3) (.var 3)) (.ix (.var 0) (.int 1))) (.var 2)) (.cons (.aug 3 .Add (.int 1)) .nil)) (.cons (.ret (.call c_frac (.cons (.var 3) (.cons (.var 1) .nil)))) .nil))))
def B_text_of : Ss := (.cons (.ret (.op .Add (.bi .str (.cons (.ix (.var 0) (.int 0)) .nil)) (.ife (.cmp .Gt (.ix (.var 0) (.int 1)) (.int 1)) (.op .Add (.str "/") (.bi .str (.cons (.ix (.var 0) (.int 1)) .nil))) (.str "")))) .nil)
def B_figures_in : Ss := (.cons (.ifs (.or (.cmp .Eq (.var 0) (.str "")) (.not (.bi .all (.cons (.lc (.cmp .In (.var 1) (.str "0123456789")) (.nm 1) (.seq (.var 0)) .none) .nil)))) (.cons (.ret .non) .nil) .nil) (.cons (.ret (.ife (.or (.cmp .Eq (.var 0) (.str "0")) (.cmp .NotEq (.ix (.var 0) (.int 0)) (.str "0"))) (.bi .int (.cons (.var 0) .nil)) .non)) .nil))
def B_frac_in (c_figures_in : Nat) (c_frac : Nat) (c_text_of : Nat) : Ss := (.cons (.asgT [4, 5, 6] (.me .partition (.var 0) (.cons (.str "/") .nil))) (.cons (.asg 1 (.call c_figures_in (.cons (.ife (.cmp .Eq (.sl (.var 4) .none (.some (.int 1))) (.str "-")) (.sl (.var 4) (.some (.int 1)) .none) (.var 4)) .nil))) (.cons (.asg 2 (.ife (.cmp .NotEq (.var 5) (.str "")) (.call c_figures_in (.cons (.var 6) .nil)) (.int 1))) (.cons (.ifs (.or (.cmp .Is (.var 1) .non) (.cmp .In (.var 2) (.tup (.cons .non (.cons (.int 0) .nil))))) (.cons (.ret .non) .nil) .nil) (.cons (.asg 3 (.call c_frac (.cons (.ife (.cmp .Eq (.sl (.var 4) .none (.some (.int 1))) (.str "-")) (.neg (.var 1)) (.var 1)) (.cons (.var 2) .nil)))) (.cons (.ret (.ife (.cmp .Eq (.call c_text_of (.cons (.var 3) .nil)) (.var 0)) (.var 3) .non)) .nil))))))
def B_mean (c_over : Nat) (c_plus : Nat) : Ss := (.cons (.ret (.call c_over (.cons (.call c_plus (.cons (.var 0) (.cons (.var 1) .nil))) (.cons (.tup (.cons (.int 2) (.cons (.int 1) .nil))) .nil)))) .nil)
def B_sum_of (c_plus : Nat) : Ss := (.cons (.asg 1 (.tup (.cons (.int 0) (.cons (.int 1) .nil)))) (.cons (.for_ (.nm 2) (.seq (.var 0)) (.cons (.asg 1 (.call c_plus (.cons (.var 1) (.cons (.var 2) .nil)))) .nil)) (.cons (.ret (.var 1)) .nil)))
def B__law_draws : Ss := (.cons (.own 2) (.cons (.asg 3 (.int 7)) (.cons (.for_ (.nm 4) (.rng1 (.bi .len (.cons (.var 0) .nil))) (.cons (.asg 5 (.bi .abs (.cons (.bi .int (.cons (.ix (.var 0) (.var 4)) .nil)) .nil))) (.cons (.asg 3 (.op .Mod (.bi .int (.cons (.op .Add (.op .Add (.op .Mult (.var 3) (.int 48271)) (.op .Mod (.var 5) (.int 1000003))) (.var 4)) .nil)) (.int 65537))) (.cons (.asg 6 (.int 0)) (.cons (.ifs (.cmp .GtE (.var 5) (.op .Pow (.int 10) (.int 18))) (.cons (.asg 6 (.var 5)) .nil) (.cons (.app 2 (.op .Mod (.bi .int (.cons (.var 5) .nil)) (.int 997))) (.cons (.app 2 (.op .Mod (.op .Mod (.bi .int (.cons (.op .Add (.op .Mult (.var 3) (.int 69621)) (.int 5)) .nil)) (.int 65521)) (.int 997))) .nil))) (.cons (.for_ (.nm 7) (.rng1 (.int 60)) (.cons (.ifs (.cmp .Gt (.var 6) (.int 0)) (.cons (.app 2 (.op .Mod (.bi .int (.cons (.var 6) .nil)) (.int 997))) (.cons (.asg 6 (.op .FloorDiv (.var 6) (.int 997))) .nil)) .nil) .nil)) .nil)))))) (.cons (.for_ (.nm 4) (.rng1 (.var 1)) (.cons (.asg 3 (.op .Mod (.bi .int (.cons (.op .Add (.op .Add (.op .Mult (.var 3) (.int 16807)) (.var 4)) (.int 1)) .nil)) (.int 65537))) (.cons (.app 2 (.op .Mod (.bi .int (.cons (.var 3) .nil)) (.int 997))) .nil))) (.cons (.ret (.sl (.var 2) .none (.some (.var 1)))) .nil)))))
def B__law_next : Ss := (.cons (.daug (.var 0) (.str "at") .Add (.int 1)) (.cons (.ifs (.cmp .Gt (.ix (.var 0) (.str "at")) (.bi .len (.cons (.ix (.var 0) (.str "draws")) .nil))) (.cons (.ret (.int 0)) .nil) .nil) (.cons (.ret (.op .Mod (.bi .int (.cons (.ix (.ix (.var 0) (.str "draws")) (.op .Sub (.ix (.var 0) (.str "at")) (.int 1))) .nil)) (.var 1))) .nil)))
def B__law_alike (c__law_alike : Nat) : Ss := (.cons (.ifs (.isi (.var 1) .tuple) (.cons (.ifs (.or (.not (.isi (.var 0) .tuple)) (.cmp .NotEq (.bi .len (.cons (.var 0) .nil)) (.bi .len (.cons (.var 1) .nil)))) (.cons (.ret (.bl false)) .nil) .nil) (.cons (.ret (.cmp .Eq (.lc (.var 2) (.nm 2) (.rng1 (.bi .len (.cons (.var 1) .nil))) (.some (.not (.call c__law_alike (.cons (.ix (.var 0) (.var 2)) (.cons (.ix (.var 1) (.var 2)) .nil)))))) (.lst .nil))) .nil)) .nil) (.cons (.ifs (.cmp .Is (.var 1) .non) (.cons (.ret (.cmp .Is (.var 0) .non)) .nil) .nil) (.cons (.ifs (.isi (.var 1) .bool) (.cons (.ret (.and (.isi (.var 0) .bool) (.cmp .Eq (.var 0) (.var 1)))) .nil) .nil) (.cons (.ifs (.isi (.var 1) .int) (.cons (.ret (.and (.isi (.var 0) .int) (.and (.not (.isi (.var 0) .bool)) (.cmp .Eq (.var 0) (.var 1))))) .nil) .nil) (.cons (.ret (.and (.isi (.var 0) .str) (.cmp .Eq (.var 0) (.var 1)))) .nil)))))
def B__law_gcd : Ss := (.cons (.whl (.cmp .NotEq (.var 1) (.int 0)) (.cons (.par 0 1 (.var 1) (.op .Sub (.var 0) (.op .Mult (.op .FloorDiv (.var 0) (.var 1)) (.var 1)))) .nil)) (.cons (.ret (.bi .abs (.cons (.var 0) .nil))) .nil))
def B__law_fr (c__law_gcd : Nat) : Ss := (.cons (.asg 2 (.ife (.cmp .Gt (.var 1) (.int 0)) (.call c__law_gcd (.cons (.var 0) (.cons (.var 1) .nil))) (.op .Sub (.int 0) (.call c__law_gcd (.cons (.var 0) (.cons (.var 1) .nil)))))) (.cons (.ret (.tup (.cons (.op .FloorDiv (.var 0) (.var 2)) (.cons (.op .FloorDiv (.var 1) (.var 2)) .nil)))) .nil))
def B__law_add (c__law_fr : Nat) : Ss := (.cons (.ret (.call c__law_fr (.cons (.op .Add (.op .Mult (.ix (.var 0) (.int 0)) (.ix (.var 1) (.int 1))) (.op .Mult (.ix (.var 1) (.int 0)) (.ix (.var 0) (.int 1)))) (.cons (.op .Mult (.ix (.var 0) (.int 1)) (.ix (.var 1) (.int 1))) .nil)))) .nil)
def B__law_sub (c__law_fr : Nat) : Ss := (.cons (.ret (.call c__law_fr (.cons (.op .Sub (.op .Mult (.ix (.var 0) (.int 0)) (.ix (.var 1) (.int 1))) (.op .Mult (.ix (.var 1) (.int 0)) (.ix (.var 0) (.int 1)))) (.cons (.op .Mult (.ix (.var 0) (.int 1)) (.ix (.var 1) (.int 1))) .nil)))) .nil)
def B__law_mul (c__law_fr : Nat) : Ss := (.cons (.ret (.call c__law_fr (.cons (.op .Mult (.ix (.var 0) (.int 0)) (.ix (.var 1) (.int 0))) (.cons (.op .Mult (.ix (.var 0) (.int 1)) (.ix (.var 1) (.int 1))) .nil)))) .nil)
def B__law_div (c__law_fr : Nat) : Ss := (.cons (.ret (.call c__law_fr (.cons (.op .Mult (.ix (.var 0) (.int 0)) (.ix (.var 1) (.int 1))) (.cons (.op .Mult (.ix (.var 0) (.int 1)) (.ix (.var 1) (.int 0))) .nil)))) .nil)
def B__law_sgn : Ss := (.cons (.ret (.ife (.cmp .Gt (.ix (.var 0) (.int 0)) (.int 0)) (.int 1) (.ife (.cmp .Lt (.ix (.var 0) (.int 0)) (.int 0)) (.neg (.int 1)) (.int 0)))) .nil)
end FM

set_option Elab.async false
set_option linter.all false
set_option maxRecDepth 100000
set_option maxHeartbeats 4000000
/-! L1: what the library's defs compute, each once, whatever numbers its callees have. -/
namespace FM
open PySem (Str sizeLine)
open L2 (atI ixN)
open PySem.Spec PyProof.Rows
theorem call_at {l : List FD} {W n f : Nat} {d : FD} (h : l[f]? = some d) (ds : List D) (μ : Cells) : call (tabOf l) W (n + 1) f ds μ = runFn (call (tabOf l) W n) W d.fn ds μ := by
  show (match tabOf l f with | some fn => runFn (call (tabOf l) W n) W fn ds μ | none => none) = _
  unfold tabOf
  rw [h]
  rfl
theorem andThen_some' {α β : Type} (a : α) (μ : Cells) (f : α → Cells → Option β) : andThen (some (a, μ)) f = f a μ := rfl
theorem andThen_none' {α β : Type} (f : α → Cells → Option β) : andThen (none : Rs α) f = none := rfl
theorem onBl_bl {β : Type} (b : Bool) (μ : Cells) (f : Bool → Cells → Option β) : onBl (some (.bl b, μ)) f = f b μ := rfl
theorem wthD_some' (d : D) (μ : Cells) : wthD (some d) μ = some (d, μ) := rfl
theorem eqD_int (i j : Int) : eqD (.int i) (.int j) = some (decide (i = j)) := by
  show some (i == j) = _
  rw [Bool.beq_eq_decide_eq]
theorem ix_tup (μ : Cells) (l : List D) (i : Int) : ixD μ (.tup l) (.int i) = atI l i := rfl
theorem ix_lst (μ : Cells) (l : List D) (i : Int) : ixD μ (.lst l) (.int i) = atI l i := rfl
theorem atI_0 {α : Type} (x : α) (l : List α) : atI (x :: l) 0 = some x := by
  unfold atI ixN
  simp
theorem atI_1 {α : Type} (x y : α) (l : List α) : atI (x :: y :: l) 1 = some y := by
  unfold atI ixN
  simp
  rw [if_pos (by omega)]
  rfl
theorem atI_2 {α : Type} (x y z : α) (l : List α) : atI (x :: y :: z :: l) 2 = some z := by
  unfold atI ixN
  simp
  rw [if_pos (by omega)]
  rfl
/-! ### sizes -/
def Sm (k : Nat) (i : Int) : Prop := i.natAbs < 2 ^ k
theorem Sm.mono {j k : Nat} {i : Int} (h : Sm j i) (l : j ≤ k) : Sm k i := Nat.lt_of_lt_of_le h (Nat.pow_le_pow_right (by decide) l)
theorem Sm.mul {j k : Nat} {a b : Int} (h : Sm j a) (g : Sm k b) : Sm (j + k) (a * b) := by
  unfold Sm at *
  rw [Int.natAbs_mul, Nat.pow_add]
  exact Nat.mul_lt_mul'' h g
theorem Sm.neg {k : Nat} {a : Int} (h : Sm k a) : Sm k (-a) := by
  unfold Sm at *
  rwa [Int.natAbs_neg]
theorem Sm.add {k : Nat} {a b : Int} (h : Sm k a) (g : Sm k b) : Sm (k + 1) (a + b) := by
  unfold Sm at *
  have := Int.natAbs_add_le a b
  rw [Nat.pow_succ]
  omega
theorem Sm.sub {k : Nat} {a b : Int} (h : Sm k a) (g : Sm k b) : Sm (k + 1) (a - b) := by
  rw [Int.sub_eq_add_neg]
  exact h.add g.neg
theorem log2_le' {n k : Nat} (h : n < 2 ^ k) : n.log2 ≤ k := by
  by_cases z : n = 0
  · subst z
    exact Nat.zero_le _
  · exact Nat.le_of_lt ((Nat.log2_lt z).mpr h)
theorem Sm.log {k : Nat} {a : Int} (h : Sm k a) : a.natAbs.log2 ≤ k := log2_le' h
theorem mulOk_sm {j k : Nat} {a b : Int} (h : Sm j a) (g : Sm k b) (l : j + k < 1000000) : mulOk a b = true := by
  unfold mulOk
  have := h.log
  have := g.log
  exact decide_eq_true (by omega)
theorem opD_of {o : PySem.Operator} {x y z : D} (h : opA o x y = some z) : opD o x y = some z := by
  unfold opD
  rw [h]
theorem op_mul {j k : Nat} {a b : Int} (h : Sm j a) (g : Sm k b) (l : j + k < 1000000) : opD .Mult (.int a) (.int b) = some (.int (a * b)) := by
  refine opD_of ?_
  show (if mulOk a b then _ else _) = _
  rw [mulOk_sm h g l]
  rfl
theorem op_mulB (B : Nat) {a b : Int} (h : Sm B a) (g : Sm B b) (l : B + B < 1000000) : opD .Mult (.int a) (.int b) = some (.int (a * b)) := op_mul h g l
theorem op_add (i j : Int) : opD .Add (.int i) (.int j) = some (.int (i + j)) := rfl
theorem op_sub (i j : Int) : opD .Sub (.int i) (.int j) = some (.int (i - j)) := rfl
theorem op_subBl (i j : Bool) : opD .Sub (.bl i) (.bl j) = some (.int (PyProof.Rows.b2i i - PyProof.Rows.b2i j)) := rfl
theorem op_mod (i : Int) {j : Int} (h : j ≠ 0) : opD .Mod (.int i) (.int j) = some (.int (i.fmod j)) := by
  refine opD_of ?_
  show (if j = 0 then none else _) = _
  rw [if_neg h]
/-- a divisor that is allowed -/
def Dv (j : Int) : Prop := (j ≠ 0 ∧ j.natAbs < 1073741824) ∨ (0 < j ∧ j.natAbs.log2 < 9000)
theorem op_div (i : Int) {j : Int} (h : Dv j) : opD .FloorDiv (.int i) (.int j) = some (.int (i.fdiv j)) := by
  refine opD_of ?_
  show (if divOk i j then _ else _) = _
  have : divOk i j = true := by
    unfold divOk
    rw [Bool.or_eq_true, decide_eq_true_eq, decide_eq_true_eq]
    exact h
  rw [this]
  rfl
theorem Dv.pos {k : Nat} {j : Int} (h : 0 < j) (g : Sm k j) (l : k < 9000) : Dv j := .inr ⟨h, by have := g.log; omega⟩
theorem biD_abs (μ : Cells) (i : Int) : biD μ .abs [.int i] = some (.int (i.natAbs : Int)) := by
  show some (D.int (if i < 0 then -i else i)) = _
  congr 2
  split <;> omega
theorem sizeLine_ge : 16777216 ≤ sizeLine := by decide
theorem szle {n : Nat} (h : n ≤ 1000) : n ≤ sizeLine := Nat.le_trans h (by decide)
local macro_rules | `(tactic| walk_at "go") => `(tactic| simp [FM.runFn, FM.FD.fn, FM.execs, FM.exec, FM.ev, FM.evs, FM.evo, FM.evc, FM.evi, FM.lk, FM.lks, FM.It.lk, FM.isOw, FM.noOw, FM.Sl.isOw, FM.Sl.d, FM.isiD, FM.cmpD, FM.negD, FM.setAll, FM.bindT, FM.andThen_some', FM.onBl_bl, FM.wthD_some', FM.eqD_int, FM.ix_tup, FM.ix_lst, FM.atI_0, FM.atI_1, FM.atI_2, FM.op_add, FM.op_sub, FM.op_subBl, FM.biD_abs, FM.szle])
/-- the fuel of the loops -/
def W : Nat := 2 ^ 4100
section
variable {F : Fs}
/-! ### gcd -/
theorem fmod_abs (a : Int) {b : Int} (h : b ≠ 0) : (a.fmod b).natAbs < b.natAbs := by
  rcases Int.lt_or_gt_of_ne h with h | h
  · have h1 := Int.fmod_nonneg_of_pos (-a) (b := -b) (by omega)
    have h2 := Int.fmod_lt_of_pos (-a) (b := -b) (by omega)
    rw [Int.neg_fmod_neg] at h1 h2
    omega
  · have h1 := Int.fmod_nonneg_of_pos a h
    have h2 := Int.fmod_lt_of_pos a h
    omega
theorem gcd_fmod (a b : Int) : Int.gcd b (a.fmod b) = Int.gcd a b := by
  rw [Int.fmod_def, Int.gcd_comm a b, Int.sub_eq_add_neg, ← Int.mul_neg, Int.gcd_add_mul_left_right]
theorem gcd_loop (P : Int → Int → Prop) (c : Env → Cells → Option (Bool × Cells)) (b : Env → Cells → Option Res) (μ : Cells)
    (hc : ∀ i j : Int, c [some (.pl (.int i)), some (.pl (.int j))] μ = some (decide (j ≠ 0), μ))
    (hP : ∀ i j : Int, P i j → j ≠ 0 → P j (i.fmod j))
    (hb : ∀ i j : Int, P i j → j ≠ 0 → b [some (.pl (.int i)), some (.pl (.int j))] μ = some (.nx [some (.pl (.int j)), some (.pl (.int (i.fmod j)))] μ)) :
    ∀ (n : Nat) (i j : Int), P i j → j.natAbs < n → ∃ g : Int, whileF c b n [some (.pl (.int i)), some (.pl (.int j))] μ = some (.nx [some (.pl (.int g)), some (.pl (.int 0))] μ) ∧ g.natAbs = Int.gcd i j
  | 0, i, j, p, h => by omega
  | n + 1, i, j, p, h => by
    unfold whileF
    rw [hc]
    by_cases z : j = 0
    · subst z
      exact ⟨i, by simp, by simp⟩
    · have h2 := fmod_abs i z
      obtain ⟨g, h3, h4⟩ := gcd_loop P c b μ hc hP hb n j (i.fmod j) (hP i j p z) (by omega)
      refine ⟨g, ?_, ?_⟩
      · simp only [ne_eq, z, not_false_eq_true, decide_true, hb i j p z]
        exact h3
      · rw [h4, gcd_fmod]
theorem smW {j : Int} (h : Sm 4000 j) : j.natAbs < W := Nat.lt_of_lt_of_le h (Nat.pow_le_pow_right (by decide) (by decide))
theorem run_rt {fn : Fn} {ds : List D} {μ μ1 : Cells} {d : D} (h1 : ds.length = fn.ar) (h2 : fn.ar ≤ fn.sl) (h : execs F W fn.body (ds.map (fun d => some (.pl d)) ++ List.replicate (fn.sl - fn.ar) none) μ = some (.rt d μ1)) : runFn F W fn ds μ = some (d, μ1) := by
  unfold runFn
  rw [if_pos ⟨h1, h2⟩, h]
theorem seq_nx {s : S} {ss : Ss} {ρ ρ1 : Env} {μ μ1 : Cells} {r : Option Res} (h : exec F W s ρ μ = some (.nx ρ1 μ1)) (k : execs F W ss ρ1 μ1 = r) : execs F W (.cons s ss) ρ μ = r := by
  unfold execs
  rw [h]
  exact k
theorem seq_rt {s : S} {ss : Ss} {ρ : Env} {μ μ1 : Cells} {d : D} (h : exec F W s ρ μ = some (.rt d μ1)) : execs F W (.cons s ss) ρ μ = some (.rt d μ1) := by
  unfold execs
  rw [h]
theorem whl_of {c : E} {b : Ss} {ρ : Env} {μ : Cells} {r : Option Res} (h : whileF (fun ρ' μ' => onBl (ev F c ρ' μ') fun x μ1 => some (x, μ1)) (fun ρ' μ' => execs F W b ρ' μ') W ρ μ = r) : exec F W (.whl c b) ρ μ = r := by
  unfold exec
  exact h
theorem for_of {tg : Tg} {it : It} {b : Ss} {ρ : Env} {μ μ1 : Cells} {xs : List D} {r : Option Res} (h1 : evi F it ρ μ = some (xs, μ1)) (h2 : it.lk ρ = false) (h : forF tg (fun ρ' μ' => execs F W b ρ' μ') xs ρ μ1 = r) : exec F W (.for_ tg it b) ρ μ = r := by
  unfold exec
  rw [h1]
  show (if it.lk ρ = true then none else _) = _
  rw [h2]
  exact h
theorem gcd_fin (P : Int → Int → Prop) {c : E} {b : Ss} {μ : Cells} (i j : Int) (p : P i j) (h : Sm 4000 j)
    (hc : ∀ i j : Int, onBl (ev F c [some (.pl (.int i)), some (.pl (.int j))] μ) (fun x μ1 => some (x, μ1)) = some (decide (j ≠ 0), μ))
    (hP : ∀ i j : Int, P i j → j ≠ 0 → P j (i.fmod j))
    (hb : ∀ i j : Int, P i j → j ≠ 0 → execs F W b [some (.pl (.int i)), some (.pl (.int j))] μ = some (.nx [some (.pl (.int j)), some (.pl (.int (i.fmod j)))] μ)) :
    runFn F W ⟨2, 2, .cons (.whl c b) (.cons (.ret (.bi .abs (.cons (.var 0) .nil))) .nil)⟩ [.int i, .int j] μ = some (.int (Int.gcd i j), μ) := by
  obtain ⟨g, h1, h2⟩ := gcd_loop P (fun ρ' μ' => onBl (ev F c ρ' μ') fun x μ1 => some (x, μ1)) (fun ρ' μ' => execs F W b ρ' μ') μ hc hP hb W i j p (smW h)
  refine run_rt rfl (Nat.le_refl 2) (seq_nx (whl_of h1) (seq_rt ?_))
  walk_at "go"
  exact congrArg Int.ofNat h2
theorem common_ok (i j : Int) (h : Sm 4000 j) (μ : Cells) : runFn F W ⟨2, 2, B_common⟩ [.int i, .int j] μ = some (.int (Int.gcd i j), μ) := by
  refine gcd_fin (fun _ _ => True) i j trivial h (fun i j => ?_) (fun _ _ _ _ => trivial) (fun i j _ hj => ?_)
  · walk_at "go"
  · walk_at "go"
    simp [op_mod i hj, andThen_some', wthD_some']
/-- what may be halved by turns -/
def Gp (i j : Int) : Prop := Sm 4000 i ∧ Sm 4000 j ∧ (0 ≤ j ∨ j.natAbs < 1073741824)
theorem Gp.next {i j : Int} (h : Gp i j) (z : j ≠ 0) : Gp j (i.fmod j) := by
  obtain ⟨h1, h2, h3⟩ := h
  have q := fmod_abs i z
  refine ⟨h2, Nat.lt_trans q h2, ?_⟩
  rcases h3 with h3 | h3
  · exact .inl (Int.fmod_nonneg_of_pos i (by omega))
  · exact .inr (by omega)
theorem Gp.dv {i j : Int} (h : Gp i j) (z : j ≠ 0) : Dv j := by
  obtain ⟨h1, h2, h3⟩ := h
  rcases h3 with h3 | h3
  · exact Dv.pos (by omega) h2 (by decide)
  · exact .inl ⟨z, h3⟩
theorem Sm.fdiv {k : Nat} {i : Int} (h : Sm k i) (j : Int) : Sm k (i.fdiv j) := Nat.lt_of_le_of_lt (Int.natAbs_fdiv_le_natAbs i j) h
theorem gcd_ok (i j : Int) (p : Gp i j) (μ : Cells) : runFn F W ⟨2, 2, B__law_gcd⟩ [.int i, .int j] μ = some (.int (Int.gcd i j), μ) := by
  refine gcd_fin Gp i j p p.2.1 (fun i j => ?_) (fun i j p z => p.next z) (fun i j p hj => ?_)
  · walk_at "go"
  · walk_at "go"
    simp [op_div i (p.dv hj), andThen_some', wthD_some', op_mul (p.1.fdiv j) p.2.1 (by decide), op_sub, Int.fmod_def, Int.mul_comm]
/-! ### fractions -/
/-- a denominator that may be given -/
def Dn (b : Int) : Prop := Sm 4000 b ∧ (0 < b ∨ (b ≠ 0 ∧ b.natAbs < 1073741824))
def gs (a b : Int) : Int := if 0 < b then (Int.gcd a b : Int) else -(Int.gcd a b : Int)
def fr (a b : Int) : Int × Int := (a.fdiv (gs a b), b.fdiv (gs a b))
abbrev fD (x : Int × Int) : D := .tup [.int x.1, .int x.2]
theorem Dn.ne {b : Int} (h : Dn b) : b ≠ 0 := by
  obtain ⟨_, h | h⟩ := h
  · omega
  · exact h.1
theorem gcd_pos (a : Int) {b : Int} (h : b ≠ 0) : 0 < Int.gcd a b := Int.gcd_pos_of_ne_zero_right a h
theorem gcd_le (a : Int) {b : Int} (h : b ≠ 0) : Int.gcd a b ≤ b.natAbs := Nat.gcd_le_right _ (by omega)
theorem Dn.gs (a : Int) {b : Int} (h : Dn b) : Dv (gs a b) := by
  have h1 := gcd_pos a h.ne
  have h2 := gcd_le a h.ne
  unfold FM.gs
  obtain ⟨h3, h4⟩ := h
  split
  · refine Dv.pos (k := 4000) (by omega) ?_ (by decide)
    exact Nat.lt_of_le_of_lt h2 h3
  · rcases h4 with h4 | h4
    · omega
    · exact .inl ⟨by omega, by omega⟩
def CommonC (F : Fs) (f : Nat) : Prop := ∀ (a b : Int) (μ : Cells), Sm 4000 b → F f [.int a, .int b] μ = some (.int (Int.gcd a b), μ)
def FracC (F : Fs) (f : Nat) : Prop := ∀ (a b : Int) (μ : Cells), Dn b → F f [.int a, .int b] μ = some (fD (fr a b), μ)
def LFracC (F : Fs) (f : Nat) : Prop := ∀ (a b : Int) (μ : Cells), Sm 4000 a → Dn b → F f [.int a, .int b] μ = some (fD (fr a b), μ)
theorem frac_ok {c : Nat} (hc : CommonC F c) (a b : Int) (μ : Cells) (h : Dn b) : runFn F W ⟨2, 3, B_frac c⟩ [.int a, .int b] μ = some (fD (fr a b), μ) := by
  have e : gs a b = if b < 0 then -(Int.gcd a b : Int) else (Int.gcd a b : Int) := by
    have := h.ne
    unfold gs
    split <;> split <;> omega
  have d := h.gs a
  refine run_rt rfl (Nat.le_of_ble_eq_true rfl) (seq_nx (ρ1 := [some (.pl (.int a)), some (.pl (.int b)), some (.pl (.int (Int.gcd a b)))]) (μ1 := μ) ?_ (seq_nx (ρ1 := [some (.pl (.int a)), some (.pl (.int b)), some (.pl (.int (gs a b)))]) (μ1 := μ) ?_ (seq_rt ?_)))
  · walk_at "go"
    simp [hc a b μ h.1, andThen_some']
  · rw [e]
    by_cases z : b < 0
    · walk_at "go"
      simp [z]
    · walk_at "go"
      simp [z]
  · walk_at "go"
    simp [op_div a d, op_div b d, andThen_some', wthD_some', fr, szle]
theorem law_fr_ok {c : Nat} (hc : ∀ (a b : Int) (μ : Cells), Gp a b → F c [.int a, .int b] μ = some (.int (Int.gcd a b), μ)) (a b : Int) (μ : Cells) (ha : Sm 4000 a) (h : Dn b) : runFn F W ⟨2, 3, B__law_fr c⟩ [.int a, .int b] μ = some (fD (fr a b), μ) := by
  have d := h.gs a
  have p : Gp a b := ⟨ha, h.1, h.2.elim (fun z => .inl (by omega)) fun z => .inr z.2⟩
  refine run_rt rfl (Nat.le_of_ble_eq_true rfl) (seq_nx (ρ1 := [some (.pl (.int a)), some (.pl (.int b)), some (.pl (.int (gs a b)))]) (μ1 := μ) ?_ (seq_rt ?_))
  · unfold gs
    by_cases z : 0 < b
    · walk_at "go"
      simp [z, hc a b μ p, andThen_some']
    · walk_at "go"
      simp [z, hc a b μ p, andThen_some', wthD_some', op_sub]
  · walk_at "go"
    simp [op_div a d, op_div b d, andThen_some', wthD_some', fr, szle]
end
end FM

set_option Elab.async false
set_option linter.all false
set_option maxRecDepth 100000
set_option maxHeartbeats 4000000
/-! M1: fractions in plain Lean; sums, products and the rest. -/
namespace FM
open PySem (Str sizeLine)
open L2 (atI ixN)
open PySem.Spec PyProof.Rows
theorem fr_mul {n d g : Int} (hg : g ≠ 0) (hd : 0 < d) (h : Int.gcd n d = 1) : fr (n * g) (d * g) = (n, d) := by
  have e : gs (n * g) (d * g) = g := by
    unfold gs
    rw [Int.gcd_mul_right, h, Nat.one_mul]
    rcases Int.lt_or_gt_of_ne hg with z | z
    · rw [if_neg (by have := Int.mul_neg_of_pos_of_neg hd z; omega)]
      omega
    · rw [if_pos (Int.mul_pos hd z)]
      omega
  unfold fr
  rw [e, Int.mul_fdiv_cancel _ hg, Int.mul_fdiv_cancel _ hg]
theorem gs_ne (a : Int) {b : Int} (hb : b ≠ 0) : gs a b ≠ 0 := by
  have := gcd_pos a hb
  unfold gs
  split <;> omega
theorem gs_dvd_l (a b : Int) : gs a b ∣ a := by
  unfold gs
  split
  · exact Int.gcd_dvd_left a b
  · exact Int.neg_dvd.mpr (Int.gcd_dvd_left a b)
theorem gs_dvd_r (a b : Int) : gs a b ∣ b := by
  unfold gs
  split
  · exact Int.gcd_dvd_right a b
  · exact Int.neg_dvd.mpr (Int.gcd_dvd_right a b)
theorem fr_spec (a : Int) {b : Int} (hb : b ≠ 0) : a = (fr a b).1 * gs a b ∧ b = (fr a b).2 * gs a b ∧ 0 < (fr a b).2 ∧ Int.gcd (fr a b).1 (fr a b).2 = 1 := by
  have g0 := gs_ne a hb
  have h1 : a = (fr a b).1 * gs a b := (Int.fdiv_mul_cancel (gs_dvd_l a b)).symm
  have h2 : b = (fr a b).2 * gs a b := (Int.fdiv_mul_cancel (gs_dvd_r a b)).symm
  refine ⟨h1, h2, ?_, ?_⟩
  · by_cases z : 0 < b
    · have gp : 0 < gs a b := by
        have := gcd_pos a hb
        unfold gs
        rw [if_pos z]
        omega
      rw [h2] at z
      exact Int.pos_of_mul_pos_left z (by omega) |> fun h => h
    · have gn : gs a b < 0 := by
        have := gcd_pos a hb
        unfold gs
        rw [if_neg z]
        omega
      have z2 : b < 0 := by omega
      generalize (fr a b).2 = q at *
      generalize gs a b = g at *
      by_cases c : 0 < q
      · exact c
      · have := Int.mul_nonneg_of_nonpos_of_nonpos (a := q) (b := g) (by omega) (by omega)
        omega
  · have e : Int.gcd a b = Int.gcd (fr a b).1 (fr a b).2 * (gs a b).natAbs := by
      rw [← Int.gcd_mul_right, ← h1, ← h2]
    have e2 : (gs a b).natAbs = Int.gcd a b := by
      unfold gs
      split <;> omega
    rw [e2] at e
    have p := gcd_pos a hb
    have : 1 * Int.gcd a b = Int.gcd (fr a b).1 (fr a b).2 * Int.gcd a b := by omega
    exact (Nat.eq_of_mul_eq_mul_right p this).symm
/-- a fraction that is written as it should be, not too long -/
def Fq (k : Nat) (x : Int × Int) : Prop := Sm k x.1 ∧ Sm k x.2 ∧ 0 < x.2 ∧ Int.gcd x.1 x.2 = 1
theorem fr_fq {k : Nat} {a b : Int} (ha : Sm k a) (hb : Sm k b) (z : b ≠ 0) : Fq k (fr a b) := by
  obtain ⟨h1, h2, h3, h4⟩ := fr_spec a z
  exact ⟨ha.fdiv _, hb.fdiv _, h3, h4⟩
theorem Fq.mono {j k : Nat} {x : Int × Int} (h : Fq j x) (l : j ≤ k) : Fq k x := ⟨h.1.mono l, h.2.1.mono l, h.2.2⟩
theorem Fq.fr {k : Nat} {x : Int × Int} (h : Fq k x) : fr x.1 x.2 = x := by
  have := fr_mul (g := 1) (by decide) h.2.2.1 h.2.2.2
  simpa using this
theorem fr_neg (a b : Int) (hb : b ≠ 0) : fr a (-b) = fr (-a) b := by
  obtain ⟨h1, h2, h3, h4⟩ := fr_spec (-a) hb
  have g0 := gs_ne (-a) hb
  have e1 : a = (fr (-a) b).1 * (-gs (-a) b) := by rw [Int.mul_neg]; omega
  have e2 : -b = (fr (-a) b).2 * (-gs (-a) b) := by rw [Int.mul_neg]; omega
  have z := fr_mul (g := -gs (-a) b) (by omega) h3 h4
  rw [← e1, ← e2] at z
  exact z
def addF (x y : Int × Int) : Int × Int := fr (x.1 * y.2 + y.1 * x.2) (x.2 * y.2)
def subF (x y : Int × Int) : Int × Int := fr (x.1 * y.2 - y.1 * x.2) (x.2 * y.2)
def mulF (x y : Int × Int) : Int × Int := fr (x.1 * y.1) (x.2 * y.2)
def divF (x y : Int × Int) : Int × Int := fr (x.1 * y.2) (x.2 * y.1)
theorem Fq.add {j k : Nat} {x y : Int × Int} (hx : Fq j x) (hy : Fq k y) : Fq (j + k + 1) (addF x y) := by
  refine fr_fq ?_ ((hx.2.1.mul hy.2.1).mono (by omega)) ?_
  · have h := (hx.1.mul hy.2.1).add (Sm.mono (hy.1.mul hx.2.1) (by omega))
    exact h
  · have := Int.mul_pos hx.2.2.1 hy.2.2.1
    omega
theorem Fq.sub {j k : Nat} {x y : Int × Int} (hx : Fq j x) (hy : Fq k y) : Fq (j + k + 1) (subF x y) := by
  refine fr_fq ?_ ((hx.2.1.mul hy.2.1).mono (by omega)) ?_
  · have h := (hx.1.mul hy.2.1).sub (Sm.mono (hy.1.mul hx.2.1) (by omega))
    exact h
  · have := Int.mul_pos hx.2.2.1 hy.2.2.1
    omega
theorem Fq.mul {j k : Nat} {x y : Int × Int} (hx : Fq j x) (hy : Fq k y) : Fq (j + k) (mulF x y) := by
  refine fr_fq (hx.1.mul hy.1) (hx.2.1.mul hy.2.1) ?_
  have := Int.mul_pos hx.2.2.1 hy.2.2.1
  omega
theorem addF_zero {k : Nat} {x : Int × Int} (h : Fq k x) : addF (0, 1) x = x := by
  unfold addF
  simpa using h.fr
theorem mulF_comm (x y : Int × Int) : mulF x y = mulF y x := by
  unfold mulF
  rw [Int.mul_comm x.1, Int.mul_comm x.2]
/-! ### the walks -/
section
variable {F : Fs} {j k : Nat}
local macro_rules | `(tactic| walk_at "go") => `(tactic| simp [FM.runFn, FM.FD.fn, FM.execs, FM.exec, FM.ev, FM.evs, FM.evo, FM.evc, FM.evi, FM.lk, FM.lks, FM.It.lk, FM.isOw, FM.noOw, FM.Sl.isOw, FM.Sl.d, FM.isiD, FM.cmpD, FM.negD, FM.setAll, FM.bindT, FM.andThen_some', FM.onBl_bl, FM.wthD_some', FM.eqD_int, FM.ix_tup, FM.ix_lst, FM.atI_0, FM.atI_1, FM.atI_2, FM.op_add, FM.op_sub, FM.op_subBl, FM.biD_abs, FM.szle])
theorem dn_mul {x y : Int} (hx : Sm 1800 x) (hy : Sm 1800 y) (px : 0 < x) (py : 0 < y) : Dn (x * y) := ⟨(hx.mul hy).mono (by decide), .inl (Int.mul_pos px py)⟩
section
variable {x y : Int × Int} {f : Nat} (hx : Fq 1800 x) (hy : Fq 1800 y) (μ : Cells)
include hx hy
theorem plus_ok (hf : FracC F f) : runFn F W ⟨2, 2, B_plus f⟩ [fD x, fD y] μ = some (fD (addF x y), μ) := by
  refine run_rt rfl (Nat.le_of_ble_eq_true rfl) (seq_rt ?_)
  walk_at "go"
  simp [op_mulB 1800 hx.1 hy.2.1, op_mulB 1800 hy.1 hx.2.1, op_mulB 1800 hx.2.1 hy.2.1, op_add, hf _ _ μ (dn_mul hx.2.1 hy.2.1 hx.2.2.1 hy.2.2.1), wthD_some', andThen_some', addF]
theorem minus_ok (hf : FracC F f) : runFn F W ⟨2, 2, B_minus f⟩ [fD x, fD y] μ = some (fD (subF x y), μ) := by
  refine run_rt rfl (Nat.le_of_ble_eq_true rfl) (seq_rt ?_)
  walk_at "go"
  simp [op_mulB 1800 hx.1 hy.2.1, op_mulB 1800 hy.1 hx.2.1, op_mulB 1800 hx.2.1 hy.2.1, op_sub, hf _ _ μ (dn_mul hx.2.1 hy.2.1 hx.2.2.1 hy.2.2.1), wthD_some', andThen_some', subF]
theorem times_ok (hf : FracC F f) : runFn F W ⟨2, 2, B_times f⟩ [fD x, fD y] μ = some (fD (mulF x y), μ) := by
  refine run_rt rfl (Nat.le_of_ble_eq_true rfl) (seq_rt ?_)
  walk_at "go"
  simp [op_mulB 1800 hx.1 hy.1, op_mulB 1800 hx.2.1 hy.2.1, hf _ _ μ (dn_mul hx.2.1 hy.2.1 hx.2.2.1 hy.2.2.1), wthD_some', andThen_some', mulF]
theorem over_ok (hf : FracC F f) (hd : Dn (x.2 * y.1)) : runFn F W ⟨2, 2, B_over f⟩ [fD x, fD y] μ = some (fD (divF x y), μ) := by
  refine run_rt rfl (Nat.le_of_ble_eq_true rfl) (seq_rt ?_)
  walk_at "go"
  simp [op_mulB 1800 hx.1 hy.2.1, op_mulB 1800 hx.2.1 hy.1, hf _ _ μ hd, wthD_some', andThen_some', divF]
theorem law_add_ok (hf : LFracC F f) : runFn F W ⟨2, 2, B__law_add f⟩ [fD x, fD y] μ = some (fD (addF x y), μ) := by
  refine run_rt rfl (Nat.le_of_ble_eq_true rfl) (seq_rt ?_)
  walk_at "go"
  have b : Sm 4000 (x.1 * y.2 + y.1 * x.2) := ((hx.1.mul hy.2.1).add (hy.1.mul hx.2.1)).mono (by decide)
  simp [op_mulB 1800 hx.1 hy.2.1, op_mulB 1800 hy.1 hx.2.1, op_mulB 1800 hx.2.1 hy.2.1, op_add, hf _ _ μ b (dn_mul hx.2.1 hy.2.1 hx.2.2.1 hy.2.2.1), wthD_some', andThen_some', addF]
theorem law_sub_ok (hf : LFracC F f) : runFn F W ⟨2, 2, B__law_sub f⟩ [fD x, fD y] μ = some (fD (subF x y), μ) := by
  refine run_rt rfl (Nat.le_of_ble_eq_true rfl) (seq_rt ?_)
  walk_at "go"
  have b : Sm 4000 (x.1 * y.2 - y.1 * x.2) := ((hx.1.mul hy.2.1).sub (hy.1.mul hx.2.1)).mono (by decide)
  simp [op_mulB 1800 hx.1 hy.2.1, op_mulB 1800 hy.1 hx.2.1, op_mulB 1800 hx.2.1 hy.2.1, op_sub, hf _ _ μ b (dn_mul hx.2.1 hy.2.1 hx.2.2.1 hy.2.2.1), wthD_some', andThen_some', subF]
theorem law_mul_ok (hf : LFracC F f) : runFn F W ⟨2, 2, B__law_mul f⟩ [fD x, fD y] μ = some (fD (mulF x y), μ) := by
  refine run_rt rfl (Nat.le_of_ble_eq_true rfl) (seq_rt ?_)
  walk_at "go"
  have b : Sm 4000 (x.1 * y.1) := (hx.1.mul hy.1).mono (by decide)
  simp [op_mulB 1800 hx.1 hy.1, op_mulB 1800 hx.2.1 hy.2.1, hf _ _ μ b (dn_mul hx.2.1 hy.2.1 hx.2.2.1 hy.2.2.1), wthD_some', andThen_some', mulF]
theorem law_div_ok (hf : LFracC F f) (hd : Dn (x.2 * y.1)) : runFn F W ⟨2, 2, B__law_div f⟩ [fD x, fD y] μ = some (fD (divF x y), μ) := by
  refine run_rt rfl (Nat.le_of_ble_eq_true rfl) (seq_rt ?_)
  walk_at "go"
  have b : Sm 4000 (x.1 * y.2) := (hx.1.mul hy.2.1).mono (by decide)
  simp [op_mulB 1800 hx.1 hy.2.1, op_mulB 1800 hx.2.1 hy.1, hf _ _ μ b hd, wthD_some', andThen_some', divF]
theorem less_ok : runFn F W ⟨2, 2, B_less⟩ [fD x, fD y] μ = some (.bl (decide (x.1 * y.2 < y.1 * x.2)), μ) := by
  refine run_rt rfl (Nat.le_of_ble_eq_true rfl) (seq_rt ?_)
  walk_at "go"
  simp [op_mulB 1800 hx.1 hy.2.1, op_mulB 1800 hy.1 hx.2.1, cmpD, wthD_some', andThen_some']
def lessF (x y : Int × Int) : Bool := decide (x.1 * y.2 < y.1 * x.2)
theorem least_ok (hf : F f [fD x, fD y] μ = some (.bl (lessF x y), μ)) : runFn F W ⟨2, 2, B_least f⟩ [fD x, fD y] μ = some (fD (if lessF x y then x else y), μ) := by
  refine run_rt rfl (Nat.le_of_ble_eq_true rfl) (seq_rt ?_)
  walk_at "go"
  simp [hf]
  cases lessF x y <;> simp [andThen_some', onBl_bl]
theorem most_ok (hf : F f [fD x, fD y] μ = some (.bl (lessF x y), μ)) : runFn F W ⟨2, 2, B_most f⟩ [fD x, fD y] μ = some (fD (if lessF x y then y else x), μ) := by
  refine run_rt rfl (Nat.le_of_ble_eq_true rfl) (seq_rt ?_)
  walk_at "go"
  simp [hf]
  cases lessF x y <;> simp [andThen_some', onBl_bl]
omit hx hy in
theorem mean_ok {g : Nat} {z : Int × Int} (hf : F f [fD x, fD y] μ = some (fD (addF x y), μ)) (hg : F g [fD (addF x y), fD (2, 1)] μ = some (fD z, μ)) : runFn F W ⟨2, 2, B_mean g f⟩ [fD x, fD y] μ = some (fD z, μ) := by
  refine run_rt rfl (Nat.le_of_ble_eq_true rfl) (seq_rt ?_)
  walk_at "go"
  simp [hf, hg, andThen_some', wthD_some', szle]
end
def sgI (n : Int) : Int := if 0 < n then 1 else if n < 0 then -1 else 0
theorem sign_of_ok (x : Int × Int) (μ : Cells) : runFn F W ⟨1, 1, B_sign_of⟩ [fD x] μ = some (.int (sgI x.1), μ) := by
  refine run_rt rfl (Nat.le_of_ble_eq_true rfl) (seq_rt ?_)
  walk_at "go"
  unfold sgI
  by_cases a : 0 < x.1
  · have b : ¬ x.1 < 0 := by omega
    simp [a, b, b2i]
  · by_cases b : x.1 < 0
    · simp [a, b, b2i]
    · simp [a, b, b2i]
theorem law_sgn_ok (x : Int × Int) (μ : Cells) : runFn F W ⟨1, 1, B__law_sgn⟩ [fD x] μ = some (.int (sgI x.1), μ) := by
  refine run_rt rfl (Nat.le_of_ble_eq_true rfl) (seq_rt ?_)
  walk_at "go"
  unfold sgI
  by_cases a : 0 < x.1
  · simp [a, andThen_some']
  · by_cases b : x.1 < 0
    · simp [a, b, andThen_some', onBl_bl, wthD_some']
    · simp [a, b, andThen_some', onBl_bl, wthD_some']
theorem floor_of_ok {x : Int × Int} (h : Dv x.2) (μ : Cells) : runFn F W ⟨1, 1, B_floor_of⟩ [fD x] μ = some (.int (x.1.fdiv x.2), μ) := by
  refine run_rt rfl (Nat.le_of_ble_eq_true rfl) (seq_rt ?_)
  walk_at "go"
  simp [op_div x.1 h, wthD_some', andThen_some']
theorem whole_ok (i : Int) (μ : Cells) : runFn F W ⟨1, 1, B_whole⟩ [.int i] μ = some (fD (i, 1), μ) := by
  refine run_rt rfl (Nat.le_of_ble_eq_true rfl) (seq_rt ?_)
  walk_at "go"
theorem is_whole_int (i : Int) (μ : Cells) : runFn F W ⟨1, 1, B_is_whole⟩ [.int i] μ = some (.bl true, μ) := by
  refine run_rt rfl (Nat.le_of_ble_eq_true rfl) (seq_rt ?_)
  walk_at "go"
end
end FM

set_option Elab.async false
set_option linter.all false
set_option maxRecDepth 100000
set_option maxHeartbeats 4000000
/-! M2: roots, the draws, alike. -/
namespace FM
open PySem (Str sizeLine)
open L2 (atI ixN)
open PySem.Spec PyProof.Rows
section
variable {F : Fs} {j k : Nat}
local macro_rules | `(tactic| walk_at "go") => `(tactic| simp [FM.runFn, FM.FD.fn, FM.execs, FM.exec, FM.ev, FM.evs, FM.evo, FM.evc, FM.evi, FM.lk, FM.lks, FM.It.lk, FM.isOw, FM.noOw, FM.Sl.isOw, FM.Sl.d, FM.isiD, FM.cmpD, FM.negD, FM.setAll, FM.bindT, FM.andThen_some', FM.onBl_bl, FM.wthD_some', FM.eqD_int, FM.ix_tup, FM.ix_lst, FM.atI_0, FM.atI_1, FM.atI_2, FM.op_add, FM.op_sub, FM.op_subBl, FM.biD_abs, FM.szle])
/-! ### is_frac of two whole numbers -/
theorem is_frac_ok {fw fc : Nat} (hw : ∀ (i : Int) (μ : Cells), F fw [.int i] μ = some (.bl true, μ)) (hc : CommonC F fc) (x : Int × Int) (h : Sm 4000 x.2) (μ : Cells) :
    runFn F W ⟨1, 2, B_is_frac fw fc⟩ [fD x] μ = some (.bl (decide (0 < x.2) && decide ((Int.gcd x.1 x.2 : Int) = 1)), μ) := by
  refine run_rt rfl (Nat.le_of_ble_eq_true rfl) (seq_nx (ρ1 := [some (.pl (fD x)), none]) (μ1 := μ) ?_ (seq_rt ?_))
  · walk_at "go"
    simp [biD, eqD_int, onBl_bl, wthD_some', lcGo, bindT, hw, andThen_some', asBls]
  · walk_at "go"
    by_cases z : 0 < x.2
    · simp [z, hc _ _ μ h, andThen_some', eqD_int, wthD_some', onBl_bl]
    · simp [z, onBl_bl, andThen_some']
theorem whileF_rt {c : Env → Cells → Option (Bool × Cells)} {b : Env → Cells → Option Res} {m : Nat} {ρ : Env} {μ μ1 : Cells} {d : D} (h : c ρ μ = some (true, μ)) (g : b ρ μ = some (.rt d μ1)) : whileF c b (m + 1) ρ μ = some (.rt d μ1) := by
  unfold whileF
  rw [h]
  simp only
  rw [g]
theorem whileF_nx {c : Env → Cells → Option (Bool × Cells)} {b : Env → Cells → Option Res} {m : Nat} {ρ ρ1 : Env} {μ μ1 : Cells} (h : c ρ μ = some (true, μ)) (g : b ρ μ = some (.nx ρ1 μ1)) : whileF c b (m + 1) ρ μ = whileF c b m ρ1 μ1 := by
  conv => lhs; unfold whileF
  rw [h]
  simp only
  rw [g]
theorem whileF_no {c : Env → Cells → Option (Bool × Cells)} {b : Env → Cells → Option Res} {m : Nat} {ρ : Env} {μ : Cells} (h : c ρ μ = some (false, μ)) : whileF c b (m + 1) ρ μ = some (.nx ρ μ) := by
  unfold whileF
  rw [h]
/-! ### roots -/
/-- r is the root of n, rounded down -/
def IsRt (n r : Int) : Prop := 0 ≤ r ∧ r * r ≤ n ∧ n < (r + 1) * (r + 1)
theorem IsRt.uniq {n r s : Int} (h : IsRt n r) (g : IsRt n s) : r = s := by
  obtain ⟨h1, h2, h3⟩ := h
  obtain ⟨g1, g2, g3⟩ := g
  rcases Int.lt_trichotomy r s with z | z | z
  · have : (r + 1) * (r + 1) ≤ s * s := Int.mul_le_mul (by omega) (by omega) (by omega) (by omega)
    omega
  · exact z
  · have : (s + 1) * (s + 1) ≤ r * r := Int.mul_le_mul (by omega) (by omega) (by omega) (by omega)
    omega
theorem sqn (a : Int) : 0 ≤ a * a := by
  rcases Int.le_total 0 a with h | h
  · exact Int.mul_nonneg h h
  · exact Int.mul_nonneg_of_nonpos_of_nonpos h h
theorem op_shl1 {p : Int} (h : 0 ≤ p ∧ p ≤ 1000000) : opD .LShift (.int 1) (.int p) = some (.int (2 ^ p.toNat)) := by
  refine opD_of ?_
  show (if powOk 1 p then some (D.int (1 * 2 ^ p.toNat)) else none) = _
  have : powOk 1 p = true := by
    unfold powOk
    exact decide_eq_true ⟨h.1, h.2, by decide⟩
  rw [this, Int.one_mul]
  rfl
theorem me_bits (n : Int) : meD .bits (.int n) [] = some (.int (PySem.Builtin.Int.intBits n : Nat)) := rfl
/-- one step of the root -/
theorem newton {n f : Int} (hf : 0 < f) (hn : 0 ≤ n) :
    0 ≤ (f + n.fdiv f).fdiv 2 ∧ n < ((f + n.fdiv f).fdiv 2 + 1) * ((f + n.fdiv f).fdiv 2 + 1) ∧ (f ≤ (f + n.fdiv f).fdiv 2 → f * f ≤ n) ∧ (0 < n → 0 < (f + n.fdiv f).fdiv 2) := by
  have q1 : n.fdiv f * f ≤ n := by
    rw [Int.fdiv_eq_ediv_of_nonneg _ (by omega)]
    exact Int.ediv_mul_le n (by omega)
  have q2 : n < (n.fdiv f + 1) * f := by
    rw [Int.fdiv_eq_ediv_of_nonneg _ (by omega)]
    exact Int.lt_ediv_add_one_mul_self n hf
  have q0 : 0 ≤ n.fdiv f := Int.fdiv_nonneg hn (by omega)
  generalize n.fdiv f = q at *
  have l0 : (f + q).fdiv 2 = (f + q) / 2 := Int.fdiv_eq_ediv_of_nonneg _ (by decide)
  rw [l0]
  have l1 : (f + q) / 2 * 2 ≤ f + q := by omega
  have l2 : f + q ≤ (f + q) / 2 * 2 + 1 := by omega
  have l3 : 0 ≤ (f + q) / 2 := by omega
  refine ⟨l3, ?_, fun z => ?_, fun z => ?_⟩
  · generalize (f + q) / 2 = l at *
    have a : (f + q + 1) * (f + q + 1) ≤ (2 * (l + 1)) * (2 * (l + 1)) := Int.mul_le_mul (by omega) (by omega) (by omega) (by omega)
    have b : 0 ≤ (f - (q + 1)) * (f - (q + 1)) := sqn _
    grind
  · have a : f * f ≤ q * f := Int.mul_le_mul_of_nonneg_right (by omega) (by omega)
    omega
  · rcases Int.lt_or_le 1 f with z1 | z1
    · omega
    · have : f = 1 := by omega
      subst this
      omega
theorem root_loop {n : Int} {μ : Cells} (hn : 0 < n) (hs : Sm 3900 n) {c : Env → Cells → Option (Bool × Cells)} {b : Env → Cells → Option Res}
    (hc : ∀ ρ, c ρ μ = some (true, μ))
    (hb : ∀ (f : Int) (o : Option D), 0 < f → Sm 3900 f → b [some (.pl (.int n)), some (.pl (.int f)), o.map .pl] μ = if f ≤ (f + n.fdiv f).fdiv 2 then some (.rt (.int f) μ) else some (.nx [some (.pl (.int n)), some (.pl (.int ((f + n.fdiv f).fdiv 2))), some (.pl (.int ((f + n.fdiv f).fdiv 2)))] μ)) :
    ∀ (m : Nat) (f : Int) (o : Option D), 0 < f → f < m → Sm 3900 f → n < (f + 1) * (f + 1) → ∃ r : Int, whileF c b m [some (.pl (.int n)), some (.pl (.int f)), o.map .pl] μ = some (.rt (.int r) μ) ∧ IsRt n r
  | 0, f, o, h1, h2, h3, h4 => by omega
  | m + 1, f, o, h1, h2, h3, h4 => by
    have hb1 := hb f o h1 h3
    obtain ⟨n1, n2, n3, n4⟩ := newton (n := n) h1 (by omega)
    by_cases z : f ≤ (f + n.fdiv f).fdiv 2
    · rw [if_pos z] at hb1
      exact ⟨f, whileF_rt (hc _) hb1, by omega, n3 z, h4⟩
    · rw [if_neg z] at hb1
      rw [whileF_nx (hc _) hb1]
      refine root_loop hn hs hc hb m _ (some _) (n4 hn) (by omega) ?_ n2
      exact Nat.lt_trans (by have := n4 hn; omega) h3
theorem bits_start {n : Int} (h : 0 < n) (hs : Sm 3800 n) : let p : Nat := (PySem.Builtin.Int.intBits n + 1) / 2
    p ≤ 1901 ∧ 0 < (2 : Int) ^ p ∧ Sm 3900 (2 ^ p) ∧ n < ((2 : Int) ^ p + 1) * (2 ^ p + 1) := by
  intro p
  have e : PySem.Builtin.Int.intBits n = n.natAbs.log2 + 1 := by
    unfold PySem.Builtin.Int.intBits
    rw [if_neg (by simp; omega)]
  have l := hs.log
  have hp : p ≤ 1901 := by
    show (PySem.Builtin.Int.intBits n + 1) / 2 ≤ 1901
    omega
  have pos : 0 < (2 : Int) ^ p := Int.pow_pos (by decide)
  refine ⟨hp, pos, ?_, ?_⟩
  · unfold Sm
    rw [Int.natAbs_pow]
    exact Nat.pow_lt_pow_right (by decide) (by omega)
  · have a : n.natAbs < 2 ^ (p + p) := by
      refine Nat.lt_of_lt_of_le (Nat.lt_log2_self (n := n.natAbs)) (Nat.pow_le_pow_right (by decide) ?_)
      show n.natAbs.log2 + 1 ≤ (PySem.Builtin.Int.intBits n + 1) / 2 + (PySem.Builtin.Int.intBits n + 1) / 2
      omega
    have b : n < (2 : Int) ^ p * 2 ^ p := by
      rw [← Int.pow_add]
      have : ((2 ^ (p + p) : Nat) : Int) = (2 : Int) ^ (p + p) := by simp
      omega
    generalize (2 : Int) ^ p = q at *
    grind
def RootC (F : Fs) (f : Nat) : Prop := ∀ (n : Int) (μ : Cells), 0 ≤ n → Sm 3800 n → ∃ r, F f [.int n] μ = some (.int r, μ) ∧ IsRt n r
theorem root_fin {n f : Int} {μ : Cells} {c : E} {b : Ss} (h1 : 0 < f) (h2 : f < W) (h3 : Sm 3900 f) (h4 : n < (f + 1) * (f + 1)) (hn : 0 < n) (hs : Sm 3900 n)
    (hc : ∀ ρ, onBl (ev F c ρ μ) (fun x μ1 => some (x, μ1)) = some (true, μ))
    (hb : ∀ (f : Int) (o : Option D), 0 < f → Sm 3900 f → execs F W b [some (.pl (.int n)), some (.pl (.int f)), o.map .pl] μ = if f ≤ (f + n.fdiv f).fdiv 2 then some (.rt (.int f) μ) else some (.nx [some (.pl (.int n)), some (.pl (.int ((f + n.fdiv f).fdiv 2))), some (.pl (.int ((f + n.fdiv f).fdiv 2)))] μ)) :
    ∃ r : Int, execs F W (.cons (.whl c b) .nil) [some (.pl (.int n)), some (.pl (.int f)), none] μ = some (.rt (.int r) μ) ∧ IsRt n r := by
  obtain ⟨r, h5, h6⟩ := root_loop (c := fun ρ' μ' => onBl (ev F c ρ' μ') fun x μ1 => some (x, μ1)) (b := fun ρ' μ' => execs F W b ρ' μ') hn hs hc hb W f none h1 h2 h3 h4
  exact ⟨r, seq_rt (whl_of h5), h6⟩
theorem root_below_ok (n : Int) (μ : Cells) (hn : 0 ≤ n) (hs : Sm 3800 n) : ∃ r, runFn F W ⟨1, 3, B_root_below⟩ [.int n] μ = some (.int r, μ) ∧ IsRt n r := by
  by_cases z : n = 0
  · subst z
    refine ⟨0, run_rt rfl (Nat.le_of_ble_eq_true rfl) (seq_rt ?_), by unfold IsRt; decide⟩
    walk_at "go"
  · obtain ⟨b1, b2, b3, b4⟩ := bits_start (n := n) (by omega) hs
    have q : ∃ r : Int, _ ∧ IsRt n r := root_fin (F := F) (μ := μ) (c := .bl true) (b := (.cons (.asg 2 (.op .FloorDiv (.op .Add (.var 1) (.op .FloorDiv (.var 0) (.var 1))) (.int 2))) (.cons (.ifs (.cmp .GtE (.var 2) (.var 1)) (.cons (.ret (.var 1)) .nil) .nil) (.cons (.asg 1 (.var 2)) .nil)))) b2 (by have := smW (b3.mono (by decide)); omega) b3 b4 (by omega) (hs.mono (by decide)) (fun ρ => by walk_at "go") (fun f o hf hs => ?_)
    · obtain ⟨r, q1, q2⟩ := q
      refine ⟨r, run_rt rfl (Nat.le_of_ble_eq_true rfl) (seq_nx (ρ1 := [some (.pl (.int n)), none, none]) (μ1 := μ) ?_ (seq_nx (ρ1 := [some (.pl (.int n)), some (.pl (.int _)), none]) (μ1 := μ) ?_ q1)), q2⟩
      · walk_at "go"
        simp [z, onBl_bl]
      · have d2 : Dv 2 := .inl (by decide)
        have e : ((PySem.Builtin.Int.intBits n : Int) + 1).fdiv 2 = ((PySem.Builtin.Int.intBits n : Int) + 1) / 2 := Int.fdiv_eq_ediv_of_nonneg _ (by decide)
        have e2 : (((PySem.Builtin.Int.intBits n : Int) + 1) / 2).toNat = (PySem.Builtin.Int.intBits n + 1) / 2 := by omega
        have sh := op_shl1 (p := ((PySem.Builtin.Int.intBits n : Int) + 1) / 2) ⟨by omega, by omega⟩
        rw [e2] at sh
        walk_at "go"
        simp [me_bits, op_div _ d2, op_add, andThen_some', wthD_some', e, sh]
    · have d1 : Dv f := Dv.pos hf hs (by decide)
      have d2 : Dv 2 := .inl (by decide)
      refine seq_nx (ρ1 := [some (.pl (.int n)), some (.pl (.int f)), some (.pl (.int ((f + n.fdiv f).fdiv 2)))]) (μ1 := μ) ?_ ?_
      · cases o <;>
        · walk_at "go"
          simp [op_div _ d1, op_div _ d2, op_add, andThen_some', wthD_some']
      · split
        · rename_i z
          refine seq_rt ?_
          walk_at "go"
          simp [z]
        · rename_i z
          refine seq_nx (ρ1 := [some (.pl (.int n)), some (.pl (.int f)), some (.pl (.int ((f + n.fdiv f).fdiv 2)))]) (μ1 := μ) ?_ ?_
          · walk_at "go"
            omega
          · walk_at "go"
end
end FM

set_option Elab.async false
set_option linter.all false
set_option maxRecDepth 100000
set_option maxHeartbeats 4000000
/-! M3: roots of fractions, sums of lists, the draws, alike. -/
namespace FM
open PySem (Str sizeLine)
open L2 (atI ixN)
open PySem.Spec PyProof.Rows
section
variable {F : Fs} {j k : Nat}
local macro_rules | `(tactic| walk_at "go") => `(tactic| simp [FM.runFn, FM.FD.fn, FM.execs, FM.exec, FM.ev, FM.evs, FM.evo, FM.evc, FM.evi, FM.lk, FM.lks, FM.It.lk, FM.isOw, FM.noOw, FM.Sl.isOw, FM.Sl.d, FM.isiD, FM.cmpD, FM.negD, FM.setAll, FM.bindT, FM.andThen_some', FM.onBl_bl, FM.wthD_some', FM.eqD_int, FM.ix_tup, FM.ix_lst, FM.atI_0, FM.atI_1, FM.atI_2, FM.op_add, FM.op_sub, FM.op_subBl, FM.biD_abs, FM.szle])
theorem IsRt.sm {n r : Int} {k : Nat} (h : IsRt n r) (hs : Sm k n) : Sm k r := by
  obtain ⟨h1, h2, h3⟩ := h
  have a : r ≤ r * r := by
    rcases Int.lt_or_le 0 r with z | z
    · have := Int.mul_le_mul_of_nonneg_left (show 1 ≤ r by omega) h1
      omega
    · have : r = 0 := by omega
      subst this
      decide
  exact Nat.lt_of_le_of_lt (by omega) hs
/-- the exact root of a fraction, or none -/
theorem exact_root_ok {f : Nat} {x : Int × Int} (hr : RootC F f) (hx : Fq 1800 x) (μ : Cells) :
    if x.1 < 0 then runFn F W ⟨1, 3, B_exact_root f⟩ [fD x] μ = some (.non, μ)
    else ∃ r s, IsRt x.1 r ∧ IsRt x.2 s ∧ runFn F W ⟨1, 3, B_exact_root f⟩ [fD x] μ = some (if r * r = x.1 ∧ s * s = x.2 then fD (r, s) else .non, μ) := by
  split
  · rename_i z
    refine run_rt rfl (Nat.le_of_ble_eq_true rfl) (seq_rt ?_)
    walk_at "go"
    simp [z]
  · rename_i z
    obtain ⟨r, r1, r2⟩ := hr x.1 μ (by omega) (hx.1.mono (by decide))
    obtain ⟨s, s1, s2⟩ := hr x.2 μ (by have := hx.2.2.1; omega) (hx.2.1.mono (by decide))
    refine ⟨r, s, r2, s2, run_rt rfl (Nat.le_of_ble_eq_true rfl) (seq_nx (ρ1 := [some (.pl (fD x)), none, none]) (μ1 := μ) ?_ (seq_nx (ρ1 := [some (.pl (fD x)), some (.pl (.int r)), some (.pl (.int s))]) (μ1 := μ) ?_ (seq_rt ?_)))⟩
    · walk_at "go"
      omega
    · walk_at "go"
      simp [r1, s1, andThen_some']
    · have q1 := op_mulB 1800 (r2.sm hx.1) (r2.sm hx.1) (by decide)
      have q2 := op_mulB 1800 (s2.sm hx.2.1) (s2.sm hx.2.1) (by decide)
      walk_at "go"
      by_cases a : r * r = x.1
      · by_cases b : s * s = x.2
        · simp [q1, q2, a, b, andThen_some', wthD_some', eqD_int, onBl_bl, szle]
        · simp [q1, q2, a, b, andThen_some', wthD_some', eqD_int, onBl_bl, szle]
      · simp [q1, q2, a, andThen_some', wthD_some', eqD_int, onBl_bl, szle]
/-- s is the least that reaches -/
def IsUp (n d s : Int) : Prop := 0 ≤ s ∧ n ≤ s * s * d ∧ ∀ t, 0 ≤ t → t < s → t * t * d < n
theorem up_loop {p n d : Int} {x : D} {μ : Cells} (hd : 0 < d) {c : Env → Cells → Option (Bool × Cells)} {b : Env → Cells → Option Res}
    (hc : ∀ f : Int, 0 ≤ f → Sm 1900 f → c [some (.pl x), some (.pl (.int p)), some (.pl (.int n)), some (.pl (.int f))] μ = some (decide (f * f * d < n), μ))
    (hb : ∀ f : Int, b [some (.pl x), some (.pl (.int p)), some (.pl (.int n)), some (.pl (.int f))] μ = some (.nx [some (.pl x), some (.pl (.int p)), some (.pl (.int n)), some (.pl (.int (f + 1)))] μ)) :
    ∀ (m : Nat) (f t : Int), 0 ≤ f → f ≤ t → Sm 1900 t → n ≤ t * t * d → (t - f).toNat < m → (∀ t, 0 ≤ t → t < f → t * t * d < n) → ∃ s : Int, whileF c b m [some (.pl x), some (.pl (.int p)), some (.pl (.int n)), some (.pl (.int f))] μ = some (.nx [some (.pl x), some (.pl (.int p)), some (.pl (.int n)), some (.pl (.int s))] μ) ∧ IsUp n d s ∧ s ≤ t
  | 0, f, t, _, _, _, _, h, _ => by omega
  | m + 1, f, t, h0, h1, h2, h3, h4, h5 => by
    have c1 := hc f h0 (Nat.lt_of_le_of_lt (by omega) h2)
    by_cases z : f * f * d < n
    · rw [decide_eq_true z] at c1
      rw [whileF_nx c1 (hb f)]
      have ne : f ≠ t := fun e => by subst e; omega
      refine up_loop hd hc hb m (f + 1) t (by omega) (by omega) h2 h3 (by omega) (fun u u0 u1 => ?_)
      by_cases e : u = f
      · subst e
        exact z
      · exact h5 u u0 (by omega)
    · rw [decide_eq_false z] at c1
      exact ⟨f, whileF_no c1, ⟨h0, by omega, h5⟩, h1⟩
theorem up_fin {p n d : Int} {x : D} {μ : Cells} (hd : 0 < d) {c : E} {b : Ss}
    (hc : ∀ f : Int, 0 ≤ f → Sm 1900 f → onBl (ev F c [some (.pl x), some (.pl (.int p)), some (.pl (.int n)), some (.pl (.int f))] μ) (fun x μ1 => some (x, μ1)) = some (decide (f * f * d < n), μ))
    (hb : ∀ f : Int, execs F W b [some (.pl x), some (.pl (.int p)), some (.pl (.int n)), some (.pl (.int f))] μ = some (.nx [some (.pl x), some (.pl (.int p)), some (.pl (.int n)), some (.pl (.int (f + 1)))] μ))
    (f t : Int) (h0 : 0 ≤ f) (h1 : f ≤ t) (h2 : Sm 1900 t) (h3 : n ≤ t * t * d) (h5 : ∀ t, 0 ≤ t → t < f → t * t * d < n) : ∃ s : Int, exec F W (.whl c b) [some (.pl x), some (.pl (.int p)), some (.pl (.int n)), some (.pl (.int f))] μ = some (.nx [some (.pl x), some (.pl (.int p)), some (.pl (.int n)), some (.pl (.int s))] μ) ∧ IsUp n d s ∧ s ≤ t := by
  obtain ⟨s, e, u⟩ := up_loop (c := fun ρ' μ' => onBl (ev F c ρ' μ') fun x μ1 => some (x, μ1)) (b := fun ρ' μ' => execs F W b ρ' μ') hd hc hb W f t h0 h1 h2 h3 (by have := smW (h2.mono (k := 4000) (by decide)); omega) h5
  exact ⟨s, whl_of e, u⟩
theorem root_above_ok {f g : Nat} {x : Int × Int} {p : Int} (hr : RootC F f) (hf : FracC F g) (hx : Fq 600 x) (x0 : 0 ≤ x.1) (hp : Sm 600 p) (p0 : 0 < p) (μ : Cells) :
    ∃ s, IsUp (x.1 * p * p) x.2 s ∧ runFn F W ⟨2, 4, B_root_above f g⟩ [fD x, .int p] μ = some (fD (fr s p), μ) := by
  have s1 : Sm 1200 (x.1 * p) := hx.1.mul hp
  have s2 : Sm 1800 (x.1 * p * p) := s1.mul hp
  have n0 : 0 ≤ x.1 * p * p := Int.mul_nonneg (Int.mul_nonneg x0 (by omega)) (by omega)
  have d0 := hx.2.2.1
  have dv : Dv x.2 := Dv.pos d0 hx.2.1 (by decide)
  have q0 : 0 ≤ (x.1 * p * p).fdiv x.2 := Int.fdiv_nonneg n0 (by omega)
  obtain ⟨r, r1, r2⟩ := hr ((x.1 * p * p).fdiv x.2) μ q0 ((s2.fdiv _).mono (by decide))
  obtain ⟨r3, r4, r5⟩ := r2
  have qn : (x.1 * p * p).fdiv x.2 * x.2 ≤ x.1 * p * p := by
    rw [Int.fdiv_eq_ediv_of_nonneg _ (by omega)]
    exact Int.ediv_mul_le _ (by omega)
  have rr : r * r * x.2 ≤ x.1 * p * p := Int.le_trans (Int.mul_le_mul_of_nonneg_right r4 (by omega)) qn
  have low : ∀ t, 0 ≤ t → t < r → t * t * x.2 < x.1 * p * p := fun t t0 t1 => by
    have a : t * t < r * r := by
      have a1 : t * t ≤ t * r := Int.mul_le_mul_of_nonneg_left (by omega) t0
      have a2 : t * r < r * r := Int.mul_lt_mul_of_pos_right t1 (by omega)
      omega
    have := Int.mul_lt_mul_of_pos_right a d0
    omega
  have top : x.1 * p * p ≤ (x.1 * p * p) * (x.1 * p * p) * x.2 := by
    generalize x.1 * p * p = n at *
    rcases Int.lt_or_le 0 n with z | z
    · have a : n * 1 ≤ n * n := Int.mul_le_mul_of_nonneg_left (by omega) (by omega)
      have b : n * n * 1 ≤ n * n * x.2 := Int.mul_le_mul_of_nonneg_left (by omega) (sqn n)
      omega
    · have : n = 0 := by omega
      subst this
      simp
  have rle : r ≤ x.1 * p * p := by
    have a : r ≤ r * r := by
      rcases Int.lt_or_le 0 r with z | z
      · have := Int.mul_le_mul_of_nonneg_left (show 1 ≤ r by omega) r3
        omega
      · have : r = 0 := by omega
        subst this
        decide
    have b : r * r * 1 ≤ r * r * x.2 := Int.mul_le_mul_of_nonneg_left (by omega) (sqn r)
    omega
  obtain ⟨s, e1, e2, e3⟩ := up_fin (F := F) (μ := μ) (p := p) (n := x.1 * p * p) (x := fD x) (c := (.cmp .Lt (.op .Mult (.op .Mult (.var 3) (.var 3)) (.ix (.var 0) (.int 1))) (.var 2))) (b := .cons (.aug 3 .Add (.int 1)) .nil) d0 (fun f f0 hf => by
    walk_at "go"
    simp [op_mulB 1900 hf hf, op_mul (hf.mul hf) hx.2.1, wthD_some', andThen_some', cmpD, onBl_bl]) (fun f => by walk_at "go") r (x.1 * p * p) r3 rle (s2.mono (by decide)) top low
  refine ⟨s, e2, run_rt rfl (Nat.le_of_ble_eq_true rfl) (seq_nx (ρ1 := [some (.pl (fD x)), some (.pl (.int p)), some (.pl (.int (x.1 * p * p))), none]) (μ1 := μ) ?_ (seq_nx (ρ1 := [some (.pl (fD x)), some (.pl (.int p)), some (.pl (.int (x.1 * p * p))), some (.pl (.int r))]) (μ1 := μ) ?_ (seq_nx e1 (seq_rt ?_))))⟩
  · walk_at "go"
    simp [op_mul hx.1 hp, op_mul s1 hp, wthD_some', andThen_some']
  · walk_at "go"
    simp [op_div _ dv, wthD_some', andThen_some', r1]
  · walk_at "go"
    simp [hf s p μ ⟨hp.mono (by decide), .inl p0⟩, andThen_some']
/-! ### sums of lists -/
theorem sum3_ok {f : Nat} {x y z s1 s2 s3 : D} {μ : Cells} (h1 : F f [fD (0, 1), x] μ = some (s1, μ)) (h2 : F f [s1, y] μ = some (s2, μ)) (h3 : F f [s2, z] μ = some (s3, μ)) : runFn F W ⟨1, 3, B_sum_of f⟩ [.lst [x, y, z]] μ = some (s3, μ) := by
  refine run_rt rfl (Nat.le_of_ble_eq_true rfl) ?_
  unfold B_sum_of
  walk_at "go"
  simp [forF, bindT, h1, h2, h3, andThen_some']
end
end FM

set_option Elab.async false
set_option linter.all false
set_option maxRecDepth 100000
set_option maxHeartbeats 4000000
/-! M4: the draws, alike. -/
namespace FM
open PySem (Str sizeLine)
open L2 (atI ixN Key)
open PySem.Spec PyProof.Rows
section
variable {F : Fs} {j k : Nat}
local macro_rules | `(tactic| walk_at "go") => `(tactic| simp [FM.runFn, FM.FD.fn, FM.execs, FM.exec, FM.ev, FM.evs, FM.evo, FM.evc, FM.evi, FM.lk, FM.lks, FM.It.lk, FM.isOw, FM.noOw, FM.Sl.isOw, FM.Sl.d, FM.isiD, FM.cmpD, FM.negD, FM.setAll, FM.bindT, FM.andThen_some', FM.onBl_bl, FM.wthD_some', FM.eqD_int, FM.ix_tup, FM.ix_lst, FM.atI_0, FM.atI_1, FM.atI_2, FM.op_add, FM.op_sub, FM.op_subBl, FM.biD_abs, FM.szle])
/-- the law's cell -/
def cw (is : List Int) (k : Int) : Cell := [(.inr "draws", .lst (is.map D.int)), (.inr "at", .int k)]
theorem cw_draws (is : List Int) (k : Int) : valC (cw is k) (.inr "draws") = some (.lst (is.map D.int)) := by
  unfold valC cw
  rfl
theorem cw_at (is : List Int) (k : Int) : valC (cw is k) (.inr "at") = some (.int k) := by
  have : ((Sum.inr ("draws" : Str) : Key) = Sum.inr ("at" : Str)) = False := by simp; decide
  unfold valC cw
  simp [this]
theorem cw_put (is : List Int) (k i : Int) : putC (cw is k) (.inr "at") (.int i) = cw is i := by
  have : ((Sum.inr ("draws" : Str) : Key) = Sum.inr ("at" : Str)) = False := by simp; decide
  unfold putC cw
  simp [this]
theorem atI_int {is : List Int} {k : Int} (h0 : 0 ≤ k) (h1 : k < is.length) : ∃ i : Int, atI (is.map D.int) k = some (.int i) := by
  have e : k.toNat < is.length := by omega
  refine ⟨is[k.toNat], ?_⟩
  unfold atI ixN
  simp
  rw [if_pos h0, if_pos h1]
  simp [e]
theorem next_ok (is : List Int) (k many : Int) (h : 0 < many) (hk : 0 ≤ k) (μ : Cells) : ∃ r : Int, 0 ≤ r ∧ r < many ∧ runFn F W ⟨2, 2, B__law_next⟩ [.cell 0, .int many] (cw is k :: μ) = some (.int r, cw is (k + 1) :: μ) := by
  by_cases z : (is.length : Int) < k + 1
  · refine ⟨0, Int.le_refl _, h, run_rt rfl (Nat.le_of_ble_eq_true rfl) (seq_nx (ρ1 := [some (.pl (.cell 0)), some (.pl (.int many))]) (μ1 := cw is (k + 1) :: μ) ?_ (seq_rt ?_))⟩
    · have : (cw is k).length < sizeLine := Nat.lt_of_lt_of_le (show 2 < 16777216 by decide) (by decide)
      walk_at "go"
      simp [keyD, cw_at, cw_put, this]
    · walk_at "go"
      simp [ixD, keyD, cw_at, cw_draws, wthD_some', andThen_some', biD, cmpD, onBl_bl, z]
  · obtain ⟨i, hi⟩ := atI_int (is := is) (k := k) hk (by omega)
    refine ⟨i.fmod many, Int.fmod_nonneg_of_pos i h, Int.fmod_lt_of_pos i h, run_rt rfl (Nat.le_of_ble_eq_true rfl) (seq_nx (ρ1 := [some (.pl (.cell 0)), some (.pl (.int many))]) (μ1 := cw is (k + 1) :: μ) ?_ (seq_nx (ρ1 := [some (.pl (.cell 0)), some (.pl (.int many))]) (μ1 := cw is (k + 1) :: μ) ?_ (seq_rt ?_)))⟩
    · have : (cw is k).length < sizeLine := Nat.lt_of_lt_of_le (show 2 < 16777216 by decide) (by decide)
      walk_at "go"
      simp [keyD, cw_at, cw_put, this]
    · walk_at "go"
      simp [ixD, keyD, cw_at, cw_draws, wthD_some', andThen_some', biD, cmpD, onBl_bl, z]
    · have e : k + 1 - 1 = k := by omega
      walk_at "go"
      simp [ixD, keyD, cw_at, cw_draws, wthD_some', andThen_some', biD, cmpD, onBl_bl, op_sub, e, hi, op_mod i (show many ≠ 0 by omega)]
/-! ### alike -/
def LikeC (F : Fs) (f : Nat) (d : D) : Prop := ∀ μ, F f [d, d] μ = some (.bl true, μ)
theorem alike_scal {f : Nat} {d : D} (h : d.scal = true) (μ : Cells) : runFn F W ⟨2, 3, B__law_alike f⟩ [d, d] μ = some (.bl true, μ) := by
  refine run_rt rfl (Nat.le_of_ble_eq_true rfl) ?_
  unfold B__law_alike
  cases d <;> first
    | (cases h; done)
    | (walk_at "go"; simp [isNon, eqD, scalOk, eqS, D.scal, onBl_bl, wthD_some', andThen_some', h])
theorem alike_go {f : Nat} {ds es : List D} {μ : Cells} {ρ : Env} (n : Nat) (c : Env → Cells → Option (Bool × Cells)) (g : Env → Cells → Option (D × Cells)) (hc : ∀ k : Nat, k < n → ∃ ρ1, bindT (.nm 2) (.int k) ρ = some ρ1 ∧ c ρ1 μ = some (false, μ)) :
    ∀ (l : List Nat), (∀ k ∈ l, k < n) → lcGo (.nm 2) c g ρ (l.map fun (k : Nat) => D.int (0 + k)) μ = some ([], μ)
  | [], _ => rfl
  | k :: l, h => by
    obtain ⟨ρ1, e1, e2⟩ := hc k (h k (by simp))
    have ih := alike_go n c g hc l (fun k hk => h k (by simp [hk])) (f := f) (ds := ds) (es := es)
    show lcGo (.nm 2) c g ρ (D.int (0 + k) :: l.map fun (k : Nat) => D.int (0 + k)) μ = _
    unfold lcGo
    rw [Int.zero_add, e1]
    simp only
    rw [e2]
    exact ih
theorem ev_lc {elt : E} {tg : Tg} {it : It} {cond : EO} {ρ : Env} {μ μ1 μ2 : Cells} {xs ys : List D} (h1 : evi F it ρ μ = some (xs, μ1)) (hl : xs.length ≤ 16777216) (h2 : lcGo tg (fun ρ' μ' => evc F cond ρ' μ') (fun ρ' μ' => if lk ρ' elt then none else ev F elt ρ' μ') ρ xs μ1 = some (ys, μ2)) : ev F (.lc elt tg it cond) ρ μ = some (.lst ys, μ2) := by
  unfold ev
  rw [h1]
  show (if xs.length ≤ 16777216 then _ else _) = _
  rw [if_pos hl, h2]
  rfl
theorem ifs_t {c : E} {a b : Ss} {ρ : Env} {μ μ1 : Cells} {r : Option Res} (h : ev F c ρ μ = some (.bl true, μ1)) (g : execs F W a ρ μ1 = r) : exec F W (.ifs c a b) ρ μ = r := by
  unfold exec
  rw [h]
  exact g
theorem ifs_f {c : E} {a b : Ss} {ρ : Env} {μ μ1 : Cells} {r : Option Res} (h : ev F c ρ μ = some (.bl false, μ1)) (g : execs F W b ρ μ1 = r) : exec F W (.ifs c a b) ρ μ = r := by
  unfold exec
  rw [h]
  exact g
theorem ret_of {e : E} {ρ : Env} {μ μ1 : Cells} {d : D} (h : lk ρ e = false) (g : ev F e ρ μ = some (d, μ1)) : exec F W (.ret e) ρ μ = some (.rt d μ1) := by
  unfold exec
  rw [h, g]
  rfl
theorem cmp_of {o : PySem.CmpOp} {a b : E} {ρ : Env} {μ μ1 μ2 : Cells} {x y : D} {t : Bool} (h : ev F a ρ μ = some (x, μ1)) (g : ev F b ρ μ1 = some (y, μ2)) (e : cmpD o x y = some t) : ev F (.cmp o a b) ρ μ = some (.bl t, μ2) := by
  unfold ev
  rw [h]
  show andThen (ev F b ρ μ1) _ = _
  rw [g]
  show wthD ((cmpD o x y).map D.bl) μ2 = _
  rw [e]
  rfl
theorem len_tup (μ : Cells) (ds : List D) : biD μ .len [.tup ds] = some (.int ds.length) := rfl
theorem len_lst (μ : Cells) (ds : List D) : biD μ .len [.lst ds] = some (.int ds.length) := rfl
theorem evi_rng {ρ : Env} {e : E} {n : Nat} {μ μ1 : Cells} (h : ev F e ρ μ = some (.int n, μ1)) (hn : n ≤ 16777216) : evi F (.rng1 e) ρ μ = some (rngD 0 n, μ1) := by
  have t : rngOk n = true := by
    unfold rngOk
    rw [Bool.and_eq_true, decide_eq_true_eq, decide_eq_true_eq]
    omega
  unfold evi
  rw [h, andThen_some']
  simp only [t, if_true, Int.toNat_natCast]
theorem rng_len (lo : Int) (n : Nat) : (rngD lo n).length = n := by
  unfold rngD
  simp
theorem atI_nat {α : Type} {l : List α} {k : Nat} (h : k < l.length) : atI l (k : Int) = some l[k] := by
  unfold atI ixN
  simp [h]
theorem alike_tup {f : Nat} {ds : List D} (hl : ds.length ≤ 1000) (h : ∀ d ∈ ds, LikeC F f d) (μ : Cells) : runFn F W ⟨2, 3, B__law_alike f⟩ [.tup ds, .tup ds] μ = some (.bl true, μ) := by
  refine run_rt rfl (Nat.le_of_ble_eq_true rfl) (seq_rt (ifs_t (μ1 := μ) ?_ (seq_nx (ρ1 := [some (.pl (.tup ds)), some (.pl (.tup ds)), none]) (μ1 := μ) (ifs_f (μ1 := μ) ?_ ?_) (seq_rt (ret_of rfl (cmp_of (x := .lst []) (y := .lst []) (ev_lc (xs := rngD 0 ds.length) (μ1 := μ) (evi_rng ?_ (by omega)) (by rw [rng_len]; omega) (alike_go ds.length _ _ (fun k hk => ⟨[some (.pl (.tup ds)), some (.pl (.tup ds)), some (.pl (.int k))], rfl, ?_⟩) _ (fun k hk => List.mem_range.mp hk) (f := f) (ds := ds) (es := ds))) ?_ ?_))))))
  · walk_at "go"
  · walk_at "go"
    simp [len_tup, andThen_some', eqD_int, wthD_some', onBl_bl]
  · walk_at "go"
  · walk_at "go"
    simp [len_tup, andThen_some', eqD_int, wthD_some', onBl_bl]
  · have e := h ds[k] (List.getElem_mem hk) μ
    walk_at "go"
    simp [atI_nat hk, andThen_some', wthD_some', onBl_bl, e]
  · walk_at "go"
  · rfl
end
end FM

set_option Elab.async false
set_option linter.all false
set_option maxRecDepth 100000
set_option maxHeartbeats 4000000
/-! M5: the draws. -/
namespace FM
open PySem (Str sizeLine)
open L2 (atI ixN Key)
open PySem.Spec PyProof.Rows
section
variable {F : Fs} {j k : Nat}
local macro_rules | `(tactic| walk_at "go") => `(tactic| simp [FM.runFn, FM.FD.fn, FM.execs, FM.exec, FM.ev, FM.evs, FM.evo, FM.evc, FM.evi, FM.lk, FM.lks, FM.It.lk, FM.isOw, FM.noOw, FM.Sl.isOw, FM.Sl.d, FM.isiD, FM.cmpD, FM.negD, FM.setAll, FM.bindT, FM.andThen_some', FM.onBl_bl, FM.wthD_some', FM.eqD_int, FM.ix_tup, FM.ix_lst, FM.atI_0, FM.atI_1, FM.atI_2, FM.op_add, FM.op_sub, FM.op_subBl, FM.biD_abs, FM.szle])
theorem forF_inv (I : List D → Env → Cells → Prop) {tg : Tg} {b : Env → Cells → Option Res}
    (h : ∀ x ys ρ μ, I (x :: ys) ρ μ → ∃ ρ1 ρ2 μ2, bindT tg x ρ = some ρ1 ∧ b ρ1 μ = some (.nx ρ2 μ2) ∧ I ys ρ2 μ2) :
    ∀ (xs : List D) (ρ : Env) (μ : Cells), I xs ρ μ → ∃ ρ' μ', forF tg b xs ρ μ = some (.nx ρ' μ') ∧ I [] ρ' μ'
  | [], ρ, μ, g => ⟨ρ, μ, rfl, g⟩
  | x :: xs, ρ, μ, g => by
    obtain ⟨ρ1, ρ2, μ2, e1, e2, g2⟩ := h x xs ρ μ g
    obtain ⟨ρ', μ', e3, g3⟩ := forF_inv I h xs ρ2 μ2 g2
    refine ⟨ρ', μ', ?_, g3⟩
    unfold forF
    rw [e1]
    simp only
    rw [e2]
    exact e3
/-- whole numbers from a to b -/
def Ints (a b : Int) (xs : List D) : Prop := ∀ x ∈ xs, ∃ i : Int, x = .int i ∧ a ≤ i ∧ i < b
theorem Ints.head {a b : Int} {x : D} {xs : List D} (h : Ints a b (x :: xs)) : ∃ i : Int, x = .int i ∧ a ≤ i ∧ i < b := h x (by simp)
theorem Ints.tail {a b : Int} {x : D} {xs : List D} (h : Ints a b (x :: xs)) : Ints a b xs := fun y hy => h y (by simp [hy])
theorem ints_rng (n : Nat) : Ints 0 n (rngD 0 n) := fun x hx => by
  unfold rngD at hx
  obtain ⟨k, hk, rfl⟩ := List.mem_map.mp hx
  have := List.mem_range.mp hk
  exact ⟨_, rfl, by omega, by omega⟩
/-- a place without an owned list -/
abbrev pE (s : List D) (m : Int) (is : List Int) (mx : Int) (o4 o5 o6 o7 : Option D) : Env := [some (.pl (.lst s)), some (.pl (.int m)), some (.ow (is.map D.int)), some (.pl (.int mx)), o4.map .pl, o5.map .pl, o6.map .pl, o7.map .pl]
theorem pow1018 : opD .Pow (.int 10) (.int 18) = some (.int 1000000000000000000) := by rfl
theorem bi_int (μ : Cells) (i : Int) : biD μ .int [.int i] = some (.int i) := rfl
theorem app_ow {is : List Int} {i : Int} : is.map D.int ++ [D.int i] = (is ++ [i]).map D.int := by simp
def MxI (mx : Int) : Prop := 0 ≤ mx ∧ mx < 65537
theorem MxI.sm {mx : Int} (h : MxI mx) : Sm 17 mx := by
  unfold Sm
  obtain ⟨h1, h2⟩ := h
  have : (65537 : Nat) < 2 ^ 17 := by decide
  omega
theorem MxI.mod (i : Int) : MxI (i.fmod 65537) := ⟨Int.fmod_nonneg_of_pos i (by decide), Int.fmod_lt_of_pos i (by decide)⟩
theorem sz_lt {n : Nat} (h : n < 100000) : n < sizeLine := Nat.lt_of_lt_of_le h (by decide)
def bIn : Ss := (.cons (.ifs (.cmp .Gt (.var 6) (.int 0)) (.cons (.app 2 (.op .Mod (.bi .int (.cons (.var 6) .nil)) (.int 997))) (.cons (.asg 6 (.op .FloorDiv (.var 6) (.int 997))) .nil)) .nil) .nil)
theorem in_step {s : List D} {m mx rest i : Int} {is : List Int} {o4 o5 o7 : Option D} {μ : Cells} (hl : is.length < 100000) : ∃ is' rest', is'.length ≤ is.length + 1 ∧ execs F W bIn (pE s m is mx o4 o5 (some (.int rest)) (some (.int i))) μ = some (.nx (pE s m is' mx o4 o5 (some (.int rest')) (some (.int i))) μ) := by
  have d : Dv 997 := .inl (by decide)
  have n : (997 : Int) ≠ 0 := by decide
  by_cases z : 0 < rest
  · refine ⟨is ++ [rest.fmod 997], rest.fdiv 997, by simp, seq_nx (ifs_t (μ1 := μ) ?_ (seq_nx (ρ1 := pE s m (is ++ [rest.fmod 997]) mx o4 o5 (some (.int rest)) (some (.int i))) (μ1 := μ) ?_ (seq_nx ?_ rfl))) rfl⟩
    · walk_at "go"
      exact z
    · walk_at "go"
      simp [bi_int, op_mod _ n, andThen_some', wthD_some', sz_lt hl]
    · walk_at "go"
      simp [op_div _ d, andThen_some', wthD_some']
  · refine ⟨is, rest, by omega, seq_nx (ifs_f (μ1 := μ) ?_ rfl) rfl⟩
    walk_at "go"
    omega
def bOut : Ss := (.cons (.asg 5 (.bi .abs (.cons (.bi .int (.cons (.ix (.var 0) (.var 4)) .nil)) .nil))) (.cons (.asg 3 (.op .Mod (.bi .int (.cons (.op .Add (.op .Add (.op .Mult (.var 3) (.int 48271)) (.op .Mod (.var 5) (.int 1000003))) (.var 4)) .nil)) (.int 65537))) (.cons (.asg 6 (.int 0)) (.cons (.ifs (.cmp .GtE (.var 5) (.op .Pow (.int 10) (.int 18))) (.cons (.asg 6 (.var 5)) .nil) (.cons (.app 2 (.op .Mod (.bi .int (.cons (.var 5) .nil)) (.int 997))) (.cons (.app 2 (.op .Mod (.op .Mod (.bi .int (.cons (.op .Add (.op .Mult (.var 3) (.int 69621)) (.int 5)) .nil)) (.int 65521)) (.int 997))) .nil))) (.cons (.for_ (.nm 7) (.rng1 (.int 60)) bIn) .nil)))))
theorem in_loop {s : List D} {m mx : Int} {o4 o5 : Option D} {μ : Cells} (N : Nat) (xs : List D) (rest : Int) (is : List Int) (o7 : Option D) (hl : is.length + xs.length ≤ N) (hN : N < 100000) (hx : Ints 0 60 xs) :
    ∃ is' rest' o7', is'.length ≤ N ∧ forF (.nm 7) (fun ρ' μ' => execs F W bIn ρ' μ') xs (pE s m is mx o4 o5 (some (.int rest)) o7) μ = some (.nx (pE s m is' mx o4 o5 (some (.int rest')) o7') μ) := by
  obtain ⟨ρ', μ', e1, e2⟩ := forF_inv (fun ys ρ μ1 => μ1 = μ ∧ Ints 0 60 ys ∧ ∃ is' rest' o7', ρ = pE s m is' mx o4 o5 (some (.int rest')) o7' ∧ is'.length + ys.length ≤ N) (tg := .nm 7) (b := fun ρ' μ' => execs F W bIn ρ' μ') (fun x ys ρ μ1 h => by
    obtain ⟨rfl, h1, is', rest', o7', rfl, h2⟩ := h
    obtain ⟨i, rfl, _⟩ := h1.head
    rw [List.length_cons] at h2
    obtain ⟨is2, r2, l2, e2⟩ := in_step (F := F) (s := s) (m := m) (mx := mx) (rest := rest') (i := i) (is := is') (o4 := o4) (o5 := o5) (o7 := o7') (μ := μ1) (by omega)
    exact ⟨_, _, _, rfl, e2, rfl, h1.tail, is2, r2, _, rfl, by omega⟩) xs _ μ ⟨rfl, hx, is, rest, o7, rfl, hl⟩
  obtain ⟨rfl, _, is', rest', o7', rfl, h2⟩ := e2
  exact ⟨is', rest', o7', h2, e1⟩
theorem out_step {ns : List Int} {m mx i : Int} {is : List Int} {o5 o6 o7 : Option D} {μ : Cells} (hm : MxI mx) (hl : is.length < 90000) (hi : 0 ≤ i) (hn : i < ns.length) :
    ∃ is' mx' o5' o6' o7', is'.length ≤ is.length + 62 ∧ MxI mx' ∧ execs F W bOut (pE (ns.map D.int) m is mx (some (.int i)) o5 o6 o7) μ = some (.nx (pE (ns.map D.int) m is' mx' (some (.int i)) o5' o6' o7') μ) := by
  obtain ⟨c, hc⟩ := atI_int (is := ns) (k := i) hi hn
  have n1 : (997 : Int) ≠ 0 := by decide
  have n2 : (65537 : Int) ≠ 0 := by decide
  have n3 : (1000003 : Int) ≠ 0 := by decide
  have n4 : (65521 : Int) ≠ 0 := by decide
  have s1 : Sm 17 (48271 : Int) := by unfold Sm; decide
  have s2 : Sm 17 (69621 : Int) := by unfold Sm; decide
  have p1 := op_mul hm.sm s1 (by decide)
  let mx1 : Int := (mx * 48271 + (c.natAbs : Int).fmod 1000003 + i).fmod 65537
  have hm1 : MxI mx1 := MxI.mod _
  have p2 := op_mul hm1.sm s2 (by decide)
  have e1 : exec F W (.asg 5 (.bi .abs (.cons (.bi .int (.cons (.ix (.var 0) (.var 4)) .nil)) .nil))) (pE (ns.map D.int) m is mx (some (.int i)) o5 o6 o7) μ = some (.nx (pE (ns.map D.int) m is mx (some (.int i)) (some (.int c.natAbs)) o6 o7) μ) := by
    cases o5 <;>
    · walk_at "go"
      simp [hc, wthD_some', andThen_some', bi_int, biD_abs]
  have e2 : exec F W (.asg 3 (.op .Mod (.bi .int (.cons (.op .Add (.op .Add (.op .Mult (.var 3) (.int 48271)) (.op .Mod (.var 5) (.int 1000003))) (.var 4)) .nil)) (.int 65537))) (pE (ns.map D.int) m is mx (some (.int i)) (some (.int c.natAbs)) o6 o7) μ = some (.nx (pE (ns.map D.int) m is mx1 (some (.int i)) (some (.int c.natAbs)) o6 o7) μ) := by
    walk_at "go"
    simp [p1, op_mod _ n3, op_add, wthD_some', andThen_some', bi_int, op_mod _ n2, mx1]
  have e3 : exec F W (.asg 6 (.int 0)) (pE (ns.map D.int) m is mx1 (some (.int i)) (some (.int c.natAbs)) o6 o7) μ = some (.nx (pE (ns.map D.int) m is mx1 (some (.int i)) (some (.int c.natAbs)) (some (.int 0)) o7) μ) := by
    cases o6 <;> walk_at "go"
  have e4 : ∃ is1 r1, is1.length ≤ is.length + 2 ∧ exec F W (.ifs (.cmp .GtE (.var 5) (.op .Pow (.int 10) (.int 18))) (.cons (.asg 6 (.var 5)) .nil) (.cons (.app 2 (.op .Mod (.bi .int (.cons (.var 5) .nil)) (.int 997))) (.cons (.app 2 (.op .Mod (.op .Mod (.bi .int (.cons (.op .Add (.op .Mult (.var 3) (.int 69621)) (.int 5)) .nil)) (.int 65521)) (.int 997))) .nil))) (pE (ns.map D.int) m is mx1 (some (.int i)) (some (.int c.natAbs)) (some (.int 0)) o7) μ = some (.nx (pE (ns.map D.int) m is1 mx1 (some (.int i)) (some (.int c.natAbs)) (some (.int r1)) o7) μ) := by
    by_cases z : 1000000000000000000 ≤ (c.natAbs : Int)
    · refine ⟨is, c.natAbs, by omega, ifs_t (μ1 := μ) ?_ ?_⟩
      · walk_at "go"
        simp [pow1018, wthD_some', andThen_some', cmpD]
        omega
      · walk_at "go"
    · refine ⟨is ++ [(c.natAbs : Int).fmod 997] ++ [((mx1 * 69621 + 5).fmod 65521).fmod 997], 0, by simp, ifs_f (μ1 := μ) ?_ (seq_nx (ρ1 := pE (ns.map D.int) m (is ++ [(c.natAbs : Int).fmod 997]) mx1 (some (.int i)) (some (.int c.natAbs)) (some (.int 0)) o7) (μ1 := μ) ?_ (seq_nx ?_ rfl))⟩
      · walk_at "go"
        simp [pow1018, wthD_some', andThen_some', cmpD]
        omega
      · walk_at "go"
        simp [bi_int, op_mod _ n1, andThen_some', wthD_some', sz_lt (n := is.length) (by omega)]
      · have l : (is ++ [(c.natAbs : Int).fmod 997]).length < sizeLine := sz_lt (by simp; omega)
        simp at l
        walk_at "go"
        simp [p2, bi_int, op_mod _ n1, op_mod _ n4, op_add, andThen_some', wthD_some', l]
  obtain ⟨is1, r1, l1, e4⟩ := e4
  obtain ⟨is2, r2, o7', l2, e5⟩ := in_loop (F := F) (s := ns.map D.int) (m := m) (mx := mx1) (o4 := some (.int i)) (o5 := some (.int c.natAbs)) (μ := μ) (is.length + 62) (rngD 0 60) r1 is1 o7 (by rw [rng_len]; omega) (by omega) (ints_rng 60)
  refine ⟨is2, mx1, _, _, o7', l2, hm1, seq_nx e1 (seq_nx e2 (seq_nx e3 (seq_nx e4 (seq_nx (for_of ?_ rfl e5) rfl))))⟩
  exact evi_rng (n := 60) rfl (by decide)
def bLast : Ss := (.cons (.asg 3 (.op .Mod (.bi .int (.cons (.op .Add (.op .Add (.op .Mult (.var 3) (.int 16807)) (.var 4)) (.int 1)) .nil)) (.int 65537))) (.cons (.app 2 (.op .Mod (.bi .int (.cons (.var 3) .nil)) (.int 997))) .nil))
theorem last_step {s : List D} {m mx i : Int} {is : List Int} {o5 o6 o7 : Option D} {μ : Cells} (hm : MxI mx) (hl : is.length < 90000) :
    ∃ is' mx', is'.length ≤ is.length + 1 ∧ MxI mx' ∧ execs F W bLast (pE s m is mx (some (.int i)) o5 o6 o7) μ = some (.nx (pE s m is' mx' (some (.int i)) o5 o6 o7) μ) := by
  have n1 : (997 : Int) ≠ 0 := by decide
  have n2 : (65537 : Int) ≠ 0 := by decide
  have s1 : Sm 17 (16807 : Int) := by unfold Sm; decide
  have p1 := op_mul hm.sm s1 (by decide)
  refine ⟨is ++ [((mx * 16807 + i + 1).fmod 65537).fmod 997], (mx * 16807 + i + 1).fmod 65537, by simp, MxI.mod _, seq_nx (ρ1 := pE s m is ((mx * 16807 + i + 1).fmod 65537) (some (.int i)) o5 o6 o7) (μ1 := μ) ?_ (seq_nx ?_ rfl)⟩
  · walk_at "go"
    simp [p1, op_add, wthD_some', andThen_some', bi_int, op_mod _ n2]
  · walk_at "go"
    simp [bi_int, op_mod _ n1, andThen_some', wthD_some', sz_lt (n := is.length) (by omega)]
theorem draws_ok (ns : List Int) (hn : ns.length ≤ 63) (many : Nat) (h : many ≤ 1000) (μ : Cells) : ∃ is : List Int, runFn F W ⟨2, 8, B__law_draws⟩ [.lst (ns.map D.int), .int many] μ = some (.lst (is.map D.int), μ) := by
  obtain ⟨ρ1, μ1, e1, e2⟩ := forF_inv (fun ys ρ μ1 => μ1 = μ ∧ Ints 0 ns.length ys ∧ ∃ is mx o4 o5 o6 o7, ρ = pE (ns.map D.int) many is mx o4 o5 o6 o7 ∧ MxI mx ∧ is.length + ys.length * 62 ≤ 63 * 62) (tg := .nm 4) (b := fun ρ' μ' => execs F W bOut ρ' μ') (fun x ys ρ μ1 h => by
    obtain ⟨rfl, h1, is, mx, o4, o5, o6, o7, rfl, hm, h2⟩ := h
    obtain ⟨i, rfl, h3, h4⟩ := h1.head
    rw [List.length_cons] at h2
    obtain ⟨is', mx', o5', o6', o7', l, hm', e⟩ := out_step (F := F) (ns := ns) (m := many) (mx := mx) (i := i) (is := is) (o5 := o5) (o6 := o6) (o7 := o7) (μ := μ1) hm (by omega) h3 h4
    exact ⟨_, _, _, rfl, e, rfl, h1.tail, is', mx', _, _, _, _, rfl, hm', by omega⟩) (rngD 0 ns.length) (pE (ns.map D.int) many [] 7 none none none none) μ ⟨rfl, ints_rng _, [], 7, none, none, none, none, rfl, ⟨by decide, by decide⟩, by rw [rng_len]; simp; omega⟩
  obtain ⟨rfl, _, is, mx, o4, o5, o6, o7, rfl, hm, hl⟩ := e2
  obtain ⟨ρ2, μ2, e3, e4⟩ := forF_inv (fun ys ρ μ2 => μ2 = μ1 ∧ Ints 0 many ys ∧ ∃ is mx o4 o5 o6 o7, ρ = pE (ns.map D.int) many is mx o4 o5 o6 o7 ∧ MxI mx ∧ is.length + ys.length ≤ 63 * 62 + 1000) (tg := .nm 4) (b := fun ρ' μ' => execs F W bLast ρ' μ') (fun x ys ρ μ1 h => by
    obtain ⟨rfl, h1, is, mx, o4, o5, o6, o7, rfl, hm, h2⟩ := h
    obtain ⟨i, rfl, h3, h4⟩ := h1.head
    rw [List.length_cons] at h2
    obtain ⟨is', mx', l, hm', e⟩ := last_step (F := F) (s := ns.map D.int) (m := many) (mx := mx) (i := i) (is := is) (o5 := o5) (o6 := o6) (o7 := o7) (μ := μ1) hm (by omega)
    exact ⟨_, _, _, rfl, e, rfl, h1.tail, is', mx', _, _, _, _, rfl, hm', by omega⟩) (rngD 0 many) _ μ1 ⟨rfl, ints_rng _, is, mx, o4, o5, o6, o7, rfl, hm, by rw [rng_len]; simp at hl; omega⟩
  obtain ⟨rfl, _, is2, mx2, p4, p5, p6, p7, rfl, hm2, hl2⟩ := e4
  refine ⟨cutD is2 none (some many), run_rt rfl (Nat.le_of_ble_eq_true rfl) (seq_nx (ρ1 := [some (.pl (.lst (ns.map D.int))), some (.pl (.int many)), some (.ow []), none, none, none, none, none]) (μ1 := μ2) rfl (seq_nx (ρ1 := pE (ns.map D.int) many [] 7 none none none none) (μ1 := μ2) rfl (seq_nx (for_of (evi_rng (n := ns.length) ?_ (by omega)) rfl e1) (seq_nx (for_of (evi_rng (n := many) rfl (by omega)) rfl e3) (seq_rt ?_)))))⟩
  · walk_at "go"
    simp [len_lst, wthD_some']
  · walk_at "go"
    simp [slD, cutD, andThen_some', wthD_some', List.map_drop, List.map_take]
end
end FM

set_option Elab.async false
set_option linter.all false
set_option maxRecDepth 100000
set_option maxHeartbeats 4000000
/-! M6: places that own nothing; alike at any depth; comprehensions over ranges. -/
namespace FM
open PySem (Str sizeLine)
open L2 (atI ixN Key)
open PySem.Spec PyProof.Rows
/-- an environment that owns nothing -/
def pl (ds : List (Option D)) : Env := ds.map (Option.map Sl.pl)
theorem pl_get (ds : List (Option D)) (i : Nat) : (pl ds)[i]? = (ds[i]?).map (Option.map Sl.pl) := by
  unfold pl
  rw [List.getElem?_map]
theorem pl_set (ds : List (Option D)) (i : Nat) (d : D) : (pl ds).set i (some (.pl d)) = pl (ds.set i (some d)) := by
  unfold pl
  rw [List.map_set]
  rfl
theorem isOw_pl (ds : List (Option D)) (i : Nat) : isOw (pl ds) i = false := by
  unfold isOw
  rw [pl_get]
  cases ds[i]? with
  | none => rfl
  | some o => cases o <;> rfl
theorem noOw_pl (ds : List (Option D)) : ∀ is : List Nat, noOw (pl ds) is = true
  | [] => rfl
  | i :: is => by
    unfold noOw
    rw [isOw_pl, noOw_pl ds is]
    rfl
theorem lk_pl (ds : List (Option D)) : ∀ e : E, lk (pl ds) e = false
  | .var i => by unfold lk; exact isOw_pl ds i
  | .ife c a b => by unfold lk; rw [lk_pl ds a, lk_pl ds b]; rfl
  | .int _ | .bl _ | .non | .str _ | .op .. | .neg _ | .cmp .. | .chn .. | .and .. | .or .. | .not _ | .tup _ | .lst _ | .ix .. | .sl .. | .call .. | .callB .. | .bi .. | .isi .. | .me .. | .lc .. | .dict .. => by unfold lk; rfl
theorem lks_pl (ds : List (Option D)) : ∀ es : Es, lks (pl ds) es = false
  | .nil => rfl
  | .cons e es => by unfold lks; rw [lk_pl, lks_pl ds es]; rfl
theorem itlk_pl (ds : List (Option D)) (it : It) : it.lk (pl ds) = false := by
  cases it <;> first | rfl | (unfold It.lk; exact lk_pl ds _)
theorem start_pl (ds : List D) (n : Nat) : ds.map (fun d => some (Sl.pl d)) ++ List.replicate n none = pl (ds.map some ++ List.replicate n none) := by
  unfold pl
  simp
def setAllD : List Nat → List D → List (Option D) → List (Option D)
  | i :: is, d :: ds, ρ => setAllD is ds (ρ.set i (some d))
  | _, _, ρ => ρ
theorem setAll_pl : ∀ (is : List Nat) (xs : List D) (ds : List (Option D)), setAll is xs (pl ds) = pl (setAllD is xs ds)
  | [], xs, ds => by cases xs <;> rfl
  | i :: is, [], ds => rfl
  | i :: is, x :: xs, ds => by
    unfold setAll setAllD
    rw [pl_set]
    exact setAll_pl is xs _
/-! ### data that are alike to themselves -/
def dep : Nat → D → Bool
  | _, .non => true
  | _, .bl _ => true
  | _, .int _ => true
  | _, .str _ => true
  | n + 1, .tup ds => decide (ds.length ≤ 1000) && ds.all (dep n)
  | _, _ => false
theorem like_dep {f : Nat} {G : Nat → Fs} (hG : ∀ n ds μ, G (n + 1) f ds μ = runFn (G n) W ⟨2, 3, B__law_alike f⟩ ds μ) : ∀ (n : Nat) (d : D), dep n d = true → LikeC (G (n + 1)) f d
  | n, .non, _ => fun μ => by rw [hG]; exact alike_scal rfl μ
  | n, .bl _, _ => fun μ => by rw [hG]; exact alike_scal rfl μ
  | n, .int _, _ => fun μ => by rw [hG]; exact alike_scal rfl μ
  | n, .str _, _ => fun μ => by rw [hG]; exact alike_scal rfl μ
  | 0, .tup ds, h => by cases h
  | 0, .lst ds, h => by cases h
  | _ + 1, .lst ds, h => by cases h
  | 0, .cell _, h => by cases h
  | _ + 1, .cell _, h => by cases h
  | n + 1, .tup ds, h => fun μ => by
    unfold dep at h
    rw [Bool.and_eq_true, decide_eq_true_eq, List.all_eq_true] at h
    rw [hG]
    exact alike_tup h.1 (fun d hd => like_dep hG n d (h.2 d hd)) μ
/-! ### the filters of the law -/
theorem filter_below (r : Nat) (p : Nat → Bool) (h1 : ∀ k, k ≤ r → p k = true) (h2 : ∀ k, r < k → p k = false) : ∀ n, (List.range n).filter p = List.range (min n (r + 1))
  | 0 => rfl
  | n + 1 => by
    rw [List.range_succ, List.filter_append, filter_below r p h1 h2 n]
    by_cases z : n ≤ r
    · have e1 : min n (r + 1) = n := by omega
      have e2 : min (n + 1) (r + 1) = n + 1 := by omega
      rw [e1, e2, List.range_succ]
      simp [h1 n z]
    · have e1 : min n (r + 1) = r + 1 := by omega
      have e2 : min (n + 1) (r + 1) = r + 1 := by omega
      rw [e1, e2]
      simp [h2 n (by omega)]
theorem filter_above (s : Nat) (p : Nat → Bool) (h1 : ∀ k, k < s → p k = false) (h2 : p s = true) : ∀ n, ((List.range n).filter p).head? = if s < n then some s else none
  | 0 => rfl
  | n + 1 => by
    rw [List.range_succ, List.filter_append, List.head?_append, filter_above s p h1 h2 n]
    by_cases z : s < n
    · rw [if_pos z, if_pos (by omega)]
      rfl
    · rw [if_neg z]
      by_cases e : s = n
      · subst e
        rw [if_pos (by omega)]
        simp [h2]
      · rw [if_neg (by omega)]
        simp [h1 n (by omega)]
theorem lc_filter (N : Nat) {i : Nat} {ρ : Env} {μ : Cells} {c : Env → Cells → Option (Bool × Cells)} {g : Env → Cells → Option (D × Cells)} (p : Nat → Bool)
    (hc : ∀ k : Nat, k < N → c (ρ.set i (some (.pl (.int k)))) μ = some (p k, μ)) (hg : ∀ k : Nat, g (ρ.set i (some (.pl (.int k)))) μ = some (.int k, μ)) :
    ∀ l : List Nat, (∀ k ∈ l, k < N) → lcGo (.nm i) c g ρ (l.map fun (k : Nat) => D.int (0 + k)) μ = some ((l.filter p).map fun (k : Nat) => D.int k, μ)
  | [], _ => rfl
  | k :: l, hl => by
    have ih := lc_filter N p hc hg l fun k hk => hl k (List.mem_cons_of_mem _ hk)
    have hk := hc k (hl k (List.mem_cons_self ..))
    show lcGo (.nm i) c g ρ (D.int (0 + k) :: l.map fun (k : Nat) => D.int (0 + k)) μ = _
    unfold lcGo
    rw [Int.zero_add]
    show (match some (ρ.set i (some (.pl (.int k)))) with | none => none | some ρ1 => _) = _
    simp only [hk]
    cases e : p k with
    | false =>
      simp only [List.filter_cons, e]
      exact ih
    | true =>
      simp only [List.filter_cons, e, hg k, ih]
      rfl
/-- a comprehension over a range, filtered -/
theorem ev_lcf {F : Fs} {i : Nat} {e : E} {cond : E} {ds : List (Option D)} {μ : Cells} (N : Nat) (p : Nat → Bool) (hN : N ≤ 16777216) (hi : i < ds.length) (he : ev F e (pl ds) μ = some (.int N, μ))
    (hc : ∀ k : Nat, k < N → ev F cond (pl (ds.set i (some (.int k)))) μ = some (.bl (p k), μ)) :
    ev F (.lc (.var i) (.nm i) (.rng1 e) (.some cond)) (pl ds) μ = some (.lst (((List.range N).filter p).map fun (k : Nat) => D.int k), μ) := by
  refine ev_lc (evi_rng he hN) (by rw [rng_len]; exact hN) (lc_filter N p (fun k hk => ?_) (fun k => ?_) (List.range N) fun k hk => List.mem_range.mp hk)
  · rw [pl_set]
    show onBl (ev F cond _ μ) _ = _
    rw [hc k hk]
    rfl
  · rw [pl_set, lk_pl]
    show (if false = true then none else ev F (.var i) _ μ) = _
    rw [if_neg (by decide)]
    unfold ev
    rw [pl_get, List.getElem?_set_self (by simpa using hi)]
    rfl
theorem ev_ix {F : Fs} {a b : E} {ρ : Env} {μ μ1 μ2 : Cells} {x y d : D} (h1 : ev F a ρ μ = some (x, μ1)) (h2 : ev F b ρ μ1 = some (y, μ2)) (h3 : ixD μ2 x y = some d) : ev F (.ix a b) ρ μ = some (d, μ2) := by
  unfold ev
  rw [h1]
  show andThen (ev F b ρ μ1) _ = _
  rw [h2]
  show wthD (ixD μ2 x y) μ2 = _
  rw [h3]
  rfl
theorem asg_pl {F : Fs} {W : Nat} {i : Nat} {e : E} {ds : List (Option D)} {μ μ1 : Cells} {d : D} (h : ev F e (pl ds) μ = some (d, μ1)) : exec F W (.asg i e) (pl ds) μ = some (.nx (pl (ds.set i (some d))) μ1) := by
  unfold exec
  rw [lk_pl, isOw_pl, h]
  show some (Res.nx ((pl ds).set i _) μ1) = _
  rw [pl_set]
theorem atI_last {l : List D} {d : D} : atI (l ++ [d]) (-1) = some d := by
  unfold atI ixN
  simp
  rw [if_pos (by omega)]
  have : (-1 + ((l.length : Int) + 1)).toNat = l.length := by omega
  show (l ++ [d])[(-1 + ((l.length : Int) + 1)).toNat]? = _
  rw [this]
  simp
theorem atI_head {l : List Nat} {k : Nat} (h : l.head? = some k) : atI (l.map fun (k : Nat) => D.int k) 0 = some (.int k) := by
  cases l with
  | nil => cases h
  | cons a l => cases h; exact atI_0 _ _
end FM

set_option Elab.async false
set_option linter.all false
set_option maxRecDepth 100000
set_option maxHeartbeats 1000000
/-! OF1: ordered fields with one more root. -/
namespace OF
/-- a + b times a root of p -/
structure Ext (K : Type) (p : K) where
  a : K
  b : K
section
variable {K : Type} [fK : Lean.Grind.Field K] {p : K}
local instance ncK : NatCast K := Lean.Grind.Semiring.natCast
local instance icK : IntCast K := Lean.Grind.Ring.intCast
theorem Ext.ext' {x y : Ext K p} (h : x.a = y.a) (g : x.b = y.b) : x = y := by
  cases x
  cases y
  simp only at h g
  rw [h, g]
def Ext.nat (n : Nat) : Ext K p := ⟨(n : K), 0⟩
def Ext.add (x y : Ext K p) : Ext K p := ⟨x.a + y.a, x.b + y.b⟩
def Ext.mul (x y : Ext K p) : Ext K p := ⟨x.a * y.a + x.b * y.b * p, x.a * y.b + x.b * y.a⟩
def Ext.neg (x : Ext K p) : Ext K p := ⟨-x.a, -x.b⟩
def Ext.pow (x : Ext K p) : Nat → Ext K p
  | 0 => ⟨1, 0⟩
  | n + 1 => (x.pow n).mul x
def Ext.N (x : Ext K p) : K := x.a * x.a - x.b * x.b * p
def Ext.inv (x : Ext K p) : Ext K p := ⟨x.a * (x.N)⁻¹, -x.b * (x.N)⁻¹⟩
def Ext.zp (x : Ext K p) : Int → Ext K p
  | .ofNat n => x.pow n
  | .negSucc n => (x.pow (n + 1)).inv
instance : NatCast (Ext K p) := ⟨Ext.nat⟩
instance (n : Nat) : OfNat (Ext K p) n := ⟨⟨OfNat.ofNat n, 0⟩⟩
instance : Add (Ext K p) := ⟨Ext.add⟩
instance : Mul (Ext K p) := ⟨Ext.mul⟩
instance : Neg (Ext K p) := ⟨Ext.neg⟩
instance : Sub (Ext K p) := ⟨fun x y => x.add y.neg⟩
instance : HPow (Ext K p) Nat (Ext K p) := ⟨Ext.pow⟩
instance : SMul Nat (Ext K p) := ⟨fun n x => (Ext.nat n).mul x⟩
instance : IntCast (Ext K p) := ⟨fun i => ⟨(i : K), 0⟩⟩
instance : SMul Int (Ext K p) := ⟨fun i x => ⟨(i : K) * x.a, (i : K) * x.b⟩⟩
theorem add_a (x y : Ext K p) : (x + y).a = x.a + y.a := rfl
theorem add_b (x y : Ext K p) : (x + y).b = x.b + y.b := rfl
theorem mul_a (x y : Ext K p) : (x * y).a = x.a * y.a + x.b * y.b * p := rfl
theorem mul_b (x y : Ext K p) : (x * y).b = x.a * y.b + x.b * y.a := rfl
theorem neg_a (x : Ext K p) : (-x).a = -x.a := rfl
theorem neg_b (x : Ext K p) : (-x).b = -x.b := rfl
theorem sub_a (x y : Ext K p) : (x - y).a = x.a + -y.a := rfl
theorem sub_b (x y : Ext K p) : (x - y).b = x.b + -y.b := rfl
theorem of_a (n : Nat) : (OfNat.ofNat n : Ext K p).a = OfNat.ofNat n := rfl
theorem of_b (n : Nat) : (OfNat.ofNat n : Ext K p).b = 0 := rfl
theorem z_a : (0 : Ext K p).a = 0 := rfl
theorem z_b : (0 : Ext K p).b = 0 := rfl
theorem o_a : (1 : Ext K p).a = 1 := rfl
theorem o_b : (1 : Ext K p).b = 0 := rfl
theorem nat_a (n : Nat) : ((n : Nat) : Ext K p).a = (n : K) := rfl
theorem nat_b (n : Nat) : ((n : Nat) : Ext K p).b = 0 := rfl
theorem int_a (n : Int) : ((n : Int) : Ext K p).a = (n : K) := rfl
theorem int_b (n : Int) : ((n : Int) : Ext K p).b = 0 := rfl
theorem zs_a (n : Int) (x : Ext K p) : (n • x).a = (n : K) * x.a := rfl
theorem zs_b (n : Int) (x : Ext K p) : (n • x).b = (n : K) * x.b := rfl
theorem ns_a (n : Nat) (x : Ext K p) : (n • x).a = (n : K) * x.a + 0 * x.b * p := rfl
theorem ns_b (n : Nat) (x : Ext K p) : (n • x).b = (n : K) * x.b + 0 * x.a := rfl
instance extRing : Lean.Grind.CommRing (Ext K p) where
  add_zero x := Ext.ext' (by rw [add_a, z_a]; grind) (by rw [add_b, z_b]; grind)
  add_comm x y := Ext.ext' (by rw [add_a, add_a]; grind) (by rw [add_b, add_b]; grind)
  add_assoc x y z := Ext.ext' (by simp only [add_a]; grind) (by simp only [add_b]; grind)
  mul_assoc x y z := Ext.ext' (by simp only [mul_a, mul_b]; grind) (by simp only [mul_a, mul_b]; grind)
  mul_one x := Ext.ext' (by simp only [mul_a, o_a, o_b]; grind) (by simp only [mul_b, o_a, o_b]; grind)
  one_mul x := Ext.ext' (by simp only [mul_a, o_a, o_b]; grind) (by simp only [mul_b, o_a, o_b]; grind)
  mul_zero x := Ext.ext' (by simp only [mul_a, z_a, z_b]; grind) (by simp only [mul_b, z_a, z_b]; grind)
  right_distrib x y z := Ext.ext' (by simp only [mul_a, add_a, add_b]; grind) (by simp only [mul_b, add_a, add_b]; grind)
  left_distrib x y z := Ext.ext' (by simp only [mul_a, add_a, add_b]; grind) (by simp only [mul_b, add_a, add_b]; grind)
  zero_mul x := Ext.ext' (by simp only [mul_a, z_a, z_b]; grind) (by simp only [mul_b, z_a, z_b]; grind)
  pow_zero x := rfl
  pow_succ x n := rfl
  ofNat_succ n := Ext.ext' (by rw [add_a, of_a, of_a, o_a]; exact Lean.Grind.Semiring.ofNat_succ n) (by rw [add_b, of_b, of_b, o_b]; grind)
  ofNat_eq_natCast n := Ext.ext' (by rw [of_a, nat_a]; exact Lean.Grind.Semiring.ofNat_eq_natCast n) rfl
  nsmul_eq_natCast_mul n x := rfl
  neg_add_cancel x := Ext.ext' (by rw [add_a, neg_a, z_a]; grind) (by rw [add_b, neg_b, z_b]; grind)
  sub_eq_add_neg x y := rfl
  neg_zsmul i x := Ext.ext' (by rw [neg_a, zs_a, zs_a]; grind) (by rw [neg_b, zs_b, zs_b]; grind)
  zsmul_natCast_eq_nsmul n x := Ext.ext' (by rw [zs_a, ns_a, Lean.Grind.Ring.intCast_natCast]; grind) (by rw [zs_b, ns_b, Lean.Grind.Ring.intCast_natCast]; grind)
  intCast_ofNat n := Ext.ext' (by rw [int_a, of_a]; exact Lean.Grind.Ring.intCast_ofNat n) rfl
  intCast_neg i := Ext.ext' (by rw [neg_a, int_a, int_a]; exact Lean.Grind.Ring.intCast_neg i) (by rw [neg_b, int_b, int_b]; grind)
  mul_comm x y := Ext.ext' (by rw [mul_a, mul_a]; grind) (by rw [mul_b, mul_b]; grind)
/-! ### order -/
section
variable [LE K] [LT K] [Std.LawfulOrderLT K] [Std.IsLinearOrder K] [Lean.Grind.OrderedRing K]
theorem mpos {a b : K} (h : 0 < a) (g : 0 < b) : 0 < a * b := Lean.Grind.OrderedRing.mul_pos h g
theorem sqp {a : K} (h : a ≠ 0) : 0 < a * a := by
  rcases Std.lt_trichotomy a 0 with z | z | z
  · have := mpos (a := -a) (b := -a) (by grind) (by grind)
    grind
  · exact absurd z h
  · exact mpos z z
theorem sqn (a : K) : 0 ≤ a * a := by
  by_cases h : a = 0
  · subst h; grind
  · have := sqp h; grind
/-- of two that are not below 0 the greater square is the greater's -/
theorem lt_of_sq {a b : K} (hb : 0 ≤ b) (h : a * a < b * b) : a < b := by
  rcases Std.lt_trichotomy a b with z | z | z
  · exact z
  · subst z; grind
  · have h1 : 0 < a := by grind
    have h2 := mpos (a := a - b) (b := a) (by grind) h1
    by_cases e : b = 0
    · subst e; grind
    · have h3 := mpos (a := a - b) (b := b) (by grind) (by grind)
      grind
def Ext.P (x : Ext K p) : Prop := (0 < x.N ∧ 0 < x.a) ∨ (x.N < 0 ∧ 0 < x.b)
theorem N_mul (x y : Ext K p) : (x * y).N = x.N * y.N := by
  unfold Ext.N
  rw [mul_a, mul_b]
  grind
theorem N_neg (x : Ext K p) : (-x).N = x.N := by
  unfold Ext.N
  rw [neg_a, neg_b]
  grind
theorem P_mul (hp : 0 < p) {x y : Ext K p} (hx : x.P) (hy : y.P) : (x * y).P := by
  unfold Ext.P
  rw [N_mul, mul_a, mul_b]
  rcases hx with ⟨h1, h2⟩ | ⟨h1, h2⟩ <;> rcases hy with ⟨g1, g2⟩ | ⟨g1, g2⟩
  · refine .inl ⟨mpos h1 g1, ?_⟩
    have k : -(x.b * y.b * p) < x.a * y.a := by
      refine lt_of_sq (by have := mpos h2 g2; grind) ?_
      unfold Ext.N at h1 g1
      have e1 := mpos (a := y.a * y.a) (mpos g2 g2) h1
      have e2 : 0 ≤ x.b * x.b * p * (y.a * y.a - y.b * y.b * p) := by
        by_cases z : x.b = 0
        · rw [z]; grind
        · have := mpos (mpos (sqp z) hp) g1; grind
      by_cases z : x.b = 0
      · rw [z]
        have := mpos (mpos h2 h2) (mpos g2 g2)
        grind
      · have := mpos (mpos (sqp z) hp) g1
        grind
    grind
  · refine .inr ⟨by have := mpos h1 (a := x.N) (b := -y.N) (by grind); grind, ?_⟩
    have k : -(x.b * y.a) < x.a * y.b := by
      refine lt_of_sq (by have := mpos h2 g2; grind) ?_
      unfold Ext.N at h1 g1
      have e1 := mpos (mpos g2 g2) h1
      by_cases z : x.b = 0
      · rw [z]
        have := mpos (mpos h2 h2) (mpos g2 g2)
        grind
      · have := mpos (sqp z) (b := y.b * y.b * p - y.a * y.a) (by grind)
        grind
    grind
  · refine .inr ⟨by have := mpos (a := -x.N) (b := y.N) (by grind) g1; grind, ?_⟩
    have k : -(x.a * y.b) < x.b * y.a := by
      refine lt_of_sq (by have := mpos h2 g2; grind) ?_
      unfold Ext.N at h1 g1
      have e1 := mpos (mpos h2 h2) g1
      by_cases z : y.b = 0
      · rw [z]
        have := mpos (mpos h2 h2) (mpos g2 g2)
        grind
      · have := mpos (sqp z) (b := x.b * x.b * p - x.a * x.a) (by grind)
        grind
    grind
  · refine .inl ⟨by have := mpos (a := -x.N) (b := -y.N) (by grind) (by grind); grind, ?_⟩
    have k : -(x.a * y.a) < x.b * y.b * p := by
      refine lt_of_sq (by have := mpos (mpos h2 g2) hp; grind) ?_
      unfold Ext.N at h1 g1
      have e1 := mpos (mpos (mpos h2 h2) hp) (b := y.b * y.b * p - y.a * y.a) (by grind)
      by_cases z : y.a = 0
      · rw [z]
        have := mpos (mpos (mpos h2 g2) hp) (mpos (mpos h2 g2) hp)
        grind
      · have := mpos (sqp z) (b := x.b * x.b * p - x.a * x.a) (by grind)
        grind
    grind
theorem P_not {x : Ext K p} (h : x.P) (g : (-x).P) : False := by
  unfold Ext.P at h g
  rw [N_neg, neg_a, neg_b] at g
  grind
theorem N_ne (hn : ∀ t : K, t * t ≠ p) {x : Ext K p} (h : x ≠ 0) : x.N ≠ 0 := fun z => by
  unfold Ext.N at z
  by_cases e : x.b = 0
  · rw [e] at z
    refine h (Ext.ext' ?_ e)
    rw [z_a]
    by_cases f : x.a = 0
    · exact f
    · have := sqp f; grind
  · refine hn (x.a * x.b⁻¹) ?_
    have q : x.b * x.b⁻¹ = 1 := Lean.Grind.Field.mul_inv_cancel e
    grind
theorem P_tri (hn : ∀ t : K, t * t ≠ p) (hp : 0 < p) {x : Ext K p} (h : x ≠ 0) : x.P ∨ (-x).P := by
  have n := N_ne hn h
  unfold Ext.P
  rw [N_neg, neg_a, neg_b]
  rcases Std.lt_trichotomy x.N 0 with z | z | z
  · have : x.b ≠ 0 := fun e => by
      unfold Ext.N at z
      rw [e] at z
      have := sqn x.a
      grind
    rcases Std.lt_trichotomy x.b 0 with y | y | y
    · exact .inr (.inr ⟨z, by grind⟩)
    · exact absurd y this
    · exact .inl (.inr ⟨z, y⟩)
  · exact absurd z n
  · have : x.a ≠ 0 := fun e => by
      unfold Ext.N at z
      rw [e] at z
      have h1 := sqn x.b
      have h2 : 0 ≤ x.b * x.b * p := by
        by_cases f : x.b = 0
        · rw [f]; grind
        · have := mpos (sqp f) hp; grind
      grind
    rcases Std.lt_trichotomy x.a 0 with y | y | y
    · exact .inr (.inl ⟨z, by grind⟩)
    · exact absurd y this
    · exact .inl (.inl ⟨z, y⟩)
/-- a positive one of the lower field more -/
theorem P_addK (hn : ∀ t : K, t * t ≠ p) (hp : 0 < p) {x : Ext K p} (h : x.P) {k : K} (hk : 0 < k) : (x + ⟨k, 0⟩).P := by
  unfold Ext.P at h ⊢
  have ea : (x + (⟨k, 0⟩ : Ext K p)).a = x.a + k := rfl
  have eb : (x + (⟨k, 0⟩ : Ext K p)).b = x.b + 0 := rfl
  unfold Ext.N at *
  rw [ea, eb]
  rcases h with ⟨h1, h2⟩ | ⟨h1, h2⟩
  · refine .inl ⟨?_, by grind⟩
    have := mpos h2 hk
    have := mpos hk hk
    grind
  · rcases Std.lt_trichotomy ((x.a + k) * (x.a + k) - (x.b + 0) * (x.b + 0) * p) 0 with z | z | z
    · exact .inr ⟨z, by grind⟩
    · have nz : (x + (⟨k, 0⟩ : Ext K p)) ≠ 0 := fun e => by
        have e2 : (x + (⟨k, 0⟩ : Ext K p)).b = 0 := by rw [e]; rfl
        rw [eb] at e2
        grind
      exact absurd z (N_ne hn nz)
    · refine .inl ⟨z, ?_⟩
      have e : x.a * x.a < (x.a + k) * (x.a + k) := by grind
      rcases Std.lt_trichotomy (x.a + k) 0 with y | y | y
      · have h3 := mpos (a := -(x.a + k)) (b := k) (by grind) hk
        have h4 := mpos hk hk
        grind
      · rw [y] at e
        have := sqn x.a
        grind
      · exact y
theorem P_ne {x : Ext K p} (h : x.P) : x ≠ 0 := fun e => by
  subst e
  unfold Ext.P Ext.N at h
  rw [z_a, z_b] at h
  grind
theorem P_add (hn : ∀ t : K, t * t ≠ p) (hp : 0 < p) {x y : Ext K p} (hx : x.P) (hy : y.P) : (x + y).P := by
  have key : ∀ {x y : Ext K p}, x.P → y.P → y.N < 0 → (x + y).P := fun {x y} hx hy ny => by
    have dy : 0 < y.b := by
      unfold Ext.P at hy
      grind
    let w : Ext K p := ⟨-y.a, y.b⟩
    have wN : w.N = y.N := by
      show (-y.a) * (-y.a) - y.b * y.b * p = y.a * y.a - y.b * y.b * p
      grind
    have hw : w.P := .inr ⟨by rw [wN]; exact ny, dy⟩
    have e : (x + y) * w = x * w + ⟨-y.N, 0⟩ := by
      refine Ext.ext' ?_ ?_
      · rw [add_a, mul_a, mul_a, add_a, add_b]
        show (x.a + y.a) * -y.a + (x.b + y.b) * y.b * p = x.a * -y.a + x.b * y.b * p + -(y.a * y.a - y.b * y.b * p)
        grind
      · rw [add_b, mul_b, mul_b, add_a, add_b]
        show (x.a + y.a) * y.b + (x.b + y.b) * -y.a = x.a * y.b + x.b * -y.a + 0
        grind
    have h1 : ((x + y) * w).P := by
      rw [e]
      exact P_addK hn hp (P_mul hp hx hw) (by grind)
    by_cases z : x + y = 0
    · rw [z] at h1
      have : (0 : Ext K p) * w = 0 := Lean.Grind.Semiring.zero_mul w
      rw [this] at h1
      exact absurd rfl (P_ne h1)
    · rcases P_tri hn hp z with h | h
      · exact h
      · have h2 := P_mul hp h hw
        have e2 : -(x + y) * w = -((x + y) * w) := by grind
        rw [e2] at h2
        exact (P_not h1 h2).elim
  rcases hy with hy' | hy'
  · rcases hx with hx' | hx'
    · refine .inl ⟨?_, by rw [add_a]; grind⟩
      have q : x.b * y.b * p < x.a * y.a ∧ -(x.b * y.b * p) < x.a * y.a := by
        obtain ⟨h1, h2⟩ := hx'
        obtain ⟨g1, g2⟩ := hy'
        unfold Ext.N at h1 g1
        have m : 0 < x.a * y.a := mpos h2 g2
        have e1 := mpos (mpos g2 g2) h1
        have sq : (x.b * y.b * p) * (x.b * y.b * p) < (x.a * y.a) * (x.a * y.a) := by
          by_cases z : x.b = 0
          · rw [z]
            have := mpos m m
            grind
          · have := mpos (mpos (sqp z) hp) g1
            grind
        refine ⟨lt_of_sq (by grind) sq, lt_of_sq (by grind) (by grind)⟩
      have h1 := hx'.1
      have g1 := hy'.1
      unfold Ext.N at *
      rw [add_a, add_b]
      grind
    · rw [show x + y = y + x by grind]
      exact key (.inl hy') (.inr hx') hx'.1
  · exact key hx (.inr hy') hy'.1
instance : LT (Ext K p) := ⟨fun x y => (y - x).P⟩
instance : LE (Ext K p) := ⟨fun x y => x = y ∨ (y - x).P⟩
theorem lt_iff (x y : Ext K p) : x < y ↔ (y - x).P := Iff.rfl
theorem le_iff (x y : Ext K p) : x ≤ y ↔ x = y ∨ (y - x).P := Iff.rfl
/-- the field with the root -/
theorem linear (hn : ∀ t : K, t * t ≠ p) (hp : 0 < p) : Std.IsLinearOrder (Ext K p) where
  le_refl x := .inl rfl
  le_trans x y z h g := by
    rcases h with rfl | h
    · exact g
    · rcases g with rfl | g
      · exact .inr h
      · have := P_add hn hp h g
        exact .inr (by rw [show z - x = (y - x) + (z - y) by grind]; exact this)
  le_antisymm x y h g := by
    rcases h with rfl | h
    · rfl
    · rcases g with g | g
      · exact g.symm
      · rw [show x - y = -(y - x) by grind] at g
        exact (P_not h g).elim
  le_total x y := by
    by_cases z : y - x = 0
    · exact .inl (.inl (by grind))
    · rcases P_tri hn hp z with h | h
      · exact .inl (.inr h)
      · exact .inr (.inr (by rw [show x - y = -(y - x) by grind]; exact h))
theorem lawful : Std.LawfulOrderLT (Ext K p) where
  lt_iff x y := by
    constructor
    · intro h
      refine ⟨.inr h, fun g => ?_⟩
      rcases g with rfl | g
      · exact P_ne h (by grind)
      · rw [show x - y = -(y - x) by grind] at g
        exact P_not h g
    · rintro ⟨h, g⟩
      rcases h with rfl | h
      · exact absurd (.inl rfl) g
      · exact h
theorem ordered (hn : ∀ t : K, t * t ≠ p) (hp : 0 < p) [Std.IsPreorder (Ext K p)] : Lean.Grind.OrderedRing (Ext K p) where
  add_le_left_iff {x y} z := by
    rw [le_iff, le_iff, show y + z - (x + z) = y - x by grind]
    constructor
    · rintro (rfl | h)
      · exact .inl rfl
      · exact .inr h
    · rintro (h | h)
      · exact .inl (by grind)
      · exact .inr h
  zero_lt_one := by
    rw [lt_iff]
    refine .inl ?_
    unfold Ext.N
    rw [sub_a, sub_b, o_a, o_b, z_a, z_b]
    have : (0 : K) < 1 := Lean.Grind.OrderedRing.zero_lt_one
    grind
  mul_lt_mul_of_pos_left {x y z} h g := by
    rw [lt_iff] at *
    rw [show z * y - z * x = (z - 0) * (y - x) by grind]
    exact P_mul hp g h
  mul_lt_mul_of_pos_right {x y z} h g := by
    rw [lt_iff] at *
    rw [show y * z - x * z = (z - 0) * (y - x) by grind]
    exact P_mul hp g h
theorem inv_ok (hn : ∀ t : K, t * t ≠ p) {x : Ext K p} (h : x ≠ 0) : x * x.inv = 1 := by
  have q : x.N * x.N⁻¹ = 1 := Lean.Grind.Field.mul_inv_cancel (N_ne hn h)
  refine Ext.ext' ?_ ?_
  · rw [mul_a, o_a]
    show x.a * (x.a * x.N⁻¹) + x.b * (-x.b * x.N⁻¹) * p = 1
    unfold Ext.N at *
    grind
  · rw [mul_b, o_b]
    show x.a * (-x.b * x.N⁻¹) + x.b * (x.a * x.N⁻¹) = 0
    grind
end
end
end OF

set_option Elab.async false
set_option linter.all false
set_option maxRecDepth 100000
set_option maxHeartbeats 1000000
/-! OF2: every ordered field has one above it with a root of a number that is not below 0. -/
namespace OF
section
variable {K : Type} [fK : Lean.Grind.Field K] {p : K} [LE K] [LT K] [Std.LawfulOrderLT K] [Std.IsLinearOrder K] [Lean.Grind.OrderedRing K]
theorem inv0 : (0 : Ext K p).inv = 0 := by
  refine Ext.ext' ?_ ?_
  · show (0 : Ext K p).a * _ = 0
    rw [z_a]
    grind
  · show -(0 : Ext K p).b * _ = 0
    rw [z_b]
    grind
theorem o_ne : (1 : Ext K p) ≠ 0 := fun e => by
  have : (1 : Ext K p).a = (0 : Ext K p).a := by rw [e]
  rw [o_a, z_a] at this
  exact Lean.Grind.Field.zero_ne_one this.symm
theorem inv_uniq {x y : Ext K p} (hn : ∀ t : K, t * t ≠ p) (h : x * y = 1) : x.inv = y := by
  have hx : x ≠ 0 := fun e => by
    subst e
    have : (0 : Ext K p) * y = 0 := Lean.Grind.Semiring.zero_mul y
    rw [this] at h
    exact o_ne h.symm
  have q := inv_ok hn hx
  have e : x.inv = (x * y) * x.inv := by
    rw [h]
    exact (Lean.Grind.Semiring.one_mul _).symm
  rw [e, show x * y * x.inv = (x * x.inv) * y by grind, q]
  exact Lean.Grind.Semiring.one_mul y
theorem inv_inv (hn : ∀ t : K, t * t ≠ p) (x : Ext K p) : x.inv.inv = x := by
  by_cases h : x = 0
  · subst h
    rw [inv0, inv0]
  · refine inv_uniq hn ?_
    rw [show x.inv * x = x * x.inv by grind]
    exact inv_ok hn h
def field (hn : ∀ t : K, t * t ≠ p) : Lean.Grind.Field (Ext K p) where
  inv := Ext.inv
  div x y := x * y.inv
  zpow := ⟨Ext.zp⟩
  div_eq_mul_inv x y := rfl
  zero_ne_one := fun h => o_ne h.symm
  inv_zero := inv0
  mul_inv_cancel {x} h := inv_ok hn h
  zpow_zero x := rfl
  zpow_succ x n := rfl
  zpow_neg x n := by
    show Ext.zp x (-n) = (Ext.zp x n).inv
    cases n with
    | ofNat n =>
      cases n with
      | zero =>
        show (⟨1, 0⟩ : Ext K p) = (1 : Ext K p).inv
        exact (inv_uniq hn (x := (1 : Ext K p)) (y := 1) (Lean.Grind.Semiring.one_mul 1)).symm
      | succ n => rfl
    | negSucc n =>
      show x.pow (n + 1) = (x.pow (n + 1)).inv.inv
      rw [inv_inv hn]
/-- what keeps sums, products, order -/
structure Hom {K L : Type} [Lean.Grind.Field K] [LT K] [Lean.Grind.Field L] [LT L] (j : K → L) : Prop where
  add : ∀ a b, j (a + b) = j a + j b
  mul : ∀ a b, j (a * b) = j a * j b
  one : j 1 = 1
  lt : ∀ a b, a < b → j a < j b
/-- an ordered field -/
structure Fld where
  K : Type
  f : Lean.Grind.Field K
  le : LE K
  lt : LT K
  lin : Std.IsLinearOrder K
  lo : Std.LawfulOrderLT K
  ord : Lean.Grind.OrderedRing K
theorem root1 (hn : ∀ t : K, t * t ≠ p) (hp : 0 < p) : ∃ (L : Type) (_ : Lean.Grind.Field L) (_ : LE L) (_ : LT L) (_ : Std.IsLinearOrder L) (_ : Std.LawfulOrderLT L) (_ : Lean.Grind.OrderedRing L) (j : K → L), Hom j ∧ ∃ r : L, 0 ≤ r ∧ r * r = j p := by
  letI i1 := field hn
  letI i2 : Std.IsLinearOrder (Ext K p) := linear hn hp
  letI i3 : Std.LawfulOrderLT (Ext K p) := lawful
  letI i4 : Lean.Grind.OrderedRing (Ext K p) := ordered hn hp
  refine ⟨Ext K p, i1, inferInstance, inferInstance, i2, i3, i4, fun a => ⟨a, 0⟩, ⟨fun a b => ?_, fun a b => ?_, rfl, fun a b h => ?_⟩, ⟨0, 1⟩, ?_, ?_⟩
  · exact Ext.ext' rfl (by show (0 : K) = 0 + 0; grind)
  · exact Ext.ext' (by show a * b = a * b + 0 * 0 * p; grind) (by show (0 : K) = a * 0 + 0 * b; grind)
  · show Ext.P _
    have ea : ((⟨b, 0⟩ : Ext K p) - ⟨a, 0⟩).a = b + -a := rfl
    have eb : ((⟨b, 0⟩ : Ext K p) - ⟨a, 0⟩).b = 0 + -0 := rfl
    refine .inl ⟨?_, by rw [ea]; grind⟩
    unfold Ext.N
    rw [ea, eb]
    have := mpos (a := b - a) (b := b - a) (by grind) (by grind)
    grind
  · refine .inr (.inr ⟨?_, ?_⟩)
    · show (0 + -(0 : K)) * (0 + -0) - (1 + -0) * (1 + -0) * p < 0
      grind
    · show (0 : K) < 1 + -0
      have : (0 : K) < 1 := Lean.Grind.OrderedRing.zero_lt_one
      grind
  · exact Ext.ext' (by show (0 : K) * 0 + 1 * 1 * p = p; grind) (by show (0 : K) * 1 + 1 * 0 = 0; grind)
end
section
variable {K : Type} [fK : Lean.Grind.Field K] [leK : LE K] [ltK : LT K] [loK : Std.LawfulOrderLT K] [linK : Std.IsLinearOrder K] [ordK : Lean.Grind.OrderedRing K]
theorem Hom.id : Hom (fun x : K => x) := ⟨fun _ _ => rfl, fun _ _ => rfl, rfl, fun _ _ h => h⟩
theorem Hom.comp {L M : Type} [Lean.Grind.Field L] [LT L] [Lean.Grind.Field M] [LT M] {j : K → L} {k : L → M} (h : Hom j) (g : Hom k) : Hom (fun x => k (j x)) :=
  ⟨fun a b => by rw [h.add, g.add], fun a b => by rw [h.mul, g.mul], by rw [h.one, g.one], fun a b z => g.lt _ _ (h.lt _ _ z)⟩
theorem root (p : K) (hp : 0 ≤ p) : ∃ (L : Type) (_ : Lean.Grind.Field L) (_ : LE L) (_ : LT L) (_ : Std.IsLinearOrder L) (_ : Std.LawfulOrderLT L) (_ : Lean.Grind.OrderedRing L) (j : K → L), Hom j ∧ ∃ r : L, 0 ≤ r ∧ r * r = j p := by
  by_cases h : ∃ t : K, t * t = p
  · obtain ⟨t, ht⟩ := h
    refine ⟨K, fK, leK, ltK, linK, loK, ordK, fun x => x, Hom.id, ?_⟩
    by_cases z : 0 ≤ t
    · exact ⟨t, z, ht⟩
    · exact ⟨-t, by grind, by grind⟩
  · have hn : ∀ t : K, t * t ≠ p := fun t e => h ⟨t, e⟩
    refine root1 hn ?_
    have : p ≠ 0 := fun e => hn 0 (by rw [e]; grind)
    grind
end
section
variable {K L : Type} [fK : Lean.Grind.Field K] [LE K] [LT K] [Std.LawfulOrderLT K] [Std.IsLinearOrder K] [Lean.Grind.OrderedRing K] [fL : Lean.Grind.Field L] [LE L] [LT L] [Std.LawfulOrderLT L] [Std.IsLinearOrder L] [Lean.Grind.OrderedRing L] {j : K → L}
theorem Hom.zero (h : Hom j) : j 0 = 0 := by
  have := h.add 0 0
  rw [show (0 : K) + 0 = 0 by grind] at this
  grind
theorem Hom.neg (h : Hom j) (a : K) : j (-a) = -j a := by
  have := h.add a (-a)
  rw [show a + -a = 0 by grind, h.zero] at this
  grind
theorem Hom.le (h : Hom j) {a b : K} (l : a ≤ b) : j a ≤ j b := by
  by_cases e : a = b
  · subst e; grind
  · have := h.lt a b (by grind)
    grind
end
/-- over the fractions: a field with roots of so many numbers that are not below 0 -/
theorem roots (us : List Rat) : ∃ (L : Type) (_ : Lean.Grind.Field L) (_ : LE L) (_ : LT L) (_ : Std.IsLinearOrder L) (_ : Std.LawfulOrderLT L) (_ : Lean.Grind.OrderedRing L) (j : Rat → L), Hom j ∧ ∀ u ∈ us, 0 ≤ u → ∃ r : L, 0 ≤ r ∧ r * r = j u := by
  induction us with
  | nil => exact ⟨Rat, inferInstance, inferInstance, inferInstance, inferInstance, inferInstance, inferInstance, fun x => x, Hom.id, fun u h => by cases h⟩
  | cons u us ih =>
    obtain ⟨L, i1, i2, i3, i4, i5, i6, j, hj, hr⟩ := ih
    by_cases hu : 0 ≤ u
    · obtain ⟨M, k1, k2, k3, k4, k5, k6, k, hk, r, r0, rr⟩ := root (j u) (by have := hj.le hu; rwa [hj.zero] at this)
      refine ⟨M, k1, k2, k3, k4, k5, k6, fun x => k (j x), hj.comp hk, fun v hv v0 => ?_⟩
      rcases List.mem_cons.mp hv with rfl | hv
      · exact ⟨r, r0, rr⟩
      · obtain ⟨s, s0, ss⟩ := hr v hv v0
        refine ⟨k s, by have := hk.le s0; rwa [hk.zero] at this, by rw [← hk.mul, ss]⟩
    · refine ⟨L, i1, i2, i3, i4, i5, i6, j, hj, fun v hv v0 => ?_⟩
      rcases List.mem_cons.mp hv with rfl | hv
      · exact absurd v0 hu
      · exact hr v hv v0
end OF

set_option Elab.async false
set_option linter.all false
set_option maxRecDepth 100000
set_option maxHeartbeats 1000000
/-! OF3: signs; fractions as numbers. -/
namespace OF
open FM
section
variable {L : Type} [fL : Lean.Grind.Field L] [LE L] [LT L] [Std.LawfulOrderLT L] [Std.IsLinearOrder L] [Lean.Grind.OrderedRing L]
open Classical in
noncomputable def sgn (x : L) : Int := if 0 < x then 1 else if x < 0 then -1 else 0
theorem sgn_pos {x : L} (h : 0 < x) : sgn x = 1 := by unfold sgn; rw [if_pos h]
theorem sgn_neg {x : L} (h : x < 0) : sgn x = -1 := by unfold sgn; rw [if_neg (by grind), if_pos h]
theorem sgn_zero : sgn (0 : L) = 0 := by unfold sgn; rw [if_neg (by grind), if_neg (by grind)]
theorem sgn_eq0 {x : L} : sgn x = 0 ↔ x = 0 := by
  constructor
  · intro h
    rcases Std.lt_trichotomy x 0 with z | z | z
    · rw [sgn_neg z] at h; cases h
    · exact z
    · rw [sgn_pos z] at h; cases h
  · rintro rfl
    exact sgn_zero
theorem sgn_eq1 {x : L} : sgn x = 1 ↔ 0 < x := by
  constructor
  · intro h
    rcases Std.lt_trichotomy x 0 with z | z | z
    · rw [sgn_neg z] at h; cases h
    · rw [z, sgn_zero] at h; cases h
    · exact z
  · exact sgn_pos
theorem sgn_eqm {x : L} : sgn x = -1 ↔ x < 0 := by
  constructor
  · intro h
    rcases Std.lt_trichotomy x 0 with z | z | z
    · exact z
    · rw [z, sgn_zero] at h; cases h
    · rw [sgn_pos z] at h; cases h
  · exact sgn_neg
theorem sgn_m (x : L) : sgn (-x) = -sgn x := by
  rcases Std.lt_trichotomy x 0 with z | z | z
  · rw [sgn_neg z, sgn_pos (by grind)]; rfl
  · rw [z, show -(0 : L) = 0 by grind, sgn_zero]; rfl
  · rw [sgn_pos z, sgn_neg (by grind)]
theorem sgn_mul (x y : L) : sgn (x * y) = sgn x * sgn y := by
  rcases Std.lt_trichotomy x 0 with z | z | z <;> rcases Std.lt_trichotomy y 0 with w | w | w
  · have := mpos (a := -x) (b := -y) (by grind) (by grind)
    rw [sgn_neg z, sgn_neg w, sgn_pos (by grind)]; rfl
  · rw [w, show x * 0 = 0 by grind, sgn_zero, Int.mul_zero]
  · have := mpos (a := -x) (b := y) (by grind) (by grind)
    rw [sgn_neg z, sgn_pos w, sgn_neg (by grind)]; rfl
  · rw [z, show 0 * y = 0 by grind, sgn_zero, Int.zero_mul]
  · rw [z, show 0 * y = 0 by grind, sgn_zero, Int.zero_mul]
  · rw [z, show 0 * y = 0 by grind, sgn_zero, Int.zero_mul]
  · have := mpos (a := x) (b := -y) (by grind) (by grind)
    rw [sgn_pos z, sgn_neg w, sgn_neg (by grind)]; rfl
  · rw [w, show x * 0 = 0 by grind, sgn_zero, Int.mul_zero]
  · have := mpos z w
    rw [sgn_pos z, sgn_pos w, sgn_pos this]; rfl
/-- the sign of x + y times a root of r, told without the root -/
def sg2 (first second last : Int) : Int := if second = 0 ∨ first = second then first else if first = 0 then second else first * last
theorem sgn_root {x y ρ r : L} (h : 0 < ρ) (e : ρ * ρ = r) : sgn (x + y * ρ) = sg2 (sgn x) (sgn y) (sgn (x * x - y * y * r)) := by
  unfold sg2
  rcases Std.lt_trichotomy y 0 with w | w | w
  · have hy : 0 < -(y * ρ) := by have := mpos (a := -y) (b := ρ) (by grind) h; grind
    rcases Std.lt_trichotomy x 0 with z | z | z
    · rw [sgn_neg z, sgn_neg w, if_pos (.inr rfl), sgn_neg (by grind)]
    · subst z
      rw [sgn_zero, sgn_neg w, if_neg (by decide), if_pos rfl, sgn_neg (by grind)]
    · rw [sgn_pos z, sgn_neg w, if_neg (by decide), if_neg (by decide), Int.one_mul]
      have k : x * x - y * y * r = (x + y * ρ) * (x - y * ρ) := by grind
      rw [k, sgn_mul, sgn_pos (x := x - y * ρ) (by grind), Int.mul_one]
  · subst w
    rw [sgn_zero, if_pos (.inl rfl)]
    congr 1
    grind
  · have hy : 0 < y * ρ := mpos w h
    rcases Std.lt_trichotomy x 0 with z | z | z
    · rw [sgn_neg z, sgn_pos w, if_neg (by decide), if_neg (by decide)]
      have k : x * x - y * y * r = (x + y * ρ) * (x - y * ρ) := by grind
      rw [k, sgn_mul, sgn_neg (x := x - y * ρ) (by grind)]
      omega
    · subst z
      rw [sgn_zero, sgn_pos w, if_neg (by decide), if_pos rfl, sgn_pos (by grind)]
    · rw [sgn_pos z, sgn_pos w, if_pos (.inr rfl), sgn_pos (by grind)]
end
/-! ### fractions -/
def rat (x : Int × Int) : Rat := (x.1 : Rat) / (x.2 : Rat)
theorem rat_fr (a : Int) {b : Int} (hb : b ≠ 0) : rat (fr a b) = (a : Rat) / (b : Rat) := by
  obtain ⟨h1, h2, h3, _⟩ := fr_spec a hb
  have g0 := gs_ne a hb
  unfold rat
  generalize (fr a b).1 = n at *
  generalize (fr a b).2 = d at *
  generalize gs a b = g at *
  subst h1 h2
  have d0 : (d : Rat) ≠ 0 := by exact_mod_cast (show d ≠ 0 by omega)
  have g1 : (g : Rat) ≠ 0 := by exact_mod_cast g0
  rw [Rat.intCast_mul, Rat.intCast_mul]
  grind
theorem cast_ne {d : Int} (h : d ≠ 0) : (d : Rat) ≠ 0 := by exact_mod_cast h
theorem rat_add {x y : Int × Int} (hx : x.2 ≠ 0) (hy : y.2 ≠ 0) : rat (addF x y) = rat x + rat y := by
  unfold addF
  rw [rat_fr _ (Int.mul_ne_zero hx hy)]
  unfold rat
  have h1 := cast_ne hx
  have h2 := cast_ne hy
  rw [Rat.intCast_add, Rat.intCast_mul, Rat.intCast_mul, Rat.intCast_mul]
  grind
theorem rat_sub {x y : Int × Int} (hx : x.2 ≠ 0) (hy : y.2 ≠ 0) : rat (subF x y) = rat x - rat y := by
  unfold subF
  rw [rat_fr _ (Int.mul_ne_zero hx hy)]
  unfold rat
  have h1 := cast_ne hx
  have h2 := cast_ne hy
  rw [Rat.intCast_sub, Rat.intCast_mul, Rat.intCast_mul, Rat.intCast_mul]
  grind
theorem rat_mul {x y : Int × Int} (hx : x.2 ≠ 0) (hy : y.2 ≠ 0) : rat (mulF x y) = rat x * rat y := by
  unfold mulF
  rw [rat_fr _ (Int.mul_ne_zero hx hy)]
  unfold rat
  have h1 := cast_ne hx
  have h2 := cast_ne hy
  rw [Rat.intCast_mul, Rat.intCast_mul]
  grind
theorem sgn_int (i : Int) : sgn (i : Rat) = sgI i := by
  unfold sgI
  rcases Int.lt_trichotomy i 0 with z | z | z
  · rw [if_neg (by omega), if_pos z, sgn_neg (by exact_mod_cast z)]
  · subst z
    rw [if_neg (by decide), if_neg (by decide)]
    exact sgn_zero
  · rw [if_pos z, sgn_pos (by exact_mod_cast z)]
theorem rat_den {x : Int × Int} (h : x.2 ≠ 0) : rat x * (x.2 : Rat) = (x.1 : Rat) := by
  unfold rat
  have := cast_ne h
  grind
theorem rat_sgn {x : Int × Int} (h : 0 < x.2) : sgn (rat x) = sgI x.1 := by
  have e := rat_den (x := x) (by omega)
  have p : (0 : Rat) < (x.2 : Rat) := by exact_mod_cast h
  rw [← sgn_int, ← e, sgn_mul, sgn_pos p, Int.mul_one]
theorem rat_inj {x y : Int × Int} {j k : Nat} (hx : Fq j x) (hy : Fq k y) (h : rat x = rat y) : x = y := by
  have dx := hx.2.2.1
  have dy := hy.2.2.1
  have e1 := rat_den (x := x) (by omega)
  have e2 := rat_den (x := y) (by omega)
  have e : x.1 * y.2 = y.1 * x.2 := by
    have : ((x.1 * y.2 : Int) : Rat) = ((y.1 * x.2 : Int) : Rat) := by
      rw [Rat.intCast_mul, Rat.intCast_mul, ← e1, ← e2, h]
      grind
    exact_mod_cast this
  have f1 := fr_mul (g := y.2) (by omega) dx hx.2.2.2
  have f2 := fr_mul (g := x.2) (by omega) dy hy.2.2.2
  rw [e, Int.mul_comm x.2 y.2] at f1
  exact f1.symm.trans f2
theorem rat_lt {x y : Int × Int} (hx : 0 < x.2) (hy : 0 < y.2) : lessF x y = true ↔ rat x < rat y := by
  have e1 := rat_den (x := x) (by omega)
  have e2 := rat_den (x := y) (by omega)
  have p1 : (0 : Rat) < (x.2 : Rat) := by exact_mod_cast hx
  have p2 : (0 : Rat) < (y.2 : Rat) := by exact_mod_cast hy
  have pp := mpos p1 p2
  unfold lessF
  rw [decide_eq_true_eq]
  have : x.1 * y.2 < y.1 * x.2 ↔ ((x.1 * y.2 : Int) : Rat) < ((y.1 * x.2 : Int) : Rat) := by
    constructor
    · intro h; exact_mod_cast h
    · intro h; exact_mod_cast h
  rw [this, Rat.intCast_mul, Rat.intCast_mul, ← e1, ← e2]
  constructor
  · intro h
    rcases Std.lt_trichotomy (rat x) (rat y) with z | z | z
    · exact z
    · rw [z] at h; grind
    · have := mpos (a := rat x - rat y) (by grind) pp
      grind
  · intro z
    have := mpos (a := rat y - rat x) (by grind) pp
    grind
end OF

set_option Elab.async false
set_option linter.all false
set_option maxRecDepth 100000
namespace FM
def B_is_of (c_is_frac : Nat) (c_is_of : Nat) : Ss := (.cons (.ifs (.cmp .Eq (.var 1) (.tup .nil)) (.cons (.ret (.call c_is_frac (.cons (.var 0) .nil))) .nil) .nil) (.cons (.ret (.and (.isi (.var 0) .tuple) (.and (.cmp .Eq (.bi .len (.cons (.var 0) .nil)) (.int 2)) (.bi .all (.cons (.lc (.call c_is_of (.cons (.var 2) (.cons (.sl (.var 1) .none (.some (.neg (.int 1)))) .nil))) (.nm 2) (.seq (.var 0)) .none) .nil))))) .nil))
def B_lifted (c_nought : Nat) : Ss := (.cons (.for_ (.nm 3) (.rng2 (.bi .len (.cons (.var 1) .nil)) (.bi .len (.cons (.var 2) .nil))) (.cons (.asg 0 (.tup (.cons (.var 0) (.cons (.call c_nought (.cons (.sl (.var 2) .none (.some (.var 3))) .nil)) .nil)))) .nil)) (.cons (.ret (.var 0)) .nil))
def B_nought (c_lifted : Nat) : Ss := (.cons (.ret (.call c_lifted (.cons (.tup (.cons (.int 0) (.cons (.int 1) .nil))) (.cons (.tup .nil) (.cons (.var 0) .nil))))) .nil)
def B_number (c_lifted : Nat) : Ss := (.cons (.ret (.call c_lifted (.cons (.var 0) (.cons (.tup .nil) (.cons (.var 1) .nil))))) .nil)
def B_add (c_plus : Nat) (c_add : Nat) : Ss := (.cons (.ifs (.cmp .Eq (.var 2) (.tup .nil)) (.cons (.ret (.call c_plus (.cons (.var 0) (.cons (.var 1) .nil)))) .nil) .nil) (.cons (.asg 3 (.sl (.var 2) .none (.some (.neg (.int 1))))) (.cons (.ret (.tup (.cons (.call c_add (.cons (.ix (.var 0) (.int 0)) (.cons (.ix (.var 1) (.int 0)) (.cons (.var 3) .nil)))) (.cons (.call c_add (.cons (.ix (.var 0) (.int 1)) (.cons (.ix (.var 1) (.int 1)) (.cons (.var 3) .nil)))) .nil)))) .nil)))
def B_sub (c_minus : Nat) (c_sub : Nat) : Ss := (.cons (.ifs (.cmp .Eq (.var 2) (.tup .nil)) (.cons (.ret (.call c_minus (.cons (.var 0) (.cons (.var 1) .nil)))) .nil) .nil) (.cons (.asg 3 (.sl (.var 2) .none (.some (.neg (.int 1))))) (.cons (.ret (.tup (.cons (.call c_sub (.cons (.ix (.var 0) (.int 0)) (.cons (.ix (.var 1) (.int 0)) (.cons (.var 3) .nil)))) (.cons (.call c_sub (.cons (.ix (.var 0) (.int 1)) (.cons (.ix (.var 1) (.int 1)) (.cons (.var 3) .nil)))) .nil)))) .nil)))
def B_mul (c_times : Nat) (c_is_nought : Nat) (c_mul : Nat) (c_add : Nat) : Ss := (.cons (.ifs (.cmp .Eq (.var 2) (.tup .nil)) (.cons (.ret (.call c_times (.cons (.var 0) (.cons (.var 1) .nil)))) .nil) .nil) (.cons (.par 5 6 (.sl (.var 2) .none (.some (.neg (.int 1)))) (.ix (.var 2) (.neg (.int 1)))) (.cons (.ifs (.and (.call c_is_nought (.cons (.ix (.var 0) (.int 1)) (.cons (.var 5) .nil))) (.call c_is_nought (.cons (.ix (.var 1) (.int 1)) (.cons (.var 5) .nil)))) (.cons (.ret (.tup (.cons (.call c_mul (.cons (.ix (.var 0) (.int 0)) (.cons (.ix (.var 1) (.int 0)) (.cons (.var 5) .nil)))) (.cons (.ix (.var 0) (.int 1)) .nil)))) .nil) .nil) (.cons (.asg 3 (.call c_mul (.cons (.call c_mul (.cons (.ix (.var 0) (.int 1)) (.cons (.ix (.var 1) (.int 1)) (.cons (.var 5) .nil)))) (.cons (.var 6) (.cons (.var 5) .nil))))) (.cons (.asg 4 (.call c_add (.cons (.call c_mul (.cons (.ix (.var 0) (.int 0)) (.cons (.ix (.var 1) (.int 1)) (.cons (.var 5) .nil)))) (.cons (.call c_mul (.cons (.ix (.var 0) (.int 1)) (.cons (.ix (.var 1) (.int 0)) (.cons (.var 5) .nil)))) (.cons (.var 5) .nil))))) (.cons (.ret (.tup (.cons (.call c_add (.cons (.call c_mul (.cons (.ix (.var 0) (.int 0)) (.cons (.ix (.var 1) (.int 0)) (.cons (.var 5) .nil)))) (.cons (.var 3) (.cons (.var 5) .nil)))) (.cons (.var 4) .nil)))) .nil))))))
def B_is_nought (c_is_nought : Nat) : Ss := (.cons (.ifs (.cmp .Eq (.var 1) (.tup .nil)) (.cons (.ret (.cmp .Eq (.ix (.var 0) (.int 0)) (.int 0))) .nil) .nil) (.cons (.ret (.and (.call c_is_nought (.cons (.ix (.var 0) (.int 0)) (.cons (.sl (.var 1) .none (.some (.neg (.int 1)))) .nil))) (.call c_is_nought (.cons (.ix (.var 0) (.int 1)) (.cons (.sl (.var 1) .none (.some (.neg (.int 1)))) .nil))))) .nil))
def B_norm (c_sub : Nat) (c_mul : Nat) : Ss := (.cons (.asg 2 (.sl (.var 1) .none (.some (.neg (.int 1))))) (.cons (.ret (.call c_sub (.cons (.call c_mul (.cons (.ix (.var 0) (.int 0)) (.cons (.ix (.var 0) (.int 0)) (.cons (.var 2) .nil)))) (.cons (.call c_mul (.cons (.call c_mul (.cons (.ix (.var 0) (.int 1)) (.cons (.ix (.var 0) (.int 1)) (.cons (.var 2) .nil)))) (.cons (.ix (.var 1) (.neg (.int 1))) (.cons (.var 2) .nil)))) (.cons (.var 2) .nil))))) .nil))
def B_sign (c_sign_of : Nat) (c_sign : Nat) (c_norm : Nat) : Ss := (.cons (.ifs (.cmp .Eq (.var 1) (.tup .nil)) (.cons (.ret (.call c_sign_of (.cons (.var 0) .nil))) .nil) .nil) (.cons (.par 2 3 (.call c_sign (.cons (.ix (.var 0) (.int 0)) (.cons (.sl (.var 1) .none (.some (.neg (.int 1)))) .nil))) (.call c_sign (.cons (.ix (.var 0) (.int 1)) (.cons (.sl (.var 1) .none (.some (.neg (.int 1)))) .nil)))) (.cons (.ifs (.or (.cmp .Eq (.var 3) (.int 0)) (.cmp .Eq (.var 2) (.var 3))) (.cons (.ret (.var 2)) .nil) .nil) (.cons (.ifs (.cmp .Eq (.var 2) (.int 0)) (.cons (.ret (.var 3)) .nil) .nil) (.cons (.ret (.op .Mult (.var 2) (.call c_sign (.cons (.call c_norm (.cons (.var 0) (.cons (.var 1) .nil))) (.cons (.sl (.var 1) .none (.some (.neg (.int 1)))) .nil))))) .nil)))))
def B_compare (c_sign : Nat) (c_sub : Nat) : Ss := (.cons (.ret (.call c_sign (.cons (.call c_sub (.cons (.var 0) (.cons (.var 1) (.cons (.var 2) .nil)))) (.cons (.var 2) .nil)))) .nil)
def B_with_root (c_fraction_of : Nat) (c_exact_root : Nat) (c_number : Nat) (c_compare : Nat) (c_lifted : Nat) (c_nought : Nat) : Ss := (.cons (.asg 2 (.call c_fraction_of (.cons (.var 0) (.cons (.var 1) .nil)))) (.cons (.ifs (.and (.cmp .IsNot (.var 2) .non) (.cmp .IsNot (.call c_exact_root (.cons (.var 2) .nil)) .non)) (.cons (.ret (.tup (.cons (.var 1) (.cons (.call c_number (.cons (.call c_exact_root (.cons (.var 2) .nil)) (.cons (.var 1) .nil))) .nil)))) .nil) .nil) (.cons (.for_ (.nm 3) (.rng1 (.bi .len (.cons (.var 1) .nil))) (.cons (.ifs (.cmp .Eq (.call c_compare (.cons (.var 0) (.cons (.call c_lifted (.cons (.ix (.var 1) (.var 3)) (.cons (.sl (.var 1) .none (.some (.var 3))) (.cons (.var 1) .nil)))) (.cons (.var 1) .nil)))) (.int 0)) (.cons (.ret (.tup (.cons (.var 1) (.cons (.call c_lifted (.cons (.tup (.cons (.call c_nought (.cons (.sl (.var 1) .none (.some (.var 3))) .nil)) (.cons (.call c_number (.cons (.tup (.cons (.int 1) (.cons (.int 1) .nil))) (.cons (.sl (.var 1) .none (.some (.var 3))) .nil))) .nil))) (.cons (.sl (.var 1) .none (.some (.op .Add (.var 3) (.int 1)))) (.cons (.var 1) .nil)))) .nil)))) .nil) .nil) .nil)) (.cons (.asg 4 (.op .Add (.var 1) (.tup (.cons (.var 0) .nil)))) (.cons (.ret (.tup (.cons (.var 4) (.cons (.tup (.cons (.call c_nought (.cons (.var 1) .nil)) (.cons (.call c_number (.cons (.tup (.cons (.int 1) (.cons (.int 1) .nil))) (.cons (.var 1) .nil))) .nil))) .nil)))) .nil)))))
def B_fraction_of (c_is_nought : Nat) : Ss := (.cons (.for_ (.nm 2) (.rng3 (.bi .len (.cons (.var 1) .nil)) (.int 0) (.neg (.int 1))) (.cons (.ifs (.not (.call c_is_nought (.cons (.ix (.var 0) (.int 1)) (.cons (.sl (.var 1) .none (.some (.op .Sub (.var 2) (.int 1)))) .nil)))) (.cons (.ret .non) .nil) .nil) (.cons (.asg 0 (.ix (.var 0) (.int 0))) .nil))) (.cons (.ret (.var 0)) .nil))
def B_is_time (c_is_of : Nat) (c_sign : Nat) : Ss := (.cons (.ifs (.or (.not (.isi (.var 0) .tuple)) (.or (.cmp .NotEq (.bi .len (.cons (.var 0) .nil)) (.int 3)) (.not (.bi .all (.cons (.lc (.call c_is_of (.cons (.var 2) (.cons (.var 1) .nil))) (.nm 2) (.seq (.var 0)) .none) .nil))))) (.cons (.ret (.bl false)) .nil) .nil) (.cons (.ret (.cmp .GtE (.call c_sign (.cons (.ix (.var 0) (.int 2)) (.cons (.var 1) .nil))) (.int 0))) .nil))
def B_plain_time (c_nought : Nat) : Ss := (.cons (.ret (.tup (.cons (.var 0) (.cons (.call c_nought (.cons (.var 1) .nil)) (.cons (.call c_nought (.cons (.var 1) .nil)) .nil))))) .nil)
def B_time_number (c_is_nought : Nat) (c_with_root : Nat) (c_add : Nat) (c_mul : Nat) (c_lifted : Nat) : Ss := (.cons (.asgT [2, 3, 4] (.var 0)) (.cons (.ifs (.or (.call c_is_nought (.cons (.var 3) (.cons (.var 1) .nil))) (.call c_is_nought (.cons (.var 4) (.cons (.var 1) .nil)))) (.cons (.ret (.tup (.cons (.var 1) (.cons (.var 2) .nil)))) .nil) .nil) (.cons (.asgT [5, 6] (.call c_with_root (.cons (.var 4) (.cons (.var 1) .nil)))) (.cons (.ret (.tup (.cons (.var 5) (.cons (.call c_add (.cons (.call c_lifted (.cons (.var 2) (.cons (.var 1) (.cons (.var 5) .nil)))) (.cons (.call c_mul (.cons (.call c_lifted (.cons (.var 3) (.cons (.var 1) (.cons (.var 5) .nil)))) (.cons (.var 6) (.cons (.var 5) .nil)))) (.cons (.var 5) .nil)))) .nil)))) .nil))))
def B_raised_time (c_lifted : Nat) : Ss := (.cons (.ret (.bi .tuple (.cons (.lc (.call c_lifted (.cons (.var 3) (.cons (.var 1) (.cons (.var 2) .nil)))) (.nm 3) (.seq (.var 0)) .none) .nil))) .nil)
def B_compare_times (c_time_number : Nat) (c_raised_time : Nat) (c_sign : Nat) (c_sub : Nat) (c_lifted : Nat) : Ss := (.cons (.ifs (.cmp .Eq (.var 0) (.var 1)) (.cons (.ret (.int 0)) .nil) .nil) (.cons (.asgT [3, 4] (.call c_time_number (.cons (.var 0) (.cons (.var 2) .nil)))) (.cons (.asgT [5, 6] (.call c_time_number (.cons (.call c_raised_time (.cons (.var 1) (.cons (.var 2) (.cons (.var 3) .nil)))) (.cons (.var 3) .nil)))) (.cons (.ret (.call c_sign (.cons (.call c_sub (.cons (.call c_lifted (.cons (.var 4) (.cons (.var 3) (.cons (.var 5) .nil)))) (.cons (.var 6) (.cons (.var 5) .nil)))) (.cons (.var 5) .nil)))) .nil))))
def B_sign_of_time (c_compare_times : Nat) (c_plain_time : Nat) (c_nought : Nat) : Ss := (.cons (.ret (.call c_compare_times (.cons (.var 0) (.cons (.call c_plain_time (.cons (.call c_nought (.cons (.var 1) .nil)) (.cons (.var 1) .nil))) (.cons (.var 1) .nil))))) .nil)
def B_sorted_times (c_compare_times : Nat) : Ss := (.cons (.own 2) (.cons (.for_ (.nm 3) (.seq (.var 0)) (.cons (.asg 4 (.int 0)) (.cons (.whl (.and (.cmp .Lt (.var 4) (.bi .len (.cons (.var 2) .nil))) (.cmp .Lt (.call c_compare_times (.cons (.ix (.var 2) (.var 4)) (.cons (.var 3) (.cons (.var 1) .nil)))) (.int 0))) (.cons (.aug 4 .Add (.int 1)) .nil)) (.cons (.ifs (.or (.cmp .Eq (.var 4) (.bi .len (.cons (.var 2) .nil))) (.cmp .NotEq (.call c_compare_times (.cons (.ix (.var 2) (.var 4)) (.cons (.var 3) (.cons (.var 1) .nil)))) (.int 0))) (.cons (.ins 2 (.var 4) (.var 3)) .nil) .nil) .nil)))) (.cons (.ret (.bi .tuple (.cons (.var 2) .nil))) .nil)))
def B_midway (c_time_number : Nat) (c_raised_time : Nat) (c_add : Nat) (c_lifted : Nat) (c_mul : Nat) (c_number : Nat) : Ss := (.cons (.asgT [4, 5] (.call c_time_number (.cons (.var 0) (.cons (.var 2) .nil)))) (.cons (.asgT [6, 7] (.call c_time_number (.cons (.call c_raised_time (.cons (.var 1) (.cons (.var 2) (.cons (.var 4) .nil)))) (.cons (.var 4) .nil)))) (.cons (.asg 3 (.call c_add (.cons (.call c_lifted (.cons (.var 5) (.cons (.var 4) (.cons (.var 6) .nil)))) (.cons (.var 7) (.cons (.var 6) .nil))))) (.cons (.ret (.tup (.cons (.var 6) (.cons (.call c_mul (.cons (.var 3) (.cons (.call c_number (.cons (.tup (.cons (.int 1) (.cons (.int 2) .nil))) (.cons (.var 6) .nil))) (.cons (.var 6) .nil)))) .nil)))) .nil))))
def B_beside (c_time_number : Nat) (c_add : Nat) (c_number : Nat) : Ss := (.cons (.asgT [3, 4] (.call c_time_number (.cons (.var 0) (.cons (.var 2) .nil)))) (.cons (.ret (.tup (.cons (.var 3) (.cons (.call c_add (.cons (.var 4) (.cons (.call c_number (.cons (.tup (.cons (.var 1) (.cons (.int 1) .nil))) (.cons (.var 3) .nil))) (.cons (.var 3) .nil)))) .nil)))) .nil))
def B_is_same_time (c_compare_times : Nat) : Ss := (.cons (.ret (.cmp .Eq (.call c_compare_times (.cons (.var 0) (.cons (.var 1) (.cons (.var 2) .nil)))) (.int 0))) .nil)
def B_is_within (c_compare_times : Nat) : Ss := (.cons (.ifs (.and (.cmp .IsNot (.var 1) .non) (.cmp .GtE (.call c_compare_times (.cons (.var 1) (.cons (.var 0) (.cons (.var 3) .nil)))) (.int 0))) (.cons (.ret (.bl false)) .nil) .nil) (.cons (.ret (.or (.cmp .Is (.var 2) .non) (.cmp .Lt (.call c_compare_times (.cons (.var 0) (.cons (.var 2) (.cons (.var 3) .nil)))) (.int 0)))) .nil))
def B_least_time (c_compare_times : Nat) : Ss := (.cons (.asg 2 .non) (.cons (.for_ (.nm 3) (.seq (.var 0)) (.cons (.ifs (.or (.cmp .Is (.var 2) .non) (.cmp .Lt (.call c_compare_times (.cons (.var 3) (.cons (.var 2) (.cons (.var 1) .nil)))) (.int 0))) (.cons (.asg 2 (.var 3)) .nil) .nil) .nil)) (.cons (.ret (.var 2)) .nil)))
def B_time_of (c_plain_time : Nat) (c_number : Nat) : Ss := (.cons (.ret (.call c_plain_time (.cons (.call c_number (.cons (.var 0) (.cons (.ix (.var 1) (.int 0)) .nil))) (.cons (.ix (.var 1) (.int 0)) .nil)))) .nil)
def B_times_in (c_raised_time : Nat) : Ss := (.cons (.ret (.bi .tuple (.cons (.lc (.call c_raised_time (.cons (.var 3) (.cons (.ix (.var 1) (.int 0)) (.cons (.var 2) .nil)))) (.nm 3) (.seq (.var 0)) .none) .nil))) .nil)
def B__law_pick (c__law_next : Nat) : Ss := (.cons (.ret (.ix (.var 1) (.call c__law_next (.cons (.var 0) (.cons (.bi .len (.cons (.var 1) .nil)) .nil))))) .nil)
def B__law_sign_two (c__law_sgn : Nat) (c__law_sub : Nat) (c__law_mul : Nat) : Ss := (.cons (.par 3 4 (.call c__law_sgn (.cons (.var 0) .nil)) (.ife (.cmp .Gt (.ix (.var 2) (.int 0)) (.int 0)) (.call c__law_sgn (.cons (.var 1) .nil)) (.int 0))) (.cons (.ifs (.or (.cmp .Eq (.var 4) (.int 0)) (.cmp .Eq (.var 3) (.var 4))) (.cons (.ret (.var 3)) .nil) .nil) (.cons (.ifs (.cmp .Eq (.var 3) (.int 0)) (.cons (.ret (.var 4)) .nil) .nil) (.cons (.ret (.op .Mult (.var 3) (.call c__law_sgn (.cons (.call c__law_sub (.cons (.call c__law_mul (.cons (.var 0) (.cons (.var 0) .nil))) (.cons (.call c__law_mul (.cons (.call c__law_mul (.cons (.var 1) (.cons (.var 1) .nil))) (.cons (.var 2) .nil))) .nil))) .nil)))) .nil))))
def B__law_before (c__law_sub : Nat) (c__law_sign_two : Nat) (c__law_sgn : Nat) (c__law_mul : Nat) (c__law_add : Nat) : Ss := (.cons (.asgT [4, 5, 6, 7] (.tup (.cons (.call c__law_sub (.cons (.ix (.var 0) (.int 0)) (.cons (.ix (.var 1) (.int 0)) .nil))) (.cons (.ix (.var 0) (.int 1)) (.cons (.ix (.var 0) (.int 2)) (.cons (.ix (.var 1) (.int 2)) .nil)))))) (.cons (.asg 2 (.call c__law_sub (.cons (.tup (.cons (.int 0) (.cons (.int 1) .nil))) (.cons (.ix (.var 1) (.int 1)) .nil)))) (.cons (.par 8 9 (.call c__law_sign_two (.cons (.var 4) (.cons (.var 5) (.cons (.var 6) .nil)))) (.ife (.cmp .Gt (.ix (.var 7) (.int 0)) (.int 0)) (.call c__law_sgn (.cons (.var 2) .nil)) (.int 0))) (.cons (.ifs (.or (.cmp .Eq (.var 9) (.int 0)) (.cmp .Eq (.var 8) (.var 9))) (.cons (.ret (.var 8)) .nil) .nil) (.cons (.ifs (.cmp .Eq (.var 8) (.int 0)) (.cons (.ret (.var 9)) .nil) .nil) (.cons (.asg 3 (.call c__law_sub (.cons (.call c__law_add (.cons (.call c__law_mul (.cons (.var 4) (.cons (.var 4) .nil))) (.cons (.call c__law_mul (.cons (.call c__law_mul (.cons (.var 5) (.cons (.var 5) .nil))) (.cons (.var 6) .nil))) .nil))) (.cons (.call c__law_mul (.cons (.call c__law_mul (.cons (.var 2) (.cons (.var 2) .nil))) (.cons (.var 7) .nil))) .nil)))) (.cons (.ret (.op .Mult (.var 8) (.call c__law_sign_two (.cons (.var 3) (.cons (.call c__law_mul (.cons (.tup (.cons (.int 2) (.cons (.int 1) .nil))) (.cons (.call c__law_mul (.cons (.var 4) (.cons (.var 5) .nil))) .nil))) (.cons (.var 6) .nil)))))) .nil)))))))
def B__law_plain : Ss := (.cons (.ret (.tup (.cons (.var 0) (.cons (.tup (.cons (.int 0) (.cons (.int 1) .nil))) (.cons (.tup (.cons (.int 0) (.cons (.int 1) .nil))) .nil))))) .nil)
def B__law_between (c__law_before : Nat) (c__law_plain : Nat) (c__law_fr : Nat) : Ss := (.cons (.asg 2 (.int 1)) (.cons (.ifs (.and (.cmp .Is (.var 0) .non) (.cmp .Is (.var 1) .non)) (.cons (.ret (.tup (.cons (.int 0) (.cons (.int 1) .nil)))) .nil) .nil) (.cons (.for_ (.nm 3) (.rng1 (.int 200)) (.cons (.par 6 7 (.op .Sub (.op .Mult (.op .Mult (.neg (.int 4)) (.var 2)) (.var 2)) (.int 4)) (.op .Add (.op .Mult (.op .Mult (.int 4) (.var 2)) (.var 2)) (.int 4))) (.cons (.whl (.cmp .Gt (.op .Sub (.var 7) (.var 6)) (.int 1)) (.cons (.asg 8 (.op .FloorDiv (.op .Add (.var 6) (.var 7)) (.int 2))) (.cons (.ifs (.or (.and (.cmp .IsNot (.var 0) .non) (.cmp .LtE (.call c__law_before (.cons (.call c__law_plain (.cons (.call c__law_fr (.cons (.var 8) (.cons (.var 2) .nil))) .nil)) (.cons (.var 0) .nil))) (.int 0))) (.and (.cmp .Is (.var 0) .non) (.cmp .Lt (.call c__law_before (.cons (.call c__law_plain (.cons (.call c__law_fr (.cons (.op .Add (.var 8) (.int 1)) (.cons (.var 2) .nil))) .nil)) (.cons (.var 1) .nil))) (.int 0)))) (.cons (.asg 6 (.var 8)) .nil) (.cons (.asg 7 (.var 8)) .nil)) .nil))) (.cons (.asg 4 (.ife (.cmp .IsNot (.var 0) .non) (.call c__law_fr (.cons (.var 7) (.cons (.var 2) .nil))) (.call c__law_fr (.cons (.var 6) (.cons (.var 2) .nil))))) (.cons (.asg 5 (.and (.or (.cmp .Is (.var 0) .non) (.cmp .Lt (.call c__law_before (.cons (.var 0) (.cons (.call c__law_plain (.cons (.var 4) .nil)) .nil))) (.int 0))) (.or (.cmp .Is (.var 1) .non) (.cmp .Lt (.call c__law_before (.cons (.call c__law_plain (.cons (.var 4) .nil)) (.cons (.var 1) .nil))) (.int 0))))) (.cons (.ifs (.var 5) (.cons (.ret (.var 4)) .nil) .nil) (.cons (.asg 2 (.op .Mult (.int 2) (.var 2))) .nil))))))) (.cons (.ret .non) .nil))))
def B__law_num (c__law_fr : Nat) (c__law_pick : Nat) (c__law_next : Nat) : Ss := (.cons (.ret (.call c__law_fr (.cons (.op .Sub (.call c__law_next (.cons (.var 0) (.cons (.op .Add (.op .Mult (.int 2) (.var 1)) (.int 1)) .nil))) (.var 1)) (.cons (.call c__law_pick (.cons (.var 0) (.cons (.lst (.cons (.int 1) (.cons (.int 1) (.cons (.int 2) (.cons (.int 3) .nil))))) .nil))) .nil)))) .nil)
def B__law_time (c__law_fr : Nat) (c__law_next : Nat) (c__law_pick : Nat) (c__law_num : Nat) : Ss := (.cons (.ret (.tup (.cons (.call c__law_num (.cons (.var 0) (.cons (.int 4) .nil))) (.cons (.call c__law_pick (.cons (.var 0) (.cons (.lst (.cons (.tup (.cons (.int 0) (.cons (.int 1) .nil))) (.cons (.call c__law_num (.cons (.var 0) (.cons (.int 3) .nil))) (.cons (.call c__law_num (.cons (.var 0) (.cons (.int 3) .nil))) .nil)))) .nil))) (.cons (.call c__law_fr (.cons (.call c__law_next (.cons (.var 0) (.cons (.int 9) .nil))) (.cons (.op .Add (.int 1) (.call c__law_next (.cons (.var 0) (.cons (.int 3) .nil)))) .nil))) .nil))))) .nil)
def B__law_against (c_sign : Nat) (c_sub : Nat) (c_number : Nat) : Ss := (.cons (.asgT [2, 3] (.var 0)) (.cons (.ret (.call c_sign (.cons (.call c_sub (.cons (.var 3) (.cons (.call c_number (.cons (.var 1) (.cons (.var 2) .nil))) (.cons (.var 2) .nil)))) (.cons (.var 2) .nil)))) .nil))
end FM

set_option Elab.async false
set_option linter.all false
set_option maxRecDepth 100000
set_option maxHeartbeats 4000000
/-! N1: numbers of towers as plain data. -/
namespace FM
open PySem (Str sizeLine)
open L2 (atI ixN Key)
open PySem.Spec PyProof.Rows
def Nm : Nat → Type
  | 0 => Int × Int
  | n + 1 => Nm n × Nm n
def nD : (n : Nat) → Nm n → D
  | 0, x => fD x
  | n + 1, x => .tup [nD n x.1, nD n x.2]
inductive Tw : Nat → Type
  | nil : Tw 0
  | snoc {n : Nat} (t : Tw n) (r : Nm n) : Tw (n + 1)
def twL : {n : Nat} → Tw n → List D
  | _, .nil => []
  | n + 1, .snoc t r => twL t ++ [nD n r]
abbrev tD {n : Nat} (t : Tw n) : D := .tup (twL t)
theorem twL_len : {n : Nat} → (t : Tw n) → (twL t).length = n
  | _, .nil => rfl
  | n + 1, .snoc t r => by
    unfold twL
    rw [List.length_append, twL_len t]
    rfl
/-- data that may be held against others -/
def Sh (k : Nat) (d : D) : Prop := d.noCell = true ∧ d.py.canLay0 = true ∧ d.py.depth ≤ k
def ShL (k : Nat) (ds : List D) : Prop := noCells ds = true ∧ PySem.PyData.canLayAll0 (pyAll ds) = true ∧ PySem.PyData.depthAll (pyAll ds) ≤ k
theorem Sh.mono {j k : Nat} {d : D} (h : Sh j d) (l : j ≤ k) : Sh k d := ⟨h.1, h.2.1, Nat.le_trans h.2.2 l⟩
theorem ShL.nil (k : Nat) : ShL k [] := ⟨rfl, rfl, Nat.zero_le _⟩
theorem ShL.cons {k : Nat} {d : D} {ds : List D} (h : Sh k d) (g : ShL k ds) : ShL k (d :: ds) := by
  obtain ⟨h1, h2, h3⟩ := h
  obtain ⟨g1, g2, g3⟩ := g
  refine ⟨?_, ?_, ?_⟩
  · unfold noCells; rw [h1, g1]; rfl
  · unfold pyAll PySem.PyData.canLayAll0; rw [h2, g2]; rfl
  · unfold pyAll PySem.PyData.depthAll; omega
theorem ShL.append {k : Nat} {ds es : List D} (h : ShL k ds) (g : ShL k es) : ShL k (ds ++ es) := by
  induction ds with
  | nil => exact g
  | cons d ds ih =>
    obtain ⟨h1, h2, h3⟩ := h
    unfold noCells at h1
    unfold pyAll PySem.PyData.canLayAll0 at h2
    unfold pyAll PySem.PyData.depthAll at h3
    rw [Bool.and_eq_true] at h1 h2
    exact .cons ⟨h1.1, h2.1, by omega⟩ (ih ⟨h1.2, h2.2, by omega⟩)
theorem Sh.tup {k : Nat} {ds : List D} (h : ShL k ds) : Sh (k + 1) (.tup ds) := by
  obtain ⟨h1, h2, h3⟩ := h
  refine ⟨?_, ?_, ?_⟩
  · unfold D.noCell; exact h1
  · unfold D.py PySem.PyData.canLay0; exact h2
  · unfold D.py PySem.PyData.depth; omega
theorem Sh.int (k : Nat) (i : Int) : Sh k (.int i) := ⟨rfl, by unfold D.py PySem.PyData.canLay0; rfl, by unfold D.py PySem.PyData.depth; exact Nat.zero_le _⟩
theorem Sh.ok {k : Nat} {d : D} (h : Sh k d) (l : k ≤ 64) : shOk d = true := by
  unfold shOk PySem.SeqAt.shaped
  rw [h.1, h.2.1, decide_eq_true (Nat.le_trans h.2.2 l)]
  rfl
theorem sh_nD : (n : Nat) → (x : Nm n) → Sh (n + 1) (nD n x)
  | 0, x => .tup (.cons (.int _ _) (.cons (.int _ _) (.nil _)))
  | n + 1, x => .tup (.cons (sh_nD n x.1) (.cons (sh_nD n x.2) (.nil _)))
theorem sh_tw : {n : Nat} → (t : Tw n) → ShL (n + 1) (twL t)
  | _, .nil => .nil _
  | n + 1, .snoc t r => by
    have h := sh_tw t
    unfold twL
    exact .append ⟨h.1, h.2.1, by have := h.2.2; omega⟩ (.cons ((sh_nD n r).mono (by omega)) (.nil _))
theorem tw_nil {n : Nat} (t : Tw n) (hn : n ≤ 60) : cmpD .Eq (tD t) (.tup []) = some (decide (n = 0)) := by
  have s1 := (Sh.tup (sh_tw t)).ok (by omega)
  have s2 : shOk (.tup []) = true := (Sh.tup (ShL.nil 0)).ok (by omega)
  show eqD _ _ = _
  unfold eqD
  have s0 : scalOk (tD t) (.tup []) = false := rfl
  rw [s0, if_neg (by decide), s1, s2, Bool.and_self, if_pos rfl]
  cases t with
  | nil => rfl
  | snoc t r =>
    have e : ∃ d ds, twL (Tw.snoc t r) = d :: ds := by
      cases h : twL (Tw.snoc t r) with
      | nil => have := twL_len (Tw.snoc t r); rw [h] at this; cases this
      | cons d ds => exact ⟨d, ds, rfl⟩
    obtain ⟨d, ds, e⟩ := e
    show some (PySem.PyData.eqv (D.tup (twL (Tw.snoc t r))).py (D.tup []).py) = _
    rw [e]
    rfl
theorem cut_snoc {α : Type} (l : List α) (d : α) : cutD (l ++ [d]) none (some (-1)) = l := by
  have e : HT.sIx (l ++ [d]).length (l ++ [d]).length (some (-1)) = l.length := by
    show (if (-1 : Int) < 0 then (-1 + ((l ++ [d]).length : Int)).toNat else min (-1 : Int).toNat (l ++ [d]).length) = _
    rw [if_pos (by decide), List.length_append, List.length_singleton]
    omega
  unfold cutD
  rw [e]
  show ((l ++ [d]).drop 0).take (l.length - 0) = l
  rw [List.drop_zero, Nat.sub_zero, List.take_left]
theorem sl_tw {n : Nat} (t : Tw n) (r : Nm n) : slD (tD (.snoc t r)) none (some (-1)) = some (tD t) := by
  show some (D.tup (cutD (twL t ++ [nD n r]) none (some (-1)))) = _
  rw [cut_snoc]
theorem ix_tw (μ : Cells) {n : Nat} (t : Tw n) (r : Nm n) : ixD μ (tD (.snoc t r)) (.int (-1)) = some (nD n r) := atI_last
end FM

set_option Elab.async false
set_option linter.all false
set_option maxRecDepth 100000
set_option maxHeartbeats 4000000
/-! N2: sums, products, signs of tower numbers, and what the defs compute. -/
namespace FM
open PySem (Str sizeLine)
open L2 (atI ixN Key)
open PySem.Spec PyProof.Rows
def addN : (n : Nat) → Nm n → Nm n → Nm n
  | 0, x, y => addF x y
  | n + 1, x, y => (addN n x.1 y.1, addN n x.2 y.2)
def subN : (n : Nat) → Nm n → Nm n → Nm n
  | 0, x, y => subF x y
  | n + 1, x, y => (subN n x.1 y.1, subN n x.2 y.2)
def isN : (n : Nat) → Nm n → Bool
  | 0, x => decide (Prod.fst (α := Int) (β := Int) x = 0)
  | n + 1, x => isN n x.1 && isN n x.2
def mulN : {n : Nat} → Tw n → Nm n → Nm n → Nm n
  | _, .nil, x, y => mulF x y
  | n + 1, .snoc t r, x, y =>
    if isN n x.2 && isN n y.2 then (mulN t x.1 y.1, x.2)
    else (addN n (mulN t x.1 y.1) (mulN t (mulN t x.2 y.2) r), addN n (mulN t x.1 y.2) (mulN t x.2 y.1))
def normN {n : Nat} (t : Tw n) (r : Nm n) (x : Nm (n + 1)) : Nm n := subN n (mulN t x.1 x.1) (mulN t (mulN t x.2 x.2) r)
def signN : {n : Nat} → Tw n → Nm n → Int
  | _, .nil, x => sgI (Prod.fst (α := Int) (β := Int) x)
  | n + 1, .snoc t r, x => OF.sg2 (signN t x.1) (signN t x.2) (signN t (normN t r x))
/-- every leaf is so -/
def AllL (P : Int × Int → Prop) : (n : Nat) → Nm n → Prop
  | 0, x => P x
  | n + 1, x => AllL P n x.1 ∧ AllL P n x.2
theorem AllL.imp {P Q : Int × Int → Prop} (h : ∀ x, P x → Q x) : (n : Nat) → {x : Nm n} → AllL P n x → AllL Q n x
  | 0, _, g => h _ g
  | n + 1, _, g => ⟨AllL.imp h n g.1, AllL.imp h n g.2⟩
def TwAll (P : Int × Int → Prop) : {n : Nat} → Tw n → Prop
  | _, .nil => True
  | n + 1, .snoc t r => TwAll P t ∧ AllL P n r
/-! ### sizes: denominators that divide D^e, values up to 2^m -/
def Bd (D e m : Nat) (x : Int × Int) : Prop := 0 < x.2 ∧ Int.gcd x.1 x.2 = 1 ∧ x.2 ∣ ((D ^ e : Nat) : Int) ∧ (x.1.natAbs : Int) ≤ ((2 ^ m : Nat) : Int) * x.2
theorem Bd.mono {D e e' m m' : Nat} {x : Int × Int} (h : Bd D e m x) (he : e ≤ e') (hm : m ≤ m') : Bd D e' m' x := by
  obtain ⟨h1, h2, h3, h4⟩ := h
  refine ⟨h1, h2, ?_, ?_⟩
  · refine Int.dvd_trans h3 ?_
    exact_mod_cast Nat.pow_dvd_pow D he
  · have : ((2 ^ m : Nat) : Int) ≤ ((2 ^ m' : Nat) : Int) := by exact_mod_cast Nat.pow_le_pow_right (by decide) hm
    have := Int.mul_le_mul_of_nonneg_right this (show 0 ≤ x.2 by omega)
    omega
theorem Bd.fq {D e m : Nat} {x : Int × Int} (h : Bd D e m x) (hD : D < 2 ^ 8) (h0 : 0 < D) : Fq (m + 8 * e + 1) x := by
  obtain ⟨h1, h2, h3, h4⟩ := h
  have p : 0 < D ^ e := Nat.pow_pos h0
  have l1 : x.2 ≤ ((D ^ e : Nat) : Int) := Int.le_of_dvd (by omega) h3
  have l2 : D ^ e ≤ 2 ^ (8 * e) := by
    rw [Nat.pow_mul]
    exact Nat.pow_le_pow_left (by omega) e
  have l3 : 2 ^ (8 * e) < 2 ^ (m + 8 * e + 1) := Nat.pow_lt_pow_right (by decide) (by omega)
  refine ⟨?_, ?_, h1, h2⟩
  · unfold Sm
    have e1 : (x.1.natAbs : Int) ≤ ((2 ^ m * 2 ^ (8 * e) : Nat) : Int) := by
      rw [Int.natCast_mul]
      have q1 : ((D ^ e : Nat) : Int) ≤ ((2 ^ (8 * e) : Nat) : Int) := Int.ofNat_le.mpr l2
      have q2 : x.2 ≤ ((2 ^ (8 * e) : Nat) : Int) := Int.le_trans l1 q1
      have := Int.mul_le_mul_of_nonneg_left q2 (Int.natCast_nonneg (2 ^ m))
      exact Int.le_trans h4 this
    rw [← Nat.pow_add] at e1
    have : 2 ^ (m + 8 * e) < 2 ^ (m + 8 * e + 1) := Nat.pow_lt_pow_right (by decide) (by omega)
    omega
  · unfold Sm
    omega
/-- a fraction told with any denominator -/
theorem Bd.of {D e m : Nat} {a b : Int} (hb : 0 < b) (h : (a.natAbs : Int) ≤ ((2 ^ m : Nat) : Int) * b) {s : Int} (hs : s * b = a * ((D ^ e : Nat) : Int)) (h0 : 0 < D) : Bd D e m (fr a b) := by
  have f := fr_spec a (b := b) (by omega)
  obtain ⟨h1, h2, h3, h4⟩ := f
  have g0 : 0 < gs a b := by
    have := gcd_pos a (b := b) (by omega)
    unfold gs
    rw [if_pos hb]
    omega
  refine ⟨h3, h4, ?_, ?_⟩
  · generalize gs a b = g at *
    generalize (fr a b).1 = n at *
    generalize (fr a b).2 = d at *
    subst h1 h2
    have e1 : s * d = n * ((D ^ e : Nat) : Int) := by
      have : s * d * g = n * ((D ^ e : Nat) : Int) * g := by
        rw [Int.mul_assoc, hs, Int.mul_assoc n, Int.mul_comm g, ← Int.mul_assoc]
      exact Int.eq_of_mul_eq_mul_right (by omega) this
    have c : d ∣ n * ((D ^ e : Nat) : Int) := ⟨s, by rw [← e1, Int.mul_comm]⟩
    have c2 := Int.natAbs_dvd_natAbs.mpr c
    rw [Int.natAbs_mul] at c2
    have cop : Nat.Coprime d.natAbs n.natAbs := by rw [Nat.coprime_comm]; exact h4
    exact Int.natAbs_dvd_natAbs.mp (cop.dvd_of_dvd_mul_left c2)
  · generalize gs a b = g at *
    generalize (fr a b).1 = n at *
    generalize (fr a b).2 = d at *
    subst h1 h2
    have e1 : ((n * g).natAbs : Int) = (n.natAbs : Int) * g := by
      rw [Int.natAbs_mul, Int.natCast_mul]
      congr 1
      omega
    rw [e1, ← Int.mul_assoc] at h
    exact Int.le_of_mul_le_mul_right h g0
theorem Bd.div {D e m : Nat} {x : Int × Int} (h : Bd D e m x) : ∃ s : Int, s * x.2 = ((D ^ e : Nat) : Int) := by
  obtain ⟨s, hs⟩ := h.2.2.1
  exact ⟨s, by rw [hs, Int.mul_comm]⟩
theorem Bd.add {D e m : Nat} {x y : Int × Int} (hx : Bd D e m x) (hy : Bd D e m y) (h0 : 0 < D) : Bd D e (m + 1) (addF x y) := by
  obtain ⟨s, hs⟩ := hx.div
  obtain ⟨t, ht⟩ := hy.div
  have p1 := hx.1
  have p2 := hy.1
  have b1 := hx.2.2.2
  have b2 := hy.2.2.2
  refine Bd.of (s := x.1 * s + y.1 * t) (Int.mul_pos p1 p2) ?_ ?_ h0
  · have n1 : ((x.1 * y.2).natAbs : Int) ≤ ((2 ^ m : Nat) : Int) * (x.2 * y.2) := by
      rw [Int.natAbs_mul, Int.natCast_mul, show ((y.2.natAbs : Nat) : Int) = y.2 by omega, ← Int.mul_assoc]
      exact Int.mul_le_mul_of_nonneg_right b1 (by omega)
    have n2 : ((y.1 * x.2).natAbs : Int) ≤ ((2 ^ m : Nat) : Int) * (x.2 * y.2) := by
      rw [Int.natAbs_mul, Int.natCast_mul, show ((x.2.natAbs : Nat) : Int) = x.2 by omega, Int.mul_comm x.2, ← Int.mul_assoc]
      exact Int.mul_le_mul_of_nonneg_right b2 (by omega)
    have e2 : ((2 ^ (m + 1) : Nat) : Int) = ((2 ^ m : Nat) : Int) * 2 := by rw [Nat.pow_succ, Int.natCast_mul]; rfl
    have tri := Int.natAbs_add_le (x.1 * y.2) (y.1 * x.2)
    rw [e2]
    have : ((2 ^ m : Nat) : Int) * 2 * (x.2 * y.2) = ((2 ^ m : Nat) : Int) * (x.2 * y.2) + ((2 ^ m : Nat) : Int) * (x.2 * y.2) := by grind
    omega
  · have : (x.1 * y.2 + y.1 * x.2) * ((D ^ e : Nat) : Int) = x.1 * y.2 * ((D ^ e : Nat) : Int) + y.1 * x.2 * ((D ^ e : Nat) : Int) := by grind
    rw [this]
    generalize hq : ((D ^ e : Nat) : Int) = q at *
    have : x.1 * y.2 * q + y.1 * x.2 * q = x.1 * y.2 * (s * x.2) + y.1 * x.2 * (t * y.2) := by rw [hs, ht]
    rw [this]
    grind
theorem Bd.neg1 {D e m : Nat} {x : Int × Int} (h : Bd D e m x) : Bd D e m (-x.1, x.2) := by
  obtain ⟨h1, h2, h3, h4⟩ := h
  exact ⟨h1, by rw [Int.neg_gcd]; exact h2, h3, by rw [Int.natAbs_neg]; exact h4⟩
theorem subF_eq (x y : Int × Int) : subF x y = addF x (-y.1, y.2) := by
  unfold subF addF
  rw [Int.neg_mul, Int.sub_eq_add_neg]
theorem Bd.sub {D e m : Nat} {x y : Int × Int} (hx : Bd D e m x) (hy : Bd D e m y) (h0 : 0 < D) : Bd D e (m + 1) (subF x y) := by
  rw [subF_eq]
  exact hx.add hy.neg1 h0
theorem Bd.mul {D e e' m m' : Nat} {x y : Int × Int} (hx : Bd D e m x) (hy : Bd D e' m' y) (h0 : 0 < D) : Bd D (e + e') (m + m') (mulF x y) := by
  obtain ⟨s, hs⟩ := hx.div
  obtain ⟨t, ht⟩ := hy.div
  have p1 := hx.1
  have p2 := hy.1
  have b1 := hx.2.2.2
  have b2 := hy.2.2.2
  refine Bd.of (s := x.1 * y.1 * s * t) (Int.mul_pos p1 p2) ?_ ?_ h0
  · rw [Int.natAbs_mul, Int.natCast_mul, Nat.pow_add, Int.natCast_mul]
    have := Int.mul_le_mul b1 b2 (by omega) (Int.mul_nonneg (Int.natCast_nonneg _) (show 0 ≤ x.2 by omega))
    have e1 : ((2 ^ m : Nat) : Int) * x.2 * (((2 ^ m' : Nat) : Int) * y.2) = ((2 ^ m : Nat) : Int) * ((2 ^ m' : Nat) : Int) * (x.2 * y.2) := by grind
    omega
  · rw [Nat.pow_add, Int.natCast_mul]
    generalize hq : ((D ^ e : Nat) : Int) = q at *
    generalize hr : ((D ^ e' : Nat) : Int) = r at *
    rw [← hs, ← ht]
    grind
end FM

set_option Elab.async false
set_option linter.all false
set_option maxRecDepth 100000
set_option maxHeartbeats 4000000
/-! N3: what tower numbers mean in an ordered field; how long they grow. -/
namespace FM
open OF
def Pd (x : Int × Int) : Prop := 0 < x.2
theorem Bd.pd {D e m : Nat} {x : Int × Int} (h : Bd D e m x) : Pd x := h.1
theorem pd_fr (a : Int) {b : Int} (h : b ≠ 0) : Pd (fr a b) := (fr_spec a h).2.2.1
theorem pd_add {x y : Int × Int} (hx : Pd x) (hy : Pd y) : Pd (addF x y) := pd_fr _ (by have := Int.mul_pos hx hy; omega)
theorem pd_sub {x y : Int × Int} (hx : Pd x) (hy : Pd y) : Pd (subF x y) := pd_fr _ (by have := Int.mul_pos hx hy; omega)
theorem pd_mul {x y : Int × Int} (hx : Pd x) (hy : Pd y) : Pd (mulF x y) := pd_fr _ (by have := Int.mul_pos hx hy; omega)
theorem addN_all {P Q : Int × Int → Prop} (h : ∀ x y, P x → P y → Q (addF x y)) : (n : Nat) → {x y : Nm n} → AllL P n x → AllL P n y → AllL Q n (addN n x y)
  | 0, _, _, a, b => h _ _ a b
  | n + 1, _, _, a, b => ⟨addN_all h n a.1 b.1, addN_all h n a.2 b.2⟩
theorem subN_all {P Q : Int × Int → Prop} (h : ∀ x y, P x → P y → Q (subF x y)) : (n : Nat) → {x y : Nm n} → AllL P n x → AllL P n y → AllL Q n (subN n x y)
  | 0, _, _, a, b => h _ _ a b
  | n + 1, _, _, a, b => ⟨subN_all h n a.1 b.1, subN_all h n a.2 b.2⟩
theorem mulN_t {n : Nat} {t : Tw n} {r : Nm n} {x y : Nm (n + 1)} (z : (isN n x.2 && isN n y.2) = true) : mulN (.snoc t r) x y = (mulN t x.1 y.1, x.2) := if_pos z
theorem mulN_f {n : Nat} {t : Tw n} {r : Nm n} {x y : Nm (n + 1)} (z : ¬ (isN n x.2 && isN n y.2) = true) : mulN (.snoc t r) x y = (addN n (mulN t x.1 y.1) (mulN t (mulN t x.2 y.2) r), addN n (mulN t x.1 y.2) (mulN t x.2 y.1)) := if_neg z
theorem mulN_pd : {n : Nat} → (t : Tw n) → TwAll Pd t → {x y : Nm n} → AllL Pd n x → AllL Pd n y → AllL Pd n (mulN t x y)
  | _, .nil, _, _, _, a, b => pd_mul a b
  | n + 1, .snoc t r, ht, x, y, a, b => by
    by_cases z : (isN n x.2 && isN n y.2) = true
    · rw [mulN_t z]
      exact ⟨mulN_pd t ht.1 a.1 b.1, a.2⟩
    · rw [mulN_f z]
      exact ⟨addN_all (fun _ _ => pd_add) n (mulN_pd t ht.1 a.1 b.1) (mulN_pd t ht.1 (mulN_pd t ht.1 a.2 b.2) ht.2), addN_all (fun _ _ => pd_add) n (mulN_pd t ht.1 a.1 b.2) (mulN_pd t ht.1 a.2 b.1)⟩
theorem normN_pd {n : Nat} {t : Tw n} {r : Nm n} (ht : TwAll Pd t) (hr : AllL Pd n r) {x : Nm (n + 1)} (h : AllL Pd (n + 1) x) : AllL Pd n (normN t r x) :=
  subN_all (fun _ _ => pd_sub) n (mulN_pd t ht h.1 h.1) (mulN_pd t ht (mulN_pd t ht h.2 h.2) hr)
/-! ### sizes -/
def cc : Nat → Nat
  | 0 => 0
  | n + 1 => 2 * cc n + 1
section
variable {D er mr : Nat} (h0 : 0 < D)
include h0
theorem addN_bd {n e m : Nat} {x y : Nm n} (hx : AllL (Bd D e m) n x) (hy : AllL (Bd D e m) n y) : AllL (Bd D e (m + 1)) n (addN n x y) := addN_all (fun _ _ a b => a.add b h0) n hx hy
theorem subN_bd {n e m : Nat} {x y : Nm n} (hx : AllL (Bd D e m) n x) (hy : AllL (Bd D e m) n y) : AllL (Bd D e (m + 1)) n (subN n x y) := subN_all (fun _ _ a b => a.sub b h0) n hx hy
omit h0 in
theorem AllL.up {n e m e' m' : Nat} {x : Nm n} (h : AllL (Bd D e m) n x) (he : e ≤ e') (hm : m ≤ m') : AllL (Bd D e' m') n x := AllL.imp (fun _ g => g.mono he hm) n h
theorem mulN_bd : {n : Nat} → (t : Tw n) → TwAll (Bd D er mr) t → {e1 m1 e2 m2 : Nat} → {x y : Nm n} → AllL (Bd D e1 m1) n x → AllL (Bd D e2 m2) n y → AllL (Bd D (e1 + e2 + cc n * er) (m1 + m2 + cc n * (mr + 1))) n (mulN t x y)
  | _, .nil, _, e1, m1, e2, m2, x, y, a, b => by
    have := Bd.mul a b h0
    exact this.mono (by omega) (by omega)
  | n + 1, .snoc t r, ht, e1, m1, e2, m2, x, y, a, b => by
    have q1 : cc (n + 1) * er = 2 * (cc n * er) + er := by show (2 * cc n + 1) * er = _; rw [Nat.add_mul, Nat.one_mul, Nat.mul_assoc]
    have q2 : cc (n + 1) * (mr + 1) = 2 * (cc n * (mr + 1)) + (mr + 1) := by show (2 * cc n + 1) * (mr + 1) = _; rw [Nat.add_mul, Nat.one_mul, Nat.mul_assoc]
    have k1 := mulN_bd t ht.1 a.1 b.1
    have k2 := mulN_bd t ht.1 (mulN_bd t ht.1 a.2 b.2) ht.2
    have k3 := mulN_bd t ht.1 a.1 b.2
    have k4 := mulN_bd t ht.1 a.2 b.1
    by_cases z : (isN n x.2 && isN n y.2) = true
    · rw [mulN_t z]
      exact ⟨k1.up (by omega) (by omega), AllL.up a.2 (by omega) (by omega)⟩
    · rw [mulN_f z]
      refine ⟨?_, ?_⟩
      · have s := addN_bd h0 (k1.up (e' := e1 + e2 + 2 * (cc n * er) + er) (m' := m1 + m2 + 2 * (cc n * (mr + 1)) + mr) (by omega) (by omega)) (k2.up (by omega) (by omega))
        exact s.up (by omega) (by omega)
      · have s := addN_bd h0 k3 k4
        exact s.up (by omega) (by omega)
theorem normN_bd {n : Nat} {t : Tw n} {r : Nm n} (ht : TwAll (Bd D er mr) t) (hr : AllL (Bd D er mr) n r) {e m : Nat} {x : Nm (n + 1)} (h : AllL (Bd D e m) (n + 1) x) : AllL (Bd D (2 * e + cc (n + 1) * er) (2 * m + cc (n + 1) * (mr + 1))) n (normN t r x) := by
  have q1 : cc (n + 1) * er = 2 * (cc n * er) + er := by show (2 * cc n + 1) * er = _; rw [Nat.add_mul, Nat.one_mul, Nat.mul_assoc]
  have q2 : cc (n + 1) * (mr + 1) = 2 * (cc n * (mr + 1)) + (mr + 1) := by show (2 * cc n + 1) * (mr + 1) = _; rw [Nat.add_mul, Nat.one_mul, Nat.mul_assoc]
  have k1 := mulN_bd h0 t ht h.1 h.1
  have k2 := mulN_bd h0 t ht (mulN_bd h0 t ht h.2 h.2) hr
  have s := subN_bd h0 (k1.up (e' := 2 * e + 2 * (cc n * er) + er) (m' := 2 * m + 2 * (cc n * (mr + 1)) + mr) (by omega) (by omega)) (k2.up (by omega) (by omega))
  exact s.up (by omega) (by omega)
end
/-! ### meaning -/
section
variable {L : Type} [fL : Lean.Grind.Field L] [LE L] [LT L] [Std.LawfulOrderLT L] [Std.IsLinearOrder L] [Lean.Grind.OrderedRing L] {j : Rat → L} {ρ : Nat → L}
def val (j : Rat → L) (ρ : Nat → L) : (n : Nat) → Nm n → L
  | 0, x => j (rat x)
  | n + 1, x => val j ρ n x.1 + val j ρ n x.2 * ρ n
def TwV (j : Rat → L) (ρ : Nat → L) : {n : Nat} → Tw n → Prop
  | _, .nil => True
  | n + 1, .snoc t r => TwV j ρ t ∧ 0 < ρ n ∧ ρ n * ρ n = val j ρ n r
section
variable (hj : Hom j)
include hj
theorem hom_sub (a b : Rat) : j (a - b) = j a - j b := by
  rw [show a - b = a + -b by grind, hj.add, hj.neg]
  grind
theorem val_add : (n : Nat) → {x y : Nm n} → AllL Pd n x → AllL Pd n y → val j ρ n (addN n x y) = val j ρ n x + val j ρ n y
  | 0, x, y, a, b => by
    exact (congrArg j (rat_add (x := (x : Int × Int)) (y := (y : Int × Int)) (Int.ne_of_gt a) (Int.ne_of_gt b))).trans (hj.add _ _)
  | n + 1, x, y, a, b => by
    show val j ρ n (addN n x.1 y.1) + val j ρ n (addN n x.2 y.2) * ρ n = (val j ρ n x.1 + val j ρ n x.2 * ρ n) + (val j ρ n y.1 + val j ρ n y.2 * ρ n)
    rw [val_add n a.1 b.1, val_add n a.2 b.2]
    grind
theorem val_sub : (n : Nat) → {x y : Nm n} → AllL Pd n x → AllL Pd n y → val j ρ n (subN n x y) = val j ρ n x - val j ρ n y
  | 0, x, y, a, b => by
    exact (congrArg j (rat_sub (x := (x : Int × Int)) (y := (y : Int × Int)) (Int.ne_of_gt a) (Int.ne_of_gt b))).trans (hom_sub hj _ _)
  | n + 1, x, y, a, b => by
    show val j ρ n (subN n x.1 y.1) + val j ρ n (subN n x.2 y.2) * ρ n = (val j ρ n x.1 + val j ρ n x.2 * ρ n) - (val j ρ n y.1 + val j ρ n y.2 * ρ n)
    rw [val_sub n a.1 b.1, val_sub n a.2 b.2]
    grind
theorem val_isN : (n : Nat) → {x : Nm n} → isN n x = true → val j ρ n x = 0
  | 0, x, h => by
    have e : Prod.fst (α := Int) (β := Int) x = 0 := of_decide_eq_true h
    have e2 : rat (x : Int × Int) = 0 := by
      unfold rat
      rw [e]
      grind
    exact (congrArg j e2).trans hj.zero
  | n + 1, x, h => by
    unfold isN at h
    rw [Bool.and_eq_true] at h
    show val j ρ n x.1 + val j ρ n x.2 * ρ n = 0
    rw [val_isN n h.1, val_isN n h.2]
    grind
theorem val_mul : {n : Nat} → (t : Tw n) → TwV j ρ t → TwAll Pd t → {x y : Nm n} → AllL Pd n x → AllL Pd n y → val j ρ n (mulN t x y) = val j ρ n x * val j ρ n y
  | _, .nil, _, _, x, y, a, b => by
    exact (congrArg j (rat_mul (x := (x : Int × Int)) (y := (y : Int × Int)) (Int.ne_of_gt a) (Int.ne_of_gt b))).trans (hj.mul _ _)
  | n + 1, .snoc t r, hv, ht, x, y, a, b => by
    obtain ⟨hv1, hv2, hv3⟩ := hv
    by_cases z : (isN n x.2 && isN n y.2) = true
    · rw [mulN_t z]
      rw [Bool.and_eq_true] at z
      show val j ρ n (mulN t x.1 y.1) + val j ρ n x.2 * ρ n = (val j ρ n x.1 + val j ρ n x.2 * ρ n) * (val j ρ n y.1 + val j ρ n y.2 * ρ n)
      rw [val_mul t hv1 ht.1 a.1 b.1, val_isN hj n z.1, val_isN hj n z.2]
      grind
    · rw [mulN_f z]
      have p1 := mulN_pd t ht.1 a.1 b.1
      have p2 := mulN_pd t ht.1 a.2 b.2
      have p3 := mulN_pd t ht.1 p2 ht.2
      show val j ρ n (addN n (mulN t x.1 y.1) (mulN t (mulN t x.2 y.2) r)) + val j ρ n (addN n (mulN t x.1 y.2) (mulN t x.2 y.1)) * ρ n = (val j ρ n x.1 + val j ρ n x.2 * ρ n) * (val j ρ n y.1 + val j ρ n y.2 * ρ n)
      rw [val_add hj n p1 p3, val_add hj n (mulN_pd t ht.1 a.1 b.2) (mulN_pd t ht.1 a.2 b.1), val_mul t hv1 ht.1 a.1 b.1, val_mul t hv1 ht.1 p2 ht.2, val_mul t hv1 ht.1 a.2 b.2, val_mul t hv1 ht.1 a.1 b.2, val_mul t hv1 ht.1 a.2 b.1, ← hv3]
      grind
theorem val_norm {n : Nat} {t : Tw n} {r : Nm n} (hv : TwV j ρ t) (ht : TwAll Pd t) (hr : AllL Pd n r) {x : Nm (n + 1)} (h : AllL Pd (n + 1) x) : val j ρ n (normN t r x) = val j ρ n x.1 * val j ρ n x.1 - val j ρ n x.2 * val j ρ n x.2 * val j ρ n r := by
  have p1 := mulN_pd t ht h.1 h.1
  have p2 := mulN_pd t ht h.2 h.2
  unfold normN
  rw [val_sub hj n p1 (mulN_pd t ht p2 hr), val_mul hj t hv ht h.1 h.1, val_mul hj t hv ht p2 hr, val_mul hj t hv ht h.2 h.2]
theorem sgn_rat {x : Int × Int} (h : Pd x) : sgn (j (rat x)) = sgI x.1 := by
  rw [← rat_sgn h]
  rcases Std.lt_trichotomy (rat x) 0 with z | z | z
  · have := hj.lt _ _ z
    rw [hj.zero] at this
    rw [sgn_neg this, sgn_neg z]
  · rw [z, hj.zero, sgn_zero, sgn_zero]
  · have := hj.lt _ _ z
    rw [hj.zero] at this
    rw [sgn_pos this, sgn_pos z]
/-- THE SIGN: the defs' sign is the sign of what is meant -/
theorem sign_val : {n : Nat} → (t : Tw n) → TwV j ρ t → TwAll Pd t → {x : Nm n} → AllL Pd n x → signN t x = sgn (val j ρ n x)
  | _, .nil, _, _, x, h => (sgn_rat hj h).symm
  | n + 1, .snoc t r, hv, ht, x, h => by
    obtain ⟨hv1, hv2, hv3⟩ := hv
    show sg2 (signN t x.1) (signN t x.2) (signN t (normN t r x)) = sgn (val j ρ n x.1 + val j ρ n x.2 * ρ n)
    rw [sign_val t hv1 ht.1 h.1, sign_val t hv1 ht.1 h.2, sign_val t hv1 ht.1 (normN_pd ht.1 ht.2 h), val_norm hj hv1 ht.1 ht.2 h]
    exact (sgn_root hv2 hv3).symm
end
end
end FM

set_option Elab.async false
set_option linter.all false
set_option maxRecDepth 100000
set_option maxHeartbeats 4000000
/-! N4: what the towers' defs compute. -/
namespace FM
open PySem (Str sizeLine)
open L2 (atI ixN Key)
local macro_rules | `(tactic| walk_at "go") => `(tactic| simp [FM.execs, FM.exec, FM.ev, FM.evs, FM.evo, FM.evc, FM.evi, FM.Sl.d, FM.isiD, FM.cmpD, FM.negD, FM.bindT, FM.andThen_some', FM.onBl_bl, FM.wthD_some', FM.eqD_int, FM.ix_tup, FM.ix_lst, FM.atI_0, FM.atI_1, FM.atI_2, FM.op_add, FM.op_sub, FM.op_subBl, FM.biD_abs, FM.szle, FM.pl_get, FM.pl_set, FM.isOw_pl, FM.noOw_pl, FM.lk_pl, FM.lks_pl, FM.itlk_pl, FM.setAll_pl, FM.setAllD])
structure Ids where
  plus : Nat
  minus : Nat
  times : Nat
  sgn : Nat
  add : Nat
  sub : Nat
  mul : Nat
  isn : Nat
  norm : Nat
  sign : Nat
  cmp : Nat
structure TF (G : Nat → Fs) (i : Ids) : Prop where
  plus : ∀ (m : Nat) (x y : Int × Int) (μ : Cells), Fq 1800 x → Fq 1800 y → G m i.plus [fD x, fD y] μ = some (fD (addF x y), μ)
  minus : ∀ (m : Nat) (x y : Int × Int) (μ : Cells), Fq 1800 x → Fq 1800 y → G m i.minus [fD x, fD y] μ = some (fD (subF x y), μ)
  times : ∀ (m : Nat) (x y : Int × Int) (μ : Cells), Fq 1800 x → Fq 1800 y → G m i.times [fD x, fD y] μ = some (fD (mulF x y), μ)
  sgn : ∀ (m : Nat) (x : Int × Int) (μ : Cells), G m i.sgn [fD x] μ = some (.int (sgI x.1), μ)
  add : ∀ m ds μ, G (m + 1) i.add ds μ = runFn (G m) W ⟨3, 4, B_add i.plus i.add⟩ ds μ
  sub : ∀ m ds μ, G (m + 1) i.sub ds μ = runFn (G m) W ⟨3, 4, B_sub i.minus i.sub⟩ ds μ
  isn : ∀ m ds μ, G (m + 1) i.isn ds μ = runFn (G m) W ⟨2, 2, B_is_nought i.isn⟩ ds μ
  mul : ∀ m ds μ, G (m + 1) i.mul ds μ = runFn (G m) W ⟨3, 7, B_mul i.times i.isn i.mul i.add⟩ ds μ
  norm : ∀ m ds μ, G (m + 1) i.norm ds μ = runFn (G m) W ⟨2, 3, B_norm i.sub i.mul⟩ ds μ
  sign : ∀ m ds μ, G (m + 1) i.sign ds μ = runFn (G m) W ⟨2, 4, B_sign i.sgn i.sign i.norm⟩ ds μ
  cmp : ∀ m ds μ, G (m + 1) i.cmp ds μ = runFn (G m) W ⟨3, 3, B_compare i.sign i.sub⟩ ds μ
section
variable {G : Nat → Fs} {i : Ids} (T : TF G i)
include T
theorem add_c : (n : Nat) → (hn : n ≤ 50) → (t : Tw n) → (m : Nat) → n ≤ m → {x y : Nm n} → AllL (Fq 1800) n x → AllL (Fq 1800) n y → (μ : Cells) → G (m + 1) i.add [nD n x, nD n y, tD t] μ = some (nD n (addN n x y), μ)
  | 0, hn, .nil, m, _, x, y, hx, hy, μ => by
    rw [T.add]
    have e := tw_nil (.nil) (by decide)
    refine run_rt rfl (Nat.le_of_ble_eq_true rfl) ?_
    show execs (G m) W _ (pl [some (nD 0 x), some (nD 0 y), some (tD .nil), none]) μ = _
    refine seq_rt (ifs_t (cmp_of (x := tD .nil) (y := .tup []) rfl rfl e) (seq_rt (ret_of (lk_pl _ _) ?_)))
    have p := T.plus m (x : Int × Int) (y : Int × Int) μ hx hy
    unfold ev
    rw [lks_pl]
    exact p
  | n + 1, hn, .snoc t r, m, hm, x, y, hx, hy, μ => by
    obtain ⟨k, rfl⟩ : ∃ k, m = k + 1 := ⟨m - 1, by omega⟩
    rw [T.add]
    have e := tw_nil (.snoc t r) (by omega)
    have a1 := add_c n (by omega) t k (by omega) hx.1 hy.1 μ
    have a2 := add_c n (by omega) t k (by omega) hx.2 hy.2 μ
    refine run_rt rfl (Nat.le_of_ble_eq_true rfl) ?_
    show execs (G (k + 1)) W _ (pl [some (.tup [nD n x.1, nD n x.2]), some (.tup [nD n y.1, nD n y.2]), some (tD (.snoc t r)), none]) μ = some (Res.rt (.tup [nD n (addN n x.1 y.1), nD n (addN n x.2 y.2)]) μ)
    refine seq_nx (ifs_f (cmp_of (x := tD (.snoc t r)) (y := .tup []) rfl rfl e) rfl) (seq_nx (ρ1 := pl [some (.tup [nD n x.1, nD n x.2]), some (.tup [nD n y.1, nD n y.2]), some (tD (.snoc t r)), some (tD t)]) (μ1 := μ) ?_ (seq_rt ?_))
    · have s := sl_tw t r
      walk_at "go"
      simp [s, andThen_some', wthD_some', pl_set]
    · walk_at "go"
      simp [a1, a2, andThen_some', szle]
theorem sub_c : (n : Nat) → (hn : n ≤ 50) → (t : Tw n) → (m : Nat) → n ≤ m → {x y : Nm n} → AllL (Fq 1800) n x → AllL (Fq 1800) n y → (μ : Cells) → G (m + 1) i.sub [nD n x, nD n y, tD t] μ = some (nD n (subN n x y), μ)
  | 0, hn, .nil, m, _, x, y, hx, hy, μ => by
    rw [T.sub]
    have e := tw_nil (.nil) (by decide)
    refine run_rt rfl (Nat.le_of_ble_eq_true rfl) ?_
    show execs (G m) W _ (pl [some (nD 0 x), some (nD 0 y), some (tD .nil), none]) μ = _
    refine seq_rt (ifs_t (cmp_of (x := tD .nil) (y := .tup []) rfl rfl e) (seq_rt (ret_of (lk_pl _ _) ?_)))
    have p := T.minus m (x : Int × Int) (y : Int × Int) μ hx hy
    unfold ev
    rw [lks_pl]
    exact p
  | n + 1, hn, .snoc t r, m, hm, x, y, hx, hy, μ => by
    obtain ⟨k, rfl⟩ : ∃ k, m = k + 1 := ⟨m - 1, by omega⟩
    rw [T.sub]
    have e := tw_nil (.snoc t r) (by omega)
    have a1 := sub_c n (by omega) t k (by omega) hx.1 hy.1 μ
    have a2 := sub_c n (by omega) t k (by omega) hx.2 hy.2 μ
    refine run_rt rfl (Nat.le_of_ble_eq_true rfl) ?_
    show execs (G (k + 1)) W _ (pl [some (.tup [nD n x.1, nD n x.2]), some (.tup [nD n y.1, nD n y.2]), some (tD (.snoc t r)), none]) μ = some (Res.rt (.tup [nD n (subN n x.1 y.1), nD n (subN n x.2 y.2)]) μ)
    refine seq_nx (ifs_f (cmp_of (x := tD (.snoc t r)) (y := .tup []) rfl rfl e) rfl) (seq_nx (ρ1 := pl [some (.tup [nD n x.1, nD n x.2]), some (.tup [nD n y.1, nD n y.2]), some (tD (.snoc t r)), some (tD t)]) (μ1 := μ) ?_ (seq_rt ?_))
    · have s := sl_tw t r
      walk_at "go"
      simp [s, andThen_some', wthD_some', pl_set]
    · walk_at "go"
      simp [a1, a2, andThen_some', szle]
theorem isn_c : (n : Nat) → (hn : n ≤ 50) → (t : Tw n) → (m : Nat) → n ≤ m → (x : Nm n) → (μ : Cells) → G (m + 1) i.isn [nD n x, tD t] μ = some (.bl (isN n x), μ)
  | 0, hn, .nil, m, _, x, μ => by
    rw [T.isn]
    have e := tw_nil (.nil) (by decide)
    refine run_rt rfl (Nat.le_of_ble_eq_true rfl) ?_
    show execs (G m) W _ (pl [some (.tup [.int (Prod.fst (α := Int) (β := Int) x), .int (Prod.snd (α := Int) (β := Int) x)]), some (tD .nil)]) μ = _
    refine seq_rt (ifs_t (cmp_of (x := tD .nil) (y := .tup []) rfl rfl e) (seq_rt (ret_of (lk_pl _ _) ?_)))
    walk_at "go"
    rfl
  | n + 1, hn, .snoc t r, m, hm, x, μ => by
    obtain ⟨k, rfl⟩ : ∃ k, m = k + 1 := ⟨m - 1, by omega⟩
    rw [T.isn]
    have e := tw_nil (.snoc t r) (by omega)
    have a1 := isn_c n (by omega) t k (by omega) x.1 μ
    have a2 := isn_c n (by omega) t k (by omega) x.2 μ
    refine run_rt rfl (Nat.le_of_ble_eq_true rfl) ?_
    show execs (G (k + 1)) W _ (pl [some (.tup [nD n x.1, nD n x.2]), some (tD (.snoc t r))]) μ = some (Res.rt (.bl (isN n x.1 && isN n x.2)) μ)
    refine seq_nx (ifs_f (cmp_of (x := tD (.snoc t r)) (y := .tup []) rfl rfl e) rfl) (seq_rt ?_)
    have s := sl_tw t r
    walk_at "go"
    simp [s, a1, andThen_some', wthD_some', onBl_bl]
    cases isN n x.1 <;> simp [a2, andThen_some', wthD_some', onBl_bl]
/-- long enough for products -/
theorem mul_c {D er mr : Nat} (h0 : 0 < D) (hD : D < 2 ^ 8) : (n : Nat) → (hn : n ≤ 50) → (t : Tw n) → (ht : TwAll (Bd D er mr) t) → (m : Nat) → n ≤ m → {e1 m1 e2 m2 : Nat} → {x y : Nm n} → AllL (Bd D e1 m1) n x → AllL (Bd D e2 m2) n y →
    (m1 + m2 + cc n * (mr + 1)) + 8 * (e1 + e2 + cc n * er) + 2 ≤ 1800 → (μ : Cells) → G (m + 1) i.mul [nD n x, nD n y, tD t] μ = some (nD n (mulN t x y), μ)
  | 0, hn, .nil, ht, m, _, e1, m1, e2, m2, x, y, hx, hy, hl, μ => by
    rw [T.mul]
    have e := tw_nil (.nil) (by decide)
    have fx : Fq 1800 (x : Int × Int) := (Bd.fq hx hD h0).mono (by omega)
    have fy : Fq 1800 (y : Int × Int) := (Bd.fq hy hD h0).mono (by omega)
    refine run_rt rfl (Nat.le_of_ble_eq_true rfl) ?_
    show execs (G m) W _ (pl [some (nD 0 x), some (nD 0 y), some (tD .nil), none, none, none, none]) μ = _
    refine seq_rt (ifs_t (cmp_of (x := tD .nil) (y := .tup []) rfl rfl e) (seq_rt (ret_of (lk_pl _ _) ?_)))
    have p := T.times m (x : Int × Int) (y : Int × Int) μ fx fy
    unfold ev
    rw [lks_pl]
    exact p
  | n + 1, hn, .snoc t r, ht, m, hm, e1, m1, e2, m2, x, y, hx, hy, hl, μ => by
    obtain ⟨k, rfl⟩ : ∃ k, m = k + 1 := ⟨m - 1, by omega⟩
    have q1 : cc (n + 1) * er = 2 * (cc n * er) + er := by show (2 * cc n + 1) * er = _; rw [Nat.add_mul, Nat.one_mul, Nat.mul_assoc]
    have q2 : cc (n + 1) * (mr + 1) = 2 * (cc n * (mr + 1)) + (mr + 1) := by show (2 * cc n + 1) * (mr + 1) = _; rw [Nat.add_mul, Nat.one_mul, Nat.mul_assoc]
    rw [q1, q2] at hl
    have e := tw_nil (.snoc t r) (by omega)
    have b11 := mulN_bd h0 t ht.1 hx.1 hy.1
    have b22 := mulN_bd h0 t ht.1 hx.2 hy.2
    have b22r := mulN_bd h0 t ht.1 b22 ht.2
    have b12 := mulN_bd h0 t ht.1 hx.1 hy.2
    have b21 := mulN_bd h0 t ht.1 hx.2 hy.1
    have c11 := mul_c h0 hD n (by omega) t ht.1 k (by omega) hx.1 hy.1 (by omega) μ
    have c22 := mul_c h0 hD n (by omega) t ht.1 k (by omega) hx.2 hy.2 (by omega) μ
    have c12 := mul_c h0 hD n (by omega) t ht.1 k (by omega) hx.1 hy.2 (by omega) μ
    have c21 := mul_c h0 hD n (by omega) t ht.1 k (by omega) hx.2 hy.1 (by omega) μ
    have c22r := mul_c h0 hD n (by omega) t ht.1 k (by omega) b22 ht.2 (by omega) μ
    have fq : ∀ {e m : Nat} {z : Nm n}, AllL (Bd D e m) n z → m + 8 * e + 1 ≤ 1800 → AllL (Fq 1800) n z := fun h l => AllL.imp (fun _ g => (g.fq hD h0).mono l) n h
    have s1 := add_c T n (by omega) t k (by omega) (fq b12 (by omega)) (fq b21 (by omega)) μ
    have s2 := add_c T n (by omega) t k (by omega) (fq b11 (by omega)) (fq b22r (by omega)) μ
    have i1 := isn_c T n (by omega) t k (by omega) x.2 μ
    have i2 := isn_c T n (by omega) t k (by omega) y.2 μ
    have sl := sl_tw t r
    have ix : ixD μ (tD (.snoc t r)) (.int (-1)) = some (nD n r) := ix_tw μ t r
    rw [T.mul]
    refine run_rt rfl (Nat.le_of_ble_eq_true rfl) ?_
    show execs (G (k + 1)) W _ (pl [some (.tup [nD n x.1, nD n x.2]), some (.tup [nD n y.1, nD n y.2]), some (tD (.snoc t r)), none, none, none, none]) μ = some (Res.rt (nD (n + 1) (mulN (.snoc t r) x y)) μ)
    refine seq_nx (ifs_f (cmp_of (x := tD (.snoc t r)) (y := .tup []) rfl rfl e) rfl) (seq_nx (ρ1 := pl [some (.tup [nD n x.1, nD n x.2]), some (.tup [nD n y.1, nD n y.2]), some (tD (.snoc t r)), none, none, some (tD t), some (nD n r)]) (μ1 := μ) ?_ ?_)
    · have ix2 : atI (twL (.snoc t r)) (-1) = some (nD n r) := ix
      walk_at "go"
      simp [sl, ix2, andThen_some', wthD_some', pl_set]
    · by_cases z : (isN n x.2 && isN n y.2) = true
      · rw [mulN_t z]
        show _ = some (Res.rt (.tup [nD n (mulN t x.1 y.1), nD n x.2]) μ)
        rw [Bool.and_eq_true] at z
        rw [z.1] at i1
        rw [z.2] at i2
        refine seq_rt (ifs_t (μ1 := μ) ?_ (seq_rt ?_))
        · walk_at "go"
          simp [i1, i2, andThen_some', wthD_some', onBl_bl]
        · walk_at "go"
          simp [c11, andThen_some', wthD_some', onBl_bl, szle]
      · rw [mulN_f z]
        show _ = some (Res.rt (.tup [nD n (addN n (mulN t x.1 y.1) (mulN t (mulN t x.2 y.2) r)), nD n (addN n (mulN t x.1 y.2) (mulN t x.2 y.1))]) μ)
        refine seq_nx (ifs_f (μ1 := μ) ?_ rfl) (seq_nx (ρ1 := pl [some (.tup [nD n x.1, nD n x.2]), some (.tup [nD n y.1, nD n y.2]), some (tD (.snoc t r)), some (nD n (mulN t (mulN t x.2 y.2) r)), none, some (tD t), some (nD n r)]) (μ1 := μ) ?_ (seq_nx (ρ1 := pl [some (.tup [nD n x.1, nD n x.2]), some (.tup [nD n y.1, nD n y.2]), some (tD (.snoc t r)), some (nD n (mulN t (mulN t x.2 y.2) r)), some (nD n (addN n (mulN t x.1 y.2) (mulN t x.2 y.1))), some (tD t), some (nD n r)]) (μ1 := μ) ?_ (seq_rt ?_)))
        · walk_at "go"
          simp [i1, i2, andThen_some', wthD_some', onBl_bl]
          cases h1 : isN n x.2 <;> cases h2 : isN n y.2 <;> simp_all [i1, i2, andThen_some', wthD_some', onBl_bl]
        · walk_at "go"
          simp [c22, c22r, andThen_some', wthD_some', onBl_bl, pl_set]
        · walk_at "go"
          simp [c12, c21, s1, andThen_some', wthD_some', onBl_bl, pl_set]
        · walk_at "go"
          simp [c11, s2, andThen_some', wthD_some', onBl_bl, szle]
end
end FM

set_option Elab.async false
set_option linter.all false
set_option maxRecDepth 100000
set_option maxHeartbeats 4000000
/-! N5: norm, sign, compare. -/
namespace FM
open PySem (Str sizeLine)
open L2 (atI ixN Key)
local macro_rules | `(tactic| walk_at "go") => `(tactic| simp [FM.execs, FM.exec, FM.ev, FM.evs, FM.evo, FM.evc, FM.evi, FM.Sl.d, FM.isiD, FM.cmpD, FM.negD, FM.bindT, FM.andThen_some', FM.onBl_bl, FM.wthD_some', FM.eqD_int, FM.ix_tup, FM.ix_lst, FM.atI_0, FM.atI_1, FM.atI_2, FM.op_add, FM.op_sub, FM.op_subBl, FM.biD_abs, FM.szle, FM.pl_get, FM.pl_set, FM.isOw_pl, FM.noOw_pl, FM.lk_pl, FM.lks_pl, FM.itlk_pl, FM.setAll_pl, FM.setAllD])
theorem sgI_abs (n : Int) : (sgI n).natAbs ≤ 1 := by
  unfold sgI
  split
  · decide
  · split <;> decide
theorem sg2_abs {a b c : Int} (ha : a.natAbs ≤ 1) (hb : b.natAbs ≤ 1) (hc : c.natAbs ≤ 1) : (OF.sg2 a b c).natAbs ≤ 1 := by
  unfold OF.sg2
  split
  · exact ha
  · split
    · exact hb
    · rw [Int.natAbs_mul]
      exact Nat.mul_le_mul ha hc
theorem signN_abs : {n : Nat} → (t : Tw n) → (x : Nm n) → (signN t x).natAbs ≤ 1
  | _, .nil, x => sgI_abs _
  | n + 1, .snoc t r, x => sg2_abs (signN_abs t x.1) (signN_abs t x.2) (signN_abs t _)
/-- long enough for signs -/
def SL (er mr : Nat) : Nat → Nat → Nat → Prop
  | 0, _, _ => True
  | n + 1, e, m => (2 * m + cc (n + 1) * (mr + 1)) + 8 * (2 * e + cc (n + 1) * er) + 2 ≤ 1800 ∧ SL er mr n (2 * e + cc (n + 1) * er) (2 * m + cc (n + 1) * (mr + 1))
theorem SL.mono {er mr : Nat} : {n e m e' m' : Nat} → SL er mr n e' m' → e ≤ e' → m ≤ m' → SL er mr n e m
  | 0, _, _, _, _, _, _, _ => trivial
  | n + 1, e, m, e', m', h, he, hm => ⟨by have := h.1; omega, SL.mono h.2 (by omega) (by omega)⟩
section
variable {G : Nat → Fs} {i : Ids} (T : TF G i)
include T
theorem norm_c {D er mr : Nat} (h0 : 0 < D) (hD : D < 2 ^ 8) {n : Nat} (hn : n + 1 ≤ 50) (t : Tw n) (r : Nm n) (ht : TwAll (Bd D er mr) (.snoc t r)) {m : Nat} (hm : n + 1 ≤ m) {e1 m1 : Nat} {x : Nm (n + 1)} (hx : AllL (Bd D e1 m1) (n + 1) x)
    (hl : (2 * m1 + cc (n + 1) * (mr + 1)) + 8 * (2 * e1 + cc (n + 1) * er) + 2 ≤ 1800) (μ : Cells) : G (m + 1) i.norm [nD (n + 1) x, tD (.snoc t r)] μ = some (nD n (normN t r x), μ) := by
  obtain ⟨k, rfl⟩ : ∃ k, m = k + 1 := ⟨m - 1, by omega⟩
  have q1 : cc (n + 1) * er = 2 * (cc n * er) + er := by show (2 * cc n + 1) * er = _; rw [Nat.add_mul, Nat.one_mul, Nat.mul_assoc]
  have q2 : cc (n + 1) * (mr + 1) = 2 * (cc n * (mr + 1)) + (mr + 1) := by show (2 * cc n + 1) * (mr + 1) = _; rw [Nat.add_mul, Nat.one_mul, Nat.mul_assoc]
  rw [q1, q2] at hl
  have fq : ∀ {e m : Nat} {z : Nm n}, AllL (Bd D e m) n z → m + 8 * e + 1 ≤ 1800 → AllL (Fq 1800) n z := fun h l => AllL.imp (fun _ g => (g.fq hD h0).mono l) n h
  have b11 := mulN_bd h0 t ht.1 hx.1 hx.1
  have b22 := mulN_bd h0 t ht.1 hx.2 hx.2
  have b22r := mulN_bd h0 t ht.1 b22 ht.2
  have c11 := mul_c T h0 hD n (by omega) t ht.1 k (by omega) hx.1 hx.1 (by omega) μ
  have c22 := mul_c T h0 hD n (by omega) t ht.1 k (by omega) hx.2 hx.2 (by omega) μ
  have c22r := mul_c T h0 hD n (by omega) t ht.1 k (by omega) b22 ht.2 (by omega) μ
  have s := sub_c T n (by omega) t k (by omega) (fq b11 (by omega)) (fq b22r (by omega)) μ
  have sl := sl_tw t r
  have ix : atI (twL (.snoc t r)) (-1) = some (nD n r) := ix_tw μ t r
  rw [T.norm]
  refine run_rt rfl (Nat.le_of_ble_eq_true rfl) ?_
  show execs (G (k + 1)) W _ (pl [some (.tup [nD n x.1, nD n x.2]), some (tD (.snoc t r)), none]) μ = some (Res.rt (nD n (normN t r x)) μ)
  refine seq_nx (ρ1 := pl [some (.tup [nD n x.1, nD n x.2]), some (tD (.snoc t r)), some (tD t)]) (μ1 := μ) ?_ (seq_rt ?_)
  · walk_at "go"
    simp [sl, andThen_some', wthD_some', pl_set]
  · walk_at "go"
    simp [ix, c11, c22, c22r, s, andThen_some', wthD_some', normN]
theorem sign_c {D er mr : Nat} (h0 : 0 < D) (hD : D < 2 ^ 8) : (n : Nat) → (hn : n ≤ 50) → (t : Tw n) → (ht : TwAll (Bd D er mr) t) → (m : Nat) → n + 1 ≤ m → {e1 m1 : Nat} → {x : Nm n} → AllL (Bd D e1 m1) n x →
    SL er mr n e1 m1 → (μ : Cells) → G (m + 1) i.sign [nD n x, tD t] μ = some (.int (signN t x), μ)
  | 0, hn, .nil, ht, m, _, e1, m1, x, hx, hl, μ => by
    rw [T.sign]
    have e := tw_nil (.nil) (by decide)
    refine run_rt rfl (Nat.le_of_ble_eq_true rfl) ?_
    show execs (G m) W _ (pl [some (nD 0 x), some (tD .nil), none, none]) μ = _
    refine seq_rt (ifs_t (cmp_of (x := tD .nil) (y := .tup []) rfl rfl e) (seq_rt (ret_of (lk_pl _ _) ?_)))
    have p := T.sgn m (x : Int × Int) μ
    unfold ev
    rw [lks_pl]
    exact p
  | n + 1, hn, .snoc t r, ht, m, hm, e1, m1, x, hx, hl, μ => by
    obtain ⟨k, rfl⟩ : ∃ k, m = k + 1 := ⟨m - 1, by omega⟩
    have e := tw_nil (.snoc t r) (by omega)
    have nb := normN_bd h0 ht.1 ht.2 hx
    have sl1 : SL er mr n e1 m1 := hl.2.mono (by omega) (by omega)
    have a1 := sign_c h0 hD n (by omega) t ht.1 k (by omega) hx.1 sl1 μ
    have a2 := sign_c h0 hD n (by omega) t ht.1 k (by omega) hx.2 sl1 μ
    have a3 := sign_c h0 hD n (by omega) t ht.1 k (by omega) nb hl.2 μ
    have nc := norm_c T h0 hD (n := n) (by omega) t r ht (m := k) (by omega) hx hl.1 μ
    have z1 := signN_abs t x.1
    have z3 := signN_abs t (normN t r x)
    have sl := sl_tw t r
    rw [T.sign]
    refine run_rt rfl (Nat.le_of_ble_eq_true rfl) ?_
    show execs (G (k + 1)) W _ (pl [some (.tup [nD n x.1, nD n x.2]), some (tD (.snoc t r)), none, none]) μ = some (Res.rt (.int (OF.sg2 (signN t x.1) (signN t x.2) (signN t (normN t r x)))) μ)
    have nc' : G (k + 1) i.norm [.tup [nD n x.1, nD n x.2], tD (.snoc t r)] μ = some (nD n (normN t r x), μ) := nc
    generalize signN t x.1 = u at *
    generalize signN t x.2 = v at *
    generalize signN t (normN t r x) = w at *
    refine seq_nx (ifs_f (cmp_of (x := tD (.snoc t r)) (y := .tup []) rfl rfl e) rfl) (seq_nx (ρ1 := pl [some (.tup [nD n x.1, nD n x.2]), some (tD (.snoc t r)), some (.int u), some (.int v)]) (μ1 := μ) ?_ ?_)
    · walk_at "go"
      simp [sl, a1, a2, andThen_some', wthD_some', pl_set]
    · unfold OF.sg2
      by_cases y1 : v = 0 ∨ u = v
      · rw [if_pos y1]
        refine seq_rt (ifs_t (μ1 := μ) ?_ (seq_rt ?_))
        · walk_at "go"
          rcases y1 with y1 | y1
          · simp [y1]
          · by_cases y2 : v = 0 <;> simp [y1, y2, onBl_bl]
        · walk_at "go"
      · rw [if_neg y1]
        rw [not_or] at y1
        refine seq_nx (ifs_f (μ1 := μ) ?_ rfl) ?_
        · walk_at "go"
          simp [y1.1, y1.2, onBl_bl]
        · by_cases y2 : u = 0
          · rw [if_pos y2]
            refine seq_rt (ifs_t (μ1 := μ) ?_ (seq_rt ?_))
            · walk_at "go"
              exact y2
            · walk_at "go"
          · rw [if_neg y2]
            refine seq_nx (ifs_f (μ1 := μ) ?_ rfl) (seq_rt ?_)
            · walk_at "go"
              exact y2
            · have om := op_mul (j := 1) (k := 1) (a := u) (b := w) (by unfold Sm; omega) (by unfold Sm; omega) (by decide)
              walk_at "go"
              simp [sl, nc', a3, om, andThen_some', wthD_some']
/-- compare two numbers of a tower -/
theorem cmp_c {D er mr : Nat} (h0 : 0 < D) (hD : D < 2 ^ 8) {n : Nat} (hn : n ≤ 50) (t : Tw n) (ht : TwAll (Bd D er mr) t) {m : Nat} (hm : n + 2 ≤ m) {e1 m1 : Nat} {x y : Nm n} (hx : AllL (Bd D e1 m1) n x) (hy : AllL (Bd D e1 m1) n y) (h8 : m1 + 8 * e1 + 1 ≤ 1800)
    (hl : SL er mr n e1 (m1 + 1)) (μ : Cells) : G (m + 1) i.cmp [nD n x, nD n y, tD t] μ = some (.int (signN t (subN n x y)), μ) := by
  obtain ⟨k, rfl⟩ : ∃ k, m = k + 1 := ⟨m - 1, by omega⟩
  have fq : ∀ {z : Nm n}, AllL (Bd D e1 m1) n z → AllL (Fq 1800) n z := fun h => AllL.imp (fun _ g => (g.fq hD h0).mono h8) n h
  have s := sub_c T n hn t k (by omega) (fq hx) (fq hy) μ
  have g := sign_c T h0 hD n hn t ht k (by omega) (subN_bd h0 hx hy) hl μ
  rw [T.cmp]
  refine run_rt rfl (Nat.le_of_ble_eq_true rfl) ?_
  show execs (G (k + 1)) W _ (pl [some (nD n x), some (nD n y), some (tD t)]) μ = _
  refine seq_rt ?_
  walk_at "go"
  simp [s, g, andThen_some', wthD_some']
end
end FM

set_option Elab.async false
set_option linter.all false
set_option maxRecDepth 100000
set_option maxHeartbeats 4000000
/-! N6: noughts, lifting, whole fractions of towers. -/
namespace FM
open PySem (Str sizeLine)
open L2 (atI ixN Key)
open PySem.Spec PyProof.Rows
local macro_rules | `(tactic| walk_at "go") => `(tactic| simp [FM.execs, FM.exec, FM.ev, FM.evs, FM.evo, FM.evc, FM.evi, FM.Sl.d, FM.isiD, FM.cmpD, FM.negD, FM.bindT, FM.andThen_some', FM.onBl_bl, FM.wthD_some', FM.eqD_int, FM.ix_tup, FM.ix_lst, FM.atI_0, FM.atI_1, FM.atI_2, FM.op_add, FM.op_sub, FM.op_subBl, FM.biD_abs, FM.szle, FM.pl_get, FM.pl_set, FM.isOw_pl, FM.noOw_pl, FM.lk_pl, FM.lks_pl, FM.itlk_pl, FM.setAll_pl, FM.setAllD])
def zeroN : (n : Nat) → Nm n
  | 0 => ((0, 1) : Int × Int)
  | n + 1 => (zeroN n, zeroN n)
def liftN {n : Nat} (x : Nm n) : (d : Nat) → Nm (n + d)
  | 0 => x
  | d + 1 => (liftN x d, zeroN (n + d))
def liftD (n : Nat) (x : D) : Nat → D
  | 0 => x
  | d + 1 => .tup [liftD n x d, nD (n + d) (zeroN (n + d))]
theorem liftD_eq {n : Nat} (x : Nm n) : ∀ d, liftD n (nD n x) d = nD (n + d) (liftN x d)
  | 0 => rfl
  | d + 1 => by
    show D.tup [liftD n (nD n x) d, nD (n + d) (zeroN (n + d))] = _
    rw [liftD_eq x d]
    rfl
theorem liftZ : ∀ d, liftD 0 (fD (0, 1)) d = nD d (zeroN d)
  | 0 => rfl
  | d + 1 => by
    show D.tup [liftD 0 (fD (0, 1)) d, nD (0 + d) (zeroN (0 + d))] = _
    rw [liftZ d, Nat.zero_add]
    rfl
theorem cut_take {α : Type} (l : List α) (k : Nat) (h : k ≤ l.length) : cutD l none (some (k : Int)) = l.take k := by
  have e : HT.sIx l.length l.length (some (k : Int)) = k := by
    rw [HT.sIx_nat]
    omega
  unfold cutD
  rw [e]
  show (l.drop 0).take (k - 0) = _
  rw [List.drop_zero, Nat.sub_zero]
theorem sl_take (l : List D) (k : Nat) (h : k ≤ l.length) : slD (.tup l) none (some (k : Int)) = some (.tup (l.take k)) := by
  show some (D.tup (cutD l none (some (k : Int)))) = _
  rw [cut_take l k h]
theorem rngOk_nat {n : Nat} (h : n ≤ 16777216) : rngOk (n : Int) = true := by
  unfold rngOk
  rw [Bool.and_eq_true, decide_eq_true_eq, decide_eq_true_eq]
  omega
theorem evi_rng2 {F : Fs} {ρ : Env} {a b : E} {m n : Nat} {μ μ1 μ2 : Cells} (h1 : ev F a ρ μ = some (.int m, μ1)) (h2 : ev F b ρ μ1 = some (.int n, μ2)) (hm : m ≤ 16777216) (hn : n ≤ 16777216) : evi F (.rng2 a b) ρ μ = some (rngD m (n - m), μ2) := by
  have e : ((n : Int) - (m : Int)).toNat = n - m := by omega
  unfold evi
  rw [h1, andThen_some', h2, andThen_some']
  simp only [rngOk_nat hm, rngOk_nat hn, Bool.and_self, if_true, e]
structure Ids2 where
  nought : Nat
  lifted : Nat
  number : Nat
  fracof : Nat
  exact : Nat
  wroot : Nat
structure TF2 (G : Nat → Fs) (i : Ids) (j : Ids2) : Prop where
  t : TF G i
  nought : ∀ m ds μ, G (m + 1) j.nought ds μ = runFn (G m) W ⟨1, 1, B_nought j.lifted⟩ ds μ
  lifted : ∀ m ds μ, G (m + 1) j.lifted ds μ = runFn (G m) W ⟨3, 4, B_lifted j.nought⟩ ds μ
  number : ∀ m ds μ, G (m + 1) j.number ds μ = runFn (G m) W ⟨2, 2, B_number j.lifted⟩ ds μ
  fracof : ∀ m ds μ, G (m + 1) j.fracof ds μ = runFn (G m) W ⟨2, 3, B_fraction_of i.isn⟩ ds μ
  exact : ∀ (m : Nat) (x : Int × Int) (μ : Cells), Fq 1800 x → if x.1 < 0 then G m j.exact [fD x] μ = some (.non, μ) else ∃ r s, IsRt x.1 r ∧ IsRt x.2 s ∧ G m j.exact [fD x] μ = some (if r * r = x.1 ∧ s * s = x.2 then fD (r, s) else .non, μ)
  wroot : ∀ m ds μ, G (m + 1) j.wroot ds μ = runFn (G m) W ⟨2, 5, B_with_root j.fracof j.exact j.number i.cmp j.lifted j.nought⟩ ds μ
theorem rng_drop {lo : Int} {c j : Nat} {x : D} {ys : List D} (h : x :: ys = (rngD lo c).drop j) : j < c ∧ x = .int (lo + j) ∧ ys = (rngD lo c).drop (j + 1) := by
  have hj : j < c := by
    rcases Nat.lt_or_ge j c with z | z
    · exact z
    · rw [List.drop_eq_nil_of_le (by rw [rng_len]; exact z)] at h
      cases h
  have e := List.drop_eq_getElem_cons (l := rngD lo c) (i := j) (by rw [rng_len]; exact hj)
  rw [e] at h
  injection h with h1 h2
  refine ⟨hj, ?_, h2⟩
  rw [h1]
  unfold rngD
  simp
section
variable {G : Nat → Fs} {i : Ids} {j : Ids2} (T : TF2 G i j)
include T
theorem lift_of {m n c : Nat} (d : D) (l1 l2 : List D) (h1 : l1.length = n) (h2 : l2.length = n + c) (hs : n + c ≤ 1000) (μ : Cells) (hn : ∀ (k : Nat), n ≤ k → k < n + c → ∀ l : List D, l.length = k → G m j.nought [.tup l] μ = some (nD k (zeroN k), μ)) :
    G (m + 1) j.lifted [d, .tup l1, .tup l2] μ = some (liftD n d c, μ) := by
  rw [T.lifted]
  obtain ⟨ρ', μ', e1, e2⟩ := forF_inv (fun ys ρ μ' => μ' = μ ∧ ∃ (q : Nat) (o : Option D), q ≤ c ∧ ys = (rngD n c).drop q ∧ ρ = pl [some (liftD n d q), some (.tup l1), some (.tup l2), o]) (tg := .nm 3) (b := fun ρ' μ' => execs (G m) W (.cons (.asg 0 (.tup (.cons (.var 0) (.cons (.call j.nought (.cons (.sl (.var 2) .none (.some (.var 3))) .nil)) .nil)))) .nil) ρ' μ') (fun x ys ρ μ1 h => by
    obtain ⟨rfl, q, o, hq, hy, rfl⟩ := h
    obtain ⟨q1, rfl, rfl⟩ := rng_drop hy
    refine ⟨_, _, _, rfl, ?_, rfl, q + 1, some (.int (n + q)), by omega, rfl, rfl⟩
    have s := sl_take l2 (n + q) (by omega)
    have c1 := hn (n + q) (by omega) (by omega) (l2.take (n + q)) (by rw [List.length_take]; omega)
    rw [Int.natCast_add] at s
    show execs (G m) W _ (pl [some (liftD n d q), some (.tup l1), some (.tup l2), some (.int (n + q))]) μ1 = _
    walk_at "go"
    simp [s, c1, andThen_some', wthD_some', szle, pl_set]
    rfl) (rngD n c) (pl [some d, some (.tup l1), some (.tup l2), none]) μ ⟨rfl, 0, none, Nat.zero_le _, rfl, rfl⟩
  obtain ⟨rfl, q, o, hq, hy, rfl⟩ := e2
  have eq : q = c := by
    have := congrArg List.length hy
    rw [List.length_drop, rng_len] at this
    simp at this
    omega
  subst eq
  refine run_rt rfl (Nat.le_of_ble_eq_true rfl) (seq_nx (for_of (xs := rngD n q) (μ1 := μ') ?_ rfl e1) (seq_rt ?_))
  · have z := evi_rng2 (F := G m) (ρ := pl [some d, some (.tup l1), some (.tup l2), none]) (a := .bi .len (.cons (.var 1) .nil)) (b := .bi .len (.cons (.var 2) .nil)) (m := n) (n := n + q) (μ := μ') (μ1 := μ') (μ2 := μ') (by
      walk_at "go"
      simp [len_tup, wthD_some', h1]) (by
      walk_at "go"
      simp [len_tup, wthD_some', h2]) (by omega) (by omega)
    rw [Nat.add_sub_cancel_left] at z
    exact z
  · walk_at "go"
theorem nought_c : ∀ (n : Nat), n ≤ 50 → ∀ (m : Nat), 2 * n ≤ m → ∀ (l : List D), l.length = n → ∀ μ : Cells, G (m + 2) j.nought [.tup l] μ = some (nD n (zeroN n), μ) := by
  intro n
  induction n using Nat.strongRecOn with
  | _ n ih =>
    intro hn m hm l hl μ
    rw [T.nought]
    have h := lift_of T (m := m) (n := 0) (c := n) (fD (0, 1)) [] l rfl (by omega) (by omega) μ (fun k _ hk l' hl' => by
      obtain ⟨m', rfl⟩ : ∃ m', m = m' + 2 := ⟨m - 2, by omega⟩
      exact ih k (by omega) (by omega) m' (by omega) l' hl' μ)
    rw [liftZ] at h
    refine run_rt rfl (Nat.le_of_ble_eq_true rfl) (seq_rt ?_)
    show exec (G (m + 1)) W _ (pl [some (.tup l)]) μ = _
    walk_at "go"
    simp [h, andThen_some', szle]
theorem lifted_c {n c : Nat} (hn : n + c ≤ 50) {m : Nat} (hm : 2 * (n + c) + 2 ≤ m) (d : D) (l1 l2 : List D) (h1 : l1.length = n) (h2 : l2.length = n + c) (μ : Cells) : G (m + 1) j.lifted [d, .tup l1, .tup l2] μ = some (liftD n d c, μ) :=
  lift_of T d l1 l2 h1 h2 (by omega) μ fun k _ hk l hl => by
    obtain ⟨m', rfl⟩ : ∃ m', m = m' + 2 := ⟨m - 2, by omega⟩
    exact nought_c T k (by omega) m' (by omega) l hl μ
theorem number_c {n : Nat} (hn : n ≤ 50) {m : Nat} (hm : 2 * n + 3 ≤ m) (d : D) (l : List D) (hl : l.length = n) (μ : Cells) : G (m + 1) j.number [d, .tup l] μ = some (liftD 0 d n, μ) := by
  obtain ⟨k, rfl⟩ : ∃ k, m = k + 1 := ⟨m - 1, by omega⟩
  have h := lifted_c T (n := 0) (c := n) (by omega) (m := k) (by omega) d [] l rfl (by omega) μ
  rw [T.number]
  refine run_rt rfl (Nat.le_of_ble_eq_true rfl) (seq_rt ?_)
  show exec (G (k + 1)) W _ (pl [some d, some (.tup l)]) μ = _
  walk_at "go"
  simp [h, andThen_some', szle]
end
end FM

set_option Elab.async false
set_option linter.all false
set_option maxRecDepth 100000
set_option maxHeartbeats 4000000
/-! N7: fractions within towers, new roots. -/
namespace FM
open PySem (Str sizeLine)
open L2 (atI ixN Key)
open PySem.Spec PyProof.Rows
open OF (sgn sgn_eq0 Hom rat rat_mul)
local macro_rules | `(tactic| walk_at "go") => `(tactic| simp [FM.execs, FM.exec, FM.ev, FM.evs, FM.evo, FM.evc, FM.evi, FM.Sl.d, FM.isiD, FM.cmpD, FM.negD, FM.bindT, FM.andThen_some', FM.onBl_bl, FM.wthD_some', FM.eqD_int, FM.ix_tup, FM.ix_lst, FM.atI_0, FM.atI_1, FM.atI_2, FM.op_add, FM.op_sub, FM.op_subBl, FM.biD_abs, FM.szle, FM.pl_get, FM.pl_set, FM.isOw_pl, FM.noOw_pl, FM.lk_pl, FM.lks_pl, FM.itlk_pl, FM.setAll_pl, FM.setAllD])
def fracN : (n : Nat) → Nm n → Option (Int × Int)
  | 0, x => some x
  | n + 1, x => if isN n x.2 then fracN n x.1 else none
def frR (o : Option (Int × Int)) : D := match o with
  | some q => fD q
  | none => .non
theorem rngS_down (n : Nat) : rngS ((n + 1 : Nat) : Int) (-1) (n + 1) = .int ((n : Int) + 1) :: rngS (n : Int) (-1) n := by
  unfold rngS
  rw [List.range_succ_eq_map, List.map_cons, List.map_map]
  have e1 : ((n + 1 : Nat) : Int) + ((0 : Nat) : Int) * (-1) = (n : Int) + 1 := by omega
  rw [e1]
  congr 1
  refine List.map_congr_left fun k _ => ?_
  have e2 : ((n + 1 : Nat) : Int) + ((k + 1 : Nat) : Int) * (-1) = (n : Int) + (k : Int) * (-1) := by omega
  exact congrArg D.int e2
theorem rgOk_down {n : Nat} (h : n ≤ 16777216) : rgOk (n : Int) 0 (-1) = true ∧ PySem.Builtin.Range.rangeSize (n : Int) 0 (-1) = (n : Int) := by
  have e := PySem.W.rangeSize_downNat (n : Int) 0
  have e2 : (((n : Int) - 0).toNat : Int) = (n : Int) := by omega
  rw [e2] at e
  refine ⟨?_, e⟩
  have s := PySem.W.small_down (a := (n : Int)) (b := 0) (by omega) (by omega) (by decide) (by decide)
  unfold rgOk
  rw [s, e, Bool.and_true, Bool.and_eq_true, Bool.and_eq_true, decide_eq_true_eq, decide_eq_true_eq, decide_eq_true_eq]
  exact ⟨⟨by decide, by decide⟩, by omega⟩
def bFr (isn : Nat) : Ss := (.cons (.ifs (.not (.call isn (.cons (.ix (.var 0) (.int 1)) (.cons (.sl (.var 1) .none (.some (.op .Sub (.var 2) (.int 1)))) .nil)))) (.cons (.ret .non) .nil) .nil) (.cons (.asg 0 (.ix (.var 0) (.int 0))) .nil))
theorem fr_t {F : Fs} {isn : Nat} {a b : D} {l lo : List D} {n : Int} {μ : Cells} (sl : slD (.tup l) none (some (n + 1 - 1)) = some (.tup lo)) (ic : F isn [b, .tup lo] μ = some (.bl true, μ)) : execs F W (bFr isn) (pl [some (.tup [a, b]), some (.tup l), some (.int (n + 1))]) μ = some (.nx (pl [some a, some (.tup l), some (.int (n + 1))]) μ) := by
  refine seq_nx (ifs_f (μ1 := μ) ?_ rfl) (seq_nx (ρ1 := pl [some a, some (.tup l), some (.int (n + 1))]) (μ1 := μ) ?_ rfl)
  · walk_at "go"
    rw [Int.add_sub_cancel] at sl
    simp [sl, ic, andThen_some', wthD_some', onBl_bl]
  · walk_at "go"
theorem fr_f {F : Fs} {isn : Nat} {a b : D} {l lo : List D} {n : Int} {μ : Cells} (sl : slD (.tup l) none (some (n + 1 - 1)) = some (.tup lo)) (ic : F isn [b, .tup lo] μ = some (.bl false, μ)) : execs F W (bFr isn) (pl [some (.tup [a, b]), some (.tup l), some (.int (n + 1))]) μ = some (.rt .non μ) := by
  refine seq_rt (ifs_t (μ1 := μ) ?_ (seq_rt ?_))
  · walk_at "go"
    rw [Int.add_sub_cancel] at sl
    simp [sl, ic, andThen_some', wthD_some', onBl_bl]
  · walk_at "go"
theorem evi_rng3 {F : Fs} {ρ : Env} {a b c : E} {n : Nat} {μ : Cells} (h1 : ev F a ρ μ = some (.int n, μ)) (h2 : ev F b ρ μ = some (.int 0, μ)) (h3 : ev F c ρ μ = some (.int (-1), μ)) (hn : n ≤ 16777216) : evi F (.rng3 a b c) ρ μ = some (rngS n (-1) n, μ) := by
  have rg := rgOk_down hn
  unfold evi
  rw [h1, andThen_some', h2, andThen_some', h3, andThen_some']
  simp only [rg.1, if_true, rg.2, Int.toNat_natCast]
section
variable {G : Nat → Fs} {i : Ids} {j : Ids2} (T : TF2 G i j)
include T
theorem frac_loop (μ : Cells) : (n : Nat) → (hn : n ≤ 50) → (t : Tw n) → (m : Nat) → n ≤ m → (s : List D) → (x : Nm n) → (o : Option D) →
    (∃ q o', fracN n x = some q ∧ forF (.nm 2) (fun ρ' μ' => execs (G (m + 1)) W (bFr i.isn) ρ' μ') (rngS (n : Int) (-1) n) (pl [some (nD n x), some (.tup (twL t ++ s)), o]) μ = some (.nx (pl [some (fD q), some (.tup (twL t ++ s)), o']) μ)) ∨
    (fracN n x = none ∧ forF (.nm 2) (fun ρ' μ' => execs (G (m + 1)) W (bFr i.isn) ρ' μ') (rngS (n : Int) (-1) n) (pl [some (nD n x), some (.tup (twL t ++ s)), o]) μ = some (.rt .non μ))
  | 0, hn, .nil, m, hm, s, x, o => .inl ⟨x, o, rfl, rfl⟩
  | n + 1, hn, .snoc t r, m, hm, s, x, o => by
    have e0 : twL (.snoc t r) ++ s = twL t ++ (nD n r :: s) := by
      show twL t ++ [nD n r] ++ s = _
      rw [List.append_assoc]
      rfl
    have sl : slD (.tup (twL t ++ (nD n r :: s))) none (some ((n : Int) + 1 - 1)) = some (tD t) := by
      rw [show (n : Int) + 1 - 1 = (n : Int) by omega, sl_take _ n (by rw [List.length_append, twL_len]; omega), List.take_append_of_le_length (by rw [twL_len]; exact Nat.le_refl _), List.take_of_length_le (by rw [twL_len]; exact Nat.le_refl _)]
    have ic := isn_c T.t n (by omega) t m (by omega) x.2 μ
    rw [rngS_down, e0]
    by_cases z : isN n x.2 = true
    · have b : execs (G (m + 1)) W (bFr i.isn) (pl [some (.tup [nD n x.1, nD n x.2]), some (.tup (twL t ++ (nD n r :: s))), some (.int ((n : Int) + 1))]) μ = some (.nx (pl [some (nD n x.1), some (.tup (twL t ++ (nD n r :: s))), some (.int ((n : Int) + 1))]) μ) := by
        rw [z] at ic
        exact fr_t sl ic
      have fe : fracN (n + 1) x = fracN n x.1 := if_pos z
      have step : forF (.nm 2) (fun ρ' μ' => execs (G (m + 1)) W (bFr i.isn) ρ' μ') (.int ((n : Int) + 1) :: rngS (n : Int) (-1) n) (pl [some (nD (n + 1) x), some (.tup (twL t ++ (nD n r :: s))), o]) μ = forF (.nm 2) (fun ρ' μ' => execs (G (m + 1)) W (bFr i.isn) ρ' μ') (rngS (n : Int) (-1) n) (pl [some (nD n x.1), some (.tup (twL t ++ (nD n r :: s))), some (.int ((n : Int) + 1))]) μ := by
        conv => lhs; unfold forF
        show (match execs (G (m + 1)) W (bFr i.isn) (pl [some (.tup [nD n x.1, nD n x.2]), some (.tup (twL t ++ (nD n r :: s))), some (.int ((n : Int) + 1))]) μ with | none => none | some (.nx ρ2 μ2) => _ | some (.ct ρ2 μ2) => _ | some (.bk ρ2 μ2) => _ | some (.rt d μ2) => _) = _
        rw [b]
      rw [step, fe]
      exact frac_loop μ n (by omega) t m (by omega) (nD n r :: s) x.1 _
    · refine .inr ⟨if_neg z, ?_⟩
      have z' : isN n x.2 = false := by simpa using z
      rw [z'] at ic
      have b : execs (G (m + 1)) W (bFr i.isn) (pl [some (.tup [nD n x.1, nD n x.2]), some (.tup (twL t ++ (nD n r :: s))), some (.int ((n : Int) + 1))]) μ = some (.rt .non μ) := by
        exact fr_f sl ic
      unfold forF
      show (match execs (G (m + 1)) W (bFr i.isn) (pl [some (.tup [nD n x.1, nD n x.2]), some (.tup (twL t ++ (nD n r :: s))), some (.int ((n : Int) + 1))]) μ with | none => none | some (.nx ρ2 μ2) => _ | some (.ct ρ2 μ2) => _ | some (.bk ρ2 μ2) => _ | some (.rt d μ2) => _) = _
      rw [b]
theorem fracof_c {n : Nat} (hn : n ≤ 50) (t : Tw n) {m : Nat} (hm : n ≤ m) (x : Nm n) (μ : Cells) : G (m + 2) j.fracof [nD n x, tD t] μ = some (frR (fracN n x), μ) := by
  rw [T.fracof]
  have it : evi (G (m + 1)) (.rng3 (.bi .len (.cons (.var 1) .nil)) (.int 0) (.neg (.int 1))) (pl [some (nD n x), some (tD t), none]) μ = some (rngS (n : Int) (-1) n, μ) := by
    have a : ev (G (m + 1)) (.bi .len (.cons (.var 1) .nil)) (pl [some (nD n x), some (tD t), none]) μ = some (.int n, μ) := by
      walk_at "go"
      simp [len_tup, twL_len, wthD_some']
    refine evi_rng3 a rfl ?_ (by omega)
    walk_at "go"
  rcases frac_loop T μ n hn t m hm [] x none with ⟨q, o', e1, e2⟩ | ⟨e1, e2⟩
  · rw [List.append_nil] at e2
    rw [e1]
    refine run_rt rfl (Nat.le_of_ble_eq_true rfl) (seq_nx (for_of it rfl e2) (seq_rt ?_))
    walk_at "go"
    rfl
  · rw [List.append_nil] at e2
    rw [e1]
    exact run_rt rfl (Nat.le_of_ble_eq_true rfl) (seq_rt (for_of it rfl e2))
end
end FM

set_option Elab.async false
set_option linter.all false
set_option maxRecDepth 100000
set_option maxHeartbeats 4000000
/-! N8: a new root. -/
namespace FM
open PySem (Str sizeLine)
open L2 (atI ixN Key)
open PySem.Spec PyProof.Rows
open OF (sgn sgn_eq0 Hom rat rat_mul)
local macro_rules | `(tactic| walk_at "go") => `(tactic| simp [FM.execs, FM.exec, FM.ev, FM.evs, FM.evo, FM.evc, FM.evi, FM.Sl.d, FM.isiD, FM.cmpD, FM.negD, FM.bindT, FM.andThen_some', FM.onBl_bl, FM.wthD_some', FM.eqD_int, FM.ix_tup, FM.ix_lst, FM.atI_0, FM.atI_1, FM.atI_2, FM.op_add, FM.op_sub, FM.op_subBl, FM.biD_abs, FM.szle, FM.pl_get, FM.pl_set, FM.isOw_pl, FM.noOw_pl, FM.lk_pl, FM.lks_pl, FM.itlk_pl, FM.setAll_pl, FM.setAllD])
def numN (q : Int × Int) : (n : Nat) → Nm n
  | 0 => q
  | n + 1 => (numN q n, zeroN n)
theorem liftQ (q : Int × Int) : ∀ d, liftD 0 (fD q) d = nD d (numN q d)
  | 0 => rfl
  | d + 1 => by
    show D.tup [liftD 0 (fD q) d, nD (0 + d) (zeroN (0 + d))] = _
    rw [liftQ q d, Nat.zero_add]
    rfl
theorem bd01 (D e m : Nat) : Bd D e m (0, 1) := ⟨by decide, by decide, ⟨_, (Int.one_mul _).symm⟩, by
  show ((0 : Nat) : Int) ≤ _
  have := Int.natCast_nonneg (2 ^ m)
  omega⟩
theorem bd11 (D e m : Nat) : Bd D e m (1, 1) := ⟨by decide, by decide, ⟨_, (Int.one_mul _).symm⟩, by
  show ((1 : Nat) : Int) ≤ _
  have : 0 < 2 ^ m := Nat.pow_pos (by decide)
  omega⟩
theorem zeroN_all {P : Int × Int → Prop} (h : P (0, 1)) : ∀ n, AllL P n (zeroN n)
  | 0 => h
  | n + 1 => ⟨zeroN_all h n, zeroN_all h n⟩
theorem numN_all {P : Int × Int → Prop} (h : P (0, 1)) {q : Int × Int} (g : P q) : ∀ n, AllL P n (numN q n)
  | 0 => g
  | n + 1 => ⟨numN_all h g n, zeroN_all h n⟩
theorem fracN_all {P : Int × Int → Prop} : (n : Nat) → {x : Nm n} → {q : Int × Int} → fracN n x = some q → AllL P n x → P q
  | 0, x, q, h, a => by
    have e : x = q := Option.some.inj h
    exact e ▸ a
  | n + 1, x, q, h, a => by
    by_cases z : isN n x.2 = true
    · have e : fracN (n + 1) x = fracN n x.1 := if_pos z
      rw [e] at h
      exact fracN_all n h a.1
    · have e : fracN (n + 1) x = none := if_neg z
      rw [e] at h
      cases h
section
variable {L : Type} [fL : Lean.Grind.Field L] [LE L] [LT L] [Std.LawfulOrderLT L] [Std.IsLinearOrder L] [Lean.Grind.OrderedRing L] {j : Rat → L} {ρ : Nat → L} (hj : Hom j)
include hj
theorem val_zero : ∀ n, val j ρ n (zeroN n) = 0
  | 0 => by
    have e : rat (0, 1) = 0 := by unfold rat; grind
    exact (congrArg j e).trans hj.zero
  | n + 1 => by
    show val j ρ n (zeroN n) + val j ρ n (zeroN n) * ρ n = 0
    rw [val_zero n]
    grind
theorem val_num (q : Int × Int) : ∀ n, val j ρ n (numN q n) = j (rat q)
  | 0 => rfl
  | n + 1 => by
    show val j ρ n (numN q n) + val j ρ n (zeroN n) * ρ n = _
    rw [val_num q n, val_zero hj n]
    grind
theorem val_frac : (n : Nat) → {x : Nm n} → {q : Int × Int} → fracN n x = some q → val j ρ n x = j (rat q)
  | 0, x, q, h => by
    have e : x = q := Option.some.inj h
    subst e
    rfl
  | n + 1, x, q, h => by
    by_cases z : isN n x.2 = true
    · have e : fracN (n + 1) x = fracN n x.1 := if_pos z
      rw [e] at h
      show val j ρ n x.1 + val j ρ n x.2 * ρ n = _
      rw [val_frac n h, val_isN hj n z]
      grind
    · have e : fracN (n + 1) x = none := if_neg z
      rw [e] at h
      cases h
end
theorem rat1 : rat (1, 1) = 1 := by unfold rat; grind
/-- the k-th root of a tower, lifted up to it -/
theorem tw_at : {n : Nat} → (t : Tw n) → {k : Nat} → k < n → ∃ (l1 rest : List D) (rk : D) (z w : Nm n), twL t = l1 ++ rk :: rest ∧ l1.length = k ∧ liftD k rk (n - k) = nD n z ∧ liftD (k + 1) (.tup [nD k (zeroN k), liftD 0 (fD (1, 1)) k]) (n - k - 1) = nD n w ∧
    (∀ D er mr, TwAll (Bd D er mr) t → AllL (Bd D er mr) n z) ∧ (∀ D er mr, AllL (Bd D er mr) n w) ∧
    ∀ (L : Type) [Lean.Grind.Field L] [LE L] [LT L] [Std.LawfulOrderLT L] [Std.IsLinearOrder L] [Lean.Grind.OrderedRing L] (j : Rat → L) (ρ : Nat → L), Hom j → TwV j ρ t → val j ρ n z = ρ k * ρ k ∧ val j ρ n w = ρ k ∧ 0 < ρ k
  | _, .nil, k, h => by omega
  | n + 1, .snoc t r, k, h => by
    by_cases e : k = n
    · subst e
      refine ⟨twL t, [], nD k r, (r, zeroN k), (zeroN k, numN (1, 1) k), rfl, twL_len t, ?_, ?_, fun D er mr ht => ⟨ht.2, zeroN_all (bd01 _ _ _) _⟩, fun D er mr => ⟨zeroN_all (bd01 _ _ _) _, numN_all (bd01 _ _ _) (bd11 _ _ _) _⟩, ?_⟩
      · rw [show k + 1 - k = 1 by omega]
        rfl
      · rw [show k + 1 - k - 1 = 0 by omega, liftQ]
        rfl
      · intro L _ _ _ _ _ _ j ρ hj hv
        obtain ⟨h1, h2, h3⟩ := hv
        refine ⟨?_, ?_, h2⟩
        · show val j ρ k r + val j ρ k (zeroN k) * ρ k = _
          rw [val_zero hj k, ← h3]
          grind
        · show val j ρ k (zeroN k) + val j ρ k (numN (1, 1) k) * ρ k = _
          rw [val_zero hj k, val_num hj, rat1, hj.one]
          grind
    · obtain ⟨l1, rest, rk, z, w, h1, h2, h3, h4, h5, h6, h7⟩ := tw_at t (k := k) (by omega)
      have ez : ∀ m : Nat, m = n → nD m (zeroN m) = nD n (zeroN n) := fun m e => by subst e; rfl
      refine ⟨l1, rest ++ [nD n r], rk, (z, zeroN n), (w, zeroN n), ?_, h2, ?_, ?_, fun D er mr ht => ⟨h5 D er mr ht.1, zeroN_all (bd01 _ _ _) _⟩, fun D er mr => ⟨h6 D er mr, zeroN_all (bd01 _ _ _) _⟩, ?_⟩
      · show twL t ++ [nD n r] = _
        rw [h1, List.append_assoc]
        rfl
      · rw [show n + 1 - k = (n - k) + 1 by omega]
        show D.tup [liftD k rk (n - k), nD (k + (n - k)) (zeroN (k + (n - k)))] = _
        rw [h3, ez _ (by omega)]
        rfl
      · rw [show n + 1 - k - 1 = (n - k - 1) + 1 by omega]
        show D.tup [liftD (k + 1) _ (n - k - 1), nD (k + 1 + (n - k - 1)) (zeroN (k + 1 + (n - k - 1)))] = _
        rw [h4, ez _ (by omega)]
        rfl
      · intro L _ _ _ _ _ _ j ρ hj hv
        obtain ⟨g1, g2, g3⟩ := h7 L j ρ hj hv.1
        refine ⟨?_, ?_, g3⟩
        · show val j ρ n z + val j ρ n (zeroN n) * ρ n = _
          rw [val_zero hj n, g1]
          grind
        · show val j ρ n w + val j ρ n (zeroN n) * ρ n = _
          rw [val_zero hj n, g2]
          grind
/-- what a new root is -/
def RootIs {n : Nat} (t : Tw n) (x z : Nm n) : Prop := ∀ (L : Type) [Lean.Grind.Field L] [LE L] [LT L] [Std.LawfulOrderLT L] [Std.IsLinearOrder L] [Lean.Grind.OrderedRing L] (j : Rat → L) (ρ : Nat → L), Hom j → TwV j ρ t → 0 ≤ val j ρ n z ∧ val j ρ n z * val j ρ n z = val j ρ n x
theorem bd_root {D e m : Nat} {q : Int × Int} (h : Bd D e m q) {r s : Int} (hr : IsRt q.1 r) (hs : IsRt q.2 s) (e1 : r * r = q.1) (e2 : s * s = q.2) : Bd D e m (r, s) := by
  obtain ⟨h1, h2, h3, h4⟩ := h
  have s0 : 0 < s := by
    rcases Int.lt_or_le 0 s with z | z
    · exact z
    · have : s = 0 := by have := hs.1; omega
      subst this
      rw [← e2] at h1
      omega
  refine ⟨s0, ?_, Int.dvd_trans ⟨s, by rw [← e2]⟩ h3, ?_⟩
  · show Int.gcd r s = 1
    have d1 : ((Int.gcd r s : Nat) : Int) ∣ q.1 := Int.dvd_trans (Int.gcd_dvd_left r s) ⟨r, e1.symm⟩
    have d2 : ((Int.gcd r s : Nat) : Int) ∣ q.2 := Int.dvd_trans (Int.gcd_dvd_right r s) ⟨s, e2.symm⟩
    have := Int.dvd_gcd d1 d2
    rw [h2] at this
    exact Nat.dvd_one.mp this
  · show ((r.natAbs : Nat) : Int) ≤ ((2 ^ m : Nat) : Int) * s
    have r0 := hr.1
    rw [← e1, ← e2, show (((r * r).natAbs : Nat) : Int) = r * r by have := sqn r; omega] at h4
    rw [show ((r.natAbs : Nat) : Int) = r by omega]
    rcases Int.lt_or_le (((2 ^ m : Nat) : Int) * s) r with z | z
    · have p : 0 < ((2 ^ m : Nat) : Int) := by
        have : 0 < 2 ^ m := Nat.pow_pos (by decide)
        omega
      have ps := Int.mul_pos p s0
      have a1 : (((2 ^ m : Nat) : Int) * s) * (((2 ^ m : Nat) : Int) * s) < r * r := by
        have b1 := Int.mul_lt_mul_of_pos_left z ps
        have b2 := Int.mul_lt_mul_of_pos_right z (show 0 < r by omega)
        omega
      have a2 : ((2 ^ m : Nat) : Int) * (s * s) ≤ (((2 ^ m : Nat) : Int) * s) * (((2 ^ m : Nat) : Int) * s) := by
        have b1 : 1 * (((2 ^ m : Nat) : Int) * (s * s)) ≤ ((2 ^ m : Nat) : Int) * (((2 ^ m : Nat) : Int) * (s * s)) := Int.mul_le_mul_of_nonneg_right (by omega) (Int.mul_nonneg (by omega) (sqn s))
        have b2 : (((2 ^ m : Nat) : Int) * s) * (((2 ^ m : Nat) : Int) * s) = ((2 ^ m : Nat) : Int) * (((2 ^ m : Nat) : Int) * (s * s)) := by grind
        omega
      omega
    · exact z
theorem twAll_imp {P Q : Int × Int → Prop} (h : ∀ x, P x → Q x) : {n : Nat} → (t : Tw n) → TwAll P t → TwAll Q t
  | _, .nil, _ => trivial
  | n + 1, .snoc t r, g => ⟨twAll_imp h t g.1, AllL.imp h n g.2⟩
theorem isnot_of {F : Fs} {a : E} {ρ : Env} {μ μ1 : Cells} {x : D} (h : ev F a ρ μ = some (x, μ1)) : ev F (.cmp .IsNot a .non) ρ μ = some (.bl (!isNon x), μ1) := cmp_of h rfl rfl
theorem and_tt {F : Fs} {a b : E} {ρ : Env} {μ μ1 μ2 : Cells} {y : Bool} (h : ev F a ρ μ = some (.bl true, μ1)) (g : ev F b ρ μ1 = some (.bl y, μ2)) : ev F (.and a b) ρ μ = some (.bl y, μ2) := by
  unfold ev
  rw [h]
  show onBl (ev F b ρ μ1) _ = _
  rw [g]
  rfl
theorem and_ff {F : Fs} {a b : E} {ρ : Env} {μ μ1 : Cells} (h : ev F a ρ μ = some (.bl false, μ1)) : ev F (.and a b) ρ μ = some (.bl false, μ1) := by
  unfold ev
  rw [h]
  rfl
theorem atI_app {α : Type} (l : List α) (x : α) (r : List α) {k : Nat} (h : l.length = k) : atI (l ++ x :: r) (k : Int) = some x := by
  have := atI_nat (l := l ++ x :: r) (k := k) (by rw [List.length_append, List.length_cons]; omega)
  rw [this]
  subst h
  simp
section
variable {G : Nat → Fs} {i : Ids} {j : Ids2} (T : TF2 G i j)
include T
theorem wroot_c {B er mr : Nat} (h0 : 0 < B) (hD : B < 2 ^ 8) {n : Nat} (hn : n + 1 ≤ 50) (t : Tw n) (ht : TwAll (Bd B er mr) t) (x : Nm n) (hx : AllL (Bd B er mr) n x) (h8 : mr + 8 * er + 1 ≤ 1800) (hl : SL er mr n er (mr + 1)) {m : Nat} (hm : 2 * n + 20 ≤ m) (μ : Cells) :
    (∃ z : Nm n, G (m + 1) j.wroot [nD n x, tD t] μ = some (.tup [tD t, nD n z], μ) ∧ AllL (Bd B er mr) n z ∧ RootIs t x z) ∨ G (m + 1) j.wroot [nD n x, tD t] μ = some (.tup [tD (.snoc t x), nD (n + 1) (zeroN n, numN (1, 1) n)], μ) := by
  rw [T.wroot]
  obtain ⟨k, rfl⟩ : ∃ k, m = k + 2 := ⟨m - 2, by omega⟩
  have f1 := fracof_c T (n := n) (by omega) t (m := k) (by omega) x μ
  have nt : ∀ (d : D), G (k + 2) j.number [d, tD t] μ = some (liftD 0 d n, μ) := fun d => number_c T (by omega) (m := k + 1) (by omega) d (twL t) (twL_len t) μ
  have s0 : exec (G (k + 2)) W (.asg 2 (.call j.fracof (.cons (.var 0) (.cons (.var 1) .nil)))) (pl [some (nD n x), some (tD t), none, none, none]) μ = some (.nx (pl [some (nD n x), some (tD t), some (frR (fracN n x)), none, none]) μ) := by
    refine (asg_pl (d := frR (fracN n x)) (μ1 := μ) ?_).trans rfl
    walk_at "go"
    exact f1
  by_cases hq : ∃ q r s, fracN n x = some q ∧ IsRt q.1 r ∧ IsRt q.2 s ∧ r * r = q.1 ∧ s * s = q.2 ∧ G (k + 2) j.exact [fD q] μ = some (fD (r, s), μ)
  · obtain ⟨q, r, s, e1, e2, e3, e4, e5, e6⟩ := hq
    have hb := bd_root (fracN_all n e1 hx) e2 e3 e4 e5
    refine .inl ⟨numN (r, s) n, ?_, numN_all (bd01 _ _ _) hb n, ?_⟩
    · rw [e1] at s0
      have nn := nt (fD (r, s))
      rw [liftQ] at nn
      refine run_rt rfl (Nat.le_of_ble_eq_true rfl) (seq_nx s0 (seq_rt (ifs_t (μ1 := μ) ?_ (seq_rt ?_))))
      · have c1 : ev (G (k + 2)) (.call j.exact (.cons (.var 2) .nil)) (pl [some (nD n x), some (tD t), some (frR (some q)), none, none]) μ = some (fD (r, s), μ) := by
          walk_at "go"
          exact e6
        exact and_tt (isnot_of (x := fD q) (μ1 := μ) rfl) (isnot_of c1)
      · generalize hz : nD n (numN (r, s) n) = Z at *
        generalize hx' : nD n x = X at *
        walk_at "go"
        show _ = some (Res.rt (D.tup [tD t, Z]) μ)
        simp [frR, e6, nn, andThen_some', szle]
    · intro L _ _ _ _ _ _ j ρ hj hv
      have v1 := val_frac (j := j) (ρ := ρ) hj n e1
      have v2 := val_num (j := j) (ρ := ρ) hj (r, s) n
      have s0' := hb.1
      have q0 : 0 < q.2 := (fracN_all n e1 hx).1
      have rr : rat (r, s) * rat (r, s) = rat q := by
        unfold rat
        have c1 := OF.cast_ne (d := s) (by have : (0 : Int) < s := s0'; omega)
        rw [← e4, ← e5, Rat.intCast_mul, Rat.intCast_mul]
        show (r : Rat) / (s : Rat) * ((r : Rat) / (s : Rat)) = _
        grind
      rw [v1, v2, ← hj.mul, rr]
      refine ⟨?_, rfl⟩
      have r0 : (0 : Rat) ≤ rat (r, s) := by
        have e := OF.rat_den (x := (r, s)) (by have : (0 : Int) < s := s0'; show s ≠ 0; omega)
        have p1 : (0 : Rat) < ((s : Int) : Rat) := by exact_mod_cast s0'
        have p2 : (0 : Rat) ≤ ((r : Int) : Rat) := by exact_mod_cast e2.1
        rcases Std.lt_trichotomy (rat (r, s)) 0 with z | z | z
        · have := OF.mpos (a := -rat (r, s)) (b := ((s : Int) : Rat)) (by grind) p1
          have e' : rat (r, s) * ((s : Int) : Rat) = ((r : Int) : Rat) := e
          grind
        · grind
        · grind
      have := hj.le r0
      rwa [hj.zero] at this
  · have s1 : exec (G (k + 2)) W (.ifs (.and (.cmp .IsNot (.var 2) .non) (.cmp .IsNot (.call j.exact (.cons (.var 2) .nil)) .non)) (.cons (.ret (.tup (.cons (.var 1) (.cons (.call j.number (.cons (.call j.exact (.cons (.var 2) .nil)) (.cons (.var 1) .nil))) .nil)))) .nil) .nil) (pl [some (nD n x), some (tD t), some (frR (fracN n x)), none, none]) μ = some (.nx (pl [some (nD n x), some (tD t), some (frR (fracN n x)), none, none]) μ) := by
      refine ifs_f (μ1 := μ) ?_ rfl
      cases e : fracN n x with
      | none => exact and_ff (isnot_of (x := .non) (μ1 := μ) rfl)
      | some q =>
        have fq : Fq 1800 q := ((fracN_all n e hx).fq hD h0).mono h8
        have c1 : G (k + 2) j.exact [fD q] μ = some (.non, μ) := by
          have z := T.exact (k + 2) q μ fq
          split at z
          · exact z
          · obtain ⟨r, s, z1, z2, z3⟩ := z
            by_cases w : r * r = q.1 ∧ s * s = q.2
            · rw [if_pos w] at z3
              exact absurd ⟨q, r, s, e, z1, z2, w.1, w.2, z3⟩ hq
            · rw [if_neg w] at z3
              exact z3
        have c2 : ev (G (k + 2)) (.call j.exact (.cons (.var 2) .nil)) (pl [some (nD n x), some (tD t), some (frR (some q)), none, none]) μ = some (.non, μ) := by
          walk_at "go"
          exact c1
        exact and_tt (isnot_of (x := fD q) (μ1 := μ) rfl) (isnot_of c2)
    let P := frR (fracN n x)
    let bW : Ss := .cons (.ifs (.cmp .Eq (.call i.cmp (.cons (.var 0) (.cons (.call j.lifted (.cons (.ix (.var 1) (.var 3)) (.cons (.sl (.var 1) .none (.some (.var 3))) (.cons (.var 1) .nil)))) (.cons (.var 1) .nil)))) (.int 0)) (.cons (.ret (.tup (.cons (.var 1) (.cons (.call j.lifted (.cons (.tup (.cons (.call j.nought (.cons (.sl (.var 1) .none (.some (.var 3))) .nil)) (.cons (.call j.number (.cons (.tup (.cons (.int 1) (.cons (.int 1) .nil))) (.cons (.sl (.var 1) .none (.some (.var 3))) .nil))) .nil))) (.cons (.sl (.var 1) .none (.some (.op .Add (.var 3) (.int 1)))) (.cons (.var 1) .nil)))) .nil)))) .nil) .nil) .nil
    have loop : ∀ (ys : List D) (q : Nat) (o : Option D), ys = (rngD 0 n).drop q → (∃ z : Nm n, forF (.nm 3) (fun ρ' μ' => execs (G (k + 2)) W bW ρ' μ') ys (pl [some (nD n x), some (tD t), some P, o, none]) μ = some (.rt (.tup [tD t, nD n z]) μ) ∧ AllL (Bd B er mr) n z ∧ RootIs t x z) ∨
        ∃ o', forF (.nm 3) (fun ρ' μ' => execs (G (k + 2)) W bW ρ' μ') ys (pl [some (nD n x), some (tD t), some P, o, none]) μ = some (.nx (pl [some (nD n x), some (tD t), some P, o', none]) μ) := by
      intro ys
      induction ys with
      | nil => exact fun q o h => .inr ⟨o, rfl⟩
      | cons y ys ih =>
        intro q o h
        obtain ⟨q1, q2, q3⟩ := rng_drop h
        rw [Int.zero_add] at q2
        subst q2 q3
        obtain ⟨l1, rest, rk, z, w, g1, g2, g3, g4, g5, g6, g7⟩ := tw_at t q1
        have tl := twL_len t
        have ix : atI (twL t) (q : Int) = some rk := by rw [g1]; exact atI_app l1 rk rest g2
        have sl : slD (tD t) none (some (q : Int)) = some (.tup l1) := by
          rw [sl_take _ q (by omega), g1, List.take_append_of_le_length (by omega), List.take_of_length_le (by omega)]
        have sl2 : slD (tD t) none (some ((q : Int) + 1)) = some (.tup (l1 ++ [rk])) := by
          have e1 : twL t = (l1 ++ [rk]) ++ rest := by rw [g1]; simp
          have tk : (twL t).take (q + 1) = l1 ++ [rk] := by
            rw [e1, List.take_append_of_le_length (by simp; omega), List.take_of_length_le (by simp; omega)]
          have := sl_take (twL t) (q + 1) (by omega)
          rw [tk] at this
          exact this
        have c1 : G (k + 2) j.lifted [rk, .tup l1, tD t] μ = some (nD n z, μ) := by
          rw [← g3]
          exact lifted_c T (n := q) (c := n - q) (by omega) (m := k + 1) (by omega) rk l1 (twL t) g2 (by omega) μ
        have c2 : G (k + 2) i.cmp [nD n x, nD n z, tD t] μ = some (.int (signN t (subN n x z)), μ) := cmp_c T.t h0 hD (by omega) t ht (m := k + 1) (by omega) hx (g5 B er mr ht) h8 hl μ
        have c3 : G (k + 2) j.nought [.tup l1] μ = some (nD q (zeroN q), μ) := nought_c T q (by omega) k (by omega) l1 g2 μ
        have c4 : G (k + 2) j.number [fD (1, 1), .tup l1] μ = some (liftD 0 (fD (1, 1)) q, μ) := number_c T (by omega) (m := k + 1) (by omega) _ l1 g2 μ
        have c5 : G (k + 2) j.lifted [.tup [nD q (zeroN q), liftD 0 (fD (1, 1)) q], .tup (l1 ++ [rk]), tD t] μ = some (nD n w, μ) := by
          rw [← g4, Nat.sub_sub]
          exact lifted_c T (n := q + 1) (c := n - (q + 1)) (by omega) (m := k + 1) (by omega) _ (l1 ++ [rk]) (twL t) (by simp; omega) (by omega) μ
        have pn : AllL Pd n x := AllL.imp (fun _ g => g.pd) n hx
        have pz : AllL Pd n z := AllL.imp (fun _ g => g.pd) n (g5 B er mr ht)
        have ri : signN t (subN n x z) = 0 → RootIs t x w := fun e0 L _ _ _ _ _ _ jj ρ hj hv => by
          obtain ⟨v1, v2, v3⟩ := g7 L jj ρ hj hv
          have tp : TwAll Pd t := twAll_imp (fun _ g => g.pd) t ht
          have sv := sign_val hj t hv tp (x := subN n x z) (subN_all (fun _ _ => pd_sub) n pn pz)
          rw [e0, val_sub hj n pn pz] at sv
          have := sgn_eq0.mp sv.symm
          refine ⟨by grind, by grind⟩
        generalize hX : nD n x = X at *
        generalize hZ : nD n z = Z at *
        generalize hV : nD n w = V at *
        generalize signN t (subN n x z) = u at *
        generalize nD q (zeroN q) = Y at *
        generalize liftD 0 (fD (1, 1)) q = O at *
        by_cases e0 : u = 0
        · refine .inl ⟨w, ?_, g6 B er mr, ri e0⟩
          rw [hV]
          have b : execs (G (k + 2)) W bW (pl [some X, some (tD t), some P, some (.int q), none]) μ = some (.rt (.tup [tD t, V]) μ) := by
            refine seq_rt (ifs_t (μ1 := μ) ?_ (seq_rt ?_))
            · walk_at "go"
              simp [ix, sl, c1, c2, e0, andThen_some', wthD_some', eqD_int]
            · walk_at "go"
              simp [sl, sl2, c3, c4, c5, andThen_some', wthD_some', szle]
          unfold forF
          show (match execs (G (k + 2)) W bW (pl [some X, some (tD t), some P, some (.int q), none]) μ with | none => none | some (.nx ρ2 μ2) => _ | some (.ct ρ2 μ2) => _ | some (.bk ρ2 μ2) => _ | some (.rt d μ2) => _) = _
          rw [b]
        · have b : execs (G (k + 2)) W bW (pl [some X, some (tD t), some P, some (.int q), none]) μ = some (.nx (pl [some X, some (tD t), some P, some (.int q), none]) μ) := by
            refine seq_nx (ifs_f (μ1 := μ) ?_ rfl) rfl
            walk_at "go"
            simp [ix, sl, c1, c2, e0, andThen_some', wthD_some', eqD_int]
          have st : forF (.nm 3) (fun ρ' μ' => execs (G (k + 2)) W bW ρ' μ') (.int q :: (rngD 0 n).drop (q + 1)) (pl [some X, some (tD t), some P, o, none]) μ = forF (.nm 3) (fun ρ' μ' => execs (G (k + 2)) W bW ρ' μ') ((rngD 0 n).drop (q + 1)) (pl [some X, some (tD t), some P, some (.int q), none]) μ := by
            conv => lhs; unfold forF
            show (match execs (G (k + 2)) W bW (pl [some X, some (tD t), some P, some (.int q), none]) μ with | none => none | some (.nx ρ2 μ2) => _ | some (.ct ρ2 μ2) => _ | some (.bk ρ2 μ2) => _ | some (.rt d μ2) => _) = _
            rw [b]
          rw [st]
          exact ih (q + 1) _ rfl
    have itr : evi (G (k + 2)) (.rng1 (.bi .len (.cons (.var 1) .nil))) (pl [some (nD n x), some (tD t), some P, none, none]) μ = some (rngD 0 n, μ) := by
      refine evi_rng ?_ (by omega)
      walk_at "go"
      simp [len_tup, twL_len, wthD_some']
    rcases loop (rngD 0 n) 0 none rfl with ⟨z, l1, l2, l3⟩ | ⟨o', l1⟩
    · refine .inl ⟨z, ?_, l2, l3⟩
      exact run_rt rfl (Nat.le_of_ble_eq_true rfl) (seq_nx s0 (seq_nx s1 (seq_rt (for_of itr rfl l1))))
    · refine .inr ?_
      have cz : G (k + 2) j.nought [tD t] μ = some (nD n (zeroN n), μ) := nought_c T n (by omega) k (by omega) (twL t) (twL_len t) μ
      have co := nt (fD (1, 1))
      rw [liftQ] at co
      have ap : opD .Add (tD t) (.tup [nD n x]) = some (.tup (twL t ++ [nD n x])) := by
        refine opD_of ?_
        show (if (twL t).length + 1 ≤ sizeLine then _ else _) = _
        rw [if_pos (szle (by rw [twL_len]; omega))]
      show runFn _ W _ [nD n x, tD t] μ = some (D.tup [.tup (twL t ++ [nD n x]), .tup [nD n (zeroN n), nD n (numN (1, 1) n)]], μ)
      generalize nD n (zeroN n) = Y at *
      generalize nD n (numN (1, 1) n) = O at *
      generalize nD n x = X at *
      refine run_rt rfl (Nat.le_of_ble_eq_true rfl) (seq_nx s0 (seq_nx s1 (seq_nx (for_of itr rfl l1) (seq_nx (ρ1 := pl [some X, some (tD t), some P, o', some (.tup (twL t ++ [X]))]) (μ1 := μ) ?_ (seq_rt ?_)))))
      · walk_at "go"
        simp [ap, andThen_some', wthD_some', szle, pl_set]
      · walk_at "go"
        simp [cz, co, andThen_some', wthD_some', szle]
end
end FM

set_option Elab.async false
set_option linter.all false
set_option maxRecDepth 100000
set_option maxHeartbeats 4000000
/-! N9: times. -/
namespace FM
open PySem (Str sizeLine)
open L2 (atI ixN Key)
open PySem.Spec PyProof.Rows
open OF (sgn sgn_eq0 Hom rat rat_mul)
local macro_rules | `(tactic| walk_at "go") => `(tactic| simp [FM.execs, FM.exec, FM.ev, FM.evs, FM.evo, FM.evc, FM.evi, FM.Sl.d, FM.isiD, FM.cmpD, FM.negD, FM.bindT, FM.andThen_some', FM.onBl_bl, FM.wthD_some', FM.eqD_int, FM.ix_tup, FM.ix_lst, FM.atI_0, FM.atI_1, FM.atI_2, FM.op_add, FM.op_sub, FM.op_subBl, FM.biD_abs, FM.szle, FM.pl_get, FM.pl_set, FM.isOw_pl, FM.noOw_pl, FM.lk_pl, FM.lks_pl, FM.itlk_pl, FM.setAll_pl, FM.setAllD])
section
variable {L : Type} [fL : Lean.Grind.Field L] [LE L] [LT L] [Std.LawfulOrderLT L] [Std.IsLinearOrder L] [Lean.Grind.OrderedRing L] {j : Rat → L}
theorem val_congr {ρ ρ' : Nat → L} : (n : Nat) → (∀ k, k < n → ρ k = ρ' k) → (x : Nm n) → val j ρ n x = val j ρ' n x
  | 0, _, _ => rfl
  | n + 1, h, x => by
    show val j ρ n x.1 + val j ρ n x.2 * ρ n = val j ρ' n x.1 + val j ρ' n x.2 * ρ' n
    rw [val_congr n (fun k hk => h k (by omega)) x.1, val_congr n (fun k hk => h k (by omega)) x.2, h n (by omega)]
theorem twV_congr {ρ ρ' : Nat → L} : {n : Nat} → (∀ k, k < n → ρ k = ρ' k) → (t : Tw n) → TwV j ρ t → TwV j ρ' t
  | _, _, .nil, _ => trivial
  | n + 1, h, .snoc t r, g => by
    obtain ⟨g1, g2, g3⟩ := g
    refine ⟨twV_congr (fun k hk => h k (by omega)) t g1, ?_, ?_⟩
    · rw [← h n (by omega)]; exact g2
    · rw [← h n (by omega), g3]
      exact val_congr n (fun k hk => h k (by omega)) r
theorem val_lift (hj : Hom j) {ρ : Nat → L} {n : Nat} (x : Nm n) : ∀ d, val j ρ (n + d) (liftN x d) = val j ρ n x
  | 0 => rfl
  | d + 1 => by
    show val j ρ (n + d) (liftN x d) + val j ρ (n + d) (zeroN (n + d)) * ρ (n + d) = _
    rw [val_lift hj x d, val_zero hj]
    grind
end
theorem liftN_all {P : Int × Int → Prop} (h : P (0, 1)) {n : Nat} {x : Nm n} (g : AllL P n x) : ∀ d, AllL P (n + d) (liftN x d)
  | 0 => g
  | d + 1 => ⟨liftN_all h g d, zeroN_all h _⟩
theorem isN_zero : ∀ n, isN n (zeroN n) = true
  | 0 => rfl
  | n + 1 => by
    show (isN n (zeroN n) && isN n (zeroN n)) = true
    rw [isN_zero n]
    rfl
theorem isN_lift {n : Nat} (x : Nm n) : ∀ d, isN (n + d) (liftN x d) = isN n x
  | 0 => rfl
  | d + 1 => by
    show (isN (n + d) (liftN x d) && isN (n + d) (zeroN (n + d))) = _
    rw [isN_lift x d, isN_zero, Bool.and_true]
/-- a number lifted to a higher tower -/
theorem lift_ex {n n' : Nat} (h : n ≤ n') (x : Nm n) : ∃ y : Nm n', liftD n (nD n x) (n' - n) = nD n' y ∧ (∀ P : Int × Int → Prop, P (0, 1) → AllL P n x → AllL P n' y) ∧ isN n' y = isN n x ∧
    ∀ (L : Type) [Lean.Grind.Field L] [LE L] [LT L] [Std.LawfulOrderLT L] [Std.IsLinearOrder L] [Lean.Grind.OrderedRing L] (j : Rat → L) (ρ : Nat → L), Hom j → val j ρ n' y = val j ρ n x := by
  obtain ⟨d, rfl⟩ : ∃ d, n' = n + d := ⟨n' - n, by omega⟩
  refine ⟨liftN x d, ?_, fun P h g => liftN_all h g d, isN_lift x d, fun L _ _ _ _ _ _ j ρ hj => val_lift hj x d⟩
  rw [Nat.add_sub_cancel_left, liftD_eq]
structure Ids3 where
  tnum : Nat
  raised : Nat
  ctimes : Nat
structure TF3 (G : Nat → Fs) (i : Ids) (j : Ids2) (k : Ids3) : Prop where
  t : TF2 G i j
  tnum : ∀ m ds μ, G (m + 1) k.tnum ds μ = runFn (G m) W ⟨2, 7, B_time_number i.isn j.wroot i.add i.mul j.lifted⟩ ds μ
  raised : ∀ m ds μ, G (m + 1) k.raised ds μ = runFn (G m) W ⟨3, 4, B_raised_time j.lifted⟩ ds μ
  ctimes : ∀ m ds μ, G (m + 1) k.ctimes ds μ = runFn (G m) W ⟨3, 7, B_compare_times k.tnum k.raised i.sign i.sub j.lifted⟩ ds μ
structure TFn (G : Nat → Fs) (i : Ids) (j : Ids2) (tn : Nat) : Prop where
  t : TF2 G i j
  tnum : ∀ m ds μ, G (m + 1) tn ds μ = runFn (G m) W ⟨2, 7, B_time_number i.isn j.wroot i.add i.mul j.lifted⟩ ds μ
/-- a time (a, b, u): a + b times a root of u -/
def tmD {n : Nat} (a b u : Nm n) : D := .tup [nD n a, nD n b, nD n u]
/-- the tower and the number that a time stands for -/
def TN {n : Nat} (B er mr E M : Nat) (t : Tw n) (a b u : Nm n) (res : D) : Prop :=
  ∃ (n' : Nat) (t' : Tw n') (z : Nm n'), n ≤ n' ∧ n' ≤ n + 1 ∧ res = .tup [tD t', nD n' z] ∧ TwAll (Bd B er mr) t' ∧ AllL (Bd B E M) n' z ∧
    ∀ (L : Type) [Lean.Grind.Field L] [LE L] [LT L] [Std.LawfulOrderLT L] [Std.IsLinearOrder L] [Lean.Grind.OrderedRing L] (j : Rat → L) (ρ : Nat → L) (r : L), Hom j → TwV j ρ t → 0 ≤ r → r * r = val j ρ n u → (isN n u = false → 0 < val j ρ n u) →
      ∃ ρ' : Nat → L, (∀ k, k < n → ρ k = ρ' k) ∧ TwV j ρ' t' ∧ val j ρ' n' z = val j ρ n a + val j ρ n b * r
section
variable {G : Nat → Fs} {i : Ids} {j : Ids2} {tn : Nat} (T : TFn G i j tn)
include T
theorem tnum_n {B er mr : Nat} (h0 : 0 < B) (hD : B < 2 ^ 8) {n : Nat} (hn : n + 2 ≤ 50) (t : Tw n) (ht : TwAll (Bd B er mr) t) (a b u : Nm n) (ha : AllL (Bd B er mr) n a) (hb : AllL (Bd B er mr) n b) (hu : AllL (Bd B er mr) n u) (hl : SL er mr n er (mr + 1))
    (hm1 : (mr + mr + cc (n + 1) * (mr + 1)) + 8 * (er + er + cc (n + 1) * er) + 10 ≤ 1800) {m : Nat} (hm : 2 * n + 30 ≤ m) (μ : Cells) :
    ∃ res, G (m + 1) tn [tmD a b u, tD t] μ = some (res, μ) ∧ TN B er mr (er + er + cc (n + 1) * er) (mr + mr + cc (n + 1) * (mr + 1) + 1) t a b u res := by
  obtain ⟨m, rfl⟩ : ∃ m', m = m' + 2 := ⟨m - 2, by omega⟩
  have q1 : cc (n + 1) * er = 2 * (cc n * er) + er := by show (2 * cc n + 1) * er = _; rw [Nat.add_mul, Nat.one_mul, Nat.mul_assoc]
  have q2 : cc (n + 1) * (mr + 1) = 2 * (cc n * (mr + 1)) + (mr + 1) := by show (2 * cc n + 1) * (mr + 1) = _; rw [Nat.add_mul, Nat.one_mul, Nat.mul_assoc]
  have i1 := isn_c T.t.t n (by omega) t (m + 1) (by omega) b μ
  have i2 := isn_c T.t.t n (by omega) t (m + 1) (by omega) u μ
  have s0 : exec (G (m + 2)) W (.asgT [2, 3, 4] (.var 0)) (pl [some (tmD a b u), some (tD t), none, none, none, none, none]) μ = some (.nx (pl [some (tmD a b u), some (tD t), some (nD n a), some (nD n b), some (nD n u), none, none]) μ) := by
    walk_at "go"
    rfl
  have c0 : ∀ (x : Bool) (y : Bool), isN n b = x → isN n u = y → ev (G (m + 2)) (.or (.call i.isn (.cons (.var 3) (.cons (.var 1) .nil))) (.call i.isn (.cons (.var 4) (.cons (.var 1) .nil)))) (pl [some (tmD a b u), some (tD t), some (nD n a), some (nD n b), some (nD n u), none, none]) μ = some (.bl (x || y), μ) := fun x y e1 e2 => by
    rw [e1] at i1
    rw [e2] at i2
    walk_at "go"
    simp [i1, i2, andThen_some', onBl_bl]
    cases x <;> simp
  by_cases z : isN n b = true ∨ isN n u = true
  · refine ⟨.tup [tD t, nD n a], ?_, n, t, a, Nat.le_refl _, by omega, rfl, ht, ha.up (by omega) (by omega), fun L _ _ _ _ _ _ j ρ r hj hv r0 rr up => ⟨ρ, fun _ _ => rfl, hv, ?_⟩⟩
    · rw [T.tnum]
      refine run_rt rfl (Nat.le_of_ble_eq_true rfl) (seq_nx s0 (seq_rt (ifs_t (μ1 := μ) ?_ (seq_rt ?_))))
      · rw [c0 _ _ rfl rfl]
        rcases z with z | z <;> rw [z] <;> simp
      · walk_at "go"
    · rcases z with z | z
      · rw [val_isN hj n z]; grind
      · have e := val_isN (ρ := ρ) hj n z
        rw [e] at rr
        have : r = 0 := by
          by_cases w : r = 0
          · exact w
          · have := OF.sqp w
            grind
        rw [this]; grind
  · rw [not_or] at z
    have z1 : isN n b = false := by simpa using z.1
    have z2 : isN n u = false := by simpa using z.2
    have cf := c0 _ _ z1 z2
    have fqn : ∀ {n e m : Nat} {z : Nm n}, AllL (Bd B e m) n z → m + 8 * e + 1 ≤ 1800 → AllL (Fq 1800) n z := fun h l => AllL.imp (fun _ g => (g.fq hD h0).mono l) _ h
    have pd : ∀ {n e m : Nat} {z : Nm n}, AllL (Bd B e m) n z → AllL Pd n z := fun h => AllL.imp (fun _ g => g.pd) _ h
    rcases wroot_c T.t h0 hD (by omega) t ht u hu (by omega) hl (m := m + 1) (by omega) μ with ⟨w, w1, w2, w3⟩ | w1
    · have la : G (m + 2) j.lifted [nD n a, tD t, tD t] μ = some (nD n a, μ) := lifted_c T.t (n := n) (c := 0) (by omega) (m := m + 1) (by omega) (nD n a) (twL t) (twL t) (twL_len t) (twL_len t) μ
      have lb : G (m + 2) j.lifted [nD n b, tD t, tD t] μ = some (nD n b, μ) := lifted_c T.t (n := n) (c := 0) (by omega) (m := m + 1) (by omega) (nD n b) (twL t) (twL t) (twL_len t) (twL_len t) μ
      have bm := mulN_bd h0 t ht hb w2
      have cm := mul_c T.t.t h0 hD n (by omega) t ht (m + 1) (by omega) hb w2 (by omega) μ
      have ca := add_c T.t.t n (by omega) t (m + 1) (by omega) (fqn ha (by omega)) (fqn bm (by omega)) μ
      refine ⟨.tup [tD t, nD n (addN n a (mulN t b w))], ?_, n, t, _, Nat.le_refl _, by omega, rfl, ht, (addN_bd h0 (ha.up (e' := er + er + cc n * er) (m' := mr + mr + cc n * (mr + 1)) (by omega) (by omega)) bm).up (by omega) (by omega), fun L _ _ _ _ _ _ j ρ r hj hv r0 rr up => ⟨ρ, fun _ _ => rfl, hv, ?_⟩⟩
      · rw [T.tnum]
        generalize tmD a b u = X0 at *
        generalize nD n (addN n a (mulN t b w)) = X1 at *
        generalize nD n (mulN t b w) = X2 at *
        generalize nD n a = X3 at *
        generalize nD n b = X4 at *
        generalize nD n u = X5 at *
        generalize nD n w = X6 at *
        refine run_rt rfl (Nat.le_of_ble_eq_true rfl) (seq_nx s0 (seq_nx (ifs_f cf rfl) (seq_nx (ρ1 := pl [some X0, some (tD t), some X3, some X4, some X5, some (tD t), some X6]) (μ1 := μ) ?_ (seq_rt ?_))))
        · walk_at "go"
          simp [w1, andThen_some', wthD_some', setAll_pl, setAllD]
        · walk_at "go"
          simp [la, lb, cm, ca, andThen_some', wthD_some', szle]
      · obtain ⟨g1, g2⟩ := w3 L j ρ hj hv
        rw [val_add hj n (pd ha) (pd bm), val_mul hj t hv (twAll_imp (fun _ g => g.pd) t ht) (pd hb) (pd w2)]
        have : val j ρ n w = r := by
          have e : (val j ρ n w - r) * (val j ρ n w + r) = 0 := by grind
          by_cases y : val j ρ n w + r = 0
          · grind
          · have q := Lean.Grind.Field.mul_inv_cancel y
            grind
        rw [this]
    · have hb1 : AllL (Bd B er mr) (n + 1) (liftN b 1) := liftN_all (bd01 _ _ _) hb 1
      have ha1 : AllL (Bd B er mr) (n + 1) (liftN a 1) := liftN_all (bd01 _ _ _) ha 1
      have hw : AllL (Bd B er mr) (n + 1) ((zeroN n, numN (1, 1) n) : Nm (n + 1)) := ⟨zeroN_all (bd01 _ _ _) n, numN_all (bd01 _ _ _) (bd11 _ _ _) n⟩
      have ht1 : TwAll (Bd B er mr) (.snoc t u) := ⟨ht, hu⟩
      have la : G (m + 2) j.lifted [nD n a, tD t, tD (.snoc t u)] μ = some (nD (n + 1) (liftN a 1), μ) := by
        rw [← liftD_eq a 1]
        exact lifted_c T.t (n := n) (c := 1) (by omega) (m := m + 1) (by omega) (nD n a) (twL t) (twL (.snoc t u)) (twL_len t) (twL_len _) μ
      have lb : G (m + 2) j.lifted [nD n b, tD t, tD (.snoc t u)] μ = some (nD (n + 1) (liftN b 1), μ) := by
        rw [← liftD_eq b 1]
        exact lifted_c T.t (n := n) (c := 1) (by omega) (m := m + 1) (by omega) (nD n b) (twL t) (twL (.snoc t u)) (twL_len t) (twL_len _) μ
      generalize hW : ((zeroN n, numN (1, 1) n) : Nm (n + 1)) = w at *
      have bm := mulN_bd h0 (.snoc t u) ht1 hb1 hw
      have cm := mul_c T.t.t h0 hD (n + 1) (by omega) (.snoc t u) ht1 (m + 1) (by omega) hb1 hw (by omega) μ
      have ca := add_c T.t.t (n + 1) (by omega) (.snoc t u) (m + 1) (by omega) (fqn ha1 (by omega)) (fqn bm (by omega)) μ
      refine ⟨.tup [tD (.snoc t u), nD (n + 1) (addN (n + 1) (liftN a 1) (mulN (.snoc t u) (liftN b 1) w))], ?_, n + 1, .snoc t u, _, by omega, Nat.le_refl _, rfl, ht1, (addN_bd h0 (ha1.up (e' := er + er + cc (n + 1) * er) (m' := mr + mr + cc (n + 1) * (mr + 1)) (by omega) (by omega)) bm).up (by omega) (by omega), fun L _ _ _ _ _ _ j ρ r hj hv r0 rr up => ?_⟩
      · rw [T.tnum]
        generalize tmD a b u = X0 at *
        generalize nD (n + 1) (addN (n + 1) (liftN a 1) (mulN (.snoc t u) (liftN b 1) w)) = X1 at *
        generalize nD (n + 1) (mulN (.snoc t u) (liftN b 1) w) = X2 at *
        generalize nD (n + 1) (liftN a 1) = X7 at *
        generalize nD (n + 1) (liftN b 1) = X8 at *
        generalize nD n a = X3 at *
        generalize nD n b = X4 at *
        generalize nD n u = X5 at *
        generalize nD (n + 1) w = X6 at *
        refine run_rt rfl (Nat.le_of_ble_eq_true rfl) (seq_nx s0 (seq_nx (ifs_f cf rfl) (seq_nx (ρ1 := pl [some X0, some (tD t), some X3, some X4, some X5, some (tD (.snoc t u)), some X6]) (μ1 := μ) ?_ (seq_rt ?_))))
        · walk_at "go"
          simp [w1, andThen_some', wthD_some', setAll_pl, setAllD]
        · walk_at "go"
          simp [la, lb, cm, ca, andThen_some', wthD_some', szle]
      · have uv := up z2
        have rp : 0 < r := by
          by_cases w : r = 0
          · subst w
            grind
          · grind
        let ρ' : Nat → L := fun k => if k = n then r else ρ k
        have cg : ∀ k, k < n → ρ k = ρ' k := fun k hk => by
          show ρ k = if k = n then r else ρ k
          rw [if_neg (by omega)]
        have rn : ρ' n = r := if_pos rfl
        have hv' : TwV j ρ' (.snoc t u) := ⟨twV_congr cg t hv, by rw [rn]; exact rp, by rw [rn, rr]; exact val_congr n cg u⟩
        refine ⟨ρ', cg, hv', ?_⟩
        have tp := twAll_imp (fun _ g => Bd.pd g) _ ht1
        rw [val_add hj (n + 1) (pd ha1) (pd bm), val_mul hj (.snoc t u) hv' tp (pd hb1) (pd hw), val_lift hj, val_lift hj, ← val_congr n cg a, ← val_congr n cg b]
        have : val j ρ' (n + 1) w = r := by
          rw [← hW]
          show val j ρ' n (zeroN n) + val j ρ' n (numN (1, 1) n) * ρ' n = r
          rw [val_zero hj, val_num hj, rat1, hj.one, rn]
          grind
        rw [this]
end
theorem tnum_c {G : Nat → Fs} {i : Ids} {j : Ids2} {k : Ids3} (T : TF3 G i j k) {B er mr : Nat} (h0 : 0 < B) (hD : B < 2 ^ 8) {n : Nat} (hn : n + 2 ≤ 50) (t : Tw n) (ht : TwAll (Bd B er mr) t) (a b u : Nm n) (ha : AllL (Bd B er mr) n a) (hb : AllL (Bd B er mr) n b) (hu : AllL (Bd B er mr) n u) (hl : SL er mr n er (mr + 1))
    (hm1 : (mr + mr + cc (n + 1) * (mr + 1)) + 8 * (er + er + cc (n + 1) * er) + 10 ≤ 1800) {m : Nat} (hm : 2 * n + 30 ≤ m) (μ : Cells) :
    ∃ res, G (m + 1) k.tnum [tmD a b u, tD t] μ = some (res, μ) ∧ TN B er mr (er + er + cc (n + 1) * er) (mr + mr + cc (n + 1) * (mr + 1) + 1) t a b u res :=
  tnum_n ⟨T.t, T.tnum⟩ h0 hD hn t ht a b u ha hb hu hl hm1 hm μ
end FM

set_option Elab.async false
set_option linter.all false
set_option maxRecDepth 100000
set_option maxHeartbeats 4000000
/-! N10: times compared. -/
namespace FM
open PySem (Str sizeLine)
open L2 (atI ixN Key)
open PySem.Spec PyProof.Rows
open OF (sgn sgn_eq0 Hom rat rat_mul)
local macro_rules | `(tactic| walk_at "go") => `(tactic| simp [FM.execs, FM.exec, FM.ev, FM.evs, FM.evo, FM.evc, FM.evi, FM.Sl.d, FM.isiD, FM.cmpD, FM.negD, FM.bindT, FM.andThen_some', FM.onBl_bl, FM.wthD_some', FM.eqD_int, FM.ix_tup, FM.ix_lst, FM.atI_0, FM.atI_1, FM.atI_2, FM.op_add, FM.op_sub, FM.op_subBl, FM.biD_abs, FM.szle, FM.pl_get, FM.pl_set, FM.isOw_pl, FM.noOw_pl, FM.lk_pl, FM.lks_pl, FM.itlk_pl, FM.setAll_pl, FM.setAllD])
/-- a comprehension whose parts leave the cells as they are -/
theorem lc_fm {F : Fs} {i : Nat} {elt : E} {cond : EO} {ds : List (Option D)} {μ : Cells} (p : D → Bool) (f : D → D) : (xs : List D) → (hc : ∀ d ∈ xs, evc F cond (pl (ds.set i (some d))) μ = some (p d, μ)) → (hf : ∀ d ∈ xs, p d = true → ev F elt (pl (ds.set i (some d))) μ = some (f d, μ)) →
    lcGo (.nm i) (fun ρ' μ' => evc F cond ρ' μ') (fun ρ' μ' => if lk ρ' elt then none else ev F elt ρ' μ') (pl ds) xs μ = some ((xs.filter p).map f, μ)
  | [], _, _ => rfl
  | x :: xs, hc, hf => by
    have ih := lc_fm p f xs (fun d hd => hc d (List.mem_cons_of_mem _ hd)) (fun d hd => hf d (List.mem_cons_of_mem _ hd))
    have c := hc x (List.mem_cons_self ..)
    have b : bindT (.nm i) x (pl ds) = some (pl (ds.set i (some x))) := by
      unfold bindT
      simp only [pl_set]
    unfold lcGo
    rw [b]
    simp only [c]
    cases e : p x with
    | false =>
      simp only [List.filter_cons, e]
      exact ih
    | true =>
      have g := hf x (List.mem_cons_self ..) e
      simp only [List.filter_cons, e, lk_pl, Bool.false_eq_true, if_false, g, ih, if_true, List.map_cons]
theorem lc_map {F : Fs} {i : Nat} {elt : E} {ds : List (Option D)} {μ : Cells} (f : D → D) (xs : List D) (hf : ∀ d ∈ xs, ev F elt (pl (ds.set i (some d))) μ = some (f d, μ)) :
    lcGo (.nm i) (fun ρ' μ' => evc F .none ρ' μ') (fun ρ' μ' => if lk ρ' elt then none else ev F elt ρ' μ') (pl ds) xs μ = some (xs.map f, μ) := by
  have := lc_fm (F := F) (i := i) (elt := elt) (cond := .none) (ds := ds) (μ := μ) (fun _ => true) f xs (fun _ _ => rfl) (fun d hd _ => hf d hd)
  rwa [List.filter_eq_self.mpr (fun _ _ => rfl)] at this
theorem eqv_int {i j : Int} (h : PySem.PyData.eqv (D.int i).py (D.int j).py = true) : i = j := by
  have : (i == j) = true := by simpa [D.py, PySem.PyData.eqv] using h
  exact eq_of_beq this
theorem eqv_two {a b c d : D} (h : PySem.PyData.eqv (D.tup [a, b]).py (D.tup [c, d]).py = true) : PySem.PyData.eqv a.py c.py = true ∧ PySem.PyData.eqv b.py d.py = true := by
  simpa [D.py, pyAll, PySem.PyData.eqv, PySem.PyData.eqvAll] using h
theorem eqv_nD : (n : Nat) → {x y : Nm n} → PySem.PyData.eqv (nD n x).py (nD n y).py = true → x = y
  | 0, x, y, h => by
    obtain ⟨h1, h2⟩ := eqv_two (a := .int (Prod.fst (α := Int) (β := Int) x)) (b := .int (Prod.snd (α := Int) (β := Int) x)) (c := .int (Prod.fst (α := Int) (β := Int) y)) (d := .int (Prod.snd (α := Int) (β := Int) y)) h
    exact Prod.ext (α := Int) (β := Int) (eqv_int h1) (eqv_int h2)
  | n + 1, x, y, h => by
    obtain ⟨h1, h2⟩ := eqv_two (a := nD n x.1) (b := nD n x.2) (c := nD n y.1) (d := nD n y.2) h
    exact Prod.ext (eqv_nD n h1) (eqv_nD n h2)
theorem eqv_tm {n : Nat} {a b u a' b' u' : Nm n} (h : PySem.PyData.eqv (tmD a b u).py (tmD a' b' u').py = true) : a = a' ∧ b = b' ∧ u = u' := by
  have : PySem.PyData.eqv (nD n a).py (nD n a').py = true ∧ PySem.PyData.eqv (nD n b).py (nD n b').py = true ∧ PySem.PyData.eqv (nD n u).py (nD n u').py = true := by
    simpa [tmD, D.py, pyAll, PySem.PyData.eqv, PySem.PyData.eqvAll] using h
  exact ⟨eqv_nD n this.1, eqv_nD n this.2.1, eqv_nD n this.2.2⟩
theorem eqD_tm {n : Nat} (hn : n ≤ 50) (a b u a' b' u' : Nm n) : eqD (tmD a b u) (tmD a' b' u') = some (PySem.PyData.eqv (tmD a b u).py (tmD a' b' u').py) := by
  have s : ∀ (a b u : Nm n), shOk (tmD a b u) = true := fun a b u => (Sh.tup (.cons (sh_nD n a) (.cons (sh_nD n b) (.cons (sh_nD n u) (.nil _))))).ok (by omega)
  have s0 : scalOk (tmD a b u) (tmD a' b' u') = false := rfl
  unfold eqD
  rw [s0, if_neg (by decide), s, s, Bool.and_self, if_pos rfl]
section
variable {G : Nat → Fs} {i : Ids} {j : Ids2} {k : Ids3} (T : TF3 G i j k)
include T
theorem raised_c {n n' : Nat} (h : n ≤ n') (hn : n' ≤ 50) (l1 l2 : List D) (h1 : l1.length = n) (h2 : l2.length = n') {m : Nat} (hm : 2 * n' + 3 ≤ m) (a b u : D) (μ : Cells) :
    G (m + 1) k.raised [.tup [a, b, u], .tup l1, .tup l2] μ = some (.tup [liftD n a (n' - n), liftD n b (n' - n), liftD n u (n' - n)], μ) := by
  obtain ⟨m, rfl⟩ : ∃ m', m = m' + 1 := ⟨m - 1, by omega⟩
  have c : ∀ d : D, G (m + 1) j.lifted [d, .tup l1, .tup l2] μ = some (liftD n d (n' - n), μ) := fun d => lifted_c T.t (n := n) (c := n' - n) (by omega) (m := m) (by omega) d l1 l2 h1 (by omega) μ
  rw [T.raised]
  refine run_rt rfl (Nat.le_of_ble_eq_true rfl) (seq_rt (ret_of (lk_pl [some (.tup [a, b, u]), some (.tup l1), some (.tup l2), none] _) ?_))
  have lc : ev (G (m + 1)) (.lc (.call j.lifted (.cons (.var 3) (.cons (.var 1) (.cons (.var 2) .nil)))) (.nm 3) (.seq (.var 0)) .none) (pl [some (.tup [a, b, u]), some (.tup l1), some (.tup l2), none]) μ = some (.lst [liftD n a (n' - n), liftD n b (n' - n), liftD n u (n' - n)], μ) := by
    refine ev_lc (xs := [a, b, u]) (μ1 := μ) rfl (show (3 : Nat) ≤ 16777216 by decide) ?_
    refine lc_map (fun d => liftD n d (n' - n)) [a, b, u] fun d _ => ?_
    have cd := c d
    show ev (G (m + 1)) _ (pl [some (.tup [a, b, u]), some (.tup l1), some (.tup l2), some d]) μ = _
    generalize liftD n d (n' - n) = Y at *
    walk_at "go"
    exact cd
  show ev (G (m + 1)) _ (pl [some (.tup [a, b, u]), some (.tup l1), some (.tup l2), none]) μ = _
  unfold ev
  rw [show evs (G (m + 1)) (.cons (.lc (.call j.lifted (.cons (.var 3) (.cons (.var 1) (.cons (.var 2) .nil)))) (.nm 3) (.seq (.var 0)) .none) .nil) (pl [some (.tup [a, b, u]), some (.tup l1), some (.tup l2), none]) μ = some ([.lst [liftD n a (n' - n), liftD n b (n' - n), liftD n u (n' - n)]], μ) from by unfold evs; rw [lc]; rfl]
  rfl
end
end FM

set_option Elab.async false
set_option linter.all false
set_option maxRecDepth 100000
set_option maxHeartbeats 4000000
/-! N11: which time is ahead. -/
namespace FM
open PySem (Str sizeLine)
open L2 (atI ixN Key)
open PySem.Spec PyProof.Rows
open OF (sgn sgn_eq0 Hom rat rat_mul)
local macro_rules | `(tactic| walk_at "go") => `(tactic| simp [FM.execs, FM.exec, FM.ev, FM.evs, FM.evo, FM.evc, FM.evi, FM.Sl.d, FM.isiD, FM.cmpD, FM.negD, FM.bindT, FM.andThen_some', FM.onBl_bl, FM.wthD_some', FM.eqD_int, FM.ix_tup, FM.ix_lst, FM.atI_0, FM.atI_1, FM.atI_2, FM.op_add, FM.op_sub, FM.op_subBl, FM.biD_abs, FM.szle, FM.pl_get, FM.pl_set, FM.isOw_pl, FM.noOw_pl, FM.lk_pl, FM.lks_pl, FM.itlk_pl, FM.setAll_pl, FM.setAllD])
theorem SL.down {er mr : Nat} : {n e m : Nat} → SL er mr (n + 1) e m → SL er mr n e m := fun h => h.2.mono (by omega) (by omega)
theorem cc_mono {a b : Nat} (h : a ≤ b) : cc a ≤ cc b := by
  obtain ⟨d, rfl⟩ : ∃ d, b = a + d := ⟨b - a, by omega⟩
  induction d with
  | zero => exact Nat.le_refl _
  | succ d ih =>
    have := ih (by omega)
    show cc a ≤ 2 * cc (a + d) + 1
    omega
theorem SL.downs {er mr n n' e m : Nat} (h : n ≤ n') (g : SL er mr n' e m) : SL er mr n e m := by
  obtain ⟨d, rfl⟩ : ∃ d, n' = n + d := ⟨n' - n, by omega⟩
  induction d with
  | zero => exact g
  | succ d ih => exact ih (by omega) (SL.down (n := n + d) g)
theorem root_uniq {L : Type} [fL : Lean.Grind.Field L] [LE L] [LT L] [Std.LawfulOrderLT L] [Std.IsLinearOrder L] [Lean.Grind.OrderedRing L] {r s : L} (h : 0 ≤ r) (g : 0 ≤ s) (e : r * r = s * s) : r = s := by
  have e : (r - s) * (r + s) = 0 := by grind
  by_cases y : r + s = 0
  · grind
  · have q := Lean.Grind.Field.mul_inv_cancel y
    grind
/-- long enough for times at a tower of height n -/
structure Lim (er mr n : Nat) : Prop where
  a : SL er mr (n + 1) er (mr + 1)
  b : SL er mr (n + 2) (er + er + cc (n + 2) * er) (mr + mr + cc (n + 2) * (mr + 1) + 3)
  c : (mr + mr + cc (n + 2) * (mr + 1)) + 8 * (er + er + cc (n + 2) * er) + 20 ≤ 1800
section
variable {G : Nat → Fs} {i : Ids} {j : Ids2} {k : Ids3} (T : TF3 G i j k)
include T
theorem ctimes_c {B er mr : Nat} (h0 : 0 < B) (hD : B < 2 ^ 8) {n : Nat} (hn : n + 4 ≤ 40) (t : Tw n) (ht : TwAll (Bd B er mr) t) (a b u a' b' u' : Nm n) (ha : AllL (Bd B er mr) n a) (hb : AllL (Bd B er mr) n b) (hu : AllL (Bd B er mr) n u) (ha' : AllL (Bd B er mr) n a') (hb' : AllL (Bd B er mr) n b') (hu' : AllL (Bd B er mr) n u')
    (hl : Lim er mr n) {m : Nat} (hm : 2 * n + 60 ≤ m) (μ : Cells) :
    ∃ s : Int, G (m + 1) k.ctimes [tmD a b u, tmD a' b' u', tD t] μ = some (.int s, μ) ∧ ∀ (L : Type) [Lean.Grind.Field L] [LE L] [LT L] [Std.LawfulOrderLT L] [Std.IsLinearOrder L] [Lean.Grind.OrderedRing L] (j : Rat → L) (ρ : Nat → L) (r r' : L), Hom j → TwV j ρ t → 0 ≤ r → r * r = val j ρ n u → (isN n u = false → 0 < val j ρ n u) →
      0 ≤ r' → r' * r' = val j ρ n u' → (isN n u' = false → 0 < val j ρ n u') → s = sgn ((val j ρ n a + val j ρ n b * r) - (val j ρ n a' + val j ρ n b' * r')) := by
  obtain ⟨m, rfl⟩ : ∃ m', m = m' + 2 := ⟨m - 2, by omega⟩
  have eq := eqD_tm (by omega) a b u a' b' u'
  by_cases z : PySem.PyData.eqv (tmD a b u).py (tmD a' b' u').py = true
  · obtain ⟨rfl, rfl, rfl⟩ := eqv_tm z
    rw [z] at eq
    refine ⟨0, ?_, fun L _ _ _ _ _ _ j ρ r r' hj hv r0 rr _ r0' rr' _ => ?_⟩
    · rw [T.ctimes]
      exact run_rt rfl (Nat.le_of_ble_eq_true rfl) (seq_rt (ifs_t (cmp_of (x := tmD a b u) (y := tmD a b u) rfl rfl eq) (seq_rt (ret_of rfl rfl))))
    · have : r = r' := root_uniq r0 r0' (by rw [rr, rr'])
      subst this
      rw [show (val j ρ n a + val j ρ n b * r) - (val j ρ n a + val j ρ n b * r) = 0 by grind, OF.sgn_zero]
  · have z' : PySem.PyData.eqv (tmD a b u).py (tmD a' b' u').py = false := by simpa using z
    rw [z'] at eq
    have k1 : cc (n + 1) ≤ cc (n + 2) := cc_mono (by omega)
    have m1 : cc (n + 1) * er ≤ cc (n + 2) * er := Nat.mul_le_mul_right _ k1
    have m2 : cc (n + 1) * (mr + 1) ≤ cc (n + 2) * (mr + 1) := Nat.mul_le_mul_right _ k1
    have lc := hl.c
    obtain ⟨res, p1, n1, t1, z1, l1, l2, rfl, p2, p3, p4⟩ := tnum_c T h0 hD (by omega) t ht a b u ha hb hu (SL.down hl.a) (by omega) (m := m + 1) (by omega) μ
    obtain ⟨av, a1, a2, a3, a4⟩ := lift_ex l1 a'
    obtain ⟨bv, b1, b2, b3, b4⟩ := lift_ex l1 b'
    obtain ⟨uv, u1, u2, u3, u4⟩ := lift_ex l1 u'
    have rz : G (m + 2) k.raised [tmD a' b' u', tD t, tD t1] μ = some (tmD av bv uv, μ) := by
      have h := raised_c T l1 (by omega) (twL t) (twL t1) (twL_len t) (twL_len t1) (m := m + 1) (by omega) (nD n a') (nD n b') (nD n u') μ
      rw [a1, b1, u1] at h
      exact h
    have k2 : cc (n1 + 1) ≤ cc (n + 2) := cc_mono (by omega)
    have m3 : cc (n1 + 1) * er ≤ cc (n + 2) * er := Nat.mul_le_mul_right _ k2
    have m4 : cc (n1 + 1) * (mr + 1) ≤ cc (n + 2) * (mr + 1) := Nat.mul_le_mul_right _ k2
    obtain ⟨res2, s1, n2, t2, z2, l3, l4, rfl, s2, s3, s4⟩ := tnum_c T h0 hD (by omega) t1 p2 av bv uv (a2 _ (bd01 _ _ _) ha') (b2 _ (bd01 _ _ _) hb') (u2 _ (bd01 _ _ _) hu') (SL.downs (by omega) hl.a) (by omega) (m := m + 1) (by omega) μ
    obtain ⟨y, y1, y2, y3, y4⟩ := lift_ex l3 z1
    have by1 := AllL.up (y2 _ (bd01 _ _ _) p3) (e' := er + er + cc (n + 2) * er) (m' := mr + mr + cc (n + 2) * (mr + 1) + 1) (by omega) (by omega)
    have bz2 := AllL.up s3 (e' := er + er + cc (n + 2) * er) (m' := mr + mr + cc (n + 2) * (mr + 1) + 1) (by omega) (by omega)
    have ly : G (m + 2) j.lifted [nD n1 z1, tD t1, tD t2] μ = some (nD n2 y, μ) := by
      rw [← y1]
      exact lifted_c T.t (n := n1) (c := n2 - n1) (by omega) (m := m + 1) (by omega) _ (twL t1) (twL t2) (twL_len t1) (by rw [twL_len]; omega) μ
    have fqn : ∀ {z : Nm n2}, AllL (Bd B (er + er + cc (n + 2) * er) (mr + mr + cc (n + 2) * (mr + 1) + 1)) n2 z → AllL (Fq 1800) n2 z := fun h => AllL.imp (fun _ g => (g.fq hD h0).mono (by omega)) _ h
    have pd : ∀ {e m : Nat} {z : Nm n2}, AllL (Bd B e m) n2 z → AllL Pd n2 z := fun h => AllL.imp (fun _ g => g.pd) _ h
    have cs := sub_c T.t.t n2 (by omega) t2 (m + 1) (by omega) (fqn by1) (fqn bz2) μ
    have sg := sign_c T.t.t h0 hD n2 (by omega) t2 s2 (m + 1) (by omega) (subN_bd h0 by1 bz2) ((SL.downs (by omega) hl.b).mono (by omega) (by omega)) μ
    refine ⟨signN t2 (subN n2 y z2), ?_, fun L _ _ _ _ _ _ j ρ r r' hj hv r0 rr up r0' rr' up' => ?_⟩
    · rw [T.ctimes]
      generalize tmD a b u = X0 at *
      generalize tmD a' b' u' = X1 at *
      generalize tmD av bv uv = X2 at *
      generalize nD n2 (subN n2 y z2) = X3 at *
      generalize nD n2 y = X4 at *
      generalize nD n2 z2 = X5 at *
      generalize nD n1 z1 = X6 at *
      refine run_rt rfl (Nat.le_of_ble_eq_true rfl) (seq_nx (ifs_f (cmp_of (x := X0) (y := X1) rfl rfl eq) rfl) (seq_nx (ρ1 := pl [some X0, some X1, some (tD t), some (tD t1), some X6, none, none]) (μ1 := μ) ?_ (seq_nx (ρ1 := pl [some X0, some X1, some (tD t), some (tD t1), some X6, some (tD t2), some X5]) (μ1 := μ) ?_ (seq_rt ?_))))
      · show exec (G (m + 2)) W _ (pl [some X0, some X1, some (tD t), none, none, none, none]) μ = _
        walk_at "go"
        simp [p1, andThen_some', wthD_some', setAll_pl, setAllD]
      · walk_at "go"
        simp [rz, s1, andThen_some', wthD_some', setAll_pl, setAllD]
      · walk_at "go"
        simp [ly, cs, sg, andThen_some', wthD_some']
    · obtain ⟨ρ1, c1, v1, e1⟩ := p4 L j ρ r hj hv r0 rr up
      have vu : val j ρ1 n1 uv = val j ρ n u' := by rw [u4 L j ρ1 hj]; exact (val_congr n c1 u').symm
      have va : val j ρ1 n1 av = val j ρ n a' := by rw [a4 L j ρ1 hj]; exact (val_congr n c1 a').symm
      have vb : val j ρ1 n1 bv = val j ρ n b' := by rw [b4 L j ρ1 hj]; exact (val_congr n c1 b').symm
      obtain ⟨ρ2, c2, v2, e2⟩ := s4 L j ρ1 r' hj v1 r0' (by rw [vu]; exact rr') (fun h => by rw [vu]; exact up' (by rw [← u3]; exact h))
      rw [sign_val hj t2 v2 (twAll_imp (fun _ g => g.pd) t2 s2) (subN_all (fun _ _ => pd_sub) n2 (pd by1) (pd bz2)), val_sub hj n2 (pd by1) (pd bz2), e2, va, vb, y4 L j ρ2 hj, ← val_congr n1 c2 z1, e1]
end
end FM

set_option Elab.async false
set_option linter.all false
set_option maxRecDepth 100000
set_option maxHeartbeats 4000000
/-! N12: the law's own: which time is ahead. -/
namespace FM
open PySem (Str sizeLine)
open L2 (atI ixN Key)
open PySem.Spec PyProof.Rows
open OF (sgn sgn_eq0 Hom rat rat_mul rat_sub rat_add sg2)
local macro_rules | `(tactic| walk_at "go") => `(tactic| simp [FM.execs, FM.exec, FM.ev, FM.evs, FM.evo, FM.evc, FM.evi, FM.Sl.d, FM.isiD, FM.cmpD, FM.negD, FM.bindT, FM.andThen_some', FM.onBl_bl, FM.wthD_some', FM.eqD_int, FM.ix_tup, FM.ix_lst, FM.atI_0, FM.atI_1, FM.atI_2, FM.op_add, FM.op_sub, FM.op_subBl, FM.biD_abs, FM.szle, FM.pl_get, FM.pl_set, FM.isOw_pl, FM.noOw_pl, FM.lk_pl, FM.lks_pl, FM.itlk_pl, FM.setAll_pl, FM.setAllD])
/-- the law's sign of u + v times a root of p -/
def sgTwo (u v p : Int × Int) : Int := sg2 (sgI u.1) (if 0 < p.1 then sgI v.1 else 0) (sgI (subF (mulF u u) (mulF (mulF v v) p)).1)
abbrev sqF (u v p t q : Int × Int) : Int × Int := subF (addF (mulF u u) (mulF (mulF v v) p)) (mulF (mulF t t) q)
def befF (a b p a' b' q : Int × Int) : Int :=
  sg2 (sgTwo (subF a a') b p) (if 0 < q.1 then sgI (subF (0, 1) b').1 else 0) (sgTwo (sqF (subF a a') b p (subF (0, 1) b') q) (mulF (2, 1) (mulF (subF a a') b)) p)
theorem sgTwo_abs (u v p : Int × Int) : (sgTwo u v p).natAbs ≤ 1 := sg2_abs (sgI_abs _) (by split <;> first | exact sgI_abs _ | decide) (sgI_abs _)
section
variable {L : Type} [fL : Lean.Grind.Field L] [LE L] [LT L] [Std.LawfulOrderLT L] [Std.IsLinearOrder L] [Lean.Grind.OrderedRing L] {j : Rat → L} (hj : Hom j)
include hj
theorem j_add {x y : Int × Int} (hx : Pd x) (hy : Pd y) : j (rat (addF x y)) = j (rat x) + j (rat y) := by
  rw [rat_add (Int.ne_of_gt hx) (Int.ne_of_gt hy), hj.add]
theorem j_sub {x y : Int × Int} (hx : Pd x) (hy : Pd y) : j (rat (subF x y)) = j (rat x) - j (rat y) := by
  rw [rat_sub (Int.ne_of_gt hx) (Int.ne_of_gt hy), hom_sub hj]
theorem j_mul {x y : Int × Int} (hx : Pd x) (hy : Pd y) : j (rat (mulF x y)) = j (rat x) * j (rat y) := by
  rw [rat_mul (Int.ne_of_gt hx) (Int.ne_of_gt hy), hj.mul]
theorem sgI_pos {p : Int × Int} (h : Pd p) : 0 < p.1 ↔ 0 < j (rat p) := by
  rw [← OF.sgn_eq1, sgn_rat hj h]
  unfold sgI
  split
  · simp_all
  · split <;> simp_all <;> omega
theorem sgTwo_val {u v p : Int × Int} (hu : Pd u) (hv : Pd v) (hp : Pd p) {r : L} (r0 : 0 ≤ r) (rr : r * r = j (rat p)) : sgTwo u v p = sgn (j (rat u) + j (rat v) * r) := by
  unfold sgTwo
  by_cases z : 0 < p.1
  · have zp := (sgI_pos hj hp).mp z
    have rp : 0 < r := by
      by_cases w : r = 0
      · subst w; grind
      · grind
    rw [if_pos z, OF.sgn_root rp rr, ← sgn_rat hj hu, ← sgn_rat hj hv, ← sgn_rat hj (pd_sub (pd_mul hu hu) (pd_mul (pd_mul hv hv) hp)), j_sub hj (pd_mul hu hu) (pd_mul (pd_mul hv hv) hp), j_mul hj hu hu, j_mul hj (pd_mul hv hv) hp, j_mul hj hv hv]
  · rw [if_neg z]
    have q0 : ¬ 0 < j (rat p) := fun h => z ((sgI_pos hj hp).mpr h)
    have r1 : r = 0 := by
      by_cases w : r = 0
      · exact w
      · have := OF.sqp w
        grind
    subst r1
    rw [show j (rat u) + j (rat v) * 0 = j (rat u) by grind, sgn_rat hj hu]
    unfold sg2
    rw [if_pos (.inl rfl)]
/-- THE LAW'S ORDER is the order of what is meant -/
theorem bef_val {a b p a' b' q : Int × Int} (ha : Pd a) (hb : Pd b) (hp : Pd p) (ha' : Pd a') (hb' : Pd b') (hq : Pd q) {r s : L} (r0 : 0 ≤ r) (rr : r * r = j (rat p)) (s0 : 0 ≤ s) (ss : s * s = j (rat q)) :
    befF a b p a' b' q = sgn ((j (rat a) + j (rat b) * r) - (j (rat a') + j (rat b') * s)) := by
  have h01 : Pd (0, 1) := by unfold Pd; decide
  have h21 : Pd (2, 1) := by unfold Pd; decide
  have pu := pd_sub ha ha'
  have pt := pd_sub h01 hb'
  have j0 : j (rat (0, 1)) = 0 := by
    rw [show rat (0, 1) = 0 by unfold rat; grind, hj.zero]
  have j2 : j (rat (2, 1)) = 1 + 1 := by
    rw [show rat (2, 1) = 1 + 1 by unfold rat; grind, hj.add, hj.one]
  have e1 := sgTwo_val hj pu hb hp r0 rr
  have ps := pd_sub (pd_add (pd_mul pu pu) (pd_mul (pd_mul hb hb) hp)) (pd_mul (pd_mul pt pt) hq)
  have e2 := sgTwo_val hj ps (pd_mul h21 (pd_mul pu hb)) hp r0 rr
  unfold befF
  rw [e1, e2, j_sub hj (pd_add (pd_mul pu pu) (pd_mul (pd_mul hb hb) hp)) (pd_mul (pd_mul pt pt) hq), j_add hj (pd_mul pu pu) (pd_mul (pd_mul hb hb) hp), j_mul hj pu pu, j_mul hj (pd_mul hb hb) hp, j_mul hj hb hb, j_mul hj (pd_mul pt pt) hq, j_mul hj pt pt, j_mul hj h21 (pd_mul pu hb), j_mul hj pu hb, j_sub hj ha ha', j_sub hj h01 hb', j0, j2]
  generalize j (rat a) = A at *
  generalize j (rat a') = A' at *
  generalize hB' : j (rat b') = B' at *
  generalize j (rat b) = B at *
  by_cases z : 0 < q.1
  · have zp := (sgI_pos hj hq).mp z
    have sp : 0 < s := by
      by_cases w : s = 0
      · subst w; grind
      · grind
    have st : sgI (subF (0, 1) b').1 = sgn (-B') := by
      rw [← sgn_rat hj pt, j_sub hj h01 hb', j0, hB', show (0 : L) - B' = -B' by grind]
    rw [if_pos z, st, show (A + B * r) - (A' + B' * s) = ((A - A') + B * r) + (-B') * s by grind, OF.sgn_root sp ss]
    congr 2
    rw [← rr, ← ss]
    grind
  · rw [if_neg z]
    have q0 : ¬ 0 < j (rat q) := fun h => z ((sgI_pos hj hq).mpr h)
    have s1 : s = 0 := by
      by_cases w : s = 0
      · exact w
      · have := OF.sqp w
        grind
    subst s1
    unfold sg2
    rw [if_pos (.inl rfl)]
    congr 1
    grind
end
/-! ### the walks -/
structure LawF (F : Fs) (sub mul add sgn fr : Nat) : Prop where
  sub : ∀ (x y : Int × Int) (μ : Cells), Fq 1800 x → Fq 1800 y → F sub [fD x, fD y] μ = some (fD (subF x y), μ)
  mul : ∀ (x y : Int × Int) (μ : Cells), Fq 1800 x → Fq 1800 y → F mul [fD x, fD y] μ = some (fD (mulF x y), μ)
  add : ∀ (x y : Int × Int) (μ : Cells), Fq 1800 x → Fq 1800 y → F add [fD x, fD y] μ = some (fD (addF x y), μ)
  sgn : ∀ (x : Int × Int) (μ : Cells), F sgn [fD x] μ = some (.int (sgI x.1), μ)
theorem mul_abs1 {u w : Int} (hu : u.natAbs ≤ 1) (hw : w.natAbs ≤ 1) : opD .Mult (.int u) (.int w) = some (.int (u * w)) := op_mul (j := 1) (k := 1) (by unfold Sm; omega) (by unfold Sm; omega) (by decide)
theorem sign_two_ok {F : Fs} {cs cm ca cg cf : Nat} (K : LawF F cs cm ca cg cf) {u v p : Int × Int} {ku kv kp : Nat} (hu : Fq ku u) (hv : Fq kv v) (hp : Fq kp p) (l1 : ku + ku ≤ 1800) (l2 : kv + kv + kp ≤ 1800) (μ : Cells) :
    runFn F W ⟨3, 5, B__law_sign_two cg cs cm⟩ [fD u, fD v, fD p] μ = some (.int (sgTwo u v p), μ) := by
  have m1 := K.mul u u μ (hu.mono (by omega)) (hu.mono (by omega))
  have m2 := K.mul v v μ (hv.mono (by omega)) (hv.mono (by omega))
  have m3 := K.mul (mulF v v) p μ ((hv.mul hv).mono (by omega)) (hp.mono (by omega))
  have m4 := K.sub (mulF u u) (mulF (mulF v v) p) μ ((hu.mul hu).mono (by omega)) (((hv.mul hv).mul hp).mono (by omega))
  have g1 := K.sgn u μ
  have g2 := K.sgn v μ
  have g3 := K.sgn (subF (mulF u u) (mulF (mulF v v) p)) μ
  have a1 := sgI_abs u.1
  have a3 := sgI_abs (subF (mulF u u) (mulF (mulF v v) p)).1
  have s1 : ∀ (V : Int), (if 0 < p.1 then sgI v.1 else 0) = V → exec F W (.par 3 4 (.call cg (.cons (.var 0) .nil)) (.ife (.cmp .Gt (.ix (.var 2) (.int 0)) (.int 0)) (.call cg (.cons (.var 1) .nil)) (.int 0))) (pl [some (fD u), some (fD v), some (fD p), none, none]) μ = some (.nx (pl [some (fD u), some (fD v), some (fD p), some (.int (sgI u.1)), some (.int V)]) μ) := fun V e => by
    by_cases z : 0 < p.1
    · rw [if_pos z] at e
      subst e
      walk_at "go"
      simp [g1, g2, z, andThen_some', wthD_some', onBl_bl, pl_set]
    · rw [if_neg z] at e
      subst e
      walk_at "go"
      simp [g1, g2, z, andThen_some', wthD_some', onBl_bl, pl_set]
  have s1 := s1 _ rfl
  unfold sgTwo sg2
  generalize (if 0 < p.1 then sgI v.1 else 0) = V at *
  generalize sgI u.1 = U at *
  generalize (sgI (subF (mulF u u) (mulF (mulF v v) p)).1) = Z at *
  refine run_rt rfl (Nat.le_of_ble_eq_true rfl) (seq_nx s1 ?_)
  by_cases y1 : V = 0 ∨ U = V
  · rw [if_pos y1]
    refine seq_rt (ifs_t (μ1 := μ) ?_ (seq_rt ?_))
    · walk_at "go"
      rcases y1 with y1 | y1
      · simp [y1]
      · by_cases y2 : V = 0 <;> simp [y1, y2, onBl_bl]
    · walk_at "go"
  · rw [if_neg y1]
    rw [not_or] at y1
    refine seq_nx (ifs_f (μ1 := μ) ?_ rfl) ?_
    · walk_at "go"
      simp [y1.1, y1.2, onBl_bl]
    · by_cases y2 : U = 0
      · rw [if_pos y2]
        refine seq_rt (ifs_t (μ1 := μ) ?_ (seq_rt ?_))
        · walk_at "go"
          exact y2
        · walk_at "go"
      · rw [if_neg y2]
        refine seq_nx (ifs_f (μ1 := μ) ?_ rfl) (seq_rt ?_)
        · walk_at "go"
          exact y2
        · have om := mul_abs1 a1 a3
          walk_at "go"
          simp [m1, m2, m3, m4, g3, om, andThen_some', wthD_some']
end FM

set_option Elab.async false
set_option linter.all false
set_option maxRecDepth 100000
set_option maxHeartbeats 4000000
/-! N13: the law's order walked. -/
namespace FM
open PySem (Str sizeLine)
open L2 (atI ixN Key)
open PySem.Spec PyProof.Rows
open OF (sgn sgn_eq0 Hom rat sg2)
local macro_rules | `(tactic| walk_at "go") => `(tactic| simp [FM.execs, FM.exec, FM.ev, FM.evs, FM.evo, FM.evc, FM.evi, FM.Sl.d, FM.isiD, FM.cmpD, FM.negD, FM.bindT, FM.andThen_some', FM.onBl_bl, FM.wthD_some', FM.eqD_int, FM.ix_tup, FM.ix_lst, FM.atI_0, FM.atI_1, FM.atI_2, FM.op_add, FM.op_sub, FM.op_subBl, FM.biD_abs, FM.szle, FM.pl_get, FM.pl_set, FM.isOw_pl, FM.noOw_pl, FM.lk_pl, FM.lks_pl, FM.itlk_pl, FM.setAll_pl, FM.setAllD])
/-- a time of fractions -/
abbrev t3 (a b p : Int × Int) : D := .tup [fD a, fD b, fD p]
theorem fq01' (k : Nat) : Fq (k + 2) (0, 1) := ⟨by unfold Sm; exact Nat.pow_pos (by decide), by unfold Sm; show 1 < 2 ^ (k + 2); have : 2 ^ 1 ≤ 2 ^ (k + 2) := Nat.pow_le_pow_right (by decide) (by omega); omega, by decide, by decide⟩
theorem fq21' (k : Nat) : Fq (k + 2) (2, 1) := ⟨by unfold Sm; show 2 < 2 ^ (k + 2); have : 2 ^ 2 ≤ 2 ^ (k + 2) := Nat.pow_le_pow_right (by decide) (by omega); omega, by unfold Sm; show 1 < 2 ^ (k + 2); have : 2 ^ 1 ≤ 2 ^ (k + 2) := Nat.pow_le_pow_right (by decide) (by omega); omega, by decide, by decide⟩
/-- after the two signs: which of the three answers -/
theorem sg2_tail {F : Fs} {U V Z : Int} {ds : List (Option D)} {i k : Nat} {μ : Cells} {rest : Ss} (hi : ds[i]? = some (some (.int U))) (hk : ds[k]? = some (some (.int V)))
    (hr : ¬(V = 0 ∨ U = V) → U ≠ 0 → execs F W rest (pl ds) μ = some (.rt (.int (U * Z)) μ)) :
    execs F W (.cons (.ifs (.or (.cmp .Eq (.var k) (.int 0)) (.cmp .Eq (.var i) (.var k))) (.cons (.ret (.var i)) .nil) .nil) (.cons (.ifs (.cmp .Eq (.var i) (.int 0)) (.cons (.ret (.var k)) .nil) .nil) rest)) (pl ds) μ = some (.rt (.int (sg2 U V Z)) μ) := by
  have vi : ev F (.var i) (pl ds) μ = some (.int U, μ) := by
    unfold ev
    rw [pl_get, hi]
    rfl
  have vk : ev F (.var k) (pl ds) μ = some (.int V, μ) := by
    unfold ev
    rw [pl_get, hk]
    rfl
  have ck : ev F (.cmp .Eq (.var k) (.int 0)) (pl ds) μ = some (.bl (decide (V = 0)), μ) := cmp_of vk rfl (eqD_int V 0)
  have cik : ev F (.cmp .Eq (.var i) (.var k)) (pl ds) μ = some (.bl (decide (U = V)), μ) := cmp_of vi vk (eqD_int U V)
  have ci : ev F (.cmp .Eq (.var i) (.int 0)) (pl ds) μ = some (.bl (decide (U = 0)), μ) := cmp_of vi rfl (eqD_int U 0)
  have co : ev F (.or (.cmp .Eq (.var k) (.int 0)) (.cmp .Eq (.var i) (.var k))) (pl ds) μ = some (.bl (decide (V = 0) || decide (U = V)), μ) := by
    unfold ev
    rw [ck]
    show (if decide (V = 0) = true then some (D.bl true, μ) else onBl (ev F (.cmp .Eq (.var i) (.var k)) (pl ds) μ) fun y μ2 => some (.bl y, μ2)) = _
    rw [cik]
    by_cases e : V = 0 <;> simp [e, onBl_bl]
  unfold sg2
  by_cases y1 : V = 0 ∨ U = V
  · rw [if_pos y1]
    refine seq_rt (ifs_t (μ1 := μ) ?_ (seq_rt (ret_of (lk_pl _ _) vi)))
    rw [co]
    rcases y1 with y1 | y1 <;> simp [y1]
  · rw [if_neg y1]
    have y1' := y1
    rw [not_or] at y1'
    refine seq_nx (ifs_f (μ1 := μ) ?_ rfl) ?_
    · rw [co]
      simp [y1'.1, y1'.2]
    · by_cases y2 : U = 0
      · rw [if_pos y2]
        refine seq_rt (ifs_t (μ1 := μ) ?_ (seq_rt (ret_of (lk_pl _ _) vk)))
        rw [ci, decide_eq_true y2]
      · rw [if_neg y2]
        refine seq_nx (ifs_f (μ1 := μ) ?_ rfl) (hr y1 y2)
        rw [ci, decide_eq_false y2]
theorem before_ok {F : Fs} {cs cm ca cg cf ct : Nat} (K : LawF F cs cm ca cg cf) (hT : ∀ {u v p : Int × Int} {ku kv kp : Nat} (μ : Cells), Fq ku u → Fq kv v → Fq kp p → ku + ku ≤ 1800 → kv + kv + kp ≤ 1800 → F ct [fD u, fD v, fD p] μ = some (.int (sgTwo u v p), μ))
    {a b p a' b' q : Int × Int} {ka ka' : Nat} (ha : Fq ka a) (hb : Fq 8 b) (hp : Fq 8 p) (ha' : Fq ka' a') (hb' : Fq 8 b') (hq : Fq 8 q) (l : ka + ka' ≤ 415) (μ : Cells) :
    runFn F W ⟨2, 10, B__law_before cs ct cg cm ca⟩ [t3 a b p, t3 a' b' q] μ = some (.int (befF a b p a' b' q), μ) := by
  have hu := ha.sub ha'
  have ht := (fq01' 6).sub hb'
  have u1 := K.sub a a' μ (ha.mono (by omega)) (ha'.mono (by omega))
  have t1 := K.sub (0, 1) b' μ ((fq01' 6).mono (by omega)) (hb'.mono (by omega))
  generalize hU0 : subF a a' = u at *
  generalize hT0 : subF (0, 1) b' = t at *
  have f1 := hT μ hu hb hp (by omega) (by omega)
  have g1 := K.sgn t μ
  have m1 := K.mul u u μ (hu.mono (by omega)) (hu.mono (by omega))
  have m2 := K.mul b b μ (hb.mono (by omega)) (hb.mono (by omega))
  have m3 := K.mul (mulF b b) p μ ((hb.mul hb).mono (by omega)) (hp.mono (by omega))
  have m4 := K.mul t t μ (ht.mono (by omega)) (ht.mono (by omega))
  have m5 := K.mul (mulF t t) q μ ((ht.mul ht).mono (by omega)) (hq.mono (by omega))
  have s1 := (hu.mul hu).add ((hb.mul hb).mul hp)
  have s2 := s1.sub ((ht.mul ht).mul hq)
  have a1 := K.add (mulF u u) (mulF (mulF b b) p) μ ((hu.mul hu).mono (by omega)) (((hb.mul hb).mul hp).mono (by omega))
  have a2 := K.sub (addF (mulF u u) (mulF (mulF b b) p)) (mulF (mulF t t) q) μ (s1.mono (by omega)) (((ht.mul ht).mul hq).mono (by omega))
  have m6 := K.mul u b μ (hu.mono (by omega)) (hb.mono (by omega))
  have m7 := K.mul (2, 1) (mulF u b) μ ((fq21' 6).mono (by omega)) ((hu.mul hb).mono (by omega))
  have f2 := hT μ s2 ((fq21' 6).mul (hu.mul hb)) hp (by omega) (by omega)
  have z1 := sgTwo_abs u b p
  have z2 := sgTwo_abs (sqF u b p t q) (mulF (2, 1) (mulF u b)) p
  have om := mul_abs1 z1 z2
  have e : befF a b p a' b' q = sg2 (sgTwo u b p) (if 0 < q.1 then sgI t.1 else 0) (sgTwo (sqF u b p t q) (mulF (2, 1) (mulF u b)) p) := by
    unfold befF
    rw [hU0, hT0]
  rw [e]
  have s8 : ∀ V : Int, (if 0 < q.1 then sgI t.1 else 0) = V → exec F W (.par 8 9 (.call ct (.cons (.var 4) (.cons (.var 5) (.cons (.var 6) .nil)))) (.ife (.cmp .Gt (.ix (.var 7) (.int 0)) (.int 0)) (.call cg (.cons (.var 2) .nil)) (.int 0))) (pl [some (t3 a b p), some (t3 a' b' q), some (fD t), none, some (fD u), some (fD b), some (fD p), some (fD q), none, none]) μ = some (.nx (pl [some (t3 a b p), some (t3 a' b' q), some (fD t), none, some (fD u), some (fD b), some (fD p), some (fD q), some (.int (sgTwo u b p)), some (.int V)]) μ) := fun V e => by
    by_cases z : 0 < q.1
    · rw [if_pos z] at e
      subst e
      walk_at "go"
      simp [f1, g1, z, andThen_some', wthD_some', onBl_bl, pl_set]
    · rw [if_neg z] at e
      subst e
      walk_at "go"
      simp [f1, g1, z, andThen_some', wthD_some', onBl_bl, pl_set]
  have s8 := s8 _ rfl
  generalize (if 0 < q.1 then sgI t.1 else 0) = V at *
  generalize hSQ : sgTwo (sqF u b p t q) (mulF (2, 1) (mulF u b)) p = Z at *
  generalize sgTwo u b p = U at *
  refine run_rt rfl (Nat.le_of_ble_eq_true rfl) (seq_nx (ρ1 := pl [some (t3 a b p), some (t3 a' b' q), none, none, some (fD u), some (fD b), some (fD p), some (fD q), none, none]) (μ1 := μ) ?_ (seq_nx (ρ1 := pl [some (t3 a b p), some (t3 a' b' q), some (fD t), none, some (fD u), some (fD b), some (fD p), some (fD q), none, none]) (μ1 := μ) ?_ (seq_nx s8 (sg2_tail rfl rfl fun _ _ => ?_))))
  · show exec F W _ (pl [some (t3 a b p), some (t3 a' b' q), none, none, none, none, none, none, none, none]) μ = _
    walk_at "go"
    simp [u1, andThen_some', wthD_some', szle, setAll_pl, setAllD]
  · walk_at "go"
    simp [t1, andThen_some', wthD_some', szle, pl_set]
  · refine seq_nx (ρ1 := pl [some (t3 a b p), some (t3 a' b' q), some (fD t), some (fD (sqF u b p t q)), some (fD u), some (fD b), some (fD p), some (fD q), some (.int U), some (.int V)]) (μ1 := μ) ?_ (seq_rt ?_)
    · walk_at "go"
      simp [m1, m2, m3, m4, m5, a1, a2, andThen_some', wthD_some', szle, pl_set]
    · walk_at "go"
      simp [m6, m7, f2, om, andThen_some', wthD_some', szle]
end FM

set_option Elab.async false
set_option linter.all false
set_option maxRecDepth 100000
set_option maxHeartbeats 4000000
/-! N14: fractions between times. -/
namespace FM
open PySem (Str sizeLine)
open L2 (atI ixN Key)
open PySem.Spec PyProof.Rows
local macro_rules | `(tactic| walk_at "go") => `(tactic| simp [FM.execs, FM.exec, FM.ev, FM.evs, FM.evo, FM.evc, FM.evi, FM.Sl.d, FM.isiD, FM.cmpD, FM.negD, FM.bindT, FM.andThen_some', FM.onBl_bl, FM.wthD_some', FM.eqD_int, FM.ix_tup, FM.ix_lst, FM.atI_0, FM.atI_1, FM.atI_2, FM.op_add, FM.op_sub, FM.op_subBl, FM.biD_abs, FM.szle, FM.pl_get, FM.pl_set, FM.isOw_pl, FM.noOw_pl, FM.lk_pl, FM.lks_pl, FM.itlk_pl, FM.setAll_pl, FM.setAllD])
/-- a time of fractions, its parts -/
structure T8 where
  a : Int × Int
  b : Int × Int
  p : Int × Int
  fa : Fq 8 a
  fb : Fq 8 b
  fp : Fq 8 p
def T8.D (x : T8) : FM.D := t3 x.a x.b x.p
def oT : Option T8 → FM.D
  | none => .non
  | some x => x.D
abbrev plD (f : Int × Int) : FM.D := t3 f (0, 1) (0, 1)
def bp (f : Int × Int) (x : T8) : Int := befF f (0, 1) (0, 1) x.a x.b x.p
def pb (x : T8) (f : Int × Int) : Int := befF x.a x.b x.p f (0, 1) (0, 1)
structure BtF (F : Fs) (cb cp cf : Nat) : Prop where
  bp : ∀ (f : Int × Int) (x : T8) (μ : Cells), Fq 405 f → F cb [plD f, x.D] μ = some (.int (bp f x), μ)
  pb : ∀ (f : Int × Int) (x : T8) (μ : Cells), Fq 405 f → F cb [x.D, plD f] μ = some (.int (pb x f), μ)
  pl : ∀ (f : Int × Int) (μ : Cells), F cp [fD f] μ = some (plD f, μ)
  fr : LFracC F cf
/-- where the middle goes -/
def cnd (one other : Option T8) (m k : Int) : Bool := match one with
  | some x => decide (bp (fr m k) x ≤ 0)
  | none => match other with
    | some y => decide (bp (fr (m + 1) k) y < 0)
    | none => false
def sW : E := (.or (.and (.cmp .IsNot (.var 0) .non) (.cmp .LtE (.call 0 .nil) (.int 0))) (.and (.cmp .Is (.var 0) .non) (.bl true)))
theorem is_t8 (x : T8) : isNon x.D = false := rfl
section
variable {F : Fs} {cb cp cf : Nat} (K : BtF F cb cp cf) (one other : Option T8) (hs : one ≠ none ∨ other ≠ none)
def eC (cb cp cf : Nat) : E := (.or (.and (.cmp .IsNot (.var 0) .non) (.cmp .LtE (.call cb (.cons (.call cp (.cons (.call cf (.cons (.var 8) (.cons (.var 2) .nil))) .nil)) (.cons (.var 0) .nil))) (.int 0))) (.and (.cmp .Is (.var 0) .non) (.cmp .Lt (.call cb (.cons (.call cp (.cons (.call cf (.cons (.op .Add (.var 8) (.int 1)) (.cons (.var 2) .nil))) .nil)) (.cons (.var 1) .nil))) (.int 0))))
include K hs
theorem cnd_ev {m k : Int} {o3 o4 o5 o6 o7 : Option D} (hm : Sm 404 m) (hm1 : Sm 404 (m + 1)) (hk : Sm 404 k) (k0 : 0 < k) (μ : Cells) : ev F (eC cb cp cf) (pl [some (oT one), some (oT other), some (.int k), o3, o4, o5, o6, o7, some (.int m)]) μ = some (.bl (cnd one other m k), μ) := by
  have dn : Dn k := ⟨hk.mono (by decide), .inl k0⟩
  have f1 := K.fr m k μ (hm.mono (by decide)) dn
  have f2 := K.fr (m + 1) k μ (hm1.mono (by decide)) dn
  have q1 : Fq 405 (fr m k) := (fr_fq hm hk (by omega)).mono (by decide)
  have q2 : Fq 405 (fr (m + 1) k) := (fr_fq hm1 hk (by omega)).mono (by decide)
  have p1 := K.pl (fr m k) μ
  have p2 := K.pl (fr (m + 1) k) μ
  unfold eC
  cases one with
  | some x =>
    have b := K.bp (fr m k) x μ q1
    show ev F _ (pl [some x.D, some (oT other), some (.int k), o3, o4, o5, o6, o7, some (.int m)]) μ = some (.bl (decide (bp (fr m k) x ≤ 0)), μ)
    have nx : isNon x.D = false := rfl
    generalize x.D = X at *
    generalize oT other = Y at *
    generalize bp (fr m k) x = B at *
    walk_at "go"
    simp [nx, f1, p1, b, andThen_some', wthD_some', onBl_bl, cmpD]
    split <;> simp_all
  | none =>
    cases other with
    | none => simp at hs
    | some y =>
      have b := K.bp (fr (m + 1) k) y μ q2
      show ev F _ (pl [some .non, some y.D, some (.int k), o3, o4, o5, o6, o7, some (.int m)]) μ = some (.bl (decide (bp (fr (m + 1) k) y < 0)), μ)
      generalize y.D = Y at *
      generalize bp (fr (m + 1) k) y = B at *
      walk_at "go"
      simp [isNon, f2, p2, b, andThen_some', wthD_some', onBl_bl, cmpD, op_add]
def bWh (cb cp cf : Nat) : Ss := (.cons (.asg 8 (.op .FloorDiv (.op .Add (.var 6) (.var 7)) (.int 2))) (.cons (.ifs (eC cb cp cf) (.cons (.asg 6 (.var 8)) .nil) (.cons (.asg 7 (.var 8)) .nil)) .nil))
theorem half_loop {k B : Int} (hk : Sm 404 k) (k0 : 0 < k) (hB : Sm 403 B) {o3 o4 o5 : Option D} (μ : Cells) (I : Int → Int → Prop) (hI : ∀ l h m : Int, I l h → (cnd one other m k = true → I m h) ∧ (cnd one other m k = false → I l m)) :
    ∀ (n : Nat) (l h : Int) (o8 : Option D), I l h → -B ≤ l → h ≤ B → l < h → (h - l).toNat < n → ∃ (l' h' : Int) (o8' : Option D), whileF (fun ρ' μ' => onBl (ev F (.cmp .Gt (.op .Sub (.var 7) (.var 6)) (.int 1)) ρ' μ') fun x μ1 => some (x, μ1)) (fun ρ' μ' => execs F W (bWh cb cp cf) ρ' μ') n (pl [some (oT one), some (oT other), some (.int k), o3, o4, o5, some (.int l), some (.int h), o8]) μ = some (.nx (pl [some (oT one), some (oT other), some (.int k), o3, o4, o5, some (.int l'), some (.int h'), o8']) μ) ∧
      I l' h' ∧ -B ≤ l' ∧ h' ≤ B ∧ l' < h'
  | 0, l, h, o8, _, _, _, _, hn => by omega
  | n + 1, l, h, o8, i, b1, b2, lt, hn => by
    have c : onBl (ev F (.cmp .Gt (.op .Sub (.var 7) (.var 6)) (.int 1)) (pl [some (oT one), some (oT other), some (.int k), o3, o4, o5, some (.int l), some (.int h), o8]) μ) (fun x μ1 => some (x, μ1)) = some (decide (1 < h - l), μ) := by
      walk_at "go"
    by_cases z : 1 < h - l
    · rw [decide_eq_true z] at c
      have d2 : Dv 2 := .inl (by decide)
      have md : (l + h).fdiv 2 = (l + h) / 2 := Int.fdiv_eq_ediv_of_nonneg _ (by decide)
      have m1 : l < (l + h) / 2 := by omega
      have m2 : (l + h) / 2 < h := by omega
      have s1 : Sm 404 ((l + h) / 2) := by unfold Sm at *; have : 2 ^ 403 < 2 ^ 404 := Nat.pow_lt_pow_right (by decide) (by decide); omega
      have s2 : Sm 404 ((l + h) / 2 + 1) := by unfold Sm at *; have : 2 ^ 403 < 2 ^ 404 := Nat.pow_lt_pow_right (by decide) (by decide); omega
      have ce := cnd_ev K one other hs (o3 := o3) (o4 := o4) (o5 := o5) (o6 := some (.int l)) (o7 := some (.int h)) s1 s2 hk k0 μ
      have hi := hI l h ((l + h) / 2) i
      have a8 : exec F W (.asg 8 (.op .FloorDiv (.op .Add (.var 6) (.var 7)) (.int 2))) (pl [some (oT one), some (oT other), some (.int k), o3, o4, o5, some (.int l), some (.int h), o8]) μ = some (.nx (pl [some (oT one), some (oT other), some (.int k), o3, o4, o5, some (.int l), some (.int h), some (.int ((l + h) / 2))]) μ) := by
        have od := op_div (l + h) d2
        rw [md] at od
        walk_at "go"
        simp [od, andThen_some', wthD_some', pl_set]
      generalize (l + h) / 2 = m at *
      cases e : cnd one other m k with
      | true =>
        rw [e] at ce
        have b : execs F W (bWh cb cp cf) (pl [some (oT one), some (oT other), some (.int k), o3, o4, o5, some (.int l), some (.int h), o8]) μ = some (.nx (pl [some (oT one), some (oT other), some (.int k), o3, o4, o5, some (.int m), some (.int h), some (.int m)]) μ) := by
          refine seq_nx a8 (seq_nx (ifs_t ce (seq_nx (ρ1 := pl [some (oT one), some (oT other), some (.int k), o3, o4, o5, some (.int m), some (.int h), some (.int m)]) (μ1 := μ) ?_ rfl)) rfl)
          walk_at "go"
        rw [whileF_nx c b]
        exact half_loop hk k0 hB μ I hI n m h _ (hi.1 e) (by omega) b2 m2 (by omega)
      | false =>
        rw [e] at ce
        have b : execs F W (bWh cb cp cf) (pl [some (oT one), some (oT other), some (.int k), o3, o4, o5, some (.int l), some (.int h), o8]) μ = some (.nx (pl [some (oT one), some (oT other), some (.int k), o3, o4, o5, some (.int l), some (.int m), some (.int m)]) μ) := by
          refine seq_nx a8 (seq_nx (ifs_f ce (seq_nx (ρ1 := pl [some (oT one), some (oT other), some (.int k), o3, o4, o5, some (.int l), some (.int m), some (.int m)]) (μ1 := μ) ?_ rfl)) rfl)
          walk_at "go"
        rw [whileF_nx c b]
        exact half_loop hk k0 hB μ I hI n l m _ (hi.2 e) b1 (by omega) m1 (by omega)
    · rw [decide_eq_false z] at c
      exact ⟨l, h, o8, whileF_no c, i, b1, b2, lt⟩
def gOne : Option T8 → Int × Int → Bool
  | none, _ => true
  | some x, f => decide (pb x f < 0)
def gOth : Option T8 → Int × Int → Bool
  | none, _ => true
  | some x, f => decide (bp f x < 0)
def pk : Option T8 → Int × Int → Int × Int → Int × Int
  | none, _, l => l
  | some _, h, _ => h
/-- whether a fraction is good -/
def gd (one other : Option T8) (f : Int × Int) : Bool := gOne one f && gOth other f
def eG (cb cp : Nat) : E := (.and (.or (.cmp .Is (.var 0) .non) (.cmp .Lt (.call cb (.cons (.var 0) (.cons (.call cp (.cons (.var 4) .nil)) .nil))) (.int 0))) (.or (.cmp .Is (.var 1) .non) (.cmp .Lt (.call cb (.cons (.call cp (.cons (.var 4) .nil)) (.cons (.var 1) .nil))) (.int 0))))
omit hs in
theorem gd_ev {f : Int × Int} (hf : Fq 405 f) {o2 o3 o5 o6 o7 o8 : Option D} (μ : Cells) : ev F (eG cb cp) (pl [some (oT one), some (oT other), o2, o3, some (fD f), o5, o6, o7, o8]) μ = some (.bl (gd one other f), μ) := by
  have p := K.pl f μ
  have part1 : ev F (.or (.cmp .Is (.var 0) .non) (.cmp .Lt (.call cb (.cons (.var 0) (.cons (.call cp (.cons (.var 4) .nil)) .nil))) (.int 0))) (pl [some (oT one), some (oT other), o2, o3, some (fD f), o5, o6, o7, o8]) μ = some (.bl (gOne one f), μ) := by
    cases one with
    | none =>
      show ev F _ (pl [some .non, some (oT other), o2, o3, some (fD f), o5, o6, o7, o8]) μ = some (.bl true, μ)
      walk_at "go"
      simp [isNon]
    | some x =>
      have b := K.pb f x μ hf
      show ev F _ (pl [some x.D, some (oT other), o2, o3, some (fD f), o5, o6, o7, o8]) μ = some (.bl (decide (pb x f < 0)), μ)
      have nx : isNon x.D = false := rfl
      generalize x.D = X at *
      generalize pb x f = B at *
      walk_at "go"
      simp [nx, p, b, andThen_some', wthD_some', onBl_bl, cmpD]
  have part2 : ev F (.or (.cmp .Is (.var 1) .non) (.cmp .Lt (.call cb (.cons (.call cp (.cons (.var 4) .nil)) (.cons (.var 1) .nil))) (.int 0))) (pl [some (oT one), some (oT other), o2, o3, some (fD f), o5, o6, o7, o8]) μ = some (.bl (gOth other f), μ) := by
    cases other with
    | none =>
      show ev F _ (pl [some (oT one), some .non, o2, o3, some (fD f), o5, o6, o7, o8]) μ = some (.bl true, μ)
      walk_at "go"
      simp [isNon]
    | some x =>
      have b := K.bp f x μ hf
      show ev F _ (pl [some (oT one), some x.D, o2, o3, some (fD f), o5, o6, o7, o8]) μ = some (.bl (decide (bp f x < 0)), μ)
      have nx : isNon x.D = false := rfl
      generalize x.D = X at *
      generalize bp f x = B at *
      walk_at "go"
      simp [nx, p, b, andThen_some', wthD_some', onBl_bl, cmpD]
  unfold eG ev
  rw [part1]
  unfold gd
  generalize gOne one f = d1 at *
  rw [onBl_bl, part2]
  cases d1 <;> simp [onBl_bl]
def bTn (cb cp cf : Nat) : Ss := (.cons (.par 6 7 (.op .Sub (.op .Mult (.op .Mult (.neg (.int 4)) (.var 2)) (.var 2)) (.int 4)) (.op .Add (.op .Mult (.op .Mult (.int 4) (.var 2)) (.var 2)) (.int 4))) (.cons (.whl (.cmp .Gt (.op .Sub (.var 7) (.var 6)) (.int 1)) (bWh cb cp cf)) (.cons (.asg 4 (.ife (.cmp .IsNot (.var 0) .non) (.call cf (.cons (.var 7) (.cons (.var 2) .nil))) (.call cf (.cons (.var 6) (.cons (.var 2) .nil))))) (.cons (.asg 5 (eG cb cp)) (.cons (.ifs (.var 5) (.cons (.ret (.var 4)) .nil) .nil) (.cons (.asg 2 (.op .Mult (.int 2) (.var 2))) .nil))))))
/-- one turn: a good fraction, or twice the parts -/
theorem turn_bt {k : Int} (hk : Sm 200 k) (k0 : 0 < k) {o3 o4 o5 o6 o7 o8 : Option D} (μ : Cells) (I : Int → Int → Prop) (hI : ∀ l h m : Int, I l h → (cnd one other m k = true → I m h) ∧ (cnd one other m k = false → I l m)) (i0 : I (-4 * k * k - 4) (4 * k * k + 4)) :
    ∃ l h : Int, I l h ∧ (-(4 * k * k + 4) ≤ l ∧ h ≤ 4 * k * k + 4 ∧ l < h) ∧ ∃ f : Int × Int, f = pk one (fr h k) (fr l k) ∧ Fq 405 f ∧
      if gd one other f = true then execs F W (bTn cb cp cf) (pl [some (oT one), some (oT other), some (.int k), o3, o4, o5, o6, o7, o8]) μ = some (.rt (fD f) μ)
      else ∃ p4 p5 p6 p7 p8 : Option D, execs F W (bTn cb cp cf) (pl [some (oT one), some (oT other), some (.int k), o3, o4, o5, o6, o7, o8]) μ = some (.nx (pl [some (oT one), some (oT other), some (.int (2 * k)), o3, p4, p5, p6, p7, p8]) μ) := by
  have s4 : Sm 3 (4 : Int) := by unfold Sm; decide
  have e1 := op_mul (a := -4) (b := k) (s4.neg) hk (by decide)
  have e2 := op_mul (s4.neg.mul hk) hk (by decide)
  have e3 := op_mul s4 hk (by decide)
  have e4 := op_mul (s4.mul hk) hk (by decide)
  have e5 := op_mul (j := 3) (a := 2) (by unfold Sm; decide) hk (by decide)
  have kk : Sm 400 (k * k) := hk.mul hk
  have bB : Sm 403 (4 * k * k + 4) := by
    have p1 := Int.mul_pos k0 k0
    unfold Sm at *
    have : 4 * k * k = 4 * (k * k) := Int.mul_assoc 4 k k
    have q : 2 ^ 403 = 8 * 2 ^ 400 := by rw [show 403 = 3 + 400 from rfl, Nat.pow_add]
    omega
  have p1 := Int.mul_pos k0 k0
  have a4 : 4 * k * k = 4 * (k * k) := Int.mul_assoc 4 k k
  have a4' : -4 * k * k = -4 * (k * k) := Int.mul_assoc (-4) k k
  have w : (4 * k * k + 4 - (-4 * k * k - 4)).toNat < W := by
    unfold Sm at bB
    have : 2 ^ 403 * 4 ≤ W := by
      show 2 ^ 403 * 2 ^ 2 ≤ 2 ^ 4100
      rw [← Nat.pow_add]
      exact Nat.pow_le_pow_right (by decide) (by decide)
    omega
  obtain ⟨l, h, o8', c1, i1, b1, b2, lt⟩ := half_loop K one other hs (hk.mono (by decide)) k0 bB (o3 := o3) (o4 := o4) (o5 := o5) μ I hI W (-4 * k * k - 4) (4 * k * k + 4) o8 i0 (by omega) (Int.le_refl _) (by omega) w
  have sl : Sm 404 l := by unfold Sm at *; have : 2 ^ 403 < 2 ^ 404 := Nat.pow_lt_pow_right (by decide) (by decide); omega
  have sh : Sm 404 h := by unfold Sm at *; have : 2 ^ 403 < 2 ^ 404 := Nat.pow_lt_pow_right (by decide) (by decide); omega
  have dn : Dn k := ⟨hk.mono (by decide), .inl k0⟩
  have st1 : exec F W (.par 6 7 (.op .Sub (.op .Mult (.op .Mult (.neg (.int 4)) (.var 2)) (.var 2)) (.int 4)) (.op .Add (.op .Mult (.op .Mult (.int 4) (.var 2)) (.var 2)) (.int 4))) (pl [some (oT one), some (oT other), some (.int k), o3, o4, o5, o6, o7, o8]) μ = some (.nx (pl [some (oT one), some (oT other), some (.int k), o3, o4, o5, some (.int (-4 * k * k - 4)), some (.int (4 * k * k + 4)), o8]) μ) := by
    generalize oT one = X at *
    generalize oT other = Y at *
    walk_at "go"
    simp [e1, e2, e3, e4, andThen_some', wthD_some', op_sub, op_add, pl_set]
  have f1 := K.fr h k μ (sh.mono (by decide)) dn
  have f2 := K.fr l k μ (sl.mono (by decide)) dn
  have st3 : exec F W (.asg 4 (.ife (.cmp .IsNot (.var 0) .non) (.call cf (.cons (.var 7) (.cons (.var 2) .nil))) (.call cf (.cons (.var 6) (.cons (.var 2) .nil))))) (pl [some (oT one), some (oT other), some (.int k), o3, o4, o5, some (.int l), some (.int h), o8']) μ = some (.nx (pl [some (oT one), some (oT other), some (.int k), o3, some (fD (pk one (fr h k) (fr l k))), o5, some (.int l), some (.int h), o8']) μ) := by
    cases one with
    | none =>
      show exec F W _ (pl [some .non, some (oT other), some (.int k), o3, o4, o5, some (.int l), some (.int h), o8']) μ = some (.nx (pl [some .non, some (oT other), some (.int k), o3, some (fD (fr l k)), o5, some (.int l), some (.int h), o8']) μ)
      generalize oT other = Y at *
      walk_at "go"
      simp [isNon, f2, andThen_some', pl_set]
    | some x =>
      show exec F W _ (pl [some x.D, some (oT other), some (.int k), o3, o4, o5, some (.int l), some (.int h), o8']) μ = some (.nx (pl [some x.D, some (oT other), some (.int k), o3, some (fD (fr h k)), o5, some (.int l), some (.int h), o8']) μ)
      have nx : isNon x.D = false := rfl
      generalize x.D = X at *
      generalize oT other = Y at *
      walk_at "go"
      simp [nx, f1, andThen_some', pl_set]
  have qf : Fq 405 (pk one (fr h k) (fr l k)) := by
    cases one with
    | none => exact (fr_fq sl (hk.mono (by decide)) (by omega)).mono (by decide)
    | some x => exact (fr_fq sh (hk.mono (by decide)) (by omega)).mono (by decide)
  refine ⟨l, h, i1, ⟨b1, b2, lt⟩, _, rfl, qf, ?_⟩
  generalize (pk one (fr h k) (fr l k)) = f at *
  have g := gd_ev K one other qf (o2 := some (.int k)) (o3 := o3) (o5 := o5) (o6 := some (.int l)) (o7 := some (.int h)) (o8 := o8') μ
  have st4 : exec F W (.asg 5 (eG cb cp)) (pl [some (oT one), some (oT other), some (.int k), o3, some (fD f), o5, some (.int l), some (.int h), o8']) μ = some (.nx (pl [some (oT one), some (oT other), some (.int k), o3, some (fD f), some (.bl (gd one other f)), some (.int l), some (.int h), o8']) μ) := asg_pl g
  split
  · rename_i z
    rw [z] at st4
    exact seq_nx st1 (seq_nx (whl_of c1) (seq_nx st3 (seq_nx st4 (seq_rt (ifs_t (μ1 := μ) rfl (seq_rt (ret_of (lk_pl _ _) rfl)))))))
  · rename_i z
    have z' : gd one other f = false := by simpa using z
    rw [z'] at st4
    refine ⟨_, _, _, _, _, seq_nx st1 (seq_nx (whl_of c1) (seq_nx st3 (seq_nx st4 (seq_nx (ifs_f (μ1 := μ) rfl rfl) (seq_nx (ρ1 := pl [some (oT one), some (oT other), some (.int (2 * k)), o3, some (fD f), some (.bl false), some (.int l), some (.int h), o8']) (μ1 := μ) ?_ rfl)))))⟩
    generalize oT one = X at *
    generalize oT other = Y at *
    walk_at "go"
    simp [e5, andThen_some', wthD_some', pl_set]
end
end FM

set_option Elab.async false
set_option linter.all false
set_option maxRecDepth 100000
set_option maxHeartbeats 4000000
/-! N15: fractions between times: the whole. -/
namespace FM
open PySem (Str sizeLine)
open L2 (atI ixN Key)
open PySem.Spec PyProof.Rows
local macro_rules | `(tactic| walk_at "go") => `(tactic| simp [FM.execs, FM.exec, FM.ev, FM.evs, FM.evo, FM.evc, FM.evi, FM.Sl.d, FM.isiD, FM.cmpD, FM.negD, FM.bindT, FM.andThen_some', FM.onBl_bl, FM.wthD_some', FM.eqD_int, FM.ix_tup, FM.ix_lst, FM.atI_0, FM.atI_1, FM.atI_2, FM.op_add, FM.op_sub, FM.op_subBl, FM.biD_abs, FM.szle, FM.pl_get, FM.pl_set, FM.isOw_pl, FM.noOw_pl, FM.lk_pl, FM.lks_pl, FM.itlk_pl, FM.setAll_pl, FM.setAllD])
section
variable {F : Fs} {cb cp cf : Nat} (K : BtF F cb cp cf) (one other : Option T8) (hs : one ≠ none ∨ other ≠ none)
include K hs
theorem bt_loop (μ : Cells) (I : Int → Int → Int → Prop) (hI : ∀ k l h m : Int, 0 < k → I k l h → (cnd one other m k = true → I k m h) ∧ (cnd one other m k = false → I k l m)) (i0 : ∀ k : Int, 0 < k → I k (-4 * k * k - 4) (4 * k * k + 4)) :
    ∀ (ys : List D) (q : Nat) (o3 o4 o5 o6 o7 o8 : Option D), ys = (rngD 0 200).drop q → q ≤ 200 →
      (∃ f, forF (.nm 3) (fun ρ' μ' => execs F W (bTn cb cp cf) ρ' μ') ys (pl [some (oT one), some (oT other), some (.int (2 ^ q)), o3, o4, o5, o6, o7, o8]) μ = some (.rt (fD f) μ) ∧ Fq 405 f ∧ gd one other f = true ∧ ∃ (q' : Nat) (m : Int), f = fr m (2 ^ q') ∧ (m.natAbs : Int) ≤ 4 * 2 ^ q' * 2 ^ q' + 4 ∧ ((∀ l h, I 4 l h → gd one other (pk one (fr h 4) (fr l 4)) = true) → q' ≤ 2 ∨ 2 < q)) ∨
      ∃ ρ', forF (.nm 3) (fun ρ' μ' => execs F W (bTn cb cp cf) ρ' μ') ys (pl [some (oT one), some (oT other), some (.int (2 ^ q)), o3, o4, o5, o6, o7, o8]) μ = some (.nx ρ' μ) ∧ ((∀ l h, I 4 l h → gd one other (pk one (fr h 4) (fr l 4)) = true) → 2 < q) := by
  intro ys
  induction ys with
  | nil =>
    intro q o3 o4 o5 o6 o7 o8 h hq
    refine .inr ⟨_, rfl, fun _ => ?_⟩
    have := congrArg List.length h
    rw [List.length_drop, rng_len] at this
    simp at this
    omega
  | cons y ys ih =>
    intro q o3 o4 o5 o6 o7 o8 h hq
    obtain ⟨q1, q2, q3⟩ := rng_drop h
    rw [Int.zero_add] at q2
    subst q2 q3
    have k0 : (0 : Int) < 2 ^ q := Int.pow_pos (by decide)
    have hk : Sm 200 ((2 : Int) ^ q) := by
      unfold Sm
      rw [Int.natAbs_pow]
      exact Nat.pow_lt_pow_right (by decide) q1
    obtain ⟨l, h', i1, ib, f, f1, f2, st⟩ := turn_bt K one other hs hk k0 (o3 := some (.int q)) (o4 := o4) (o5 := o5) (o6 := o6) (o7 := o7) (o8 := o8) μ (I (2 ^ q)) (fun l h m i => hI _ l h m k0 i) (i0 _ k0)
    by_cases g : gd one other f = true
    · rw [if_pos g] at st
      have mm : ∃ m : Int, f = fr m (2 ^ q) ∧ (m.natAbs : Int) ≤ 4 * 2 ^ q * 2 ^ q + 4 := by
        cases one with
        | none => exact ⟨l, f1, by omega⟩
        | some x => exact ⟨h', f1, by omega⟩
      obtain ⟨m, m1, m2⟩ := mm
      refine .inl ⟨f, ?_, f2, g, q, m, m1, m2, fun _ => by omega⟩
      unfold forF
      show (match execs F W (bTn cb cp cf) (pl [some (oT one), some (oT other), some (.int (2 ^ q)), some (.int q), o4, o5, o6, o7, o8]) μ with | none => none | some (.nx ρ2 μ2) => _ | some (.ct ρ2 μ2) => _ | some (.bk ρ2 μ2) => _ | some (.rt d μ2) => _) = _
      rw [st]
    · rw [if_neg g] at st
      obtain ⟨p4, p5, p6, p7, p8, st⟩ := st
      have e2 : (2 : Int) * 2 ^ q = 2 ^ (q + 1) := by rw [Int.pow_succ, Int.mul_comm]
      rw [e2] at st
      have step : forF (.nm 3) (fun ρ' μ' => execs F W (bTn cb cp cf) ρ' μ') (.int q :: (rngD 0 200).drop (q + 1)) (pl [some (oT one), some (oT other), some (.int (2 ^ q)), o3, o4, o5, o6, o7, o8]) μ = forF (.nm 3) (fun ρ' μ' => execs F W (bTn cb cp cf) ρ' μ') ((rngD 0 200).drop (q + 1)) (pl [some (oT one), some (oT other), some (.int (2 ^ (q + 1))), some (.int q), p4, p5, p6, p7, p8]) μ := by
        conv => lhs; unfold forF
        show (match execs F W (bTn cb cp cf) (pl [some (oT one), some (oT other), some (.int (2 ^ q)), some (.int q), o4, o5, o6, o7, o8]) μ with | none => none | some (.nx ρ2 μ2) => _ | some (.ct ρ2 μ2) => _ | some (.bk ρ2 μ2) => _ | some (.rt d μ2) => _) = _
        rw [st]
      rw [step]
      rcases ih (q + 1) (some (.int q)) p4 p5 p6 p7 p8 rfl (by omega) with ⟨f', g1, g2, g3, q', m, g4, g5, g6⟩ | ⟨ρ', e1, e3⟩
      · refine .inl ⟨f', g1, g2, g3, q', m, g4, g5, fun hg => ?_⟩
        rcases g6 hg with z | z
        · exact .inl z
        · rcases Nat.lt_or_ge 2 q with z2 | z2
          · exact .inr z2
          · have e : q = 2 := by omega
            subst e
            have i1' : I 4 l h' := i1
            have gg := hg l h' i1'
            have f1' : f = pk one (fr h' 4) (fr l 4) := f1
            rw [← f1'] at gg
            exact absurd gg g
      · refine .inr ⟨ρ', e1, fun hg => ?_⟩
        have := e3 hg
        rcases Nat.lt_or_ge 2 q with z | z
        · exact z
        · have e : q = 2 := by omega
          subst e
          have i1' : I 4 l h' := i1
          have g2 := hg l h' i1'
          have f1' : f = pk one (fr h' 4) (fr l 4) := f1
          rw [← f1'] at g2
          exact absurd g2 g
theorem between_ok (μ : Cells) (I : Int → Int → Int → Prop) (hI : ∀ k l h m : Int, 0 < k → I k l h → (cnd one other m k = true → I k m h) ∧ (cnd one other m k = false → I k l m)) (i0 : ∀ k : Int, 0 < k → I k (-4 * k * k - 4) (4 * k * k + 4)) :
    ∃ res : Option (Int × Int), runFn F W ⟨2, 9, B__law_between cb cp cf⟩ [oT one, oT other] μ = some (frR res, μ) ∧ (∀ f, res = some f → Fq 405 f ∧ gd one other f = true) ∧ ((∀ l h, I 4 l h → gd one other (pk one (fr h 4) (fr l 4)) = true) → ∃ (q : Nat) (m : Int), q ≤ 2 ∧ res = some (fr m (2 ^ q)) ∧ (m.natAbs : Int) ≤ 4 * 2 ^ q * 2 ^ q + 4) := by
  have s1 : exec F W (.asg 2 (.int 1)) (pl [some (oT one), some (oT other), none, none, none, none, none, none, none]) μ = some (.nx (pl [some (oT one), some (oT other), some (.int (2 ^ 0)), none, none, none, none, none, none]) μ) := by
    walk_at "go"
  have s2 : exec F W (.ifs (.and (.cmp .Is (.var 0) .non) (.cmp .Is (.var 1) .non)) (.cons (.ret (.tup (.cons (.int 0) (.cons (.int 1) .nil)))) .nil) .nil) (pl [some (oT one), some (oT other), some (.int (2 ^ 0)), none, none, none, none, none, none]) μ = some (.nx (pl [some (oT one), some (oT other), some (.int (2 ^ 0)), none, none, none, none, none, none]) μ) := by
    refine ifs_f (μ1 := μ) ?_ rfl
    cases one with
    | some x => rfl
    | none =>
      cases other with
      | some y => rfl
      | none => simp at hs
  rcases bt_loop K one other hs μ I hI i0 (rngD 0 200) 0 none none none none none none rfl (by decide) with ⟨f, e1, e2, e3, q', m, m1, m2, m3⟩ | ⟨ρ', e1, e2⟩
  · refine ⟨some f, run_rt rfl (Nat.le_of_ble_eq_true rfl) (seq_nx s1 (seq_nx s2 (seq_rt (for_of (evi_rng (n := 200) rfl (by decide)) rfl e1)))), fun g hg => ?_, fun hg => ⟨q', m, by have := m3 hg; omega, by rw [m1], m2⟩⟩
    cases hg
    exact ⟨e2, e3⟩
  · refine ⟨none, run_rt rfl (Nat.le_of_ble_eq_true rfl) (seq_nx s1 (seq_nx s2 (seq_nx (for_of (evi_rng (n := 200) rfl (by decide)) rfl e1) (seq_rt (ret_of rfl rfl))))), fun g hg => (by cases hg), fun hg => ?_⟩
    have := e2 hg
    omega
end
end FM

set_option Elab.async false
set_option linter.all false
set_option maxRecDepth 100000
set_option maxHeartbeats 4000000
/-! N16: what is a time; same, within, least, sorted. -/
namespace FM
open PySem (Str sizeLine)
open L2 (atI ixN Key)
open PySem.Spec PyProof.Rows
local macro_rules | `(tactic| walk_at "go") => `(tactic| simp [FM.execs, FM.exec, FM.ev, FM.evs, FM.evo, FM.evc, FM.evi, FM.Sl.d, FM.isiD, FM.cmpD, FM.negD, FM.bindT, FM.andThen_some', FM.onBl_bl, FM.wthD_some', FM.eqD_int, FM.ix_tup, FM.ix_lst, FM.atI_0, FM.atI_1, FM.atI_2, FM.op_add, FM.op_sub, FM.op_subBl, FM.biD_abs, FM.szle, FM.pl_get, FM.pl_set, FM.isOw_pl, FM.noOw_pl, FM.lk_pl, FM.lks_pl, FM.itlk_pl, FM.setAll_pl, FM.setAllD])
section
variable {F : Fs} {μ : Cells}
theorem run_pl {fn : Fn} {ds : List D} {μ1 : Cells} {d : D} (h1 : ds.length = fn.ar) (h2 : fn.ar ≤ fn.sl) (h : execs F W fn.body (pl (ds.map some ++ List.replicate (fn.sl - fn.ar) none)) μ = some (.rt d μ1)) : runFn F W fn ds μ = some (d, μ1) := by
  refine run_rt h1 h2 ?_
  rw [start_pl]
  exact h
theorem eqD_nil : eqD (.tup []) (.tup []) = some true := rfl
theorem is_of_ok {cf co : Nat} {d : D} {b : Bool} (h : F cf [d] μ = some (.bl b, μ)) : runFn F W ⟨2, 3, B_is_of cf co⟩ [d, .tup []] μ = some (.bl b, μ) := by
  refine run_rt rfl (Nat.le_of_ble_eq_true rfl) (seq_rt (ifs_t (μ1 := μ) ?_ (seq_rt ?_)))
  · show ev F _ (pl [some d, some (.tup []), none]) μ = _
    exact cmp_of (x := .tup []) (y := .tup []) rfl rfl rfl
  · show exec F W _ (pl [some d, some (.tup []), none]) μ = _
    walk_at "go"
    simp [h, andThen_some']
theorem all3 {co : Nat} {d1 d2 d3 : D} {x1 x2 x3 : Bool} (h1 : F co [d1, .tup []] μ = some (.bl x1, μ)) (h2 : F co [d2, .tup []] μ = some (.bl x2, μ)) (h3 : F co [d3, .tup []] μ = some (.bl x3, μ)) :
    ev F (.bi .all (.cons (.lc (.call co (.cons (.var 2) (.cons (.var 1) .nil))) (.nm 2) (.seq (.var 0)) .none) .nil)) (pl [some (.tup [d1, d2, d3]), some (.tup []), none]) μ = some (.bl (x1 && x2 && x3), μ) := by
  have e : ∀ (d : D) (x : Bool), F co [d, .tup []] μ = some (.bl x, μ) → ev F (.call co (.cons (.var 2) (.cons (.var 1) .nil))) (pl [some (.tup [d1, d2, d3]), some (.tup []), some d]) μ = some (.bl x, μ) := fun d x h => by
    walk_at "go"
    exact h
  have lc : ev F (.lc (.call co (.cons (.var 2) (.cons (.var 1) .nil))) (.nm 2) (.seq (.var 0)) .none) (pl [some (.tup [d1, d2, d3]), some (.tup []), none]) μ = some (.lst [.bl x1, .bl x2, .bl x3], μ) := by
    refine ev_lc (xs := [d1, d2, d3]) (μ1 := μ) rfl (show (3 : Nat) ≤ 16777216 by decide) ?_
    have b : ∀ d : D, bindT (.nm 2) d (pl [some (.tup [d1, d2, d3]), some (.tup []), none]) = some (pl [some (.tup [d1, d2, d3]), some (.tup []), some d]) := fun d => rfl
    simp only [lcGo, b, evc, lk_pl, Bool.false_eq_true, if_false, e _ _ h1, e _ _ h2, e _ _ h3]
  unfold ev
  unfold evs
  rw [lc]
  show wthD (biD μ .all [.lst [.bl x1, .bl x2, .bl x3]]) μ = _
  simp [biD, asBls, wthD_some', Bool.and_assoc]
theorem is_time3_ok {co cs : Nat} {d1 d2 d3 : D} {x1 x2 x3 : Bool} {s : Int} (h1 : F co [d1, .tup []] μ = some (.bl x1, μ)) (h2 : F co [d2, .tup []] μ = some (.bl x2, μ)) (h3 : F co [d3, .tup []] μ = some (.bl x3, μ)) (hs : (x1 && x2 && x3) = true → F cs [d3, .tup []] μ = some (.int s, μ)) :
    runFn F W ⟨2, 3, B_is_time co cs⟩ [.tup [d1, d2, d3], .tup []] μ = some (.bl (x1 && x2 && x3 && decide (0 ≤ s)), μ) := by
  have a := all3 h1 h2 h3
  have c : ev F (.or (.not (.isi (.var 0) .tuple)) (.or (.cmp .NotEq (.bi .len (.cons (.var 0) .nil)) (.int 3)) (.not (.bi .all (.cons (.lc (.call co (.cons (.var 2) (.cons (.var 1) .nil))) (.nm 2) (.seq (.var 0)) .none) .nil))))) (pl [some (.tup [d1, d2, d3]), some (.tup []), none]) μ = some (.bl (!(x1 && x2 && x3)), μ) := by
    have n : ev F (.not (.bi .all (.cons (.lc (.call co (.cons (.var 2) (.cons (.var 1) .nil))) (.nm 2) (.seq (.var 0)) .none) .nil))) (pl [some (.tup [d1, d2, d3]), some (.tup []), none]) μ = some (.bl (!(x1 && x2 && x3)), μ) := by
      unfold ev
      rw [a]
      rfl
    have l : ev F (.cmp .NotEq (.bi .len (.cons (.var 0) .nil)) (.int 3)) (pl [some (.tup [d1, d2, d3]), some (.tup []), none]) μ = some (.bl false, μ) := by
      walk_at "go"
      simp [len_tup, eqD_int, wthD_some', andThen_some']
    have i : ev F (.not (.isi (.var 0) .tuple)) (pl [some (.tup [d1, d2, d3]), some (.tup []), none]) μ = some (.bl false, μ) := by
      walk_at "go"
    unfold ev
    rw [i, onBl_bl, if_neg (by decide)]
    unfold ev
    rw [l, onBl_bl, if_neg (by decide), n]
    rfl
  cases e : (x1 && x2 && x3) with
  | false =>
    rw [e] at c
    exact run_rt rfl (Nat.le_of_ble_eq_true rfl) (seq_rt (ifs_t c (seq_rt (ret_of rfl rfl))))
  | true =>
    rw [e] at c
    have g := hs e
    refine run_rt rfl (Nat.le_of_ble_eq_true rfl) (seq_nx (ifs_f c rfl) (seq_rt ?_))
    show exec F W _ (pl [some (.tup [d1, d2, d3]), some (.tup []), none]) μ = _
    walk_at "go"
    simp [g, andThen_some', wthD_some', cmpD]
theorem plain_time_ok {cn : Nat} {d z : D} {t : D} (h : F cn [t] μ = some (z, μ)) : runFn F W ⟨2, 2, B_plain_time cn⟩ [d, t] μ = some (.tup [d, z, z], μ) := by
  refine run_pl rfl (Nat.le_of_ble_eq_true rfl) (seq_rt ?_)
  walk_at "go"
  simp [h, andThen_some', szle]
theorem law_plain_ok {d : D} : runFn F W ⟨1, 1, B__law_plain⟩ [d] μ = some (.tup [d, fD (0, 1), fD (0, 1)], μ) := by
  refine run_pl rfl (Nat.le_of_ble_eq_true rfl) (seq_rt ?_)
  walk_at "go"
theorem sign_of_time_ok {cc cp cn : Nat} {x t z : D} {s : Int} (h1 : F cn [t] μ = some (z, μ)) (h2 : F cp [z, t] μ = some (.tup [z, z, z], μ)) (h3 : F cc [x, .tup [z, z, z], t] μ = some (.int s, μ)) : runFn F W ⟨2, 2, B_sign_of_time cc cp cn⟩ [x, t] μ = some (.int s, μ) := by
  refine run_pl rfl (Nat.le_of_ble_eq_true rfl) (seq_rt ?_)
  walk_at "go"
  simp [h1, h2, h3, andThen_some']
theorem is_same_ok {cc : Nat} {x y t : D} {s : Int} (h : F cc [x, y, t] μ = some (.int s, μ)) : runFn F W ⟨3, 3, B_is_same_time cc⟩ [x, y, t] μ = some (.bl (decide (s = 0)), μ) := by
  refine run_pl rfl (Nat.le_of_ble_eq_true rfl) (seq_rt ?_)
  walk_at "go"
  simp [h, andThen_some', wthD_some', eqD_int]
/-- within, of ends that may be none -/
def loB : Option Int → Bool
  | none => true
  | some s => decide (s < 0)
def wiB (lo hi : Option Int) : Bool := loB lo && loB hi
theorem is_within_ok {cc : Nat} {x t : D} {one other : D} {lo hi : Option Int} (h1 : match lo with | none => one = .non | some s => isNon one = false ∧ F cc [one, x, t] μ = some (.int s, μ)) (h2 : match hi with | none => other = .non | some s => isNon other = false ∧ F cc [x, other, t] μ = some (.int s, μ)) :
    runFn F W ⟨4, 4, B_is_within cc⟩ [x, one, other, t] μ = some (.bl (wiB lo hi), μ) := by
  have tail : ev F (.or (.cmp .Is (.var 2) .non) (.cmp .Lt (.call cc (.cons (.var 0) (.cons (.var 2) (.cons (.var 3) .nil)))) (.int 0))) (pl [some x, some one, some other, some t]) μ = some (.bl (loB hi), μ) := by
    cases hi with
    | none =>
      simp only at h2
      subst h2
      walk_at "go"
      simp [isNon]
      rfl
    | some s =>
      obtain ⟨n, h⟩ := h2
      walk_at "go"
      simp [n, h, andThen_some', wthD_some', cmpD, onBl_bl]
      rfl
  cases lo with
  | none =>
    simp only at h1
    subst h1
    refine run_rt rfl (Nat.le_of_ble_eq_true rfl) (seq_nx (ifs_f (μ1 := μ) ?_ rfl) (seq_rt (ret_of (lk_pl [some x, some .non, some other, some t] _) ?_)))
    · exact and_ff (isnot_of (x := .non) (μ1 := μ) rfl)
    · show ev F _ _ μ = some (.bl (true && loB hi), μ)
      rw [Bool.true_and]
      exact tail
  | some s =>
    obtain ⟨n, h⟩ := h1
    have c : ev F (.and (.cmp .IsNot (.var 1) .non) (.cmp .GtE (.call cc (.cons (.var 1) (.cons (.var 0) (.cons (.var 3) .nil)))) (.int 0))) (pl [some x, some one, some other, some t]) μ = some (.bl (decide (0 ≤ s)), μ) := by
      refine and_tt (μ1 := μ) ?_ ?_
      · have := isnot_of (F := F) (a := .var 1) (ρ := pl [some x, some one, some other, some t]) (μ := μ) (x := one) (μ1 := μ) rfl
        rwa [n] at this
      · walk_at "go"
        simp [h, andThen_some', wthD_some', cmpD]
    by_cases z : 0 ≤ s
    · rw [decide_eq_true z] at c
      have e : wiB (some s) hi = false := by
        show (decide (s < 0) && loB hi) = false
        rw [decide_eq_false (by omega)]
        rfl
      rw [e]
      exact run_rt rfl (Nat.le_of_ble_eq_true rfl) (seq_rt (ifs_t c (seq_rt (ret_of rfl rfl))))
    · rw [decide_eq_false z] at c
      have e : wiB (some s) hi = loB hi := by
        show (decide (s < 0) && loB hi) = loB hi
        rw [decide_eq_true (show s < 0 by omega), Bool.true_and]
      rw [e]
      exact run_rt rfl (Nat.le_of_ble_eq_true rfl) (seq_nx (ifs_f c rfl) (seq_rt (ret_of (lk_pl [some x, some one, some other, some t] _) tail)))
end
end FM

set_option Elab.async false
set_option linter.all false
set_option maxRecDepth 100000
set_option maxHeartbeats 4000000
/-! N17: times sorted, the least. -/
namespace FM
open PySem (Str sizeLine)
open L2 (atI ixN Key)
open PySem.Spec PyProof.Rows
local macro_rules | `(tactic| walk_at "go") => `(tactic| simp [FM.execs, FM.exec, FM.ev, FM.evs, FM.evo, FM.evc, FM.evi, FM.Sl.d, FM.isiD, FM.cmpD, FM.negD, FM.bindT, FM.andThen_some', FM.onBl_bl, FM.wthD_some', FM.eqD_int, FM.ix_tup, FM.ix_lst, FM.atI_0, FM.atI_1, FM.atI_2, FM.op_add, FM.op_sub, FM.op_subBl, FM.biD_abs, FM.szle, FM.lk, FM.lks, FM.It.lk, FM.isOw, FM.noOw, FM.Sl.isOw, FM.setAll])
/-- put in where it belongs, if none is the same -/
def insS {α : Type} (c : α → α → Int) (x : α) : List α → List α
  | [] => [x]
  | y :: ys => if c y x < 0 then y :: insS c x ys else if c y x = 0 then y :: ys else x :: y :: ys
abbrev srE (T tw : D) (ds : List D) (x a : Option D) : Env := [some (.pl T), some (.pl tw), some (.ow ds), x.map .pl, a.map .pl]
section
variable {F : Fs} {cc : Nat} (c : D → D → Int) {T tw : D} {μ : Cells}
def srW (cc : Nat) : E := (.and (.cmp .Lt (.var 4) (.bi .len (.cons (.var 2) .nil))) (.cmp .Lt (.call cc (.cons (.ix (.var 2) (.var 4)) (.cons (.var 3) (.cons (.var 1) .nil)))) (.int 0)))
def srI (cc : Nat) : S := .ifs (.or (.cmp .Eq (.var 4) (.bi .len (.cons (.var 2) .nil))) (.cmp .NotEq (.call cc (.cons (.ix (.var 2) (.var 4)) (.cons (.var 3) (.cons (.var 1) .nil)))) (.int 0))) (.cons (.ins 2 (.var 4) (.var 3)) .nil) .nil
theorem ix_mid (pre : List D) (y : D) (rest : List D) : atI (pre ++ y :: rest) (pre.length : Int) = some y := atI_app pre y rest rfl
theorem wh_step {x y : D} {pre rest : List D} (h : F cc [y, x, tw] μ = some (.int (c y x), μ)) : onBl (ev F (srW cc) (srE T tw (pre ++ y :: rest) (some x) (some (.int pre.length))) μ) (fun x μ1 => some (x, μ1)) = some (decide (c y x < 0), μ) := by
  have i := ix_mid pre y rest
  have l : ((pre.length : Nat) : Int) < ((pre ++ y :: rest).length : Nat) := by rw [List.length_append, List.length_cons]; omega
  unfold srW
  generalize hL : pre ++ y :: rest = ds at *
  walk_at "go"
  simp [len_lst, i, h, l, andThen_some', wthD_some', onBl_bl, cmpD]
theorem wh_end {x : D} {pre : List D} : onBl (ev F (srW cc) (srE T tw pre (some x) (some (.int pre.length))) μ) (fun x μ1 => some (x, μ1)) = some (false, μ) := by
  unfold srW
  walk_at "go"
  simp [len_lst, andThen_some', wthD_some', onBl_bl, cmpD]
theorem wh_loop {x : D} : ∀ (n : Nat) (rest pre : List D), (∀ y ∈ rest, F cc [y, x, tw] μ = some (.int (c y x), μ)) → rest.length < n →
    ∃ p2 r2 : List D, p2 ++ r2 = pre ++ rest ∧ pre ++ insS c x rest = p2 ++ insS c x r2 ∧ (∀ y ys, r2 = y :: ys → ¬ c y x < 0 ∧ y ∈ rest) ∧ whileF (fun ρ' μ' => onBl (ev F (srW cc) ρ' μ') fun x μ1 => some (x, μ1)) (fun ρ' μ' => execs F W (.cons (.aug 4 .Add (.int 1)) .nil) ρ' μ') n (srE T tw (pre ++ rest) (some x) (some (.int pre.length))) μ = some (.nx (srE T tw (pre ++ rest) (some x) (some (.int p2.length))) μ)
  | 0, rest, pre, _, h => by omega
  | n + 1, [], pre, _, _ => by
    rw [List.append_nil]
    exact ⟨pre, [], by rw [List.append_nil], rfl, fun y ys e => (by cases e), whileF_no wh_end⟩
  | n + 1, y :: rest, pre, hy, h => by
    have c1 := wh_step (T := T) (pre := pre) (rest := rest) c (hy y (List.mem_cons_self ..))
    by_cases z : c y x < 0
    · rw [decide_eq_true z] at c1
      have b : execs F W (.cons (.aug 4 .Add (.int 1)) .nil) (srE T tw (pre ++ y :: rest) (some x) (some (.int pre.length))) μ = some (.nx (srE T tw (pre ++ y :: rest) (some x) (some (.int (pre ++ [y]).length))) μ) := by
        walk_at "go"
      obtain ⟨p2, r2, e1, e2, e3, e4⟩ := wh_loop n rest (pre ++ [y]) (fun z hz => hy z (List.mem_cons_of_mem _ hz)) (by rw [List.length_cons] at h; omega)
      have e0 : pre ++ [y] ++ rest = pre ++ y :: rest := by simp
      refine ⟨p2, r2, by rw [e1, e0], ?_, fun w ws hw => ⟨(e3 w ws hw).1, List.mem_cons_of_mem _ (e3 w ws hw).2⟩, ?_⟩
      · rw [← e2]
        have : insS c x (y :: rest) = y :: insS c x rest := if_pos z
        rw [this]
        simp
      · rw [whileF_nx c1 b]
        rw [e0] at e4
        exact e4
    · rw [decide_eq_false z] at c1
      exact ⟨pre, y :: rest, rfl, rfl, fun w ws hw => by cases hw; exact ⟨z, List.mem_cons_self ..⟩, whileF_no c1⟩
theorem ins_step {x : D} (p2 r2 : List D) (hl : (p2 ++ r2).length < 1000) (hy : ∀ y ∈ r2, F cc [y, x, tw] μ = some (.int (c y x), μ)) (hn : ∀ y ys, r2 = y :: ys → ¬ c y x < 0) : exec F W (srI cc) (srE T tw (p2 ++ r2) (some x) (some (.int p2.length))) μ = some (.nx (srE T tw (p2 ++ insS c x r2) (some x) (some (.int p2.length))) μ) := by
  have put : exec F W (.ins 2 (.var 4) (.var 3)) (srE T tw (p2 ++ r2) (some x) (some (.int p2.length))) μ = some (.nx (srE T tw (p2 ++ x :: r2) (some x) (some (.int p2.length))) μ) := by
    have s : (p2 ++ r2).length < sizeLine := sz_lt (by omega)
    have e : insAt (p2 ++ r2) p2.length x = p2 ++ x :: r2 := by
      unfold insAt
      simp
    have s' : p2.length + r2.length < sizeLine := by rw [← List.length_append]; exact s
    walk_at "go"
    simp [s', e]
    rw [List.length_append] at hl
    omega
  unfold srI
  cases r2 with
  | nil =>
    rw [List.append_nil] at put ⊢
    refine ifs_t (μ1 := μ) ?_ (seq_nx put rfl)
    walk_at "go"
    simp [len_lst, andThen_some', wthD_some', onBl_bl, eqD_int]
  | cons y ys =>
    have h := hy y (List.mem_cons_self ..)
    have i := ix_mid p2 y ys
    have z := hn y ys rfl
    have ne : ¬ ((p2.length : Nat) : Int) = ((p2 ++ y :: ys).length : Nat) := by rw [List.length_append, List.length_cons]; omega
    have cnd : ev F (.or (.cmp .Eq (.var 4) (.bi .len (.cons (.var 2) .nil))) (.cmp .NotEq (.call cc (.cons (.ix (.var 2) (.var 4)) (.cons (.var 3) (.cons (.var 1) .nil)))) (.int 0))) (srE T tw (p2 ++ y :: ys) (some x) (some (.int p2.length))) μ = some (.bl (!decide (c y x = 0)), μ) := by
      generalize p2 ++ y :: ys = ds at *
      walk_at "go"
      simp [len_lst, i, h, ne, andThen_some', wthD_some', onBl_bl, eqD_int]
    by_cases e : c y x = 0
    · rw [decide_eq_true e] at cnd
      have : insS c x (y :: ys) = y :: ys := by
        show (if c y x < 0 then _ else if c y x = 0 then _ else _) = _
        rw [if_neg z, if_pos e]
      rw [this]
      exact ifs_f cnd rfl
    · rw [decide_eq_false e] at cnd
      have : insS c x (y :: ys) = x :: y :: ys := by
        show (if c y x < 0 then _ else if c y x = 0 then _ else _) = _
        rw [if_neg z, if_neg e]
      rw [this]
      exact ifs_t cnd (seq_nx put rfl)
theorem insS_mem {x : D} : ∀ (l : List D) (y : D), y ∈ insS c x l → y = x ∨ y ∈ l
  | [], y, h => .inl (by simpa [insS] using h)
  | z :: zs, y, h => by
    unfold insS at h
    split at h
    · rcases List.mem_cons.mp h with rfl | h
      · exact .inr (List.mem_cons_self ..)
      · rcases insS_mem zs y h with h | h
        · exact .inl h
        · exact .inr (List.mem_cons_of_mem _ h)
    · split at h
      · exact .inr h
      · rcases List.mem_cons.mp h with rfl | h
        · exact .inl rfl
        · exact .inr h
theorem insS_len {x : D} : ∀ (l : List D), (insS c x l).length ≤ l.length + 1
  | [] => Nat.le_refl _
  | z :: zs => by
    unfold insS
    have := insS_len (x := x) zs
    split
    · rw [List.length_cons, List.length_cons]; omega
    · split <;> simp
/-- times sorted -/
theorem sorted_ok (xs : List D) (hx : xs.length ≤ 500) (hc : ∀ y ∈ xs, ∀ x ∈ xs, F cc [y, x, tw] μ = some (.int (c y x), μ)) : runFn F W ⟨2, 5, B_sorted_times cc⟩ [.tup xs, tw] μ = some (.tup (xs.foldl (fun l x => insS c x l) []), μ) := by
  have loop : ∀ (ys l : List D) (o3 o4 : Option D), (∀ y ∈ ys, y ∈ xs) → (∀ y ∈ l, y ∈ xs) → l.length + ys.length ≤ 500 → ∃ o3' o4', forF (.nm 3) (fun ρ' μ' => execs F W (.cons (.asg 4 (.int 0)) (.cons (.whl (srW cc) (.cons (.aug 4 .Add (.int 1)) .nil)) (.cons (srI cc) .nil))) ρ' μ') ys (srE (.tup xs) tw l o3 o4) μ = some (.nx (srE (.tup xs) tw (ys.foldl (fun l x => insS c x l) l) o3' o4') μ) := by
    intro ys
    induction ys with
    | nil => exact fun l o3 o4 _ _ _ => ⟨o3, o4, rfl⟩
    | cons x ys ih =>
      intro l o3 o4 h1 h2 h3
      rw [List.length_cons] at h3
      have hxm := h1 x (List.mem_cons_self ..)
      have hW : l.length < W := Nat.lt_of_lt_of_le (show l.length < 2 ^ 10 by omega) (Nat.pow_le_pow_right (by decide) (by decide))
      obtain ⟨p2, r2, e1, e2, e3, e4⟩ := wh_loop c (T := .tup xs) (tw := tw) (μ := μ) (F := F) (cc := cc) (x := x) W l [] (fun y hy => hc y (h2 y hy) x hxm) hW
      have s1 : exec F W (.asg 4 (.int 0)) (srE (.tup xs) tw l (some x) o4) μ = some (.nx (srE (.tup xs) tw l (some x) (some (.int (([] : List D).length : Nat)))) μ) := by
        cases o4 <;> walk_at "go"
      have e1' : p2 ++ r2 = l := e1
      have e4' : exec F W (.whl (srW cc) (.cons (.aug 4 .Add (.int 1)) .nil)) (srE (.tup xs) tw l (some x) (some (.int (([] : List D).length : Nat)))) μ = some (.nx (srE (.tup xs) tw l (some x) (some (.int p2.length))) μ) := whl_of e4
      have e2' : insS c x l = p2 ++ insS c x r2 := e2
      have e5 := ins_step c (T := .tup xs) (tw := tw) (μ := μ) (F := F) (cc := cc) (x := x) p2 r2 (by rw [e1']; omega) (fun y hy => hc y (h2 y (by rw [← e1']; exact List.mem_append_right _ hy)) x hxm) (fun y ys h => (e3 y ys h).1)
      rw [e1', ← e2'] at e5
      have body : execs F W (.cons (.asg 4 (.int 0)) (.cons (.whl (srW cc) (.cons (.aug 4 .Add (.int 1)) .nil)) (.cons (srI cc) .nil))) (srE (.tup xs) tw l (some x) o4) μ = some (.nx (srE (.tup xs) tw (insS c x l) (some x) (some (.int p2.length))) μ) := seq_nx s1 (seq_nx e4' (seq_nx e5 rfl))
      obtain ⟨o3', o4', e6⟩ := ih (insS c x l) (some x) (some (.int p2.length)) (fun y hy => h1 y (List.mem_cons_of_mem _ hy)) (fun y hy => by
        rcases insS_mem c l y hy with rfl | hy
        · exact hxm
        · exact h2 y hy) (by have := insS_len c (x := x) l; omega)
      refine ⟨o3', o4', ?_⟩
      unfold forF
      show (match execs F W (.cons (.asg 4 (.int 0)) (.cons (.whl (srW cc) (.cons (.aug 4 .Add (.int 1)) .nil)) (.cons (srI cc) .nil))) (srE (.tup xs) tw l (some x) o4) μ with | none => none | some (.nx ρ2 μ2) => _ | some (.ct ρ2 μ2) => _ | some (.bk ρ2 μ2) => _ | some (.rt d μ2) => _) = _
      rw [body]
      exact e6
  obtain ⟨o3', o4', e⟩ := loop xs [] none none (fun _ h => h) (fun _ h => by cases h) (by simpa using hx)
  refine run_rt rfl (Nat.le_of_ble_eq_true rfl) (seq_nx (ρ1 := srE (.tup xs) tw [] none none) (μ1 := μ) rfl (seq_nx (for_of rfl rfl e) (seq_rt ?_)))
  generalize xs.foldl (fun l x => insS c x l) [] = R at *
  walk_at "go"
  simp [biD, wthD_some', andThen_some']
end
end FM

set_option Elab.async false
set_option linter.all false
set_option maxRecDepth 100000
set_option maxHeartbeats 4000000
/-! N18: numbers of times held against fractions; beside, midway; the least. -/
namespace FM
open PySem (Str sizeLine)
open L2 (atI ixN Key)
open PySem.Spec PyProof.Rows
open OF (sgn sgn_eq0 Hom rat)
local macro_rules | `(tactic| walk_at "go") => `(tactic| simp [FM.execs, FM.exec, FM.ev, FM.evs, FM.evo, FM.evc, FM.evi, FM.Sl.d, FM.isiD, FM.cmpD, FM.negD, FM.bindT, FM.andThen_some', FM.onBl_bl, FM.wthD_some', FM.eqD_int, FM.ix_tup, FM.ix_lst, FM.atI_0, FM.atI_1, FM.atI_2, FM.op_add, FM.op_sub, FM.op_subBl, FM.biD_abs, FM.szle, FM.pl_get, FM.pl_set, FM.isOw_pl, FM.noOw_pl, FM.lk_pl, FM.lks_pl, FM.itlk_pl, FM.setAll_pl, FM.setAllD])
structure Ids4 where
  against : Nat
  beside : Nat
  midway : Nat
structure TF4 (G : Nat → Fs) (i : Ids) (j : Ids2) (k : Ids3) (l : Ids4) : Prop where
  t : TF3 G i j k
  against : ∀ m ds μ, G (m + 1) l.against ds μ = runFn (G m) W ⟨2, 4, B__law_against i.sign i.sub j.number⟩ ds μ
  beside : ∀ m ds μ, G (m + 1) l.beside ds μ = runFn (G m) W ⟨3, 5, B_beside k.tnum i.add j.number⟩ ds μ
  midway : ∀ m ds μ, G (m + 1) l.midway ds μ = runFn (G m) W ⟨3, 8, B_midway k.tnum k.raised i.add j.lifted i.mul j.number⟩ ds μ
section
variable {G : Nat → Fs} {i : Ids} {j : Ids2} {k : Ids3} {l : Ids4} (T : TF4 G i j k l)
include T
theorem against_c {B er mr E M : Nat} (h0 : 0 < B) (hD : B < 2 ^ 8) {n : Nat} (hn : n ≤ 40) (t : Tw n) (ht : TwAll (Bd B er mr) t) (z : Nm n) (hz : AllL (Bd B E M) n z) (f : Int × Int) (hf : Bd B E M f) (h8 : M + 8 * E + 1 ≤ 1800) (hl : SL er mr n E (M + 1)) {m : Nat} (hm : 2 * n + 60 ≤ m) (μ : Cells) :
    ∃ s : Int, G (m + 1) l.against [.tup [tD t, nD n z], fD f] μ = some (.int s, μ) ∧ ∀ (L : Type) [Lean.Grind.Field L] [LE L] [LT L] [Std.LawfulOrderLT L] [Std.IsLinearOrder L] [Lean.Grind.OrderedRing L] (j : Rat → L) (ρ : Nat → L), Hom j → TwV j ρ t → s = sgn (val j ρ n z - j (rat f)) := by
  obtain ⟨m, rfl⟩ : ∃ m', m = m' + 2 := ⟨m - 2, by omega⟩
  have nf : AllL (Bd B E M) n (numN f n) := numN_all (bd01 _ _ _) hf n
  have fqn : ∀ {z : Nm n}, AllL (Bd B E M) n z → AllL (Fq 1800) n z := fun h => AllL.imp (fun _ g => (g.fq hD h0).mono h8) _ h
  have pd : ∀ {z : Nm n}, AllL (Bd B E M) n z → AllL Pd n z := fun h => AllL.imp (fun _ g => g.pd) _ h
  have c1 : G (m + 2) j.number [fD f, tD t] μ = some (nD n (numN f n), μ) := by
    rw [← liftQ]
    exact number_c T.t.t (by omega) (m := m + 1) (by omega) _ (twL t) (twL_len t) μ
  have c2 := sub_c T.t.t.t n (by omega) t (m + 1) (by omega) (fqn hz) (fqn nf) μ
  have c3 := sign_c T.t.t.t h0 hD n (by omega) t ht (m + 1) (by omega) (subN_bd h0 hz nf) hl μ
  refine ⟨signN t (subN n z (numN f n)), ?_, fun L _ _ _ _ _ _ j ρ hj hv => ?_⟩
  · rw [T.against]
    generalize nD n (subN n z (numN f n)) = X1 at *
    generalize nD n (numN f n) = X2 at *
    generalize nD n z = X3 at *
    refine run_pl rfl (Nat.le_of_ble_eq_true rfl) (seq_nx (ρ1 := pl [some (.tup [tD t, X3]), some (fD f), some (tD t), some X3]) (μ1 := μ) ?_ (seq_rt ?_))
    · walk_at "go"
    · walk_at "go"
      simp [c1, c2, c3, andThen_some']
  · rw [sign_val hj t hv (twAll_imp (fun _ g => g.pd) t ht) (subN_all (fun _ _ => pd_sub) n (pd hz) (pd nf)), val_sub hj n (pd hz) (pd nf), val_num hj]
theorem beside_c {B er mr : Nat} (h0 : 0 < B) (hD : B < 2 ^ 8) {n : Nat} (hn : n + 2 ≤ 40) (t : Tw n) (ht : TwAll (Bd B er mr) t) (a b u : Nm n) (ha : AllL (Bd B er mr) n a) (hb : AllL (Bd B er mr) n b) (hu : AllL (Bd B er mr) n u) (hl : SL er mr n er (mr + 1))
    (hm1 : (mr + mr + cc (n + 1) * (mr + 1)) + 8 * (er + er + cc (n + 1) * er) + 10 ≤ 1800) (st : Int) (hst : Bd B 0 (mr + mr + cc (n + 1) * (mr + 1) + 1) (st, 1)) {m : Nat} (hm : 2 * n + 60 ≤ m) (μ : Cells) :
    ∃ (n' : Nat) (t' : Tw n') (z : Nm n'), n ≤ n' ∧ n' ≤ n + 1 ∧ G (m + 1) l.beside [tmD a b u, .int st, tD t] μ = some (.tup [tD t', nD n' z], μ) ∧ TwAll (Bd B er mr) t' ∧ AllL (Bd B (er + er + cc (n + 1) * er) (mr + mr + cc (n + 1) * (mr + 1) + 2)) n' z ∧
    ∀ (L : Type) [Lean.Grind.Field L] [LE L] [LT L] [Std.LawfulOrderLT L] [Std.IsLinearOrder L] [Lean.Grind.OrderedRing L] (j : Rat → L) (ρ : Nat → L) (r : L), Hom j → TwV j ρ t → 0 ≤ r → r * r = val j ρ n u → (isN n u = false → 0 < val j ρ n u) →
      ∃ ρ' : Nat → L, (∀ k, k < n → ρ k = ρ' k) ∧ TwV j ρ' t' ∧ val j ρ' n' z = val j ρ n a + val j ρ n b * r + j (rat (st, 1)) := by
  obtain ⟨m, rfl⟩ : ∃ m', m = m' + 2 := ⟨m - 2, by omega⟩
  obtain ⟨res, p1, n', t', z, l1, l2, rfl, p2, p3, p4⟩ := tnum_c T.t h0 hD (by omega) t ht a b u ha hb hu hl hm1 (m := m + 1) (by omega) μ
  have nf : AllL (Bd B (er + er + cc (n + 1) * er) (mr + mr + cc (n + 1) * (mr + 1) + 1)) n' (numN (st, 1) n') := numN_all (bd01 _ _ _) (hst.mono (by omega) (by omega)) n'
  have fqn : ∀ {z : Nm n'}, AllL (Bd B (er + er + cc (n + 1) * er) (mr + mr + cc (n + 1) * (mr + 1) + 1)) n' z → AllL (Fq 1800) n' z := fun h => AllL.imp (fun _ g => (g.fq hD h0).mono (by omega)) _ h
  have pd : ∀ {z : Nm n'}, AllL (Bd B (er + er + cc (n + 1) * er) (mr + mr + cc (n + 1) * (mr + 1) + 1)) n' z → AllL Pd n' z := fun h => AllL.imp (fun _ g => g.pd) _ h
  have c1 : G (m + 2) j.number [fD (st, 1), tD t'] μ = some (nD n' (numN (st, 1) n'), μ) := by
    rw [← liftQ]
    exact number_c T.t.t (by omega) (m := m + 1) (by omega) _ (twL t') (twL_len t') μ
  have c2 := add_c T.t.t.t n' (by omega) t' (m + 1) (by omega) (fqn p3) (fqn nf) μ
  refine ⟨n', t', addN n' z (numN (st, 1) n'), l1, l2, ?_, p2, addN_bd h0 p3 nf, fun L _ _ _ _ _ _ j ρ r hj hv r0 rr up => ?_⟩
  · rw [T.beside]
    generalize tmD a b u = X0 at *
    generalize nD n' (addN n' z (numN (st, 1) n')) = X1 at *
    generalize nD n' (numN (st, 1) n') = X2 at *
    generalize nD n' z = X3 at *
    refine run_pl rfl (Nat.le_of_ble_eq_true rfl) (seq_nx (ρ1 := pl [some X0, some (.int st), some (tD t), some (tD t'), some X3]) (μ1 := μ) ?_ (seq_rt ?_))
    · walk_at "go"
      simp [p1, andThen_some', wthD_some', setAll_pl, setAllD]
    · walk_at "go"
      simp [c1, c2, andThen_some', szle]
  · obtain ⟨ρ', g1, g2, g3⟩ := p4 L j ρ r hj hv r0 rr up
    exact ⟨ρ', g1, g2, by rw [val_add hj n' (pd p3) (pd nf), val_num hj, g3]⟩
theorem midway_c {B er mr : Nat} (h0 : 0 < B) (hB2 : (2 : Int) ∣ B) (hD : B < 2 ^ 8) {n : Nat} (hn : n + 4 ≤ 40) (t : Tw n) (ht : TwAll (Bd B er mr) t) (a b u a' b' u' : Nm n) (ha : AllL (Bd B er mr) n a) (hb : AllL (Bd B er mr) n b) (hu : AllL (Bd B er mr) n u) (ha' : AllL (Bd B er mr) n a') (hb' : AllL (Bd B er mr) n b') (hu' : AllL (Bd B er mr) n u')
    (hl : Lim er mr n) (h9 : (mr + mr + cc (n + 2) * (mr + 1) + 3 + cc (n + 2) * (mr + 1)) + 8 * (er + er + cc (n + 2) * er + 1 + cc (n + 2) * er) + 10 ≤ 1800) {m : Nat} (hm : 2 * n + 60 ≤ m) (μ : Cells) :
    ∃ (n' : Nat) (t' : Tw n') (z : Nm n'), n ≤ n' ∧ n' ≤ n + 2 ∧ G (m + 1) l.midway [tmD a b u, tmD a' b' u', tD t] μ = some (.tup [tD t', nD n' z], μ) ∧ TwAll (Bd B er mr) t' ∧ AllL (Bd B (er + er + cc (n + 2) * er + 1 + cc (n + 2) * er) (mr + mr + cc (n + 2) * (mr + 1) + 3 + cc (n + 2) * (mr + 1))) n' z ∧
    ∀ (L : Type) [Lean.Grind.Field L] [LE L] [LT L] [Std.LawfulOrderLT L] [Std.IsLinearOrder L] [Lean.Grind.OrderedRing L] (j : Rat → L) (ρ : Nat → L) (r r' : L), Hom j → TwV j ρ t → 0 ≤ r → r * r = val j ρ n u → (isN n u = false → 0 < val j ρ n u) →
      0 ≤ r' → r' * r' = val j ρ n u' → (isN n u' = false → 0 < val j ρ n u') →
      ∃ ρ' : Nat → L, (∀ k, k < n → ρ k = ρ' k) ∧ TwV j ρ' t' ∧ val j ρ' n' z * (1 + 1) = (val j ρ n a + val j ρ n b * r) + (val j ρ n a' + val j ρ n b' * r') := by
  obtain ⟨m, rfl⟩ : ∃ m', m = m' + 2 := ⟨m - 2, by omega⟩
  have k1 : cc (n + 1) ≤ cc (n + 2) := cc_mono (by omega)
  have m1 : cc (n + 1) * er ≤ cc (n + 2) * er := Nat.mul_le_mul_right _ k1
  have m2 : cc (n + 1) * (mr + 1) ≤ cc (n + 2) * (mr + 1) := Nat.mul_le_mul_right _ k1
  have lc := hl.c
  obtain ⟨res, p1, n1, t1, z1, l1, l2, rfl, p2, p3, p4⟩ := tnum_c T.t h0 hD (by omega) t ht a b u ha hb hu (SL.down hl.a) (by omega) (m := m + 1) (by omega) μ
  obtain ⟨av, a1, a2, a3, a4⟩ := lift_ex l1 a'
  obtain ⟨bv, b1, b2, b3, b4⟩ := lift_ex l1 b'
  obtain ⟨uv, u1, u2, u3, u4⟩ := lift_ex l1 u'
  have rz : G (m + 2) k.raised [tmD a' b' u', tD t, tD t1] μ = some (tmD av bv uv, μ) := by
    have h := raised_c T.t l1 (by omega) (twL t) (twL t1) (twL_len t) (twL_len t1) (m := m + 1) (by omega) (nD n a') (nD n b') (nD n u') μ
    rw [a1, b1, u1] at h
    exact h
  have k2 : cc (n1 + 1) ≤ cc (n + 2) := cc_mono (by omega)
  have m3 : cc (n1 + 1) * er ≤ cc (n + 2) * er := Nat.mul_le_mul_right _ k2
  have m4 : cc (n1 + 1) * (mr + 1) ≤ cc (n + 2) * (mr + 1) := Nat.mul_le_mul_right _ k2
  obtain ⟨res2, s1, n2, t2, z2, l3, l4, rfl, s2, s3, s4⟩ := tnum_c T.t h0 hD (by omega) t1 p2 av bv uv (a2 _ (bd01 _ _ _) ha') (b2 _ (bd01 _ _ _) hb') (u2 _ (bd01 _ _ _) hu') (SL.downs (by omega) hl.a) (by omega) (m := m + 1) (by omega) μ
  have k3 : cc n2 ≤ cc (n + 2) := cc_mono (by omega)
  have m5 : cc n2 * er ≤ cc (n + 2) * er := Nat.mul_le_mul_right _ k3
  have m6 : cc n2 * (mr + 1) ≤ cc (n + 2) * (mr + 1) := Nat.mul_le_mul_right _ k3
  obtain ⟨y, y1, y2, y3, y4⟩ := lift_ex l3 z1
  have by1 := AllL.up (y2 _ (bd01 _ _ _) p3) (e' := er + er + cc (n + 2) * er) (m' := mr + mr + cc (n + 2) * (mr + 1) + 1) (by omega) (by omega)
  have bz2 := AllL.up s3 (e' := er + er + cc (n + 2) * er) (m' := mr + mr + cc (n + 2) * (mr + 1) + 1) (by omega) (by omega)
  have ly : G (m + 2) j.lifted [nD n1 z1, tD t1, tD t2] μ = some (nD n2 y, μ) := by
    rw [← y1]
    exact lifted_c T.t.t (n := n1) (c := n2 - n1) (by omega) (m := m + 1) (by omega) _ (twL t1) (twL t2) (twL_len t1) (by rw [twL_len]; omega) μ
  have fqn : ∀ {z : Nm n2}, AllL (Bd B (er + er + cc (n + 2) * er) (mr + mr + cc (n + 2) * (mr + 1) + 1)) n2 z → AllL (Fq 1800) n2 z := fun h => AllL.imp (fun _ g => (g.fq hD h0).mono (by omega)) _ h
  have pd : ∀ {e m : Nat} {z : Nm n2}, AllL (Bd B e m) n2 z → AllL Pd n2 z := fun h => AllL.imp (fun _ g => g.pd) _ h
  have bs := addN_bd h0 by1 bz2
  have hf : Bd B 1 0 (1, 2) := ⟨by decide, by decide, by rw [Nat.pow_one]; exact hB2, by decide⟩
  have bh : AllL (Bd B 1 0) n2 (numN (1, 2) n2) := numN_all (bd01 _ _ _) hf n2
  have c1 : G (m + 2) j.number [fD (1, 2), tD t2] μ = some (nD n2 (numN (1, 2) n2), μ) := by
    rw [← liftQ]
    exact number_c T.t.t (by omega) (m := m + 1) (by omega) _ (twL t2) (twL_len t2) μ
  have c2 := add_c T.t.t.t n2 (by omega) t2 (m + 1) (by omega) (fqn by1) (fqn bz2) μ
  have c3 := mul_c T.t.t.t h0 hD n2 (by omega) t2 s2 (m + 1) (by omega) bs bh (by omega) μ
  have b3 := mulN_bd h0 t2 s2 bs bh
  refine ⟨n2, t2, mulN t2 (addN n2 y z2) (numN (1, 2) n2), by omega, by omega, ?_, s2, b3.up (by omega) (by omega), fun L _ _ _ _ _ _ j ρ r r' hj hv r0 rr up r0' rr' up' => ?_⟩
  · rw [T.midway]
    generalize tmD a b u = X0 at *
    generalize tmD a' b' u' = X1 at *
    generalize tmD av bv uv = X2 at *
    generalize nD n2 (mulN t2 (addN n2 y z2) (numN (1, 2) n2)) = X3 at *
    generalize nD n2 (addN n2 y z2) = X7 at *
    generalize nD n2 (numN (1, 2) n2) = X8 at *
    generalize nD n2 y = X4 at *
    generalize nD n2 z2 = X5 at *
    generalize nD n1 z1 = X6 at *
    refine run_pl rfl (Nat.le_of_ble_eq_true rfl) (seq_nx (ρ1 := pl [some X0, some X1, some (tD t), none, some (tD t1), some X6, none, none]) (μ1 := μ) ?_ (seq_nx (ρ1 := pl [some X0, some X1, some (tD t), none, some (tD t1), some X6, some (tD t2), some X5]) (μ1 := μ) ?_ (seq_nx (ρ1 := pl [some X0, some X1, some (tD t), some X7, some (tD t1), some X6, some (tD t2), some X5]) (μ1 := μ) ?_ (seq_rt ?_))))
    · walk_at "go"
      simp [p1, andThen_some', wthD_some', setAll_pl, setAllD]
    · walk_at "go"
      simp [rz, s1, andThen_some', wthD_some', setAll_pl, setAllD]
    · walk_at "go"
      simp [ly, c2, andThen_some', wthD_some', pl_set]
    · walk_at "go"
      simp [c1, c3, andThen_some', wthD_some', szle]
  · obtain ⟨ρ1, c1, v1, e1⟩ := p4 L j ρ r hj hv r0 rr up
    have vu : val j ρ1 n1 uv = val j ρ n u' := by rw [u4 L j ρ1 hj]; exact (val_congr n c1 u').symm
    have va : val j ρ1 n1 av = val j ρ n a' := by rw [a4 L j ρ1 hj]; exact (val_congr n c1 a').symm
    have vb : val j ρ1 n1 bv = val j ρ n b' := by rw [b4 L j ρ1 hj]; exact (val_congr n c1 b').symm
    obtain ⟨ρ2, c2, v2, e2⟩ := s4 L j ρ1 r' hj v1 r0' (by rw [vu]; exact rr') (fun h => by rw [vu]; exact up' (by rw [← u3]; exact h))
    refine ⟨ρ2, fun k hk => (c1 k hk).trans (c2 k (by omega)), v2, ?_⟩
    have hh : j (rat (1, 2)) * (1 + 1) = 1 := by
      have e : rat (1, 2) * (1 + 1) = 1 := by unfold rat; grind
      have := congrArg j e
      rw [hj.mul, hj.add, hj.one] at this
      exact this
    rw [val_mul hj t2 v2 (twAll_imp (fun _ g => g.pd) t2 s2) (pd bs) (pd bh), val_add hj n2 (pd by1) (pd bz2), val_num hj, e2, va, vb, y4 L j ρ2 hj, ← val_congr n1 c2 z1, e1]
    grind
end
section
variable {F : Fs} {cc : Nat} (c : D → D → Int) {tw : D} {μ : Cells}
def leastS (c : D → D → Int) : D → List D → D
  | f, [] => f
  | f, x :: xs => leastS c (if c x f < 0 then x else f) xs
def bLe (cc : Nat) : Ss := (.cons (.ifs (.or (.cmp .Is (.var 2) .non) (.cmp .Lt (.call cc (.cons (.var 3) (.cons (.var 2) (.cons (.var 1) .nil)))) (.int 0))) (.cons (.asg 2 (.var 3)) .nil) .nil) .nil)
theorem least_loop (xs0 : List D) (T : D) : ∀ (xs : List D) (f : D) (o : Option D), isNon f = false → (∀ x ∈ xs, x ∈ xs0) → f ∈ xs0 → (∀ x ∈ xs0, isNon x = false) → (∀ x ∈ xs0, ∀ y ∈ xs0, F cc [x, y, tw] μ = some (.int (c x y), μ)) →
    ∃ o', forF (.nm 3) (fun ρ' μ' => execs F W (bLe cc) ρ' μ') xs (pl [some T, some tw, some f, o]) μ = some (.nx (pl [some T, some tw, some (leastS c f xs), o']) μ)
  | [], f, o, _, _, _, _, _ => ⟨o, rfl⟩
  | x :: xs, f, o, hf, hx, hm, hn, hc => by
    have h := hc x (hx x (List.mem_cons_self ..)) f hm
    have cnd : ev F (.or (.cmp .Is (.var 2) .non) (.cmp .Lt (.call cc (.cons (.var 3) (.cons (.var 2) (.cons (.var 1) .nil)))) (.int 0))) (pl [some T, some tw, some f, some x]) μ = some (.bl (decide (c x f < 0)), μ) := by
      walk_at "go"
      simp [hf, h, andThen_some', wthD_some', onBl_bl, cmpD]
    have body : execs F W (bLe cc) (pl [some T, some tw, some f, some x]) μ = some (.nx (pl [some T, some tw, some (if c x f < 0 then x else f), some x]) μ) := by
      by_cases z : c x f < 0
      · rw [decide_eq_true z] at cnd
        rw [if_pos z]
        refine seq_nx (ifs_t cnd (seq_nx (ρ1 := pl [some T, some tw, some x, some x]) (μ1 := μ) ?_ rfl)) rfl
        walk_at "go"
      · rw [decide_eq_false z] at cnd
        rw [if_neg z]
        exact seq_nx (ifs_f cnd rfl) rfl
    have hm' : (if c x f < 0 then x else f) ∈ xs0 := by
      split
      · exact hx x (List.mem_cons_self ..)
      · exact hm
    obtain ⟨o', e⟩ := least_loop xs0 T xs (if c x f < 0 then x else f) (some x) (hn _ hm') (fun y hy => hx y (List.mem_cons_of_mem _ hy)) hm' hn hc
    refine ⟨o', ?_⟩
    unfold forF
    show (match execs F W (bLe cc) (pl [some T, some tw, some f, some x]) μ with | none => none | some (.nx ρ2 μ2) => _ | some (.ct ρ2 μ2) => _ | some (.bk ρ2 μ2) => _ | some (.rt d μ2) => _) = _
    rw [body]
    exact e
theorem forF_nx {tg : Tg} {b : Env → Cells → Option Res} {x : D} {xs : List D} {ρ ρ1 ρ2 : Env} {μ μ2 : Cells} (h1 : bindT tg x ρ = some ρ1) (h2 : b ρ1 μ = some (.nx ρ2 μ2)) : forF tg b (x :: xs) ρ μ = forF tg b xs ρ2 μ2 := by
  conv => lhs; unfold forF
  rw [h1]
  simp only
  rw [h2]
theorem least_times_ok (x : D) (xs : List D) (hn : ∀ y ∈ x :: xs, isNon y = false) (hc : ∀ y ∈ x :: xs, ∀ z ∈ x :: xs, F cc [y, z, tw] μ = some (.int (c y z), μ)) : runFn F W ⟨2, 4, B_least_time cc⟩ [.tup (x :: xs), tw] μ = some (leastS c x xs, μ) := by
  have body : execs F W (bLe cc) (pl [some (.tup (x :: xs)), some tw, some .non, some x]) μ = some (.nx (pl [some (.tup (x :: xs)), some tw, some x, some x]) μ) := by
    refine seq_nx (ifs_t (μ1 := μ) ?_ (seq_nx (ρ1 := pl [some (.tup (x :: xs)), some tw, some x, some x]) (μ1 := μ) ?_ rfl)) rfl
    · walk_at "go"
      simp [isNon]
    · walk_at "go"
  obtain ⟨o', e⟩ := least_loop c (x :: xs) (.tup (x :: xs)) xs x (some x) (hn x (List.mem_cons_self ..)) (fun y hy => List.mem_cons_of_mem _ hy) (List.mem_cons_self ..) hn hc
  have fl : forF (.nm 3) (fun ρ' μ' => execs F W (bLe cc) ρ' μ') (x :: xs) (pl [some (.tup (x :: xs)), some tw, some .non, none]) μ = some (.nx (pl [some (.tup (x :: xs)), some tw, some (leastS c x xs), o']) μ) := by
    exact (forF_nx rfl body).trans e
  refine run_pl rfl (Nat.le_of_ble_eq_true rfl) (seq_nx (ρ1 := pl [some (.tup (x :: xs)), some tw, some .non, none]) (μ1 := μ) ?_ (seq_nx (for_of rfl (itlk_pl _ _) fl) (seq_rt ?_)))
  · walk_at "go"
  · walk_at "go"
theorem least_nil : runFn F W ⟨2, 4, B_least_time cc⟩ [.tup [], tw] μ = some (.non, μ) := by
  refine run_pl rfl (Nat.le_of_ble_eq_true rfl) (seq_nx (ρ1 := pl [some (.tup []), some tw, some .non, none]) (μ1 := μ) ?_ (seq_nx (for_of rfl (itlk_pl _ _) rfl) (seq_rt ?_)))
  · walk_at "go"
  · walk_at "go"
end
end FM

set_option Elab.async false
set_option linter.all false
set_option maxRecDepth 100000
set_option maxHeartbeats 4000000
/-! N19: drawn numbers, drawn times. -/
namespace FM
open PySem (Str sizeLine)
open L2 (atI ixN Key)
open PySem.Spec PyProof.Rows
local macro_rules | `(tactic| walk_at "go") => `(tactic| simp [FM.execs, FM.exec, FM.ev, FM.evs, FM.evo, FM.evc, FM.evi, FM.Sl.d, FM.isiD, FM.cmpD, FM.negD, FM.bindT, FM.andThen_some', FM.onBl_bl, FM.wthD_some', FM.eqD_int, FM.ix_tup, FM.ix_lst, FM.atI_0, FM.atI_1, FM.atI_2, FM.op_add, FM.op_sub, FM.op_subBl, FM.biD_abs, FM.szle, FM.pl_get, FM.pl_set, FM.isOw_pl, FM.noOw_pl, FM.lk_pl, FM.lks_pl, FM.itlk_pl, FM.setAll_pl, FM.setAllD])
def NextC (F : Fs) (cn : Nat) : Prop := ∀ (is : List Int) (k many : Int), 0 < many → 0 ≤ k → ∃ r k1 : Int, 0 ≤ r ∧ r < many ∧ 0 ≤ k1 ∧ F cn [.cell 0, .int many] [cw is k] = some (.int r, [cw is k1])
def PickC (F : Fs) (cp : Nat) : Prop := ∀ (is : List Int) (k : Int) (ds : List D), 0 ≤ k → ds ≠ [] → ∃ (d : D) (k1 : Int), d ∈ ds ∧ 0 ≤ k1 ∧ F cp [.cell 0, .lst ds] [cw is k] = some (d, [cw is k1])
/-- a drawn number -/
def NumR (most : Int) (x : Int × Int) : Prop := ∃ n d : Int, -most ≤ n ∧ n ≤ most ∧ 1 ≤ d ∧ d ≤ 3 ∧ x = fr n d
def NumC (F : Fs) (cn : Nat) : Prop := ∀ (is : List Int) (k most : Int), 0 ≤ k → 0 ≤ most → most ≤ 100 → ∃ (x : Int × Int) (k1 : Int), NumR most x ∧ 0 ≤ k1 ∧ F cn [.cell 0, .int most] [cw is k] = some (fD x, [cw is k1])
section
variable {F : Fs}
theorem pick_ok {cn : Nat} (hN : NextC F cn) (is : List Int) (k : Int) (ds : List D) (hk : 0 ≤ k) (hd : ds ≠ []) : ∃ (d : D) (k1 : Int), d ∈ ds ∧ 0 ≤ k1 ∧ runFn F W ⟨2, 2, B__law_pick cn⟩ [.cell 0, .lst ds] [cw is k] = some (d, [cw is k1]) := by
  have l0 : 0 < ds.length := List.length_pos_iff.mpr hd
  obtain ⟨r, k1, r0, r1, k0, e⟩ := hN is k ds.length (by omega) hk
  have hr : r.toNat < ds.length := by omega
  have at' : atI ds r = some ds[r.toNat] := by
    have := atI_nat (l := ds) (k := r.toNat) hr
    rwa [Int.toNat_of_nonneg r0] at this
  refine ⟨ds[r.toNat], k1, List.getElem_mem hr, k0, run_pl rfl (Nat.le_of_ble_eq_true rfl) (seq_rt ?_)⟩
  generalize ds[r.toNat] = d at *
  walk_at "go"
  simp [len_lst, e, FM.ix_lst, at', andThen_some', wthD_some']
theorem num_ok {cf cp cn : Nat} (hF : LFracC F cf) (hP : PickC F cp) (hN : NextC F cn) (is : List Int) (k most : Int) (hk : 0 ≤ k) (h0 : 0 ≤ most) (h1 : most ≤ 100) : ∃ (x : Int × Int) (k1 : Int), NumR most x ∧ 0 ≤ k1 ∧ runFn F W ⟨2, 2, B__law_num cf cp cn⟩ [.cell 0, .int most] [cw is k] = some (fD x, [cw is k1]) := by
  obtain ⟨r, k1, r0, r1, k10, e1⟩ := hN is k (2 * most + 1) (by omega) hk
  obtain ⟨d, k2, hd, k20, e2⟩ := hP is k1 [.int 1, .int 1, .int 2, .int 3] k10 (by simp)
  have hd' : ∃ i : Int, d = .int i ∧ 1 ≤ i ∧ i ≤ 3 := by
    simp at hd
    rcases hd with rfl | rfl | rfl
    · exact ⟨1, rfl, by decide, by decide⟩
    · exact ⟨2, rfl, by decide, by decide⟩
    · exact ⟨3, rfl, by decide, by decide⟩
  obtain ⟨i, rfl, i1, i2⟩ := hd'
  have sm : Sm 10 (r - most) := by unfold Sm; omega
  have si : Sm 10 i := by unfold Sm; omega
  have e3 := hF (r - most) i [cw is k2] (sm.mono (by decide)) ⟨si.mono (by decide), .inl (by omega)⟩
  have om := op_mul (j := 10) (k := 10) (a := 2) (b := most) (by unfold Sm; decide) (by unfold Sm; omega) (by decide)
  refine ⟨fr (r - most) i, k2, ⟨r - most, i, by omega, by omega, i1, i2, rfl⟩, k20, run_pl rfl (Nat.le_of_ble_eq_true rfl) (seq_rt ?_)⟩
  generalize fr (r - most) i = z at *
  walk_at "go"
  simp [om, e1, e2, e3, andThen_some', wthD_some', op_add, op_sub, szle]
/-- a drawn time -/
structure TimeR (a b u : Int × Int) : Prop where
  a : NumR 4 a
  b : NumR 3 b
  u : ∃ n d : Int, 0 ≤ n ∧ n ≤ 8 ∧ 1 ≤ d ∧ d ≤ 3 ∧ u = fr n d
theorem numR_zero : NumR 3 (0, 1) := ⟨0, 1, by decide, by decide, by decide, by decide, by decide⟩
theorem time_ok {cf cp cn cm : Nat} (hF : LFracC F cf) (hP : PickC F cp) (hN : NextC F cn) (hM : NumC F cm) (is : List Int) (k : Int) (hk : 0 ≤ k) : ∃ (a b u : Int × Int) (k1 : Int), TimeR a b u ∧ 0 ≤ k1 ∧ runFn F W ⟨1, 1, B__law_time cf cn cp cm⟩ [.cell 0] [cw is k] = some (t3 a b u, [cw is k1]) := by
  obtain ⟨a, k1, ha, k10, e1⟩ := hM is k 4 hk (by decide) (by decide)
  obtain ⟨b1, k2, hb1, k20, e2⟩ := hM is k1 3 k10 (by decide) (by decide)
  obtain ⟨b2, k3, hb2, k30, e3⟩ := hM is k2 3 k20 (by decide) (by decide)
  obtain ⟨d, k4, hd, k40, e4⟩ := hP is k3 [fD (0, 1), fD b1, fD b2] k30 (by simp)
  obtain ⟨r, k5, r0, r1, k50, e5⟩ := hN is k4 9 (by decide) k40
  obtain ⟨s, k6, s0, s1, k60, e6⟩ := hN is k5 3 (by decide) k50
  have hd' : ∃ b, d = fD b ∧ NumR 3 b := by
    rcases List.mem_cons.mp hd with rfl | hd
    · exact ⟨_, rfl, numR_zero⟩
    · rcases List.mem_cons.mp hd with rfl | hd
      · exact ⟨_, rfl, hb1⟩
      · rcases List.mem_cons.mp hd with rfl | hd
        · exact ⟨_, rfl, hb2⟩
        · cases hd
  obtain ⟨b, rfl, hb⟩ := hd'
  have e7 := hF r (1 + s) [cw is k6] (Sm.mono (j := 10) (by unfold Sm; omega) (by decide)) ⟨Sm.mono (j := 10) (by unfold Sm; omega) (by decide), .inl (by omega)⟩
  refine ⟨a, b, fr r (1 + s), k6, ⟨ha, hb, r, 1 + s, r0, by omega, by omega, by omega, rfl⟩, k60, run_pl rfl (Nat.le_of_ble_eq_true rfl) (seq_rt ?_)⟩
  generalize fr r (1 + s) = u at *
  walk_at "go"
  simp [e1, e2, e3, e4, e5, e6, e7, andThen_some', wthD_some', op_add, szle]
theorem numR_bd {most : Int} {x : Int × Int} (h : NumR most x) (hm : most ≤ 8) : Bd 6 1 3 x := by
  obtain ⟨n, d, h1, h2, h3, h4, rfl⟩ := h
  have hd : d = 1 ∨ d = 2 ∨ d = 3 := by omega
  rcases hd with rfl | rfl | rfl
  · exact Bd.of (s := n * 6) (by decide) (by show (n.natAbs : Int) ≤ 8 * 1; omega) (by show n * 6 * 1 = n * 6; omega) (by decide)
  · exact Bd.of (s := n * 3) (by decide) (by show (n.natAbs : Int) ≤ 8 * 2; omega) (by show n * 3 * 2 = n * 6; omega) (by decide)
  · exact Bd.of (s := n * 2) (by decide) (by show (n.natAbs : Int) ≤ 8 * 3; omega) (by show n * 2 * 3 = n * 6; omega) (by decide)
theorem numR_fq {most : Int} {x : Int × Int} (h : NumR most x) (hm : most ≤ 8) : Fq 8 x := by
  obtain ⟨n, d, h1, h2, h3, h4, rfl⟩ := h
  exact fr_fq (by unfold Sm; omega) (by unfold Sm; omega) (by omega)
end
end FM

set_option Elab.async false
set_option linter.all false
set_option maxRecDepth 100000
set_option maxHeartbeats 4000000
/-! N20: times of fractions as values; the order is one. -/
namespace FM
open OF (sgn sgn_eq0 Hom rat)
/-- a time of fractions -/
structure Tm where
  a : Int × Int
  b : Int × Int
  u : Int × Int
def Tm.D (x : Tm) : FM.D := t3 x.a x.b x.u
structure Tm.Ok (x : Tm) : Prop where
  a : Pd x.a
  b : Pd x.b
  u : Pd x.u
  u0 : 0 ≤ x.u.1
def cT (x y : Tm) : Int := befF x.a x.b x.u y.a y.b y.u
theorem rat_nn {x : Int × Int} (h : Pd x) (h0 : 0 ≤ x.1) : 0 ≤ rat x := by
  have e := OF.rat_den (x := x) (by have : 0 < x.2 := h; omega)
  have p1 : (0 : Rat) < ((x.2 : Int) : Rat) := by exact_mod_cast h
  have p2 : (0 : Rat) ≤ ((x.1 : Int) : Rat) := by exact_mod_cast h0
  rcases Std.lt_trichotomy (rat x) 0 with z | z | z
  · have := OF.mpos (a := -rat x) (b := ((x.2 : Int) : Rat)) (by grind) p1
    grind
  · grind
  · grind
/-- a field in which all these times are values -/
theorem vals (ts : List Tm) (h : ∀ t ∈ ts, t.Ok) : ∃ (L : Type) (_ : Lean.Grind.Field L) (_ : LE L) (_ : LT L) (_ : Std.IsLinearOrder L) (_ : Std.LawfulOrderLT L) (_ : Lean.Grind.OrderedRing L) (j : Rat → L) (r : Int × Int → L), Hom j ∧ (∀ t ∈ ts, 0 ≤ r t.u ∧ r t.u * r t.u = j (rat t.u)) ∧
    ∀ x ∈ ts, ∀ y ∈ ts, cT x y = sgn ((j (rat x.a) + j (rat x.b) * r x.u) - (j (rat y.a) + j (rat y.b) * r y.u)) := by
  obtain ⟨L, i1, i2, i3, i4, i5, i6, j, hj, hr⟩ := OF.roots (ts.map fun t => rat t.u)
  have ex : ∀ t ∈ ts, ∃ r : L, 0 ≤ r ∧ r * r = j (rat t.u) := fun t ht => hr _ (List.mem_map.mpr ⟨t, ht, rfl⟩) (rat_nn (h t ht).u (h t ht).u0)
  classical
  let r : Int × Int → L := fun u => if e : ∃ r : L, 0 ≤ r ∧ r * r = j (rat u) then Classical.choose e else 0
  have rs : ∀ t ∈ ts, 0 ≤ r t.u ∧ r t.u * r t.u = j (rat t.u) := fun t ht => by
    have e := ex t ht
    show 0 ≤ (if e : ∃ r : L, 0 ≤ r ∧ r * r = j (rat t.u) then Classical.choose e else 0) ∧ _
    have hd : r t.u = Classical.choose e := dif_pos e
    rw [hd, dif_pos e]
    exact Classical.choose_spec e
  refine ⟨L, i1, i2, i3, i4, i5, i6, j, r, hj, rs, fun x hx y hy => ?_⟩
  have hx' := h x hx
  have hy' := h y hy
  exact bef_val hj hx'.a hx'.b hx'.u hy'.a hy'.b hy'.u (rs x hx).1 (rs x hx).2 (rs y hy).1 (rs y hy).2
section
variable {x y z : Tm} (hx : x.Ok) (hy : y.Ok) (hz : z.Ok)
include hx
theorem cT_self : cT x x = 0 := by
  obtain ⟨L, i1, i2, i3, i4, i5, i6, j, r, hj, _, h⟩ := vals [x] (fun t ht => by simp at ht; subst ht; exact hx)
  rw [h x (by simp) x (by simp)]
  rw [show (j (rat x.a) + j (rat x.b) * r x.u) - (j (rat x.a) + j (rat x.b) * r x.u) = 0 by grind]
  exact OF.sgn_zero
include hy
theorem cT_anti : cT y x = -cT x y := by
  obtain ⟨L, i1, i2, i3, i4, i5, i6, j, r, hj, _, h⟩ := vals [x, y] (fun t ht => by simp at ht; rcases ht with rfl | rfl <;> assumption)
  rw [h x (by simp) y (by simp), h y (by simp) x (by simp), ← OF.sgn_m]
  congr 1
  grind
theorem cT_three : cT x y = -1 ∨ cT x y = 0 ∨ cT x y = 1 := by
  have := sg2_abs (a := sgTwo (subF x.a y.a) x.b x.u) (b := if 0 < y.u.1 then sgI (subF (0, 1) y.b).1 else 0) (c := sgTwo (sqF (subF x.a y.a) x.b x.u (subF (0, 1) y.b) y.u) (mulF (2, 1) (mulF (subF x.a y.a) x.b)) x.u) (sgTwo_abs _ _ _) (by split <;> first | exact sgI_abs _ | decide) (sgTwo_abs _ _ _)
  have e : (cT x y).natAbs ≤ 1 := this
  omega
include hz
/-- the order goes on -/
theorem cT_trans : (cT x y ≤ 0 → cT y z ≤ 0 → cT x z ≤ 0) ∧ (cT x y < 0 → cT y z ≤ 0 → cT x z < 0) ∧ (cT x y ≤ 0 → cT y z < 0 → cT x z < 0) ∧ (cT x y = 0 → cT x z = cT y z) := by
  obtain ⟨L, i1, i2, i3, i4, i5, i6, j, r, hj, _, h⟩ := vals [x, y, z] (fun t ht => by simp at ht; rcases ht with rfl | rfl | rfl <;> assumption)
  rw [h x (by simp) y (by simp), h y (by simp) z (by simp), h x (by simp) z (by simp)]
  generalize j (rat x.a) + j (rat x.b) * r x.u = A
  generalize j (rat y.a) + j (rat y.b) * r y.u = B
  generalize j (rat z.a) + j (rat z.b) * r z.u = C
  have le0 : ∀ v : L, sgn v ≤ 0 ↔ v ≤ 0 := fun v => by
    rcases Std.lt_trichotomy v 0 with w | w | w
    · rw [OF.sgn_neg w]; constructor
      · intro _; grind
      · intro _; decide
    · subst w; rw [OF.sgn_zero]; constructor
      · intro _; grind
      · intro _; decide
    · rw [OF.sgn_pos w]; constructor
      · intro q; exact absurd q (by decide)
      · intro q; grind
  have lt0 : ∀ v : L, sgn v < 0 ↔ v < 0 := fun v => by
    rcases Std.lt_trichotomy v 0 with w | w | w
    · rw [OF.sgn_neg w]; constructor
      · intro _; exact w
      · intro _; decide
    · subst w; rw [OF.sgn_zero]; constructor
      · intro q; exact absurd q (by decide)
      · intro q; grind
    · rw [OF.sgn_pos w]; constructor
      · intro q; exact absurd q (by decide)
      · intro q; grind
  refine ⟨fun p q => ?_, fun p q => ?_, fun p q => ?_, fun p => ?_⟩
  · rw [le0] at *; grind
  · rw [lt0] at *; rw [le0] at q; grind
  · rw [lt0] at *; rw [le0] at p; grind
  · rw [sgn_eq0] at p
    congr 1
    grind
end
end FM

set_option Elab.async false
set_option linter.all false
set_option maxRecDepth 100000
set_option maxHeartbeats 4000000
/-! P1: texts as lists of signs; figures of whole numbers. -/
namespace FM
open PySem (Str sizeLine)
open L2 (atI ixN Key)
open PySem.Spec PyProof.Rows
/-- a text by its signs -/
def S' (l : List Nat) : Str := ⟨l.toArray⟩
theorem S'_append (l m : List Nat) : S' l ++ S' m = S' (l ++ m) := by
  show (⟨l.toArray ++ m.toArray⟩ : Str) = _
  unfold S'
  congr 1
  simp
theorem S'_len (l : List Nat) : (S' l).length = l.length := by
  show l.toArray.size = _
  simp
theorem S'_of (s : String) : (PySem.Str.ofString s) = S' (s.toList.map Char.toNat) := PySem.Str.ofString_eq_toList s
/-- the figures of a whole number from 0 on -/
def dg (n : Nat) : List Nat := (Nat.toDigits 10 n).map Char.toNat
def txL (i : Int) : List Nat := if i < 0 then 45 :: dg i.natAbs else dg i.natAbs
theorem tx_eq (i : Int) : ((toString i : String) : Str) = S' (txL i) := by
  show PySem.Str.ofString (Int.repr i) = _
  rw [S'_of]
  congr 1
  cases i with
  | ofNat n =>
    show (Nat.repr n).toList.map Char.toNat = txL (Int.ofNat n)
    rw [Nat.toList_repr]
    unfold txL
    rw [if_neg (by simp)]
    rfl
  | negSucc n =>
    show ("-" ++ Nat.repr (n + 1)).toList.map Char.toNat = txL (Int.negSucc n)
    rw [String.toList_append, Nat.toList_repr]
    unfold txL
    rw [if_pos (Int.negSucc_lt_zero n)]
    rfl
theorem dg_len {n k : Nat} (h : n < 10 ^ k) (hk : 0 < k) : (dg n).length ≤ k := by
  unfold dg
  rw [List.length_map]
  exact (Nat.length_toDigits_le_iff (by decide) hk).mpr h
theorem pow210 (k : Nat) : 2 ^ k ≤ 10 ^ k := Nat.pow_le_pow_left (by decide) k
theorem txL_len {k : Nat} {i : Int} (h : Sm k i) (hk : 0 < k) : (txL i).length ≤ k + 1 := by
  have := dg_len (n := i.natAbs) (Nat.lt_of_lt_of_le h (pow210 k)) hk
  unfold txL
  split
  · simp; omega
  · omega
theorem bi_str (μ : Cells) {k : Nat} {i : Int} (h : Sm k i) (hk : k < 1920) : biD μ .str [.int i] = some (.str (S' (txL i))) := by
  have : i.natAbs.log2 < 1920 := by have := h.log; omega
  show (if i.natAbs.log2 < 1920 then some (D.str (toString i)) else none) = _
  rw [if_pos this]
  congr 2
  exact tx_eq i
theorem op_addS {l m : List Nat} (h : l.length + m.length ≤ 1000000) : opD .Add (.str (S' l)) (.str (S' m)) = some (.str (S' (l ++ m))) := by
  refine opD_of ?_
  show (if (S' l).length + (S' m).length ≤ sizeLine then some (D.str (S' l ++ S' m)) else none) = _
  rw [S'_len, S'_len, if_pos (Nat.le_trans h (by decide)), S'_append]
theorem dg_ge {n : Nat} (h : 10 ≤ n) : dg n = dg (n / 10) ++ [(Nat.digitChar (n % 10)).toNat] := by
  unfold dg
  rw [Nat.toDigits_of_base_le (by decide) h, List.map_append]
  rfl
theorem dg_lt {n : Nat} (h : n < 10) : dg n = [(Nat.digitChar n).toNat] := by
  unfold dg
  rw [Nat.toDigits_of_lt_base h]
  rfl
/-- so many figures of a number -/
def pad : Nat → Nat → List Nat
  | 0, _ => []
  | k + 1, r => pad k (r / 10) ++ [(Nat.digitChar (r % 10)).toNat]
theorem dg_one_pad : ∀ (k r : Nat), r < 10 ^ k → dg (10 ^ k + r) = 49 :: pad k r
  | 0, r, h => by
    have : r = 0 := by simpa using h
    subst this
    rw [dg_lt (by decide)]
    rfl
  | k + 1, r, h => by
    have e : 10 ^ (k + 1) = 10 * 10 ^ k := by rw [Nat.pow_succ, Nat.mul_comm]
    have p : 0 < 10 ^ k := Nat.pow_pos (by decide)
    rw [dg_ge (by omega)]
    have e1 : (10 ^ (k + 1) + r) / 10 = 10 ^ k + r / 10 := by omega
    have e2 : (10 ^ (k + 1) + r) % 10 = r % 10 := by omega
    rw [e1, e2, dg_one_pad k (r / 10) (by omega)]
    rfl
theorem pad_zero : ∀ k, pad k 0 = List.replicate k 48
  | 0 => rfl
  | k + 1 => by
    show pad k (0 / 10) ++ [48] = _
    rw [Nat.zero_div, pad_zero k, List.replicate_succ']
theorem pad_dg : ∀ (k r : Nat), r < 10 ^ k → 0 < k → pad k r = List.replicate (k - (dg r).length) 48 ++ dg r
  | 0, r, _, h => absurd h (by decide)
  | k + 1, r, h, _ => by
    have e : 10 ^ (k + 1) = 10 * 10 ^ k := by rw [Nat.pow_succ, Nat.mul_comm]
    by_cases z : r < 10
    · have r0 : r / 10 = 0 := by omega
      have rm : r % 10 = r := by omega
      show pad k (r / 10) ++ [(Nat.digitChar (r % 10)).toNat] = _
      rw [r0, rm, pad_zero, dg_lt z]
      rfl
    · have k0 : 0 < k := by
        rcases Nat.eq_zero_or_pos k with q | q
        · subst q; omega
        · exact q
      show pad k (r / 10) ++ [(Nat.digitChar (r % 10)).toNat] = _
      rw [pad_dg k (r / 10) (by omega) k0, dg_ge (n := r) (by omega), List.length_append, List.append_assoc]
      congr 2
      show k - (dg (r / 10)).length = k + 1 - ((dg (r / 10)).length + 1)
      omega
theorem repS_zeros {k : Nat} (h : k ≤ 1000) : repS (S' [48]) (k : Int) = S' (List.replicate k 48) := by
  unfold repS
  by_cases z : (k : Int) < 1
  · have : k = 0 := by omega
    subst this
    rw [if_pos (by decide)]
    rfl
  · rw [if_neg z]
    by_cases o : k = 1
    · subst o
      rfl
    · rw [if_neg (by
        rw [Bool.or_eq_true]
        rintro (q | q)
        · have := eq_of_beq q
          omega
        · cases q)]
      unfold S'
      congr 1
      rw [Int.toNat_natCast]
      have go : ∀ (m : Nat) (b : Array Nat), ((List.replicate m #[48]).foldl (· ++ ·) b) = b ++ (List.replicate m 48).toArray := by
        intro m
        induction m with
        | zero => intro b; simp
        | succ m ih =>
          intro b
          rw [List.replicate_succ, List.foldl_cons, ih, List.replicate_succ, ← Array.toList_inj]
          simp
      exact (go k #[]).trans (by simp)
end FM

set_option Elab.async false
set_option linter.all false
set_option maxRecDepth 100000
namespace FM
def B_is_tower (c_sign : Nat) (c_is_of : Nat) : Ss := (.cons (.ifs (.not (.isi (.var 0) .tuple)) (.cons (.ret (.bl false)) .nil) .nil) (.cons (.ret (.bi .all (.cons (.lc (.and (.call c_is_of (.cons (.ix (.var 0) (.var 1)) (.cons (.sl (.var 0) .none (.some (.var 1))) .nil))) (.cmp .Gt (.call c_sign (.cons (.ix (.var 0) (.var 1)) (.cons (.sl (.var 0) .none (.some (.var 1))) .nil))) (.int 0))) (.nm 1) (.rng1 (.bi .len (.cons (.var 0) .nil))) .none) .nil))) .nil))
def B_scaled (c_times : Nat) (c_scaled : Nat) : Ss := (.cons (.ifs (.cmp .Eq (.var 2) (.tup .nil)) (.cons (.ret (.call c_times (.cons (.var 0) (.cons (.var 1) .nil)))) .nil) .nil) (.cons (.ret (.tup (.cons (.call c_scaled (.cons (.ix (.var 0) (.int 0)) (.cons (.var 1) (.cons (.sl (.var 2) .none (.some (.neg (.int 1)))) .nil)))) (.cons (.call c_scaled (.cons (.ix (.var 0) (.int 1)) (.cons (.var 1) (.cons (.sl (.var 2) .none (.some (.neg (.int 1)))) .nil)))) .nil)))) .nil))
def B_height (c_is_nought : Nat) : Ss := (.cons (.for_ (.nm 2) (.rng3 (.bi .len (.cons (.var 1) .nil)) (.int 0) (.neg (.int 1))) (.cons (.ifs (.not (.call c_is_nought (.cons (.ix (.var 0) (.int 1)) (.cons (.sl (.var 1) .none (.some (.op .Sub (.var 2) (.int 1)))) .nil)))) (.cons (.ret (.var 2)) .nil) .nil) (.cons (.asg 0 (.ix (.var 0) (.int 0))) .nil))) (.cons (.ret (.int 0)) .nil))
def B_turned (c_negative_parts : Nat) : Ss := (.cons (.asgT [1, 2] (.var 0)) (.cons (.ret (.tup (.cons (.var 1) (.cons (.call c_negative_parts (.cons (.var 2) .nil)) .nil)))) .nil))
def B_negative_parts (c_negative_parts : Nat) : Ss := (.cons (.ifs (.isi (.ix (.var 0) (.int 0)) .int) (.cons (.ret (.tup (.cons (.neg (.ix (.var 0) (.int 0))) (.cons (.ix (.var 0) (.int 1)) .nil)))) .nil) .nil) (.cons (.ret (.tup (.cons (.call c_negative_parts (.cons (.ix (.var 0) (.int 0)) .nil)) (.cons (.call c_negative_parts (.cons (.ix (.var 0) (.int 1)) .nil)) .nil)))) .nil))
def B_parts_of (c_parts_of : Nat) : Ss := (.cons (.ifs (.isi (.ix (.var 0) (.int 0)) .int) (.cons (.ret (.tup (.cons (.var 0) .nil))) .nil) .nil) (.cons (.ret (.op .Add (.call c_parts_of (.cons (.ix (.var 0) (.int 0)) .nil)) (.call c_parts_of (.cons (.ix (.var 0) (.int 1)) .nil)))) .nil))
def B_floor_in (c_floor_of : Nat) (c_compare : Nat) (c_number : Nat) : Ss := (.cons (.ifs (.cmp .Eq (.var 1) (.tup .nil)) (.cons (.ret (.call c_floor_of (.cons (.var 0) .nil))) .nil) .nil) (.cons (.asg 2 (.int 1)) (.cons (.whl (.or (.cmp .LtE (.call c_compare (.cons (.call c_number (.cons (.tup (.cons (.var 2) (.cons (.int 1) .nil))) (.cons (.var 1) .nil))) (.cons (.var 0) (.cons (.var 1) .nil)))) (.int 0)) (.cmp .Gt (.call c_compare (.cons (.call c_number (.cons (.tup (.cons (.neg (.var 2)) (.cons (.int 1) .nil))) (.cons (.var 1) .nil))) (.cons (.var 0) (.cons (.var 1) .nil)))) (.int 0))) (.cons (.asg 2 (.op .Mult (.int 2) (.var 2))) .nil)) (.cons (.par 3 4 (.neg (.var 2)) (.var 2)) (.cons (.whl (.cmp .Gt (.op .Sub (.var 4) (.var 3)) (.int 1)) (.cons (.asg 5 (.op .FloorDiv (.op .Add (.var 3) (.var 4)) (.int 2))) (.cons (.ifs (.cmp .LtE (.call c_compare (.cons (.call c_number (.cons (.tup (.cons (.var 5) (.cons (.int 1) .nil))) (.cons (.var 1) .nil))) (.cons (.var 0) (.cons (.var 1) .nil)))) (.int 0)) (.cons (.asg 3 (.var 5)) .nil) (.cons (.asg 4 (.var 5)) .nil)) .nil))) (.cons (.ret (.var 3)) .nil))))))
def B_figures_of (c_floor_in : Nat) (c_scaled : Nat) : Ss := (.cons (.asg 3 (.bi .int (.cons (.op .Add (.str "1") (.op .Mult (.str "0") (.var 2))) .nil))) (.cons (.asg 4 (.call c_floor_in (.cons (.call c_scaled (.cons (.var 0) (.cons (.tup (.cons (.var 3) (.cons (.int 1) .nil))) (.cons (.var 1) .nil)))) (.cons (.var 1) .nil)))) (.cons (.par 6 7 (.op .FloorDiv (.bi .abs (.cons (.var 4) .nil)) (.var 3)) (.op .Mod (.bi .abs (.cons (.var 4) .nil)) (.var 3))) (.cons (.asg 5 (.op .Add (.bi .str (.cons (.var 6) .nil)) (.ife (.cmp .Gt (.var 2) (.int 0)) (.op .Add (.op .Add (.str ".") (.op .Mult (.str "0") (.op .Sub (.var 2) (.bi .len (.cons (.bi .str (.cons (.var 7) .nil)) .nil))))) (.bi .str (.cons (.var 7) .nil))) (.str "")))) (.cons (.ret (.ife (.cmp .Lt (.var 4) (.int 0)) (.op .Add (.str "-") (.var 5)) (.var 5))) .nil)))))
def B_between (c_floor_in : Nat) (c_scaled : Nat) (c_frac : Nat) (c_compare : Nat) (c_number : Nat) : Ss := (.cons (.asg 3 (.call c_floor_in (.cons (.call c_scaled (.cons (.var 0) (.cons (.tup (.cons (.var 2) (.cons (.int 1) .nil))) (.cons (.var 1) .nil)))) (.cons (.var 1) .nil)))) (.cons (.asg 4 (.call c_frac (.cons (.var 3) (.cons (.var 2) .nil)))) (.cons (.ifs (.cmp .Eq (.call c_compare (.cons (.call c_number (.cons (.var 4) (.cons (.var 1) .nil))) (.cons (.var 0) (.cons (.var 1) .nil)))) (.int 0)) (.cons (.ret (.tup (.cons (.var 4) (.cons (.var 4) .nil)))) .nil) .nil) (.cons (.ret (.tup (.cons (.var 4) (.cons (.call c_frac (.cons (.op .Add (.var 3) (.int 1)) (.cons (.var 2) .nil))) .nil)))) .nil))))
def B_print_number (c_text_of : Nat) (c_is_nought : Nat) (c_print_number : Nat) : Ss := (.cons (.ifs (.cmp .Eq (.var 1) (.tup .nil)) (.cons (.ret (.call c_text_of (.cons (.var 0) .nil))) .nil) .nil) (.cons (.asg 2 (.sl (.var 1) .none (.some (.neg (.int 1))))) (.cons (.ifs (.call c_is_nought (.cons (.ix (.var 0) (.int 1)) (.cons (.var 2) .nil))) (.cons (.ret (.call c_print_number (.cons (.ix (.var 0) (.int 0)) (.cons (.var 2) .nil)))) .nil) .nil) (.cons (.asg 3 (.op .Add (.op .Add (.call c_print_number (.cons (.ix (.var 0) (.int 1)) (.cons (.var 2) .nil))) (.str " r")) (.bi .str (.cons (.bi .len (.cons (.var 1) .nil)) .nil)))) (.cons (.ifs (.call c_is_nought (.cons (.ix (.var 0) (.int 0)) (.cons (.var 2) .nil))) (.cons (.ret (.op .Add (.op .Add (.str "(") (.var 3)) (.str ")"))) .nil) .nil) (.cons (.ret (.op .Add (.op .Add (.op .Add (.op .Add (.str "(") (.call c_print_number (.cons (.ix (.var 0) (.int 0)) (.cons (.var 2) .nil)))) (.str " + ")) (.var 3)) (.str ")"))) .nil))))))
def B_print_tower (c_print_number : Nat) : Ss := (.cons (.own 1) (.cons (.for_ (.nm 2) (.rng1 (.bi .len (.cons (.var 0) .nil))) (.cons (.app 1 (.op .Add (.op .Add (.op .Add (.op .Add (.str "r") (.bi .str (.cons (.op .Add (.var 2) (.int 1)) .nil))) (.str " = root of ")) (.call c_print_number (.cons (.ix (.var 0) (.var 2)) (.cons (.sl (.var 0) .none (.some (.var 2))) .nil)))) (.str "\n"))) .nil)) (.cons (.ret (.me .join (.str "") (.cons (.var 1) .nil))) .nil)))
def B_is_below_nought (c_sign : Nat) : Ss := (.cons (.ret (.cmp .Lt (.call c_sign (.cons (.var 0) (.cons (.var 1) .nil))) (.int 0))) .nil)
def B_order_of (c_compare : Nat) : Ss := (.cons (.own 2) (.cons (.for_ (.nm 3) (.rng1 (.bi .len (.cons (.var 0) .nil))) (.cons (.asg 4 (.bi .len (.cons (.lc (.var 5) (.nm 5) (.seq (.var 2)) (.some (.cmp .LtE (.call c_compare (.cons (.ix (.var 0) (.var 5)) (.cons (.ix (.var 0) (.var 3)) (.cons (.var 1) .nil)))) (.int 0)))) .nil))) (.cons (.ins 2 (.var 4) (.var 3)) .nil))) (.cons (.ret (.bi .tuple (.cons (.var 2) .nil))) .nil)))
def B_time_text (c_time_number : Nat) (c_print_number : Nat) : Ss := (.cons (.asgT [2, 3] (.call c_time_number (.cons (.var 0) (.cons (.var 1) .nil)))) (.cons (.ret (.call c_print_number (.cons (.var 3) (.cons (.var 2) .nil)))) .nil))
def B_point_text (c_print_number : Nat) : Ss := (.cons (.ret (.me .join (.str ", ") (.cons (.lc (.call c_print_number (.cons (.var 2) (.cons (.var 1) .nil))) (.nm 2) (.seq (.var 0)) .none) .nil))) .nil)
def B_colour_text (c_text_of : Nat) : Ss := (.cons (.ret (.me .join (.str " ") (.cons (.lc (.call c_text_of (.cons (.var 1) .nil)) (.nm 1) (.seq (.var 0)) .none) .nil))) .nil)
def B__law_drawn (c__law_next : Nat) (c__law_fr : Nat) (c__law_drawn : Nat) : Ss := (.cons (.ifs (.cmp .Eq (.var 1) (.int 0)) (.cons (.ret (.ife (.cmp .Gt (.call c__law_next (.cons (.var 0) (.cons (.int 3) .nil))) (.int 0)) (.call c__law_fr (.cons (.op .Sub (.call c__law_next (.cons (.var 0) (.cons (.int 13) .nil))) (.int 6)) (.cons (.op .Add (.int 1) (.call c__law_next (.cons (.var 0) (.cons (.int 3) .nil)))) .nil))) (.tup (.cons (.int 0) (.cons (.int 1) .nil))))) .nil) .nil) (.cons (.ret (.tup (.cons (.call c__law_drawn (.cons (.var 0) (.cons (.op .Sub (.var 1) (.int 1)) .nil))) (.cons (.call c__law_drawn (.cons (.var 0) (.cons (.op .Sub (.var 1) (.int 1)) .nil))) .nil)))) .nil))
def B__law_none (c__law_none : Nat) : Ss := (.cons (.ret (.ife (.isi (.ix (.var 0) (.int 0)) .int) (.cmp .Eq (.var 0) (.tup (.cons (.int 0) (.cons (.int 1) .nil)))) (.and (.call c__law_none (.cons (.ix (.var 0) (.int 0)) .nil)) (.call c__law_none (.cons (.ix (.var 0) (.int 1)) .nil))))) .nil)
def B__law_text (c__law_none : Nat) (c__law_text : Nat) : Ss := (.cons (.ifs (.cmp .Eq (.var 1) (.int 0)) (.cons (.ret (.ife (.cmp .Eq (.ix (.var 0) (.int 1)) (.int 1)) (.bi .str (.cons (.ix (.var 0) (.int 0)) .nil)) (.op .Add (.op .Add (.bi .str (.cons (.ix (.var 0) (.int 0)) .nil)) (.str "/")) (.bi .str (.cons (.ix (.var 0) (.int 1)) .nil))))) .nil) .nil) (.cons (.ifs (.call c__law_none (.cons (.ix (.var 0) (.int 1)) .nil)) (.cons (.ret (.call c__law_text (.cons (.ix (.var 0) (.int 0)) (.cons (.op .Sub (.var 1) (.int 1)) .nil)))) .nil) .nil) (.cons (.asg 2 (.op .Add (.op .Add (.call c__law_text (.cons (.ix (.var 0) (.int 1)) (.cons (.op .Sub (.var 1) (.int 1)) .nil))) (.str " r")) (.bi .str (.cons (.var 1) .nil)))) (.cons (.ret (.ife (.call c__law_none (.cons (.ix (.var 0) (.int 0)) .nil)) (.op .Add (.op .Add (.str "(") (.var 2)) (.str ")")) (.op .Add (.op .Add (.op .Add (.op .Add (.str "(") (.call c__law_text (.cons (.ix (.var 0) (.int 0)) (.cons (.op .Sub (.var 1) (.int 1)) .nil)))) (.str " + ")) (.var 2)) (.str ")")))) .nil))))
def B__law_less (c__law_less : Nat) : Ss := (.cons (.ret (.ife (.isi (.ix (.var 0) (.int 0)) .int) (.tup (.cons (.op .Sub (.int 0) (.ix (.var 0) (.int 0))) (.cons (.ix (.var 0) (.int 1)) .nil))) (.tup (.cons (.call c__law_less (.cons (.ix (.var 0) (.int 0)) .nil)) (.cons (.call c__law_less (.cons (.ix (.var 0) (.int 1)) .nil)) .nil))))) .nil)
def B__law_height (c__law_none : Nat) (c__law_height : Nat) (c__law_deep : Nat) : Ss := (.cons (.ifs (.isi (.ix (.var 0) (.int 0)) .int) (.cons (.ret (.int 0)) .nil) .nil) (.cons (.ret (.ife (.call c__law_none (.cons (.ix (.var 0) (.int 1)) .nil)) (.call c__law_height (.cons (.ix (.var 0) (.int 0)) .nil)) (.call c__law_deep (.cons (.var 0) .nil)))) .nil))
def B__law_up (c__law_zero : Nat) (c__law_deep : Nat) : Ss := (.cons (.for_ (.nm 2) (.rng1 (.var 1)) (.cons (.asg 0 (.tup (.cons (.var 0) (.cons (.call c__law_zero (.cons (.call c__law_deep (.cons (.var 0) .nil)) .nil)) .nil)))) .nil)) (.cons (.ret (.var 0)) .nil))
def B__law_deep (c__law_deep : Nat) : Ss := (.cons (.ret (.ife (.isi (.ix (.var 0) (.int 0)) .int) (.int 0) (.op .Add (.int 1) (.call c__law_deep (.cons (.ix (.var 0) (.int 0)) .nil))))) .nil)
def B__law_zero (c__law_zero : Nat) : Ss := (.cons (.ret (.ife (.cmp .Eq (.var 0) (.int 0)) (.tup (.cons (.int 0) (.cons (.int 1) .nil))) (.tup (.cons (.call c__law_zero (.cons (.op .Sub (.var 0) (.int 1)) .nil)) (.cons (.call c__law_zero (.cons (.op .Sub (.var 0) (.int 1)) .nil)) .nil))))) .nil)
def B__law_fracs (c__law_fracs : Nat) : Ss := (.cons (.ret (.ife (.isi (.ix (.var 0) (.int 0)) .int) (.tup (.cons (.var 0) .nil)) (.op .Add (.call c__law_fracs (.cons (.ix (.var 0) (.int 0)) .nil)) (.call c__law_fracs (.cons (.ix (.var 0) (.int 1)) .nil))))) .nil)
def B__law_worth (c__law_deep : Nat) (c__law_worth : Nat) : Ss := (.cons (.ifs (.isi (.ix (.var 0) (.int 0)) .int) (.cons (.ret (.op .FloorDiv (.op .Mult (.ix (.var 0) (.int 0)) (.op .Pow (.int 10) (.int 30))) (.ix (.var 0) (.int 1)))) .nil) .nil) (.cons (.asg 2 (.call c__law_deep (.cons (.var 0) .nil))) (.cons (.ret (.op .Add (.call c__law_worth (.cons (.ix (.var 0) (.int 0)) (.cons (.var 1) .nil))) (.op .FloorDiv (.op .Mult (.call c__law_worth (.cons (.ix (.var 0) (.int 1)) (.cons (.var 1) .nil))) (.ix (.var 1) (.op .Sub (.var 2) (.int 1)))) (.op .Pow (.int 10) (.int 30))))) .nil)))
def B__law_root : Ss := (.cons (.asgT [1, 2] (.tup (.cons (.int 0) (.cons (.int 1) .nil)))) (.cons (.whl (.cmp .LtE (.op .Mult (.var 2) (.var 2)) (.var 0)) (.cons (.asg 2 (.op .Mult (.int 2) (.var 2))) .nil)) (.cons (.whl (.cmp .Gt (.op .Sub (.var 2) (.var 1)) (.int 1)) (.cons (.asg 3 (.op .FloorDiv (.op .Add (.var 1) (.var 2)) (.int 2))) (.cons (.ifs (.cmp .LtE (.op .Mult (.var 3) (.var 3)) (.var 0)) (.cons (.asg 1 (.var 3)) .nil) (.cons (.asg 2 (.var 3)) .nil)) .nil))) (.cons (.ret (.var 1)) .nil))))
def B__law_tower (c__law_pick : Nat) (c__law_next : Nat) (c__law_drawn : Nat) (c__law_worth : Nat) (c__law_root : Nat) : Ss := (.cons (.par 2 3 (.tup .nil) (.lst .nil)) (.cons (.for_ (.nm 1) (.seq (.sl (.tup (.cons (.call c__law_pick (.cons (.var 0) (.cons (.lst (.cons (.tup (.cons (.int 2) (.cons (.int 1) .nil))) (.cons (.tup (.cons (.int 3) (.cons (.int 2) .nil))) (.cons (.tup (.cons (.int 5) (.cons (.int 1) .nil))) (.cons (.tup (.cons (.int 4) (.cons (.int 1) .nil))) .nil))))) .nil))) (.cons .non (.cons .non .nil)))) .none (.some (.op .Add (.int 1) (.call c__law_next (.cons (.var 0) (.cons (.int 3) .nil))))))) (.cons (.asg 4 (.ife (.cmp .Is (.var 1) .non) (.call c__law_drawn (.cons (.var 0) (.cons (.bi .len (.cons (.var 2) .nil)) .nil))) (.var 1))) (.cons (.asg 5 (.call c__law_worth (.cons (.var 4) (.cons (.var 3) .nil)))) (.cons (.ifs (.cmp .Gt (.var 5) (.op .Pow (.int 10) (.int 29))) (.cons (.par 2 3 (.op .Add (.var 2) (.tup (.cons (.var 4) .nil))) (.op .Add (.var 3) (.lst (.cons (.call c__law_root (.cons (.op .Mult (.var 5) (.op .Pow (.int 10) (.int 30))) .nil)) .nil)))) .nil) .nil) .nil)))) (.cons (.ret (.tup (.cons (.var 2) (.cons (.var 3) .nil)))) .nil)))
end FM

set_option Elab.async false
set_option linter.all false
set_option maxRecDepth 100000
set_option maxHeartbeats 4000000
/-! P2: numbers of towers told otherwise: texts, parts, heights; models of towers. -/
namespace FM
open PySem (Str sizeLine)
open L2 (atI ixN Key)
open PySem.Spec PyProof.Rows
open OF (sgn sgn_eq0 Hom rat rat_mul)
/-- reduced -/
def Red (x : Int × Int) : Prop := 0 < x.2 ∧ Int.gcd x.1 x.2 = 1
theorem Bd.red {D e m : Nat} {x : Int × Int} (h : Bd D e m x) : Red x := ⟨h.1, h.2.1⟩
theorem Red.zero {x : Int × Int} (h : Red x) : x.1 = 0 ↔ x = (0, 1) := by
  obtain ⟨a, b⟩ := x
  obtain ⟨h1, h2⟩ := h
  simp only at h1 h2
  constructor
  · intro z
    simp only at z
    subst z
    rw [Int.zero_gcd] at h2
    have : b = 1 := by omega
    rw [this]
  · intro z
    cases z
    rfl
theorem eqD_fr (a b : Int × Int) : eqD (fD a) (fD b) = some (decide (a = b)) := by
  have s : ∀ a : Int × Int, shOk (fD a) = true := fun a => (sh_nD 0 (a : Nm 0)).ok (by decide)
  have s0 : scalOk (fD a) (fD b) = false := rfl
  unfold eqD
  rw [s0, if_neg (by decide), s, s, Bool.and_self, if_pos rfl]
  congr 1
  by_cases h : a = b
  · subst h
    rw [decide_eq_true rfl]
    obtain ⟨a, a'⟩ := a
    simp [fD, D.py, pyAll, PySem.PyData.eqv, PySem.PyData.eqvAll]
  · rw [decide_eq_false h]
    cases e : PySem.PyData.eqv (fD a).py (fD b).py with
    | false => rfl
    | true => exact absurd (eqv_nD 0 (x := (a : Nm 0)) (y := (b : Nm 0)) e) h
theorem isi_nD : ∀ (n : Nat) (x : Nm n), isiD (nD n x) .int = some false
  | 0, _ => rfl
  | _ + 1, _ => rfl
theorem isiT_nD : ∀ (n : Nat) (x : Nm n), isiD (nD n x) .tuple = some true
  | 0, _ => rfl
  | _ + 1, _ => rfl
/-! ### what the defs compute -/
def txF (x : Int × Int) : List Nat := txL x.1 ++ (if 1 < x.2 then 47 :: txL x.2 else [])
def txN : (n : Nat) → Nm n → List Nat
  | 0, x => txF x
  | n + 1, x => if isN n x.2 = true then txN n x.1 else
    if isN n x.1 = true then [40] ++ (txN n x.2 ++ [32, 114] ++ txL ((n + 1 : Nat) : Int)) ++ [41]
    else [40] ++ txN n x.1 ++ [32, 43, 32] ++ (txN n x.2 ++ [32, 114] ++ txL ((n + 1 : Nat) : Int)) ++ [41]
def negN : (n : Nat) → Nm n → Nm n
  | 0, x => (-(Prod.fst (α := Int) (β := Int) x), Prod.snd (α := Int) (β := Int) x)
  | n + 1, x => (negN n x.1, negN n x.2)
def ptsN : (n : Nat) → Nm n → List (Int × Int)
  | 0, x => [x]
  | n + 1, x => ptsN n x.1 ++ ptsN n x.2
def htN : (n : Nat) → Nm n → Nat
  | 0, _ => 0
  | n + 1, x => if isN n x.2 = true then htN n x.1 else n + 1
def sclN (q : Int × Int) : (n : Nat) → Nm n → Nm n
  | 0, x => mulF x q
  | n + 1, x => (sclN q n x.1, sclN q n x.2)
theorem ptsN_len : ∀ (n : Nat) (x : Nm n), (ptsN n x).length = 2 ^ n
  | 0, _ => rfl
  | n + 1, x => by
    show (ptsN n x.1 ++ ptsN n x.2).length = _
    rw [List.length_append, ptsN_len n, ptsN_len n, Nat.pow_succ]
    omega
/-- how long a text is at most -/
def tlen (k : Nat) : Nat → Nat
  | 0 => 2 * k + 10
  | n + 1 => 2 * tlen k n + 30
theorem txF_len {k : Nat} {x : Int × Int} (h1 : Sm k x.1) (h2 : Sm k x.2) (hk : 0 < k) : (txF x).length ≤ 2 * k + 10 := by
  have a := txL_len h1 hk
  have b := txL_len h2 hk
  unfold txF
  rw [List.length_append]
  split
  · simp; omega
  · simp; omega
def SmF (k : Nat) (x : Int × Int) : Prop := Sm k x.1 ∧ Sm k x.2
theorem txn_len {n : Nat} (h : n ≤ 50) : (txL ((n + 1 : Nat) : Int)).length ≤ 9 := txL_len (k := 8) (by unfold Sm; omega) (by decide)
theorem txN_len {k : Nat} (hk : 0 < k) : ∀ (n : Nat), n ≤ 50 → ∀ {x : Nm n}, AllL (SmF k) n x → (txN n x).length ≤ tlen k n
  | 0, _, x, h => txF_len h.1 h.2 hk
  | n + 1, hn, x, h => by
    have a := txN_len hk n (by omega) h.1
    have b := txN_len hk n (by omega) h.2
    have c := txn_len (n := n) (by omega)
    show (if isN n x.2 = true then txN n x.1 else if isN n x.1 = true then [40] ++ (txN n x.2 ++ [32, 114] ++ txL ((n + 1 : Nat) : Int)) ++ [41] else [40] ++ txN n x.1 ++ [32, 43, 32] ++ (txN n x.2 ++ [32, 114] ++ txL ((n + 1 : Nat) : Int)) ++ [41]).length ≤ 2 * tlen k n + 30
    split
    · omega
    · split
      · simp only [List.length_append, List.length_cons, List.length_nil]; omega
      · simp only [List.length_append, List.length_cons, List.length_nil]; omega
theorem negN_all {P : Int × Int → Prop} (h : ∀ x, P x → P (-x.1, x.2)) : (n : Nat) → {x : Nm n} → AllL P n x → AllL P n (negN n x)
  | 0, _, g => h _ g
  | n + 1, _, g => ⟨negN_all h n g.1, negN_all h n g.2⟩
/-! ### models -/
/-- a tower has a model: roots in some ordered field -/
def Mdl {n : Nat} (t : Tw n) : Prop := ∃ (L : Type) (_ : Lean.Grind.Field L) (_ : LE L) (_ : LT L) (_ : Std.IsLinearOrder L) (_ : Std.LawfulOrderLT L) (_ : Lean.Grind.OrderedRing L) (j : Rat → L) (ρ : Nat → L), Hom j ∧ TwV j ρ t
theorem Mdl.nil : Mdl Tw.nil := ⟨Rat, inferInstance, inferInstance, inferInstance, inferInstance, inferInstance, inferInstance, fun x => x, fun _ => 0, OF.Hom.id, trivial⟩
section
variable {L : Type} [fL : Lean.Grind.Field L] [LE L] [LT L] [Std.LawfulOrderLT L] [Std.IsLinearOrder L] [Lean.Grind.OrderedRing L]
variable {M : Type} [fM : Lean.Grind.Field M] [LE M] [LT M] [Std.LawfulOrderLT M] [Std.IsLinearOrder M] [Lean.Grind.OrderedRing M]
theorem val_hom {j : Rat → L} {h : L → M} (hh : Hom h) {ρ : Nat → L} : (n : Nat) → (x : Nm n) → val (fun q => h (j q)) (fun k => h (ρ k)) n x = h (val j ρ n x)
  | 0, _ => rfl
  | n + 1, x => by
    show val (fun q => h (j q)) (fun k => h (ρ k)) n x.1 + val (fun q => h (j q)) (fun k => h (ρ k)) n x.2 * h (ρ n) = h (val j ρ n x.1 + val j ρ n x.2 * ρ n)
    rw [val_hom hh n x.1, val_hom hh n x.2, hh.add, hh.mul]
theorem twV_hom {j : Rat → L} {h : L → M} (hh : Hom h) {ρ : Nat → L} : {n : Nat} → (t : Tw n) → TwV j ρ t → TwV (fun q => h (j q)) (fun k => h (ρ k)) t
  | _, .nil, _ => trivial
  | n + 1, .snoc t r, g => by
    obtain ⟨g1, g2, g3⟩ := g
    refine ⟨twV_hom hh t g1, ?_, ?_⟩
    · have := hh.lt _ _ g2
      rwa [hh.zero] at this
    · rw [val_hom hh, ← g3, hh.mul]
end
theorem Mdl.snoc {n : Nat} {t : Tw n} {r : Nm n} (h : Mdl t) (ht : TwAll Pd t) (hr : AllL Pd n r) (s : 0 < signN t r) : Mdl (.snoc t r) := by
  obtain ⟨L, i1, i2, i3, i4, i5, i6, j, ρ, hj, hv⟩ := h
  have sv := sign_val hj t hv ht hr
  have pos : 0 < val j ρ n r := by
    rw [sv] at s
    rcases Std.lt_trichotomy (val j ρ n r) 0 with z | z | z
    · rw [OF.sgn_neg z] at s; omega
    · rw [z, OF.sgn_zero] at s; omega
    · exact z
  obtain ⟨M, m1, m2, m3, m4, m5, m6, h, hh, w, w0, w1⟩ := OF.root (val j ρ n r) (by grind)
  refine ⟨M, m1, m2, m3, m4, m5, m6, fun q => h (j q), fun k => if k = n then w else h (ρ k), hj.comp hh, ?_, ?_, ?_⟩
  · exact twV_congr (ρ := fun k => h (ρ k)) (fun k hk => by
      show h (ρ k) = if k = n then w else h (ρ k)
      rw [if_neg (by omega)]) t (twV_hom hh t hv)
  · show 0 < if n = n then w else h (ρ n)
    rw [if_pos rfl]
    have hp := hh.lt _ _ pos
    rw [hh.zero, ← w1] at hp
    by_cases z : w = 0
    · rw [z] at hp; grind
    · grind
  · show (if n = n then w else h (ρ n)) * (if n = n then w else h (ρ n)) = _
    rw [if_pos rfl, w1, ← val_hom hh]
    exact val_congr n (fun k hk => by
      show h (ρ k) = if k = n then w else h (ρ k)
      rw [if_neg (by omega)]) r
/-- a tower's k-th root with the tower ahead of it -/
theorem tw_pre : {n : Nat} → (t : Tw n) → {k : Nat} → k < n → ∃ (s : Tw k) (r : Nm k) (rest : List D), twL t = twL s ++ nD k r :: rest ∧ (∀ P : Int × Int → Prop, TwAll P t → TwAll P s ∧ AllL P k r) ∧
    ∀ (L : Type) [Lean.Grind.Field L] [LE L] [LT L] [Std.LawfulOrderLT L] [Std.IsLinearOrder L] [Lean.Grind.OrderedRing L] (j : Rat → L) (ρ : Nat → L), TwV j ρ t → TwV j ρ s ∧ 0 < val j ρ k r
  | _, .nil, k, h => by omega
  | n + 1, .snoc t r, k, h => by
    by_cases e : k = n
    · subst e
      refine ⟨t, r, [], rfl, fun P g => g, fun L _ _ _ _ _ _ j ρ g => ⟨g.1, ?_⟩⟩
      have := Lean.Grind.OrderedRing.mul_pos g.2.1 g.2.1
      rwa [g.2.2] at this
    · obtain ⟨s, r', rest, h1, h2, h3⟩ := tw_pre t (k := k) (by omega)
      refine ⟨s, r', rest ++ [nD n r], ?_, fun P g => h2 P g.1, fun L _ _ _ _ _ _ j ρ g => h3 L j ρ g.1⟩
      show twL t ++ [nD n r] = _
      rw [h1, List.append_assoc]
      rfl
end FM

set_option Elab.async false
set_option linter.all false
set_option maxRecDepth 100000
set_option maxHeartbeats 4000000
/-! P3: worths of numbers of towers, in thirty figures. -/
namespace FM
open PySem.Spec PyProof.Rows
open OF (sgn sgn_eq0 Hom rat rat_mul)
section
variable {L : Type} [fL : Lean.Grind.Field L] [LE L] [LT L] [Std.LawfulOrderLT L] [Std.IsLinearOrder L] [Lean.Grind.OrderedRing L]
theorem mnn {a b : L} (ha : 0 ≤ a) (hb : 0 ≤ b) : 0 ≤ a * b := Lean.Grind.OrderedRing.mul_nonneg ha hb
theorem mpp {a b : L} (ha : 0 < a) (hb : 0 < b) : 0 < a * b := Lean.Grind.OrderedRing.mul_pos ha hb
/-- |x| ≤ a -/
def Ab (x a : L) : Prop := -a ≤ x ∧ x ≤ a
theorem Ab.nn {x a : L} (h : Ab x a) : 0 ≤ a := by
  obtain ⟨h1, h2⟩ := h
  grind
theorem Ab.mul {x a y b : L} (h : Ab x a) (g : Ab y b) : Ab (x * y) (a * b) := by
  obtain ⟨h1, h2⟩ := h
  obtain ⟨g1, g2⟩ := g
  have p1 := mnn (a := a - x) (b := b + y) (by grind) (by grind)
  have p2 := mnn (a := a + x) (b := b - y) (by grind) (by grind)
  have p3 := mnn (a := a + x) (b := b + y) (by grind) (by grind)
  have p4 := mnn (a := a - x) (b := b - y) (by grind) (by grind)
  constructor
  · grind
  · grind
theorem Ab.add {x a y b : L} (h : Ab x a) (g : Ab y b) : Ab (x + y) (a + b) := by
  obtain ⟨h1, h2⟩ := h
  obtain ⟨g1, g2⟩ := g
  constructor <;> grind
theorem Ab.mono {x a b : L} (h : Ab x a) (l : a ≤ b) : Ab x b := by
  obtain ⟨h1, h2⟩ := h
  constructor <;> grind
theorem cancel_le {s a b : L} (hs : 0 < s) (h : s * a ≤ s * b) : a ≤ b := by
  by_cases z : a ≤ b
  · exact z
  · have p := mpp (a := s) (b := a - b) hs (by grind)
    grind
/-- one more root -/
theorem worth_step {s w1 v1 w2 v2 r p q e P R V : L} (hs : 0 < s) (h1 : Ab (w1 - s * v1) e) (h2 : Ab (w2 - s * v2) e) (hr : Ab (r - s * p) R) (hv : Ab v2 V) (r0 : 0 ≤ r) (r1 : r ≤ (P + 1) * s) (q1 : q * s ≤ w2 * r) (q2 : w2 * r ≤ q * s + s) :
    Ab (w1 + q - s * (v1 + v2 * p)) (e + e * (P + 1) + V * R + 1) := by
  have a1 := Ab.mul h2 (show Ab r r from ⟨by grind, by grind⟩)
  have a2 := Ab.mul hv hr
  have e0 := Ab.nn h2
  have a3 : e * r ≤ e * ((P + 1) * s) := by
    have := mnn (a := e) (b := (P + 1) * s - r) e0 (by grind)
    grind
  have a4 : Ab (s * (v2 * (r - s * p))) (s * (V * R)) := Ab.mul (show Ab s s from ⟨by grind, by grind⟩) a2
  obtain ⟨b1, b2⟩ := a1
  obtain ⟨b3, b4⟩ := a4
  obtain ⟨c1, c2⟩ := h1
  have k1 : q - s * v2 * p ≤ e * (P + 1) + V * R + 1 := by
    refine cancel_le hs ?_
    grind
  have k2 : -(e * (P + 1) + V * R + 1) ≤ q - s * v2 * p := by
    refine cancel_le hs ?_
    grind
  constructor
  · grind
  · grind
/-- a root's worth -/
theorem root_step {s wo v r p e : L} (hs : 0 < s) (h : Ab (wo - s * v) e) (p0 : 0 < p) (pv : p * p = v) (r1 : r * r ≤ wo * s) (r2 : wo * s ≤ r * r + 2 * r + 1) (rb : 3 * s ≤ 10 * r) (r10 : 10 ≤ r) : Ab (r - s * p) (4 * e + 3) := by
  have e0 := Ab.nn h
  obtain ⟨h1, h2⟩ := h
  have rp : 0 < r := by grind
  have yp : 0 ≤ r + s * p - r := by
    have := mpp hs p0
    grind
  have d : (r - s * p) * (r + s * p) = r * r - s * s * v := by grind
  have n1 := mnn (a := s) (b := e - (wo - s * v)) (by grind) (by grind)
  have n2 := mnn (a := s) (b := e + (wo - s * v)) (by grind) (by grind)
  have n3 := mnn (a := e) (b := 10 * r - 3 * s) e0 (by grind)
  constructor
  · by_cases z : -(4 * e + 3) ≤ r - s * p
    · exact z
    · have m1 := mnn (a := -(4 * e + 3) - (r - s * p)) (b := r + s * p) (by grind) (by grind)
      have m2 := mnn (a := 4 * e + 3) (b := r + s * p - r) (by grind) (by grind)
      have m3 := mnn (a := e) (b := r) e0 (by grind)
      grind
  · by_cases z : r - s * p ≤ 4 * e + 3
    · exact z
    · have m1 := mnn (a := (r - s * p) - (4 * e + 3)) (b := r + s * p) (by grind) (by grind)
      have m2 := mnn (a := 4 * e + 3) (b := r + s * p - r) (by grind) (by grind)
      have m3 := mnn (a := e) (b := r) e0 (by grind)
      grind
theorem root_le {p v V P : L} (p0 : 0 < p) (pv : p * p = v) (h : v ≤ V) (hP : V ≤ P * P) (P0 : 0 ≤ P) : p ≤ P := by
  by_cases z : p ≤ P
  · exact z
  · have := mpp (a := p - P) (b := p + P) (by grind) (by grind)
    grind
end
end FM

set_option Elab.async false
set_option linter.all false
set_option maxRecDepth 100000
set_option maxHeartbeats 4000000
/-! P4: worths and roots' worths, as the law counts them. -/
namespace FM
open PySem.Spec PyProof.Rows
open OF (sgn sgn_eq0 Hom rat rat_mul)
abbrev tS : Int := 1000000000000000000000000000000
theorem fdm (a b : Int) : a.fdiv b * b + a.fmod b = a := by
  rw [Int.mul_comm]
  exact Int.mul_fdiv_add_fmod a b
def PP : Nat → Int
  | 0 => 3
  | 1 => 5
  | _ => 12
def VV : Nat → Int
  | 0 => 6
  | n + 1 => VV n + VV n * PP n
def EE : Nat → Int
  | 0 => 1
  | n + 1 => EE n + EE n * (PP n + 1) + VV n * (4 * EE n + 3) + 1
def RR (n : Nat) : Int := 4 * EE n + 3
def worN (rs : Nat → Int) : (n : Nat) → Nm n → Int
  | 0, x => (Prod.fst (α := Int) (β := Int) x * tS).fdiv (Prod.snd (α := Int) (β := Int) x)
  | n + 1, x => worN rs n x.1 + (worN rs n x.2 * rs n).fdiv tS
theorem worN_congr {rs rs' : Nat → Int} : (n : Nat) → (∀ k, k < n → rs k = rs' k) → (x : Nm n) → worN rs n x = worN rs' n x
  | 0, _, _ => rfl
  | n + 1, h, x => by
    show worN rs n x.1 + (worN rs n x.2 * rs n).fdiv tS = worN rs' n x.1 + (worN rs' n x.2 * rs' n).fdiv tS
    rw [worN_congr n (fun k hk => h k (by omega)), worN_congr n (fun k hk => h k (by omega)), h n (by omega)]
/-- what the law draws -/
def Lf (x : Int × Int) : Prop := Bd 6 1 3 x ∧ (x.1.natAbs : Int) ≤ 6 * x.2
theorem lev {n : Nat} (h : n ≤ 2) : n = 0 ∨ n = 1 ∨ n = 2 := by omega
theorem EE_le {n : Nat} (h : n ≤ 3) : 0 < EE n ∧ EE n ≤ 10000000 := by
  have : n = 0 ∨ n = 1 ∨ n = 2 ∨ n = 3 := by omega
  rcases this with rfl | rfl | rfl | rfl <;> decide
theorem VV_le {n : Nat} (h : n ≤ 3) : 0 < VV n ∧ VV n ≤ 2000 := by
  have : n = 0 ∨ n = 1 ∨ n = 2 ∨ n = 3 := by omega
  rcases this with rfl | rfl | rfl | rfl <;> decide
theorem PV {n : Nat} (h : n ≤ 2) : VV n ≤ PP n * PP n ∧ 0 ≤ PP n := by
  rcases lev h with rfl | rfl | rfl <;> decide
theorem RR_le {n : Nat} (h : n ≤ 2) : RR n ≤ tS := by
  rcases lev h with rfl | rfl | rfl <;> decide
section
variable {L : Type} [fL : Lean.Grind.Field L] [LE L] [LT L] [Std.LawfulOrderLT L] [Std.IsLinearOrder L] [Lean.Grind.OrderedRing L] {j : Rat → L} {ρ : Nat → L}
def ji (j : Rat → L) (i : Int) : L := j ((i : Int) : Rat)
section
variable (hj : Hom j)
include hj
theorem ji_add (a b : Int) : ji j (a + b) = ji j a + ji j b := by
  unfold ji
  rw [Rat.intCast_add, hj.add]
theorem ji_mul (a b : Int) : ji j (a * b) = ji j a * ji j b := by
  unfold ji
  rw [Rat.intCast_mul, hj.mul]
theorem ji_one : ji j 1 = 1 := hj.one
theorem ji_zero : ji j 0 = 0 := hj.zero
theorem ji_neg (a : Int) : ji j (-a) = -ji j a := by
  unfold ji
  rw [Rat.intCast_neg, hj.neg]
theorem ji_sub (a b : Int) : ji j (a - b) = ji j a - ji j b := by
  rw [Int.sub_eq_add_neg, ji_add hj, ji_neg hj]
  grind
theorem ji_lt {a b : Int} (h : a < b) : ji j a < ji j b := hj.lt _ _ (Rat.intCast_lt_intCast.mpr h)
theorem ji_le {a b : Int} (h : a ≤ b) : ji j a ≤ ji j b := hj.le (Rat.intCast_le_intCast.mpr h)
theorem lt_ji {a b : Int} (h : ji j a < ji j b) : a < b := by
  rcases Int.lt_or_le a b with z | z
  · exact z
  · have := ji_le hj z
    grind
theorem le_ji {a b : Int} (h : ji j a ≤ ji j b) : a ≤ b := by
  rcases Int.lt_or_le b a with z | z
  · have := ji_lt hj z
    grind
  · exact z
theorem ji2 : ji j 2 = 2 := by
  have := ji_add hj 1 1
  rw [ji_one hj] at this
  exact this.trans (by grind)
theorem ji3 : ji j 3 = 3 := by
  have := ji_add hj 2 1
  rw [ji_one hj, ji2 hj] at this
  exact this.trans (by grind)
theorem ji4 : ji j 4 = 4 := by
  have := ji_add hj 3 1
  rw [ji_one hj, ji3 hj] at this
  exact this.trans (by grind)
theorem ji5 : ji j 5 = 5 := by
  have := ji_add hj 4 1
  rw [ji_one hj, ji4 hj] at this
  exact this.trans (by grind)
theorem ji10 : ji j 10 = 10 := by
  have := ji_mul hj 5 2
  rw [ji5 hj, ji2 hj] at this
  exact this.trans (by grind)
theorem ji_EE (n : Nat) : ji j (EE (n + 1)) = ji j (EE n) + ji j (EE n) * (ji j (PP n) + 1) + ji j (VV n) * ji j (RR n) + 1 := by
  show ji j (EE n + EE n * (PP n + 1) + VV n * RR n + 1) = _
  simp only [ji_add hj, ji_mul hj, ji_one hj]
theorem ji_RR (n : Nat) : ji j (RR n) = 4 * ji j (EE n) + 3 := by
  unfold RR
  simp only [ji_add hj, ji_mul hj, ji4 hj, ji3 hj]
theorem ji_VV (n : Nat) : ji j (VV (n + 1)) = ji j (VV n) + ji j (VV n) * ji j (PP n) := by
  show ji j (VV n + VV n * PP n) = _
  simp only [ji_add hj, ji_mul hj]
theorem tS_pos : 0 < ji j tS := by
  have := ji_lt hj (show (0 : Int) < tS by decide)
  rwa [ji_zero hj] at this
/-- a leaf's value times its lower part -/
theorem val0 {a b : Int} (h : 0 < b) : j (rat (a, b)) * ji j b = ji j a := by
  have e := OF.rat_den (x := (a, b)) (show b ≠ 0 by omega)
  unfold ji
  rw [← hj.mul]
  exact congrArg j e
/-- the roots' worths, and how large the roots are -/
def RtOk (j : Rat → L) (ρ : Nat → L) (rs : Nat → Int) (n : Nat) : Prop := ∀ k, k < n → Ab (ji j (rs k) - ji j tS * ρ k) (ji j (RR k)) ∧ 0 < ρ k ∧ ρ k ≤ ji j (PP k) ∧ 0 ≤ rs k
theorem val_ab : (n : Nat) → {x : Nm n} → AllL Lf n x → (∀ k, k < n → 0 < ρ k ∧ ρ k ≤ ji j (PP k)) → Ab (val j ρ n x) (ji j (VV n))
  | 0, x, h, _ => by
    obtain ⟨a, b⟩ : Int × Int := x
    obtain ⟨⟨h1, _⟩, h2⟩ := h
    simp only at h1 h2
    have e := val0 hj (a := a) h1
    have hb := ji_lt hj h1
    rw [ji_zero hj] at hb
    have k1 := ji_le hj (show a ≤ 6 * b by omega)
    have k2 := ji_le hj (show -(6 * b) ≤ a by omega)
    rw [ji_neg hj, ji_mul hj] at k2
    rw [ji_mul hj] at k1
    show Ab (j (rat (a, b))) (ji j 6)
    generalize j (rat (a, b)) = v at *
    generalize ji j 6 = s at *
    rw [← e] at k1 k2
    constructor
    · exact cancel_le hb (by grind)
    · exact cancel_le hb (by grind)
  | n + 1, x, h, g => by
    have a1 := val_ab n h.1 fun k hk => g k (by omega)
    have a2 := val_ab n h.2 fun k hk => g k (by omega)
    obtain ⟨g1, g2⟩ := g n (by omega)
    rw [ji_VV hj]
    exact a1.add (a2.mul ⟨by grind, g2⟩)
theorem wor_ab {rs : Nat → Int} : (n : Nat) → n ≤ 3 → {x : Nm n} → AllL Lf n x → RtOk j ρ rs n → Ab (ji j (worN rs n x) - ji j tS * val j ρ n x) (ji j (EE n))
  | 0, _, x, h, _ => by
    obtain ⟨a, b⟩ : Int × Int := x
    obtain ⟨⟨h1, _⟩, h2⟩ := h
    simp only at h1 h2
    have e := val0 hj (a := a) h1
    have hb := ji_lt hj h1
    rw [ji_zero hj] at hb
    have d1 : (a * tS).fdiv b * b ≤ a * tS := by
      have := Int.fmod_nonneg_of_pos (a * tS) h1
      have q := fdm (a * tS) b
      omega
    have d2 : a * tS ≤ (a * tS).fdiv b * b + b := by
      have := Int.fmod_lt_of_pos (a * tS) h1
      have q := fdm (a * tS) b
      omega
    have k1 := ji_le hj d1
    have k2 := ji_le hj d2
    rw [ji_mul hj, ji_mul hj] at k1
    rw [ji_mul hj, ji_add hj, ji_mul hj] at k2
    show Ab (ji j ((a * tS).fdiv b) - ji j tS * j (rat (a, b))) (ji j 1)
    rw [ji_one hj]
    generalize ji j ((a * tS).fdiv b) = q at *
    generalize ji j tS = s at *
    generalize j (rat (a, b)) = v at *
    rw [← e] at k1 k2
    constructor
    · exact cancel_le hb (by grind)
    · exact cancel_le hb (by grind)
  | n + 1, hn, x, h, g => by
    have a1 := wor_ab n (by omega) h.1 fun k hk => g k (by omega)
    have a2 := wor_ab n (by omega) h.2 fun k hk => g k (by omega)
    have a3 := val_ab hj n h.2 fun k hk => ⟨(g k (by omega)).2.1, (g k (by omega)).2.2.1⟩
    obtain ⟨g1, g2, g3, g4⟩ := g n (by omega)
    have sp := tS_pos hj
    have rr := ji_le hj (RR_le (n := n) (by omega))
    have r0 := ji_le hj g4
    rw [ji_zero hj] at r0
    have d1 : (worN rs n x.2 * rs n).fdiv tS * tS ≤ worN rs n x.2 * rs n := by
      have := Int.fmod_nonneg_of_pos (worN rs n x.2 * rs n) (show 0 < tS by decide)
      have q := fdm (worN rs n x.2 * rs n) tS
      omega
    have d2 : worN rs n x.2 * rs n ≤ (worN rs n x.2 * rs n).fdiv tS * tS + tS := by
      have := Int.fmod_lt_of_pos (worN rs n x.2 * rs n) (show 0 < tS by decide)
      have q := fdm (worN rs n x.2 * rs n) tS
      omega
    have k1 := ji_le hj d1
    have k2 := ji_le hj d2
    rw [ji_mul hj, ji_mul hj] at k1
    rw [ji_mul hj, ji_add hj, ji_mul hj] at k2
    have r1 : ji j (rs n) ≤ (ji j (PP n) + 1) * ji j tS := by
      obtain ⟨g11, g12⟩ := g1
      have := mnn (a := ji j tS) (b := ji j (PP n) - ρ n) (by grind) (by grind)
      grind
    have w := worth_step sp a1 a2 g1 a3 r0 r1 k1 k2
    rw [ji_EE hj]
    show Ab (ji j (worN rs n x.1 + (worN rs n x.2 * rs n).fdiv tS) - ji j tS * (val j ρ n x.1 + val j ρ n x.2 * ρ n)) _
    rw [ji_add hj]
    exact w
/-- a new root is well told -/
theorem rtOk_snoc {n : Nat} (hn : n ≤ 2) {rs rs' : Nat → Int} {x : Nm n} {rt : Int} (hx : AllL Lf n x) (h : RtOk j ρ rs n) (h1 : ∀ k, k < n → rs' k = rs k) (h2 : rs' n = rt) (big : 100000000000000000000000000000 < worN rs n x) (r0 : 0 ≤ rt) (r1 : rt * rt ≤ worN rs n x * tS) (r2 : worN rs n x * tS < (rt + 1) * (rt + 1)) (p0 : 0 < ρ n) (pv : ρ n * ρ n = val j ρ n x) : RtOk j ρ rs' (n + 1) := by
  intro k hk
  by_cases e : k < n
  · rw [h1 k e]
    exact h k e
  · have ek : k = n := by omega
    subst ek
    rw [h2]
    have w := wor_ab hj k (by omega) hx h
    have v := val_ab hj k hx fun k' hk' => ⟨(h k' hk').2.1, (h k' hk').2.2.1⟩
    obtain ⟨pv1, pv2⟩ := PV hn
    have rb : 3 * tS ≤ 10 * rt := by
      rcases Int.lt_or_le (10 * rt) (3 * tS) with z | z
      · have z1 : rt + 1 ≤ 300000000000000000000000000000 := by
          have : tS = 1000000000000000000000000000000 := rfl
          omega
        have z2 : (rt + 1) * (rt + 1) ≤ 300000000000000000000000000000 * 300000000000000000000000000000 := Int.mul_le_mul z1 z1 (by omega) (by decide)
        have z3 : (100000000000000000000000000000 : Int) * tS ≤ worN rs k x * tS := Int.mul_le_mul_of_nonneg_right (by omega) (by decide)
        have : (100000000000000000000000000000 : Int) * tS = 100000000000000000000000000000000000000000000000000000000000 := by decide
        omega
      · exact z
    have q1 := ji_le hj r1
    have q2 := ji_le hj (Int.le_of_lt r2)
    have q3 := ji_le hj rb
    have q4 := ji_le hj (show (10 : Int) ≤ rt by have : tS = 1000000000000000000000000000000 := rfl; omega)
    rw [ji_mul hj, ji_mul hj] at q1
    rw [ji_mul hj, ji_mul hj, ji_add hj, ji_one hj] at q2
    rw [ji_mul hj, ji_mul hj, ji3 hj, ji10 hj] at q3
    rw [ji10 hj] at q4
    refine ⟨?_, p0, ?_, r0⟩
    · rw [ji_RR hj]
      exact root_step (tS_pos hj) w p0 pv q1 (by grind) q3 q4
    · have b1 := ji_le hj pv1
      have b2 := ji_le hj pv2
      rw [ji_mul hj] at b1
      rw [ji_zero hj] at b2
      exact root_le p0 pv v.2 b1 b2
end
end
/-- a tower whose roots the law knows -/
def TwOk {n : Nat} (t : Tw n) (rs : Nat → Int) : Prop := ∀ (L : Type) [Lean.Grind.Field L] [LE L] [LT L] [Std.LawfulOrderLT L] [Std.IsLinearOrder L] [Lean.Grind.OrderedRing L] (j : Rat → L) (ρ : Nat → L), Hom j → TwV j ρ t → RtOk j ρ rs n
theorem TwOk.nil (rs : Nat → Int) : TwOk Tw.nil rs := fun L _ _ _ _ _ _ j ρ _ _ k hk => by omega
theorem TwOk.snoc {n : Nat} (hn : n ≤ 2) {t : Tw n} {rs rs' : Nat → Int} (h : TwOk t rs) {x : Nm n} {rt : Int} (hx : AllL Lf n x) (h1 : ∀ k, k < n → rs' k = rs k) (h2 : rs' n = rt) (big : 100000000000000000000000000000 < worN rs n x) (r0 : 0 ≤ rt) (r1 : rt * rt ≤ worN rs n x * tS) (r2 : worN rs n x * tS < (rt + 1) * (rt + 1)) : TwOk (.snoc t x) rs' :=
  fun L _ _ _ _ _ _ j ρ hj hv => rtOk_snoc hj hn hx (h L j ρ hj hv.1) h1 h2 big r0 r1 r2 hv.2.1 hv.2.2
theorem Lf.pd {x : Int × Int} (h : Lf x) : Pd x := h.1.1
theorem mdl_snoc {n : Nat} (hn : n ≤ 2) {t : Tw n} {rs : Nat → Int} (m : Mdl t) (ht : TwAll Lf t) (h : TwOk t rs) {x : Nm n} (hx : AllL Lf n x) (big : 100000000000000000000000000000 < worN rs n x) : Mdl (.snoc t x) := by
  refine m.snoc (twAll_imp (fun _ g => Lf.pd g) t ht) (AllL.imp (fun _ g => Lf.pd g) n hx) ?_
  obtain ⟨L, i1, i2, i3, i4, i5, i6, j, ρ, hj, hv⟩ := m
  rw [sign_val hj t hv (twAll_imp (fun _ g => Lf.pd g) t ht) (AllL.imp (fun _ g => Lf.pd g) n hx)]
  have w := wor_ab hj n (by omega) hx (h L j ρ hj hv)
  have b := ji_lt hj big
  have e := ji_le hj (show EE n ≤ 100000000000000000000000000000 by have := EE_le (n := n) (by omega); omega)
  have sp := tS_pos hj
  have p : 0 < val j ρ n x := by
    by_cases z : 0 < val j ρ n x
    · exact z
    · have := mnn (a := ji j tS) (b := -val j ρ n x) (by grind) (by grind)
      obtain ⟨w1, w2⟩ := w
      grind
  rw [OF.sgn_pos p]
  decide
end FM

set_option Elab.async false
set_option linter.all false
set_option maxRecDepth 100000
set_option maxHeartbeats 4000000
/-! P5: doubling, halving: loops; the law's own root. -/
namespace FM
open PySem.Spec PyProof.Rows
open L2 (atI)
local macro_rules | `(tactic| walk_at "go") => `(tactic| simp [FM.execs, FM.exec, FM.ev, FM.evs, FM.evo, FM.evc, FM.evi, FM.Sl.d, FM.isiD, FM.cmpD, FM.negD, FM.bindT, FM.andThen_some', FM.onBl_bl, FM.wthD_some', FM.eqD_int, FM.ix_tup, FM.ix_lst, FM.atI_0, FM.atI_1, FM.atI_2, FM.op_add, FM.op_sub, FM.op_subBl, FM.biD_abs, FM.szle, FM.pl_get, FM.pl_set, FM.isOw_pl, FM.noOw_pl, FM.lk_pl, FM.lks_pl, FM.itlk_pl, FM.setAll_pl, FM.setAllD])
theorem Wbig {k : Nat} (h : k ≤ 4000) : k < W := by
  have := smW (j := (k : Int)) (by
    unfold Sm
    exact Nat.lt_of_lt_of_le (show (k : Int).natAbs < 2 ^ 12 by omega) (Nat.pow_le_pow_right (by decide) (by decide)))
  omega
theorem double_loop {c : Env → Cells → Option (Bool × Cells)} {b : Env → Cells → Option Res} {μ : Cells} (e : Int → Env) (q : Nat → Bool) (K : Nat)
    (hc : ∀ k, k ≤ K → c (e (2 ^ k)) μ = some (q k, μ)) (hb : ∀ k, k < K → b (e (2 ^ k)) μ = some (.nx (e (2 ^ (k + 1))) μ)) (hq : q K = false) :
    ∀ (d k fuel : Nat), k + d = K → d < fuel → ∃ k', k ≤ k' ∧ k' ≤ K ∧ q k' = false ∧ whileF c b fuel (e (2 ^ k)) μ = some (.nx (e (2 ^ k')) μ)
  | d, k, 0, _, h => by omega
  | 0, k, f + 1, h, _ => by
    have hk : k = K := by omega
    subst hk
    refine ⟨k, Nat.le_refl _, Nat.le_refl _, hq, ?_⟩
    unfold whileF
    rw [hc k (Nat.le_refl _), hq]
  | d + 1, k, f + 1, h, g => by
    cases z : q k with
    | false =>
      refine ⟨k, Nat.le_refl _, by omega, z, ?_⟩
      unfold whileF
      rw [hc k (by omega), z]
    | true =>
      obtain ⟨k', h1, h2, h3, h4⟩ := double_loop e q K hc hb hq d (k + 1) f (by omega) (by omega)
      refine ⟨k', by omega, h2, h3, ?_⟩
      unfold whileF
      rw [hc k (by omega), z]
      simp only
      rw [hb k (by omega)]
      exact h4
theorem halve_loop {c : Env → Cells → Option (Bool × Cells)} {b : Env → Cells → Option Res} {μ : Cells} (e : Int → Int → Option D → Env) (p : Int → Bool) (A B : Int)
    (hc : ∀ lo hi o, c (e lo hi o) μ = some (decide (1 < hi - lo), μ)) (hb : ∀ lo hi o, A ≤ lo → hi ≤ B → 1 < hi - lo → b (e lo hi o) μ = some (.nx (e (if p ((lo + hi).fdiv 2) then (lo + hi).fdiv 2 else lo) (if p ((lo + hi).fdiv 2) then hi else (lo + hi).fdiv 2) (some (.int ((lo + hi).fdiv 2)))) μ)) :
    ∀ (d fuel : Nat) (lo hi : Int) (o : Option D), d < fuel → A ≤ lo → hi ≤ B → lo < hi → hi - lo ≤ ((2 ^ d : Nat) : Int) → p lo = true → p hi = false → ∃ lo' o', lo ≤ lo' ∧ lo' < hi ∧ p lo' = true ∧ p (lo' + 1) = false ∧ whileF c b fuel (e lo hi o) μ = some (.nx (e lo' (lo' + 1) o') μ)
  | d, 0, lo, hi, o, h, _, _, _, _, _, _ => by omega
  | d, f + 1, lo, hi, o, h, hA, hB, hlt, hd, pl, ph => by
    by_cases z : 1 < hi - lo
    · obtain ⟨d, rfl⟩ : ∃ d', d = d' + 1 := by
        cases d with
        | zero => simp at hd; omega
        | succ d => exact ⟨d, rfl⟩
      have e2 : ((2 ^ (d + 1) : Nat) : Int) = 2 * ((2 ^ d : Nat) : Int) := by rw [Nat.pow_succ]; omega
      have m1 : (lo + hi).fdiv 2 * 2 ≤ lo + hi := by
        have := Int.fmod_nonneg_of_pos (lo + hi) (show (0 : Int) < 2 by decide)
        have := fdm (lo + hi) 2
        omega
      have m2 : lo + hi < (lo + hi).fdiv 2 * 2 + 2 := by
        have := Int.fmod_lt_of_pos (lo + hi) (show (0 : Int) < 2 by decide)
        have := fdm (lo + hi) 2
        omega
      have st := hb lo hi o hA hB z
      unfold whileF
      rw [hc, decide_eq_true z]
      simp only
      rw [st]
      generalize (lo + hi).fdiv 2 = mid at *
      cases pm : p mid with
      | true =>
        simp only [if_true]
        obtain ⟨lo', o', h1, h2, h3, h4, h5⟩ := halve_loop e p A B hc hb d f mid hi (some (.int mid)) (by omega) (by omega) hB (by omega) (by omega) pm ph
        exact ⟨lo', o', by omega, h2, h3, h4, h5⟩
      | false =>
        simp only [Bool.false_eq_true, if_false]
        obtain ⟨lo', o', h1, h2, h3, h4, h5⟩ := halve_loop e p A B hc hb d f lo mid (some (.int mid)) (by omega) hA (by omega) (by omega) (by omega) pl pm
        exact ⟨lo', o', h1, by omega, h3, h4, h5⟩
    · have eh : hi = lo + 1 := by omega
      subst eh
      refine ⟨lo, o, Int.le_refl _, by omega, pl, ph, ?_⟩
      unfold whileF
      rw [hc, decide_eq_false z]
theorem sm_pow2 (k : Nat) : Sm (k + 1) ((2 : Int) ^ k) := by
  unfold Sm
  rw [Int.natAbs_pow]
  exact Nat.pow_lt_pow_right (by decide) (by omega)
theorem dv2 : Dv 2 := .inl (by decide)
/-- the law's own root -/
theorem law_root_ok {F : Fs} {whole : Int} (μ : Cells) {K : Nat} (hK : K ≤ 1000) (h0 : 0 ≤ whole) (h1 : whole < 2 ^ K * 2 ^ K) : ∃ r, runFn F W ⟨1, 4, B__law_root⟩ [.int whole] μ = some (.int r, μ) ∧ 0 ≤ r ∧ r * r ≤ whole ∧ whole < (r + 1) * (r + 1) := by
  have s0 : exec F W (.asgT [1, 2] (.tup (.cons (.int 0) (.cons (.int 1) .nil)))) (pl [some (.int whole), none, none, none]) μ = some (.nx (pl [some (.int whole), some (.int 0), some (.int 1), none]) μ) := by
    walk_at "go"
  obtain ⟨k, k1, k2, k3, k4⟩ := double_loop (c := fun ρ' μ' => onBl (ev F (.cmp .LtE (.op .Mult (.var 2) (.var 2)) (.var 0)) ρ' μ') fun x μ1 => some (x, μ1)) (b := fun ρ' μ' => execs F W (.cons (.asg 2 (.op .Mult (.int 2) (.var 2))) .nil) ρ' μ') (μ := μ) (fun h => pl [some (.int whole), some (.int 0), some (.int h), none]) (fun k => decide ((2 : Int) ^ k * 2 ^ k ≤ whole)) K
    (fun k hk => by
      have m := op_mul (sm_pow2 k) (sm_pow2 k) (by omega)
      generalize (2 : Int) ^ k = x at *
      walk_at "go"
      simp [m, andThen_some', wthD_some', cmpD, onBl_bl])
    (fun k hk => by
      have m := op_mul (a := 2) (j := 2) (show Sm 2 2 by unfold Sm; decide) (sm_pow2 k) (by omega)
      have e : (2 : Int) ^ (k + 1) = 2 * 2 ^ k := by rw [Int.pow_succ, Int.mul_comm]
      rw [e]
      generalize (2 : Int) ^ k = x at *
      walk_at "go"
      simp [m, andThen_some', wthD_some'])
    (decide_eq_false (by omega)) K 0 W (by omega) (Wbig (by omega))
  have k3' : ¬ ((2 : Int) ^ k * 2 ^ k ≤ whole) := of_decide_eq_false k3
  have pk : 0 < (2 : Int) ^ k := Int.pow_pos (by decide)
  obtain ⟨r, o', r1, r2, r3, r4, r5⟩ := halve_loop (c := fun ρ' μ' => onBl (ev F (.cmp .Gt (.op .Sub (.var 2) (.var 1)) (.int 1)) ρ' μ') fun x μ1 => some (x, μ1)) (b := fun ρ' μ' => execs F W (.cons (.asg 3 (.op .FloorDiv (.op .Add (.var 1) (.var 2)) (.int 2))) (.cons (.ifs (.cmp .LtE (.op .Mult (.var 3) (.var 3)) (.var 0)) (.cons (.asg 1 (.var 3)) .nil) (.cons (.asg 2 (.var 3)) .nil)) .nil)) ρ' μ') (μ := μ)
    (fun lo hi o => pl [some (.int whole), some (.int lo), some (.int hi), o]) (fun m => decide (m * m ≤ whole)) 0 (2 ^ k)
    (fun lo hi o => by
      walk_at "go")
    (fun lo hi o hA hB hz => by
      have d := op_div (lo + hi) dv2
      have m1 : (lo + hi).fdiv 2 * 2 ≤ lo + hi := by
        have := Int.fmod_nonneg_of_pos (lo + hi) (show (0 : Int) < 2 by decide)
        have := fdm (lo + hi) 2
        omega
      have m2 : lo + hi < (lo + hi).fdiv 2 * 2 + 2 := by
        have := Int.fmod_lt_of_pos (lo + hi) (show (0 : Int) < 2 by decide)
        have := fdm (lo + hi) 2
        omega
      have sm : Sm (k + 1) ((lo + hi).fdiv 2) := by
        have := sm_pow2 k
        unfold Sm at *
        omega
      have mm := op_mul sm sm (by omega)
      generalize (lo + hi).fdiv 2 = x at *
      refine seq_nx (ρ1 := pl [some (.int whole), some (.int lo), some (.int hi), some (.int x)]) (μ1 := μ) ?_ ?_
      · walk_at "go"
        simp [d, andThen_some', wthD_some']
      · by_cases z : x * x ≤ whole
        · refine seq_nx (ifs_t (μ1 := μ) ?_ rfl) ?_
          · walk_at "go"
            simp [mm, z, andThen_some', wthD_some', cmpD]
          · simp [z]
            rfl
        · refine seq_nx (ifs_f (μ1 := μ) ?_ rfl) ?_
          · walk_at "go"
            simp [mm, z, andThen_some', wthD_some', cmpD]
          · simp [z]
            rfl) (k + 1) W 0 (2 ^ k) none (Wbig (by omega)) (Int.le_refl _) (Int.le_refl _) pk (by
        have := (sm_pow2 k)
        unfold Sm at this
        omega) (decide_eq_true (by omega)) k3
  refine ⟨r, run_pl rfl (Nat.le_of_ble_eq_true rfl) ?_, r1, of_decide_eq_true r3, by have := of_decide_eq_false r4; omega⟩
  have t1 : (2 : Int) ^ 0 = 1 := rfl
  rw [t1] at k4
  exact seq_nx s0 (seq_nx (whl_of k4) (seq_nx (whl_of r5) (seq_rt rfl)))
end FM

set_option Elab.async false
set_option linter.all false
set_option maxRecDepth 100000
set_option maxHeartbeats 4000000
/-! P6: more fuel, the same answer. -/
namespace FM
/-- what the first answers, the second answers too -/
def Le {α : Type} (a b : Option α) : Prop := a = none ∨ a = b
theorem Le.refl {α : Type} (a : Option α) : Le a a := .inr rfl
theorem Le.none {α : Type} (b : Option α) : Le Option.none b := .inl rfl
theorem Le.some {α : Type} {a b : Option α} {r : α} (h : Le a b) (e : a = Option.some r) : b = Option.some r := by
  rcases h with h | h
  · rw [h] at e; cases e
  · rw [← h]; exact e
theorem andThen_le {α β : Type} {x y : Rs α} {f g : α → Cells → Option β} (h : Le x y) (k : ∀ a μ, Le (f a μ) (g a μ)) : Le (andThen x f) (andThen y g) := by
  rcases h with h | h
  · rw [h]; exact .inl rfl
  · rw [h]
    cases y with
    | none => exact .inl rfl
    | some p => exact k p.1 p.2
theorem onBl_le {β : Type} {x y : Rs D} {f g : Bool → Cells → Option β} (h : Le x y) (k : ∀ a μ, Le (f a μ) (g a μ)) : Le (onBl x f) (onBl y g) := by
  rcases h with h | h
  · rw [h]; exact .inl rfl
  · rw [h]
    cases y with
    | none => exact .inl rfl
    | some p =>
      obtain ⟨d, μ⟩ := p
      cases d with
      | bl b => exact k b μ
      | _ => exact .inl rfl
theorem ite_le {α : Type} {c : Prop} [Decidable c] {a b a' b' : Option α} (h : Le a a') (g : Le b b') : Le (if c then a else b) (if c then a' else b') := by
  split
  · exact h
  · exact g
theorem lcGo_le {tg : Tg} {c c' : Env → Cells → Option (Bool × Cells)} {f f' : Env → Cells → Option (D × Cells)} {ρ : Env} (hc : ∀ ρ μ, Le (c ρ μ) (c' ρ μ)) (hf : ∀ ρ μ, Le (f ρ μ) (f' ρ μ)) : ∀ (xs : List D) (μ : Cells), Le (lcGo tg c f ρ xs μ) (lcGo tg c' f' ρ xs μ)
  | [], μ => .inr rfl
  | x :: xs, μ => by
    unfold lcGo
    cases bindT tg x ρ with
    | none => exact .inl rfl
    | some ρ1 =>
      simp only
      rcases hc ρ1 μ with h | h
      · rw [h]; exact .inl rfl
      · rw [h]
        cases c' ρ1 μ with
        | none => exact .inl rfl
        | some p =>
          obtain ⟨b, μ1⟩ := p
          cases b with
          | false => exact lcGo_le hc hf xs μ1
          | true =>
            simp only
            rcases hf ρ1 μ1 with g | g
            · rw [g]; exact .inl rfl
            · rw [g]
              cases f' ρ1 μ1 with
              | none => exact .inl rfl
              | some q =>
                obtain ⟨y, μ2⟩ := q
                simp only
                rcases lcGo_le hc hf xs μ2 with k | k
                · rw [k]; exact .inl rfl
                · rw [k]; exact .inr rfl
theorem whileF_le {c c' : Env → Cells → Option (Bool × Cells)} {b b' : Env → Cells → Option Res} (hc : ∀ ρ μ, Le (c ρ μ) (c' ρ μ)) (hb : ∀ ρ μ, Le (b ρ μ) (b' ρ μ)) : ∀ (n : Nat) (ρ : Env) (μ : Cells), Le (whileF c b n ρ μ) (whileF c' b' n ρ μ)
  | 0, ρ, μ => .inr rfl
  | n + 1, ρ, μ => by
    unfold whileF
    rcases hc ρ μ with h | h
    · rw [h]; exact .inl rfl
    · rw [h]
      cases c' ρ μ with
      | none => exact .inl rfl
      | some p =>
        obtain ⟨t, μ1⟩ := p
        cases t with
        | false => exact .inr rfl
        | true =>
          simp only
          rcases hb ρ μ1 with g | g
          · rw [g]; exact .inl rfl
          · rw [g]
            cases b' ρ μ1 with
            | none => exact .inl rfl
            | some r =>
              cases r with
              | nx ρ2 μ2 => exact whileF_le hc hb n ρ2 μ2
              | ct ρ2 μ2 => exact whileF_le hc hb n ρ2 μ2
              | bk ρ2 μ2 => exact .inr rfl
              | rt d μ2 => exact .inr rfl
theorem forF_le {tg : Tg} {b b' : Env → Cells → Option Res} (hb : ∀ ρ μ, Le (b ρ μ) (b' ρ μ)) : ∀ (xs : List D) (ρ : Env) (μ : Cells), Le (forF tg b xs ρ μ) (forF tg b' xs ρ μ)
  | [], ρ, μ => .inr rfl
  | x :: xs, ρ, μ => by
    unfold forF
    cases bindT tg x ρ with
    | none => exact .inl rfl
    | some ρ1 =>
      simp only
      rcases hb ρ1 μ with g | g
      · rw [g]; exact .inl rfl
      · rw [g]
        cases b' ρ1 μ with
        | none => exact .inl rfl
        | some r =>
          cases r with
          | nx ρ2 μ2 => exact forF_le hb xs ρ2 μ2
          | ct ρ2 μ2 => exact forF_le hb xs ρ2 μ2
          | bk ρ2 μ2 => exact .inr rfl
          | rt d μ2 => exact .inr rfl
def FLe (F F' : Fs) : Prop := ∀ f ds μ, Le (F f ds μ) (F' f ds μ)
section
variable {F F' : Fs} (h : FLe F F')
include h
mutual
theorem ev_le : (e : E) → (ρ : Env) → (μ : Cells) → Le (ev F e ρ μ) (ev F' e ρ μ)
  | .var _, ρ, μ => by unfold ev; exact .inr rfl
  | .int _, _, _ => by unfold ev; exact .inr rfl
  | .bl _, _, _ => by unfold ev; exact .inr rfl
  | .non, _, _ => by unfold ev; exact .inr rfl
  | .str _, _, _ => by unfold ev; exact .inr rfl
  | .op o a b, ρ, μ => by unfold ev; exact andThen_le (ev_le a ρ μ) fun x μ1 => andThen_le (ev_le b ρ μ1) fun y μ2 => .inr rfl
  | .neg a, ρ, μ => by unfold ev; exact andThen_le (ev_le a ρ μ) fun x μ1 => .inr rfl
  | .cmp o a b, ρ, μ => by unfold ev; exact andThen_le (ev_le a ρ μ) fun x μ1 => andThen_le (ev_le b ρ μ1) fun y μ2 => .inr rfl
  | .chn o o' a b c, ρ, μ => by
    unfold ev
    refine andThen_le (ev_le a ρ μ) fun x μ1 => andThen_le (ev_le b ρ μ1) fun y μ2 => ?_
    cases cmpD o x y with
    | none => exact .inl rfl
    | some t => cases t with
      | false => exact .inr rfl
      | true => exact andThen_le (ev_le c ρ μ2) fun z μ3 => .inr rfl
  | .and a b, ρ, μ => by unfold ev; exact onBl_le (ev_le a ρ μ) fun x μ1 => ite_le (onBl_le (ev_le b ρ μ1) fun _ _ => .inr rfl) (.inr rfl)
  | .or a b, ρ, μ => by unfold ev; exact onBl_le (ev_le a ρ μ) fun x μ1 => ite_le (.inr rfl) (onBl_le (ev_le b ρ μ1) fun _ _ => .inr rfl)
  | .not a, ρ, μ => by unfold ev; exact onBl_le (ev_le a ρ μ) fun x μ1 => .inr rfl
  | .ife c a b, ρ, μ => by unfold ev; exact onBl_le (ev_le c ρ μ) fun x μ1 => ite_le (ev_le a ρ μ1) (ev_le b ρ μ1)
  | .tup es, ρ, μ => by unfold ev; exact ite_le (.inr rfl) (andThen_le (evs_le es ρ μ) fun _ _ => .inr rfl)
  | .lst es, ρ, μ => by unfold ev; exact ite_le (.inr rfl) (andThen_le (evs_le es ρ μ) fun _ _ => .inr rfl)
  | .ix a b, ρ, μ => by unfold ev; exact andThen_le (ev_le a ρ μ) fun x μ1 => andThen_le (ev_le b ρ μ1) fun y μ2 => .inr rfl
  | .sl a lo hi, ρ, μ => by unfold ev; exact andThen_le (ev_le a ρ μ) fun x μ1 => andThen_le (evo_le lo ρ μ1) fun y μ2 => andThen_le (evo_le hi ρ μ2) fun z μ3 => .inr rfl
  | .call f es, ρ, μ => by unfold ev; exact ite_le (.inr rfl) (andThen_le (evs_le es ρ μ) fun xs μ1 => h f xs μ1)
  | .callB f es, ρ, μ => by
    unfold ev
    refine andThen_le (evs_le es ρ μ) fun xs μ1 => ite_le ?_ (.inr rfl)
    rcases h f xs [] with g | g
    · rw [g]; exact .inl rfl
    · rw [g]; exact .inr rfl
  | .bi b es, ρ, μ => by unfold ev; exact andThen_le (evs_le es ρ μ) fun _ _ => .inr rfl
  | .isi a t, ρ, μ => by unfold ev; exact andThen_le (ev_le a ρ μ) fun _ _ => .inr rfl
  | .me m o es, ρ, μ => by unfold ev; exact andThen_le (ev_le o ρ μ) fun x μ1 => andThen_le (evs_le es ρ μ1) fun _ _ => .inr rfl
  | .lc elt tg it cond, ρ, μ => by unfold ev; exact andThen_le (evi_le it ρ μ) fun xs μ1 => ite_le (andThen_le (lcGo_le (fun ρ' μ' => evc_le cond ρ' μ') (fun ρ' μ' => ite_le (.inr rfl) (ev_le elt ρ' μ')) xs μ1) fun _ _ => .inr rfl) (.inr rfl)
  | .dict ks es, ρ, μ => by unfold ev; exact ite_le (.inr rfl) (andThen_le (evs_le es ρ μ) fun _ _ => .inr rfl)
theorem evs_le : (es : Es) → (ρ : Env) → (μ : Cells) → Le (evs F es ρ μ) (evs F' es ρ μ)
  | .nil, _, _ => by unfold evs; exact .inr rfl
  | .cons e es, ρ, μ => by unfold evs; exact andThen_le (ev_le e ρ μ) fun x μ1 => andThen_le (evs_le es ρ μ1) fun _ _ => .inr rfl
theorem evo_le : (e : EO) → (ρ : Env) → (μ : Cells) → Le (evo F e ρ μ) (evo F' e ρ μ)
  | .none, _, _ => by unfold evo; exact .inr rfl
  | .some e, ρ, μ => by unfold evo; exact andThen_le (ev_le e ρ μ) fun x μ1 => .inr rfl
theorem evc_le : (e : EO) → (ρ : Env) → (μ : Cells) → Le (evc F e ρ μ) (evc F' e ρ μ)
  | .none, _, _ => by unfold evc; exact .inr rfl
  | .some e, ρ, μ => by unfold evc; exact onBl_le (ev_le e ρ μ) fun x μ1 => .inr rfl
theorem evi_le : (e : It) → (ρ : Env) → (μ : Cells) → Le (evi F e ρ μ) (evi F' e ρ μ)
  | .seq e, ρ, μ => by unfold evi; exact andThen_le (ev_le e ρ μ) fun x μ1 => .inr rfl
  | .rng1 e, ρ, μ => by unfold evi; exact andThen_le (ev_le e ρ μ) fun x μ1 => .inr rfl
  | .rng2 a b, ρ, μ => by unfold evi; exact andThen_le (ev_le a ρ μ) fun x μ1 => andThen_le (ev_le b ρ μ1) fun y μ2 => .inr rfl
  | .rng3 a b c, ρ, μ => by unfold evi; exact andThen_le (ev_le a ρ μ) fun x μ1 => andThen_le (ev_le b ρ μ1) fun y μ2 => andThen_le (ev_le c ρ μ2) fun z μ3 => .inr rfl
end
mutual
theorem exec_le (W : Nat) : (s : S) → (ρ : Env) → (μ : Cells) → Le (exec F W s ρ μ) (exec F' W s ρ μ)
  | .asg i e, ρ, μ => by unfold exec; exact ite_le (.inr rfl) (andThen_le (ev_le h e ρ μ) fun _ _ => .inr rfl)
  | .own i, ρ, μ => by unfold exec; exact .inr rfl
  | .asgT is e, ρ, μ => by unfold exec; exact ite_le (.inr rfl) (andThen_le (ev_le h e ρ μ) fun _ _ => .inr rfl)
  | .par i j a b, ρ, μ => by unfold exec; exact ite_le (.inr rfl) (andThen_le (ev_le h a ρ μ) fun _ μ1 => andThen_le (ev_le h b ρ μ1) fun _ _ => .inr rfl)
  | .aug i o e, ρ, μ => by
    unfold exec
    split
    · exact andThen_le (ev_le h e ρ μ) fun _ _ => .inr rfl
    · exact .inr rfl
  | .app i e, ρ, μ => by
    unfold exec
    split
    · exact ite_le (.inr rfl) (andThen_le (ev_le h e ρ μ) fun _ _ => .inr rfl)
    · exact .inr rfl
  | .ins i k e, ρ, μ => by
    unfold exec
    split
    · exact ite_le (.inr rfl) (andThen_le (ev_le h k ρ μ) fun _ μ1 => andThen_le (ev_le h e ρ μ1) fun _ _ => .inr rfl)
    · exact .inr rfl
  | .daug o k op e, ρ, μ => by
    unfold exec
    refine andThen_le (ev_le h o ρ μ) fun x μ1 => andThen_le (ev_le h k ρ μ1) fun y μ2 => ?_
    split
    · split
      · exact andThen_le (ev_le h e ρ μ2) fun _ _ => .inr rfl
      · exact .inr rfl
    · exact .inr rfl
  | .ret e, ρ, μ => by unfold exec; exact ite_le (.inr rfl) (andThen_le (ev_le h e ρ μ) fun _ _ => .inr rfl)
  | .ifs c a b, ρ, μ => by unfold exec; exact onBl_le (ev_le h c ρ μ) fun x μ1 => ite_le (execs_le W a ρ μ1) (execs_le W b ρ μ1)
  | .whl c b, ρ, μ => by unfold exec; exact whileF_le (fun ρ' μ' => onBl_le (ev_le h c ρ' μ') fun _ _ => .inr rfl) (fun ρ' μ' => execs_le W b ρ' μ') W ρ μ
  | .for_ tg it b, ρ, μ => by unfold exec; exact andThen_le (evi_le h it ρ μ) fun xs μ1 => ite_le (.inr rfl) (forF_le (fun ρ' μ' => execs_le W b ρ' μ') xs ρ μ1)
  | .expr e, ρ, μ => by unfold exec; exact andThen_le (ev_le h e ρ μ) fun _ _ => .inr rfl
  | .pass, _, _ => by unfold exec; exact .inr rfl
  | .brk, _, _ => by unfold exec; exact .inr rfl
  | .cont, _, _ => by unfold exec; exact .inr rfl
  | .frz _, _, _ => by unfold exec; exact .inr rfl
theorem execs_le (W : Nat) : (s : Ss) → (ρ : Env) → (μ : Cells) → Le (execs F W s ρ μ) (execs F' W s ρ μ)
  | .nil, _, _ => by unfold execs; exact .inr rfl
  | .cons s ss, ρ, μ => by
    unfold execs
    rcases exec_le W s ρ μ with g | g
    · rw [g]; exact .inl rfl
    · rw [g]
      cases exec F' W s ρ μ with
      | none => exact .inl rfl
      | some r => cases r with
        | nx ρ1 μ1 => exact execs_le W ss ρ1 μ1
        | _ => exact .inr rfl
end
theorem runFn_le (W : Nat) (fn : Fn) (ds : List D) (μ : Cells) : Le (runFn F W fn ds μ) (runFn F' W fn ds μ) := by
  unfold runFn
  refine ite_le ?_ (.inr rfl)
  rcases execs_le h W fn.body (ds.map (fun d => some (.pl d)) ++ List.replicate (fn.sl - fn.ar) none) μ with g | g
  · rw [g]; exact .inl rfl
  · rw [g]; exact .inr rfl
end
theorem call_le (T : Nat → Option Fn) (W : Nat) : ∀ n, FLe (call T W n) (call T W (n + 1))
  | 0, f, ds, μ => .inl rfl
  | n + 1, f, ds, μ => by
    show Le (match T f with | some fn => runFn (call T W n) W fn ds μ | none => none) (match T f with | some fn => runFn (call T W (n + 1)) W fn ds μ | none => none)
    cases T f with
    | none => exact .inl rfl
    | some fn => exact runFn_le (call_le T W n) W fn ds μ
end FM

set_option Elab.async false
set_option linter.all false
set_option maxRecDepth 100000
set_option maxHeartbeats 0
namespace K02
open PySem FM L2
def top (i : Nat) : Stmt := PySem.Challenge.pw_firstmet_k02_texts_of_numbers.main.body.getD i (.Pass ⟨0, 0, 0, 0⟩)
def B_law (c__law_draws : Nat) (c__law_tower : Nat) (c_is_tower : Nat) (c__law_text : Nat) (c__law_drawn : Nat) (c__law_alike : Nat) (c__law_up : Nat) (c__law_zero : Nat) (c_number : Nat) (c_nought : Nat) (c_print_tower : Nat) (c__law_fracs : Nat) (c__law_none : Nat) (c_is_of : Nat) (c_parts_of : Nat) (c_is_nought : Nat) (c_print_number : Nat) (c__law_less : Nat) (c_turned : Nat) (c_fraction_of : Nat) (c_lifted : Nat) (c__law_worth : Nat) (c_figures_of : Nat) (c_between : Nat) (c_is_below_nought : Nat) (c_floor_in : Nat) (c__law_fr : Nat) (c_order_of : Nat) (c_colour_text : Nat) (c_point_text : Nat) (c_time_number : Nat) (c_time_text : Nat) (c__law_next : Nat) (c_with_root : Nat) (c__law_mul : Nat) (c__law_height : Nat) (c_height : Nat) : Ss := (.cons (.asg 1 (.dict ["draws", "at"] (.cons (.call c__law_draws (.cons (.var 0) (.cons (.int 400) .nil))) (.cons (.int 0) .nil)))) (.cons (.for_ (.nm 2) (.rng1 (.int 4)) (.cons (.asgT [10, 11] (.call c__law_tower (.cons (.var 1) .nil))) (.cons (.asg 3 (.bi .len (.cons (.var 10) .nil))) (.cons (.ifs (.cmp .IsNot (.call c_is_tower (.cons (.var 10) .nil)) (.bl true)) (.cons (.ret (.bl false)) .nil) .nil) (.cons (.asg 4 (.me .join (.str "") (.cons (.lc (.op .Add (.op .Add (.op .Add (.op .Add (.str "r") (.bi .str (.cons (.op .Add (.var 19) (.int 1)) .nil))) (.str " = root of ")) (.call c__law_text (.cons (.ix (.var 10) (.var 19)) (.cons (.var 19) .nil)))) (.str "\n")) (.nm 19) (.rng1 (.var 3)) .none) .nil))) (.cons (.asg 5 (.lc (.call c__law_drawn (.cons (.var 1) (.cons (.var 3) .nil))) (.nm 19) (.rng1 (.int 4)) .none)) (.cons (.ifs (.not (.call c__law_alike (.cons (.tup (.cons (.call c_print_tower (.cons (.var 10) .nil)) (.cons (.call c_nought (.cons (.var 10) .nil)) (.cons (.call c_number (.cons (.tup (.cons (.int 3) (.cons (.int 4) .nil))) (.cons (.var 10) .nil))) .nil)))) (.cons (.tup (.cons (.var 4) (.cons (.call c__law_zero (.cons (.var 3) .nil)) (.cons (.call c__law_up (.cons (.tup (.cons (.int 3) (.cons (.int 4) .nil))) (.cons (.var 3) .nil))) .nil)))) .nil)))) (.cons (.ret (.bl false)) .nil) .nil) (.cons (.for_ (.nm 6) (.seq (.var 5)) (.cons (.ifs (.not (.call c__law_alike (.cons (.tup (.cons (.call c_print_number (.cons (.var 6) (.cons (.var 10) .nil))) (.cons (.call c_is_nought (.cons (.var 6) (.cons (.var 10) .nil))) (.cons (.bi .tuple (.cons (.call c_parts_of (.cons (.var 6) .nil)) .nil)) (.cons (.call c_is_of (.cons (.var 6) (.cons (.var 10) .nil))) .nil))))) (.cons (.tup (.cons (.call c__law_text (.cons (.var 6) (.cons (.var 3) .nil))) (.cons (.call c__law_none (.cons (.var 6) .nil)) (.cons (.call c__law_fracs (.cons (.var 6) .nil)) (.cons (.bl true) .nil))))) .nil)))) (.cons (.ret (.bl false)) .nil) .nil) (.cons (.asg 12 (.cmp .Eq (.lc (.var 24) (.nm 24) (.seq (.sl (.call c__law_fracs (.cons (.var 6) .nil)) (.some (.int 1)) .none)) (.some (.cmp .NotEq (.var 24) (.tup (.cons (.int 0) (.cons (.int 1) .nil)))))) (.lst .nil))) (.cons (.ifs (.or (.not (.call c__law_alike (.cons (.call c_fraction_of (.cons (.var 6) (.cons (.var 10) .nil))) (.cons (.ife (.var 12) (.ix (.call c__law_fracs (.cons (.var 6) .nil)) (.int 0)) .non) .nil)))) (.not (.call c__law_alike (.cons (.call c_turned (.cons (.var 6) .nil)) (.cons (.tup (.cons (.ix (.var 6) (.int 0)) (.cons (.call c__law_less (.cons (.ix (.var 6) (.int 1)) .nil)) .nil))) .nil))))) (.cons (.ret (.bl false)) .nil) .nil) (.cons (.asg 13 (.op .Add (.var 10) (.tup (.cons (.call c__law_up (.cons (.tup (.cons (.int 7) (.cons (.int 1) .nil))) (.cons (.var 3) .nil))) .nil)))) (.cons (.ifs (.not (.call c__law_alike (.cons (.tup (.cons (.call c_lifted (.cons (.var 6) (.cons (.var 10) (.cons (.var 13) .nil)))) (.cons (.call c_print_number (.cons (.call c_lifted (.cons (.var 6) (.cons (.var 10) (.cons (.var 13) .nil)))) (.cons (.var 13) .nil))) .nil))) (.cons (.tup (.cons (.tup (.cons (.var 6) (.cons (.call c__law_zero (.cons (.var 3) .nil)) .nil))) (.cons (.call c__law_text (.cons (.var 6) (.cons (.var 3) .nil))) .nil))) .nil)))) (.cons (.ret (.bl false)) .nil) .nil) (.cons (.asg 14 (.call c__law_worth (.cons (.var 6) (.cons (.var 11) .nil)))) (.cons (.asg 15 (.op .Sub (.var 14) (.op .Mult (.op .FloorDiv (.var 14) (.op .Pow (.int 10) (.int 24))) (.op .Pow (.int 10) (.int 24))))) (.cons (.ifs (.chn .Lt .Lt (.op .Pow (.int 10) (.int 20)) (.var 15) (.op .Sub (.op .Pow (.int 10) (.int 24)) (.op .Pow (.int 10) (.int 20)))) (.cons (.asg 20 (.call c_figures_of (.cons (.var 6) (.cons (.var 10) (.cons (.int 6) .nil))))) (.cons (.asg 17 (.op .FloorDiv (.var 14) (.op .Pow (.int 10) (.int 24)))) (.cons (.asg 21 (.op .Add (.op .Add (.op .Add (.ife (.cmp .Lt (.var 17) (.int 0)) (.str "-") (.str "")) (.bi .str (.cons (.op .FloorDiv (.bi .abs (.cons (.var 17) .nil)) (.op .Pow (.int 10) (.int 6))) .nil))) (.str ".")) (.sl (.bi .str (.cons (.op .Sub (.op .Add (.op .Pow (.int 10) (.int 6)) (.bi .abs (.cons (.var 17) .nil))) (.op .Mult (.op .FloorDiv (.bi .abs (.cons (.var 17) .nil)) (.op .Pow (.int 10) (.int 6))) (.op .Pow (.int 10) (.int 6)))) .nil)) (.some (.int 1)) .none))) (.cons (.asgT [22, 23] (.call c_between (.cons (.var 6) (.cons (.var 10) (.cons (.op .Pow (.int 10) (.int 6)) .nil))))) (.cons (.ifs (.or (.cmp .NotEq (.var 20) (.var 21)) (.not (.call c__law_alike (.cons (.tup (.cons (.call c_floor_in (.cons (.var 6) (.cons (.var 10) .nil))) (.cons (.call c_is_below_nought (.cons (.var 6) (.cons (.var 10) .nil))) .nil))) (.cons (.tup (.cons (.op .FloorDiv (.var 14) (.op .Pow (.int 10) (.int 30))) (.cons (.cmp .Lt (.var 14) (.int 0)) .nil))) .nil))))) (.cons (.ret (.bl false)) .nil) .nil) (.cons (.ifs (.not (.call c__law_alike (.cons (.tup (.cons (.var 22) (.cons (.var 23) .nil))) (.cons (.tup (.cons (.call c__law_fr (.cons (.var 17) (.cons (.op .Pow (.int 10) (.int 6)) .nil))) (.cons (.call c__law_fr (.cons (.op .Add (.var 17) (.int 1)) (.cons (.op .Pow (.int 10) (.int 6)) .nil))) .nil))) .nil)))) (.cons (.ret (.bl false)) .nil) .nil) .nil)))))) .nil) .nil))))))))) (.cons (.asg 7 (.lc (.call c__law_worth (.cons (.var 6) (.cons (.var 11) .nil))) (.nm 6) (.seq (.var 5)) .none)) (.cons (.ifs (.and (.cmp .Eq (.lc (.var 19) (.nm 19) (.rng1 (.int 3)) (.some (.cmp .Lt (.bi .abs (.cons (.op .Sub (.ix (.bi .sorted (.cons (.var 7) .nil)) (.op .Add (.var 19) (.int 1))) (.ix (.bi .sorted (.cons (.var 7) .nil)) (.var 19))) .nil)) (.op .Pow (.int 10) (.int 20))))) (.lst .nil)) (.not (.call c__law_alike (.cons (.bi .tuple (.cons (.call c_order_of (.cons (.var 5) (.cons (.var 10) .nil))) .nil)) (.cons (.bi .tuple (.cons (.lc (.var 19) (.tp [14, 19]) (.seq (.bi .sorted (.cons (.lc (.tup (.cons (.ix (.var 7) (.var 19)) (.cons (.var 19) .nil))) (.nm 19) (.rng1 (.int 4)) .none) .nil))) .none) .nil)) .nil))))) (.cons (.ret (.bl false)) .nil) .nil) (.cons (.ifs (.or (.not (.call c__law_alike (.cons (.call c_point_text (.cons (.bi .tuple (.cons (.sl (.var 5) .none (.some (.int 3))) .nil)) (.cons (.var 10) .nil))) (.cons (.me .join (.str ", ") (.cons (.lc (.call c__law_text (.cons (.var 6) (.cons (.var 3) .nil))) (.nm 6) (.seq (.sl (.var 5) .none (.some (.int 3)))) .none) .nil)) .nil)))) (.not (.call c__law_alike (.cons (.call c_colour_text (.cons (.tup (.cons (.tup (.cons (.int 1) (.cons (.int 2) .nil))) (.cons (.tup (.cons (.int 0) (.cons (.int 1) .nil))) (.cons (.tup (.cons (.int 1) (.cons (.int 1) .nil))) .nil)))) .nil)) (.cons (.str "1/2 0 1") .nil))))) (.cons (.ret (.bl false)) .nil) .nil) (.cons (.asg 8 (.tup (.cons (.ix (.var 5) (.int 0)) (.cons (.ix (.var 5) (.int 1)) (.cons (.call c__law_up (.cons (.tup (.cons (.int 5) (.cons (.int 1) .nil))) (.cons (.var 3) .nil))) .nil))))) (.cons (.asgT [16, 17] (.call c_time_number (.cons (.var 8) (.cons (.var 10) .nil)))) (.cons (.ifs (.or (.not (.call c__law_alike (.cons (.call c_time_text (.cons (.var 8) (.cons (.var 10) .nil))) (.cons (.call c_print_number (.cons (.var 17) (.cons (.var 16) .nil))) .nil)))) (.not (.call c__law_alike (.cons (.call c_print_number (.cons (.var 17) (.cons (.var 16) .nil))) (.cons (.call c__law_text (.cons (.var 17) (.cons (.bi .len (.cons (.var 16) .nil)) .nil))) .nil))))) (.cons (.ret (.bl false)) .nil) .nil) (.cons (.asg 9 (.call c__law_fr (.cons (.op .Add (.int 1) (.call c__law_next (.cons (.var 1) (.cons (.int 4) .nil)))) (.cons (.int 3) .nil)))) (.cons (.asgT [16, 18] (.call c_with_root (.cons (.call c__law_up (.cons (.call c__law_mul (.cons (.var 9) (.cons (.var 9) .nil))) (.cons (.var 3) .nil))) (.cons (.var 10) .nil)))) (.cons (.ifs (.not (.call c__law_alike (.cons (.tup (.cons (.var 16) (.cons (.var 18) .nil))) (.cons (.tup (.cons (.var 10) (.cons (.call c__law_up (.cons (.var 9) (.cons (.var 3) .nil))) .nil))) .nil)))) (.cons (.ret (.bl false)) .nil) .nil) (.cons (.ifs (.not (.call c__law_alike (.cons (.bi .tuple (.cons (.lc (.call c_height (.cons (.var 6) (.cons (.var 10) .nil))) (.nm 6) (.seq (.var 5)) .none) .nil)) (.cons (.bi .tuple (.cons (.lc (.call c__law_height (.cons (.var 6) .nil)) (.nm 6) (.seq (.var 5)) .none) .nil)) .nil)))) (.cons (.ret (.bl false)) .nil) .nil) .nil)))))))))))))))))) (.cons (.ret (.bl true)) .nil)))
def d_is_whole : FD := ⟨"is_whole", top 1, ["thing"], ["thing"], B_is_whole⟩
def d_common : FD := ⟨"common", top 2, ["one", "other"], ["one", "other"], B_common⟩
def d_frac : FD := ⟨"frac", top 3, ["upper", "lower", "shared"], ["upper", "lower"], B_frac 1⟩
def d_is_frac : FD := ⟨"is_frac", top 4, ["thing", "one"], ["thing"], B_is_frac 0 1⟩
def d_plus : FD := ⟨"plus", top 5, ["one", "other"], ["one", "other"], B_plus 2⟩
def d_minus : FD := ⟨"minus", top 6, ["one", "other"], ["one", "other"], B_minus 2⟩
def d_times : FD := ⟨"times", top 7, ["one", "other"], ["one", "other"], B_times 2⟩
def d_sign_of : FD := ⟨"sign_of", top 8, ["one"], ["one"], B_sign_of⟩
def d_floor_of : FD := ⟨"floor_of", top 9, ["one"], ["one"], B_floor_of⟩
def d_root_below : FD := ⟨"root_below", top 10, ["number", "found", "later"], ["number"], B_root_below⟩
def d_exact_root : FD := ⟨"exact_root", top 11, ["one", "upper", "lower"], ["one"], B_exact_root 9⟩
def d_text_of : FD := ⟨"text_of", top 12, ["one"], ["one"], B_text_of⟩
def d_is_of : FD := ⟨"is_of", top 14, ["thing", "tower", "part"], ["thing", "tower"], B_is_of 3 12⟩
def d_is_tower : FD := ⟨"is_tower", top 15, ["thing", "k"], ["thing"], B_is_tower 23 12⟩
def d_lifted : FD := ⟨"lifted", top 16, ["one", "tower", "higher", "k"], ["one", "tower", "higher"], B_lifted 15⟩
def d_nought : FD := ⟨"nought", top 17, ["tower"], ["tower"], B_nought 14⟩
def d_number : FD := ⟨"number", top 18, ["one", "tower"], ["one", "tower"], B_number 14⟩
def d_add : FD := ⟨"add", top 19, ["one", "other", "tower", "lower"], ["one", "other", "tower"], B_add 4 17⟩
def d_sub : FD := ⟨"sub", top 20, ["one", "other", "tower", "lower"], ["one", "other", "tower"], B_sub 5 18⟩
def d_mul : FD := ⟨"mul", top 21, ["one", "other", "tower", "both", "across", "lower", "root"], ["one", "other", "tower"], B_mul 6 20 19 17⟩
def d_is_nought : FD := ⟨"is_nought", top 22, ["one", "tower"], ["one", "tower"], B_is_nought 20⟩
def d_scaled : FD := ⟨"scaled", top 23, ["one", "part", "tower"], ["one", "part", "tower"], B_scaled 6 21⟩
def d_norm : FD := ⟨"norm", top 24, ["one", "tower", "lower"], ["one", "tower"], B_norm 18 19⟩
def d_sign : FD := ⟨"sign", top 25, ["one", "tower", "first", "second"], ["one", "tower"], B_sign 7 23 22⟩
def d_compare : FD := ⟨"compare", top 26, ["one", "other", "tower"], ["one", "other", "tower"], B_compare 23 18⟩
def d_with_root : FD := ⟨"with_root", top 27, ["one", "tower", "plain", "k", "higher"], ["one", "tower"], B_with_root 26 10 16 24 14 15⟩
def d_fraction_of : FD := ⟨"fraction_of", top 28, ["one", "tower", "k"], ["one", "tower"], B_fraction_of 20⟩
def d_height : FD := ⟨"height", top 29, ["one", "tower", "k"], ["one", "tower"], B_height 20⟩
def d_turned : FD := ⟨"turned", top 30, ["one", "first", "second"], ["one"], B_turned 29⟩
def d_negative_parts : FD := ⟨"negative_parts", top 31, ["one"], ["one"], B_negative_parts 29⟩
def d_parts_of : FD := ⟨"parts_of", top 32, ["one"], ["one"], B_parts_of 30⟩
def d_floor_in : FD := ⟨"floor_in", top 34, ["one", "tower", "far", "low", "high", "middle"], ["one", "tower"], B_floor_in 8 24 16⟩
def d_figures_of : FD := ⟨"figures_of", top 35, ["one", "tower", "many", "far", "found", "text", "before", "behind"], ["one", "tower", "many"], B_figures_of 31 21⟩
def d_between : FD := ⟨"between", top 36, ["one", "tower", "parts", "low", "found"], ["one", "tower", "parts"], B_between 31 21 2 24 16⟩
def d_print_number : FD := ⟨"print_number", top 37, ["one", "tower", "lower", "tail"], ["one", "tower"], B_print_number 11 20 34⟩
def d_print_tower : FD := ⟨"print_tower", top 38, ["tower", "rows", "k"], ["tower"], B_print_tower 34⟩
def d_is_below_nought : FD := ⟨"is_below_nought", top 39, ["one", "tower"], ["one", "tower"], B_is_below_nought 23⟩
def d_order_of : FD := ⟨"order_of", top 40, ["numbers", "tower", "found", "k", "at", "j"], ["numbers", "tower"], B_order_of 24⟩
def d_time_number : FD := ⟨"time_number", top 42, ["time", "tower", "first", "second", "under", "higher", "root"], ["time", "tower"], B_time_number 20 25 17 19 14⟩
def d_time_text : FD := ⟨"time_text", top 44, ["time", "tower", "higher", "found"], ["time", "tower"], B_time_text 38 34⟩
def d_point_text : FD := ⟨"point_text", top 45, ["point", "tower", "one"], ["point", "tower"], B_point_text 34⟩
def d_colour_text : FD := ⟨"colour_text", top 46, ["colour", "one"], ["colour"], B_colour_text 11⟩
def d__law_draws : FD := ⟨"_law_draws", top 48, ["script", "many", "draws", "mixed", "k", "cell", "rest", "turn"], ["script", "many"], B__law_draws⟩
def d__law_next : FD := ⟨"_law_next", top 49, ["w", "many"], ["w", "many"], B__law_next⟩
def d__law_pick : FD := ⟨"_law_pick", top 50, ["w", "rows"], ["w", "rows"], B__law_pick 43⟩
def d__law_alike : FD := ⟨"_law_alike", top 51, ["given", "due", "k"], ["given", "due"], B__law_alike 45⟩
def d__law_gcd : FD := ⟨"_law_gcd", top 52, ["a", "b"], ["a", "b"], B__law_gcd⟩
def d__law_fr : FD := ⟨"_law_fr", top 53, ["n", "d", "g"], ["n", "d"], B__law_fr 46⟩
def d__law_mul : FD := ⟨"_law_mul", top 54, ["a", "b"], ["a", "b"], B__law_mul 47⟩
def d__law_drawn : FD := ⟨"_law_drawn", top 55, ["w", "deep"], ["w", "deep"], B__law_drawn 43 47 49⟩
def d__law_none : FD := ⟨"_law_none", top 56, ["one"], ["one"], B__law_none 50⟩
def d__law_text : FD := ⟨"_law_text", top 57, ["one", "deep", "tail"], ["one", "deep"], B__law_text 50 51⟩
def d__law_less : FD := ⟨"_law_less", top 58, ["one"], ["one"], B__law_less 52⟩
def d__law_height : FD := ⟨"_law_height", top 59, ["one"], ["one"], B__law_height 50 53 55⟩
def d__law_up : FD := ⟨"_law_up", top 60, ["one", "more", "k"], ["one", "more"], B__law_up 56 55⟩
def d__law_deep : FD := ⟨"_law_deep", top 61, ["one"], ["one"], B__law_deep 55⟩
def d__law_zero : FD := ⟨"_law_zero", top 62, ["deep"], ["deep"], B__law_zero 56⟩
def d__law_fracs : FD := ⟨"_law_fracs", top 63, ["one"], ["one"], B__law_fracs 57⟩
def d__law_worth : FD := ⟨"_law_worth", top 64, ["one", "roots", "deep"], ["one", "roots"], B__law_worth 55 58⟩
def d__law_root : FD := ⟨"_law_root", top 65, ["whole", "low", "high", "middle"], ["whole"], B__law_root⟩
def d__law_tower : FD := ⟨"_law_tower", top 66, ["w", "root", "tower", "roots", "own", "worth"], ["w"], B__law_tower 44 43 49 58 59⟩
def d_law : FD := ⟨"law", top 67, ["script", "w", "turn", "deep", "rows", "numbers", "one", "worths", "time", "side", "tower", "roots", "plain", "higher", "worth", "gap", "top", "told", "root", "k", "text", "due", "low", "high", "part"], ["script"], B_law 42 60 13 51 49 45 54 56 16 15 35 57 50 12 30 20 34 52 28 26 14 58 32 33 36 31 47 37 41 40 38 39 43 25 48 53 27⟩
def defs : List FD := [d_is_whole, d_common, d_frac, d_is_frac, d_plus, d_minus, d_times, d_sign_of, d_floor_of, d_root_below, d_exact_root, d_text_of, d_is_of, d_is_tower, d_lifted, d_nought, d_number, d_add, d_sub, d_mul, d_is_nought, d_scaled, d_norm, d_sign, d_compare, d_with_root, d_fraction_of, d_height, d_turned, d_negative_parts, d_parts_of, d_floor_in, d_figures_of, d_between, d_print_number, d_print_tower, d_is_below_nought, d_order_of, d_time_number, d_time_text, d_point_text, d_colour_text, d__law_draws, d__law_next, d__law_pick, d__law_alike, d__law_gcd, d__law_fr, d__law_mul, d__law_drawn, d__law_none, d__law_text, d__law_less, d__law_height, d__law_up, d__law_deep, d__law_zero, d__law_fracs, d__law_worth, d__law_root, d__law_tower, d_law]
/-- the law: its number, its place in the top -/
def lawNo : Nat := 61
def lawAt : Nat := 67
def fs : List Str := defs.map FD.name
theorem chk_all : (defs.all fun d => d.chk fs) = true := by decide +kernel
end K02

set_option Elab.async false
set_option linter.all false
set_option maxRecDepth 100000
set_option maxHeartbeats 4000000
namespace K02
open FM
open PySem (Str sizeLine)
abbrev T (n : Nat) : Fs := call (tabOf defs) W n
theorem common_at (n : Nat) : CommonC (T (n + 1)) 1 := fun a b μ h => (call_at (d := d_common) rfl _ _).trans (common_ok a b h μ)
theorem frac_at (n : Nat) : FracC (T (n + 2)) 2 := fun a b μ h => (call_at (d := d_frac) rfl _ _).trans (frac_ok (common_at n) a b μ h)
theorem whole_at (n : Nat) (i : Int) (μ : Cells) : T (n + 1) 0 [.int i] μ = some (.bl true, μ) := (call_at (d := d_is_whole) rfl _ _).trans (is_whole_int i μ)
theorem isfrac_at (n : Nat) (x : Int × Int) (μ : Cells) (h : Sm 4000 x.2) : T (n + 2) 3 [fD x] μ = some (.bl (decide (0 < x.2) && decide ((Int.gcd x.1 x.2 : Int) = 1)), μ) := (call_at (d := d_is_frac) rfl _ _).trans (is_frac_ok (whole_at n) (common_at n) x h μ)
theorem gcd_at (n : Nat) (a b : Int) (μ : Cells) (h : Gp a b) : T (n + 1) 46 [.int a, .int b] μ = some (.int (Int.gcd a b), μ) := (call_at (d := d__law_gcd) rfl _ _).trans (gcd_ok a b h μ)
theorem lfr_at (n : Nat) : LFracC (T (n + 2)) 47 := fun a b μ ha h => (call_at (d := d__law_fr) rfl _ _).trans (law_fr_ok (gcd_at n) a b μ ha h)
theorem root_at (n : Nat) : RootC (T (n + 1)) 9 := fun m μ h g => by
  obtain ⟨r, h1, h2⟩ := root_below_ok (F := T n) m μ h g
  exact ⟨r, (call_at (d := d_root_below) rfl _ _).trans h1, h2⟩
abbrev G (m : Nat) : Fs := T (m + 5)
def ids : Ids := ⟨4, 5, 6, 7, 17, 18, 19, 20, 22, 23, 24⟩
def ids2 : Ids2 := ⟨15, 14, 16, 26, 10, 25⟩
theorem tf : TF G ids where
  plus := fun m x y μ hx hy => (call_at (d := d_plus) rfl _ _).trans (plus_ok hx hy μ (frac_at (m + 2)))
  minus := fun m x y μ hx hy => (call_at (d := d_minus) rfl _ _).trans (minus_ok hx hy μ (frac_at (m + 2)))
  times := fun m x y μ hx hy => (call_at (d := d_times) rfl _ _).trans (times_ok hx hy μ (frac_at (m + 2)))
  sgn := fun m x μ => (call_at (d := d_sign_of) rfl _ _).trans (sign_of_ok x μ)
  add := fun m ds μ => call_at (d := d_add) rfl _ _
  sub := fun m ds μ => call_at (d := d_sub) rfl _ _
  isn := fun m ds μ => call_at (d := d_is_nought) rfl _ _
  mul := fun m ds μ => call_at (d := d_mul) rfl _ _
  norm := fun m ds μ => call_at (d := d_norm) rfl _ _
  sign := fun m ds μ => call_at (d := d_sign) rfl _ _
  cmp := fun m ds μ => call_at (d := d_compare) rfl _ _
theorem tf2 : TF2 G ids ids2 where
  t := tf
  nought := fun m ds μ => call_at (d := d_nought) rfl _ _
  lifted := fun m ds μ => call_at (d := d_lifted) rfl _ _
  number := fun m ds μ => call_at (d := d_number) rfl _ _
  fracof := fun m ds μ => call_at (d := d_fraction_of) rfl _ _
  exact := fun m x μ hx => by
    have z := exact_root_ok (F := T (m + 4)) (f := 9) (root_at (m + 3)) hx μ
    split at z
    · rename_i h
      rw [if_pos h]
      exact (call_at (d := d_exact_root) rfl _ _).trans z
    · rename_i h
      rw [if_neg h]
      obtain ⟨r, s, h1, h2, h3⟩ := z
      exact ⟨r, s, h1, h2, (call_at (d := d_exact_root) rfl _ _).trans h3⟩
  wroot := fun m ds μ => call_at (d := d_with_root) rfl _ _
theorem tfn : TFn G ids ids2 38 where
  t := tf2
  tnum := fun m ds μ => call_at (d := d_time_number) rfl _ _
theorem next_at (n : Nat) : NextC (T (n + 1)) 43 := fun is k many h hk => by
  obtain ⟨r, h1, h2, h3⟩ := next_ok (F := T n) is k many h hk []
  exact ⟨r, k + 1, h1, h2, by omega, (call_at (d := d__law_next) rfl _ _).trans h3⟩
theorem pick_at (n : Nat) : PickC (T (n + 2)) 44 := fun is k ds hk hd => by
  obtain ⟨d, k1, h1, h2, h3⟩ := pick_ok (next_at n) is k ds hk hd
  exact ⟨d, k1, h1, h2, (call_at (d := d__law_pick) rfl _ _).trans h3⟩
theorem draws_at (n : Nat) (ns : List Int) (h : ns.length ≤ 63) (μ : Cells) : ∃ is : List Int, T (n + 1) 42 [.lst (ns.map D.int), .int 400] μ = some (.lst (is.map D.int), μ) := by
  obtain ⟨is, e⟩ := draws_ok (F := T n) ns h 400 (by decide) μ
  exact ⟨is, (call_at (d := d__law_draws) rfl _ _).trans e⟩
theorem like_at (d : D) (h : dep 50 d = true) : LikeC (T 99) 45 d := (like_dep (f := 45) (G := fun n => T (n + 48)) (fun n ds μ => call_at (d := d__law_alike) rfl _ _) 50 d h : LikeC (T 99) 45 d)
theorem lmul_at (n : Nat) {x y : Int × Int} (μ : Cells) (hx : Fq 1800 x) (hy : Fq 1800 y) : T (n + 3) 48 [fD x, fD y] μ = some (fD (mulF x y), μ) := (call_at (d := d__law_mul) rfl _ _).trans (law_mul_ok hx hy μ (lfr_at n))
theorem floor_at (n : Nat) {x : Int × Int} (h : Dv x.2) (μ : Cells) : T (n + 1) 8 [fD x] μ = some (.int (x.1.fdiv x.2), μ) := (call_at (d := d_floor_of) rfl _ _).trans (floor_of_ok h μ)
end K02

set_option Elab.async false
set_option linter.all false
set_option maxRecDepth 100000
set_option maxHeartbeats 4000000
/-! what the towers' other defs compute -/
namespace K02
open FM
open L2 (atI)
open PySem (Str sizeLine)
local macro_rules | `(tactic| walk_at "go") => `(tactic| simp [FM.execs, FM.exec, FM.ev, FM.evs, FM.evo, FM.evc, FM.evi, FM.Sl.d, FM.isiD, FM.cmpD, FM.negD, FM.bindT, FM.andThen_some', FM.onBl_bl, FM.wthD_some', FM.eqD_int, FM.ix_tup, FM.ix_lst, FM.atI_0, FM.atI_1, FM.atI_2, FM.op_add, FM.op_sub, FM.op_subBl, FM.biD_abs, FM.szle, FM.pl_get, FM.pl_set, FM.isOw_pl, FM.noOw_pl, FM.lk_pl, FM.lks_pl, FM.itlk_pl, FM.setAll_pl, FM.setAllD])
theorem isof_c : (n : Nat) → n ≤ 20 → (t : Tw n) → (m : Nat) → n ≤ m → {x : Nm n} → AllL (fun q => Red q ∧ Sm 4000 q.2) n x → (μ : Cells) → T (m + 4) 12 [nD n x, tD t] μ = some (.bl true, μ)
  | 0, _, .nil, m, _, x, h, μ => by
    obtain ⟨⟨h1, h2⟩, h3⟩ := h
    have e := isfrac_at (m + 1) (x : Int × Int) μ h3
    rw [decide_eq_true h1, decide_eq_true (by exact_mod_cast h2)] at e
    exact (call_at (d := d_is_of) rfl _ _).trans (is_of_ok (cf := 3) (co := 12) e)
  | n + 1, hn, .snoc t r, m, hm, x, h, μ => by
    obtain ⟨m, rfl⟩ : ∃ k, m = k + 1 := ⟨m - 1, by omega⟩
    have a1 := isof_c n (by omega) t m (by omega) h.1 μ
    have a2 := isof_c n (by omega) t m (by omega) h.2 μ
    have e := tw_nil (.snoc t r) (by omega)
    have sl := sl_tw t r
    refine (call_at (d := d_is_of) rfl _ _).trans (run_pl rfl (Nat.le_of_ble_eq_true rfl) ?_)
    show execs (T (m + 4)) W _ (pl [some (.tup [nD n x.1, nD n x.2]), some (tD (.snoc t r)), none]) μ = _
    refine seq_nx (ifs_f (cmp_of (x := tD (.snoc t r)) (y := .tup []) rfl rfl e) rfl) (seq_rt (ret_of (lk_pl _ _) ?_))
    have b : ∀ d : D, T (m + 4) 12 [d, tD t] μ = some (.bl true, μ) → ev (T (m + 4)) (.call 12 (.cons (.var 2) (.cons (.sl (.var 1) .none (.some (.neg (.int 1)))) .nil))) (pl [some (.tup [nD n x.1, nD n x.2]), some (tD (.snoc t r)), some d]) μ = some (.bl true, μ) := fun d hd => by
      walk_at "go"
      simp [sl, hd, andThen_some', wthD_some']
    have lc : ev (T (m + 4)) (.lc (.call 12 (.cons (.var 2) (.cons (.sl (.var 1) .none (.some (.neg (.int 1)))) .nil))) (.nm 2) (.seq (.var 0)) .none) (pl [some (.tup [nD n x.1, nD n x.2]), some (tD (.snoc t r)), none]) μ = some (.lst [.bl true, .bl true], μ) := by
      refine ev_lc (xs := [nD n x.1, nD n x.2]) (μ1 := μ) rfl (show (2 : Nat) ≤ 16777216 by decide) (lc_map (fun _ => .bl true) [nD n x.1, nD n x.2] fun d hd => ?_)
      have hd' : d = nD n x.1 ∨ d = nD n x.2 := by simpa using hd
      rcases hd' with rfl | rfl
      · exact b _ a1
      · exact b _ a2
    have al : ev (T (m + 4)) (.bi .all (.cons (.lc (.call 12 (.cons (.var 2) (.cons (.sl (.var 1) .none (.some (.neg (.int 1)))) .nil))) (.nm 2) (.seq (.var 0)) .none) .nil)) (pl [some (.tup [nD n x.1, nD n x.2]), some (tD (.snoc t r)), none]) μ = some (.bl true, μ) := by
      unfold ev
      unfold evs
      rw [lc]
      rfl
    have ln : ev (T (m + 4)) (.cmp .Eq (.bi .len (.cons (.var 0) .nil)) (.int 2)) (pl [some (.tup [nD n x.1, nD n x.2]), some (tD (.snoc t r)), none]) μ = some (.bl true, μ) := by
      walk_at "go"
      simp [len_tup, eqD_int, wthD_some', andThen_some']
    have is : ev (T (m + 4)) (.isi (.var 0) .tuple) (pl [some (.tup [nD n x.1, nD n x.2]), some (tD (.snoc t r)), none]) μ = some (.bl true, μ) := rfl
    unfold ev
    rw [is, onBl_bl, if_pos rfl]
    unfold ev
    rw [ln, onBl_bl, if_pos rfl, al]
    rfl
theorem istower_c {n : Nat} (hn : n ≤ 10) (t : Tw n) (ht : TwAll (Bd 6 1 3) t) (hm : Mdl t) (hs : SL 1 3 n 1 3) (μ : Cells) : T 99 13 [tD t] μ = some (.bl true, μ) := by
  obtain ⟨L, i1, i2, i3, i4, i5, i6, j, ρ, hj, hv⟩ := hm
  refine (call_at (d := d_is_tower) rfl _ _).trans (run_pl rfl (Nat.le_of_ble_eq_true rfl) ?_)
  show execs (T 98) W _ (pl [some (tD t), none]) μ = _
  refine seq_nx (ifs_f (μ1 := μ) ?_ rfl) (seq_rt (ret_of (lk_pl _ _) ?_))
  · walk_at "go"
  · have lc : ev (T 98) (.lc (.and (.call 12 (.cons (.ix (.var 0) (.var 1)) (.cons (.sl (.var 0) .none (.some (.var 1))) .nil))) (.cmp .Gt (.call 23 (.cons (.ix (.var 0) (.var 1)) (.cons (.sl (.var 0) .none (.some (.var 1))) .nil))) (.int 0))) (.nm 1) (.rng1 (.bi .len (.cons (.var 0) .nil))) .none) (pl [some (tD t), none]) μ = some (.lst ((rngD 0 n).map fun _ => .bl true), μ) := by
      refine ev_lc (evi_rng (n := n) (μ1 := μ) ?_ (by omega)) (by rw [rng_len]; omega) (lc_map (fun _ => .bl true) _ fun d hd => ?_)
      · walk_at "go"
        simp [len_tup, twL_len, wthD_some']
      · obtain ⟨k, hk⟩ := List.getElem?_of_mem hd
        obtain ⟨k1, rfl⟩ := rngD_get hk
        rw [Int.zero_add]
        obtain ⟨s, r, rest, e1, e2, e3⟩ := tw_pre t k1
        obtain ⟨g1, g2⟩ := e2 _ ht
        obtain ⟨g3, g4⟩ := e3 L j ρ hv
        have ix : atI (twL t) (k : Int) = some (nD k r) := by
          rw [atI_nat (by rw [twL_len]; exact k1)]
          congr 1
          have : ∀ (l : List D) (h : k < l.length), l = twL s ++ nD k r :: rest → l[k] = nD k r := fun l h e => by
            subst e
            rw [List.getElem_append_right (by rw [twL_len]; exact Nat.le_refl _)]
            simp [twL_len]
          exact this _ _ e1
        have sl : slD (tD t) none (some (k : Int)) = some (tD s) := by
          rw [sl_take _ k (by rw [twL_len]; omega), e1, List.take_left' (twL_len s)]
        have c1 : T 98 12 [nD k r, tD s] μ = some (.bl true, μ) := isof_c k (by omega) s 94 (by omega) (AllL.imp (fun q g => ⟨Bd.red g, (g.fq (by decide) (by decide)).2.1.mono (by decide)⟩) k g2) μ
        have slk : SL 1 3 k 1 3 := by
          have : ∀ d : Nat, SL 1 3 (k + d) 1 3 → SL 1 3 k 1 3 := by
            intro d
            induction d with
            | zero => exact id
            | succ d ih => exact fun h => ih (h.2.mono (by omega) (by omega))
          exact this (n - k) (by rwa [show k + (n - k) = n by omega])
        have c2 : T 98 23 [nD k r, tD s] μ = some (.int (signN s r), μ) := sign_c tf (D := 6) (er := 1) (mr := 3) (by decide) (by decide) k (by omega) s g1 92 (by omega) g2 slk μ
        have sp : signN s r = 1 := by
          rw [sign_val hj s g3 (twAll_imp (fun _ g => Bd.pd g) _ g1) (AllL.imp (fun _ g => Bd.pd g) k g2)]
          exact OF.sgn_pos g4
        rw [sp] at c2
        show ev (T 98) _ (pl [some (tD t), some (.int (k : Int))]) μ = _
        generalize nD k r = R at *
        walk_at "go"
        simp [ix, sl, c1, c2, andThen_some', wthD_some', onBl_bl]
    have al : asBls ((rngD 0 n).map fun _ => D.bl true) = some (List.replicate n true) := by
      have : ∀ l : List D, asBls (l.map fun _ => D.bl true) = some (List.replicate l.length true) := by
        intro l
        induction l with
        | nil => rfl
        | cons a l ih =>
          show (asBls (l.map fun _ => D.bl true)).map (true :: ·) = _
          rw [ih]
          rfl
      rw [this, rng_len]
    show ev (T 98) _ (pl [some (tD t), none]) μ = _
    unfold ev
    unfold evs
    rw [lc]
    show wthD (biD μ .all [.lst ((rngD 0 n).map fun _ => D.bl true)]) μ = _
    show wthD ((asBls ((rngD 0 n).map fun _ => D.bl true)).map fun bs => D.bl (bs.all id)) μ = _
    rw [al]
    simp [wthD_some']
theorem scaled_c {D0 e mm e' m' : Nat} (h0 : 0 < D0) (hD : D0 < 2 ^ 8) {q : Int × Int} (hq : Bd D0 e' m' q) (l1 : mm + 8 * e + 1 ≤ 1800) (l2 : m' + 8 * e' + 1 ≤ 1800) : (n : Nat) → n ≤ 20 → (t : Tw n) → (m : Nat) → n ≤ m → {x : Nm n} → AllL (Bd D0 e mm) n x → (μ : Cells) → T (m + 6) 21 [nD n x, fD q, tD t] μ = some (nD n (sclN q n x), μ)
  | 0, _, .nil, m, _, x, h, μ => by
    have p := tf.times m (x : Int × Int) q μ ((Bd.fq h hD h0).mono l1) ((Bd.fq hq hD h0).mono l2)
    refine (call_at (d := d_scaled) rfl _ _).trans (run_pl rfl (Nat.le_of_ble_eq_true rfl) ?_)
    show execs (T (m + 5)) W _ (pl [some (nD 0 x), some (fD q), some (tD .nil)]) μ = _
    refine seq_rt (ifs_t (cmp_of (x := tD .nil) (y := .tup []) rfl rfl (tw_nil .nil (by decide))) (seq_rt (ret_of (lk_pl _ _) ?_)))
    unfold ev
    rw [lks_pl]
    exact p
  | n + 1, hn, .snoc t r, m, hm, x, h, μ => by
    obtain ⟨m, rfl⟩ : ∃ k, m = k + 1 := ⟨m - 1, by omega⟩
    have a1 := scaled_c h0 hD hq l1 l2 n (by omega) t m (by omega) h.1 μ
    have a2 := scaled_c h0 hD hq l1 l2 n (by omega) t m (by omega) h.2 μ
    have e := tw_nil (.snoc t r) (by omega)
    have sl := sl_tw t r
    refine (call_at (d := d_scaled) rfl _ _).trans (run_pl rfl (Nat.le_of_ble_eq_true rfl) ?_)
    show execs (T (m + 6)) W _ (pl [some (.tup [nD n x.1, nD n x.2]), some (fD q), some (tD (.snoc t r))]) μ = some (.rt (.tup [nD n (sclN q n x.1), nD n (sclN q n x.2)]) μ)
    refine seq_nx (ifs_f (cmp_of (x := tD (.snoc t r)) (y := .tup []) rfl rfl e) rfl) (seq_rt ?_)
    generalize fD q = Q at *
    walk_at "go"
    simp [sl, a1, a2, andThen_some', wthD_some', szle]
theorem negp_c : (n : Nat) → (m : Nat) → n ≤ m → (x : Nm n) → (μ : Cells) → T (m + 1) 29 [nD n x] μ = some (nD n (negN n x), μ)
  | 0, m, _, x, μ => by
    refine (call_at (d := d_negative_parts) rfl _ _).trans (run_pl rfl (Nat.le_of_ble_eq_true rfl) ?_)
    show execs (T m) W (B_negative_parts 29) (pl [some (.tup [.int (Prod.fst (α := Int) (β := Int) x), .int (Prod.snd (α := Int) (β := Int) x)])]) μ = some (.rt (.tup [.int (-(Prod.fst (α := Int) (β := Int) x)), .int (Prod.snd (α := Int) (β := Int) x)]) μ)
    generalize Prod.fst (α := Int) (β := Int) x = a
    generalize Prod.snd (α := Int) (β := Int) x = b
    unfold B_negative_parts
    walk_at "go"
  | n + 1, m, hm, x, μ => by
    obtain ⟨m, rfl⟩ : ∃ k, m = k + 1 := ⟨m - 1, by omega⟩
    have a1 := negp_c n m (by omega) x.1 μ
    have a2 := negp_c n m (by omega) x.2 μ
    have i := isi_nD n x.1
    refine (call_at (d := d_negative_parts) rfl _ _).trans (run_pl rfl (Nat.le_of_ble_eq_true rfl) ?_)
    show execs (T (m + 1)) W _ (pl [some (.tup [nD n x.1, nD n x.2])]) μ = some (.rt (.tup [nD n (negN n x.1), nD n (negN n x.2)]) μ)
    generalize nD n x.1 = A at *
    generalize nD n x.2 = B at *
    refine seq_nx (ifs_f (μ1 := μ) ?_ rfl) (seq_rt ?_)
    · unfold ev
      have v : ev (T (m + 1)) (.ix (.var 0) (.int 0)) (pl [some (.tup [A, B])]) μ = some (A, μ) := by walk_at "go"
      rw [v, andThen_some', i]
      rfl
    · walk_at "go"
      simp [a1, a2, andThen_some', szle]
theorem turned_c (n : Nat) (m : Nat) (h : n ≤ m) (x : Nm (n + 1)) (μ : Cells) : T (m + 2) 28 [nD (n + 1) x] μ = some (.tup [nD n x.1, nD n (negN n x.2)], μ) := by
  have a := negp_c n m h x.2 μ
  refine (call_at (d := d_turned) rfl _ _).trans (run_pl rfl (Nat.le_of_ble_eq_true rfl) ?_)
  show execs (T (m + 1)) W (B_turned 29) (pl [some (.tup [nD n x.1, nD n x.2]), none, none]) μ = _
  unfold B_turned
  walk_at "go"
  simp [a, andThen_some', szle]
theorem parts_c : (n : Nat) → n ≤ 9 → (m : Nat) → n ≤ m → (x : Nm n) → (μ : Cells) → T (m + 1) 30 [nD n x] μ = some (.tup ((ptsN n x).map fD), μ)
  | 0, _, m, _, x, μ => by
    refine (call_at (d := d_parts_of) rfl _ _).trans (run_pl rfl (Nat.le_of_ble_eq_true rfl) ?_)
    show execs (T m) W (B_parts_of 30) (pl [some (.tup [.int (Prod.fst (α := Int) (β := Int) x), .int (Prod.snd (α := Int) (β := Int) x)])]) μ = some (.rt (.tup [.tup [.int (Prod.fst (α := Int) (β := Int) x), .int (Prod.snd (α := Int) (β := Int) x)]]) μ)
    generalize Prod.fst (α := Int) (β := Int) x = a
    generalize Prod.snd (α := Int) (β := Int) x = b
    unfold B_parts_of
    walk_at "go"
  | n + 1, hn, m, hm, x, μ => by
    obtain ⟨m, rfl⟩ : ∃ k, m = k + 1 := ⟨m - 1, by omega⟩
    have a1 := parts_c n (by omega) m (by omega) x.1 μ
    have a2 := parts_c n (by omega) m (by omega) x.2 μ
    have i := isi_nD n x.1
    have pw : 2 ^ n ≤ 2 ^ 9 := Nat.pow_le_pow_right (by decide) (by omega)
    have ad : opD .Add (.tup ((ptsN n x.1).map fD)) (.tup ((ptsN n x.2).map fD)) = some (.tup ((ptsN (n + 1) x).map fD)) := by
      refine opD_of ?_
      show (if ((ptsN n x.1).map fD).length + ((ptsN n x.2).map fD).length ≤ sizeLine then some (D.tup ((ptsN n x.1).map fD ++ (ptsN n x.2).map fD)) else none) = some (.tup ((ptsN n x.1 ++ ptsN n x.2).map fD))
      rw [List.length_map, List.length_map, ptsN_len, ptsN_len, if_pos (Nat.le_trans (show 2 ^ n + 2 ^ n ≤ 1024 by omega) (by decide)), List.map_append]
    refine (call_at (d := d_parts_of) rfl _ _).trans (run_pl rfl (Nat.le_of_ble_eq_true rfl) ?_)
    show execs (T (m + 1)) W _ (pl [some (.tup [nD n x.1, nD n x.2])]) μ = _
    generalize nD n x.1 = A at *
    generalize nD n x.2 = B at *
    refine seq_nx (ifs_f (μ1 := μ) ?_ rfl) (seq_rt ?_)
    · unfold ev
      have v : ev (T (m + 1)) (.ix (.var 0) (.int 0)) (pl [some (.tup [A, B])]) μ = some (A, μ) := by walk_at "go"
      rw [v, andThen_some', i]
      rfl
    · walk_at "go"
      simp [a1, a2, ad, andThen_some', wthD_some', szle]
end K02

set_option Elab.async false
set_option linter.all false
set_option maxRecDepth 100000
set_option maxHeartbeats 4000000
/-! texts, heights, and the law's own -/
namespace K02
open FM
open L2 (atI)
open PySem (Str sizeLine)
local macro_rules | `(tactic| walk_at "go") => `(tactic| simp [FM.execs, FM.exec, FM.ev, FM.evs, FM.evo, FM.evc, FM.evi, FM.Sl.d, FM.isiD, FM.cmpD, FM.negD, FM.bindT, FM.andThen_some', FM.onBl_bl, FM.wthD_some', FM.eqD_int, FM.ix_tup, FM.ix_lst, FM.atI_0, FM.atI_1, FM.atI_2, FM.op_add, FM.op_sub, FM.op_subBl, FM.biD_abs, FM.szle, FM.pl_get, FM.pl_set, FM.isOw_pl, FM.noOw_pl, FM.lk_pl, FM.lks_pl, FM.itlk_pl, FM.setAll_pl, FM.setAllD])
theorem l_slash : ("/" : Str) = S' [47] := by decide +kernel
theorem l_none : ("" : Str) = S' [] := by decide +kernel
theorem l_r : (" r" : Str) = S' [32, 114] := by decide +kernel
theorem l_open : ("(" : Str) = S' [40] := by decide +kernel
theorem l_close : (")" : Str) = S' [41] := by decide +kernel
theorem l_plus : (" + " : Str) = S' [32, 43, 32] := by decide +kernel
theorem text_c {k : Nat} (hk : 0 < k) (hk2 : k < 1000) (m : Nat) {x : Int × Int} (h : SmF k x) (μ : Cells) : T (m + 1) 11 [fD x] μ = some (.str (S' (txF x)), μ) := by
  have s1 := bi_str μ h.1 (by omega)
  have s2 := bi_str μ h.2 (by omega)
  have n1 := txL_len h.1 hk
  have n2 := txL_len h.2 hk
  obtain ⟨a, b⟩ := x
  refine (call_at (d := d_text_of) rfl _ _).trans (run_pl rfl (Nat.le_of_ble_eq_true rfl) ?_)
  show execs (T m) W B_text_of (pl [some (.tup [.int a, .int b])]) μ = _
  unfold B_text_of
  simp only at s1 s2 n1 n2
  by_cases z : 1 < b
  · have a1 := op_addS (l := [47]) (m := txL b) (by simp; omega)
    have a2 := op_addS (l := txL a) (m := [47] ++ txL b) (by simp; omega)
    have e : txF (a, b) = txL a ++ ([47] ++ txL b) := by unfold txF; rw [if_pos z]; rfl
    rw [e]
    walk_at "go"
    simp [l_slash, s1, s2, z, a1, a2, andThen_some', wthD_some']
    rw [show (47 :: txL b) = [47] ++ txL b from rfl, a2]
    rfl
  · have a2 := op_addS (l := txL a) (m := []) (by simp; omega)
    have e : txF (a, b) = txL a ++ [] := by unfold txF; rw [if_neg z]
    rw [e]
    walk_at "go"
    simp [l_none, s1, z, andThen_some', wthD_some']
    rw [a2, List.append_nil]
    rfl
/-- the text of a number with its last root -/
theorem tlen_le {k : Nat} (hk : k < 1000) : ∀ n, n ≤ 5 → tlen k n ≤ 200000 := by
  intro n hn
  have mono : ∀ n, tlen k n ≤ tlen k (n + 1) := fun n => by
    show _ ≤ 2 * tlen k n + 30
    omega
  have h5 : tlen k 5 ≤ 200000 := by
    show 2 * (2 * (2 * (2 * (2 * (2 * k + 10) + 30) + 30) + 30) + 30) + 30 ≤ 200000
    omega
  have e : ∀ d, n + d = 5 → tlen k n ≤ tlen k 5 := by
    intro d
    induction d generalizing n with
    | zero => intro h; rw [← h]; exact Nat.le_refl _
    | succ d ih => intro h; exact Nat.le_trans (mono n) (ih (n + 1) (by omega) (by omega))
  exact Nat.le_trans (e (5 - n) (by omega)) h5
theorem opS {l m c : List Nat} (e : l ++ m = c) (h : l.length + m.length ≤ 1000000) : opD .Add (.str (S' l)) (.str (S' m)) = some (.str (S' c)) := e ▸ op_addS h
theorem txN_t {n : Nat} {x : Nm (n + 1)} (z : isN n x.2 = true) : txN (n + 1) x = txN n x.1 := if_pos z
theorem txN_t2 {n : Nat} {x : Nm (n + 1)} (z : isN n x.2 = false) (y : isN n x.1 = true) : txN (n + 1) x = [40] ++ (txN n x.2 ++ [32, 114] ++ txL ((n + 1 : Nat) : Int)) ++ [41] := (if_neg (by rw [z]; decide)).trans (if_pos y)
theorem txN_f {n : Nat} {x : Nm (n + 1)} (z : isN n x.2 = false) (y : isN n x.1 = false) : txN (n + 1) x = [40] ++ txN n x.1 ++ [32, 43, 32] ++ (txN n x.2 ++ [32, 114] ++ txL ((n + 1 : Nat) : Int)) ++ [41] := (if_neg (by rw [z]; decide)).trans (if_neg (by rw [y]; decide))
theorem print_c {k : Nat} (hk : 0 < k) (hk2 : k < 1000) : (n : Nat) → n ≤ 5 → (t : Tw n) → (m : Nat) → n ≤ m → {x : Nm n} → AllL (SmF k) n x → (μ : Cells) → T (m + 7) 34 [nD n x, tD t] μ = some (.str (S' (txN n x)), μ)
  | 0, _, .nil, m, _, x, h, μ => by
    have p := text_c hk hk2 (m + 5) (x := (x : Int × Int)) h μ
    refine (call_at (d := d_print_number) rfl _ _).trans (run_pl rfl (Nat.le_of_ble_eq_true rfl) ?_)
    show execs (T (m + 6)) W _ (pl [some (nD 0 x), some (tD .nil), none, none]) μ = _
    refine seq_rt (ifs_t (cmp_of (x := tD .nil) (y := .tup []) rfl rfl (tw_nil .nil (by decide))) (seq_rt (ret_of (lk_pl _ _) ?_)))
    unfold ev
    rw [lks_pl]
    exact p
  | n + 1, hn, .snoc t r, m, hm, x, h, μ => by
    obtain ⟨m, rfl⟩ : ∃ k, m = k + 1 := ⟨m - 1, by omega⟩
    have a1 := print_c hk hk2 n (by omega) t m (by omega) h.1 μ
    have a2 := print_c hk hk2 n (by omega) t m (by omega) h.2 μ
    have i1 : T (m + 7) 20 [nD n x.1, tD t] μ = some (.bl (isN n x.1), μ) := isn_c tf n (by omega) t (m + 1) (by omega) x.1 μ
    have i2 : T (m + 7) 20 [nD n x.2, tD t] μ = some (.bl (isN n x.2), μ) := isn_c tf n (by omega) t (m + 1) (by omega) x.2 μ
    have e := tw_nil (.snoc t r) (by omega)
    have sl := sl_tw t r
    have ln : biD μ .len [tD (.snoc t r)] = some (.int ((n + 1 : Nat) : Int)) := by
      rw [len_tup, twL_len]
    have st := bi_str μ (k := 8) (i := ((n + 1 : Nat) : Int)) (by unfold Sm; omega) (by decide)
    have c0 := txn_len (n := n) (by omega)
    have c1 := txN_len hk n (by omega) h.1
    have c2 := txN_len hk n (by omega) h.2
    have b := tlen_le hk2 n (by omega)
    refine (call_at (d := d_print_number) rfl _ _).trans (run_pl rfl (Nat.le_of_ble_eq_true rfl) ?_)
    show execs (T (m + 7)) W _ (pl [some (.tup [nD n x.1, nD n x.2]), some (tD (.snoc t r)), none, none]) μ = some (.rt (.str (S' (txN (n + 1) x))) μ)
    have body : ∀ (A B N : D) (u v : Bool) (tA tB sN t2 tl : List Nat), isN n x.1 = u → isN n x.2 = v → tA = txN n x.1 → tB = txN n x.2 → sN = txL ((n + 1 : Nat) : Int) → t2 = tB ++ [32, 114] → tl = t2 ++ sN →
        tA.length ≤ 200000 → tB.length ≤ 200000 → sN.length ≤ 9 → biD μ .len [tD (.snoc t r)] = some N → biD μ .str [N] = some (.str (S' sN)) →
        T (m + 7) 20 [A, tD t] μ = some (.bl u, μ) → T (m + 7) 20 [B, tD t] μ = some (.bl v, μ) → T (m + 7) 34 [A, tD t] μ = some (.str (S' tA), μ) → T (m + 7) 34 [B, tD t] μ = some (.str (S' tB), μ) →
        execs (T (m + 7)) W (B_print_number 11 20 34) (pl [some (.tup [A, B]), some (tD (.snoc t r)), none, none]) μ = some (.rt (.str (S' (txN (n + 1) x))) μ) := by
      intro A B N u v tA tB sN t2 tl eu ev' eA eB es e2 el lA lB lN ln st j1 j2 p1 p2
      have l2 : t2.length = tB.length + 2 := by rw [e2]; simp
      have l3 : tl.length = t2.length + sN.length := by rw [el]; simp
      have q1 := opS (l := tB) (m := [32, 114]) e2.symm (by simp; omega)
      have q2 := opS (l := t2) (m := sN) el.symm (by omega)
      refine seq_nx (ifs_f (cmp_of (x := tD (.snoc t r)) (y := .tup []) rfl rfl e) rfl) (seq_nx (ρ1 := pl [some (.tup [A, B]), some (tD (.snoc t r)), some (tD t), none]) (μ1 := μ) ?_ ?_)
      · walk_at "go"
        simp [sl, andThen_some', wthD_some', pl_set]
      · cases v with
        | true =>
          rw [txN_t ev', ← eA]
          refine seq_rt (ifs_t (μ1 := μ) ?_ (seq_rt ?_))
          · walk_at "go"
            simp [j2, andThen_some']
          · walk_at "go"
            simp [p1, andThen_some']
        | false =>
          refine seq_nx (ifs_f (μ1 := μ) ?_ rfl) (seq_nx (ρ1 := pl [some (.tup [A, B]), some (tD (.snoc t r)), some (tD t), some (.str (S' tl))]) (μ1 := μ) ?_ ?_)
          · walk_at "go"
            simp [j2, andThen_some']
          · have ex : ev (T (m + 7)) (.op .Add (.op .Add (.call 34 (.cons (.ix (.var 0) (.int 1)) (.cons (.var 2) .nil))) (.str " r")) (.bi .str (.cons (.bi .len (.cons (.var 1) .nil)) .nil))) (pl [some (.tup [A, B]), some (tD (.snoc t r)), some (tD t), none]) μ = some (.str (S' tl), μ) := by
              walk_at "go"
              simp [p2, l_r, ln, st, q1, q2, andThen_some', wthD_some']
            exact (asg_pl ex).trans rfl
          · cases u with
            | true =>
              have q3 := op_addS (l := [40]) (m := tl) (by simp; omega)
              have q4 := op_addS (l := [40] ++ tl) (m := [41]) (by simp; omega)
              have ee : txN (n + 1) x = [40] ++ tl ++ [41] := by rw [txN_t2 ev' eu, el, e2, eB, es]
              rw [ee]
              refine seq_rt (ifs_t (μ1 := μ) ?_ (seq_rt (ret_of (lk_pl _ _) ?_)))
              · walk_at "go"
                simp [j1, andThen_some']
              · generalize [40] ++ tl = t1 at *
                generalize t1 ++ [41] = t2 at *
                walk_at "go"
                simp [l_open, l_close, q3, q4, andThen_some', wthD_some']
            | false =>
              have q5 := op_addS (l := [40]) (m := tA) (by simp; omega)
              have q6 := op_addS (l := [40] ++ tA) (m := [32, 43, 32]) (by simp; omega)
              have q7 := op_addS (l := [40] ++ tA ++ [32, 43, 32]) (m := tl) (by simp; omega)
              have q8 := op_addS (l := [40] ++ tA ++ [32, 43, 32] ++ tl) (m := [41]) (by simp; omega)
              have ee : txN (n + 1) x = [40] ++ tA ++ [32, 43, 32] ++ tl ++ [41] := by rw [txN_f ev' eu, el, e2, eA, eB, es]
              rw [ee]
              refine seq_nx (ifs_f (μ1 := μ) ?_ rfl) (seq_rt (ret_of (lk_pl _ _) ?_))
              · walk_at "go"
                simp [j1, andThen_some']
              · generalize [40] ++ tA = t1 at *
                generalize t1 ++ [32, 43, 32] = t2 at *
                generalize t2 ++ tl = t3 at *
                generalize t3 ++ [41] = t4 at *
                walk_at "go"
                simp [p1, l_open, l_close, l_plus, q5, q6, q7, q8, andThen_some', wthD_some']
    exact body (nD n x.1) (nD n x.2) _ _ _ _ _ _ _ _ rfl rfl rfl rfl rfl rfl rfl (by omega) (by omega) c0 ln st i1 i2 a1 a2
end K02

set_option Elab.async false
set_option linter.all false
set_option maxRecDepth 100000
set_option maxHeartbeats 4000000
/-! the law's own: none, text, less, deep, zero, up, height, fracs; the defs' height -/
namespace K02
open FM
open L2 (atI)
open PySem (Str sizeLine)
local macro_rules | `(tactic| walk_at "go") => `(tactic| simp [FM.execs, FM.exec, FM.ev, FM.evs, FM.evo, FM.evc, FM.evi, FM.Sl.d, FM.isiD, FM.cmpD, FM.negD, FM.bindT, FM.andThen_some', FM.onBl_bl, FM.wthD_some', FM.eqD_int, FM.ix_tup, FM.ix_lst, FM.atI_0, FM.atI_1, FM.atI_2, FM.op_add, FM.op_sub, FM.op_subBl, FM.biD_abs, FM.szle, FM.pl_get, FM.pl_set, FM.isOw_pl, FM.noOw_pl, FM.lk_pl, FM.lks_pl, FM.itlk_pl, FM.setAll_pl, FM.setAllD])
/-- the question whether a number's first part is a whole number -/
theorem leafq {m : Nat} {ρ' : List (Option D)} (n : Nat) (x : Nm (n + 1)) (μ : Cells) : ev (T m) (.isi (.ix (.var 0) (.int 0)) .int) (pl (some (nD (n + 1) x) :: ρ')) μ = some (.bl false, μ) := by
  have i := isi_nD n x.1
  show ev (T m) (.isi (.ix (.var 0) (.int 0)) .int) (pl (some (.tup [nD n x.1, nD n x.2]) :: ρ')) μ = some (.bl false, μ)
  generalize nD n x.1 = A at *
  unfold ev
  have v : ev (T m) (.ix (.var 0) (.int 0)) (pl (some (.tup [A, nD n x.2]) :: ρ')) μ = some (A, μ) := by walk_at "go"
  rw [v, andThen_some', i]
  rfl
theorem leafz {m : Nat} {ρ' : List (Option D)} (a b : Int) (μ : Cells) : ev (T m) (.isi (.ix (.var 0) (.int 0)) .int) (pl (some (.tup [.int a, .int b]) :: ρ')) μ = some (.bl true, μ) := by
  walk_at "go"
theorem ife_t {F : Fs} {c a b : E} {ρ : Env} {μ μ1 : Cells} (h : ev F c ρ μ = some (.bl true, μ1)) : ev F (.ife c a b) ρ μ = ev F a ρ μ1 := by
  rw [ev, h, onBl_bl, if_pos rfl]
theorem ife_f {F : Fs} {c a b : E} {ρ : Env} {μ μ1 : Cells} (h : ev F c ρ μ = some (.bl false, μ1)) : ev F (.ife c a b) ρ μ = ev F b ρ μ1 := by
  rw [ev, h, onBl_bl, if_neg (by decide)]
theorem nm0 (x : Nm 0) : ∃ a b : Int, x = ((a, b) : Int × Int) := ⟨Prod.fst (α := Int) (β := Int) x, Prod.snd (α := Int) (β := Int) x, rfl⟩
theorem lnone_c : (n : Nat) → (m : Nat) → n ≤ m → (x : Nm n) → AllL Red n x → (μ : Cells) → T (m + 1) 50 [nD n x] μ = some (.bl (isN n x), μ)
  | 0, m, _, x, h, μ => by
    obtain ⟨a, b, rfl⟩ := nm0 x
    have z : decide ((a, b) = ((0, 1) : Int × Int)) = decide (a = 0) := decide_eq_decide.mpr (Red.zero (x := (a, b)) h).symm
    have e := eqD_fr (a, b) (0, 1)
    rw [z] at e
    refine (call_at (d := d__law_none) rfl _ _).trans (run_pl rfl (Nat.le_of_ble_eq_true rfl) ?_)
    show execs (T m) W (B__law_none 50) (pl [some (.tup [.int a, .int b])]) μ = some (.rt (.bl (decide (a = 0))) μ)
    refine seq_rt (ret_of (lk_pl _ _) ((ife_t (leafz a b μ)).trans ?_))
    exact cmp_of (x := fD (a, b)) (y := fD (0, 1)) rfl (by walk_at "go") e
  | n + 1, m, hm, x, h, μ => by
    obtain ⟨m, rfl⟩ : ∃ k, m = k + 1 := ⟨m - 1, by omega⟩
    have a1 := lnone_c n m (by omega) x.1 h.1 μ
    have a2 := lnone_c n m (by omega) x.2 h.2 μ
    refine (call_at (d := d__law_none) rfl _ _).trans (run_pl rfl (Nat.le_of_ble_eq_true rfl) ?_)
    refine seq_rt (ret_of (lk_pl _ _) ((ife_f (leafq n x μ)).trans ?_))
    show ev (T (m + 1)) _ (pl [some (.tup [nD n x.1, nD n x.2])]) μ = some (.bl (isN n x.1 && isN n x.2), μ)
    generalize nD n x.1 = A at *
    generalize nD n x.2 = B at *
    generalize isN n x.1 = u at *
    cases u
    · refine and_ff ?_
      walk_at "go"
      simp [a1, andThen_some']
    · rw [Bool.true_and]
      refine and_tt (μ1 := μ) ?_ ?_
      · walk_at "go"
        simp [a1, andThen_some']
      · walk_at "go"
        simp [a2, andThen_some']
theorem lless_c : (n : Nat) → (m : Nat) → n ≤ m → (x : Nm n) → (μ : Cells) → T (m + 1) 52 [nD n x] μ = some (nD n (negN n x), μ)
  | 0, m, _, x, μ => by
    obtain ⟨a, b, rfl⟩ := nm0 x
    refine (call_at (d := d__law_less) rfl _ _).trans (run_pl rfl (Nat.le_of_ble_eq_true rfl) ?_)
    refine seq_rt (ret_of (lk_pl _ _) ((ife_t (leafz a b μ)).trans ?_))
    show ev (T m) _ (pl [some (.tup [.int a, .int b])]) μ = some (.tup [.int (-a), .int b], μ)
    walk_at "go"
    all_goals rfl
  | n + 1, m, hm, x, μ => by
    obtain ⟨m, rfl⟩ : ∃ k, m = k + 1 := ⟨m - 1, by omega⟩
    have a1 := lless_c n m (by omega) x.1 μ
    have a2 := lless_c n m (by omega) x.2 μ
    refine (call_at (d := d__law_less) rfl _ _).trans (run_pl rfl (Nat.le_of_ble_eq_true rfl) ?_)
    refine seq_rt (ret_of (lk_pl _ _) ((ife_f (leafq n x μ)).trans ?_))
    show ev (T (m + 1)) _ (pl [some (.tup [nD n x.1, nD n x.2])]) μ = some (.tup [nD n (negN n x.1), nD n (negN n x.2)], μ)
    generalize nD n x.1 = A at *
    generalize nD n x.2 = B at *
    walk_at "go"
    simp [a1, a2, andThen_some', szle]
theorem ldeep_c : (n : Nat) → n ≤ 50 → (m : Nat) → n ≤ m → (x : Nm n) → (μ : Cells) → T (m + 1) 55 [nD n x] μ = some (.int n, μ)
  | 0, _, m, _, x, μ => by
    obtain ⟨a, b, rfl⟩ := nm0 x
    refine (call_at (d := d__law_deep) rfl _ _).trans (run_pl rfl (Nat.le_of_ble_eq_true rfl) ?_)
    exact seq_rt (ret_of (lk_pl _ _) ((ife_t (leafz a b μ)).trans rfl))
  | n + 1, hn, m, hm, x, μ => by
    obtain ⟨m, rfl⟩ : ∃ k, m = k + 1 := ⟨m - 1, by omega⟩
    have a1 := ldeep_c n (by omega) m (by omega) x.1 μ
    refine (call_at (d := d__law_deep) rfl _ _).trans (run_pl rfl (Nat.le_of_ble_eq_true rfl) ?_)
    refine seq_rt (ret_of (lk_pl _ _) ((ife_f (leafq n x μ)).trans ?_))
    show ev (T (m + 1)) _ (pl [some (.tup [nD n x.1, nD n x.2])]) μ = some (.int ((n + 1 : Nat) : Int), μ)
    have e : ((n + 1 : Nat) : Int) = 1 + (n : Int) := by omega
    rw [e]
    generalize nD n x.1 = A at *
    walk_at "go"
    simp [a1, andThen_some', op_add, wthD_some']
theorem lzero_c : (n : Nat) → n ≤ 50 → (m : Nat) → n ≤ m → (μ : Cells) → T (m + 1) 56 [.int n] μ = some (nD n (zeroN n), μ)
  | 0, _, m, _, μ => by
    refine (call_at (d := d__law_zero) rfl _ _).trans (run_pl rfl (Nat.le_of_ble_eq_true rfl) ?_)
    refine seq_rt (ret_of (lk_pl _ _) ((ife_t (cmp_of (x := .int 0) (y := .int 0) rfl rfl (by walk_at "go"))).trans ?_))
    show ev (T m) _ (pl [some (.int 0)]) μ = some (.tup [.int 0, .int 1], μ)
    walk_at "go"
  | n + 1, hn, m, hm, μ => by
    obtain ⟨m, rfl⟩ : ∃ k, m = k + 1 := ⟨m - 1, by omega⟩
    have a1 := lzero_c n (by omega) m (by omega) μ
    have e : eqD (.int ((n + 1 : Nat) : Int)) (.int 0) = some false := by rw [eqD_int, decide_eq_false (by omega)]
    have sb : ((n + 1 : Nat) : Int) - 1 = (n : Int) := by omega
    refine (call_at (d := d__law_zero) rfl _ _).trans (run_pl rfl (Nat.le_of_ble_eq_true rfl) ?_)
    refine seq_rt (ret_of (lk_pl _ _) ((ife_f (cmp_of (x := .int ((n + 1 : Nat) : Int)) (y := .int 0) rfl rfl (by unfold cmpD; exact e))).trans ?_))
    show ev (T (m + 1)) _ (pl [some (.int ((n + 1 : Nat) : Int))]) μ = some (.tup [nD n (zeroN n), nD n (zeroN n)], μ)
    generalize ((n + 1 : Nat) : Int) = N at *
    generalize nD n (zeroN n) = Z at *
    walk_at "go"
    simp [sb, a1, andThen_some', wthD_some', szle]
theorem lfracs_c : (n : Nat) → n ≤ 9 → (m : Nat) → n ≤ m → (x : Nm n) → (μ : Cells) → T (m + 1) 57 [nD n x] μ = some (.tup ((ptsN n x).map fD), μ)
  | 0, _, m, _, x, μ => by
    obtain ⟨a, b, rfl⟩ := nm0 x
    refine (call_at (d := d__law_fracs) rfl _ _).trans (run_pl rfl (Nat.le_of_ble_eq_true rfl) ?_)
    refine seq_rt (ret_of (lk_pl _ _) ((ife_t (leafz a b μ)).trans ?_))
    show ev (T m) _ (pl [some (.tup [.int a, .int b])]) μ = some (.tup [.tup [.int a, .int b]], μ)
    walk_at "go"
  | n + 1, hn, m, hm, x, μ => by
    obtain ⟨m, rfl⟩ : ∃ k, m = k + 1 := ⟨m - 1, by omega⟩
    have a1 := lfracs_c n (by omega) m (by omega) x.1 μ
    have a2 := lfracs_c n (by omega) m (by omega) x.2 μ
    have pw : 2 ^ n ≤ 2 ^ 9 := Nat.pow_le_pow_right (by decide) (by omega)
    have ad : opD .Add (.tup ((ptsN n x.1).map fD)) (.tup ((ptsN n x.2).map fD)) = some (.tup ((ptsN (n + 1) x).map fD)) := by
      refine opD_of ?_
      show (if ((ptsN n x.1).map fD).length + ((ptsN n x.2).map fD).length ≤ sizeLine then some (D.tup ((ptsN n x.1).map fD ++ (ptsN n x.2).map fD)) else none) = some (.tup ((ptsN n x.1 ++ ptsN n x.2).map fD))
      rw [List.length_map, List.length_map, ptsN_len, ptsN_len, if_pos (Nat.le_trans (show 2 ^ n + 2 ^ n ≤ 1024 by omega) (by decide)), List.map_append]
    refine (call_at (d := d__law_fracs) rfl _ _).trans (run_pl rfl (Nat.le_of_ble_eq_true rfl) ?_)
    refine seq_rt (ret_of (lk_pl _ _) ((ife_f (leafq n x μ)).trans ?_))
    show ev (T (m + 1)) _ (pl [some (.tup [nD n x.1, nD n x.2])]) μ = _
    generalize nD n x.1 = A at *
    generalize nD n x.2 = B at *
    walk_at "go"
    simp [a1, a2, ad, andThen_some', wthD_some']
theorem lheight_c : (n : Nat) → n ≤ 50 → (m : Nat) → n ≤ m → (x : Nm n) → AllL Red n x → (μ : Cells) → T (m + 2) 53 [nD n x] μ = some (.int (htN n x), μ)
  | 0, _, m, _, x, _, μ => by
    obtain ⟨a, b, rfl⟩ := nm0 x
    refine (call_at (d := d__law_height) rfl _ _).trans (run_pl rfl (Nat.le_of_ble_eq_true rfl) ?_)
    exact seq_rt (ifs_t (leafz a b μ) rfl)
  | n + 1, hn, m, hm, x, h, μ => by
    obtain ⟨m, rfl⟩ : ∃ k, m = k + 1 := ⟨m - 1, by omega⟩
    have a0 : T (m + 2) 50 [nD n x.2] μ = some (.bl (isN n x.2), μ) := lnone_c n (m + 1) (by omega) x.2 h.2 μ
    have a1 := lheight_c n (by omega) m (by omega) x.1 h.1 μ
    have a2 : T (m + 2) 55 [nD (n + 1) x] μ = some (.int ((n + 1 : Nat) : Int), μ) := ldeep_c (n + 1) hn (m + 1) (by omega) x μ
    refine (call_at (d := d__law_height) rfl _ _).trans (run_pl rfl (Nat.le_of_ble_eq_true rfl) ?_)
    refine seq_nx (ifs_f (leafq n x μ) rfl) (seq_rt (ret_of (lk_pl _ _) ?_))
    have e : htN (n + 1) x = if isN n x.2 = true then htN n x.1 else n + 1 := rfl
    rw [e]
    show ev (T (m + 2)) _ (pl [some (.tup [nD n x.1, nD n x.2])]) μ = _
    have a2' : T (m + 2) 55 [.tup [nD n x.1, nD n x.2]] μ = some (.int ((n + 1 : Nat) : Int), μ) := a2
    clear a2
    generalize nD n x.1 = A at *
    generalize nD n x.2 = B at *
    by_cases z : isN n x.2 = true
    · rw [if_pos z]
      rw [z] at a0
      refine (ife_t (μ1 := μ) ?_).trans ?_
      · walk_at "go"
        simp [a0, andThen_some']
      · walk_at "go"
        simp [a1, andThen_some']
    · rw [if_neg z]
      have z' : isN n x.2 = false := by simpa using z
      rw [z'] at a0
      generalize ((n + 1 : Nat) : Int) = N at *
      refine (ife_f (μ1 := μ) ?_).trans ?_
      · walk_at "go"
        simp [a0, andThen_some']
      · walk_at "go"
        simp [a2', andThen_some']
/-- the law's own text -/
theorem ltextF_eq {a b : Int} (h : Red (a, b)) : txF (a, b) = if b = 1 then txL a else txL a ++ [47] ++ txL b := by
  have := h.1
  simp only at this
  unfold txF
  by_cases z : 1 < b
  · rw [if_pos z, if_neg (by omega)]
    simp
  · rw [if_neg z, if_pos (by omega), List.append_nil]
theorem ltext_c {k : Nat} (hk : 0 < k) (hk2 : k < 1000) : (n : Nat) → n ≤ 5 → (m : Nat) → n ≤ m → {x : Nm n} → AllL (SmF k) n x → AllL Red n x → (μ : Cells) → T (m + 1) 51 [nD n x, .int n] μ = some (.str (S' (txN n x)), μ)
  | 0, _, m, _, x, h, h', μ => by
    obtain ⟨a, b, rfl⟩ := nm0 x
    have s1 := bi_str μ (h : SmF k (a, b)).1 (by omega)
    have s2 := bi_str μ (h : SmF k (a, b)).2 (by omega)
    have n1 := txL_len (h : SmF k (a, b)).1 hk
    have n2 := txL_len (h : SmF k (a, b)).2 hk
    simp only at s1 s2 n1 n2
    have q1 := op_addS (l := txL a) (m := [47]) (by simp; omega)
    have q2 := op_addS (l := txL a ++ [47]) (m := txL b) (by simp; omega)
    refine (call_at (d := d__law_text) rfl _ _).trans (run_pl rfl (Nat.le_of_ble_eq_true rfl) ?_)
    refine seq_rt (ifs_t (cmp_of (x := .int 0) (y := .int 0) rfl rfl (by walk_at "go")) (seq_rt (ret_of (lk_pl _ _) ?_)))
    show ev (T m) _ (pl [some (.tup [.int a, .int b]), some (.int 0), none]) μ = some (.str (S' (txF (a, b))), μ)
    rw [ltextF_eq h']
    generalize txL a ++ [47] = t1 at *
    generalize t1 ++ txL b = t2 at *
    by_cases z : b = 1
    · rw [if_pos z]
      refine (ife_t (μ1 := μ) ?_).trans ?_
      · walk_at "go"
        simp [z]
      · walk_at "go"
        simp [s1, andThen_some', wthD_some']
    · rw [if_neg z]
      refine (ife_f (μ1 := μ) ?_).trans ?_
      · walk_at "go"
        simp [z]
      · walk_at "go"
        simp [s1, s2, l_slash, q1, q2, andThen_some', wthD_some']
  | n + 1, hn, m, hm, x, h, h', μ => by
    obtain ⟨m, rfl⟩ : ∃ k, m = k + 1 := ⟨m - 1, by omega⟩
    have a1 := ltext_c hk hk2 n (by omega) m (by omega) h.1 h'.1 μ
    have a2 := ltext_c hk hk2 n (by omega) m (by omega) h.2 h'.2 μ
    have i1 := lnone_c n m (by omega) x.1 h'.1 μ
    have i2 := lnone_c n m (by omega) x.2 h'.2 μ
    have st := bi_str μ (k := 8) (i := ((n + 1 : Nat) : Int)) (by unfold Sm; omega) (by decide)
    have c0 := txn_len (n := n) (by omega)
    have c1 := txN_len hk n (by omega) h.1
    have c2 := txN_len hk n (by omega) h.2
    have b := tlen_le hk2 n (by omega)
    have ez : eqD (.int ((n + 1 : Nat) : Int)) (.int 0) = some false := by rw [eqD_int, decide_eq_false (by omega)]
    have sb : ((n + 1 : Nat) : Int) - 1 = (n : Int) := by omega
    refine (call_at (d := d__law_text) rfl _ _).trans (run_pl rfl (Nat.le_of_ble_eq_true rfl) ?_)
    show execs (T (m + 1)) W _ (pl [some (.tup [nD n x.1, nD n x.2]), some (.int ((n + 1 : Nat) : Int)), none]) μ = some (.rt (.str (S' (txN (n + 1) x))) μ)
    have body : ∀ (A B : D) (N M : Int) (u v : Bool) (tA tB sN t2 tl : List Nat), isN n x.1 = u → isN n x.2 = v → tA = txN n x.1 → tB = txN n x.2 → sN = txL ((n + 1 : Nat) : Int) → t2 = tB ++ [32, 114] → tl = t2 ++ sN →
        tA.length ≤ 200000 → tB.length ≤ 200000 → sN.length ≤ 9 → biD μ .str [.int N] = some (.str (S' sN)) → eqD (.int N) (.int 0) = some false → N - 1 = M →
        T (m + 1) 50 [A] μ = some (.bl u, μ) → T (m + 1) 50 [B] μ = some (.bl v, μ) → T (m + 1) 51 [A, .int M] μ = some (.str (S' tA), μ) → T (m + 1) 51 [B, .int M] μ = some (.str (S' tB), μ) →
        execs (T (m + 1)) W (B__law_text 50 51) (pl [some (.tup [A, B]), some (.int N), none]) μ = some (.rt (.str (S' (txN (n + 1) x))) μ) := by
      clear st sb ez
      intro A B N M u v tA tB sN t2 tl eu ev' eA eB es e2 el lA lB lN st ez sb j1 j2 p1 p2
      have l2 : t2.length = tB.length + 2 := by rw [e2]; simp
      have l3 : tl.length = t2.length + sN.length := by rw [el]; simp
      have q1 := opS (l := tB) (m := [32, 114]) e2.symm (by simp; omega)
      have q2 := opS (l := t2) (m := sN) el.symm (by omega)
      refine seq_nx (ifs_f (cmp_of (x := .int N) (y := .int 0) rfl rfl ez) rfl) ?_
      cases v with
      | true =>
        rw [txN_t ev', ← eA]
        refine seq_rt (ifs_t (μ1 := μ) ?_ (seq_rt (ret_of (lk_pl _ _) ?_)))
        · walk_at "go"
          simp [j2, andThen_some']
        · walk_at "go"
          simp [p1, sb, andThen_some', wthD_some']
      | false =>
        refine seq_nx (ifs_f (μ1 := μ) ?_ rfl) (seq_nx (ρ1 := pl [some (.tup [A, B]), some (.int N), some (.str (S' tl))]) (μ1 := μ) ?_ (seq_rt (ret_of (lk_pl _ _) ?_)))
        · walk_at "go"
          simp [j2, andThen_some']
        · refine (asg_pl (d := .str (S' tl)) (μ1 := μ) ?_).trans rfl
          walk_at "go"
          simp [p2, sb, l_r, st, q1, q2, andThen_some', wthD_some']
        · cases u with
          | true =>
            have q3 := op_addS (l := [40]) (m := tl) (by simp; omega)
            have q4 := op_addS (l := [40] ++ tl) (m := [41]) (by simp; omega)
            have ee : txN (n + 1) x = [40] ++ tl ++ [41] := by rw [txN_t2 ev' eu, el, e2, eB, es]
            rw [ee]
            refine (ife_t (μ1 := μ) ?_).trans ?_
            · walk_at "go"
              simp [j1, andThen_some']
            · generalize [40] ++ tl = t1 at *
              generalize t1 ++ [41] = t2 at *
              walk_at "go"
              simp [l_open, l_close, q3, q4, andThen_some', wthD_some']
          | false =>
            have q5 := op_addS (l := [40]) (m := tA) (by simp; omega)
            have q6 := op_addS (l := [40] ++ tA) (m := [32, 43, 32]) (by simp; omega)
            have q7 := op_addS (l := [40] ++ tA ++ [32, 43, 32]) (m := tl) (by simp; omega)
            have q8 := op_addS (l := [40] ++ tA ++ [32, 43, 32] ++ tl) (m := [41]) (by simp; omega)
            have ee : txN (n + 1) x = [40] ++ tA ++ [32, 43, 32] ++ tl ++ [41] := by rw [txN_f ev' eu, el, e2, eA, eB, es]
            rw [ee]
            refine (ife_f (μ1 := μ) ?_).trans ?_
            · walk_at "go"
              simp [j1, andThen_some']
            · generalize [40] ++ tA = t1 at *
              generalize t1 ++ [32, 43, 32] = t2 at *
              generalize t2 ++ tl = t3 at *
              generalize t3 ++ [41] = t4 at *
              walk_at "go"
              simp [p1, sb, l_open, l_close, l_plus, q5, q6, q7, q8, andThen_some', wthD_some']
    exact body (nD n x.1) (nD n x.2) _ _ _ _ _ _ _ _ _ rfl rfl rfl rfl rfl rfl rfl (by omega) (by omega) c0 st ez sb i1 i2 a1 a2
end K02

set_option Elab.async false
set_option linter.all false
set_option maxRecDepth 100000
set_option maxHeartbeats 4000000
/-! heights, lifted, towers' texts, points' texts, times' texts -/
namespace K02
open FM
open L2 (atI)
open PySem (Str sizeLine)
local macro_rules | `(tactic| walk_at "go") => `(tactic| simp [FM.execs, FM.exec, FM.ev, FM.evs, FM.evo, FM.evc, FM.evi, FM.Sl.d, FM.isiD, FM.cmpD, FM.negD, FM.bindT, FM.andThen_some', FM.onBl_bl, FM.wthD_some', FM.eqD_int, FM.ix_tup, FM.ix_lst, FM.atI_0, FM.atI_1, FM.atI_2, FM.op_add, FM.op_sub, FM.op_subBl, FM.biD_abs, FM.szle, FM.pl_get, FM.pl_set, FM.isOw_pl, FM.noOw_pl, FM.lk_pl, FM.lks_pl, FM.itlk_pl, FM.setAll_pl, FM.setAllD])
theorem forF_nx {tg : Tg} {b : Env → Cells → Option Res} {x : D} {xs : List D} {ρ ρ1 ρ2 : Env} {μ μ2 : Cells} (h : bindT tg x ρ = some ρ1) (g : b ρ1 μ = some (.nx ρ2 μ2)) : forF tg b (x :: xs) ρ μ = forF tg b xs ρ2 μ2 := by
  conv => lhs; unfold forF
  rw [h]
  simp only
  rw [g]
theorem forF_rt {tg : Tg} {b : Env → Cells → Option Res} {x : D} {xs : List D} {ρ ρ1 : Env} {μ μ2 : Cells} {d : D} (h : bindT tg x ρ = some ρ1) (g : b ρ1 μ = some (.rt d μ2)) : forF tg b (x :: xs) ρ μ = some (.rt d μ2) := by
  conv => lhs; unfold forF
  rw [h]
  simp only
  rw [g]
/-! ### heights -/
def bHt : Ss := (.cons (.ifs (.not (.call 20 (.cons (.ix (.var 0) (.int 1)) (.cons (.sl (.var 1) .none (.some (.op .Sub (.var 2) (.int 1)))) .nil)))) (.cons (.ret (.var 2)) .nil) .nil) (.cons (.asg 0 (.ix (.var 0) (.int 0))) .nil))
theorem ht_t {m : Nat} {a b : D} {l lo : List D} {n : Int} {μ : Cells} (sl : slD (.tup l) none (some (n + 1 - 1)) = some (.tup lo)) (ic : T m 20 [b, .tup lo] μ = some (.bl true, μ)) : execs (T m) W bHt (pl [some (.tup [a, b]), some (.tup l), some (.int (n + 1))]) μ = some (.nx (pl [some a, some (.tup l), some (.int (n + 1))]) μ) := by
  refine seq_nx (ifs_f (μ1 := μ) ?_ rfl) (seq_nx (ρ1 := pl [some a, some (.tup l), some (.int (n + 1))]) (μ1 := μ) ?_ rfl)
  · walk_at "go"
    rw [Int.add_sub_cancel] at sl
    simp [sl, ic, andThen_some', wthD_some', onBl_bl]
  · walk_at "go"
theorem ht_f {m : Nat} {a b : D} {l lo : List D} {n : Int} {μ : Cells} (sl : slD (.tup l) none (some (n + 1 - 1)) = some (.tup lo)) (ic : T m 20 [b, .tup lo] μ = some (.bl false, μ)) : execs (T m) W bHt (pl [some (.tup [a, b]), some (.tup l), some (.int (n + 1))]) μ = some (.rt (.int (n + 1)) μ) := by
  refine seq_rt (ifs_t (μ1 := μ) ?_ (seq_rt ?_))
  · walk_at "go"
    rw [Int.add_sub_cancel] at sl
    simp [sl, ic, andThen_some', wthD_some', onBl_bl]
  · walk_at "go"
theorem ht_loop (μ : Cells) : (n : Nat) → (hn : n ≤ 50) → (t : Tw n) → (m : Nat) → n ≤ m → (s : List D) → (x : Nm n) → (o : Option D) →
    (∃ d o', htN n x = 0 ∧ forF (.nm 2) (fun ρ' μ' => execs (T (m + 6)) W bHt ρ' μ') (rngS (n : Int) (-1) n) (pl [some (nD n x), some (.tup (twL t ++ s)), o]) μ = some (.nx (pl [some d, some (.tup (twL t ++ s)), o']) μ)) ∨
    (forF (.nm 2) (fun ρ' μ' => execs (T (m + 6)) W bHt ρ' μ') (rngS (n : Int) (-1) n) (pl [some (nD n x), some (.tup (twL t ++ s)), o]) μ = some (.rt (.int (htN n x)) μ))
  | 0, hn, .nil, m, hm, s, x, o => .inl ⟨_, o, rfl, rfl⟩
  | n + 1, hn, .snoc t r, m, hm, s, x, o => by
    have e0 : twL (.snoc t r) ++ s = twL t ++ (nD n r :: s) := by
      show twL t ++ [nD n r] ++ s = _
      rw [List.append_assoc]
      rfl
    have sl : slD (.tup (twL t ++ (nD n r :: s))) none (some ((n : Int) + 1 - 1)) = some (tD t) := by
      rw [show (n : Int) + 1 - 1 = (n : Int) by omega, sl_take _ n (by rw [List.length_append, twL_len]; omega), List.take_append_of_le_length (by rw [twL_len]; exact Nat.le_refl _), List.take_of_length_le (by rw [twL_len]; exact Nat.le_refl _)]
    have ic : T (m + 6) 20 [nD n x.2, tD t] μ = some (.bl (isN n x.2), μ) := isn_c tf n (by omega) t m (by omega) x.2 μ
    have bd : bindT (.nm 2) (.int ((n : Int) + 1)) (pl [some (.tup [nD n x.1, nD n x.2]), some (.tup (twL t ++ (nD n r :: s))), o]) = some (pl [some (.tup [nD n x.1, nD n x.2]), some (.tup (twL t ++ (nD n r :: s))), some (.int ((n : Int) + 1))]) := rfl
    have ex : nD (n + 1) x = .tup [nD n x.1, nD n x.2] := rfl
    rw [rngS_down, e0, ex]
    by_cases z : isN n x.2 = true
    · rw [z] at ic
      have fe : htN (n + 1) x = htN n x.1 := if_pos z
      rw [forF_nx bd (ht_t sl ic), fe]
      exact ht_loop μ n (by omega) t m (by omega) (nD n r :: s) x.1 _
    · refine .inr ?_
      have z' : isN n x.2 = false := by simpa using z
      rw [z'] at ic
      have fe : htN (n + 1) x = n + 1 := if_neg z
      rw [forF_rt bd (ht_f sl ic), fe]
      rfl
theorem height_c {n : Nat} (hn : n ≤ 50) (t : Tw n) {m : Nat} (hm : n ≤ m) (x : Nm n) (μ : Cells) : T (m + 7) 27 [nD n x, tD t] μ = some (.int (htN n x), μ) := by
  have it : evi (T (m + 6)) (.rng3 (.bi .len (.cons (.var 1) .nil)) (.int 0) (.neg (.int 1))) (pl [some (nD n x), some (tD t), none]) μ = some (rngS (n : Int) (-1) n, μ) := by
    have a : ev (T (m + 6)) (.bi .len (.cons (.var 1) .nil)) (pl [some (nD n x), some (tD t), none]) μ = some (.int n, μ) := by
      walk_at "go"
      simp [len_tup, twL_len, wthD_some']
    refine evi_rng3 a rfl ?_ (by omega)
    walk_at "go"
  refine (call_at (d := d_height) rfl _ _).trans (run_pl rfl (Nat.le_of_ble_eq_true rfl) ?_)
  rcases ht_loop μ n hn t m hm [] x none with ⟨d, o', e1, e2⟩ | e2
  · rw [List.append_nil] at e2
    rw [e1]
    exact seq_nx (for_of it rfl e2) (seq_rt rfl)
  · rw [List.append_nil] at e2
    exact seq_rt (for_of it rfl e2)
/-! ### lifted by the law -/
theorem lup_c {n d : Nat} (hn : n + d ≤ 50) {m : Nat} (hm : n + d ≤ m) (x : Nm n) (μ : Cells) : T (m + 2) 54 [nD n x, .int d] μ = some (nD (n + d) (liftN x d), μ) := by
  rw [← liftD_eq x d]
  obtain ⟨ρ', μ', e1, e2⟩ := forF_inv (fun ys ρ μ' => μ' = μ ∧ ∃ (q : Nat) (o : Option D), q ≤ d ∧ ys = (rngD 0 d).drop q ∧ ρ = pl [some (liftD n (nD n x) q), some (.int d), o]) (tg := .nm 2) (b := fun ρ' μ' => execs (T (m + 1)) W (.cons (.asg 0 (.tup (.cons (.var 0) (.cons (.call 56 (.cons (.call 55 (.cons (.var 0) .nil)) .nil)) .nil)))) .nil) ρ' μ') (fun y ys ρ μ1 h => by
    obtain ⟨rfl, q, o, hq, hy, rfl⟩ := h
    obtain ⟨q1, rfl, rfl⟩ := rng_drop hy
    refine ⟨_, _, _, rfl, ?_, rfl, q + 1, some (.int (0 + q)), by omega, rfl, rfl⟩
    have c1 := ldeep_c (n + q) (by omega) m (by omega) (liftN x q) μ1
    have c2 := lzero_c (n + q) (by omega) m (by omega) μ1
    rw [← liftD_eq x q] at c1
    show execs (T (m + 1)) W _ (pl [some (liftD n (nD n x) q), some (.int d), some (.int (0 + q))]) μ1 = some (.nx (pl [some (.tup [liftD n (nD n x) q, nD (n + q) (zeroN (n + q))]), some (.int d), some (.int (0 + q))]) μ1)
    generalize liftD n (nD n x) q = X at *
    generalize nD (n + q) (zeroN (n + q)) = Z at *
    refine seq_nx ((asg_pl (d := .tup [X, Z]) (μ1 := μ1) ?_).trans rfl) rfl
    walk_at "go"
    rw [c1]
    simp only [andThen_some']
    rw [c2]
    simp [andThen_some', szle]) (rngD 0 d) (pl [some (nD n x), some (.int d), none]) μ ⟨rfl, 0, none, Nat.zero_le _, rfl, rfl⟩
  obtain ⟨rfl, q, o, hq, hy, rfl⟩ := e2
  have eq : q = d := by
    have := congrArg List.length hy
    rw [List.length_drop, rng_len] at this
    simp at this
    omega
  subst eq
  refine (call_at (d := d__law_up) rfl _ _).trans (run_pl rfl (Nat.le_of_ble_eq_true rfl) ?_)
  refine seq_nx (for_of (evi_rng (n := q) rfl (by omega)) rfl e1) (seq_rt rfl)
/-! ### texts of towers -/
def rowL (k : Nat) (s : List Nat) : List Nat := [114] ++ txL ((k + 1 : Nat) : Int) ++ [32, 61, 32, 114, 111, 111, 116, 32, 111, 102, 32] ++ s ++ [10]
theorem l_r1 : ("r" : Str) = S' [114] := by decide +kernel
theorem l_rof : (" = root of " : Str) = S' [32, 61, 32, 114, 111, 111, 116, 32, 111, 102, 32] := by decide +kernel
theorem l_nl : ("\n" : Str) = S' [10] := by decide +kernel
/-- the text of one row -/
theorem row_ev {F : Fs} {ρ : Env} {iv : E} {ct : E} {k : Nat} {s : List Nat} {μ : Cells} (hk : k ≤ 50) (hs : s.length ≤ 200000) (h1 : ev F iv ρ μ = some (.int k, μ)) (h2 : ev F ct ρ μ = some (.str (S' s), μ)) :
    ev F (.op .Add (.op .Add (.op .Add (.op .Add (.str "r") (.bi .str (.cons (.op .Add iv (.int 1)) .nil))) (.str " = root of ")) ct) (.str "\n")) ρ μ = some (.str (S' (rowL k s)), μ) := by
  have st := bi_str μ (k := 8) (i := ((k + 1 : Nat) : Int)) (by unfold Sm; omega) (by decide)
  have c0 := txn_len (n := k) (by omega)
  have e : (k : Int) + 1 = ((k + 1 : Nat) : Int) := by omega
  unfold rowL
  generalize ((k + 1 : Nat) : Int) = N at *
  generalize txL N = tN at *
  have q1 := op_addS (l := [114]) (m := tN) (by simp; omega)
  have q2 := op_addS (l := [114] ++ tN) (m := [32, 61, 32, 114, 111, 111, 116, 32, 111, 102, 32]) (by simp; omega)
  have q3 := op_addS (l := [114] ++ tN ++ [32, 61, 32, 114, 111, 111, 116, 32, 111, 102, 32]) (m := s) (by simp; omega)
  have q4 := op_addS (l := [114] ++ tN ++ [32, 61, 32, 114, 111, 111, 116, 32, 111, 102, 32] ++ s) (m := [10]) (by simp; omega)
  generalize [114] ++ tN = t1 at *
  generalize t1 ++ [32, 61, 32, 114, 111, 111, 116, 32, 111, 102, 32] = t2 at *
  generalize t2 ++ s = t3 at *
  generalize t3 ++ [10] = t4 at *
  simp [ev, evs, h1, h2, op_add, e, st, l_r1, l_rof, l_nl, q1, q2, q3, q4, andThen_some', wthD_some']
/-- rows of a tower -/
def rowsT : {n : Nat} → Tw n → List (List Nat)
  | _, .nil => []
  | n + 1, .snoc t r => rowsT t ++ [rowL n (txN n r)]
theorem rowsT_len : {n : Nat} → (t : Tw n) → (rowsT t).length = n
  | _, .nil => rfl
  | n + 1, .snoc t r => by
    show (rowsT t ++ [_]).length = _
    rw [List.length_append, rowsT_len t]
    rfl
/-- the k-th root, once more: with the row that tells it -/
theorem tw_row {P : Int × Int → Prop} : {n : Nat} → (t : Tw n) → TwAll P t → {k : Nat} → k < n → ∃ (s : Tw k) (r : Nm k), atI (twL t) (k : Int) = some (nD k r) ∧ slD (tD t) none (some (k : Int)) = some (tD s) ∧ (rowsT t)[k]? = some (rowL k (txN k r)) ∧ TwAll P s ∧ AllL P k r
  | _, .nil, _, k, h => by omega
  | n + 1, .snoc t r, g, k, h => by
    have l1 : (twL (.snoc t r)) = twL t ++ [nD n r] := rfl
    have l2 : rowsT (.snoc t r) = rowsT t ++ [rowL n (txN n r)] := rfl
    by_cases e : k = n
    · subst e
      refine ⟨t, r, ?_, ?_, ?_, g.1, g.2⟩
      · rw [l1]
        exact atI_app _ _ _ (twL_len t)
      · rw [sl_take _ k (by rw [twL_len]; omega), l1, List.take_left' (twL_len t)]
      · rw [l2, List.getElem?_append_right (by rw [rowsT_len]; exact Nat.le_refl _), rowsT_len, Nat.sub_self]
        rfl
    · obtain ⟨s, r', h1, h2, h3, h4⟩ := tw_row t g.1 (k := k) (by omega)
      rw [sl_take _ k (by rw [twL_len]; omega)] at h2
      refine ⟨s, r', ?_, ?_, ?_, h4⟩
      · rw [l1, atI_nat (by rw [List.length_append, twL_len]; omega)]
        rw [atI_nat (by rw [twL_len]; omega)] at h1
        rw [← h1]
        congr 1
        rw [List.getElem_append_left]
      · rw [sl_take _ k (by rw [twL_len]; omega), l1, List.take_append_of_le_length (by rw [twL_len]; omega)]
        exact h2
      · rw [l2, List.getElem?_append_left (by rw [rowsT_len]; omega)]
        exact h3
end K02

set_option Elab.async false
set_option linter.all false
set_option maxRecDepth 100000
set_option maxHeartbeats 4000000
/-! texts of towers, points, colours, times -/
namespace K02
open FM
open L2 (atI)
open PySem (Str sizeLine)
local macro_rules | `(tactic| walk_at "go") => `(tactic| simp [FM.execs, FM.exec, FM.ev, FM.evs, FM.evo, FM.evc, FM.evi, FM.Sl.d, FM.isiD, FM.cmpD, FM.negD, FM.bindT, FM.andThen_some', FM.onBl_bl, FM.wthD_some', FM.eqD_int, FM.ix_tup, FM.ix_lst, FM.atI_0, FM.atI_1, FM.atI_2, FM.op_add, FM.op_sub, FM.op_subBl, FM.biD_abs, FM.szle, FM.pl_get, FM.pl_set, FM.isOw_pl, FM.noOw_pl, FM.lk_pl, FM.lks_pl, FM.itlk_pl, FM.setAll_pl, FM.setAllD])
def strsD (l : List (List Nat)) : List D := l.map fun s => D.str (S' s)
/-- texts put together -/
def joinD (a : Str) (l : List (List Nat)) : D := .str (PySem.Txt.join a (l.map S'))
theorem asStrs_strsD : ∀ l, asStrs (strsD l) = some (l.map S')
  | [] => rfl
  | s :: l => by
    show (asStrs (strsD l)).map (S' s :: ·) = _
    rw [asStrs_strsD l]
    rfl
theorem join_me {a : Str} {l : List (List Nat)} {μ : Cells} (ha : a.length ≤ 10) (hl : l.length ≤ 20) (h : ∀ s ∈ l, s.length ≤ 300000) : meD .join (.str a) [.lst (strsD l)] = some (joinD a l) := by
  show (match asStrs (strsD l) with | some ys => if (ys.map fun (y : Str) => y.length).sum + ys.length * a.length ≤ 16777216 then some (D.str (PySem.Txt.join a ys)) else none | none => none) = _
  rw [asStrs_strsD]
  have s : ∀ l : List (List Nat), (∀ s ∈ l, s.length ≤ 300000) → ((l.map S').map fun (x : Str) => x.length).sum ≤ l.length * 300000 := by
    intro l
    induction l with
    | nil => intro _; simp
    | cons s l ih =>
      intro h
      have h1 := h s (by simp)
      have h2 := ih fun x hx => h x (by simp [hx])
      simp only [List.map_cons, List.sum_cons, S'_len, List.length_cons]
      omega
  have s1 := s l h
  have e : (l.map S').length = l.length := List.length_map ..
  have b : l.length * a.length ≤ 20 * 10 := Nat.mul_le_mul hl ha
  simp only
  rw [if_pos (by rw [e]; omega)]
  rfl
theorem rowL_len {k : Nat} {s : List Nat} (hk : k ≤ 50) (hs : s.length ≤ 200000) : (rowL k s).length ≤ 300000 := by
  have c0 := txn_len (n := k) (by omega)
  unfold rowL
  simp only [List.length_append, List.length_cons, List.length_nil]
  omega
theorem rowsT_all {k : Nat} (hk : 0 < k) (hk2 : k < 1000) : {n : Nat} → n ≤ 5 → (t : Tw n) → TwAll (SmF k) t → ∀ s ∈ rowsT t, s.length ≤ 300000
  | _, _, .nil, _, s, h => by cases h
  | n + 1, hn, .snoc t r, g, s, h => by
    have h' : s ∈ rowsT t ++ [rowL n (txN n r)] := h
    rw [List.mem_append] at h'
    rcases h' with h' | h'
    · exact rowsT_all hk hk2 (by omega) t g.1 s h'
    · have e : s = rowL n (txN n r) := by simpa using h'
      rw [e]
      refine rowL_len (by omega) ?_
      have c1 := txN_len hk n (by omega) g.2
      have b := tlen_le hk2 n (by omega)
      omega
abbrev pO (x : D) (l : List (List Nat)) (o : Option D) : Env := [some (.pl x), some (.ow (strsD l)), o.map .pl]
def bRow : Ss := (.cons (.app 1 (.op .Add (.op .Add (.op .Add (.op .Add (.str "r") (.bi .str (.cons (.op .Add (.var 2) (.int 1)) .nil))) (.str " = root of ")) (.call 34 (.cons (.ix (.var 0) (.var 2)) (.cons (.sl (.var 0) .none (.some (.var 2))) .nil)))) (.str "\n"))) .nil)
theorem ptower_c {k : Nat} (hk : 0 < k) (hk2 : k < 1000) {n : Nat} (hn : n ≤ 5) (t : Tw n) (h : TwAll (SmF k) t) {m : Nat} (hm : n ≤ m) (μ : Cells) : T (m + 8) 35 [tD t] μ = some (joinD "" (rowsT t), μ) := by
  obtain ⟨ρ', μ', e1, e2⟩ := forF_inv (fun ys ρ μ' => μ' = μ ∧ ∃ (q : Nat) (o : Option D), q ≤ n ∧ ys = (rngD 0 n).drop q ∧ ρ = pO (tD t) ((rowsT t).take q) o) (tg := .nm 2) (b := fun ρ' μ' => execs (T (m + 7)) W bRow ρ' μ') (fun y ys ρ μ1 hh => by
    obtain ⟨rfl, q, o, hq, hy, rfl⟩ := hh
    obtain ⟨q1, rfl, rfl⟩ := rng_drop hy
    obtain ⟨s, r, g1, g2, g3, g4, g5⟩ := tw_row t h q1
    have c1 := print_c hk hk2 q (by omega) s m (by omega) g5 μ1
    have b1 := txN_len hk q (by omega) g5
    have b2 := tlen_le hk2 q (by omega)
    have l1 : ((rowsT t).take q).length = q := by rw [List.length_take, rowsT_len]; omega
    have tk : (rowsT t).take (q + 1) = (rowsT t).take q ++ [rowL q (txN q r)] := by
      rw [List.take_add_one, g3]
      rfl
    refine ⟨_, _, _, rfl, ?_, rfl, q + 1, some (.int (0 + q)), by omega, rfl, rfl⟩
    have z : (0 : Int) + (q : Int) = (q : Int) := by omega
    rw [z]
    have re := row_ev (F := T (m + 7)) (ρ := pO (tD t) ((rowsT t).take q) (some (.int q))) (iv := .var 2) (ct := .call 34 (.cons (.ix (.var 0) (.var 2)) (.cons (.sl (.var 0) .none (.some (.var 2))) .nil))) (k := q) (s := txN q r) (μ := μ1) (by omega) (by omega) rfl (by
      generalize nD q r = R at *
      generalize tD s = S at *
      simp [ev, evs, evo, Sl.d, lks, lk, isOw, Sl.isOw, ix_tup, g1, g2, c1, andThen_some', wthD_some'])
    refine seq_nx (ρ1 := pO (tD t) ((rowsT t).take (q + 1)) (some (.int q))) (μ1 := μ1) ?_ rfl
    show exec (T (m + 7)) W (.app 1 _) (pO (tD t) ((rowsT t).take q) (some (.int q))) μ1 = _
    unfold exec
    rw [re]
    have l2 : (strsD ((rowsT t).take q)).length < sizeLine := Nat.lt_of_lt_of_le (show _ < 100 by unfold strsD; rw [List.length_map, l1]; omega) (by decide)
    rw [tk]
    simp only [List.getElem?_cons_succ, List.getElem?_cons_zero, andThen_some', l2, lk, if_true, Bool.false_eq_true, if_false]
    simp [strsD]) (rngD 0 n) (pO (tD t) [] none) μ ⟨rfl, 0, none, Nat.zero_le _, rfl, rfl⟩
  obtain ⟨rfl, q, o, hq, hy, rfl⟩ := e2
  have eq : q = n := by
    have := congrArg List.length hy
    rw [List.length_drop, rng_len] at this
    simp at this
    omega
  subst eq
  rw [List.take_of_length_le (by rw [rowsT_len]; exact Nat.le_refl _)] at e1
  have j := join_me (a := "") (l := rowsT t) (μ := μ') (by decide +kernel) (by rw [rowsT_len]; omega) (rowsT_all hk hk2 hn t h)
  have it : evi (T (m + 7)) (.rng1 (.bi .len (.cons (.var 0) .nil))) (pO (tD t) [] none) μ' = some (rngD 0 q, μ') := by
    refine evi_rng (n := q) ?_ (by omega)
    simp [ev, evs, Sl.d, len_tup, twL_len, andThen_some', wthD_some']
  refine (call_at (d := d_print_tower) rfl _ _).trans (run_pl rfl (Nat.le_of_ble_eq_true rfl) ?_)
  refine seq_nx (ρ1 := pO (tD t) [] none) (μ1 := μ') rfl (seq_nx (for_of it rfl e1) (seq_rt ?_))
  simp [exec, ev, evs, Sl.d, lk, j, andThen_some', wthD_some']
theorem below_c {n : Nat} (hn : n ≤ 10) (t : Tw n) (ht : TwAll (Bd 6 1 3) t) {m : Nat} (hm : n + 1 ≤ m) {e1 m1 : Nat} {x : Nm n} (hx : AllL (Bd 6 e1 m1) n x) (hl : SL 1 3 n e1 m1) (μ : Cells) : T (m + 7) 36 [nD n x, tD t] μ = some (.bl (decide (signN t x < 0)), μ) := by
  have c2 : T (m + 6) 23 [nD n x, tD t] μ = some (.int (signN t x), μ) := sign_c tf (D := 6) (er := 1) (mr := 3) (by decide) (by decide) n (by omega) t ht m (by omega) hx hl μ
  refine (call_at (d := d_is_below_nought) rfl _ _).trans (run_pl rfl (Nat.le_of_ble_eq_true rfl) ?_)
  refine seq_rt (ret_of (lk_pl _ _) ?_)
  show ev (T (m + 6)) _ (pl [some (nD n x), some (tD t)]) μ = _
  generalize nD n x = X at *
  generalize tD t = Y at *
  walk_at "go"
  simp [c2, andThen_some', wthD_some']
theorem lc_mapG {α : Type} {F : Fs} {i : Nat} {elt : E} {ds : List (Option D)} {μ : Cells} (f g : α → D) : (xs : List α) → (hf : ∀ a ∈ xs, ev F elt (pl (ds.set i (some (f a)))) μ = some (g a, μ)) →
    lcGo (.nm i) (fun ρ' μ' => evc F .none ρ' μ') (fun ρ' μ' => if lk ρ' elt then none else ev F elt ρ' μ') (pl ds) (xs.map f) μ = some (xs.map g, μ)
  | [], _ => rfl
  | x :: xs, hf => by
    have ih := lc_mapG f g xs (fun d hd => hf d (List.mem_cons_of_mem _ hd))
    have c := hf x (List.mem_cons_self ..)
    have b : bindT (.nm i) (f x) (pl ds) = some (pl (ds.set i (some (f x)))) := by
      unfold bindT
      simp only [pl_set]
    rw [List.map_cons, List.map_cons]
    unfold lcGo
    rw [b]
    have e : ∀ ρ' μ', evc F .none ρ' μ' = some (true, μ') := fun _ _ => rfl
    simp only [e, lk_pl, Bool.false_eq_true, if_false, c] at ih ⊢
    rw [ih]
theorem point_c {k : Nat} (hk : 0 < k) (hk2 : k < 1000) {n : Nat} (hn : n ≤ 5) (t : Tw n) {m : Nat} (hm : n ≤ m) (xs : List (Nm n)) (hx : xs.length ≤ 20) (h : ∀ x ∈ xs, AllL (SmF k) n x) (μ : Cells) : T (m + 8) 40 [.tup (xs.map (nD n)), tD t] μ = some (joinD ", " (xs.map (txN n)), μ) := by
  have j := join_me (a := ", ") (l := xs.map (txN n)) (μ := μ) (by decide +kernel) (by rw [List.length_map]; omega) (fun s hs => by
    obtain ⟨x, hx, rfl⟩ := List.mem_map.mp hs
    have c1 := txN_len hk n (by omega) (h x hx)
    have b := tlen_le hk2 n (by omega)
    omega)
  have lc : ev (T (m + 7)) (.lc (.call 34 (.cons (.var 2) (.cons (.var 1) .nil))) (.nm 2) (.seq (.var 0)) .none) (pl [some (.tup (xs.map (nD n))), some (tD t), none]) μ = some (.lst (strsD (xs.map (txN n))), μ) := by
    have key := lc_mapG (F := T (m + 7)) (i := 2) (elt := .call 34 (.cons (.var 2) (.cons (.var 1) .nil))) (ds := [some (.tup (xs.map (nD n))), some (tD t), none]) (μ := μ) (nD n) (fun x => D.str (S' (txN n x))) xs fun y hy => by
      have c := print_c hk hk2 n hn t m hm (h y hy) μ
      show ev (T (m + 7)) (.call 34 (.cons (.var 2) (.cons (.var 1) .nil))) (pl [some (.tup (xs.map (nD n))), some (tD t), some (nD n y)]) μ = some (.str (S' (txN n y)), μ)
      walk_at "go"
      exact c
    have e : strsD (xs.map (txN n)) = xs.map (fun x => D.str (S' (txN n x))) := by
      unfold strsD
      rw [List.map_map]
      rfl
    rw [e]
    exact ev_lc (xs := xs.map (nD n)) (μ1 := μ) rfl (by rw [List.length_map]; omega) key
  refine (call_at (d := d_point_text) rfl _ _).trans (run_pl rfl (Nat.le_of_ble_eq_true rfl) ?_)
  refine seq_rt (ret_of (lk_pl _ _) ?_)
  show ev (T (m + 7)) _ (pl [some (.tup (xs.map (nD n))), some (tD t), none]) μ = _
  unfold ev
  unfold evs
  rw [show ev (T (m + 7)) (E.str (PySem.Str.ofString ", ")) (pl [some (.tup (xs.map (nD n))), some (tD t), none]) μ = some (.str ", ", μ) from rfl, andThen_some', lc]
  show wthD (meD .join (.str ", ") [.lst (strsD (xs.map (txN n)))]) μ = _
  rw [j]
  rfl
theorem colour_c (μ : Cells) : T 98 41 [.tup [fD (1, 2), fD (0, 1), fD (1, 1)]] μ = some (.str "1/2 0 1", μ) := by kernel_rfl
theorem ttext_c {a b c : D} {n : Nat} (hn : n ≤ 5) {t : Tw n} {x : Nm n} {k : Nat} (hk : 0 < k) (hk2 : k < 1000) (h : AllL (SmF k) n x) {m : Nat} (hm : n ≤ m) (μ : Cells) (g : T (m + 7) 38 [a, b] μ = some (.tup [tD t, nD n x], μ)) : T (m + 8) 39 [a, b] μ = some (.str (S' (txN n x)), μ) := by
  have c := print_c hk hk2 n hn t m hm h μ
  refine (call_at (d := d_time_text) rfl _ _).trans (run_pl rfl (Nat.le_of_ble_eq_true rfl) ?_)
  refine seq_nx (ρ1 := pl [some a, some b, some (tD t), some (nD n x)]) (μ1 := μ) ?_ (seq_rt (ret_of (lk_pl _ _) ?_))
  · show exec (T (m + 7)) W (.asgT [2, 3] (.call 38 (.cons (.var 0) (.cons (.var 1) .nil)))) (pl [some a, some b, none, none]) μ = _
    generalize tD t = X at *
    generalize nD n x = Y at *
    walk_at "go"
    simp [g, andThen_some', setAll_pl, setAllD]
  · show ev (T (m + 7)) (.call 34 (.cons (.var 3) (.cons (.var 2) .nil))) (pl [some a, some b, some (tD t), some (nD n x)]) μ = _
    generalize tD t = X at *
    generalize nD n x = Y at *
    walk_at "go"
    exact c
end K02

set_option Elab.async false
set_option linter.all false
set_option maxRecDepth 100000
set_option maxHeartbeats 4000000
/-! floors, figures, places between fractions -/
namespace K02
open FM
open OF (sgn sgn_eq0 Hom rat rat_mul)
open L2 (atI)
open PySem (Str sizeLine)
local macro_rules | `(tactic| walk_at "go") => `(tactic| simp [FM.execs, FM.exec, FM.ev, FM.evs, FM.evo, FM.evc, FM.evi, FM.Sl.d, FM.isiD, FM.cmpD, FM.negD, FM.bindT, FM.andThen_some', FM.onBl_bl, FM.wthD_some', FM.eqD_int, FM.ix_tup, FM.ix_lst, FM.atI_0, FM.atI_1, FM.atI_2, FM.op_add, FM.op_sub, FM.op_subBl, FM.biD_abs, FM.szle, FM.pl_get, FM.pl_set, FM.isOw_pl, FM.noOw_pl, FM.lk_pl, FM.lks_pl, FM.itlk_pl, FM.setAll_pl, FM.setAllD])
theorem bd_int {e m : Nat} {i : Int} (h : i.natAbs ≤ 2 ^ m) : Bd 6 e m (i, 1) := by
  refine ⟨by show (0 : Int) < 1; decide, ?_, Int.one_dvd _, ?_⟩
  · show Int.gcd i 1 = 1
    exact Int.gcd_one_right i
  · show (i.natAbs : Int) ≤ ((2 ^ m : Nat) : Int) * 1
    omega
theorem call2_of {F : Fs} {f : Nat} {a b : E} {ρ : Env} {μ μ1 μ2 : Cells} {x y : D} {r : Rs D} (hl : lks ρ (.cons a (.cons b .nil)) = false) (h1 : ev F a ρ μ = some (x, μ1)) (h2 : ev F b ρ μ1 = some (y, μ2)) (g : F f [x, y] μ2 = r) : ev F (.call f (.cons a (.cons b .nil))) ρ μ = r := by
  unfold ev
  rw [hl]
  unfold evs
  rw [h1, andThen_some']
  unfold evs
  rw [h2, andThen_some']
  exact g
theorem call1_of {F : Fs} {f : Nat} {a : E} {ρ : Env} {μ μ1 : Cells} {x : D} {r : Rs D} (hl : lks ρ (.cons a .nil) = false) (h1 : ev F a ρ μ = some (x, μ1)) (g : F f [x] μ1 = r) : ev F (.call f (.cons a .nil)) ρ μ = r := by
  unfold ev
  rw [hl]
  unfold evs
  rw [h1, andThen_some']
  exact g
theorem call3_of {F : Fs} {f : Nat} {a b c : E} {ρ : Env} {μ μ1 μ2 μ3 : Cells} {x y z : D} {r : Rs D} (hl : lks ρ (.cons a (.cons b (.cons c .nil))) = false) (h1 : ev F a ρ μ = some (x, μ1)) (h2 : ev F b ρ μ1 = some (y, μ2)) (h3 : ev F c ρ μ2 = some (z, μ3)) (g : F f [x, y, z] μ3 = r) : ev F (.call f (.cons a (.cons b (.cons c .nil)))) ρ μ = r := by
  unfold ev
  rw [hl]
  unfold evs
  rw [h1, andThen_some']
  unfold evs
  rw [h2, andThen_some']
  unfold evs
  rw [h3, andThen_some']
  exact g
/-- all that a fixed tower and number bring along -/
structure Pt {n : Nat} (t : Tw n) (x : Nm n) (c : Int → Int) : Prop where
  cmp : ∀ (i : Int) (m : Nat) (μ : Cells), i.natAbs ≤ 2 ^ 33 → n + 2 ≤ m → T (m + 6) 24 [nD n (numN (i, 1) n), nD n x, tD t] μ = some (.int (c i), μ)
theorem sl33 {n : Nat} (h : n ≤ 3) : SL 1 3 n 1 34 := by
  have : n = 0 ∨ n = 1 ∨ n = 2 ∨ n = 3 := by omega
  rcases this with rfl | rfl | rfl | rfl <;> simp [SL, cc]
theorem pt_of {n : Nat} (hn : n ≤ 3) (t : Tw n) (ht : TwAll (Bd 6 1 3) t) {x : Nm n} (hx : AllL (Bd 6 1 33) n x) : Pt t x fun i => signN t (subN n (numN (i, 1) n) x) where
  cmp i m μ hi hm := cmp_c tf (D := 6) (er := 1) (mr := 3) (by decide) (by decide) (by omega) t ht hm (e1 := 1) (m1 := 33) (numN_all (bd01 _ _ _) (bd_int hi) n) hx (by decide) (sl33 hn) μ
section
variable {L : Type} [fL : Lean.Grind.Field L] [LE L] [LT L] [Std.LawfulOrderLT L] [Std.IsLinearOrder L] [Lean.Grind.OrderedRing L] {j : Rat → L} {ρ : Nat → L}
theorem val_int {n : Nat} (hj : Hom j) (i : Int) : val j ρ n (numN (i, 1) n) = ji j i := by
  rw [val_num hj]
  unfold ji
  congr 1
  unfold rat
  simp only
  grind
theorem c_sgn {n : Nat} (hj : Hom j) {t : Tw n} (hv : TwV j ρ t) (ht : TwAll Pd t) {x : Nm n} (hx : AllL (Bd 6 1 33) n x) {i : Int} (hi : i.natAbs ≤ 2 ^ 33) : signN t (subN n (numN (i, 1) n) x) = sgn (ji j i - val j ρ n x) := by
  have pd : ∀ {m : Nat} {z : Nm n}, AllL (Bd 6 1 m) n z → AllL Pd n z := fun h => AllL.imp (fun _ g => g.pd) _ h
  have h1 : AllL (Bd 6 1 33) n (numN (i, 1) n) := numN_all (bd01 _ _ _) (bd_int hi) n
  rw [sign_val hj t hv ht (pd (subN_bd (by decide) h1 hx)), val_sub hj n (pd h1) (pd hx), val_int hj]
end
theorem sgn_le0 {L : Type} [Lean.Grind.Field L] [LE L] [LT L] [Std.LawfulOrderLT L] [Std.IsLinearOrder L] [Lean.Grind.OrderedRing L] (x : L) : sgn x ≤ 0 ↔ x ≤ 0 := by
  rcases Std.lt_trichotomy x 0 with z | z | z
  · rw [OF.sgn_neg z]
    exact ⟨fun _ => by grind, fun _ => by decide⟩
  · rw [z, OF.sgn_zero]
    exact ⟨fun _ => by grind, fun _ => by decide⟩
  · rw [OF.sgn_pos z]
    exact ⟨fun h => absurd h (by decide), fun h => by grind⟩
theorem floorin_c {n : Nat} (h0 : 0 < n) (hn : n ≤ 3) {t : Tw n} {x : Nm n} {c : Int → Int} (pt : Pt t x c) (b1 : ¬ (c (2 ^ 32) ≤ 0)) (b2 : c (-(2 ^ 32)) ≤ 0) {m : Nat} (hm : 2 * n + 3 ≤ m) (μ : Cells) :
    ∃ f, T (m + 7) 31 [nD n x, tD t] μ = some (.int f, μ) ∧ c f ≤ 0 ∧ ¬ (c (f + 1) ≤ 0) ∧ f.natAbs ≤ 2 ^ 32 := by
  have nm : ∀ d : D, T (m + 6) 16 [d, tD t] μ = some (liftD 0 d n, μ) := fun d => number_c tf2 (by omega) hm d (twL t) (twL_len t) μ
  have ev1 : ∀ (i : Int) (e : E) (ρ' : List (Option D)), i.natAbs ≤ 2 ^ 33 → ev (T (m + 6)) e (pl (some (nD n x) :: some (tD t) :: ρ')) μ = some (.int i, μ) → ev (T (m + 6)) (.call 24 (.cons (.call 16 (.cons (.tup (.cons e (.cons (.int 1) .nil))) (.cons (.var 1) .nil))) (.cons (.var 0) (.cons (.var 1) .nil)))) (pl (some (nD n x) :: some (tD t) :: ρ')) μ = some (.int (c i), μ) := by
    intro i e ρ' hi he
    have q := pt.cmp i m μ hi (by omega)
    have p := nm (fD (i, 1))
    rw [liftQ] at p
    generalize nD n (numN (i, 1) n) = N at *
    generalize nD n x = X at *
    generalize tD t = Y at *
    have tp : ev (T (m + 6)) (.tup (.cons e (.cons (.int 1) .nil))) (pl (some X :: some Y :: ρ')) μ = some (fD (i, 1), μ) := by
      unfold ev
      unfold evs
      rw [he]
      unfold evs
      simp [lks, lk_pl, lks_pl, ev, evs, andThen_some', szle]
    have v0 : ev (T (m + 6)) (.var 0) (pl (some X :: some Y :: ρ')) μ = some (X, μ) := rfl
    have v1 : ev (T (m + 6)) (.var 1) (pl (some X :: some Y :: ρ')) μ = some (Y, μ) := rfl
    exact call3_of (lks_pl _ _) (call2_of (lks_pl _ _) tp v1 p) v0 v1 q
  have e0 := tw_nil t (by omega)
  rw [show decide (n = 0) = false from decide_eq_false (by omega)] at e0
  obtain ⟨k, k1, k2, k3, k4⟩ := double_loop (c := fun ρ' μ' => onBl (ev (T (m + 6)) (.or (.cmp .LtE (.call 24 (.cons (.call 16 (.cons (.tup (.cons (.var 2) (.cons (.int 1) .nil))) (.cons (.var 1) .nil))) (.cons (.var 0) (.cons (.var 1) .nil)))) (.int 0)) (.cmp .Gt (.call 24 (.cons (.call 16 (.cons (.tup (.cons (.neg (.var 2)) (.cons (.int 1) .nil))) (.cons (.var 1) .nil))) (.cons (.var 0) (.cons (.var 1) .nil)))) (.int 0))) ρ' μ') fun x μ1 => some (x, μ1)) (b := fun ρ' μ' => execs (T (m + 6)) W (.cons (.asg 2 (.op .Mult (.int 2) (.var 2))) .nil) ρ' μ') (μ := μ) (fun h => pl [some (nD n x), some (tD t), some (.int h), none, none, none]) (fun k => decide (c (2 ^ k) ≤ 0) || decide (0 < c (-(2 ^ k)))) 32
    (fun k hk => by
      have le : ((2 : Int) ^ k).natAbs ≤ 2 ^ 32 := by
        rw [Int.natAbs_pow]
        exact Nat.pow_le_pow_right (by decide) hk
      have c1 := ev1 (2 ^ k) (.var 2) [some (.int (2 ^ k)), none, none, none] (by omega) rfl
      have c2 := ev1 (-(2 ^ k)) (.neg (.var 2)) [some (.int (2 ^ k)), none, none, none] (by omega) rfl
      have d1 := cmp_of (o := .LtE) c1 (show ev (T (m + 6)) (.int 0) _ μ = some (.int 0, μ) from rfl) rfl
      have d2 := cmp_of (o := .Gt) c2 (show ev (T (m + 6)) (.int 0) _ μ = some (.int 0, μ) from rfl) rfl
      show onBl (ev (T (m + 6)) (.or _ _) (FM.pl [some (nD n x), some (tD t), some (.int (2 ^ k)), none, none, none]) μ) _ = _
      unfold ev
      rw [d1, onBl_bl]
      cases z : decide (c (2 ^ k) ≤ 0) with
      | true => rfl
      | false =>
        simp only [Bool.false_eq_true, if_false]
        rw [d2]
        rfl)
    (fun k hk => by
      have mu := op_mul (a := 2) (j := 2) (show Sm 2 2 by unfold Sm; decide) (sm_pow2 k) (by omega)
      have e : (2 : Int) ^ (k + 1) = 2 * 2 ^ k := by rw [Int.pow_succ, Int.mul_comm]
      rw [e]
      generalize (2 : Int) ^ k = y at *
      generalize nD n x = X at *
      generalize tD t = Y at *
      walk_at "go"
      simp [mu, andThen_some', wthD_some'])
    (by
      rw [decide_eq_false b1, decide_eq_false (by omega)]
      rfl) 32 0 W (by omega) (Wbig (by omega))
  rw [Bool.or_eq_false_iff] at k3
  have k5 := of_decide_eq_false k3.1
  have k6 := of_decide_eq_false k3.2
  have pk : 0 < (2 : Int) ^ k := Int.pow_pos (by decide)
  have pl : (2 : Int) ^ k ≤ 2 ^ 32 := by
    have le : ((2 : Int) ^ k).natAbs ≤ 2 ^ 32 := by
      rw [Int.natAbs_pow]
      exact Nat.pow_le_pow_right (by decide) k2
    omega
  obtain ⟨r, o', r1, r2, r3, r4, r5⟩ := halve_loop (c := fun ρ' μ' => onBl (ev (T (m + 6)) (.cmp .Gt (.op .Sub (.var 4) (.var 3)) (.int 1)) ρ' μ') fun x μ1 => some (x, μ1)) (b := fun ρ' μ' => execs (T (m + 6)) W (.cons (.asg 5 (.op .FloorDiv (.op .Add (.var 3) (.var 4)) (.int 2))) (.cons (.ifs (.cmp .LtE (.call 24 (.cons (.call 16 (.cons (.tup (.cons (.var 5) (.cons (.int 1) .nil))) (.cons (.var 1) .nil))) (.cons (.var 0) (.cons (.var 1) .nil)))) (.int 0)) (.cons (.asg 3 (.var 5)) .nil) (.cons (.asg 4 (.var 5)) .nil)) .nil)) ρ' μ') (μ := μ)
    (fun lo hi o => FM.pl [some (nD n x), some (tD t), some (.int (2 ^ k)), some (.int lo), some (.int hi), o]) (fun i => decide (c i ≤ 0)) (-(2 ^ 32)) (2 ^ 32)
    (fun lo hi o => by
      generalize nD n x = X at *
      generalize tD t = Y at *
      walk_at "go")
    (fun lo hi o hA hB hz => by
      have d := op_div (lo + hi) dv2
      have m1 : (lo + hi).fdiv 2 * 2 ≤ lo + hi := by
        have := Int.fmod_nonneg_of_pos (lo + hi) (show (0 : Int) < 2 by decide)
        have := fdm (lo + hi) 2
        omega
      have m2 : lo + hi < (lo + hi).fdiv 2 * 2 + 2 := by
        have := Int.fmod_lt_of_pos (lo + hi) (show (0 : Int) < 2 by decide)
        have := fdm (lo + hi) 2
        omega
      generalize (lo + hi).fdiv 2 = y at *
      have c1 := ev1 y (.var 5) [some (.int (2 ^ k)), some (.int lo), some (.int hi), some (.int y)] (by omega) rfl
      have d1 := cmp_of (o := .LtE) c1 (show ev (T (m + 6)) (.int 0) _ μ = some (.int 0, μ) from rfl) rfl
      refine seq_nx (ρ1 := FM.pl [some (nD n x), some (tD t), some (.int (2 ^ k)), some (.int lo), some (.int hi), some (.int y)]) (μ1 := μ) ?_ ?_
      · generalize nD n x = X at *
        generalize tD t = Y at *
        walk_at "go"
        simp [d, andThen_some', wthD_some']
      · by_cases z : c y ≤ 0
        · rw [decide_eq_true z] at d1
          refine seq_nx (ifs_t (μ1 := μ) d1 rfl) ?_
          simp [z]
          rfl
        · rw [decide_eq_false z] at d1
          refine seq_nx (ifs_f (μ1 := μ) d1 rfl) ?_
          simp [z]
          rfl) (k + 1) W (-(2 ^ k)) (2 ^ k) none (Wbig (by omega)) (by omega) (by omega) (by omega) (by
        have := (sm_pow2 k)
        unfold Sm at this
        have e : (2 : Nat) ^ (k + 1) = 2 * 2 ^ k := by rw [Nat.pow_succ, Nat.mul_comm]
        have e2 : ((2 ^ k : Nat) : Int) = (2 : Int) ^ k := by exact Int.natCast_pow 2 k
        omega) (decide_eq_true (by omega)) (decide_eq_false k5)
  have r3' := of_decide_eq_true r3
  have r4' := of_decide_eq_false r4
  refine ⟨r, (call_at (d := d_floor_in) rfl _ _).trans (run_pl rfl (Nat.le_of_ble_eq_true rfl) ?_), r3', r4', by omega⟩
  have t1 : (2 : Int) ^ 0 = 1 := rfl
  rw [t1] at k4
  refine seq_nx (ifs_f (cmp_of (x := tD t) (y := .tup []) rfl rfl e0) rfl) (seq_nx rfl (seq_nx (whl_of k4) (seq_nx (ρ1 := FM.pl [some (nD n x), some (tD t), some (.int (2 ^ k)), some (.int (-(2 ^ k))), some (.int (2 ^ k)), none]) (μ1 := μ) ?_ (seq_nx (whl_of r5) (seq_rt rfl)))))
  generalize nD n x = X at *
  generalize tD t = Y at *
  walk_at "go"
end K02

set_option Elab.async false
set_option linter.all false
set_option maxRecDepth 100000
set_option maxHeartbeats 4000000
/-! figures and places, told by worths -/
namespace K02
open FM
open OF (sgn sgn_eq0 Hom rat rat_mul)
open L2 (atI)
open PySem (Str sizeLine)
local macro_rules | `(tactic| walk_at "go") => `(tactic| simp [FM.execs, FM.exec, FM.ev, FM.evs, FM.evo, FM.evc, FM.evi, FM.Sl.d, FM.isiD, FM.cmpD, FM.negD, FM.bindT, FM.andThen_some', FM.onBl_bl, FM.wthD_some', FM.eqD_int, FM.ix_tup, FM.ix_lst, FM.atI_0, FM.atI_1, FM.atI_2, FM.op_add, FM.op_sub, FM.op_subBl, FM.biD_abs, FM.szle, FM.pl_get, FM.pl_set, FM.isOw_pl, FM.noOw_pl, FM.lk_pl, FM.lks_pl, FM.itlk_pl, FM.setAll_pl, FM.setAllD])
theorem Lf.bd {x : Int × Int} (h : Lf x) : Bd 6 1 3 x := h.1
/-- a tower that the law has made -/
structure Ok {n : Nat} (t : Tw n) (rs : Nat → Int) : Prop where
  n3 : n ≤ 3
  lf : TwAll Lf t
  md : Mdl t
  ok : TwOk t rs
theorem Ok.bd {n : Nat} {t : Tw n} {rs : Nat → Int} (h : Ok t rs) : TwAll (Bd 6 1 3) t := twAll_imp (fun _ g => Lf.bd g) t h.lf
theorem Ok.pd {n : Nat} {t : Tw n} {rs : Nat → Int} (h : Ok t rs) : TwAll Pd t := twAll_imp (fun _ g => Lf.pd g) t h.lf
section
variable {L : Type} [fL : Lean.Grind.Field L] [LE L] [LT L] [Std.LawfulOrderLT L] [Std.IsLinearOrder L] [Lean.Grind.OrderedRing L] {j : Rat → L} {ρ : Nat → L}
theorem sgn_gt0 (x : L) : 0 < sgn x ↔ 0 < x := by
  have := sgn_le0 x
  constructor
  · intro h
    by_cases z : 0 < x
    · exact z
    · have := this.mpr (by grind)
      omega
  · intro h
    rw [OF.sgn_pos h]
    decide
theorem sgn_lt0 (x : L) : sgn x < 0 ↔ x < 0 := by
  rcases Std.lt_trichotomy x 0 with z | z | z
  · rw [OF.sgn_neg z]
    exact ⟨fun _ => z, fun _ => by decide⟩
  · rw [z, OF.sgn_zero]
    exact ⟨fun h => absurd h (by decide), fun h => by grind⟩
  · rw [OF.sgn_pos z]
    exact ⟨fun h => absurd h (by decide), fun h => by grind⟩
/-- a worth's figures tell the value -/
theorem told_val (hj : Hom j) {n : Nat} (hn : n ≤ 3) {rs : Nat → Int} {x : Nm n} (hx : AllL Lf n x) (h : RtOk j ρ rs n) {told : Int} (h1 : told * 1000000000000000000000000 + 100000000000000000000 < worN rs n x) (h2 : worN rs n x < (told + 1) * 1000000000000000000000000 - 100000000000000000000) :
    ji j told < val j ρ n x * ji j 1000000 ∧ val j ρ n x * ji j 1000000 < ji j (told + 1) ∧ told.natAbs ≤ 2 ^ 31 := by
  have w := wor_ab hj n hn hx h
  have v := val_ab hj n hx fun k hk => ⟨(h k hk).2.1, (h k hk).2.2.1⟩
  have e := EE_le hn
  have e2 := VV_le hn
  have k1 := ji_lt hj (show told * 1000000000000000000000000 < worN rs n x - EE n by omega)
  have k2 := ji_lt hj (show worN rs n x + EE n < (told + 1) * 1000000000000000000000000 by omega)
  have sp := ji_lt hj (show (0 : Int) < 1000000000000000000000000 by decide)
  have mp := ji_lt hj (show (0 : Int) < 1000000 by decide)
  have em := ji_mul hj 1000000 1000000000000000000000000
  have es : (1000000 : Int) * 1000000000000000000000000 = tS := by decide
  rw [es] at em
  rw [ji_zero hj] at sp mp
  rw [ji_mul hj, ji_sub hj] at k1
  rw [ji_mul hj, ji_add hj (worN rs n x)] at k2
  obtain ⟨w1, w2⟩ := w
  rw [em] at w1 w2
  have a1 : ji j told < val j ρ n x * ji j 1000000 := by
    by_cases z : ji j told < val j ρ n x * ji j 1000000
    · exact z
    · have := mnn (a := ji j 1000000000000000000000000) (b := ji j told - val j ρ n x * ji j 1000000) (by grind) (by grind)
      grind
  have a2 : val j ρ n x * ji j 1000000 < ji j (told + 1) := by
    by_cases z : val j ρ n x * ji j 1000000 < ji j (told + 1)
    · exact z
    · have := mnn (a := ji j 1000000000000000000000000) (b := val j ρ n x * ji j 1000000 - ji j (told + 1)) (by grind) (by grind)
      grind
  refine ⟨a1, a2, ?_⟩
  have v2 : Ab (val j ρ n x) (ji j 2000) := v.mono (ji_le hj e2.2)
  obtain ⟨v3, v4⟩ := v2
  have m1 := mnn (a := ji j 1000000) (b := ji j 2000 - val j ρ n x) (by grind) (by grind)
  have m2 := mnn (a := ji j 1000000) (b := ji j 2000 + val j ρ n x) (by grind) (by grind)
  have b1 : told < 2000 * 1000000 := lt_ji hj (by rw [ji_mul hj]; grind)
  have b2 : -(2000 * 1000000) < told + 1 := lt_ji hj (by rw [ji_neg hj, ji_mul hj]; grind)
  omega
theorem val_scl (hj : Hom j) {q : Int × Int} (hq : Pd q) : (n : Nat) → {x : Nm n} → AllL Pd n x → val j ρ n (sclN q n x) = val j ρ n x * j (rat q)
  | 0, x, h => by
    show j (rat (mulF (x : Int × Int) q)) = j (rat (x : Int × Int)) * j (rat q)
    rw [OF.rat_mul (Int.ne_of_gt h) (Int.ne_of_gt hq), hj.mul]
  | n + 1, x, h => by
    show val j ρ n (sclN q n x.1) + val j ρ n (sclN q n x.2) * ρ n = (val j ρ n x.1 + val j ρ n x.2 * ρ n) * j (rat q)
    rw [val_scl hj hq n h.1, val_scl hj hq n h.2]
    grind
theorem rat_int (i : Int) : j (rat (i, 1)) = ji j i := by
  unfold ji
  congr 1
  unfold rat
  simp only
  grind
end
/-- the floor of a number that lies between two whole numbers -/
theorem floor_at' {n : Nat} (h0 : 0 < n) {t : Tw n} {rs : Nat → Int} (o : Ok t rs) {z : Nm n} (hz : AllL (Bd 6 1 33) n z) {f : Int} (hf : f.natAbs ≤ 2 ^ 31)
    (hv : ∀ (L : Type) [Lean.Grind.Field L] [LE L] [LT L] [Std.LawfulOrderLT L] [Std.IsLinearOrder L] [Lean.Grind.OrderedRing L] (j : Rat → L) (ρ : Nat → L), Hom j → TwV j ρ t → RtOk j ρ rs n → ji j f ≤ val j ρ n z ∧ val j ρ n z < ji j (f + 1)) {m : Nat} (hm : 2 * n + 3 ≤ m) (μ : Cells) : T (m + 7) 31 [nD n z, tD t] μ = some (.int f, μ) := by
  have pt := pt_of o.n3 t o.bd hz
  obtain ⟨L, i1, i2, i3, i4, i5, i6, j, ρ, hj, hvv⟩ := o.md
  obtain ⟨g1, g2⟩ := hv L j ρ hj hvv (o.ok L j ρ hj hvv)
  have le : ∀ i : Int, i.natAbs ≤ 2 ^ 33 → (signN t (subN n (numN (i, 1) n) z) ≤ 0 ↔ ji j i ≤ val j ρ n z) := fun i hi => by
    rw [c_sgn hj hvv o.pd hz hi, sgn_le0]
    constructor <;> intro h <;> grind
  obtain ⟨f', r1, r2, r3, r4⟩ := floorin_c h0 o.n3 pt (by
    rw [le _ (by decide)]
    intro h
    have := lt_ji hj (a := 2 ^ 32) (b := f + 1) (by grind)
    omega) (by
    rw [le _ (by decide)]
    have := ji_le hj (a := -(2 ^ 32)) (b := f) (by omega)
    grind) hm μ
  rw [le _ (by omega)] at r2 r3
  have q1 := lt_ji hj (a := f') (b := f + 1) (by grind)
  have q2 := lt_ji hj (a := f) (b := f' + 1) (by grind)
  have : f' = f := by omega
  rw [← this]
  exact r1
/-! ### figures -/
theorem op_of {F : Fs} {o : PySem.Operator} {a b : E} {ρ : Env} {μ μ1 μ2 : Cells} {x y z : D} (h1 : ev F a ρ μ = some (x, μ1)) (h2 : ev F b ρ μ1 = some (y, μ2)) (g : opD o x y = some z) : ev F (.op o a b) ρ μ = some (z, μ2) := by
  unfold ev
  rw [h1, andThen_some', h2, andThen_some', g]
  rfl
theorem bi1_of {F : Fs} {b : Bi} {a : E} {ρ : Env} {μ μ1 : Cells} {x z : D} (h : ev F a ρ μ = some (x, μ1)) (g : biD μ1 b [x] = some z) : ev F (.bi b (.cons a .nil)) ρ μ = some (z, μ1) := by
  unfold ev
  unfold evs
  rw [h, andThen_some']
  show wthD (biD μ1 b [x]) μ1 = _
  rw [g]
  rfl
theorem fdiv_nat (a b : Nat) : (a : Int).fdiv (b : Int) = ((a / b : Nat) : Int) := by
  rw [Int.fdiv_eq_ediv_of_nonneg _ (Int.natCast_nonneg b)]
  rfl
theorem fmod_nat (a b : Nat) : (a : Int).fmod (b : Int) = ((a % b : Nat) : Int) := by
  rw [Int.fmod_eq_emod_of_nonneg _ (Int.natCast_nonneg b)]
  rfl
theorem txL_nat (n : Nat) : txL (n : Int) = dg n := by
  unfold txL
  rw [if_neg (by omega), Int.natAbs_natCast]
def figL (told : Int) : List Nat := (if told < 0 then [45] else []) ++ (dg (told.natAbs / 1000000) ++ ([46] ++ pad 6 (told.natAbs % 1000000)))
theorem l_dot : ("." : Str) = S' [46] := by decide +kernel
theorem l_zero : ("0" : Str) = S' [48] := by decide +kernel
theorem l_minus : ("-" : Str) = S' [45] := by decide +kernel
theorem len_str {l : List Nat} (μ : Cells) (h : l.length ≤ 1000) : biD μ .len [.str (S' l)] = some (.int (l.length : Int)) := by
  show (if (S' l).length ≤ sizeLine then some (D.int (S' l).length) else none) = _
  rw [S'_len, if_pos (Nat.le_trans h (by decide))]
theorem dv6 : Dv 1000000 := .inl (by decide)
theorem far_ev {F : Fs} {ρ' : List (Option D)} {a b : D} (μ : Cells) : ev F (.bi .int (.cons (.op .Add (.str "1") (.op .Mult (.str "0") (.var 2))) .nil)) (pl (some a :: some b :: some (.int 6) :: ρ')) μ = some (.int 1000000, μ) := by
  have e1 : opD .Mult (.str "0") (.int 6) = some (.str "000000") := by kernel_rfl
  have e2 : opD .Add (.str "1") (.str "000000") = some (.str "1000000") := by kernel_rfl
  have e3 : biD μ .int [.str "1000000"] = some (.int 1000000) := by kernel_rfl
  exact bi1_of (op_of rfl (op_of rfl rfl e1) e2) e3
/-- the text of the figures, as told by parts -/
theorem fig_tail {F : Fs} {a b : D} {told : Int} (ht : told.natAbs ≤ 2 ^ 31) (μ : Cells) : execs F W (.cons (.par 6 7 (.op .FloorDiv (.bi .abs (.cons (.var 4) .nil)) (.var 3)) (.op .Mod (.bi .abs (.cons (.var 4) .nil)) (.var 3))) (.cons (.asg 5 (.op .Add (.bi .str (.cons (.var 6) .nil)) (.ife (.cmp .Gt (.var 2) (.int 0)) (.op .Add (.op .Add (.str ".") (.op .Mult (.str "0") (.op .Sub (.var 2) (.bi .len (.cons (.bi .str (.cons (.var 7) .nil)) .nil))))) (.bi .str (.cons (.var 7) .nil))) (.str "")))) (.cons (.ret (.ife (.cmp .Lt (.var 4) (.int 0)) (.op .Add (.str "-") (.var 5)) (.var 5))) .nil))) (pl [some a, some b, some (.int 6), some (.int 1000000), some (.int told), none, none, none]) μ = some (.rt (.str (S' (figL told))) μ) := by
  have d1 : opD .FloorDiv (.int (told.natAbs : Int)) (.int 1000000) = some (.int ((told.natAbs / 1000000 : Nat) : Int)) := (op_div (told.natAbs : Int) dv6).trans (by rw [← fdiv_nat]; rfl)
  have d2 : opD .Mod (.int (told.natAbs : Int)) (.int 1000000) = some (.int ((told.natAbs % 1000000 : Nat) : Int)) := (op_mod (told.natAbs : Int) (j := 1000000) (by decide)).trans (by rw [← fmod_nat]; rfl)
  have hr : told.natAbs % 1000000 < 10 ^ 6 := Nat.mod_lt _ (by decide)
  have hb : told.natAbs / 1000000 < 2 ^ 31 := by omega
  unfold figL
  generalize told.natAbs / 1000000 = B at *
  generalize told.natAbs % 1000000 = R at *
  have hp := pad_dg 6 R hr (by decide)
  have lr := dg_len hr (by decide)
  have lb := txL_len (k := 31) (i := (B : Int)) (by unfold Sm; omega) (by decide)
  have s1 := bi_str μ (k := 31) (i := (B : Int)) (by unfold Sm; omega) (by decide)
  have s2 := bi_str μ (k := 31) (i := (R : Int)) (by unfold Sm; omega) (by decide)
  rw [txL_nat] at s1 s2 lb
  have ln := len_str μ (l := dg R) (by omega)
  have rz : opD .Mult (.str "0") (.int ((6 - (dg R).length : Nat) : Int)) = some (.str (S' (List.replicate (6 - (dg R).length) 48))) := by
    rw [← repS_zeros (by omega), ← l_zero]
    show (match opA .Mult (.str "0") (.int ((6 - (dg R).length : Nat) : Int)) with | some z => some z | none => if 0 ≤ ((6 - (dg R).length : Nat) : Int) ∧ ((6 - (dg R).length : Nat) : Int) ≤ 1000 ∧ ("0" : Str).length ≤ 1000 then some (D.str (repS "0" ((6 - (dg R).length : Nat) : Int))) else none) = _
    rw [show opA .Mult (.str "0") (.int ((6 - (dg R).length : Nat) : Int)) = none from rfl]
    simp only
    rw [if_pos ⟨by omega, by omega, by decide +kernel⟩]
  have e6 : (6 : Int) - ((dg R).length : Int) = ((6 - (dg R).length : Nat) : Int) := by omega
  generalize hz : List.replicate (6 - (dg R).length) 48 = Z at *
  have lz : Z.length ≤ 6 := by rw [← hz, List.length_replicate]; omega
  generalize ((6 - (dg R).length : Nat) : Int) = M at *
  generalize ((dg R).length : Int) = N at *
  have q1 := op_addS (l := [46]) (m := Z) (by simp; omega)
  have q2 := op_addS (l := [46] ++ Z) (m := dg R) (by simp; omega)
  have q3 := op_addS (l := dg B) (m := [46] ++ Z ++ dg R) (by simp; omega)
  have q4 := op_addS (l := [45]) (m := dg B ++ ([46] ++ Z ++ dg R)) (by simp; omega)
  have hp' : [46] ++ pad 6 R = [46] ++ Z ++ dg R := by rw [hp, List.append_assoc]
  rw [hp']
  generalize [46] ++ Z = z1 at *
  generalize z1 ++ dg R = z2 at *
  generalize dg B ++ z2 = z3 at *
  refine seq_nx (ρ1 := pl [some a, some b, some (.int 6), some (.int 1000000), some (.int told), none, some (.int B), some (.int R)]) (μ1 := μ) ?_ (seq_nx (ρ1 := pl [some a, some b, some (.int 6), some (.int 1000000), some (.int told), some (.str (S' z3)), some (.int B), some (.int R)]) (μ1 := μ) ?_ (seq_rt (ret_of (lk_pl _ _) ?_)))
  · walk_at "go"
    simp [d1, d2, andThen_some', wthD_some']
  · refine (asg_pl (d := .str (S' z3)) (μ1 := μ) ?_).trans rfl
    walk_at "go"
    simp [s1, s2, l_dot, ln, op_sub, e6, rz, q1, q2, q3, andThen_some', wthD_some']
  · by_cases z : told < 0
    · rw [if_pos z]
      refine (ife_t (μ1 := μ) ?_).trans ?_
      · walk_at "go"
        simp [z]
      · walk_at "go"
        simp [l_minus, q4, andThen_some', wthD_some']
    · rw [if_neg z]
      refine (ife_f (μ1 := μ) ?_).trans ?_
      · walk_at "go"
        omega
      · rfl
end K02

set_option Elab.async false
set_option linter.all false
set_option maxRecDepth 100000
set_option maxHeartbeats 4000000
/-! figures and places between, joined -/
namespace K02
open FM
open OF (sgn sgn_eq0 Hom rat rat_mul)
open L2 (atI)
open PySem (Str sizeLine)
local macro_rules | `(tactic| walk_at "go") => `(tactic| simp [FM.execs, FM.exec, FM.ev, FM.evs, FM.evo, FM.evc, FM.evi, FM.Sl.d, FM.isiD, FM.cmpD, FM.negD, FM.bindT, FM.andThen_some', FM.onBl_bl, FM.wthD_some', FM.eqD_int, FM.ix_tup, FM.ix_lst, FM.atI_0, FM.atI_1, FM.atI_2, FM.op_add, FM.op_sub, FM.op_subBl, FM.biD_abs, FM.szle, FM.pl_get, FM.pl_set, FM.isOw_pl, FM.noOw_pl, FM.lk_pl, FM.lks_pl, FM.itlk_pl, FM.setAll_pl, FM.setAllD])
abbrev mil : Int × Int := (1000000, 1)
theorem bd_mil {D : Nat} : Bd D 0 20 mil := ⟨by decide, by decide, Int.one_dvd _, by decide⟩
theorem scl_all {n : Nat} : ∀ {x : Nm n}, AllL Lf n x → AllL (Bd 6 1 33) n (sclN mil n x) := by
  induction n with
  | zero => intro x h; exact (Bd.mul (Lf.bd h) (bd_mil) (by decide)).mono (by decide) (by decide)
  | succ n ih => intro x h; exact ⟨ih h.1, ih h.2⟩
/-- what the law asks of a worth -/
def Clear (w : Int) : Prop := w.fdiv 1000000000000000000000000 * 1000000000000000000000000 + 100000000000000000000 < w ∧ w < (w.fdiv 1000000000000000000000000 + 1) * 1000000000000000000000000 - 100000000000000000000
abbrev told (w : Int) : Int := w.fdiv 1000000000000000000000000
section
variable {n : Nat} (h0 : 0 < n) {t : Tw n} {rs : Nat → Int} (o : Ok t rs) {x : Nm n} (hx : AllL Lf n x) (hc : Clear (worN rs n x))
include h0 o hx hc
theorem told_lt : (told (worN rs n x)).natAbs ≤ 2 ^ 31 := by
  obtain ⟨L, i1, i2, i3, i4, i5, i6, j, ρ, hj, hvv⟩ := o.md
  exact (told_val hj o.n3 hx (o.ok L j ρ hj hvv) hc.1 hc.2).2.2
theorem fl_mil {m : Nat} (hm : 2 * n + 3 ≤ m) (μ : Cells) : T (m + 7) 31 [nD n (sclN mil n x), tD t] μ = some (.int (told (worN rs n x)), μ) := by
  refine floor_at' h0 o (scl_all hx) (told_lt h0 o hx hc) (fun L _ _ _ _ _ _ j ρ hj hv hr => ?_) hm μ
  obtain ⟨a1, a2, _⟩ := told_val hj o.n3 hx hr hc.1 hc.2
  rw [val_scl hj (show Pd mil by unfold Pd; decide) n (AllL.imp (fun _ g => Lf.pd g) n hx), rat_int (j := j)]
  exact ⟨by grind, a2⟩
theorem fl_one {m : Nat} (hm : 2 * n + 3 ≤ m) (μ : Cells) : T (m + 7) 31 [nD n x, tD t] μ = some (.int ((worN rs n x).fdiv tS), μ) := by
  have tl := told_lt h0 o hx hc
  have e1 : (worN rs n x).fdiv tS * 1000000000000000000000000000000 + (worN rs n x).fmod tS = worN rs n x := fdm (worN rs n x) tS
  have e2 := Int.fmod_nonneg_of_pos (worN rs n x) (show 0 < tS by decide)
  have e3 := Int.fmod_lt_of_pos (worN rs n x) (show 0 < tS by decide)
  have c1 := hc.1
  have c2 := hc.2
  have ts : tS = 1000000000000000000000000000000 := rfl
  have td : told (worN rs n x) = (worN rs n x).fdiv 1000000000000000000000000 := rfl
  refine floor_at' h0 o (AllL.imp (fun _ g => (Lf.bd g).mono (by decide) (by decide)) n hx) (by omega) (fun L _ _ _ _ _ _ j ρ hj hv hr => ?_) hm μ
  obtain ⟨a1, a2, _⟩ := told_val hj o.n3 hx hr hc.1 hc.2
  have k1 := ji_le hj (show (worN rs n x).fdiv tS * 1000000 ≤ told (worN rs n x) by omega)
  have k2 := ji_le hj (show told (worN rs n x) + 1 ≤ ((worN rs n x).fdiv tS + 1) * 1000000 by omega)
  have mp := ji_lt hj (show (0 : Int) < 1000000 by decide)
  rw [ji_zero hj] at mp
  rw [ji_mul hj] at k1 k2
  constructor
  · exact cancel_le mp (by grind)
  · by_cases z : val j ρ n x < ji j ((worN rs n x).fdiv tS + 1)
    · exact z
    · have := mnn (a := ji j 1000000) (b := val j ρ n x - ji j ((worN rs n x).fdiv tS + 1)) (by grind) (by grind)
      grind
theorem below_one {m : Nat} (hm : n + 1 ≤ m) (μ : Cells) : T (m + 7) 36 [nD n x, tD t] μ = some (.bl (decide (worN rs n x < 0)), μ) := by
  have sl : SL 1 3 n 1 3 := (sl33 o.n3).mono (by decide) (by decide)
  have n3 := o.n3
  rw [below_c (by omega) t o.bd hm (AllL.imp (fun _ g => Lf.bd g) n hx) sl μ]
  congr 3
  obtain ⟨L, i1, i2, i3, i4, i5, i6, j, ρ, hj, hvv⟩ := o.md
  obtain ⟨a1, a2, _⟩ := told_val hj o.n3 hx (o.ok L j ρ hj hvv) hc.1 hc.2
  have c1 := hc.1
  have c2 := hc.2
  have td : told (worN rs n x) = (worN rs n x).fdiv 1000000000000000000000000 := rfl
  have mp := ji_lt hj (show (0 : Int) < 1000000 by decide)
  rw [ji_zero hj] at mp
  rw [decide_eq_decide, sign_val hj t hvv o.pd (AllL.imp (fun _ g => Lf.pd g) n hx), sgn_lt0]
  constructor
  · intro z
    have := mnn (a := ji j 1000000) (b := -val j ρ n x) (by grind) (by grind)
    have q := lt_ji hj (a := told (worN rs n x)) (b := 0) (by rw [ji_zero hj]; grind)
    omega
  · intro z
    have q := ji_le hj (show told (worN rs n x) + 1 ≤ 0 by omega)
    rw [ji_zero hj] at q
    by_cases y : val j ρ n x < 0
    · exact y
    · have := mnn (a := ji j 1000000) (b := val j ρ n x) (by grind) (by grind)
      grind
theorem figs_c {m : Nat} (hm : 2 * n + 3 ≤ m) (μ : Cells) : T (m + 8) 32 [nD n x, tD t, .int 6] μ = some (.str (S' (figL (told (worN rs n x)))), μ) := by
  have n3 := o.n3
  have s1 := scaled_c (D0 := 6) (e := 1) (mm := 3) (e' := 0) (m' := 20) (by decide) (by decide) bd_mil (by decide) (by decide) n (by omega) t (m + 1) (by omega) (AllL.imp (fun _ g => Lf.bd g) n hx) μ
  have f1 := fl_mil h0 o hx hc hm μ
  have tl := told_lt h0 o hx hc
  refine (call_at (d := d_figures_of) rfl _ _).trans (run_pl rfl (Nat.le_of_ble_eq_true rfl) ?_)
  refine seq_nx (ρ1 := pl [some (nD n x), some (tD t), some (.int 6), some (.int 1000000), none, none, none, none]) (μ1 := μ) ?_ (seq_nx (ρ1 := pl [some (nD n x), some (tD t), some (.int 6), some (.int 1000000), some (.int (told (worN rs n x))), none, none, none]) (μ1 := μ) ?_ (fig_tail tl μ))
  · exact (asg_pl (far_ev μ)).trans rfl
  · refine (asg_pl (d := .int (told (worN rs n x))) (μ1 := μ) ?_).trans rfl
    refine call2_of (lks_pl _ _) (call3_of (lks_pl _ _) rfl (show ev (T (m + 7)) (.tup (.cons (.var 3) (.cons (.int 1) .nil))) _ μ = some (fD mil, μ) from ?_) rfl s1) rfl f1
    walk_at "go"
theorem betw_c {m : Nat} (hm : 2 * n + 3 ≤ m) (μ : Cells) : T (m + 8) 33 [nD n x, tD t, .int 1000000] μ = some (.tup [fD (fr (told (worN rs n x)) 1000000), fD (fr (told (worN rs n x) + 1) 1000000)], μ) := by
  have n3 := o.n3
  have s1 := scaled_c (D0 := 6) (e := 1) (mm := 3) (e' := 0) (m' := 20) (by decide) (by decide) bd_mil (by decide) (by decide) n (by omega) t (m + 1) (by omega) (AllL.imp (fun _ g => Lf.bd g) n hx) μ
  have f1 := fl_mil h0 o hx hc hm μ
  have tl := told_lt h0 o hx hc
  have dn : Dn 1000000 := ⟨by unfold Sm; exact Nat.lt_of_lt_of_le (show (1000000 : Int).natAbs < 2 ^ 20 by decide) (Nat.pow_le_pow_right (by decide) (by decide)), .inl (by decide)⟩
  have g1 : T (m + 7) 2 [.int (told (worN rs n x)), .int 1000000] μ = some (fD (fr (told (worN rs n x)) 1000000), μ) := frac_at (m + 5) _ _ μ dn
  have g2 : T (m + 7) 2 [.int (told (worN rs n x) + 1), .int 1000000] μ = some (fD (fr (told (worN rs n x) + 1) 1000000), μ) := frac_at (m + 5) _ _ μ dn
  have nm : T (m + 7) 16 [fD (fr (told (worN rs n x)) 1000000), tD t] μ = some (nD n (numN (fr (told (worN rs n x)) 1000000) n), μ) := by
    rw [← liftQ]
    exact number_c tf2 (by omega) (m := m + 1) (by omega) _ (twL t) (twL_len t) μ
  have up : ∀ q : Int × Int, Lf q → Bd 30 1 3 q := fun q h => by
    obtain ⟨a, b, c, d⟩ := Lf.bd h
    exact ⟨a, b, Int.dvd_trans c (by decide), d⟩
  have hq : Bd 30 6 12 (fr (told (worN rs n x)) 1000000) := Bd.of (D := 30) (e := 6) (by decide) (by omega) (s := told (worN rs n x) * 729) (by
    have : ((30 ^ 6 : Nat) : Int) = 729 * 1000000 := by decide
    rw [this, Int.mul_assoc]) (by decide)
  have sl : SL 1 3 n 6 13 := by
    have : n = 0 ∨ n = 1 ∨ n = 2 ∨ n = 3 := by omega
    rcases this with e | e | e | e <;> rw [e] <;> simp [SL, cc]
  have hx30 : AllL (Bd 30 6 12) n x := AllL.imp (fun _ g => (up _ g).mono (by decide) (by decide)) n hx
  have hn30 : AllL (Bd 30 6 12) n (numN (fr (told (worN rs n x)) 1000000) n) := numN_all (bd01 _ _ _) hq n
  have cm : T (m + 7) 24 [nD n (numN (fr (told (worN rs n x)) 1000000) n), nD n x, tD t] μ = some (.int (signN t (subN n (numN (fr (told (worN rs n x)) 1000000) n) x)), μ) := cmp_c tf (D := 30) (er := 1) (mr := 3) (by decide) (by decide) (by omega) t (twAll_imp up t o.lf) (m := m + 1) (by omega) (e1 := 6) (m1 := 12) hn30 hx30 (by decide) sl μ
  have ne : signN t (subN n (numN (fr (told (worN rs n x)) 1000000) n) x) ≠ 0 := by
    obtain ⟨L, i1, i2, i3, i4, i5, i6, j, ρ, hj, hvv⟩ := o.md
    obtain ⟨a1, a2, _⟩ := told_val hj o.n3 hx (o.ok L j ρ hj hvv) hc.1 hc.2
    have pd : ∀ {e m : Nat} {z : Nm n}, AllL (Bd 30 e m) n z → AllL Pd n z := fun h => AllL.imp (fun _ g => g.pd) _ h
    rw [sign_val hj t hvv o.pd (pd (subN_bd (by decide) hn30 hx30)), val_sub hj n (pd hn30) (pd hx30), val_num hj, Ne, sgn_eq0]
    intro z
    have e : j (rat (fr (told (worN rs n x)) 1000000)) * ji j 1000000 = ji j (told (worN rs n x)) := by
      have q := OF.rat_den (x := (told (worN rs n x), 1000000)) (show (1000000 : Int) ≠ 0 by decide)
      rw [OF.rat_fr _ (by decide)]
      unfold ji
      rw [← hj.mul]
      exact congrArg j q
    have z' : j (rat (fr (told (worN rs n x)) 1000000)) = val j ρ n x := by grind
    rw [z'] at e
    grind
  generalize fr (told (worN rs n x)) 1000000 = fa at *
  generalize fr (told (worN rs n x) + 1) 1000000 = fb at *
  generalize signN t (subN n (numN fa n) x) = sg at *
  refine (call_at (d := d_between) rfl _ _).trans (run_pl rfl (Nat.le_of_ble_eq_true rfl) ?_)
  refine seq_nx (ρ1 := pl [some (nD n x), some (tD t), some (.int 1000000), some (.int (told (worN rs n x))), none]) (μ1 := μ) ?_ (seq_nx (ρ1 := pl [some (nD n x), some (tD t), some (.int 1000000), some (.int (told (worN rs n x))), some (fD fa)]) (μ1 := μ) ?_ (seq_nx (ifs_f (cmp_of (x := .int sg) (y := .int 0) (μ1 := μ) (μ2 := μ) ?_ rfl (show cmpD .Eq (.int sg) (.int 0) = some false by show eqD (.int sg) (.int 0) = some false; rw [eqD_int, decide_eq_false ne])) rfl) (seq_rt (ret_of (lk_pl _ _) ?_))))
  · refine (asg_pl (d := .int (told (worN rs n x))) (μ1 := μ) ?_).trans rfl
    refine call2_of (lks_pl _ _) (call3_of (lks_pl _ _) rfl (show ev (T (m + 7)) (.tup (.cons (.var 2) (.cons (.int 1) .nil))) _ μ = some (fD mil, μ) from ?_) rfl s1) rfl f1
    walk_at "go"
  · refine (asg_pl (d := fD fa) (μ1 := μ) ?_).trans rfl
    exact call2_of (lks_pl _ _) rfl rfl g1
  · exact call3_of (lks_pl _ _) (call2_of (lks_pl _ _) rfl rfl nm) rfl rfl cm
  · have c2 : ev (T (m + 7)) (.call 2 (.cons (.op .Add (.var 3) (.int 1)) (.cons (.var 2) .nil))) (pl [some (nD n x), some (tD t), some (.int 1000000), some (.int (told (worN rs n x))), some (fD fa)]) μ = some (fD fb, μ) := call2_of (lks_pl _ _) (op_of rfl rfl (op_add _ _)) rfl g2
    have v : ev (T (m + 7)) (.var 4) (pl [some (nD n x), some (tD t), some (.int 1000000), some (.int (told (worN rs n x))), some (fD fa)]) μ = some (fD fa, μ) := rfl
    unfold ev
    unfold evs
    rw [lks_pl, v, andThen_some']
    unfold evs
    rw [c2, andThen_some']
    rfl
end
end K02

set_option Elab.async false
set_option linter.all false
set_option maxRecDepth 100000
set_option maxHeartbeats 4000000
/-! orders -/
namespace K02
open FM
open OF (sgn sgn_eq0 Hom rat rat_mul)
open L2 (atI)
open PySem (Str sizeLine)
def ordL (c : Nat → Nat → Bool) : Nat → List Nat
  | 0 => []
  | k + 1 => insAt (ordL c k) ((ordL c k).filter fun j => c j k).length k
theorem ordL_lt (c : Nat → Nat → Bool) : ∀ n, ∀ j ∈ ordL c n, j < n
  | 0, j, h => by cases h
  | n + 1, j, h => by
    unfold ordL insAt at h
    rw [List.mem_append, List.mem_append] at h
    rcases h with (h | h) | h
    · have := ordL_lt c n j (List.mem_of_mem_take h)
      omega
    · have : j = n := by simpa using h
      omega
    · have := ordL_lt c n j (List.mem_of_mem_drop h)
      omega
theorem ordL_len (c : Nat → Nat → Bool) : ∀ n, (ordL c n).length = n
  | 0 => rfl
  | n + 1 => by
    have ih := ordL_len c n
    have le := List.length_filter_le (fun j => c j n) (ordL c n)
    unfold ordL insAt
    simp only [List.length_append, List.length_take, List.length_drop, List.length_cons, List.length_nil]
    omega
abbrev pJ (ds : List D) (Y : D) (l : List Nat) (o3 o4 o5 : Option D) : Env := [some (.pl (.lst ds)), some (.pl Y), some (.ow (l.map fun (k : Nat) => D.int k)), o3.map .pl, o4.map .pl, o5.map .pl]
def bOrd : Ss := (.cons (.asg 4 (.bi .len (.cons (.lc (.var 5) (.nm 5) (.seq (.var 2)) (.some (.cmp .LtE (.call 24 (.cons (.ix (.var 0) (.var 5)) (.cons (.ix (.var 0) (.var 3)) (.cons (.var 1) .nil)))) (.int 0)))) .nil))) (.cons (.ins 2 (.var 4) (.var 3)) .nil))
theorem order_c {m : Nat} {ds : List D} {Y : D} {c : Nat → Nat → Bool} (hN : ds.length ≤ 50) (hc : ∀ (μ : Cells) (j k : Nat) (h1 : j < k) (h2 : k < ds.length), ∃ s : Int, T m 24 [ds[j]'(by omega), ds[k], Y] μ = some (.int s, μ) ∧ decide (s ≤ 0) = c j k) (μ : Cells) : T (m + 1) 37 [.lst ds, Y] μ = some (.tup ((ordL c ds.length).map fun (k : Nat) => D.int k), μ) := by
  obtain ⟨ρ', μ', e1, e2⟩ := forF_inv (fun ys ρ μ' => μ' = μ ∧ ∃ (q : Nat) (o3 o4 o5 : Option D), q ≤ ds.length ∧ ys = (rngD 0 ds.length).drop q ∧ ρ = pJ ds Y (ordL c q) o3 o4 o5) (tg := .nm 3) (b := fun ρ' μ' => execs (T m) W bOrd ρ' μ') (fun y ys ρ μ1 hh => by
    obtain ⟨rfl, q, o3, o4, o5, hq, hy, rfl⟩ := hh
    obtain ⟨q1, rfl, rfl⟩ := rng_drop hy
    have z : (0 : Int) + (q : Int) = (q : Int) := by omega
    refine ⟨_, _, _, rfl, ?_, rfl, q + 1, some (.int q), some (.int (((ordL c q).filter fun j => c j q).length : Nat)), o5, by omega, rfl, rfl⟩
    rw [z]
    show execs (T m) W bOrd (pJ ds Y (ordL c q) (some (.int q)) o4 o5) μ1 = _
    have lc : ev (T m) (.lc (.var 5) (.nm 5) (.seq (.var 2)) (.some (.cmp .LtE (.call 24 (.cons (.ix (.var 0) (.var 5)) (.cons (.ix (.var 0) (.var 3)) (.cons (.var 1) .nil)))) (.int 0)))) (pJ ds Y (ordL c q) (some (.int q)) o4 o5) μ1 = some (.lst (((ordL c q).filter fun j => c j q).map fun (k : Nat) => D.int k), μ1) := by
      refine ev_lc (xs := (ordL c q).map fun (k : Nat) => D.int (0 + k)) (μ1 := μ1) ?_ (by rw [List.length_map, ordL_len]; omega) (lc_filter q (fun j => c j q) (fun k hk => ?_) (fun k => ?_) (ordL c q) (ordL_lt c q))
      · show some ((ordL c q).map (fun (k : Nat) => D.int k), μ1) = _
        congr 2
        refine List.map_congr_left fun k _ => ?_
        rw [Int.zero_add]
      · obtain ⟨s, s1, s2⟩ := hc μ1 k q hk q1
        show onBl (ev (T m) _ (pJ ds Y (ordL c q) (some (.int q)) o4 (some (.int k))) μ1) _ = _
        have i1 : ev (T m) (.ix (.var 0) (.var 5)) (pJ ds Y (ordL c q) (some (.int q)) o4 (some (.int k))) μ1 = some (ds[k]'(by omega), μ1) := ev_ix (x := .lst ds) rfl rfl (by show ixD μ1 (.lst ds) (.int _) = _; rw [ix_lst]; exact atI_nat (by omega))
        have i2 : ev (T m) (.ix (.var 0) (.var 3)) (pJ ds Y (ordL c q) (some (.int q)) o4 (some (.int k))) μ1 = some (ds[q], μ1) := ev_ix (x := .lst ds) rfl rfl (by show ixD μ1 (.lst ds) (.int _) = _; rw [ix_lst]; exact atI_nat (by omega))
        have cl := cmp_of (o := .LtE) (call3_of (F := T m) (f := 24) rfl i1 i2 (show ev (T m) (.var 1) _ μ1 = some (Y, μ1) from rfl) s1) (show ev (T m) (.int 0) _ μ1 = some (.int 0, μ1) from rfl) (t := decide (s ≤ 0)) rfl
        rw [cl, onBl_bl, s2]
      · rfl
    have ln : ev (T m) (.bi .len (.cons (.lc (.var 5) (.nm 5) (.seq (.var 2)) (.some (.cmp .LtE (.call 24 (.cons (.ix (.var 0) (.var 5)) (.cons (.ix (.var 0) (.var 3)) (.cons (.var 1) .nil)))) (.int 0)))) .nil)) (pJ ds Y (ordL c q) (some (.int q)) o4 o5) μ1 = some (.int (((ordL c q).filter fun j => c j q).length : Nat), μ1) := bi1_of lc (by
      show some (D.int (((ordL c q).filter fun j => c j q).map fun (k : Nat) => D.int k).length) = _
      rw [List.length_map])
    have le : ((ordL c q).filter fun j => c j q).length ≤ q := by
      have := List.length_filter_le (fun j => c j q) (ordL c q)
      rwa [ordL_len] at this
    refine seq_nx (ρ1 := pJ ds Y (ordL c q) (some (.int q)) (some (.int (((ordL c q).filter fun j => c j q).length : Nat))) o5) (μ1 := μ1) ?_ (seq_nx (ρ1 := pJ ds Y (ordL c (q + 1)) (some (.int q)) (some (.int (((ordL c q).filter fun j => c j q).length : Nat))) o5) (μ1 := μ1) ?_ rfl)
    · have w : isOw (pJ ds Y (ordL c q) (some (.int q)) o4 o5) 4 = false := by cases o4 <;> rfl
      unfold exec
      rw [ln, w]
      rfl
    · have lt : ((ordL c q).map fun (k : Nat) => D.int k).length < sizeLine := Nat.lt_of_lt_of_le (show _ < 100 by rw [List.length_map, ordL_len]; omega) (by decide)
      have ins : insAt ((ordL c q).map fun (k : Nat) => D.int k) ((ordL c q).filter fun j => c j q).length (D.int q) = (ordL c (q + 1)).map fun (k : Nat) => D.int k := by
        show _ = (insAt (ordL c q) ((ordL c q).filter fun j => c j q).length q).map fun (k : Nat) => D.int k
        unfold insAt
        simp
      generalize ((ordL c q).filter fun j => c j q).length = M at *
      have e : exec (T m) W (.ins 2 (.var 4) (.var 3)) [some (.pl (.lst ds)), some (.pl Y), some (.ow ((ordL c q).map fun (k : Nat) => D.int k)), some (.pl (.int q)), some (.pl (.int M)), o5.map .pl] μ1 = (if ((ordL c q).map fun (k : Nat) => D.int k).length < sizeLine ∧ (0 : Int) ≤ (M : Int) ∧ (M : Int) < 2 ^ 63 then some (Res.nx [some (.pl (.lst ds)), some (.pl Y), some (.ow (insAt ((ordL c q).map fun (k : Nat) => D.int k) M (D.int q))), some (.pl (.int q)), some (.pl (.int M)), o5.map .pl] μ1) else none) := rfl
      refine e.trans ?_
      rw [if_pos ⟨lt, by omega, by omega⟩, ins]
      rfl) (rngD 0 ds.length) (pJ ds Y [] none none none) μ ⟨rfl, 0, none, none, none, Nat.zero_le _, rfl, rfl⟩
  obtain ⟨rfl, q, o3, o4, o5, hq, hy, rfl⟩ := e2
  have eq : q = ds.length := by
    have := congrArg List.length hy
    rw [List.length_drop, rng_len] at this
    simp at this
    omega
  subst eq
  refine (call_at (d := d_order_of) rfl _ _).trans (run_pl rfl (Nat.le_of_ble_eq_true rfl) ?_)
  refine seq_nx (ρ1 := pJ ds Y [] none none none) (μ1 := μ') rfl (seq_nx (for_of (evi_rng (n := ds.length) rfl (by omega)) rfl e1) (seq_rt rfl))
/-- the law's order and the program's -/
theorem ord_eq {w0 w1 w2 w3 : Int} (h01 : w0 ≠ w1) (h02 : w0 ≠ w2) (h03 : w0 ≠ w3) (h12 : w1 ≠ w2) (h13 : w1 ≠ w3) (h23 : w2 ≠ w3) {c : Nat → Nat → Bool} (c01 : c 0 1 = decide (w0 < w1)) (c02 : c 0 2 = decide (w0 < w2)) (c03 : c 0 3 = decide (w0 < w3)) (c12 : c 1 2 = decide (w1 < w2)) (c13 : c 1 3 = decide (w1 < w3)) (c23 : c 2 3 = decide (w2 < w3)) :
    (ordL c 4).map (fun (k : Nat) => D.int k) = (srtP [(w0, 0), (w1, 1), (w2, 2), (w3, 3)]).map fun p => D.int p.2 := by
  rcases Int.lt_or_gt_of_ne h01 with a | a <;> rcases Int.lt_or_gt_of_ne h02 with b | b <;> rcases Int.lt_or_gt_of_ne h03 with d | d <;> rcases Int.lt_or_gt_of_ne h12 with e | e <;> rcases Int.lt_or_gt_of_ne h13 with f | f <;> rcases Int.lt_or_gt_of_ne h23 with g | g <;>
  first
    | (exfalso; omega)
    | (have := Int.not_lt.mpr (Int.le_of_lt a)
       have := Int.not_lt.mpr (Int.le_of_lt b)
       have := Int.not_lt.mpr (Int.le_of_lt d)
       have := Int.not_lt.mpr (Int.le_of_lt e)
       have := Int.not_lt.mpr (Int.le_of_lt f)
       have := Int.not_lt.mpr (Int.le_of_lt g)
       simp [ordL, insAt, srtP, insP, leP, *])
end K02

set_option Elab.async false
set_option linter.all false
set_option maxRecDepth 100000
set_option maxHeartbeats 4000000
/-! the law's numbers, worths and towers -/
namespace K02
open FM
open OF (sgn sgn_eq0 Hom rat rat_mul)
open L2 (atI)
open PySem (Str sizeLine)
local macro_rules | `(tactic| walk_at "go") => `(tactic| simp [FM.execs, FM.exec, FM.ev, FM.evs, FM.evo, FM.evc, FM.evi, FM.Sl.d, FM.isiD, FM.cmpD, FM.negD, FM.bindT, FM.andThen_some', FM.onBl_bl, FM.wthD_some', FM.eqD_int, FM.ix_tup, FM.ix_lst, FM.atI_0, FM.atI_1, FM.atI_2, FM.op_add, FM.op_sub, FM.op_subBl, FM.biD_abs, FM.szle, FM.pl_get, FM.pl_set, FM.isOw_pl, FM.noOw_pl, FM.lk_pl, FM.lks_pl, FM.itlk_pl, FM.setAll_pl, FM.setAllD])
theorem lf_fr {a b : Int} (h1 : -6 ≤ a) (h2 : a ≤ 6) (h3 : 1 ≤ b) (h4 : b ≤ 3) : Lf (fr a b) := by
  constructor
  · have e : b = 1 ∨ b = 2 ∨ b = 3 := by omega
    have p : (((2 : Nat) ^ 3 : Nat) : Int) = 8 := by decide
    have p6 : (((6 : Nat) ^ 1 : Nat) : Int) = 6 := by decide
    refine Bd.of (D := 6) (e := 1) (m := 3) (by omega) (by rw [p]; omega) (s := if b = 1 then a * 6 else if b = 2 then a * 3 else a * 2) ?_ (by decide)
    rw [p6]
    rcases e with rfl | rfl | rfl <;> simp <;> omega
  · obtain ⟨s1, s2, s3, s4⟩ := fr_spec a (b := b) (by omega)
    have g0 : 0 < gs a b := by
      unfold gs
      rw [if_pos (by omega)]
      exact_mod_cast gcd_pos a (b := b) (by omega)
    generalize fr a b = f at *
    obtain ⟨f1, f2⟩ := f
    simp only at s1 s2 s3 s4
    show (f1.natAbs : Int) ≤ 6 * f2
    generalize gs a b = g at *
    have k1 : f1 * g ≤ 6 * f2 * g := by rw [Int.mul_assoc, ← s1, ← s2]; omega
    have k2 : -(6 * f2) * g ≤ f1 * g := by rw [Int.neg_mul, Int.mul_assoc, ← s1, ← s2]; omega
    have q1 := Int.le_of_mul_le_mul_right k1 g0
    have q2 := Int.le_of_mul_le_mul_right k2 g0
    omega
theorem lf01 : Lf (0, 1) := ⟨bd01 _ _ _, by decide⟩
theorem fr_next {m : Nat} {is : List Int} {k : Int} {ρ : Env} {many : Int} (hm : 0 < many) (hk : 0 ≤ k) (hw : ev (T (m + 2)) (.var 0) ρ [cw is k] = some (.cell 0, [cw is k])) (hl : ∀ e : Es, lks ρ (.cons (.var 0) (.cons (.int many) .nil)) = false) : ∃ r k1 : Int, 0 ≤ r ∧ r < many ∧ 0 ≤ k1 ∧ ev (T (m + 2)) (.call 43 (.cons (.var 0) (.cons (.int many) .nil))) ρ [cw is k] = some (.int r, [cw is k1]) := by
  obtain ⟨r, k1, h1, h2, h3, h4⟩ := next_at (m + 1) is k many hm hk
  exact ⟨r, k1, h1, h2, h3, call2_of (hl .nil) hw rfl h4⟩
theorem drawn_c : (n : Nat) → n ≤ 50 → (m : Nat) → n ≤ m → (is : List Int) → (k : Int) → 0 ≤ k → ∃ (x : Nm n) (k1 : Int), AllL Lf n x ∧ 0 ≤ k1 ∧ T (m + 3) 49 [.cell 0, .int n] [cw is k] = some (nD n x, [cw is k1])
  | 0, _, m, _, is, k, hk => by
    have nx : ∀ (many k : Int), 0 < many → 0 ≤ k → ∃ r k1 : Int, 0 ≤ r ∧ r < many ∧ 0 ≤ k1 ∧ ev (T (m + 2)) (.call 43 (.cons (.var 0) (.cons (.int many) .nil))) (pl [some (.cell 0), some (.int 0)]) [cw is k] = some (.int r, [cw is k1]) := fun many k hm hk => fr_next hm hk rfl fun _ => lks_pl _ _
    obtain ⟨r1, k1, a1, a2, a3, a4⟩ := nx 3 k (by decide) hk
    have c0 := cmp_of (o := .Gt) a4 (show ev (T (m + 2)) (.int 0) _ _ = some (.int 0, _) from rfl) (t := decide (0 < r1)) rfl
    have go : ∀ x, (∃ k', 0 ≤ k' ∧ ev (T (m + 2)) (.ife (.cmp .Gt (.call 43 (.cons (.var 0) (.cons (.int 3) .nil))) (.int 0)) (.call 47 (.cons (.op .Sub (.call 43 (.cons (.var 0) (.cons (.int 13) .nil))) (.int 6)) (.cons (.op .Add (.int 1) (.call 43 (.cons (.var 0) (.cons (.int 3) .nil)))) .nil))) (.tup (.cons (.int 0) (.cons (.int 1) .nil)))) (pl [some (.cell 0), some (.int 0)]) [cw is k] = some (fD x, [cw is k'])) → Lf x → ∃ (x : Nm 0) (k1 : Int), AllL Lf 0 x ∧ 0 ≤ k1 ∧ T (m + 3) 49 [.cell 0, .int 0] [cw is k] = some (nD 0 x, [cw is k1]) := by
      intro x ⟨k', b1, b2⟩ b3
      refine ⟨x, k', b3, b1, (call_at (d := d__law_drawn) rfl _ _).trans (run_pl rfl (Nat.le_of_ble_eq_true rfl) ?_)⟩
      exact seq_rt (ifs_t (cmp_of (x := .int 0) (y := .int 0) rfl rfl (show cmpD .Eq (.int 0) (.int 0) = some true by show eqD _ _ = _; rw [eqD_int]; rfl)) (seq_rt (ret_of (lk_pl _ _) b2)))
    by_cases z : 0 < r1
    · rw [decide_eq_true z] at c0
      obtain ⟨r2, k2, b1, b2, b3, b4⟩ := nx 13 k1 (by decide) a3
      obtain ⟨r3, k3, d1, d2, d3, d4⟩ := nx 3 k2 (by decide) b3
      refine go (fr (r2 - 6) (1 + r3)) ⟨k3, d3, (ife_t c0).trans ?_⟩ (lf_fr (by omega) (by omega) (by omega) (by omega))
      refine call2_of (lks_pl _ _) (op_of b4 rfl (op_sub _ _)) (op_of rfl d4 (op_add _ _)) ?_
      exact lfr_at m _ _ _ (by
        unfold Sm
        exact Nat.lt_of_lt_of_le (show (r2 - 6).natAbs < 2 ^ 5 by omega) (Nat.pow_le_pow_right (by decide) (by decide))) ⟨by
        unfold Sm
        exact Nat.lt_of_lt_of_le (show (1 + r3).natAbs < 2 ^ 5 by omega) (Nat.pow_le_pow_right (by decide) (by decide)), .inl (by omega)⟩
    · rw [decide_eq_false z] at c0
      refine go (0, 1) ⟨k1, a3, (ife_f c0).trans ?_⟩ lf01
      walk_at "go"
  | n + 1, hn, m, hm, is, k, hk => by
    obtain ⟨m, rfl⟩ : ∃ m', m = m' + 1 := ⟨m - 1, by omega⟩
    obtain ⟨x1, k1, a1, a2, a3⟩ := drawn_c n (by omega) m (by omega) is k hk
    obtain ⟨x2, k2, b1, b2, b3⟩ := drawn_c n (by omega) m (by omega) is k1 a2
    refine ⟨(x1, x2), k2, ⟨a1, b1⟩, b2, (call_at (d := d__law_drawn) rfl _ _).trans (run_pl rfl (Nat.le_of_ble_eq_true rfl) ?_)⟩
    have ez : cmpD .Eq (.int ((n + 1 : Nat) : Int)) (.int 0) = some false := by
      show eqD _ _ = _
      rw [eqD_int, decide_eq_false (by omega)]
    have sb : ((n + 1 : Nat) : Int) - 1 = (n : Int) := by omega
    refine seq_nx (ifs_f (cmp_of (x := .int ((n + 1 : Nat) : Int)) (y := .int 0) rfl rfl ez) rfl) (seq_rt (ret_of (lk_pl _ _) ?_))
    have c : ∀ {μ1 μ2 : Cells} {d : D}, T (m + 3) 49 [.cell 0, .int n] μ1 = some (d, μ2) → ev (T (m + 3)) (.call 49 (.cons (.var 0) (.cons (.op .Sub (.var 1) (.int 1)) .nil))) (pl [some (.cell 0), some (.int ((n + 1 : Nat) : Int))]) μ1 = some (d, μ2) := fun h => by
      refine call2_of (lks_pl _ _) rfl (op_of rfl rfl (op_sub _ _)) ?_
      rw [sb]
      exact h
    have c1 := c a3
    have c2 := c b3
    show ev (T (m + 3)) _ (pl [some (.cell 0), some (.int ((n + 1 : Nat) : Int))]) _ = _
    unfold ev
    unfold evs
    rw [lks_pl, c1, andThen_some']
    unfold evs
    rw [c2, andThen_some']
    rfl
/-! ### worths -/
theorem pow1030 : opD .Pow (.int 10) (.int 30) = some (.int tS) := by rfl
theorem sm_tS : Sm 100 tS := by unfold Sm; decide
theorem dv_tS : Dv tS := Dv.pos (by decide) sm_tS (by decide)
theorem worN_sm {rs : Nat → Int} : (n : Nat) → {x : Nm n} → AllL Lf n x → (∀ k, k < n → Sm 110 (rs k)) → Sm (111 * n + 112) (worN rs n x)
  | 0, x, h, _ => by
    obtain ⟨a, b⟩ : Int × Int := x
    have hb := (Lf.bd h).fq (by decide) (by decide)
    have := (hb.1.mul sm_tS).fdiv b
    exact Sm.mono this (by decide)
  | n + 1, x, h, g => by
    have a1 := worN_sm n h.1 fun k hk => g k (by omega)
    have a2 := worN_sm n h.2 fun k hk => g k (by omega)
    have a3 := (a2.mul (g n (by omega))).fdiv tS
    have a4 := (Sm.mono a1 (show 111 * n + 112 ≤ 111 * n + 112 + 110 by omega)).add a3
    exact Sm.mono a4 (by omega)
theorem lworth_c {l : List Int} : (n : Nat) → n ≤ 5 → n ≤ l.length → (∀ k, k < n → Sm 110 (l.getD k 0)) → (m : Nat) → n ≤ m → {x : Nm n} → AllL Lf n x → (μ : Cells) → T (m + 2) 58 [nD n x, .lst (l.map D.int)] μ = some (.int (worN (fun k => l.getD k 0) n x), μ)
  | 0, _, _, _, m, _, x, h, μ => by
    obtain ⟨a, b, rfl⟩ := nm0 x
    have hb := (Lf.bd h).fq (D := 6) (by decide) (by decide)
    have m1 := op_mul hb.1 sm_tS (by decide)
    have d1 := op_div (a * tS) (Dv.pos (j := b) hb.2.2.1 hb.2.1 (by decide))
    refine (call_at (d := d__law_worth) rfl _ _).trans (run_pl rfl (Nat.le_of_ble_eq_true rfl) ?_)
    refine seq_rt (ifs_t (leafz a b μ) (seq_rt (ret_of (lk_pl _ _) ?_)))
    show ev (T (m + 1)) _ (pl [some (.tup [.int a, .int b]), some (.lst (l.map D.int)), none]) μ = some (.int ((a * tS).fdiv b), μ)
    generalize D.lst (l.map D.int) = Y at *
    simp only at m1 d1
    exact op_of (op_of (x := .int a) (μ1 := μ) (by walk_at "go") (op_of (y := .int 30) (x := .int 10) (μ1 := μ) (μ2 := μ) rfl rfl pow1030) m1) (show ev (T (m + 1)) (.ix (.var 0) (.int 1)) _ μ = some (.int b, μ) by walk_at "go") d1
  | n + 1, hn, hl, hs, m, hm, x, h, μ => by
    obtain ⟨m, rfl⟩ : ∃ k, m = k + 1 := ⟨m - 1, by omega⟩
    have a1 := lworth_c (l := l) n (by omega) (by omega) (fun k hk => hs k (by omega)) m (by omega) h.1 μ
    have a2 := lworth_c (l := l) n (by omega) (by omega) (fun k hk => hs k (by omega)) m (by omega) h.2 μ
    have dp : T (m + 2) 55 [nD (n + 1) x] μ = some (.int ((n + 1 : Nat) : Int), μ) := ldeep_c (n + 1) (by omega) (m + 1) (by omega) x μ
    have s2 := worN_sm (rs := fun k => l.getD k 0) n h.2 fun k hk => hs k (by omega)
    have m1 := op_mul s2 (hs n (by omega)) (by omega)
    have d1 := op_div (worN (fun k => l.getD k 0) n x.2 * l.getD n 0) dv_tS
    have sb : ((n + 1 : Nat) : Int) - 1 = (n : Int) := by omega
    have ix : atI (l.map D.int) (n : Int) = some (.int (l.getD n 0)) := by
      rw [atI_nat (by rw [List.length_map]; omega), List.getElem_map, List.getD_eq_getElem?_getD, List.getElem?_eq_getElem (by omega)]
      rfl
    refine (call_at (d := d__law_worth) rfl _ _).trans (run_pl rfl (Nat.le_of_ble_eq_true rfl) ?_)
    refine seq_nx (ifs_f (leafq n x μ) rfl) (seq_nx (ρ1 := pl [some (.tup [nD n x.1, nD n x.2]), some (.lst (l.map D.int)), some (.int ((n + 1 : Nat) : Int))]) (μ1 := μ) ?_ (seq_rt (ret_of (lk_pl _ _) ?_)))
    · exact (asg_pl (call1_of (lks_pl _ _) rfl dp)).trans rfl
    · show ev (T (m + 2)) _ _ μ = some (.int (worN (fun k => l.getD k 0) n x.1 + (worN (fun k => l.getD k 0) n x.2 * l.getD n 0).fdiv tS), μ)
      generalize worN (fun k => l.getD k 0) n x.1 = w1 at *
      generalize worN (fun k => l.getD k 0) n x.2 = w2 at *
      generalize nD n x.1 = X1 at *
      generalize nD n x.2 = X2 at *
      have i1 : ∀ Y N, ev (T (m + 2)) (.ix (.var 0) (.int 0)) (pl [some (.tup [X1, X2]), Y, N]) μ = some (X1, μ) := fun Y N => by walk_at "go"
      have i2 : ∀ Y N, ev (T (m + 2)) (.ix (.var 0) (.int 1)) (pl [some (.tup [X1, X2]), Y, N]) μ = some (X2, μ) := fun Y N => by walk_at "go"
      refine op_of (call2_of (lks_pl _ _) (i1 _ _) rfl a1) (op_of (op_of (call2_of (lks_pl _ _) (i2 _ _) rfl a2) (ev_ix (x := .lst (l.map D.int)) (y := .int (n : Int)) (μ1 := μ) (μ2 := μ) rfl ?_ ?_) m1) (op_of (y := .int 30) (x := .int 10) (μ1 := μ) (μ2 := μ) rfl rfl pow1030) d1) (op_add _ _)
      · rw [← sb]
        exact op_of rfl rfl (op_sub _ _)
      · rw [ix_lst]
        exact ix
/-- how large a worth may be -/
theorem wor_le {n : Nat} {t : Tw n} {rs : Nat → Int} (o : Ok t rs) {x : Nm n} (hx : AllL Lf n x) : worN rs n x ≤ tS * 2000 + 10000000 := by
  obtain ⟨L, i1, i2, i3, i4, i5, i6, j, ρ, hj, hvv⟩ := o.md
  have r := o.ok L j ρ hj hvv
  have w := wor_ab hj n o.n3 hx r
  have v := (val_ab hj n hx fun k hk => ⟨(r k hk).2.1, (r k hk).2.2.1⟩).mono (ji_le hj (VV_le o.n3).2)
  have e := ji_le hj (EE_le o.n3).2
  have sp := tS_pos hj
  obtain ⟨v1, v2⟩ := v
  obtain ⟨w1, w2⟩ := w
  have m := mnn (a := ji j tS) (b := ji j 2000 - val j ρ n x) (by grind) (by grind)
  refine le_ji hj ?_
  rw [ji_add hj, ji_mul hj]
  grind
theorem lroot_c {m : Nat} {whole : Int} (h0 : 0 ≤ whole) (h1 : whole ≤ (tS * 2000 + 10000000) * tS) (μ : Cells) : ∃ r, T (m + 1) 59 [.int whole] μ = some (.int r, μ) ∧ 0 ≤ r ∧ r * r ≤ whole ∧ whole < (r + 1) * (r + 1) ∧ Sm 110 r := by
  have b : (tS * 2000 + 10000000) * tS < 2 ^ 106 * 2 ^ 106 := by decide
  obtain ⟨r, r1, r2, r3, r4⟩ := law_root_ok (F := T m) (K := 106) μ (by decide) h0 (Int.lt_of_le_of_lt h1 b)
  refine ⟨r, (call_at (d := d__law_root) rfl _ _).trans r1, r2, r3, r4, ?_⟩
  rcases Int.lt_or_le r (2 ^ 106) with z | z
  · unfold Sm
    omega
  · exfalso
    have := Int.mul_le_mul z z (by decide) r2
    omega
end K02

set_option Elab.async false
set_option linter.all false
set_option maxRecDepth 100000
set_option maxHeartbeats 4000000
/-! the law's towers -/
namespace K02
open FM
open OF (sgn sgn_eq0 Hom rat rat_mul)
open L2 (atI)
open PySem (Str sizeLine)
local macro_rules | `(tactic| walk_at "go") => `(tactic| simp [FM.execs, FM.exec, FM.ev, FM.evs, FM.evo, FM.evc, FM.evi, FM.Sl.d, FM.isiD, FM.cmpD, FM.negD, FM.bindT, FM.andThen_some', FM.onBl_bl, FM.wthD_some', FM.eqD_int, FM.ix_tup, FM.ix_lst, FM.atI_0, FM.atI_1, FM.atI_2, FM.op_add, FM.op_sub, FM.op_subBl, FM.biD_abs, FM.szle, FM.pl_get, FM.pl_set, FM.isOw_pl, FM.noOw_pl, FM.lk_pl, FM.lks_pl, FM.itlk_pl, FM.setAll_pl, FM.setAllD])
abbrev rt (l : List Int) : Nat → Int := fun k => l.getD k 0
structure St (n : Nat) (t : Tw n) (l : List Int) : Prop where
  ok : Ok t (rt l)
  len : l.length = n
  sm : ∀ k, k < n → Sm 110 (rt l k)
def ownE : E := .ife (.cmp .Is (.var 1) .non) (.call 49 (.cons (.var 0) (.cons (.bi .len (.cons (.var 2) .nil)) .nil))) (.var 1)
def bTow : Ss := (.cons (.asg 4 ownE) (.cons (.asg 5 (.call 58 (.cons (.var 4) (.cons (.var 3) .nil)))) (.cons (.ifs (.cmp .Gt (.var 5) (.op .Pow (.int 10) (.int 29))) (.cons (.par 2 3 (.op .Add (.var 2) (.tup (.cons (.var 4) .nil))) (.op .Add (.var 3) (.lst (.cons (.call 59 (.cons (.op .Mult (.var 5) (.op .Pow (.int 10) (.int 30))) .nil)) .nil)))) .nil) .nil) .nil)))
theorem pow1029 : opD .Pow (.int 10) (.int 29) = some (.int 100000000000000000000000000000) := by rfl
theorem par_of {F : Fs} {i k : Nat} {a b : E} {ds : List (Option D)} {μ μ1 μ2 : Cells} {x y : D} (hik : (i == k) = false) (h1 : ev F a (pl ds) μ = some (x, μ1)) (h2 : ev F b (pl ds) μ1 = some (y, μ2)) : exec F W (.par i k a b) (pl ds) μ = some (.nx (pl ((ds.set i (some x)).set k (some y))) μ2) := by
  unfold exec
  rw [lk_pl, lk_pl, isOw_pl, isOw_pl, hik, h1, andThen_some', h2, andThen_some', pl_set, pl_set]
  rfl
theorem tow_step {n : Nat} {t : Tw n} {l : List Int} (s : St n t l) (hn : n ≤ 2) {root : D} {x : Nm n} (hx : AllL Lf n x) {o4 o5 : Option D} {is : List Int} {k k1 : Int} (he : ev (T 98) ownE (pl [some (.cell 0), some root, some (tD t), some (.lst (l.map D.int)), o4, o5]) [cw is k] = some (nD n x, [cw is k1])) :
    ∃ (n' : Nat) (t' : Tw n') (l' : List Int) (o4' o5' : Option D), St n' t' l' ∧ n ≤ n' ∧ n' ≤ n + 1 ∧ (100000000000000000000000000000 < worN (rt l) n x → n' = n + 1) ∧ execs (T 98) W bTow (pl [some (.cell 0), some root, some (tD t), some (.lst (l.map D.int)), o4, o5]) [cw is k] = some (.nx (pl [some (.cell 0), some root, some (tD t'), some (.lst (l'.map D.int)), o4', o5']) [cw is k1]) := by
  have w := lworth_c (l := l) n (by omega) (by have := s.len; omega) s.sm 96 (by omega) hx [cw is k1]
  have s1 : exec (T 98) W (.asg 4 ownE) (pl [some (.cell 0), some root, some (tD t), some (.lst (l.map D.int)), o4, o5]) [cw is k] = some (.nx (pl [some (.cell 0), some root, some (tD t), some (.lst (l.map D.int)), some (nD n x), o5]) [cw is k1]) := (asg_pl he).trans rfl
  have s2 : exec (T 98) W (.asg 5 (.call 58 (.cons (.var 4) (.cons (.var 3) .nil)))) (pl [some (.cell 0), some root, some (tD t), some (.lst (l.map D.int)), some (nD n x), o5]) [cw is k1] = some (.nx (pl [some (.cell 0), some root, some (tD t), some (.lst (l.map D.int)), some (nD n x), some (.int (worN (rt l) n x))]) [cw is k1]) := (asg_pl (call2_of (lks_pl _ _) rfl rfl w)).trans rfl
  have c0 := cmp_of (F := T 98) (o := .Gt) (a := .var 5) (b := .op .Pow (.int 10) (.int 29)) (ρ := pl [some (.cell 0), some root, some (tD t), some (.lst (l.map D.int)), some (nD n x), some (.int (worN (rt l) n x))]) (μ := [cw is k1]) (μ1 := [cw is k1]) (μ2 := [cw is k1]) (x := .int (worN (rt l) n x)) (y := .int 100000000000000000000000000000) rfl (op_of rfl rfl pow1029) (t := decide (100000000000000000000000000000 < worN (rt l) n x)) rfl
  by_cases z : 100000000000000000000000000000 < worN (rt l) n x
  · rw [decide_eq_true z] at c0
    have wp : 0 ≤ worN (rt l) n x := by omega
    have wl := wor_le s.ok hx
    have h0 : 0 ≤ worN (rt l) n x * tS := Int.mul_nonneg wp (by decide)
    have h1 : worN (rt l) n x * tS ≤ (tS * 2000 + 10000000) * tS := Int.mul_le_mul_of_nonneg_right wl (by decide)
    obtain ⟨r, r1, r2, r3, r4, r5⟩ := lroot_c (m := 97) h0 h1 [cw is k1]
    have e1 : ∀ k, k < n → rt (l ++ [r]) k = rt l k := fun k hk => by
      show (l ++ [r]).getD k 0 = l.getD k 0
      rw [List.getD_eq_getElem?_getD, List.getD_eq_getElem?_getD, List.getElem?_append_left (by have := s.len; omega)]
    have e2 : rt (l ++ [r]) n = r := by
      show (l ++ [r]).getD n 0 = r
      rw [List.getD_eq_getElem?_getD, List.getElem?_append_right (by have := s.len; omega), s.len, Nat.sub_self]
      rfl
    have cat : opD .Add (tD t) (.tup [nD n x]) = some (tD (.snoc t x)) := by
      refine opD_of ?_
      show (if (twL t).length + 1 ≤ sizeLine then some (D.tup (twL t ++ [nD n x])) else none) = _
      rw [twL_len, if_pos (Nat.le_trans (show n + 1 ≤ 100 by omega) (by decide))]
      rfl
    have catl : opD .Add (.lst (l.map D.int)) (.lst [.int r]) = some (.lst ((l ++ [r]).map D.int)) := by
      show (match opA .Add (.lst (l.map D.int)) (.lst [.int r]) with | some z => some z | none => if (l.map D.int).length + 1 ≤ sizeLine then some (D.lst (l.map D.int ++ [D.int r])) else none) = _
      rw [show opA .Add (.lst (l.map D.int)) (.lst [.int r]) = none from rfl]
      simp only
      rw [List.length_map, s.len, if_pos (Nat.le_trans (show n + 1 ≤ 100 by omega) (by decide)), List.map_append]
      rfl
    have ws := (worN_sm n hx s.sm).mono (show 111 * n + 112 ≤ 400 by omega)
    have m1 := op_mul ws sm_tS (by decide)
    refine ⟨n + 1, .snoc t x, l ++ [r], some (nD n x), some (.int (worN (rt l) n x)), ⟨⟨by omega, ⟨s.ok.lf, hx⟩, mdl_snoc hn s.ok.md s.ok.lf s.ok.ok hx z, TwOk.snoc hn s.ok.ok hx e1 e2 z r2 r3 r4⟩, by rw [List.length_append, s.len]; rfl, fun k hk => ?_⟩, by omega, by omega, fun _ => rfl, ?_⟩
    · by_cases y : k < n
      · rw [e1 k y]
        exact s.sm k y
      · rw [show k = n by omega, e2]
        exact r5
    · refine seq_nx s1 (seq_nx s2 (seq_nx (ifs_t c0 (seq_nx ((par_of rfl (op_of rfl (?_ : ev (T 98) (.tup (.cons (.var 4) .nil)) _ _ = some (.tup [nD n x], [cw is k1])) cat) (op_of rfl (?_ : ev (T 98) (.lst _) _ _ = some (.lst [.int r], [cw is k1])) catl)).trans rfl) rfl)) rfl))
      · generalize nD n x = X
        generalize worN (rt l) n x = w
        walk_at "go"
      · have cl : ev (T 98) (.call 59 (.cons (.op .Mult (.var 5) (.op .Pow (.int 10) (.int 30))) .nil)) (pl [some (.cell 0), some root, some (tD t), some (.lst (l.map D.int)), some (nD n x), some (.int (worN (rt l) n x))]) [cw is k1] = some (.int r, [cw is k1]) := call1_of (lks_pl _ _) (op_of rfl (op_of rfl rfl pow1030) m1) r1
        unfold ev
        unfold evs
        rw [lks_pl, cl, andThen_some']
        rfl
  · rw [decide_eq_false z] at c0
    exact ⟨n, t, l, some (nD n x), some (.int (worN (rt l) n x)), s, Nat.le_refl _, by omega, fun h => absurd h z, seq_nx s1 (seq_nx s2 (seq_nx (ifs_f c0 rfl) rfl))⟩
def firsts : List D := [fD (2, 1), fD (3, 2), fD (5, 1), fD (4, 1)]
theorem firsts_ok {d : D} (h : d ∈ firsts) : ∃ q : Int × Int, d = fD q ∧ Lf q ∧ 100000000000000000000000000000 < (q.1 * tS).fdiv q.2 := by
  have p8 : (((2 : Nat) ^ 3 : Nat) : Int) = 8 := by decide
  have b : ∀ q : Int × Int, 0 < q.2 → Int.gcd q.1 q.2 = 1 → q.2 ∣ 6 → (q.1.natAbs : Int) ≤ 6 * q.2 → Lf q := fun q h1 h2 h3 h4 => by
    refine ⟨⟨h1, h2, h3, ?_⟩, h4⟩
    rw [p8]
    omega
  have h' : d = fD (2, 1) ∨ d = fD (3, 2) ∨ d = fD (5, 1) ∨ d = fD (4, 1) := by simpa [firsts] using h
  rcases h' with rfl | rfl | rfl | rfl
  · exact ⟨_, rfl, b _ (by decide) (by decide) (by decide) (by decide), by decide⟩
  · exact ⟨_, rfl, b _ (by decide) (by decide) (by decide) (by decide), by decide⟩
  · exact ⟨_, rfl, b _ (by decide) (by decide) (by decide) (by decide), by decide⟩
  · exact ⟨_, rfl, b _ (by decide) (by decide) (by decide) (by decide), by decide⟩
theorem own_non {n : Nat} {t : Tw n} {l : List Int} (hn : n ≤ 2) {o4 o5 : Option D} {is : List Int} {k : Int} (hk : 0 ≤ k) : ∃ (x : Nm n) (k1 : Int), AllL Lf n x ∧ 0 ≤ k1 ∧ ev (T 98) ownE (pl [some (.cell 0), some .non, some (tD t), some (.lst (l.map D.int)), o4, o5]) [cw is k] = some (nD n x, [cw is k1]) := by
  obtain ⟨x, k1, h1, h2, h3⟩ := drawn_c n (by omega) 95 (by omega) is k hk
  refine ⟨x, k1, h1, h2, (ife_t (μ1 := [cw is k]) ?_).trans ?_⟩
  · exact cmp_of (x := .non) (y := .non) rfl rfl rfl
  · exact call2_of (lks_pl _ _) rfl (bi1_of rfl (show biD _ .len [tD t] = some (.int n) by rw [len_tup, twL_len])) h3
theorem tower_c (is : List Int) (k : Int) (hk : 0 ≤ k) : ∃ (n : Nat) (t : Tw n) (l : List Int) (k1 : Int), 0 < n ∧ St n t l ∧ 0 ≤ k1 ∧ T 99 60 [.cell 0] [cw is k] = some (.tup [tD t, .lst (l.map D.int)], [cw is k1]) := by
  obtain ⟨d, k1, d1, d2, d3⟩ := pick_at 96 is k firsts hk (by decide)
  obtain ⟨r, k2, r1, r2, r3, r4⟩ := next_at 97 is k1 3 (by decide) d2
  obtain ⟨q, rfl, q1, q2⟩ := firsts_ok d1
  have tp : ev (T 98) (.tup (.cons (.call 44 (.cons (.var 0) (.cons (.lst (.cons (.tup (.cons (.int 2) (.cons (.int 1) .nil))) (.cons (.tup (.cons (.int 3) (.cons (.int 2) .nil))) (.cons (.tup (.cons (.int 5) (.cons (.int 1) .nil))) (.cons (.tup (.cons (.int 4) (.cons (.int 1) .nil))) .nil))))) .nil))) (.cons .non (.cons .non .nil)))) (pl [some (.cell 0), none, some (.tup []), some (.lst []), none, none]) [cw is k] = some (.tup [fD q, .non, .non], [cw is k1]) := by
    have ls : ev (T 98) (.lst (.cons (.tup (.cons (.int 2) (.cons (.int 1) .nil))) (.cons (.tup (.cons (.int 3) (.cons (.int 2) .nil))) (.cons (.tup (.cons (.int 5) (.cons (.int 1) .nil))) (.cons (.tup (.cons (.int 4) (.cons (.int 1) .nil))) .nil))))) (pl [some (.cell 0), none, some (.tup []), some (.lst []), none, none]) [cw is k] = some (.lst firsts, [cw is k]) := by
      walk_at "go"
      rfl
    have cl := call2_of (F := T 98) (f := 44) (lks_pl _ _) (show ev (T 98) (.var 0) (pl [some (.cell 0), none, some (.tup []), some (.lst []), none, none]) [cw is k] = some (.cell 0, [cw is k]) from rfl) ls d3
    unfold ev
    unfold evs
    rw [lks_pl, cl, andThen_some']
    rfl
  have sl : evi (T 98) (.seq (.sl (.tup (.cons (.call 44 (.cons (.var 0) (.cons (.lst (.cons (.tup (.cons (.int 2) (.cons (.int 1) .nil))) (.cons (.tup (.cons (.int 3) (.cons (.int 2) .nil))) (.cons (.tup (.cons (.int 5) (.cons (.int 1) .nil))) (.cons (.tup (.cons (.int 4) (.cons (.int 1) .nil))) .nil))))) .nil))) (.cons .non (.cons .non .nil)))) .none (.some (.op .Add (.int 1) (.call 43 (.cons (.var 0) (.cons (.int 3) .nil))))))) (pl [some (.cell 0), none, some (.tup []), some (.lst []), none, none]) [cw is k] = some (fD q :: List.replicate r.toNat .non, [cw is k2]) := by
    have nx := op_of (F := T 98) (o := .Add) (a := .int 1) (ρ := pl [some (.cell 0), none, some (.tup []), some (.lst []), none, none]) (μ := [cw is k1]) rfl (call2_of (a := .var 0) (b := .int 3) (lks_pl _ _) rfl rfl r4) (op_add 1 r)
    have cut : slD (.tup [fD q, .non, .non]) none (some (1 + r)) = some (.tup (fD q :: List.replicate r.toNat .non)) := by
      have e : r = 0 ∨ r = 1 ∨ r = 2 := by omega
      rcases e with rfl | rfl | rfl <;> rfl
    unfold evi
    unfold ev
    rw [tp, andThen_some']
    show andThen (andThen (some (none, [cw is k1])) _) _ = _
    rw [andThen_some']
    unfold evo
    rw [nx, andThen_some']
    show andThen (wthD (slD (.tup [fD q, .non, .non]) none (some (1 + r))) [cw is k2]) _ = _
    rw [cut]
    rfl
  have st0 : St 0 .nil [] := ⟨⟨by decide, trivial, Mdl.nil, TwOk.nil _⟩, rfl, fun k hk => by omega⟩
  obtain ⟨n1, t1, l1, o4, o5, s1, _, s3, s4, s5⟩ := tow_step st0 (by decide) (root := fD q) (x := (q : Nm 0)) q1 (o4 := none) (o5 := none) (is := is) (k := k2) (k1 := k2) ((ife_f (cmp_of (x := fD q) (y := .non) rfl rfl rfl)).trans rfl)
  have hn1 : n1 = 1 := s4 q2
  obtain ⟨ρ', μ', e1, _, n', t', l', o1', o4', o5', k', w1, w2, w3, w4, rfl, rfl⟩ := forF_inv (fun ys ρ μ => (∀ y ∈ ys, y = .non) ∧ ∃ (n : Nat) (t : Tw n) (l : List Int) (o1 o4 o5 : Option D) (k : Int), 0 < n ∧ n + ys.length ≤ 3 ∧ St n t l ∧ 0 ≤ k ∧ ρ = pl [some (.cell 0), o1, some (tD t), some (.lst (l.map D.int)), o4, o5] ∧ μ = [cw is k]) (tg := .nm 1) (b := fun ρ' μ' => execs (T 98) W bTow ρ' μ') (fun y ys ρ μ hh => by
    obtain ⟨hy, n, t, l, o1, o4, o5, k, v1, v2, v3, v4, rfl, rfl⟩ := hh
    have ey : y = .non := hy y (List.mem_cons_self ..)
    subst ey
    rw [List.length_cons] at v2
    obtain ⟨x, k1, x1, x2, x3⟩ := own_non (t := t) (l := l) (o4 := o4) (o5 := o5) (is := is) (by omega) v4
    obtain ⟨n2, t2, l2, p4, p5, z1, z2, z3, z4, z5⟩ := tow_step v3 (by omega) x1 x3
    exact ⟨_, _, _, rfl, z5, fun y h => hy y (List.mem_cons_of_mem _ h), n2, t2, l2, _, p4, p5, k1, by omega, by omega, z1, x2, rfl, rfl⟩) (List.replicate r.toNat .non) (pl [some (.cell 0), some (fD q), some (tD t1), some (.lst (l1.map D.int)), o4, o5]) [cw is k2] ⟨fun y h => List.eq_of_mem_replicate h, n1, t1, l1, _, o4, o5, k2, by omega, by rw [List.length_replicate]; omega, s1, r3, rfl, rfl⟩
  refine ⟨n', t', l', k', w1, w3, w4, (call_at (d := d__law_tower) rfl _ _).trans (run_pl rfl (Nat.le_of_ble_eq_true rfl) ?_)⟩
  refine seq_nx (ρ1 := pl [some (.cell 0), none, some (.tup []), some (.lst []), none, none]) (μ1 := [cw is k]) rfl (seq_nx (for_of sl rfl ((forF_nx (ρ1 := pl [some (.cell 0), some (fD q), some (.tup []), some (.lst []), none, none]) rfl s5).trans e1)) (seq_rt (ret_of (lk_pl _ _) ?_)))
  generalize tD t' = X
  generalize D.lst (l'.map D.int) = Y
  walk_at "go"
end K02

set_option Elab.async false
set_option linter.all false
set_option maxRecDepth 100000
set_option maxHeartbeats 4000000
/-! the law, statement by statement -/
namespace K02
open FM
open OF (sgn sgn_eq0 Hom rat rat_mul)
open L2 (atI)
open PySem (Str sizeLine)
def s_0 : S := .asg 1 (.dict ["draws", "at"] (.cons (.call 42 (.cons (.var 0) (.cons (.int 400) .nil))) (.cons (.int 0) .nil)))
def s_1_0 : S := .asgT [10, 11] (.call 60 (.cons (.var 1) .nil))
def s_1_1 : S := .asg 3 (.bi .len (.cons (.var 10) .nil))
def s_1_2 : S := .ifs (.cmp .IsNot (.call 13 (.cons (.var 10) .nil)) (.bl true)) (.cons (.ret (.bl false)) .nil) .nil
def s_1_3 : S := .asg 4 (.me .join (.str "") (.cons (.lc (.op .Add (.op .Add (.op .Add (.op .Add (.str "r") (.bi .str (.cons (.op .Add (.var 19) (.int 1)) .nil))) (.str " = root of ")) (.call 51 (.cons (.ix (.var 10) (.var 19)) (.cons (.var 19) .nil)))) (.str "\n")) (.nm 19) (.rng1 (.var 3)) .none) .nil))
def s_1_4 : S := .asg 5 (.lc (.call 49 (.cons (.var 1) (.cons (.var 3) .nil))) (.nm 19) (.rng1 (.int 4)) .none)
def s_1_5 : S := .ifs (.not (.call 45 (.cons (.tup (.cons (.call 35 (.cons (.var 10) .nil)) (.cons (.call 15 (.cons (.var 10) .nil)) (.cons (.call 16 (.cons (.tup (.cons (.int 3) (.cons (.int 4) .nil))) (.cons (.var 10) .nil))) .nil)))) (.cons (.tup (.cons (.var 4) (.cons (.call 56 (.cons (.var 3) .nil)) (.cons (.call 54 (.cons (.tup (.cons (.int 3) (.cons (.int 4) .nil))) (.cons (.var 3) .nil))) .nil)))) .nil)))) (.cons (.ret (.bl false)) .nil) .nil
def s_1_6_0 : S := .ifs (.not (.call 45 (.cons (.tup (.cons (.call 34 (.cons (.var 6) (.cons (.var 10) .nil))) (.cons (.call 20 (.cons (.var 6) (.cons (.var 10) .nil))) (.cons (.bi .tuple (.cons (.call 30 (.cons (.var 6) .nil)) .nil)) (.cons (.call 12 (.cons (.var 6) (.cons (.var 10) .nil))) .nil))))) (.cons (.tup (.cons (.call 51 (.cons (.var 6) (.cons (.var 3) .nil))) (.cons (.call 50 (.cons (.var 6) .nil)) (.cons (.call 57 (.cons (.var 6) .nil)) (.cons (.bl true) .nil))))) .nil)))) (.cons (.ret (.bl false)) .nil) .nil
def s_1_6_1 : S := .asg 12 (.cmp .Eq (.lc (.var 24) (.nm 24) (.seq (.sl (.call 57 (.cons (.var 6) .nil)) (.some (.int 1)) .none)) (.some (.cmp .NotEq (.var 24) (.tup (.cons (.int 0) (.cons (.int 1) .nil)))))) (.lst .nil))
def s_1_6_2 : S := .ifs (.or (.not (.call 45 (.cons (.call 26 (.cons (.var 6) (.cons (.var 10) .nil))) (.cons (.ife (.var 12) (.ix (.call 57 (.cons (.var 6) .nil)) (.int 0)) .non) .nil)))) (.not (.call 45 (.cons (.call 28 (.cons (.var 6) .nil)) (.cons (.tup (.cons (.ix (.var 6) (.int 0)) (.cons (.call 52 (.cons (.ix (.var 6) (.int 1)) .nil)) .nil))) .nil))))) (.cons (.ret (.bl false)) .nil) .nil
def s_1_6_3 : S := .asg 13 (.op .Add (.var 10) (.tup (.cons (.call 54 (.cons (.tup (.cons (.int 7) (.cons (.int 1) .nil))) (.cons (.var 3) .nil))) .nil)))
def s_1_6_4 : S := .ifs (.not (.call 45 (.cons (.tup (.cons (.call 14 (.cons (.var 6) (.cons (.var 10) (.cons (.var 13) .nil)))) (.cons (.call 34 (.cons (.call 14 (.cons (.var 6) (.cons (.var 10) (.cons (.var 13) .nil)))) (.cons (.var 13) .nil))) .nil))) (.cons (.tup (.cons (.tup (.cons (.var 6) (.cons (.call 56 (.cons (.var 3) .nil)) .nil))) (.cons (.call 51 (.cons (.var 6) (.cons (.var 3) .nil))) .nil))) .nil)))) (.cons (.ret (.bl false)) .nil) .nil
def s_1_6_5 : S := .asg 14 (.call 58 (.cons (.var 6) (.cons (.var 11) .nil)))
def s_1_6_6 : S := .asg 15 (.op .Sub (.var 14) (.op .Mult (.op .FloorDiv (.var 14) (.op .Pow (.int 10) (.int 24))) (.op .Pow (.int 10) (.int 24))))
def s_1_6_7 : S := .ifs (.chn .Lt .Lt (.op .Pow (.int 10) (.int 20)) (.var 15) (.op .Sub (.op .Pow (.int 10) (.int 24)) (.op .Pow (.int 10) (.int 20)))) (.cons (.asg 20 (.call 32 (.cons (.var 6) (.cons (.var 10) (.cons (.int 6) .nil))))) (.cons (.asg 17 (.op .FloorDiv (.var 14) (.op .Pow (.int 10) (.int 24)))) (.cons (.asg 21 (.op .Add (.op .Add (.op .Add (.ife (.cmp .Lt (.var 17) (.int 0)) (.str "-") (.str "")) (.bi .str (.cons (.op .FloorDiv (.bi .abs (.cons (.var 17) .nil)) (.op .Pow (.int 10) (.int 6))) .nil))) (.str ".")) (.sl (.bi .str (.cons (.op .Sub (.op .Add (.op .Pow (.int 10) (.int 6)) (.bi .abs (.cons (.var 17) .nil))) (.op .Mult (.op .FloorDiv (.bi .abs (.cons (.var 17) .nil)) (.op .Pow (.int 10) (.int 6))) (.op .Pow (.int 10) (.int 6)))) .nil)) (.some (.int 1)) .none))) (.cons (.asgT [22, 23] (.call 33 (.cons (.var 6) (.cons (.var 10) (.cons (.op .Pow (.int 10) (.int 6)) .nil))))) (.cons (.ifs (.or (.cmp .NotEq (.var 20) (.var 21)) (.not (.call 45 (.cons (.tup (.cons (.call 31 (.cons (.var 6) (.cons (.var 10) .nil))) (.cons (.call 36 (.cons (.var 6) (.cons (.var 10) .nil))) .nil))) (.cons (.tup (.cons (.op .FloorDiv (.var 14) (.op .Pow (.int 10) (.int 30))) (.cons (.cmp .Lt (.var 14) (.int 0)) .nil))) .nil))))) (.cons (.ret (.bl false)) .nil) .nil) (.cons (.ifs (.not (.call 45 (.cons (.tup (.cons (.var 22) (.cons (.var 23) .nil))) (.cons (.tup (.cons (.call 47 (.cons (.var 17) (.cons (.op .Pow (.int 10) (.int 6)) .nil))) (.cons (.call 47 (.cons (.op .Add (.var 17) (.int 1)) (.cons (.op .Pow (.int 10) (.int 6)) .nil))) .nil))) .nil)))) (.cons (.ret (.bl false)) .nil) .nil) .nil)))))) .nil
def s_1_6b : Ss := (.cons s_1_6_0 (.cons s_1_6_1 (.cons s_1_6_2 (.cons s_1_6_3 (.cons s_1_6_4 (.cons s_1_6_5 (.cons s_1_6_6 (.cons s_1_6_7 .nil))))))))
def s_1_6 : S := .for_ (.nm 6) (.seq (.var 5)) s_1_6b
def s_1_7 : S := .asg 7 (.lc (.call 58 (.cons (.var 6) (.cons (.var 11) .nil))) (.nm 6) (.seq (.var 5)) .none)
def s_1_8 : S := .ifs (.and (.cmp .Eq (.lc (.var 19) (.nm 19) (.rng1 (.int 3)) (.some (.cmp .Lt (.bi .abs (.cons (.op .Sub (.ix (.bi .sorted (.cons (.var 7) .nil)) (.op .Add (.var 19) (.int 1))) (.ix (.bi .sorted (.cons (.var 7) .nil)) (.var 19))) .nil)) (.op .Pow (.int 10) (.int 20))))) (.lst .nil)) (.not (.call 45 (.cons (.bi .tuple (.cons (.call 37 (.cons (.var 5) (.cons (.var 10) .nil))) .nil)) (.cons (.bi .tuple (.cons (.lc (.var 19) (.tp [14, 19]) (.seq (.bi .sorted (.cons (.lc (.tup (.cons (.ix (.var 7) (.var 19)) (.cons (.var 19) .nil))) (.nm 19) (.rng1 (.int 4)) .none) .nil))) .none) .nil)) .nil))))) (.cons (.ret (.bl false)) .nil) .nil
def s_1_9 : S := .ifs (.or (.not (.call 45 (.cons (.call 40 (.cons (.bi .tuple (.cons (.sl (.var 5) .none (.some (.int 3))) .nil)) (.cons (.var 10) .nil))) (.cons (.me .join (.str ", ") (.cons (.lc (.call 51 (.cons (.var 6) (.cons (.var 3) .nil))) (.nm 6) (.seq (.sl (.var 5) .none (.some (.int 3)))) .none) .nil)) .nil)))) (.not (.call 45 (.cons (.call 41 (.cons (.tup (.cons (.tup (.cons (.int 1) (.cons (.int 2) .nil))) (.cons (.tup (.cons (.int 0) (.cons (.int 1) .nil))) (.cons (.tup (.cons (.int 1) (.cons (.int 1) .nil))) .nil)))) .nil)) (.cons (.str "1/2 0 1") .nil))))) (.cons (.ret (.bl false)) .nil) .nil
def s_1_10 : S := .asg 8 (.tup (.cons (.ix (.var 5) (.int 0)) (.cons (.ix (.var 5) (.int 1)) (.cons (.call 54 (.cons (.tup (.cons (.int 5) (.cons (.int 1) .nil))) (.cons (.var 3) .nil))) .nil))))
def s_1_11 : S := .asgT [16, 17] (.call 38 (.cons (.var 8) (.cons (.var 10) .nil)))
def s_1_12 : S := .ifs (.or (.not (.call 45 (.cons (.call 39 (.cons (.var 8) (.cons (.var 10) .nil))) (.cons (.call 34 (.cons (.var 17) (.cons (.var 16) .nil))) .nil)))) (.not (.call 45 (.cons (.call 34 (.cons (.var 17) (.cons (.var 16) .nil))) (.cons (.call 51 (.cons (.var 17) (.cons (.bi .len (.cons (.var 16) .nil)) .nil))) .nil))))) (.cons (.ret (.bl false)) .nil) .nil
def s_1_13 : S := .asg 9 (.call 47 (.cons (.op .Add (.int 1) (.call 43 (.cons (.var 1) (.cons (.int 4) .nil)))) (.cons (.int 3) .nil)))
def s_1_14 : S := .asgT [16, 18] (.call 25 (.cons (.call 54 (.cons (.call 48 (.cons (.var 9) (.cons (.var 9) .nil))) (.cons (.var 3) .nil))) (.cons (.var 10) .nil)))
def s_1_15 : S := .ifs (.not (.call 45 (.cons (.tup (.cons (.var 16) (.cons (.var 18) .nil))) (.cons (.tup (.cons (.var 10) (.cons (.call 54 (.cons (.var 9) (.cons (.var 3) .nil))) .nil))) .nil)))) (.cons (.ret (.bl false)) .nil) .nil
def s_1_16 : S := .ifs (.not (.call 45 (.cons (.bi .tuple (.cons (.lc (.call 27 (.cons (.var 6) (.cons (.var 10) .nil))) (.nm 6) (.seq (.var 5)) .none) .nil)) (.cons (.bi .tuple (.cons (.lc (.call 53 (.cons (.var 6) .nil)) (.nm 6) (.seq (.var 5)) .none) .nil)) .nil)))) (.cons (.ret (.bl false)) .nil) .nil
def s_1b : Ss := (.cons s_1_0 (.cons s_1_1 (.cons s_1_2 (.cons s_1_3 (.cons s_1_4 (.cons s_1_5 (.cons s_1_6 (.cons s_1_7 (.cons s_1_8 (.cons s_1_9 (.cons s_1_10 (.cons s_1_11 (.cons s_1_12 (.cons s_1_13 (.cons s_1_14 (.cons s_1_15 (.cons s_1_16 .nil)))))))))))))))))
def s_1 : S := .for_ (.nm 2) (.rng1 (.int 4)) s_1b
def s_2 : S := .ret (.bl true)
def sb : Ss := (.cons s_0 (.cons s_1 (.cons s_2 .nil)))
theorem law_pieces : B_law 42 60 13 51 49 45 54 56 16 15 35 57 50 12 30 20 34 52 28 26 14 58 32 33 36 31 47 37 41 40 38 39 43 25 48 53 27 = sb := rfl

/-! ### small steps -/
theorem v_of {F : Fs} {ds : List (Option D)} {i : Nat} {d : D} {μ : Cells} (h : ds[i]? = some (some d)) : ev F (.var i) (pl ds) μ = some (d, μ) := by
  unfold ev
  rw [pl_get, h]
  rfl
theorem evs_nil {F : Fs} {ρ : Env} {μ : Cells} : evs F .nil ρ μ = some ([], μ) := rfl
theorem evs_cons {F : Fs} {e : E} {es : Es} {ρ : Env} {μ μ1 μ2 : Cells} {x : D} {xs : List D} (h : ev F e ρ μ = some (x, μ1)) (g : evs F es ρ μ1 = some (xs, μ2)) : evs F (.cons e es) ρ μ = some (x :: xs, μ2) := by
  unfold evs
  rw [h, andThen_some', g]
  rfl
theorem tup_of {F : Fs} {es : Es} {ds : List (Option D)} {μ μ1 : Cells} {xs : List D} (h : evs F es (pl ds) μ = some (xs, μ1)) (l : xs.length ≤ 50) : ev F (.tup es) (pl ds) μ = some (.tup xs, μ1) := by
  unfold ev
  rw [lks_pl, h, andThen_some', if_pos (Nat.le_trans l (by decide))]
  rfl
theorem call_of {F : Fs} {f : Nat} {es : Es} {ds : List (Option D)} {μ μ1 : Cells} {xs : List D} {r : Rs D} (h : evs F es (pl ds) μ = some (xs, μ1)) (g : F f xs μ1 = r) : ev F (.call f es) (pl ds) μ = r := by
  unfold ev
  rw [lks_pl, h, andThen_some']
  exact g
theorem not_of {F : Fs} {e : E} {ρ : Env} {μ μ1 : Cells} {b : Bool} (h : ev F e ρ μ = some (.bl b, μ1)) : ev F (.not e) ρ μ = some (.bl (!b), μ1) := by
  unfold ev
  rw [h, onBl_bl]
theorem or_ff {F : Fs} {a b : E} {ρ : Env} {μ μ1 μ2 : Cells} (h : ev F a ρ μ = some (.bl false, μ1)) (g : ev F b ρ μ1 = some (.bl false, μ2)) : ev F (.or a b) ρ μ = some (.bl false, μ2) := by
  unfold ev
  rw [h, onBl_bl, if_neg (by decide), g, onBl_bl]
theorem me1_of {F : Fs} {m : Me} {o a : E} {ρ : Env} {μ μ1 μ2 : Cells} {x y z : D} (h : ev F o ρ μ = some (x, μ1)) (g : ev F a ρ μ1 = some (y, μ2)) (k : meD m x [y] = some z) : ev F (.me m o (.cons a .nil)) ρ μ = some (z, μ2) := by
  unfold ev
  rw [h, andThen_some', evs_cons g evs_nil, andThen_some', k]
  rfl
theorem asgT_of {F : Fs} {i k : Nat} {e : E} {ds : List (Option D)} {μ μ1 : Cells} {x y : D} (h : ev F e (pl ds) μ = some (.tup [x, y], μ1)) : exec F W (.asgT [i, k] e) (pl ds) μ = some (.nx (pl ((ds.set i (some x)).set k (some y))) μ1) := by
  unfold exec
  rw [lk_pl, noOw_pl, h, andThen_some']
  show (if (2 : Nat) = 2 then some (Res.nx (setAll [i, k] [x, y] (pl ds)) μ1) else none) = _
  rw [if_pos rfl]
  show some (Res.nx (((pl ds).set i (some (.pl x))).set k (some (.pl y))) μ1) = _
  rw [pl_set, pl_set]
/-- both sides are one thing -/
theorem same_of {a b : E} {ds : List (Option D)} {μ : Cells} {d : D} (h : ev (T 99) a (pl ds) μ = some (d, μ)) (g : ev (T 99) b (pl ds) μ = some (d, μ)) (k : dep 50 d = true) : ev (T 99) (.not (.call 45 (.cons a (.cons b .nil)))) (pl ds) μ = some (.bl false, μ) :=
  not_of (b := true) (call_of (evs_cons h (evs_cons g evs_nil)) (like_at d k μ))
theorem dep_str (k : Nat) (s : Str) : dep k (.str s) = true := by cases k <;> rfl
theorem dep_int (k : Nat) (i : Int) : dep k (.int i) = true := by cases k <;> rfl
theorem dep_bl (k : Nat) (i : Bool) : dep k (.bl i) = true := by cases k <;> rfl
theorem dep_tup (k : Nat) (ds : List D) : dep (k + 1) (.tup ds) = (decide (ds.length ≤ 1000) && ds.all (dep k)) := rfl
theorem dep_fD (k : Nat) (x : Int × Int) (h : 0 < k) : dep k (fD x) = true := by
  obtain ⟨k, rfl⟩ : ∃ j, k = j + 1 := ⟨k - 1, by omega⟩
  show dep (k + 1) (.tup [.int x.1, .int x.2]) = true
  rw [dep_tup]
  simp [dep_int]
theorem dep_nD : (n : Nat) → (x : Nm n) → (k : Nat) → n < k → dep k (nD n x) = true
  | 0, x, k, h => dep_fD k x h
  | n + 1, x, k, h => by
    obtain ⟨k, rfl⟩ : ∃ j, k = j + 1 := ⟨k - 1, by omega⟩
    show dep (k + 1) (.tup [nD n x.1, nD n x.2]) = true
    rw [dep_tup]
    simp [dep_nD n x.1 k (by omega), dep_nD n x.2 k (by omega)]
theorem dep_tw : {n : Nat} → (t : Tw n) → (k : Nat) → n < k → (twL t).all (dep k) = true
  | _, .nil, k, h => rfl
  | n + 1, .snoc t r, k, h => by
    show (twL t ++ [nD n r]).all (dep k) = true
    rw [List.all_append, dep_tw t k (by omega)]
    simp [dep_nD n r k (by omega)]
theorem dep_tD {n : Nat} (t : Tw n) (k : Nat) (h : n + 1 < k) (hn : n ≤ 50) : dep k (tD t) = true := by
  obtain ⟨k, rfl⟩ : ∃ j, k = j + 1 := ⟨k - 1, by omega⟩
  rw [dep_tup, dep_tw t k (by omega), decide_eq_true (by rw [twL_len]; omega)]
  rfl
theorem Lf.red {x : Int × Int} (h : Lf x) : Red x := Bd.red (Lf.bd h)
theorem Lf.smf {x : Int × Int} (h : Lf x) : SmF 12 x := by
  have := (Lf.bd h).fq (by decide) (by decide)
  exact ⟨this.1, this.2.1⟩
theorem all_smf {n : Nat} {x : Nm n} (h : AllL Lf n x) : AllL (SmF 12) n x := AllL.imp (fun _ g => Lf.smf g) n h
theorem all_red {n : Nat} {x : Nm n} (h : AllL Lf n x) : AllL Red n x := AllL.imp (fun _ g => Lf.red g) n h
/-! ### what stands in a turn -/
structure Kt (ds : List (Option D)) {n : Nat} (t : Tw n) (l : List Int) : Prop where
  len : ds.length = 25
  h1 : ds[1]? = some (some (.cell 0))
  h3 : ds[3]? = some (some (.int n))
  h10 : ds[10]? = some (some (tD t))
  h11 : ds[11]? = some (some (.lst (l.map D.int)))
theorem Kt.set {ds : List (Option D)} {n : Nat} {t : Tw n} {l : List Int} (K : Kt ds t l) {i : Nat} (o : Option D) (n1 : i ≠ 1) (n3 : i ≠ 3) (n10 : i ≠ 10) (n11 : i ≠ 11) : Kt (ds.set i o) t l :=
  ⟨by rw [List.length_set]; exact K.len, by rw [List.getElem?_set_ne n1]; exact K.h1, by rw [List.getElem?_set_ne n3]; exact K.h3, by rw [List.getElem?_set_ne n10]; exact K.h10, by rw [List.getElem?_set_ne n11]; exact K.h11⟩
theorem set_get {ds : List (Option D)} {i : Nat} {o : Option D} (h : ds.length = 25) (hi : i < 25) : (ds.set i o)[i]? = some o := List.getElem?_set_self (by omega)
theorem lup_num (q : Int × Int) {n : Nat} (hn : n ≤ 50) (μ : Cells) : T 99 54 [fD q, .int n] μ = some (nD n (numN q n), μ) := by
  have := lup_c (n := 0) (d := n) (by omega) (m := 97) (by omega) (q : Nm 0) μ
  rw [← liftQ]
  refine this.trans ?_
  rw [← liftD_eq (n := 0) (q : Nm 0) n]
  rfl
theorem st10 (is : List Int) (ds : List (Option D)) (hl : ds.length = 25) (h1 : ds[1]? = some (some (.cell 0))) (k : Int) (hk : 0 ≤ k) : ∃ (n : Nat) (t : Tw n) (l : List Int) (k1 : Int), 0 < n ∧ St n t l ∧ 0 ≤ k1 ∧ exec (T 99) W s_1_0 (pl ds) [cw is k] = some (.nx (pl ((ds.set 10 (some (tD t))).set 11 (some (.lst (l.map D.int))))) [cw is k1]) := by
  obtain ⟨n, t, l, k1, a1, a2, a3, a4⟩ := tower_c is k hk
  exact ⟨n, t, l, k1, a1, a2, a3, asgT_of (call_of (evs_cons (v_of h1) evs_nil) a4)⟩
theorem st11 (ds : List (Option D)) {n : Nat} {t : Tw n} (h10 : ds[10]? = some (some (tD t))) (μ : Cells) : exec (T 99) W s_1_1 (pl ds) μ = some (.nx (pl (ds.set 3 (some (.int n)))) μ) :=
  asg_pl (bi1_of (v_of h10) (by rw [len_tup, twL_len]))
section
variable {ds : List (Option D)} {n : Nat} {t : Tw n} {l : List Int} (K : Kt ds t l) (s : St n t l)
include K s
theorem st12 (μ : Cells) : exec (T 99) W s_1_2 (pl ds) μ = some (.nx (pl ds) μ) := by
  have n3 := s.ok.n3
  have c := istower_c (by omega) t s.ok.bd s.ok.md ((sl33 n3).mono (by decide) (by decide)) μ
  exact ifs_f (cmp_of (call_of (evs_cons (v_of K.h10) evs_nil) c) rfl rfl) rfl
theorem st13 (μ : Cells) : exec (T 99) W s_1_3 (pl ds) μ = some (.nx (pl (ds.set 4 (some (joinD "" (rowsT t))))) μ) := by
  have n3 := s.ok.n3
  have smt : TwAll (SmF 12) t := twAll_imp (fun _ g => Lf.smf g) t s.ok.lf
  have j := join_me (a := "") (l := rowsT t) (μ := μ) (by decide +kernel) (by rw [rowsT_len]; omega) (rowsT_all (k := 12) (by decide) (by decide) (by omega) t smt)
  refine asg_pl (me1_of rfl ?_ j)
  have e1 : strsD (rowsT t) = (List.range n).map fun k => D.str (S' ((rowsT t).getD k [])) := by
    refine List.ext_getElem (by simp [strsD, rowsT_len]) fun i h1 h2 => ?_
    unfold strsD at h1 ⊢
    rw [List.length_map] at h1
    simp [List.getD_eq_getElem?_getD, List.getElem?_eq_getElem h1]
  have e2 : rngD 0 n = (List.range n).map fun (k : Nat) => D.int (0 + k) := rfl
  refine ev_lc (evi_rng (n := n) (v_of K.h3) (by omega)) (by rw [rng_len]; omega) ?_
  rw [e1, e2]
  refine lc_mapG (fun (k : Nat) => D.int (0 + k)) (fun k => D.str (S' ((rowsT t).getD k []))) (List.range n) fun k hk => ?_
  have hk' := List.mem_range.mp hk
  obtain ⟨sk, r, g1, g2, g3, g4, g5⟩ := tw_row t s.ok.lf hk'
  have b1 := txN_len (k := 12) (by decide) k (by omega) (all_smf g5)
  have b2 := tlen_le (k := 12) (by decide) k (by omega)
  have tx := ltext_c (k := 12) (by decide) (by decide) k (by omega) 98 (by omega) (all_smf g5) (all_red g5) μ
  rw [Int.zero_add, List.getD_eq_getElem?_getD, g3]
  have v19 : (ds.set 19 (some (D.int k)))[19]? = some (some (.int k)) := set_get K.len (by decide)
  have v10 := (K.set (i := 19) (some (D.int k)) (by decide) (by decide) (by decide) (by decide)).h10
  refine row_ev (by omega) (by omega) (v_of v19) (call_of (evs_cons (ev_ix (x := tD t) (y := .int k) (v_of v10) (v_of v19) ?_) (evs_cons (v_of v19) evs_nil)) tx)
  rw [ix_tup]
  exact g1
theorem lc_draw (is : List Int) : ∀ (ys : List D) (k : Int), 0 ≤ k → ∃ (xs : List (Nm n)) (k1 : Int), xs.length = ys.length ∧ (∀ x ∈ xs, AllL Lf n x) ∧ 0 ≤ k1 ∧ lcGo (.nm 19) (fun ρ' μ' => evc (T 99) .none ρ' μ') (fun ρ' μ' => if lk ρ' (.call 49 (.cons (.var 1) (.cons (.var 3) .nil))) then none else ev (T 99) (.call 49 (.cons (.var 1) (.cons (.var 3) .nil))) ρ' μ') (pl ds) ys [cw is k] = some (xs.map (nD n), [cw is k1])
  | [], k, hk => ⟨[], k, rfl, (fun _ h => by cases h), hk, rfl⟩
  | y :: ys, k, hk => by
    have n3 := s.ok.n3
    obtain ⟨x, k1, a1, a2, a3⟩ := drawn_c n (by omega) 96 (by omega) is k hk
    obtain ⟨xs, k2, b1, b2, b3, b4⟩ := lc_draw is ys k1 a2
    refine ⟨x :: xs, k2, by simp [b1], fun z hz => ?_, b3, ?_⟩
    · rcases List.mem_cons.mp hz with h | h
      · rw [h]; exact a1
      · exact b2 z h
    · have K' := K.set (i := 19) (some y) (by decide) (by decide) (by decide) (by decide)
      have e := call_of (F := T 99) (f := 49) (evs_cons (v_of K'.h1) (evs_cons (v_of (μ := [cw is k]) K'.h3) evs_nil)) a3
      have b : bindT (.nm 19) y (pl ds) = some (pl (ds.set 19 (some y))) := by
        unfold bindT
        simp only [pl_set]
      unfold lcGo
      rw [b]
      have e' : ∀ ρ' μ', evc (T 99) .none ρ' μ' = some (true, μ') := fun _ _ => rfl
      simp only [e', lk_pl, Bool.false_eq_true, if_false, e] at b4 ⊢
      rw [b4]
      rfl
theorem st14 (is : List Int) (k : Int) (hk : 0 ≤ k) : ∃ (xs : List (Nm n)) (k1 : Int), xs.length = 4 ∧ (∀ x ∈ xs, AllL Lf n x) ∧ 0 ≤ k1 ∧ exec (T 99) W s_1_4 (pl ds) [cw is k] = some (.nx (pl (ds.set 5 (some (.lst (xs.map (nD n)))))) [cw is k1]) := by
  obtain ⟨xs, k1, a1, a2, a3, a4⟩ := lc_draw K s is (rngD 0 4) k hk
  exact ⟨xs, k1, a1, a2, a3, asg_pl (ev_lc (evi_rng (n := 4) rfl (by decide)) (by decide) a4)⟩
theorem st15 (h4 : ds[4]? = some (some (joinD "" (rowsT t)))) (μ : Cells) : exec (T 99) W s_1_5 (pl ds) μ = some (.nx (pl ds) μ) := by
  have n3 := s.ok.n3
  have smt : TwAll (SmF 12) t := twAll_imp (fun _ g => Lf.smf g) t s.ok.lf
  have c1 : T 99 35 [tD t] μ = some (joinD "" (rowsT t), μ) := ptower_c (k := 12) (by decide) (by decide) (by omega) t smt (m := 91) (by omega) μ
  have c2 : T 99 15 [tD t] μ = some (nD n (zeroN n), μ) := nought_c tf2 n (by omega) 92 (by omega) (twL t) (twL_len t) μ
  have c3 : T 99 16 [fD (3, 4), tD t] μ = some (nD n (numN (3, 4) n), μ) := by
    rw [← liftQ]
    exact number_c tf2 (by omega) (m := 93) (by omega) _ (twL t) (twL_len t) μ
  have c4 : T 99 56 [.int n] μ = some (nD n (zeroN n), μ) := lzero_c n (by omega) 98 (by omega) μ
  have c5 := lup_num (3, 4) (n := n) (by omega) μ
  have tp : ev (T 99) (.tup (.cons (.int 3) (.cons (.int 4) .nil))) (pl ds) μ = some (fD (3, 4), μ) := tup_of (evs_cons rfl (evs_cons rfl evs_nil)) (by decide)
  refine ifs_f (same_of (d := .tup [joinD "" (rowsT t), nD n (zeroN n), nD n (numN (3, 4) n)]) ?_ ?_ ?_) rfl
  · exact tup_of (evs_cons (call_of (evs_cons (v_of K.h10) evs_nil) c1) (evs_cons (call_of (evs_cons (v_of K.h10) evs_nil) c2) (evs_cons (call_of (evs_cons tp (evs_cons (v_of K.h10) evs_nil)) c3) evs_nil))) (by simp)
  · exact tup_of (evs_cons (v_of h4) (evs_cons (call_of (evs_cons (v_of K.h3) evs_nil) c4) (evs_cons (call_of (evs_cons tp (evs_cons (v_of K.h3) evs_nil)) c5) evs_nil))) (by simp)
  · rw [dep_tup]
    simp [joinD, dep_str, dep_nD n (zeroN n) 49 (by omega), dep_nD n (numN (3, 4) n) 49 (by omega)]
end
end K02

set_option Elab.async false
set_option linter.all false
set_option maxRecDepth 100000
set_option maxHeartbeats 4000000
/-! the law on one number -/
namespace K02
open FM
open OF (sgn sgn_eq0 Hom rat rat_mul)
open L2 (atI)
open PySem (Str sizeLine)
local macro_rules | `(tactic| walk_at "go") => `(tactic| simp [FM.execs, FM.exec, FM.ev, FM.evs, FM.evo, FM.evc, FM.evi, FM.Sl.d, FM.isiD, FM.cmpD, FM.negD, FM.bindT, FM.andThen_some', FM.onBl_bl, FM.wthD_some', FM.eqD_int, FM.ix_tup, FM.ix_lst, FM.atI_0, FM.atI_1, FM.atI_2, FM.op_add, FM.op_sub, FM.op_subBl, FM.biD_abs, FM.szle, FM.pl_get, FM.pl_set, FM.isOw_pl, FM.noOw_pl, FM.lk_pl, FM.lks_pl, FM.itlk_pl, FM.setAll_pl, FM.setAllD])
theorem sh_lst {k : Nat} {ds : List D} (h : ShL k ds) : Sh (k + 1) (.lst ds) := by
  obtain ⟨h1, h2, h3⟩ := h
  refine ⟨?_, ?_, ?_⟩
  · unfold D.noCell; exact h1
  · unfold D.py PySem.PyData.canLay0; exact h2
  · unfold D.py PySem.PyData.depth; omega
theorem shL_fr : ∀ l : List (Int × Int), ShL 1 (l.map fD)
  | [] => .nil _
  | x :: xs => .cons (sh_nD 0 (x : Nm 0)) (shL_fr xs)
theorem nil_fr (l : List (Int × Int)) : cmpD .Eq (.lst (l.map fD)) (.lst []) = some (decide (l = [])) := by
  have s1 := (sh_lst (shL_fr l)).ok (by decide)
  have s2 : shOk (.lst []) = true := (sh_lst (ShL.nil 0)).ok (by decide)
  have s0 : scalOk (.lst (l.map fD)) (.lst []) = false := rfl
  show eqD _ _ = _
  unfold eqD
  rw [s0, if_neg (by decide), s1, s2, Bool.and_self, if_pos rfl]
  cases l with
  | nil => rfl
  | cons x xs => rfl
theorem eqD_str (a : Str) : eqD (.str a) (.str a) = some true := by
  simp [eqD, scalOk, eqS, D.scal]
theorem lc_filtG {α : Type} {F : Fs} {i : Nat} {elt cond : E} {ds : List (Option D)} {μ : Cells} (f g : α → D) (p : α → Bool) : (xs : List α) → (hc : ∀ a ∈ xs, ev F cond (pl (ds.set i (some (f a)))) μ = some (.bl (p a), μ)) → (hf : ∀ a ∈ xs, ev F elt (pl (ds.set i (some (f a)))) μ = some (g a, μ)) →
    lcGo (.nm i) (fun ρ' μ' => evc F (.some cond) ρ' μ') (fun ρ' μ' => if lk ρ' elt then none else ev F elt ρ' μ') (pl ds) (xs.map f) μ = some ((xs.filter p).map g, μ)
  | [], _, _ => rfl
  | x :: xs, hc, hf => by
    have ih := lc_filtG f g p xs (fun d hd => hc d (List.mem_cons_of_mem _ hd)) (fun d hd => hf d (List.mem_cons_of_mem _ hd))
    have c := hf x (List.mem_cons_self ..)
    have c' := hc x (List.mem_cons_self ..)
    have b : bindT (.nm i) (f x) (pl ds) = some (pl (ds.set i (some (f x)))) := by
      unfold bindT
      simp only [pl_set]
    have e : evc F (.some cond) (pl (ds.set i (some (f x)))) μ = some (p x, μ) := by
      show onBl (ev F cond _ μ) _ = _
      rw [c']
      rfl
    rw [List.map_cons]
    unfold lcGo
    rw [b]
    simp only [e]
    cases z : p x with
    | false =>
      simp only [List.filter_cons, z]
      exact ih
    | true =>
      simp only [lk_pl, Bool.false_eq_true, if_false, c] at ih ⊢
      rw [ih]
      simp [List.filter_cons, z]
/-! ### parts -/
theorem cut_one {α : Type} (d : α) (l : List α) : cutD (d :: l) (some 1) none = l := by
  have a : HT.sIx (d :: l).length 0 (some 1) = 1 := by
    simp [HT.sIx]
  have b : HT.sIx (d :: l).length (d :: l).length none = (d :: l).length := rfl
  unfold cutD
  rw [a, b]
  simp
theorem isN_pts : (n : Nat) → (x : Nm n) → AllL Red n x → isN n x = (ptsN n x).all fun q => decide (q = (0, 1))
  | 0, x, h => by
    obtain ⟨a, b, rfl⟩ := nm0 x
    show decide (a = 0) = (decide ((a, b) = ((0, 1) : Int × Int)) && true)
    rw [Bool.and_true]
    exact decide_eq_decide.mpr (Red.zero (x := (a, b)) h)
  | n + 1, x, h => by
    show (isN n x.1 && isN n x.2) = (ptsN n x.1 ++ ptsN n x.2).all _
    rw [List.all_append, isN_pts n x.1 h.1, isN_pts n x.2 h.2]
theorem frac_pts : (n : Nat) → (x : Nm n) → AllL Red n x → ∃ (q : Int × Int) (r : List (Int × Int)), ptsN n x = q :: r ∧ fracN n x = if r.all (fun q => decide (q = (0, 1))) then some q else none
  | 0, x, h => ⟨x, [], rfl, rfl⟩
  | n + 1, x, h => by
    obtain ⟨q, r, h1, h2⟩ := frac_pts n x.1 h.1
    refine ⟨q, r ++ ptsN n x.2, ?_, ?_⟩
    · show ptsN n x.1 ++ ptsN n x.2 = _
      rw [h1]
      rfl
    · show (if isN n x.2 then fracN n x.1 else none) = _
      rw [List.all_append, ← isN_pts n x.2 h.2, h2]
      cases isN n x.2
      · simp
      · rw [if_pos rfl, Bool.and_true]
theorem filt_all (r : List (Int × Int)) : decide (r.filter (fun q => !decide (q = ((0, 1) : Int × Int))) = []) = r.all fun q => decide (q = (0, 1)) := by
  induction r with
  | nil => rfl
  | cons a r ih =>
    rw [List.filter_cons, List.all_cons, ← ih]
    cases h : decide (a = ((0, 1) : Int × Int)) <;> simp
/-! ### the statements -/
structure Ky (ds : List (Option D)) {n : Nat} (t : Tw n) (l : List Int) (xs : List (Nm n)) (x : Nm n) : Prop where
  K : Kt ds t l
  h5 : ds[5]? = some (some (.lst (xs.map (nD n))))
  h6 : ds[6]? = some (some (nD n x))
theorem Ky.set {ds : List (Option D)} {n : Nat} {t : Tw n} {l : List Int} {xs : List (Nm n)} {x : Nm n} (K : Ky ds t l xs x) {i : Nat} (o : Option D) (n1 : i ≠ 1) (n3 : i ≠ 3) (n5 : i ≠ 5) (n6 : i ≠ 6) (n10 : i ≠ 10) (n11 : i ≠ 11) : Ky (ds.set i o) t l xs x :=
  ⟨K.K.set o n1 n3 n10 n11, by rw [List.getElem?_set_ne n5]; exact K.h5, by rw [List.getElem?_set_ne n6]; exact K.h6⟩
theorem dep_pts {n : Nat} (hn : n ≤ 9) (x : Nm n) (k : Nat) : dep (k + 2) (.tup ((ptsN n x).map fD)) = true := by
  have pw : 2 ^ n ≤ 2 ^ 9 := Nat.pow_le_pow_right (by decide) hn
  rw [dep_tup, decide_eq_true (by rw [List.length_map, ptsN_len]; omega), Bool.true_and, List.all_eq_true]
  intro d hd
  obtain ⟨q, _, rfl⟩ := List.mem_map.mp hd
  exact dep_fD _ _ (by omega)
section
variable {ds : List (Option D)} {n : Nat} {t : Tw n} {l : List Int} {xs : List (Nm n)} {x : Nm n} (K : Ky ds t l xs x) (s : St n t l) (hx : AllL Lf n x)
include K s hx
theorem st160 (μ : Cells) : exec (T 99) W s_1_6_0 (pl ds) μ = some (.nx (pl ds) μ) := by
  have n3 := s.ok.n3
  have c1 := print_c (k := 12) (by decide) (by decide) n (by omega) t 92 (by omega) (all_smf hx) μ
  have c2 : T 99 20 [nD n x, tD t] μ = some (.bl (isN n x), μ) := isn_c tf n (by omega) t 93 (by omega) x μ
  have c3 := parts_c n (by omega) 98 (by omega) x μ
  have c4 := isof_c n (by omega) t 95 (by omega) (AllL.imp (fun q (g : Lf q) => ⟨Lf.red g, (Lf.smf g).2.mono (by decide)⟩) n hx) μ
  have c5 := ltext_c (k := 12) (by decide) (by decide) n (by omega) 98 (by omega) (all_smf hx) (all_red hx) μ
  have c6 := lnone_c n 98 (by omega) x (all_red hx) μ
  have c7 := lfracs_c n (by omega) 98 (by omega) x μ
  have e2 := evs_cons (F := T 99) (v_of (μ := μ) K.h6) (evs_cons (v_of K.K.h10) evs_nil)
  have e1 := evs_cons (F := T 99) (v_of (μ := μ) K.h6) evs_nil
  refine ifs_f (same_of (d := .tup [.str (S' (txN n x)), .bl (isN n x), .tup ((ptsN n x).map fD), .bl true]) ?_ ?_ ?_) rfl
  · exact tup_of (evs_cons (call_of e2 c1) (evs_cons (call_of e2 c2) (evs_cons (bi1_of (call_of e1 c3) rfl) (evs_cons (call_of e2 c4) evs_nil)))) (by simp)
  · exact tup_of (evs_cons (call_of (evs_cons (v_of K.h6) (evs_cons (v_of K.K.h3) evs_nil)) c5) (evs_cons (call_of e1 c6) (evs_cons (call_of e1 c7) (evs_cons rfl evs_nil)))) (by simp)
  · rw [dep_tup]
    simp only [List.all_cons, List.all_nil, dep_str, dep_bl, dep_pts (show n ≤ 9 by omega) x 47]
    rfl
theorem st161 (μ : Cells) : exec (T 99) W s_1_6_1 (pl ds) μ = some (.nx (pl (ds.set 12 (some (.bl ((ptsN n x).tail.all fun q => decide (q = (0, 1))))))) μ) := by
  have n3 := s.ok.n3
  have c7 := lfracs_c n (by omega) 98 (by omega) x μ
  have e1 := evs_cons (F := T 99) (v_of (μ := μ) K.h6) evs_nil
  have it : evi (T 99) (.seq (.sl (.call 57 (.cons (.var 6) .nil)) (.some (.int 1)) .none)) (pl ds) μ = some ((ptsN n x).tail.map fD, μ) := by
    have c8 := call_of (F := T 99) (f := 57) e1 c7
    have sl : slD (.tup ((ptsN n x).map fD)) (some 1) none = some (.tup ((ptsN n x).tail.map fD)) := by
      obtain ⟨q, r, h1, _⟩ := frac_pts n x (all_red hx)
      rw [h1]
      show some (D.tup (cutD (fD q :: r.map fD) (some 1) none)) = some (D.tup (r.map fD))
      congr 2
      exact cut_one _ _
    unfold evi
    unfold ev
    have s1 : evo (T 99) (.some (.int 1)) (pl ds) μ = some (some 1, μ) := rfl
    have s2 : evo (T 99) .none (pl ds) μ = some (none, μ) := rfl
    rw [c8, andThen_some', s1, andThen_some', s2, andThen_some']
    show andThen (wthD (slD (.tup ((ptsN n x).map fD)) (some 1) none) μ) _ = _
    rw [sl]
    rfl
  have pw : 2 ^ n ≤ 2 ^ 9 := Nat.pow_le_pow_right (by decide) (by omega)
  have lc : ev (T 99) (.lc (.var 24) (.nm 24) (.seq (.sl (.call 57 (.cons (.var 6) .nil)) (.some (.int 1)) .none)) (.some (.cmp .NotEq (.var 24) (.tup (.cons (.int 0) (.cons (.int 1) .nil)))))) (pl ds) μ = some (.lst (((ptsN n x).tail.filter fun q => !decide (q = ((0, 1) : Int × Int))).map fD), μ) := by
    refine ev_lc it (by rw [List.length_map, List.length_tail, ptsN_len]; omega) (lc_filtG fD fD (fun q => !decide (q = ((0, 1) : Int × Int))) _ (fun q _ => ?_) (fun q _ => v_of (set_get K.K.len (by decide))))
    have e := eqD_fr q (0, 1)
    exact cmp_of (x := fD q) (y := fD (0, 1)) (v_of (set_get K.K.len (by decide))) (tup_of (evs_cons rfl (evs_cons rfl evs_nil)) (by decide)) (by
      show (eqD (fD q) (fD (0, 1))).map not = _
      rw [e]
      rfl)
  refine asg_pl (cmp_of lc (show ev (T 99) (.lst .nil) (pl ds) μ = some (.lst [], μ) from rfl) ?_)
  rw [nil_fr, filt_all]
end
theorem st162 {ds : List (Option D)} {n : Nat} {t : Tw (n + 1)} {l : List Int} {xs : List (Nm (n + 1))} {x : Nm (n + 1)} (K : Ky ds t l xs x) (s : St (n + 1) t l) (hx : AllL Lf (n + 1) x) (h12 : ds[12]? = some (some (.bl ((ptsN (n + 1) x).tail.all fun q => decide (q = (0, 1)))))) (μ : Cells) : exec (T 99) W s_1_6_2 (pl ds) μ = some (.nx (pl ds) μ) := by
  have n3 := s.ok.n3
  have c1 : T 99 26 [nD (n + 1) x, tD t] μ = some (frR (fracN (n + 1) x), μ) := fracof_c tf2 (by omega) t (m := 92) (by omega) x μ
  have c7 := lfracs_c (n + 1) (by omega) 98 (by omega) x μ
  have c8 := turned_c n 97 (by omega) x μ
  have c9 := lless_c n 98 (by omega) x.2 μ
  have e1 := evs_cons (F := T 99) (v_of (μ := μ) K.h6) evs_nil
  obtain ⟨q, r, h1, h2⟩ := frac_pts (n + 1) x (all_red hx)
  rw [h1] at h12 c7
  have rhs : ev (T 99) (.ife (.var 12) (.ix (.call 57 (.cons (.var 6) .nil)) (.int 0)) .non) (pl ds) μ = some (frR (fracN (n + 1) x), μ) := by
    rw [h2]
    cases z : r.all (fun q => decide (q = ((0, 1) : Int × Int))) with
    | true =>
      refine (ife_t (v_of (h12.trans ?_))).trans (ev_ix (x := .tup ((q :: r).map fD)) (y := .int 0) (call_of e1 c7) rfl ?_)
      · show some (some (D.bl (r.all fun q => decide (q = (0, 1))))) = _
        rw [z]
      · rw [ix_tup, List.map_cons, atI_0]
        rfl
    | false =>
      refine (ife_f (v_of (h12.trans ?_))).trans rfl
      show some (some (D.bl (r.all fun q => decide (q = (0, 1))))) = _
      rw [z]
  have d1 : dep 50 (frR (fracN (n + 1) x)) = true := by
    rw [h2]
    split
    · exact dep_fD _ _ (by decide)
    · rfl
  have six : ∀ (i : Int) (d : D), atI [nD n x.1, nD n x.2] i = some d → ev (T 99) (.ix (.var 6) (.int i)) (pl ds) μ = some (d, μ) := fun i d h => ev_ix (x := .tup [nD n x.1, nD n x.2]) (y := .int i) (v_of K.h6) rfl (by rw [ix_tup]; exact h)
  refine ifs_f (or_ff (same_of (call_of (evs_cons (v_of K.h6) (evs_cons (v_of K.K.h10) evs_nil)) c1) rhs d1) (same_of (d := .tup [nD n x.1, nD n (negN n x.2)]) (call_of e1 c8) ?_ ?_)) rfl
  · exact tup_of (evs_cons (six 0 _ rfl) (evs_cons (call_of (evs_cons (six 1 _ rfl) evs_nil) c9) evs_nil)) (by simp)
  · rw [dep_tup]
    simp [dep_nD n x.1 49 (by omega), dep_nD n (negN n x.2) 49 (by omega)]
section
variable {ds : List (Option D)} {n : Nat} {t : Tw n} {l : List Int} {xs : List (Nm n)} {x : Nm n} (K : Ky ds t l xs x) (s : St n t l) (hx : AllL Lf n x)
include K s hx
theorem st163 (μ : Cells) : exec (T 99) W s_1_6_3 (pl ds) μ = some (.nx (pl (ds.set 13 (some (tD (.snoc t (numN (7, 1) n)))))) μ) := by
  have n3 := s.ok.n3
  have c5 := lup_num (7, 1) (n := n) (by omega) μ
  have tp : ev (T 99) (.tup (.cons (.int 7) (.cons (.int 1) .nil))) (pl ds) μ = some (fD (7, 1), μ) := tup_of (evs_cons rfl (evs_cons rfl evs_nil)) (by decide)
  refine asg_pl (op_of (v_of K.K.h10) (tup_of (evs_cons (call_of (evs_cons tp (evs_cons (v_of K.K.h3) evs_nil)) c5) evs_nil) (by simp)) ?_)
  refine opD_of ?_
  show (if (twL t).length + 1 ≤ sizeLine then some (D.tup (twL t ++ [nD n (numN (7, 1) n)])) else none) = _
  rw [twL_len, if_pos (Nat.le_trans (show n + 1 ≤ 100 by omega) (by decide))]
  rfl
theorem st164 (h13 : ds[13]? = some (some (tD (.snoc t (numN (7, 1) n))))) (μ : Cells) : exec (T 99) W s_1_6_4 (pl ds) μ = some (.nx (pl ds) μ) := by
  have n3 := s.ok.n3
  have c1 : T 99 14 [nD n x, tD t, tD (.snoc t (numN (7, 1) n))] μ = some (nD (n + 1) ((x, zeroN n) : Nm (n + 1)), μ) := lifted_c tf2 (n := n) (c := 1) (by omega) (m := 93) (by omega) (nD n x) (twL t) (twL (.snoc t (numN (7, 1) n))) (twL_len t) (twL_len _) μ
  have z1 : AllL (SmF 12) n (zeroN n) := zeroN_all (P := SmF 12) (by unfold SmF Sm; decide) n
  have c2 := print_c (k := 12) (by decide) (by decide) (n + 1) (by omega) (.snoc t (numN (7, 1) n)) 92 (by omega) (x := ((x, zeroN n) : Nm (n + 1))) ⟨all_smf hx, z1⟩ μ
  rw [txN_t (n := n) (x := ((x, zeroN n) : Nm (n + 1))) (isN_zero n)] at c2
  have c4 : T 99 56 [.int n] μ = some (nD n (zeroN n), μ) := lzero_c n (by omega) 98 (by omega) μ
  have c5 := ltext_c (k := 12) (by decide) (by decide) n (by omega) 98 (by omega) (all_smf hx) (all_red hx) μ
  have e3 := call_of (F := T 99) (f := 14) (evs_cons (v_of (μ := μ) K.h6) (evs_cons (v_of K.K.h10) (evs_cons (v_of h13) evs_nil))) c1
  refine ifs_f (same_of (d := .tup [nD (n + 1) ((x, zeroN n) : Nm (n + 1)), .str (S' (txN n x))]) ?_ ?_ ?_) rfl
  · exact tup_of (evs_cons e3 (evs_cons (call_of (evs_cons e3 (evs_cons (v_of h13) evs_nil)) c2) evs_nil)) (by simp)
  · exact tup_of (evs_cons (show ev (T 99) _ (pl ds) μ = some (.tup [nD n x, nD n (zeroN n)], μ) from tup_of (evs_cons (v_of K.h6) (evs_cons (call_of (evs_cons (v_of K.K.h3) evs_nil) c4) evs_nil)) (by simp)) (evs_cons (call_of (evs_cons (v_of K.h6) (evs_cons (v_of K.K.h3) evs_nil)) c5) evs_nil)) (by simp)
  · rw [dep_tup]
    simp [dep_str, dep_nD (n + 1) ((x, zeroN n) : Nm (n + 1)) 49 (by omega)]
theorem st165 (μ : Cells) : exec (T 99) W s_1_6_5 (pl ds) μ = some (.nx (pl (ds.set 14 (some (.int (worN (rt l) n x))))) μ) := by
  have n3 := s.ok.n3
  have w := lworth_c (l := l) n (by omega) (by have := s.len; omega) s.sm 97 (by omega) hx μ
  exact asg_pl (call_of (evs_cons (v_of K.h6) (evs_cons (v_of K.K.h11) evs_nil)) w)
end
end K02

set_option Elab.async false
set_option linter.all false
set_option maxRecDepth 100000
set_option maxHeartbeats 4000000
/-! the law on one number's figures -/
namespace K02
open FM
open OF (sgn sgn_eq0 Hom rat rat_mul)
open L2 (atI)
open PySem (Str sizeLine)
abbrev c24 : Int := 1000000000000000000000000
theorem pow1024 : opD .Pow (.int 10) (.int 24) = some (.int c24) := by rfl
theorem pow1020 : opD .Pow (.int 10) (.int 20) = some (.int 100000000000000000000) := by rfl
theorem pow106 : opD .Pow (.int 10) (.int 6) = some (.int 1000000) := by rfl
theorem sm_c24 : Sm 81 c24 := by unfold Sm; decide
theorem dv_c24 : Dv c24 := Dv.pos (by decide) sm_c24 (by decide)
theorem p_of {F : Fs} {a b : Int} {z : D} {ρ : Env} {μ : Cells} (h : opD .Pow (.int a) (.int b) = some z) : ev F (.op .Pow (.int a) (.int b)) ρ μ = some (z, μ) := op_of rfl rfl h
theorem ne_str (a : Str) : cmpD .NotEq (.str a) (.str a) = some false := by
  show (eqD (.str a) (.str a)).map not = _
  rw [eqD_str]
  rfl
/-- a text without its first sign -/
theorem sl_tail {a : Nat} {l : List Nat} (h : l.length ≤ 1000) : slD (.str (S' (a :: l))) (some 1) none = some (.str (S' l)) := by
  show (if (S' (a :: l)).length ≤ sizeLine then some (D.str ⟨(cutD (S' (a :: l)).cps.toList (some 1) none).toArray⟩) else none) = _
  rw [S'_len, if_pos (Nat.le_trans (show (a :: l).length ≤ 1001 by simp; omega) (by decide))]
  show some (D.str ⟨(cutD (a :: l) (some 1) none).toArray⟩) = _
  rw [cut_one]
  rfl
section
variable {ds : List (Option D)} {n : Nat} {t : Tw n} {l : List Int} {xs : List (Nm n)} {x : Nm n} (K : Ky ds t l xs x) (s : St n t l) (hx : AllL Lf n x) (h14 : ds[14]? = some (some (.int (worN (rt l) n x))))
include K s hx h14
theorem st166 (μ : Cells) : exec (T 99) W s_1_6_6 (pl ds) μ = some (.nx (pl (ds.set 15 (some (.int (worN (rt l) n x - (worN (rt l) n x).fdiv c24 * c24))))) μ) := by
  have n3 := s.ok.n3
  have ws := (worN_sm n hx s.sm).mono (show 111 * n + 112 ≤ 500 by omega)
  have d := op_div (worN (rt l) n x) dv_c24
  have m := op_mul (ws.fdiv c24) sm_c24 (by decide)
  exact asg_pl (op_of (v_of h14) (op_of (op_of (v_of h14) (p_of pow1024) d) (p_of pow1024) m) (op_sub _ _))
end
def sIn : Ss := (.cons (.asg 20 (.call 32 (.cons (.var 6) (.cons (.var 10) (.cons (.int 6) .nil))))) (.cons (.asg 17 (.op .FloorDiv (.var 14) (.op .Pow (.int 10) (.int 24)))) (.cons (.asg 21 (.op .Add (.op .Add (.op .Add (.ife (.cmp .Lt (.var 17) (.int 0)) (.str "-") (.str "")) (.bi .str (.cons (.op .FloorDiv (.bi .abs (.cons (.var 17) .nil)) (.op .Pow (.int 10) (.int 6))) .nil))) (.str ".")) (.sl (.bi .str (.cons (.op .Sub (.op .Add (.op .Pow (.int 10) (.int 6)) (.bi .abs (.cons (.var 17) .nil))) (.op .Mult (.op .FloorDiv (.bi .abs (.cons (.var 17) .nil)) (.op .Pow (.int 10) (.int 6))) (.op .Pow (.int 10) (.int 6)))) .nil)) (.some (.int 1)) .none))) (.cons (.asgT [22, 23] (.call 33 (.cons (.var 6) (.cons (.var 10) (.cons (.op .Pow (.int 10) (.int 6)) .nil))))) (.cons (.ifs (.or (.cmp .NotEq (.var 20) (.var 21)) (.not (.call 45 (.cons (.tup (.cons (.call 31 (.cons (.var 6) (.cons (.var 10) .nil))) (.cons (.call 36 (.cons (.var 6) (.cons (.var 10) .nil))) .nil))) (.cons (.tup (.cons (.op .FloorDiv (.var 14) (.op .Pow (.int 10) (.int 30))) (.cons (.cmp .Lt (.var 14) (.int 0)) .nil))) .nil))))) (.cons (.ret (.bl false)) .nil) .nil) (.cons (.ifs (.not (.call 45 (.cons (.tup (.cons (.var 22) (.cons (.var 23) .nil))) (.cons (.tup (.cons (.call 47 (.cons (.var 17) (.cons (.op .Pow (.int 10) (.int 6)) .nil))) (.cons (.call 47 (.cons (.op .Add (.var 17) (.int 1)) (.cons (.op .Pow (.int 10) (.int 6)) .nil))) .nil))) .nil)))) (.cons (.ret (.bl false)) .nil) .nil) .nil))))))
/-- the law's own text of the figures -/
theorem fig_law {ds : List (Option D)} {w : Int} (h17 : ds[17]? = some (some (.int w))) (hw : w.natAbs ≤ 2 ^ 31) (μ : Cells) : ev (T 99) (.op .Add (.op .Add (.op .Add (.ife (.cmp .Lt (.var 17) (.int 0)) (.str "-") (.str "")) (.bi .str (.cons (.op .FloorDiv (.bi .abs (.cons (.var 17) .nil)) (.op .Pow (.int 10) (.int 6))) .nil))) (.str ".")) (.sl (.bi .str (.cons (.op .Sub (.op .Add (.op .Pow (.int 10) (.int 6)) (.bi .abs (.cons (.var 17) .nil))) (.op .Mult (.op .FloorDiv (.bi .abs (.cons (.var 17) .nil)) (.op .Pow (.int 10) (.int 6))) (.op .Pow (.int 10) (.int 6)))) .nil)) (.some (.int 1)) .none)) (pl ds) μ = some (.str (S' (figL w)), μ) := by
  have ab : ev (T 99) (.bi .abs (.cons (.var 17) .nil)) (pl ds) μ = some (.int (w.natAbs : Int), μ) := bi1_of (v_of h17) (biD_abs _ _)
  have d1 : opD .FloorDiv (.int (w.natAbs : Int)) (.int 1000000) = some (.int ((w.natAbs / 1000000 : Nat) : Int)) := (op_div (w.natAbs : Int) dv6).trans (by rw [← fdiv_nat]; rfl)
  have q1 := op_of (F := T 99) ab (p_of pow106) d1
  have hr : w.natAbs % 1000000 < 10 ^ 6 := Nat.mod_lt _ (by decide)
  have hb : w.natAbs / 1000000 < 2 ^ 31 := by omega
  have hm : (1000000 : Int) + (w.natAbs : Int) - ((w.natAbs / 1000000 : Nat) : Int) * 1000000 = ((10 ^ 6 + w.natAbs % 1000000 : Nat) : Int) := by omega
  unfold figL
  generalize w.natAbs / 1000000 = B at *
  generalize w.natAbs % 1000000 = R at *
  have m1 := op_mul (a := (B : Int)) (b := 1000000) (j := 32) (k := 21) (by unfold Sm; omega) (by unfold Sm; decide) (by decide)
  have q2 := op_of (F := T 99) q1 (p_of pow106) m1
  have q3 := op_of (F := T 99) (op_of (p_of pow106) ab (op_add 1000000 (w.natAbs : Int))) q2 (op_sub _ _)
  rw [hm] at q3
  have s1 := bi_str μ (k := 31) (i := (B : Int)) (by unfold Sm; omega) (by decide)
  have s2 := bi_str μ (k := 31) (i := ((10 ^ 6 + R : Nat) : Int)) (by unfold Sm; omega) (by decide)
  have lb := txL_len (k := 31) (i := (B : Int)) (by unfold Sm; omega) (by decide)
  rw [txL_nat] at s1 s2 lb
  rw [dg_one_pad 6 R hr] at s2
  have lp : ∀ (k r : Nat), (pad k r).length = k := by
    intro k
    induction k with
    | zero => intro r; rfl
    | succ k ih =>
      intro r
      show (pad k (r / 10) ++ [_]).length = _
      rw [List.length_append, ih]
      rfl
  have q4 : ev (T 99) (.sl (.bi .str (.cons (.op .Sub (.op .Add (.op .Pow (.int 10) (.int 6)) (.bi .abs (.cons (.var 17) .nil))) (.op .Mult (.op .FloorDiv (.bi .abs (.cons (.var 17) .nil)) (.op .Pow (.int 10) (.int 6))) (.op .Pow (.int 10) (.int 6)))) .nil)) (.some (.int 1)) .none) (pl ds) μ = some (.str (S' (pad 6 R)), μ) := by
    have e := bi1_of q3 s2
    have t1 : evo (T 99) (.some (.int 1)) (pl ds) μ = some (some 1, μ) := rfl
    have t2 : evo (T 99) .none (pl ds) μ = some (none, μ) := rfl
    unfold ev
    rw [e, andThen_some', t1, andThen_some', t2, andThen_some', sl_tail (by rw [lp]; decide)]
    rfl
  have sg : ev (T 99) (.ife (.cmp .Lt (.var 17) (.int 0)) (.str "-") (.str "")) (pl ds) μ = some (.str (S' (if w < 0 then [45] else [])), μ) := by
    have c := cmp_of (o := .Lt) (v_of (F := T 99) (μ := μ) h17) (show ev (T 99) (.int 0) (pl ds) μ = some (.int 0, μ) from rfl) (t := decide (w < 0)) rfl
    by_cases z : w < 0
    · rw [decide_eq_true z] at c
      rw [if_pos z, ← l_minus]
      exact (ife_t c).trans rfl
    · rw [decide_eq_false z] at c
      rw [if_neg z, ← l_none]
      exact (ife_f c).trans rfl
  have ls : (if w < 0 then [45] else [] : List Nat).length ≤ 1 := by split <;> simp
  generalize (if w < 0 then [45] else [] : List Nat) = sgn at *
  have a1 := op_addS (l := sgn) (m := dg B) (by omega)
  have a2 := op_addS (l := sgn ++ dg B) (m := [46]) (by simp; omega)
  have a3 := op_addS (l := sgn ++ dg B ++ [46]) (m := pad 6 R) (by simp [lp]; omega)
  have dt : ev (T 99) (.str ".") (pl ds) μ = some (.str (S' [46]), μ) := by rw [← l_dot]; rfl
  have fin := op_of (op_of (op_of sg (bi1_of q1 s1) a1) dt a2) q4 a3
  rw [fin]
  simp only [List.append_assoc]
section
variable {ds : List (Option D)} {n : Nat} {t : Tw n} {l : List Int} {xs : List (Nm n)} {x : Nm n} (h0 : 0 < n) (K : Ky ds t l xs x) (s : St n t l) (hx : AllL Lf n x) (h14 : ds[14]? = some (some (.int (worN (rt l) n x)))) (hc : Clear (worN (rt l) n x))
include h0 K s hx h14 hc
theorem st_in (μ : Cells) : ∃ ds' : List (Option D), Ky ds' t l xs x ∧ execs (T 99) W sIn (pl ds) μ = some (.nx (pl ds') μ) := by
  have n3 := s.ok.n3
  have fg := figs_c h0 s.ok hx hc (m := 91) (by omega) μ
  have bt := betw_c h0 s.ok hx hc (m := 91) (by omega) μ
  have fo := fl_one h0 s.ok hx hc (m := 92) (by omega) μ
  have bo := below_one h0 s.ok hx hc (m := 92) (by omega) μ
  have tl := told_lt h0 s.ok hx hc
  have dw := op_div (worN (rt l) n x) dv_c24
  have dw30 := op_div (worN (rt l) n x) dv_tS
  have dn : Dn 1000000 := ⟨by unfold Sm; exact Nat.lt_of_lt_of_le (show (1000000 : Int).natAbs < 2 ^ 20 by decide) (Nat.pow_le_pow_right (by decide) (by decide)), .inl (by decide)⟩
  have sm : ∀ i : Int, i.natAbs ≤ 2 ^ 32 → Sm 4000 i := fun i h => by
    unfold Sm
    exact Nat.lt_of_lt_of_le (show i.natAbs < 2 ^ 33 by omega) (Nat.pow_le_pow_right (by decide) (by decide))
  have f1 : T 99 47 [.int (told (worN (rt l) n x)), .int 1000000] μ = some (fD (fr (told (worN (rt l) n x)) 1000000), μ) := lfr_at 97 _ _ μ (sm _ (by omega)) dn
  have f2 : T 99 47 [.int (told (worN (rt l) n x) + 1), .int 1000000] μ = some (fD (fr (told (worN (rt l) n x) + 1) 1000000), μ) := lfr_at 97 _ _ μ (sm _ (by omega)) dn
  generalize hfa : fr (told (worN (rt l) n x)) 1000000 = fa at *
  generalize hfb : fr (told (worN (rt l) n x) + 1) 1000000 = fb at *
  -- the three stored
  have K1 := K.set (i := 20) (some (.str (S' (figL (told (worN (rt l) n x)))))) (by decide) (by decide) (by decide) (by decide) (by decide) (by decide)
  have K2 := K1.set (i := 17) (some (.int (told (worN (rt l) n x)))) (by decide) (by decide) (by decide) (by decide) (by decide) (by decide)
  have K3 := K2.set (i := 21) (some (.str (S' (figL (told (worN (rt l) n x)))))) (by decide) (by decide) (by decide) (by decide) (by decide) (by decide)
  have K4 := K3.set (i := 22) (some (fD fa)) (by decide) (by decide) (by decide) (by decide) (by decide) (by decide)
  have K5 := K4.set (i := 23) (some (fD fb)) (by decide) (by decide) (by decide) (by decide) (by decide) (by decide)
  have e0 : exec (T 99) W (.asg 20 (.call 32 (.cons (.var 6) (.cons (.var 10) (.cons (.int 6) .nil))))) (pl ds) μ = some (.nx (pl (ds.set 20 (some (.str (S' (figL (told (worN (rt l) n x)))))))) μ) := asg_pl (call_of (evs_cons (v_of K.h6) (evs_cons (v_of K.K.h10) (evs_cons rfl evs_nil))) fg)
  have g14 : (ds.set 20 (some (.str (S' (figL (told (worN (rt l) n x)))))))[14]? = some (some (.int (worN (rt l) n x))) := by rw [List.getElem?_set_ne (by decide)]; exact h14
  have e1 := asg_pl (F := T 99) (W := W) (i := 17) (op_of (v_of (μ := μ) g14) (p_of pow1024) dw)
  have g17 := set_get (ds := ds.set 20 (some (.str (S' (figL (told (worN (rt l) n x))))))) (o := some (.int (told (worN (rt l) n x)))) (i := 17) K1.K.len (by decide)
  have e2 := asg_pl (F := T 99) (W := W) (i := 21) (fig_law g17 (by omega) μ)
  generalize hd2 : (ds.set 20 (some (.str (S' (figL (told (worN (rt l) n x))))))).set 17 (some (.int (told (worN (rt l) n x)))) = ds2 at *
  have e3 : exec (T 99) W (.asgT [22, 23] (.call 33 (.cons (.var 6) (.cons (.var 10) (.cons (.op .Pow (.int 10) (.int 6)) .nil))))) (pl (ds2.set 21 (some (.str (S' (figL (told (worN (rt l) n x)))))))) μ = _ := asgT_of (call_of (evs_cons (v_of K3.h6) (evs_cons (v_of K3.K.h10) (evs_cons (p_of pow106) evs_nil))) bt)
  have k20 : (((ds2.set 21 (some (.str (S' (figL (told (worN (rt l) n x))))))).set 22 (some (fD fa))).set 23 (some (fD fb)))[20]? = some (some (.str (S' (figL (told (worN (rt l) n x)))))) := by
    rw [List.getElem?_set_ne (by decide), List.getElem?_set_ne (by decide), List.getElem?_set_ne (by decide), ← hd2, List.getElem?_set_ne (by decide)]
    exact set_get K.K.len (by decide)
  have k21 : (((ds2.set 21 (some (.str (S' (figL (told (worN (rt l) n x))))))).set 22 (some (fD fa))).set 23 (some (fD fb)))[21]? = some (some (.str (S' (figL (told (worN (rt l) n x)))))) := by
    rw [List.getElem?_set_ne (by decide), List.getElem?_set_ne (by decide)]
    exact set_get K2.K.len (by decide)
  have k14 : (((ds2.set 21 (some (.str (S' (figL (told (worN (rt l) n x))))))).set 22 (some (fD fa))).set 23 (some (fD fb)))[14]? = some (some (.int (worN (rt l) n x))) := by
    rw [List.getElem?_set_ne (by decide), List.getElem?_set_ne (by decide), List.getElem?_set_ne (by decide), ← hd2, List.getElem?_set_ne (by decide)]
    exact g14
  have k17 : (((ds2.set 21 (some (.str (S' (figL (told (worN (rt l) n x))))))).set 22 (some (fD fa))).set 23 (some (fD fb)))[17]? = some (some (.int (told (worN (rt l) n x)))) := by
    rw [List.getElem?_set_ne (by decide), List.getElem?_set_ne (by decide), List.getElem?_set_ne (by decide)]
    exact g17
  have k22 : (((ds2.set 21 (some (.str (S' (figL (told (worN (rt l) n x))))))).set 22 (some (fD fa))).set 23 (some (fD fb)))[22]? = some (some (fD fa)) := by
    rw [List.getElem?_set_ne (by decide)]
    exact set_get K3.K.len (by decide)
  have k23 : (((ds2.set 21 (some (.str (S' (figL (told (worN (rt l) n x))))))).set 22 (some (fD fa))).set 23 (some (fD fb)))[23]? = some (some (fD fb)) := set_get K4.K.len (by decide)
  generalize (((ds2.set 21 (some (.str (S' (figL (told (worN (rt l) n x))))))).set 22 (some (fD fa))).set 23 (some (fD fb))) = ds5 at *
  have a6 := evs_cons (F := T 99) (v_of (μ := μ) K5.h6) (evs_cons (v_of K5.K.h10) evs_nil)
  have t6 := tup_of (evs_cons (call_of (f := 31) a6 fo) (evs_cons (call_of (f := 36) a6 bo) evs_nil)) (by simp)
  have t7 : ev (T 99) (.tup (.cons (.op .FloorDiv (.var 14) (.op .Pow (.int 10) (.int 30))) (.cons (.cmp .Lt (.var 14) (.int 0)) .nil))) (pl ds5) μ = some (.tup [.int ((worN (rt l) n x).fdiv tS), .bl (decide (worN (rt l) n x < 0))], μ) := tup_of (evs_cons (op_of (v_of k14) (p_of pow1030) dw30) (evs_cons (cmp_of (x := .int (worN (rt l) n x)) (y := .int 0) (v_of k14) rfl rfl) evs_nil)) (by simp)
  have s6 := same_of t6 t7 (by rw [dep_tup]; simp [dep_int, dep_bl])
  have c6 := cmp_of (o := .NotEq) (v_of (F := T 99) (μ := μ) k20) (v_of k21) (t := false) (ne_str _)
  have p7 := p_of (F := T 99) (ρ := pl ds5) (μ := μ) pow106
  have t8 := tup_of (evs_cons (v_of (F := T 99) (μ := μ) k22) (evs_cons (v_of k23) evs_nil)) (by simp)
  have t9 := tup_of (evs_cons (call_of (f := 47) (evs_cons (v_of (F := T 99) (μ := μ) k17) (evs_cons p7 evs_nil)) f1) (evs_cons (call_of (f := 47) (evs_cons (op_of (v_of k17) (show ev (T 99) (.int 1) (pl ds5) μ = some (.int 1, μ) from rfl) (op_add _ _)) (evs_cons p7 evs_nil)) f2) evs_nil)) (by simp)
  have s9 := same_of t8 t9 (by rw [dep_tup]; simp [dep_fD])
  exact ⟨ds5, K5, seq_nx e0 (seq_nx e1 (seq_nx e2 (seq_nx e3 (seq_nx (ifs_f (or_ff c6 s6) rfl) (seq_nx (ifs_f s9 rfl) rfl)))))⟩
end
section
variable {ds : List (Option D)} {n : Nat} {t : Tw n} {l : List Int} {xs : List (Nm n)} {x : Nm n} (h0 : 0 < n) (K : Ky ds t l xs x) (s : St n t l) (hx : AllL Lf n x) (h14 : ds[14]? = some (some (.int (worN (rt l) n x)))) (h15 : ds[15]? = some (some (.int (worN (rt l) n x - (worN (rt l) n x).fdiv c24 * c24))))
include h0 K s hx h14 h15
theorem st167 (μ : Cells) : ∃ ds' : List (Option D), Ky ds' t l xs x ∧ exec (T 99) W s_1_6_7 (pl ds) μ = some (.nx (pl ds') μ) := by
  have v := v_of (F := T 99) (μ := μ) h15
  have p20 := p_of (F := T 99) (ρ := pl ds) (μ := μ) pow1020
  have p24 := p_of (F := T 99) (ρ := pl ds) (μ := μ) pow1024
  have sb := op_of p24 p20 (op_sub c24 100000000000000000000)
  have ch : ev (T 99) (.chn .Lt .Lt (.op .Pow (.int 10) (.int 20)) (.var 15) (.op .Sub (.op .Pow (.int 10) (.int 24)) (.op .Pow (.int 10) (.int 20)))) (pl ds) μ = some (.bl (decide (100000000000000000000 < worN (rt l) n x - (worN (rt l) n x).fdiv c24 * c24) && decide (worN (rt l) n x - (worN (rt l) n x).fdiv c24 * c24 < c24 - 100000000000000000000)), μ) := by
    unfold ev
    rw [p20, andThen_some', v, andThen_some']
    have c1 : cmpD .Lt (.int 100000000000000000000) (.int (worN (rt l) n x - (worN (rt l) n x).fdiv c24 * c24)) = some (decide (100000000000000000000 < worN (rt l) n x - (worN (rt l) n x).fdiv c24 * c24)) := rfl
    have c2 : cmpD .Lt (.int (worN (rt l) n x - (worN (rt l) n x).fdiv c24 * c24)) (.int (c24 - 100000000000000000000)) = some (decide (worN (rt l) n x - (worN (rt l) n x).fdiv c24 * c24 < c24 - 100000000000000000000)) := rfl
    rw [c1]
    cases decide (100000000000000000000 < worN (rt l) n x - (worN (rt l) n x).fdiv c24 * c24) with
    | false => rfl
    | true =>
      simp only
      rw [sb, andThen_some', c2]
      simp [wthD_some']
  by_cases z : 100000000000000000000 < worN (rt l) n x - (worN (rt l) n x).fdiv c24 * c24 ∧ worN (rt l) n x - (worN (rt l) n x).fdiv c24 * c24 < c24 - 100000000000000000000
  · rw [decide_eq_true z.1, decide_eq_true z.2] at ch
    have hc : Clear (worN (rt l) n x) := by
      obtain ⟨z1, z2⟩ := z
      have e : c24 = 1000000000000000000000000 := rfl
      unfold Clear
      rw [e] at z1 z2
      constructor <;> omega
    obtain ⟨ds', K', e⟩ := st_in h0 K s hx h14 hc μ
    exact ⟨ds', K', ifs_t ch e⟩
  · have f : (decide (100000000000000000000 < worN (rt l) n x - (worN (rt l) n x).fdiv c24 * c24) && decide (worN (rt l) n x - (worN (rt l) n x).fdiv c24 * c24 < c24 - 100000000000000000000)) = false := by
      rw [← Bool.decide_and]
      exact decide_eq_false z
    rw [f] at ch
    exact ⟨ds, K, ifs_f ch rfl⟩
end
end K02

set_option Elab.async false
set_option linter.all false
set_option maxRecDepth 100000
set_option maxHeartbeats 4000000
/-! the law: the loop over the numbers, worths, orders -/
namespace K02
open FM
open OF (sgn sgn_eq0 Hom rat rat_mul)
open L2 (atI)
open PySem (Str sizeLine)
structure Kx (ds : List (Option D)) {n : Nat} (t : Tw n) (l : List Int) (xs : List (Nm n)) : Prop where
  K : Kt ds t l
  h5 : ds[5]? = some (some (.lst (xs.map (nD n))))
theorem Kx.set {ds : List (Option D)} {n : Nat} {t : Tw n} {l : List Int} {xs : List (Nm n)} (K : Kx ds t l xs) {i : Nat} (o : Option D) (n1 : i ≠ 1) (n3 : i ≠ 3) (n5 : i ≠ 5) (n10 : i ≠ 10) (n11 : i ≠ 11) : Kx (ds.set i o) t l xs :=
  ⟨K.K.set o n1 n3 n10 n11, by rw [List.getElem?_set_ne n5]; exact K.h5⟩
theorem Ky.x {ds : List (Option D)} {n : Nat} {t : Tw n} {l : List Int} {xs : List (Nm n)} {x : Nm n} (K : Ky ds t l xs x) : Kx ds t l xs := ⟨K.K, K.h5⟩
theorem one_ok {ds : List (Option D)} {n : Nat} {t : Tw n} {l : List Int} {xs : List (Nm n)} {x : Nm n} (h0 : 0 < n) (K : Ky ds t l xs x) (s : St n t l) (hx : AllL Lf n x) (μ : Cells) : ∃ ds' : List (Option D), Kx ds' t l xs ∧ execs (T 99) W s_1_6b (pl ds) μ = some (.nx (pl ds') μ) := by
  obtain ⟨n, rfl⟩ : ∃ k, n = k + 1 := ⟨n - 1, by omega⟩
  have e0 := st160 K s hx μ
  have e1 := st161 K s hx μ
  have K1 := K.set (i := 12) (some (.bl ((ptsN (n + 1) x).tail.all fun q => decide (q = (0, 1))))) (by decide) (by decide) (by decide) (by decide) (by decide) (by decide)
  have e2 := st162 K1 s hx (set_get K.K.len (by decide)) μ
  generalize ds.set 12 (some (.bl ((ptsN (n + 1) x).tail.all fun q => decide (q = (0, 1))))) = ds1 at *
  have e3 := st163 K1 s hx μ
  have K2 := K1.set (i := 13) (some (tD (.snoc t (numN (7, 1) (n + 1))))) (by decide) (by decide) (by decide) (by decide) (by decide) (by decide)
  have e4 := st164 K2 s hx (set_get K1.K.len (by decide)) μ
  generalize ds1.set 13 (some (tD (.snoc t (numN (7, 1) (n + 1))))) = ds2 at *
  have e5 := st165 K2 s hx μ
  have K3 := K2.set (i := 14) (some (.int (worN (rt l) (n + 1) x))) (by decide) (by decide) (by decide) (by decide) (by decide) (by decide)
  have g14 := set_get (ds := ds2) (o := some (.int (worN (rt l) (n + 1) x))) (i := 14) K2.K.len (by decide)
  generalize ds2.set 14 (some (.int (worN (rt l) (n + 1) x))) = ds3 at *
  have e6 := st166 K3 s hx g14 μ
  have K4 := K3.set (i := 15) (some (.int (worN (rt l) (n + 1) x - (worN (rt l) (n + 1) x).fdiv c24 * c24))) (by decide) (by decide) (by decide) (by decide) (by decide) (by decide)
  obtain ⟨ds', K', e7⟩ := st167 h0 K4 s hx (by rw [List.getElem?_set_ne (by decide)]; exact g14) (set_get K3.K.len (by decide)) μ
  exact ⟨ds', K'.x, seq_nx e0 (seq_nx e1 (seq_nx e2 (seq_nx e3 (seq_nx e4 (seq_nx e5 (seq_nx e6 (seq_nx e7 rfl)))))))⟩
section
variable {ds : List (Option D)} {n : Nat} {t : Tw n} {l : List Int} {xs : List (Nm n)} (h0 : 0 < n) (K : Kx ds t l xs) (s : St n t l) (hx : ∀ x ∈ xs, AllL Lf n x) (h4 : xs.length = 4)
include h0 K s hx h4
theorem st16 (μ : Cells) : ∃ ds' : List (Option D), Kx ds' t l xs ∧ exec (T 99) W s_1_6 (pl ds) μ = some (.nx (pl ds') μ) := by
  obtain ⟨ρ', μ', e1, _, ds', K', rfl, rfl⟩ := forF_inv (fun ys ρ μ1 => (∀ y ∈ ys, ∃ x, AllL Lf n x ∧ y = nD n x) ∧ ∃ ds : List (Option D), Kx ds t l xs ∧ ρ = pl ds ∧ μ1 = μ) (tg := .nm 6) (b := fun ρ' μ' => execs (T 99) W s_1_6b ρ' μ') (fun y ys ρ μ1 hh => by
    obtain ⟨hy, ds1, K1, rfl, rfl⟩ := hh
    obtain ⟨x, hx1, rfl⟩ := hy y (List.mem_cons_self ..)
    have K2 := K1.set (i := 6) (some (nD n x)) (by decide) (by decide) (by decide) (by decide) (by decide)
    obtain ⟨ds2, K3, e⟩ := one_ok h0 (⟨K2.K, K2.h5, set_get K1.K.len (by decide)⟩ : Ky _ t l xs x) s hx1 μ1
    refine ⟨pl (ds1.set 6 (some (nD n x))), pl ds2, μ1, ?_, e, fun z hz => hy z (List.mem_cons_of_mem _ hz), ds2, K3, rfl, rfl⟩
    unfold bindT
    simp only [pl_set]) (xs.map (nD n)) (pl ds) μ ⟨fun y hy => by
      obtain ⟨x, h1, rfl⟩ := List.mem_map.mp hy
      exact ⟨x, hx x h1, rfl⟩, ds, K, rfl, rfl⟩
  refine ⟨ds', K', for_of ?_ (itlk_pl _ _) e1⟩
  unfold evi
  rw [v_of K.h5]
  rfl
theorem st17 (μ : Cells) : exec (T 99) W s_1_7 (pl ds) μ = some (.nx (pl (ds.set 7 (some (.lst ((xs.map (worN (rt l) n)).map D.int))))) μ) := by
  have n3 := s.ok.n3
  have it : evi (T 99) (.seq (.var 5)) (pl ds) μ = some (xs.map (nD n), μ) := by
    unfold evi
    rw [v_of K.h5]
    rfl
  rw [List.map_map]
  refine asg_pl (ev_lc it (by rw [List.length_map]; omega) (lc_mapG (nD n) (D.int ∘ worN (rt l) n) xs fun x h => ?_))
  have K6 := K.set (i := 6) (some (nD n x)) (by decide) (by decide) (by decide) (by decide) (by decide)
  have w := lworth_c (l := l) n (by omega) (by have := s.len; omega) s.sm 97 (by omega) (hx x h) μ
  exact call_of (evs_cons (v_of (set_get K.K.len (by decide))) (evs_cons (v_of K6.K.h11) evs_nil)) w
end
/-! ### sorted worths -/
theorem asInts_map : ∀ l : List Int, asInts (l.map D.int) = some l
  | [] => rfl
  | a :: l => by
    show (asInts (l.map D.int)).map (a :: ·) = _
    rw [asInts_map l]
    rfl
theorem sort_ints (l : List Int) (μ : Cells) : biD μ .sorted [.lst (l.map D.int)] = some (.lst ((srtI l).map D.int)) := by
  show sortD (l.map D.int) = _
  unfold sortD
  rw [asInts_map]
theorem insI_len (i : Int) : ∀ l, (insI i l).length = l.length + 1
  | [] => rfl
  | x :: xs => by
    unfold insI
    split
    · rfl
    · rw [List.length_cons, insI_len i xs, List.length_cons]
theorem srtI_len (l : List Int) : (srtI l).length = l.length := by
  induction l with
  | nil => rfl
  | cons a l ih =>
    show (insI a (srtI l)).length = _
    rw [insI_len, ih]
    rfl
theorem gaps {w0 w1 w2 w3 : Int} (G : Int) (h0 : 0 < G) {a b c d : Int} (h : srtI [w0, w1, w2, w3] = [a, b, c, d]) (g1 : G ≤ ((b - a).natAbs : Int)) (g2 : G ≤ ((c - b).natAbs : Int)) (g3 : G ≤ ((d - c).natAbs : Int)) :
    (G ≤ ((w0 - w1).natAbs : Int) ∧ G ≤ ((w0 - w2).natAbs : Int) ∧ G ≤ ((w0 - w3).natAbs : Int)) ∧ G ≤ ((w1 - w2).natAbs : Int) ∧ G ≤ ((w1 - w3).natAbs : Int) ∧ G ≤ ((w2 - w3).natAbs : Int) := by
  by_cases h01 : w0 ≤ w1 <;> by_cases h02 : w0 ≤ w2 <;> by_cases h03 : w0 ≤ w3 <;> by_cases h12 : w1 ≤ w2 <;> by_cases h13 : w1 ≤ w3 <;> by_cases h23 : w2 ≤ w3 <;>
  first
    | (exfalso; omega)
    | (simp [srtI, insI, *] at h
       obtain ⟨q1, q2, q3, q4⟩ := h
       subst q1 q2 q3 q4
       omega)
theorem nil_int (l : List Nat) : cmpD .Eq (.lst (l.map fun (k : Nat) => D.int k)) (.lst []) = some (decide (l = [])) := by
  have sh : ∀ l : List Nat, ShL 1 (l.map fun (k : Nat) => D.int k) := by
    intro l
    induction l with
    | nil => exact .nil _
    | cons a l ih => exact .cons (Sh.int 1 a) ih
  have s1 := (sh_lst (sh l)).ok (by decide)
  have s2 : shOk (.lst []) = true := (sh_lst (ShL.nil 0)).ok (by decide)
  have s0 : scalOk (.lst (l.map fun (k : Nat) => D.int k)) (.lst []) = false := rfl
  show eqD _ _ = _
  unfold eqD
  rw [s0, if_neg (by decide), s1, s2, Bool.and_self, if_pos rfl]
  cases l with
  | nil => rfl
  | cons x xs => rfl
theorem asPairs_map : ∀ l : List (Int × Int), asPairs (l.map pD) = some l
  | [] => rfl
  | a :: l => by
    show (asPairs (l.map pD)).map ((a.1, a.2) :: ·) = _
    rw [asPairs_map l]
    rfl
theorem sort_pairs (a : Int × Int) (l : List (Int × Int)) (μ : Cells) : biD μ .sorted [.lst ((a :: l).map pD)] = some (.lst ((srtP (a :: l)).map pD)) := by
  show sortD ((a :: l).map pD) = _
  unfold sortD
  rw [show asInts ((a :: l).map pD) = none from rfl]
  simp only
  rw [asPairs_map]
  rfl
theorem lc_tp {F : Fs} {ds : List (Option D)} {μ : Cells} (hl : ds.length = 25) : ∀ ps : List (Int × Int), lcGo (.tp [14, 19]) (fun ρ' μ' => evc F .none ρ' μ') (fun ρ' μ' => if lk ρ' (.var 19) then none else ev F (.var 19) ρ' μ') (pl ds) (ps.map pD) μ = some (ps.map fun p => D.int p.2, μ)
  | [] => rfl
  | p :: ps => by
    have ih := lc_tp (F := F) (μ := μ) hl ps
    have b : bindT (.tp [14, 19]) (pD p) (pl ds) = some (pl ((ds.set 14 (some (.int p.1))).set 19 (some (.int p.2)))) := by
      show some (((pl ds).set 14 (some (.pl (.int p.1)))).set 19 (some (.pl (.int p.2)))) = _
      rw [pl_set, pl_set]
    have c : ev F (.var 19) (pl ((ds.set 14 (some (.int p.1))).set 19 (some (.int p.2)))) μ = some (.int p.2, μ) := v_of (set_get (by rw [List.length_set]; exact hl) (by decide))
    rw [List.map_cons, List.map_cons]
    unfold lcGo
    rw [b]
    have e : ∀ ρ' μ', evc F .none ρ' μ' = some (true, μ') := fun _ _ => rfl
    simp only [e, lk_pl, Bool.false_eq_true, if_false, c] at ih ⊢
    rw [ih]
end K02

set_option Elab.async false
set_option linter.all false
set_option maxRecDepth 100000
set_option maxHeartbeats 4000000
/-! the law: orders of the numbers -/
namespace K02
open FM
open OF (sgn sgn_eq0 Hom rat rat_mul)
open L2 (atI)
open PySem (Str sizeLine)
abbrev G20 : Int := 100000000000000000000
/-- values and worths stand alike -/
theorem val_order {n : Nat} {t : Tw n} {rs : Nat → Int} (o : Ok t rs) {x y : Nm n} (hx : AllL Lf n x) (hy : AllL Lf n y) (g : G20 ≤ ((worN rs n x - worN rs n y).natAbs : Int)) : decide (signN t (subN n x y) ≤ 0) = decide (worN rs n x < worN rs n y) := by
  obtain ⟨L, i1, i2, i3, i4, i5, i6, j, ρ, hj, hvv⟩ := o.md
  have r := o.ok L j ρ hj hvv
  have w1 := wor_ab hj n o.n3 hx r
  have w2 := wor_ab hj n o.n3 hy r
  have e := EE_le o.n3
  have bd : ∀ {z : Nm n}, AllL Lf n z → AllL (Bd 6 1 3) n z := fun h => AllL.imp (fun _ g => Lf.bd g) _ h
  have pd : ∀ {e m : Nat} {z : Nm n}, AllL (Bd 6 e m) n z → AllL Pd n z := fun h => AllL.imp (fun _ g => g.pd) _ h
  have sp := tS_pos hj
  have eg : G20 = 100000000000000000000 := rfl
  rw [decide_eq_decide, sign_val hj t hvv o.pd (pd (subN_bd (by decide) (bd hx) (bd hy))), val_sub hj n (pd (bd hx)) (pd (bd hy)), sgn_le0]
  obtain ⟨a1, a2⟩ := w1
  obtain ⟨b1, b2⟩ := w2
  constructor
  · intro z
    have m := mnn (a := ji j tS) (b := val j ρ n y - val j ρ n x) (by grind) (by grind)
    rcases Int.lt_or_le (worN rs n x) (worN rs n y) with q | q
    · exact q
    · exfalso
      have k := ji_lt hj (show worN rs n y + EE n + EE n < worN rs n x by omega)
      rw [ji_add hj, ji_add hj] at k
      grind
  · intro z
    have k := ji_lt hj (show worN rs n x + EE n + EE n < worN rs n y by omega)
    rw [ji_add hj, ji_add hj] at k
    by_cases q : val j ρ n x - val j ρ n y ≤ 0
    · exact q
    · exfalso
      have m := mnn (a := ji j tS) (b := val j ρ n x - val j ρ n y) (by grind) (by grind)
      grind
theorem four {α : Type} {l : List α} (h : l.length = 4) : ∃ a b c d, l = [a, b, c, d] := by
  match l, h with
  | [a, b, c, d], _ => exact ⟨a, b, c, d, rfl⟩
section
variable {ds : List (Option D)} {n : Nat} {t : Tw n} {l : List Int} {xs : List (Nm n)} (h0 : 0 < n) (K : Kx ds t l xs) (s : St n t l) (hx : ∀ x ∈ xs, AllL Lf n x) (h4 : xs.length = 4) (h7 : ds[7]? = some (some (.lst ((xs.map (worN (rt l) n)).map D.int))))
include h0 K s hx h4 h7
theorem st18 (μ : Cells) : exec (T 99) W s_1_8 (pl ds) μ = some (.nx (pl ds) μ) := by
  have n3 := s.ok.n3
  obtain ⟨x0, x1, x2, x3, rfl⟩ := four h4
  have H0 := hx x0 (by simp)
  have H1 := hx x1 (by simp)
  have H2 := hx x2 (by simp)
  have H3 := hx x3 (by simp)
  generalize hw0 : worN (rt l) n x0 = w0 at *
  have ws : [x0, x1, x2, x3].map (worN (rt l) n) = [w0, worN (rt l) n x1, worN (rt l) n x2, worN (rt l) n x3] := by rw [← hw0]; rfl
  generalize hw1 : worN (rt l) n x1 = w1 at *
  generalize hw2 : worN (rt l) n x2 = w2 at *
  generalize hw3 : worN (rt l) n x3 = w3 at *
  rw [ws] at h7
  obtain ⟨a, b, c, d, hs⟩ := four (l := srtI [w0, w1, w2, w3]) (by rw [srtI_len]; rfl)
  have so := sort_ints [w0, w1, w2, w3] μ
  rw [hs] at so
  let sr : Nat → Int := fun k => [a, b, c, d].getD k 0
  let p : Nat → Bool := fun k => decide (((sr (k + 1) - sr k).natAbs : Int) < G20)
  have lc : ev (T 99) (.lc (.var 19) (.nm 19) (.rng1 (.int 3)) (.some (.cmp .Lt (.bi .abs (.cons (.op .Sub (.ix (.bi .sorted (.cons (.var 7) .nil)) (.op .Add (.var 19) (.int 1))) (.ix (.bi .sorted (.cons (.var 7) .nil)) (.var 19))) .nil)) (.op .Pow (.int 10) (.int 20))))) (pl ds) μ = some (.lst (((List.range 3).filter p).map fun (k : Nat) => D.int k), μ) := by
    refine ev_lcf 3 p (by decide) (by rw [K.K.len]; decide) rfl fun k hk => ?_
    have v7 : (ds.set 19 (some (.int k)))[7]? = some (some (.lst ([w0, w1, w2, w3].map D.int))) := by
      rw [List.getElem?_set_ne (by decide)]
      exact h7
    have v19 : (ds.set 19 (some (.int (k : Int))))[19]? = some (some (.int (k : Int))) := set_get K.K.len (by decide)
    have srt := bi1_of (F := T 99) (b := .sorted) (v_of (μ := μ) v7) so
    have ix : ∀ k : Nat, k < 4 → atI ([a, b, c, d].map D.int) (k : Int) = some (.int (sr k)) := fun k hk => by
      have : k = 0 ∨ k = 1 ∨ k = 2 ∨ k = 3 := by omega
      rcases this with rfl | rfl | rfl | rfl <;> rfl
    have e1 := ev_ix (F := T 99) (b := .op .Add (.var 19) (.int 1)) (y := .int ((k : Int) + 1)) (d := .int (sr (k + 1))) srt (op_of (v_of v19) rfl (op_add _ _)) (by
      rw [ix_lst]
      exact ix (k + 1) (by omega))
    have e2 := ev_ix (F := T 99) (b := .var 19) (y := .int (k : Int)) (d := .int (sr k)) srt (v_of v19) (by
      rw [ix_lst]
      exact ix k (by omega))
    exact cmp_of (bi1_of (op_of e1 e2 (op_sub _ _)) (biD_abs _ _)) (p_of pow1020) rfl
  have c1 : ev (T 99) (.cmp .Eq (.lc (.var 19) (.nm 19) (.rng1 (.int 3)) (.some (.cmp .Lt (.bi .abs (.cons (.op .Sub (.ix (.bi .sorted (.cons (.var 7) .nil)) (.op .Add (.var 19) (.int 1))) (.ix (.bi .sorted (.cons (.var 7) .nil)) (.var 19))) .nil)) (.op .Pow (.int 10) (.int 20))))) (.lst .nil)) (pl ds) μ = some (.bl (decide ((List.range 3).filter p = [])), μ) := cmp_of lc (show ev (T 99) (.lst .nil) (pl ds) μ = some (.lst [], μ) from rfl) (nil_int _)
  by_cases z : (List.range 3).filter p = []
  · rw [decide_eq_true z] at c1
    have z' := List.filter_eq_nil_iff.mp z
    have p0 : ¬ (((b - a).natAbs : Int) < G20) := fun h => z' 0 (by simp) (decide_eq_true h)
    have p1 : ¬ (((c - b).natAbs : Int) < G20) := fun h => z' 1 (by simp) (decide_eq_true h)
    have p2 : ¬ (((d - c).natAbs : Int) < G20) := fun h => z' 2 (by simp) (decide_eq_true h)
    obtain ⟨⟨g01, g02, g03⟩, g12, g13, g23⟩ := gaps G20 (by decide) hs (by omega) (by omega) (by omega)
    have eg : G20 = 100000000000000000000 := rfl
    let cc' : Nat → Nat → Bool := fun j k => decide ([w0, w1, w2, w3].getD j 0 < [w0, w1, w2, w3].getD k 0)
    have bd : ∀ {z : Nm n}, AllL Lf n z → AllL (Bd 6 1 3) n z := fun h => AllL.imp (fun _ g => Lf.bd g) _ h
    have cm : ∀ {x y : Nm n} (μ : Cells), AllL Lf n x → AllL Lf n y → T 98 24 [nD n x, nD n y, tD t] μ = some (.int (signN t (subN n x y)), μ) := fun μ h g => cmp_c tf (D := 6) (er := 1) (mr := 3) (by decide) (by decide) (by omega) t s.ok.bd (m := 92) (by omega) (e1 := 1) (m1 := 3) (bd h) (bd g) (by decide) ((sl33 n3).mono (by decide) (by decide)) μ
    have vo : ∀ {x y : Nm n}, AllL Lf n x → AllL Lf n y → G20 ≤ ((worN (rt l) n x - worN (rt l) n y).natAbs : Int) → decide (signN t (subN n x y) ≤ 0) = decide (worN (rt l) n x < worN (rt l) n y) := fun h g k => val_order s.ok h g k
    have od := order_c (m := 98) (ds := [nD n x0, nD n x1, nD n x2, nD n x3]) (Y := tD t) (c := cc') (by simp) (fun μ j k h1 h2 => by
      have h2' : k < 4 := h2
      have : (j = 0 ∧ k = 1) ∨ (j = 0 ∧ k = 2) ∨ (j = 0 ∧ k = 3) ∨ (j = 1 ∧ k = 2) ∨ (j = 1 ∧ k = 3) ∨ (j = 2 ∧ k = 3) := by omega
      rcases this with ⟨rfl, rfl⟩ | ⟨rfl, rfl⟩ | ⟨rfl, rfl⟩ | ⟨rfl, rfl⟩ | ⟨rfl, rfl⟩ | ⟨rfl, rfl⟩
      · exact ⟨_, cm μ H0 H1, (vo H0 H1 (by rw [hw0, hw1]; exact g01)).trans (by rw [hw0, hw1]; rfl)⟩
      · exact ⟨_, cm μ H0 H2, (vo H0 H2 (by rw [hw0, hw2]; exact g02)).trans (by rw [hw0, hw2]; rfl)⟩
      · exact ⟨_, cm μ H0 H3, (vo H0 H3 (by rw [hw0, hw3]; exact g03)).trans (by rw [hw0, hw3]; rfl)⟩
      · exact ⟨_, cm μ H1 H2, (vo H1 H2 (by rw [hw1, hw2]; exact g12)).trans (by rw [hw1, hw2]; rfl)⟩
      · exact ⟨_, cm μ H1 H3, (vo H1 H3 (by rw [hw1, hw3]; exact g13)).trans (by rw [hw1, hw3]; rfl)⟩
      · exact ⟨_, cm μ H2 H3, (vo H2 H3 (by rw [hw2, hw3]; exact g23)).trans (by rw [hw2, hw3]; rfl)⟩) μ
    have oe := ord_eq (w0 := w0) (w1 := w1) (w2 := w2) (w3 := w3) (by omega) (by omega) (by omega) (by omega) (by omega) (by omega) (c := cc') rfl rfl rfl rfl rfl rfl
    have od' : T 99 37 [.lst ([x0, x1, x2, x3].map (nD n)), tD t] μ = some (.tup ((srtP [(w0, 0), (w1, 1), (w2, 2), (w3, 3)]).map fun p => D.int p.2), μ) := by
      rw [← oe]
      exact od
    have lhs := bi1_of (F := T 99) (b := .tuple) (z := .tup ((srtP [(w0, 0), (w1, 1), (w2, 2), (w3, 3)]).map fun p => D.int p.2)) (call_of (f := 37) (evs_cons (v_of (μ := μ) K.h5) (evs_cons (v_of K.K.h10) evs_nil)) od') rfl
    have inn : ev (T 99) (.lc (.tup (.cons (.ix (.var 7) (.var 19)) (.cons (.var 19) .nil))) (.nm 19) (.rng1 (.int 4)) .none) (pl ds) μ = some (.lst ([(w0, 0), (w1, 1), (w2, 2), (w3, 3)].map pD), μ) := by
      have go := lc_mapG (F := T 99) (i := 19) (elt := .tup (.cons (.ix (.var 7) (.var 19)) (.cons (.var 19) .nil))) (ds := ds) (μ := μ) (fun (k : Nat) => D.int (0 + k)) (fun k => pD ([w0, w1, w2, w3].getD k 0, (k : Int))) (List.range 4) fun k hk => by
        have hk' := List.mem_range.mp hk
        have v7 : (ds.set 19 (some (.int k)))[7]? = some (some (.lst ([w0, w1, w2, w3].map D.int))) := by
          rw [List.getElem?_set_ne (by decide)]
          exact h7
        have v19 : (ds.set 19 (some (.int (k : Int))))[19]? = some (some (.int (k : Int))) := set_get K.K.len (by decide)
        rw [Int.zero_add]
        refine tup_of (xs := [.int ([w0, w1, w2, w3].getD k 0), .int k]) (evs_cons (ev_ix (x := .lst ([w0, w1, w2, w3].map D.int)) (y := .int (k : Int)) (v_of v7) (v_of v19) ?_) (evs_cons (v_of v19) evs_nil)) (by simp)
        rw [ix_lst]
        have : k = 0 ∨ k = 1 ∨ k = 2 ∨ k = 3 := by omega
        rcases this with rfl | rfl | rfl | rfl <;> rfl
      exact ev_lc (xs := rngD 0 4) (evi_rng (n := 4) rfl (by decide)) (by decide) go
    have so2 := sort_pairs (w0, 0) [(w1, 1), (w2, 2), (w3, 3)] μ
    have it : evi (T 99) (.seq (.bi .sorted (.cons (.lc (.tup (.cons (.ix (.var 7) (.var 19)) (.cons (.var 19) .nil))) (.nm 19) (.rng1 (.int 4)) .none) .nil))) (pl ds) μ = some ((srtP [(w0, 0), (w1, 1), (w2, 2), (w3, 3)]).map pD, μ) := by
      unfold evi
      rw [bi1_of inn so2, andThen_some']
    have len4 : ((srtP [(w0, 0), (w1, 1), (w2, 2), (w3, 3)]).map pD).length ≤ 16777216 := by
      have := congrArg List.length oe
      rw [List.length_map, List.length_map, ordL_len] at this
      rw [List.length_map, ← this]
      decide
    have rhs := bi1_of (F := T 99) (b := .tuple) (z := .tup ((srtP [(w0, 0), (w1, 1), (w2, 2), (w3, 3)]).map fun p => D.int p.2)) (ev_lc it len4 (lc_tp K.K.len _)) rfl
    have dp : dep 50 (.tup ((srtP [(w0, 0), (w1, 1), (w2, 2), (w3, 3)]).map fun p => D.int p.2)) = true := by
      rw [dep_tup, ← oe, decide_eq_true (by rw [List.length_map, ordL_len]; decide), Bool.true_and, List.all_eq_true]
      intro d hd
      obtain ⟨k, _, rfl⟩ := List.mem_map.mp hd
      exact dep_int _ _
    exact ifs_f (and_tt c1 (same_of lhs rhs dp)) rfl
  · rw [decide_eq_false z] at c1
    exact ifs_f (and_ff c1) rfl
end
end K02

set_option Elab.async false
set_option linter.all false
set_option maxRecDepth 100000
set_option maxHeartbeats 4000000
/-! the law: texts of points and times, roots, heights -/
namespace K02
open FM
open OF (sgn sgn_eq0 Hom rat rat_mul)
open L2 (atI)
open PySem (Str sizeLine)
theorem kx_it {ds : List (Option D)} {n : Nat} {t : Tw n} {l : List Int} {xs : List (Nm n)} (K : Kx ds t l xs) (μ : Cells) : evi (T 99) (.seq (.var 5)) (pl ds) μ = some (xs.map (nD n), μ) := by
  unfold evi
  rw [v_of K.h5]
  rfl
theorem fracN_num (q : Int × Int) : ∀ n, fracN n (numN q n) = some q
  | 0 => rfl
  | n + 1 => by
    show (if isN n (zeroN n) then fracN n (numN q n) else none) = _
    rw [isN_zero, if_pos rfl, fracN_num q n]
/-- a root of a square -/
theorem wroot_sq {n : Nat} (hn : n ≤ 3) (t : Tw n) {q r : Int × Int} (μ : Cells) (he : T 98 10 [fD q] μ = some (fD r, μ)) : T 99 25 [nD n (numN q n), tD t] μ = some (.tup [tD t, nD n (numN r n)], μ) := by
  have f1 : T 98 26 [nD n (numN q n), tD t] μ = some (frR (fracN n (numN q n)), μ) := fracof_c tf2 (by omega) t (m := 91) (by omega) (numN q n) μ
  rw [fracN_num] at f1
  have nm : T 98 16 [fD r, tD t] μ = some (nD n (numN r n), μ) := by
    rw [← liftQ]
    exact number_c tf2 (by omega) (m := 92) (by omega) _ (twL t) (twL_len t) μ
  have s0 : exec (T 98) W (.asg 2 (.call 26 (.cons (.var 0) (.cons (.var 1) .nil)))) (pl [some (nD n (numN q n)), some (tD t), none, none, none]) μ = some (.nx (pl [some (nD n (numN q n)), some (tD t), some (fD q), none, none]) μ) := (asg_pl (call_of (evs_cons rfl (evs_cons rfl evs_nil)) f1)).trans rfl
  have c1 : ev (T 98) (.call 10 (.cons (.var 2) .nil)) (pl [some (nD n (numN q n)), some (tD t), some (fD q), none, none]) μ = some (fD r, μ) := call_of (evs_cons rfl evs_nil) he
  refine (call_at (d := d_with_root) rfl _ _).trans (run_pl rfl (Nat.le_of_ble_eq_true rfl) ?_)
  refine seq_nx s0 (seq_rt (ifs_t (μ1 := μ) (and_tt (isnot_of (x := fD q) (μ1 := μ) rfl) (isnot_of c1)) (seq_rt (ret_of (lk_pl _ _) ?_))))
  exact tup_of (evs_cons rfl (evs_cons (call_of (evs_cons c1 (evs_cons rfl evs_nil)) nm) evs_nil)) (by simp)
theorem sq_ok {r : Int} (h0 : 0 ≤ r) (h1 : r < 4) (μ : Cells) : T 98 10 [fD (mulF (fr (1 + r) 3) (fr (1 + r) 3))] μ = some (fD (fr (1 + r) 3), μ) := by
  have : r = 0 ∨ r = 1 ∨ r = 2 ∨ r = 3 := by omega
  rcases this with rfl | rfl | rfl | rfl
  · kernel_rfl
  · kernel_rfl
  · kernel_rfl
  · kernel_rfl
theorem slL_take (l : List D) (k : Nat) (h : k ≤ l.length) : slD (.lst l) none (some (k : Int)) = some (.lst (l.take k)) := by
  show some (D.lst (cutD l none (some (k : Int)))) = _
  rw [cut_take l k h]
section
variable {ds : List (Option D)} {n : Nat} {t : Tw n} {l : List Int} {xs : List (Nm n)} (h0 : 0 < n) (K : Kx ds t l xs) (s : St n t l) (hx : ∀ x ∈ xs, AllL Lf n x) (h4 : xs.length = 4)
include h0 K s hx h4
theorem st19 (μ : Cells) : exec (T 99) W s_1_9 (pl ds) μ = some (.nx (pl ds) μ) := by
  have n3 := s.ok.n3
  have sl : ev (T 99) (.sl (.var 5) .none (.some (.int 3))) (pl ds) μ = some (.lst ((xs.take 3).map (nD n)), μ) := by
    have t1 : evo (T 99) .none (pl ds) μ = some (none, μ) := rfl
    have t2 : evo (T 99) (.some (.int 3)) (pl ds) μ = some (some 3, μ) := rfl
    unfold ev
    rw [v_of K.h5, andThen_some', t1, andThen_some', t2, andThen_some']
    have e := slL_take (xs.map (nD n)) 3 (by rw [List.length_map]; omega)
    rw [show (3 : Int) = ((3 : Nat) : Int) from rfl, e, List.map_take]
    rfl
  have hx3 : ∀ x ∈ xs.take 3, AllL Lf n x := fun x h => hx x (List.mem_of_mem_take h)
  have pc := point_c (k := 12) (by decide) (by decide) (n := n) (by omega) t (m := 91) (by omega) (xs.take 3) (by rw [List.length_take]; omega) (fun x h => all_smf (hx3 x h)) μ
  have lhs := call_of (f := 40) (evs_cons (bi1_of (b := .tuple) sl (z := .tup ((xs.take 3).map (nD n))) rfl) (evs_cons (v_of K.K.h10) evs_nil)) pc
  have it : evi (T 99) (.seq (.sl (.var 5) .none (.some (.int 3)))) (pl ds) μ = some ((xs.take 3).map (nD n), μ) := by
    unfold evi
    rw [sl, andThen_some']
  have lc : ev (T 99) (.lc (.call 51 (.cons (.var 6) (.cons (.var 3) .nil))) (.nm 6) (.seq (.sl (.var 5) .none (.some (.int 3)))) .none) (pl ds) μ = some (.lst (strsD ((xs.take 3).map (txN n))), μ) := by
    have e : strsD ((xs.take 3).map (txN n)) = (xs.take 3).map (fun x => D.str (S' (txN n x))) := by
      unfold strsD
      rw [List.map_map]
      rfl
    rw [e]
    refine ev_lc it (by rw [List.length_map, List.length_take]; omega) (lc_mapG (nD n) (fun x => D.str (S' (txN n x))) (xs.take 3) fun x h => ?_)
    have K6 := K.set (i := 6) (some (nD n x)) (by decide) (by decide) (by decide) (by decide) (by decide)
    have c5 := ltext_c (k := 12) (by decide) (by decide) n (by omega) 98 (by omega) (all_smf (hx3 x h)) (all_red (hx3 x h)) μ
    exact call_of (evs_cons (v_of (set_get K.K.len (by decide))) (evs_cons (v_of K6.K.h3) evs_nil)) c5
  have j := join_me (a := ", ") (l := (xs.take 3).map (txN n)) (μ := μ) (by decide +kernel) (by rw [List.length_map, List.length_take]; omega) (fun s hs => by
    obtain ⟨x, h, rfl⟩ := List.mem_map.mp hs
    have c1 := txN_len (k := 12) (by decide) n (by omega) (all_smf (hx3 x h))
    have b := tlen_le (k := 12) (by decide) n (by omega)
    omega)
  have rhs := me1_of (F := T 99) (m := .join) (o := .str ", ") (x := .str ", ") (μ1 := μ) (ρ := pl ds) rfl lc j
  have cc1 : T 99 41 [.tup [fD (1, 2), fD (0, 1), fD (1, 1)]] μ = some (.str "1/2 0 1", μ) := (call_le (tabOf defs) W 98 41 _ μ).some (colour_c μ)
  have ct : ev (T 99) (.tup (.cons (.tup (.cons (.int 1) (.cons (.int 2) .nil))) (.cons (.tup (.cons (.int 0) (.cons (.int 1) .nil))) (.cons (.tup (.cons (.int 1) (.cons (.int 1) .nil))) .nil)))) (pl ds) μ = some (.tup [fD (1, 2), fD (0, 1), fD (1, 1)], μ) :=
    tup_of (evs_cons (tup_of (evs_cons rfl (evs_cons rfl evs_nil)) (by decide)) (evs_cons (tup_of (evs_cons rfl (evs_cons rfl evs_nil)) (by decide)) (evs_cons (tup_of (evs_cons rfl (evs_cons rfl evs_nil)) (by decide)) evs_nil))) (by simp)
  exact ifs_f (or_ff (same_of lhs rhs (dep_str _ _)) (same_of (call_of (evs_cons ct evs_nil) cc1) (show ev (T 99) (.str "1/2 0 1") (pl ds) μ = some (.str "1/2 0 1", μ) from rfl) (dep_str _ _))) rfl
theorem st110 (μ : Cells) : ∃ x0 x1 : Nm n, x0 ∈ xs ∧ x1 ∈ xs ∧ exec (T 99) W s_1_10 (pl ds) μ = some (.nx (pl (ds.set 8 (some (tmD x0 x1 (numN (5, 1) n))))) μ) := by
  have n3 := s.ok.n3
  obtain ⟨x0, x1, x2, x3, rfl⟩ := four h4
  have tp : ev (T 99) (.tup (.cons (.int 5) (.cons (.int 1) .nil))) (pl ds) μ = some (fD (5, 1), μ) := tup_of (evs_cons rfl (evs_cons rfl evs_nil)) (by decide)
  have c5 := lup_num (5, 1) (n := n) (by omega) μ
  have ix : ∀ (i : Int) (d : D), atI [nD n x0, nD n x1, nD n x2, nD n x3] i = some d → ev (T 99) (.ix (.var 5) (.int i)) (pl ds) μ = some (d, μ) := fun i d h => ev_ix (x := .lst [nD n x0, nD n x1, nD n x2, nD n x3]) (y := .int i) (v_of K.h5) rfl (by rw [ix_lst]; exact h)
  exact ⟨x0, x1, by simp, by simp, asg_pl (tup_of (evs_cons (ix 0 _ rfl) (evs_cons (ix 1 _ rfl) (evs_cons (call_of (evs_cons tp (evs_cons (v_of K.K.h3) evs_nil)) c5) evs_nil))) (by simp))⟩
/-- a time told -/
theorem st1112 {x0 x1 : Nm n} (m0 : x0 ∈ xs) (m1 : x1 ∈ xs) (h8 : ds[8]? = some (some (tmD x0 x1 (numN (5, 1) n)))) (μ : Cells) : ∃ ds' : List (Option D), Kx ds' t l xs ∧ execs (T 99) W (.cons s_1_11 (.cons s_1_12 .nil)) (pl ds) μ = some (.nx (pl ds') μ) := by
  have n3 := s.ok.n3
  have bd : ∀ {z : Nm n}, AllL Lf n z → AllL (Bd 6 1 3) n z := fun h => AllL.imp (fun _ g => Lf.bd g) _ h
  have b5 : Bd 6 1 3 (5, 1) := ⟨by decide, by decide, by decide, by decide⟩
  have hu : AllL (Bd 6 1 3) n (numN (5, 1) n) := numN_all (bd01 _ _ _) b5 n
  have cl : cc (n + 1) ≤ 40 := by
    have : n = 0 ∨ n = 1 ∨ n = 2 ∨ n = 3 := by omega
    rcases this with e | e | e | e <;> rw [e] <;> decide
  obtain ⟨res, r1, n', t', z, q1, q2, rfl, q3, q4, _⟩ := tnum_n tfn (B := 6) (er := 1) (mr := 3) (by decide) (by decide) (by omega) t s.ok.bd x0 x1 (numN (5, 1) n) (bd (hx _ m0)) (bd (hx _ m1)) hu ((sl33 n3).mono (by decide) (by decide)) (by omega) (m := 92) (by omega) μ
  have r98 : T 98 38 [tmD x0 x1 (numN (5, 1) n), tD t] μ = some (.tup [tD t', nD n' z], μ) := r1
  have r99 : T 99 38 [tmD x0 x1 (numN (5, 1) n), tD t] μ = some (.tup [tD t', nD n' z], μ) := (call_le (tabOf defs) W 98 38 _ μ).some r98
  have sz : AllL (SmF 990) n' z := AllL.imp (fun _ g => by
    have f := (Bd.fq g (by decide) (by decide))
    exact ⟨f.1.mono (by omega), f.2.1.mono (by omega)⟩) n' q4
  have rz : AllL Red n' z := AllL.imp (fun _ g => Bd.red g) n' q4
  have tt := ttext_c (c := D.non) (k := 990) (n := n') (by omega) (t := t') (x := z) (by decide) (by decide) sz (m := 91) (by omega) μ r98
  have pt := print_c (k := 990) (by decide) (by decide) n' (by omega) t' 92 (by omega) sz μ
  have lt := ltext_c (k := 990) (by decide) (by decide) n' (by omega) 98 (by omega) sz rz μ
  have K1 := K.set (i := 16) (some (tD t')) (by decide) (by decide) (by decide) (by decide) (by decide)
  have K2 := K1.set (i := 17) (some (nD n' z)) (by decide) (by decide) (by decide) (by decide) (by decide)
  have e0 : exec (T 99) W s_1_11 (pl ds) μ = some (.nx (pl ((ds.set 16 (some (tD t'))).set 17 (some (nD n' z)))) μ) := asgT_of (call_of (evs_cons (v_of h8) (evs_cons (v_of K.K.h10) evs_nil)) r99)
  have g17 := set_get (ds := ds.set 16 (some (tD t'))) (o := some (nD n' z)) (i := 17) K1.K.len (by decide)
  have g16 : ((ds.set 16 (some (tD t'))).set 17 (some (nD n' z)))[16]? = some (some (tD t')) := by
    rw [List.getElem?_set_ne (by decide)]
    exact set_get K.K.len (by decide)
  have g8 : ((ds.set 16 (some (tD t'))).set 17 (some (nD n' z)))[8]? = some (some (tmD x0 x1 (numN (5, 1) n))) := by
    rw [List.getElem?_set_ne (by decide), List.getElem?_set_ne (by decide)]
    exact h8
  generalize (ds.set 16 (some (tD t'))).set 17 (some (nD n' z)) = ds2 at *
  have a1 := call_of (F := T 99) (f := 39) (evs_cons (v_of (μ := μ) g8) (evs_cons (v_of K2.K.h10) evs_nil)) tt
  have a2 := call_of (F := T 99) (f := 34) (evs_cons (v_of (μ := μ) g17) (evs_cons (v_of g16) evs_nil)) pt
  have ln := bi1_of (F := T 99) (b := .len) (z := .int n') (v_of (μ := μ) g16) (by rw [len_tup, twL_len])
  have a3 := call_of (F := T 99) (f := 51) (evs_cons (v_of (μ := μ) g17) (evs_cons ln evs_nil)) lt
  exact ⟨ds2, K2, seq_nx e0 (seq_nx (ifs_f (or_ff (same_of a1 a2 (dep_str _ _)) (same_of a2 a3 (dep_str _ _))) rfl) rfl)⟩
theorem st113 (is : List Int) (k : Int) (hk : 0 ≤ k) : ∃ (r k1 : Int), 0 ≤ r ∧ r < 4 ∧ 0 ≤ k1 ∧ exec (T 99) W s_1_13 (pl ds) [cw is k] = some (.nx (pl (ds.set 9 (some (fD (fr (1 + r) 3))))) [cw is k1]) := by
  obtain ⟨r, k1, a1, a2, a3, a4⟩ := next_at 98 is k 4 (by decide) hk
  refine ⟨r, k1, a1, a2, a3, asg_pl (call_of (evs_cons (op_of rfl (call_of (evs_cons (v_of K.K.h1) (evs_cons rfl evs_nil)) a4) (op_add 1 r)) (evs_cons rfl evs_nil)) (lfr_at 97 (1 + r) 3 _ ?_ ⟨?_, .inl (by decide)⟩))⟩
  · unfold Sm
    exact Nat.lt_of_lt_of_le (show (1 + r).natAbs < 2 ^ 5 by omega) (Nat.pow_le_pow_right (by decide) (by decide))
  · unfold Sm
    exact Nat.lt_of_lt_of_le (show (3 : Int).natAbs < 2 ^ 5 by decide) (Nat.pow_le_pow_right (by decide) (by decide))
theorem st1145 {r : Int} (r0 : 0 ≤ r) (r4 : r < 4) (h9 : ds[9]? = some (some (fD (fr (1 + r) 3)))) (μ : Cells) : ∃ ds' : List (Option D), Kx ds' t l xs ∧ execs (T 99) W (.cons s_1_14 (.cons s_1_15 .nil)) (pl ds) μ = some (.nx (pl ds') μ) := by
  have n3 := s.ok.n3
  have lf := lf_fr (a := 1 + r) (b := 3) (by omega) (by omega) (by decide) (by decide)
  have fq := ((Lf.bd lf).fq (by decide) (by decide)).mono (k := 1800) (by decide)
  have m1 := lmul_at 96 μ fq fq
  have up := lup_num (mulF (fr (1 + r) 3) (fr (1 + r) 3)) (n := n) (by omega) μ
  have wr := wroot_sq n3 t μ (sq_ok r0 r4 μ)
  have up2 := lup_num (fr (1 + r) 3) (n := n) (by omega) μ
  have K1 := K.set (i := 16) (some (tD t)) (by decide) (by decide) (by decide) (by decide) (by decide)
  have K2 := K1.set (i := 18) (some (nD n (numN (fr (1 + r) 3) n))) (by decide) (by decide) (by decide) (by decide) (by decide)
  have g18 := set_get (ds := ds.set 16 (some (tD t))) (o := some (nD n (numN (fr (1 + r) 3) n))) (i := 18) K1.K.len (by decide)
  have g16 : ((ds.set 16 (some (tD t))).set 18 (some (nD n (numN (fr (1 + r) 3) n))))[16]? = some (some (tD t)) := by
    rw [List.getElem?_set_ne (by decide)]
    exact set_get K.K.len (by decide)
  have g9 : ((ds.set 16 (some (tD t))).set 18 (some (nD n (numN (fr (1 + r) 3) n))))[9]? = some (some (fD (fr (1 + r) 3))) := by
    rw [List.getElem?_set_ne (by decide), List.getElem?_set_ne (by decide)]
    exact h9
  have e0 : exec (T 99) W s_1_14 (pl ds) μ = some (.nx (pl ((ds.set 16 (some (tD t))).set 18 (some (nD n (numN (fr (1 + r) 3) n))))) μ) := asgT_of (call_of (evs_cons (call_of (evs_cons (call_of (evs_cons (v_of h9) (evs_cons (v_of h9) evs_nil)) m1) (evs_cons (v_of K.K.h3) evs_nil)) up) (evs_cons (v_of K.K.h10) evs_nil)) wr)
  generalize (ds.set 16 (some (tD t))).set 18 (some (nD n (numN (fr (1 + r) 3) n))) = ds2 at *
  have a1 := tup_of (evs_cons (v_of (F := T 99) (μ := μ) g16) (evs_cons (v_of g18) evs_nil)) (by simp)
  have a2 := tup_of (evs_cons (v_of (F := T 99) (μ := μ) K2.K.h10) (evs_cons (call_of (f := 54) (evs_cons (v_of g9) (evs_cons (v_of K2.K.h3) evs_nil)) up2) evs_nil)) (by simp)
  exact ⟨ds2, K2, seq_nx e0 (seq_nx (ifs_f (same_of a1 a2 (by rw [dep_tup]; simp [dep_tD t 49 (by omega) (by omega), dep_nD n (numN (fr (1 + r) 3) n) 49 (by omega)])) rfl) rfl)⟩
theorem st116 (μ : Cells) : exec (T 99) W s_1_16 (pl ds) μ = some (.nx (pl ds) μ) := by
  have n3 := s.ok.n3
  have l1 := ev_lc (F := T 99) (kx_it K μ) (by rw [List.length_map]; omega) (lc_mapG (i := 6) (elt := .call 27 (.cons (.var 6) (.cons (.var 10) .nil))) (nD n) (fun x => D.int (htN n x)) xs fun x h => by
    have K6 := K.set (i := 6) (some (nD n x)) (by decide) (by decide) (by decide) (by decide) (by decide)
    exact call_of (evs_cons (v_of (set_get K.K.len (by decide))) (evs_cons (v_of K6.K.h10) evs_nil)) (height_c (by omega) t (m := 92) (by omega) x μ))
  have l2 := ev_lc (F := T 99) (kx_it K μ) (by rw [List.length_map]; omega) (lc_mapG (i := 6) (elt := .call 53 (.cons (.var 6) .nil)) (nD n) (fun x => D.int (htN n x)) xs fun x h => by
    exact call_of (evs_cons (v_of (set_get K.K.len (by decide))) evs_nil) (lheight_c n (by omega) 97 (by omega) x (all_red (hx x h)) μ))
  refine ifs_f (same_of (bi1_of (b := .tuple) l1 rfl) (bi1_of (b := .tuple) l2 rfl) ?_) rfl
  rw [dep_tup, decide_eq_true (by rw [List.length_map]; omega), Bool.true_and, List.all_eq_true]
  intro d hd
  obtain ⟨x, _, rfl⟩ := List.mem_map.mp hd
  exact dep_int _ _
end
end K02

set_option Elab.async false
set_option linter.all false
set_option maxRecDepth 100000
set_option maxHeartbeats 4000000
/-! the law, whole -/
namespace K02
open FM
open L2 (atI)
open PySem (Str sizeLine)
theorem execs_app {F : Fs} {W : Nat} {a b : S} {ss : Ss} {ρ ρ1 : Env} {μ μ1 : Cells} {r : Option Res} (h : execs F W (.cons a (.cons b .nil)) ρ μ = some (.nx ρ1 μ1)) (k : execs F W ss ρ1 μ1 = r) : execs F W (.cons a (.cons b ss)) ρ μ = r := by
  unfold execs at h ⊢
  cases e : exec F W a ρ μ with
  | none => rw [e] at h; cases h
  | some x =>
    rw [e] at h
    cases x with
    | nx ρ2 μ2 =>
      simp only at h ⊢
      unfold execs at h ⊢
      cases e2 : exec F W b ρ2 μ2 with
      | none => rw [e2] at h; cases h
      | some y =>
        rw [e2] at h
        cases y with
        | nx ρ3 μ3 =>
          simp only at h ⊢
          unfold execs at h
          cases h
          exact k
        | bk ρ3 μ3 => cases h
        | ct ρ3 μ3 => cases h
        | rt d μ3 => cases h
    | bk ρ3 μ3 => cases h
    | ct ρ3 μ3 => cases h
    | rt d μ3 => cases h
structure K0 (ds : List (Option D)) : Prop where
  len : ds.length = 25
  h1 : ds[1]? = some (some (.cell 0))
theorem turn (is : List Int) (ds : List (Option D)) (Z : K0 ds) (k : Int) (hk : 0 ≤ k) : ∃ (ds' : List (Option D)) (k' : Int), K0 ds' ∧ 0 ≤ k' ∧ execs (T 99) W s_1b (pl ds) [cw is k] = some (.nx (pl ds') [cw is k']) := by
  obtain ⟨n, t, l, k1, h0, s, k10, e0⟩ := st10 is ds Z.len Z.h1 k hk
  have l1 : ((ds.set 10 (some (tD t))).set 11 (some (.lst (l.map D.int)))).length = 25 := by rw [List.length_set, List.length_set]; exact Z.len
  have g10 : ((ds.set 10 (some (tD t))).set 11 (some (.lst (l.map D.int))))[10]? = some (some (tD t)) := by
    rw [List.getElem?_set_ne (by decide)]
    exact set_get Z.len (by decide)
  have g11 : ((ds.set 10 (some (tD t))).set 11 (some (.lst (l.map D.int))))[11]? = some (some (.lst (l.map D.int))) := set_get (by rw [List.length_set]; exact Z.len) (by decide)
  have g1 : ((ds.set 10 (some (tD t))).set 11 (some (.lst (l.map D.int))))[1]? = some (some (.cell 0)) := by
    rw [List.getElem?_set_ne (by decide), List.getElem?_set_ne (by decide)]
    exact Z.h1
  generalize (ds.set 10 (some (tD t))).set 11 (some (.lst (l.map D.int))) = ds1 at *
  have e1 := st11 ds1 g10 [cw is k1]
  have K : Kt (ds1.set 3 (some (.int n))) t l := ⟨by rw [List.length_set]; exact l1, by rw [List.getElem?_set_ne (by decide)]; exact g1, set_get l1 (by decide), by rw [List.getElem?_set_ne (by decide)]; exact g10, by rw [List.getElem?_set_ne (by decide)]; exact g11⟩
  generalize ds1.set 3 (some (.int n)) = ds2 at *
  have e2 := st12 K s [cw is k1]
  have e3 := st13 K s [cw is k1]
  have K4 := K.set (i := 4) (some (joinD "" (rowsT t))) (by decide) (by decide) (by decide) (by decide)
  have g4 := set_get (ds := ds2) (o := some (joinD "" (rowsT t))) (i := 4) K.len (by decide)
  generalize ds2.set 4 (some (joinD "" (rowsT t))) = ds3 at *
  obtain ⟨xs, k2, x4, hx, k20, e4⟩ := st14 K4 s is k1 k10
  have K5 : Kx (ds3.set 5 (some (.lst (xs.map (nD n))))) t l xs := ⟨K4.set _ (by decide) (by decide) (by decide) (by decide), set_get K4.len (by decide)⟩
  have g4' : (ds3.set 5 (some (.lst (xs.map (nD n)))))[4]? = some (some (joinD "" (rowsT t))) := by
    rw [List.getElem?_set_ne (by decide)]
    exact g4
  generalize ds3.set 5 (some (.lst (xs.map (nD n)))) = ds4 at *
  have e5 := st15 K5.K s g4' [cw is k2]
  obtain ⟨ds5, K6, e6⟩ := st16 h0 K5 s hx x4 [cw is k2]
  have e7 := st17 h0 K6 s hx x4 [cw is k2]
  have K7 := K6.set (i := 7) (some (.lst ((xs.map (worN (rt l) n)).map D.int))) (by decide) (by decide) (by decide) (by decide) (by decide)
  have g7 := set_get (ds := ds5) (o := some (.lst ((xs.map (worN (rt l) n)).map D.int))) (i := 7) K6.K.len (by decide)
  generalize ds5.set 7 (some (.lst ((xs.map (worN (rt l) n)).map D.int))) = ds6 at *
  have e8 := st18 h0 K7 s hx x4 g7 [cw is k2]
  have e9 := st19 h0 K7 s hx x4 [cw is k2]
  obtain ⟨x0, x1, m0, m1, e10⟩ := st110 h0 K7 s hx x4 [cw is k2]
  have K8 := K7.set (i := 8) (some (tmD x0 x1 (numN (5, 1) n))) (by decide) (by decide) (by decide) (by decide) (by decide)
  obtain ⟨ds7, K9, e11⟩ := st1112 h0 K8 s hx x4 m0 m1 (set_get K7.K.len (by decide)) [cw is k2]
  obtain ⟨r, k3, r0, r4, k30, e13⟩ := st113 h0 K9 s hx x4 is k2 k20
  have K10 := K9.set (i := 9) (some (fD (fr (1 + r) 3))) (by decide) (by decide) (by decide) (by decide) (by decide)
  obtain ⟨ds8, K11, e14⟩ := st1145 h0 K10 s hx x4 r0 r4 (set_get K9.K.len (by decide)) [cw is k3]
  have e16 := st116 h0 K11 s hx x4 [cw is k3]
  refine ⟨ds8, k3, ⟨K11.K.len, K11.K.h1⟩, k30, ?_⟩
  exact seq_nx e0 (seq_nx e1 (seq_nx e2 (seq_nx e3 (seq_nx e4 (seq_nx e5 (seq_nx e6 (seq_nx e7 (seq_nx e8 (seq_nx e9 (seq_nx e10 (execs_app e11 (seq_nx e13 (execs_app e14 (seq_nx e16 rfl))))))))))))))
theorem loop (is : List Int) (ds : List (Option D)) (Z : K0 ds) : ∃ (ds' : List (Option D)) (k' : Int), exec (T 99) W s_1 (pl ds) [cw is 0] = some (.nx (pl ds') [cw is k']) := by
  obtain ⟨ρ', μ', e1, ds', k', K', k0, rfl, rfl⟩ := forF_inv (fun _ ρ μ => ∃ (ds : List (Option D)) (k : Int), K0 ds ∧ 0 ≤ k ∧ ρ = pl ds ∧ μ = [cw is k]) (tg := .nm 2) (b := fun ρ' μ' => execs (T 99) W s_1b ρ' μ') (fun y ys ρ μ hh => by
    obtain ⟨ds1, k1, K1, k10, rfl, rfl⟩ := hh
    obtain ⟨ds2, k2, K2, k20, e⟩ := turn is (ds1.set 2 (some y)) ⟨by rw [List.length_set]; exact K1.len, by rw [List.getElem?_set_ne (by decide)]; exact K1.h1⟩ k1 k10
    refine ⟨pl (ds1.set 2 (some y)), pl ds2, [cw is k2], ?_, e, ds2, k2, K2, k20, rfl, rfl⟩
    unfold bindT
    simp only [pl_set]) (rngD 0 4) (pl ds) [cw is 0] ⟨ds, 0, Z, by decide, rfl, rfl⟩
  exact ⟨ds', k', for_of (evi_rng (n := 4) rfl (by decide)) (itlk_pl _ _) e1⟩
def E0 (s : D) : List (Option D) := some s :: List.replicate 24 none
theorem start (is : List Int) (s : D) (hd : T 99 42 [s, .int 400] [] = some (.lst (is.map D.int), [])) : exec (T 99) W s_0 (pl (E0 s)) [] = some (.nx (pl ((E0 s).set 1 (some (.cell 0)))) [cw is 0]) := by
  have g : (E0 s)[0]? = some (some s) := rfl
  generalize E0 s = es at *
  refine asg_pl ?_
  generalize hq : is.map D.int = q at *
  unfold ev
  rw [lks_pl]
  simp [FM.ev, FM.evs, pl_get, g, hd, andThen_some', lks_pl, Sl.d]
  exact ⟨by decide, by subst hq; rfl⟩
theorem body_ok (is : List Int) (s : D) (hd : T 99 42 [s, .int 400] [] = some (.lst (is.map D.int), [])) : ∃ k' : Int, execs (T 99) W sb (pl (E0 s)) [] = some (.rt (.bl true) [cw is k']) := by
  have e0 := start is s hd
  have K : K0 ((E0 s).set 1 (some (.cell 0))) := ⟨rfl, rfl⟩
  generalize (E0 s).set 1 (some (.cell 0)) = es at *
  obtain ⟨ds', k', e1⟩ := loop is es K
  exact ⟨k', seq_nx e0 (seq_nx e1 (seq_rt (ret_of rfl rfl)))⟩
theorem run_law (is : List Int) (s : D) (hd : T 99 42 [s, .int 400] [] = some (.lst (is.map D.int), [])) : ∃ k' : Int, runFn (T 99) W d_law.fn [s] [] = some (.bl true, [cw is k']) := by
  obtain ⟨k', e⟩ := body_ok is s hd
  rw [← law_pieces] at e
  exact ⟨k', run_pl rfl (Nat.le_of_ble_eq_true rfl) e⟩
theorem law_ok (ns : List Int) (h : ns.length ≤ 63) : ∃ μ, call (tabOf defs) W 100 lawNo [.lst (ns.map D.int)] [] = some (.bl true, μ) := by
  obtain ⟨is, hd⟩ := draws_at 98 ns h []
  generalize D.lst (ns.map D.int) = s at *
  obtain ⟨k', e⟩ := run_law is s hd
  exact ⟨[cw is k'], (call_at (d := d_law) (n := 99) (f := lawNo) rfl _ _).trans e⟩
end K02

set_option Elab.async false
set_option linter.all false
set_option maxRecDepth 100000
set_option maxHeartbeats 0
namespace K02
open PySem PySem.Spec PyProof.Rows FM L2
def lv : Nat := 100
/-! ### the head -/
def dd (d : FD) : He.DefD := ⟨(d.name, none), d.name, d.name, defArgs d.st, defBody d.st, defScope d.st, [], []⟩
def fn : List He.DefD := defs.map dd
def fa : List He.Fa := (defs.map fun d => He.Fa.glo d.name) ++ bnames.map He.Fa.free
abbrev R : PySem.W.OpenRow := PySem.W.OpenLaw.row PySem.Challenge.rw_firstmet_k02_texts_of_numbers
abbrev hk : PySem.W.Hook := He.hookD 4 fa fn
def ob (s : PySem.W.SharedT) : He.AlD := He.obsDG 4 fa fn (HandSHeadRun.getT s)
theorem ob_eq (s : PySem.W.SharedT) : ob s = hk.obs s.abs := He.obsDG_eq (HandSHeadRun.getT_eq s)
def loose : List Str := (defs.map FD.name).filter (· ≠ ("law" : Str)) ++ [("__name__" : Str)]
theorem run (w : World) : HandSHeadRun.RunEq R (PySem.W.view R.prog [lawAt]) hk ob 4000 loose w := by
  intro os
  kernel_rfl
theorem lawHead {w : World} {K : PySem.W.Frag} {mg : Str → Option Value} {h : Heap} (X : K.In h) (G : h.Ns mainGlobals mg) (c : He.SaysD fa fn K) :
    (∀ x ∈ bnames, mg x = none) ∧ ∀ d ∈ defs, mg d.name = some (.ref (He.fAd K (d.name, none))) ∧ ∃ fd, FunD K d.name d.name (defArgs d.st) (defBody d.st) (defScope d.st) [] [] (He.fAd K (d.name, none)) fd := by
  refine ⟨fun x hx => ?_, fun d hd => ⟨?_, ?_⟩⟩
  · have m : He.Fa.free x ∈ fa := List.mem_append_right _ (List.mem_map.mpr ⟨x, hx, rfl⟩)
    obtain ⟨i, hi⟩ := List.mem_iff_getElem?.mp m
    exact He.free_ok X G (c.fact i hi)
  · have m : He.Fa.glo d.name ∈ fa := List.mem_append_left _ (List.mem_map.mpr ⟨d, hd, rfl⟩)
    obtain ⟨i, hi⟩ := List.mem_iff_getElem?.mp m
    exact He.glo_ok X G (c.fact i hi)
  · obtain ⟨i, hi⟩ := List.mem_iff_getElem?.mp hd
    have hi' : fn[i]? = some (dd d) := by
      unfold fn
      rw [List.getElem?_map, hi]
      rfl
    exact c.def_ i hi'
end K02
open PySem PySem.W PySem.Calls PyProof.Rows
set_option maxRecDepth 100000 in
set_option maxHeartbeats 0 in
theorem PySem.Challenge.cw_firstmet_k02_texts_of_numbers_holds : PySem.Challenge.rw_firstmet_k02_texts_of_numbers.Holds := by
  w_on; o_law
  refine HandSHeadRun.head_any (r := OpenLaw.row PySem.Challenge.rw_firstmet_k02_texts_of_numbers) (q := view (OpenLaw.row PySem.Challenge.rw_firstmet_k02_texts_of_numbers).prog [K02.lawAt]) (H := K02.hk) (ob := K02.ob) (M := 4000) (loose := K02.loose) (d := HandSHeadRun.topDef (OpenLaw.row PySem.Challenge.rw_firstmet_k02_texts_of_numbers).prog K02.lawAt) (kwd := []) K02.ob_eq
    (by kernel_rfl) (fun s => by kernel_rfl) K02.run (by kernel_rfl) (by kernel_rfl) (by kernel_rfl) (by rfl) (by first | assumption | decide +kernel) (by decide +kernel) ⟨rfl, rfl, rfl, rfl, rfl, by decide +kernel⟩ ?hw ?hc
  case hw => w_witness2
  case hc =>
    refine L2.walk_ofE (l := PySem.Challenge.rw_firstmet_k02_texts_of_numbers) (n := 63) (k := K02.lv) (x := "script") (CX := L2.CX0) rfl (by decide) (by kernel_rfl) ⟨rfl, by decide, by decide⟩ ?F (fun _ _ _ _ z => z)
    intro w mg fa h Y G hmg0
    obtain ⟨K, KX, c⟩ := Y
    have hmg : mg ("law" : PySem.Str) = some (.ref fa) := by
      have e : (HandSHeadRun.topDef (OpenLaw.row PySem.Challenge.rw_firstmet_k02_texts_of_numbers).prog K02.lawAt).name = ("law" : PySem.Str) := by kernel_rfl
      rw [← e]
      exact hmg0
    obtain ⟨bn, hd⟩ := K02.lawHead (w := w) KX G c
    have chk : ∀ d ∈ K02.defs, d.chk K02.fs = true := fun d hm => List.all_eq_true.mp K02.chk_all d hm
    have hm : K02.d_law ∈ K02.defs := List.mem_of_getElem? (i := K02.lawNo) rfl
    obtain ⟨m1, fd, m2⟩ := hd _ hm
    have e : fa = He.fAd K (("law" : PySem.Str), none) := by
      have z := hmg.symm.trans m1
      cases z
      rfl
    subst e
    refine ⟨K, fd, FM.spF K 1 (FM.runFn (FM.call (FM.tabOf K02.defs) FM.W (K02.lv - 1)) FM.W K02.d_law.fn), KX, fun s u => ?_, fun H a ns hl _ hS => ?_, fun base b1 b2 => ?_⟩
    · exact m2.bindsA (ps := [("script" : PySem.Str)]) (FM.bindsF (fs := K02.fs) (chk _ hm) m2) s [u] rfl
    · obtain ⟨μ, hμ⟩ := K02.law_ok ns hl
      exact FM.law_sp hS hμ
    · exact FM.fd_ok (n := K02.lv - 1) (chk _ hm) m2 bn (FM.all_ok rfl chk bn (fun d hd' => ⟨_, (hd d hd').2.choose, (hd d hd').1, (hd d hd').2.choose_spec⟩) (K02.lv - 1))

