import PyProof.Rows.All
import Wide.All
import OpenK.AllK
import Wide.FinOn
import KE.KStateDown
import HandS.ForMost
import HandS.Wide
import HandS.WideBits
import HandS.IsInst
import HandS.TupAny
import HandS.Style
import HandS.TupLe
import HandS.Defaults
import HandS.More
import HandS.WordsExc
import HandS.Head0
import HandS.Head1
import HandS.Head2
import HandS.HeadEnd
import HandS.HeadHook1
import HandS.HeadHook2
import HandS.TupMul
import HandS.Deep
import HandS.Iter
import PySem.Challenge.RW_firstmet_k15_times_told
set_option Elab.async false
set_option linter.all false
set_option maxRecDepth 100000
set_option maxHeartbeats 4000000
/-! Ev1: plain data, what stands for it in the abstract heap. -/
namespace FM
open PySem PySem.Spec PyProof.Rows L2

/-- plain data; cell k: the k-th mutable dict -/
inductive D where
  | non | bl (b : Bool) | int (i : Int) | str (s : Str) | tup (ds : List D) | lst (ds : List D) | cell (k : Nat)
  deriving Inhabited

abbrev Cell := List (Key × D)
abbrev Cells := List Cell

/-! ### what represents data -/
def TupAt (K : PySem.W.Frag) (Z : Addr → Prop) (H : Hp) (a : Addr) (xs : List V) : Prop :=
  (Rd H a (.tup xs) ∧ ¬ Z a) ∨
    ∃ (o : Obj) (its : Array Value) (n : Nat), K.lookup a = some o ∧ o.cls = .type "tuple" ∧ o.data = .seq its n ∧ its.size ≤ sizeLine ∧ Vals xs its.toList
def LstAt (K : PySem.W.Frag) (Z : Addr → Prop) (H : Hp) (a : Addr) (xs : List V) : Prop :=
  (Rd H a (.lst xs) ∧ ¬ Z a) ∨
    ∃ (o : Obj) (its : Array Value) (n : Nat), K.lookup a = some o ∧ o.cls = .type "list" ∧ o.dict = none ∧ o.data = .seq its n ∧ its.size ≤ sizeLine ∧ Vals xs its.toList
theorem TupAt.sq {K : PySem.W.Frag} {Z : Addr → Prop} {H : Hp} {a : Addr} {xs : List V} (h : TupAt K Z H a xs) : SqT K H a xs := by
  rcases h with ⟨h, _⟩ | h
  · exact .inl h
  · exact .inr h
theorem LstAt.sq {K : PySem.W.Frag} {Z : Addr → Prop} {H : Hp} {a : Addr} {xs : List V} (h : LstAt K Z H a xs) : SqL K H a xs := by
  rcases h with ⟨h, _⟩ | h
  · exact .inl h
  · exact .inr h

mutual
inductive Rep (K : PySem.W.Frag) (Z : Addr → Prop) (ads : List Addr) (H : Hp) : V → D → Prop
  | non : Rep K Z ads H .non .non
  | bl (b : Bool) : Rep K Z ads H (.bl b) (.bl b)
  | int (i : Int) : Rep K Z ads H (.int i) (.int i)
  | str (x : Str) : Rep K Z ads H (.str x) (.str x)
  | tup {a : Addr} {xs : List V} {ds : List D} : TupAt K Z H a xs → RepL K Z ads H xs ds → Rep K Z ads H (.ref a) (.tup ds)
  | lst {a : Addr} {xs : List V} {ds : List D} : LstAt K Z H a xs → RepL K Z ads H xs ds → Rep K Z ads H (.ref a) (.lst ds)
  | cell {a : Addr} {k : Nat} : ads[k]? = some a → Rep K Z ads H (.ref a) (.cell k)
inductive RepL (K : PySem.W.Frag) (Z : Addr → Prop) (ads : List Addr) (H : Hp) : List V → List D → Prop
  | nil : RepL K Z ads H [] []
  | cons {v : V} {d : D} {vs : List V} {ds : List D} : Rep K Z ads H v d → RepL K Z ads H vs ds → RepL K Z ads H (v :: vs) (d :: ds)
end

section
variable {K : PySem.W.Frag} {Z Z' : Addr → Prop} {ads ads' : List Addr} {H H' : Hp}

/-- what lets a representation stand -/
structure Stay (Z Z' : Addr → Prop) (ads ads' : List Addr) (H H' : Hp) : Prop where
  keep : ∀ b o, H b = some o → ¬ Z b → H' b = some o
  free : ∀ b o, H b = some o → ¬ Z b → ¬ Z' b
  pre : ∀ (k : Nat) (a : Addr), ads[k]? = some a → ads'[k]? = some a

theorem Rd.keep {a : Addr} {u : HO} (s : Stay Z Z' ads ads' H H') (h : Rd H a u ∧ ¬ Z a) : Rd H' a u ∧ ¬ Z' a := by
  obtain ⟨h, z⟩ := h
  rcases h with h | ⟨o, h⟩
  · exact ⟨.inl (s.keep _ _ h z), s.free _ _ h z⟩
  · exact ⟨.inr ⟨o, s.keep _ _ h z⟩, s.free _ _ h z⟩
theorem TupAt.stay {a : Addr} {xs : List V} (s : Stay Z Z' ads ads' H H') (h : TupAt K Z H a xs) : TupAt K Z' H' a xs := by
  rcases h with h | h
  · exact .inl (Rd.keep s h)
  · exact .inr h
theorem LstAt.stay {a : Addr} {xs : List V} (s : Stay Z Z' ads ads' H H') (h : LstAt K Z H a xs) : LstAt K Z' H' a xs := by
  rcases h with h | h
  · exact .inl (Rd.keep s h)
  · exact .inr h
mutual
theorem Rep.stay (s : Stay Z Z' ads ads' H H') : ∀ (d : D) (v : V), Rep K Z ads H v d → Rep K Z' ads' H' v d
  | .non, _, h => by cases h; exact .non
  | .bl b, _, h => by cases h; exact .bl b
  | .int i, _, h => by cases h; exact .int i
  | .str x, _, h => by cases h; exact .str x
  | .tup ds, _, h => by
    cases h with
    | tup h1 h2 => exact .tup (h1.stay s) (RepL.stay s ds _ h2)
  | .lst ds, _, h => by
    cases h with
    | lst h1 h2 => exact .lst (h1.stay s) (RepL.stay s ds _ h2)
  | .cell k, _, h => by
    cases h with
    | cell h1 => exact .cell (s.pre _ _ h1)
theorem RepL.stay (s : Stay Z Z' ads ads' H H') : ∀ (ds : List D) (vs : List V), RepL K Z ads H vs ds → RepL K Z' ads' H' vs ds
  | [], _, h => by cases h; exact .nil
  | d :: ds, _, h => by
    cases h with
    | cons h1 h2 => exact .cons (Rep.stay s d _ h1) (RepL.stay s ds _ h2)
end
theorem RepL.length : ∀ {vs : List V} {ds : List D}, RepL K Z ads H vs ds → vs.length = ds.length
  | _, [], h => by cases h; rfl
  | _, d :: ds, h => by
    cases h with
    | cons h1 h2 => rw [List.length_cons, List.length_cons, h2.length]
theorem RepL.get : ∀ {vs : List V} {ds : List D} {i : Nat} {d : D}, RepL K Z ads H vs ds → ds[i]? = some d → ∃ v, vs[i]? = some v ∧ Rep K Z ads H v d
  | _, [], _, _, _, e => by simp at e
  | _, x :: ds, 0, d, h, e => by
    cases h with
    | cons h1 h2 => simp at e; subst e; exact ⟨_, rfl, h1⟩
  | _, x :: ds, i + 1, d, h, e => by
    cases h with
    | cons h1 h2 =>
      obtain ⟨v, e1, r⟩ := h2.get (i := i) (d := d) (by simpa using e)
      exact ⟨v, by simpa using e1, r⟩
theorem RepL.getV : ∀ {vs : List V} {ds : List D} {i : Nat} {v : V}, RepL K Z ads H vs ds → vs[i]? = some v → ∃ d, ds[i]? = some d ∧ Rep K Z ads H v d := fun {vs ds i v} h e => by
  have hl := h.length
  have hi : i < ds.length := by
    have := (List.getElem?_eq_some_iff.mp e).1
    omega
  obtain ⟨w, e2, r⟩ := h.get (i := i) (d := ds[i]) (by simp [hi])
  rw [e] at e2; cases e2
  exact ⟨_, by simp [hi], r⟩
theorem RepL.append : ∀ {vs ws : List V} {ds es : List D}, RepL K Z ads H vs ds → RepL K Z ads H ws es → RepL K Z ads H (vs ++ ws) (ds ++ es)
  | _, _, [], _, h, k => by cases h; exact k
  | _, _, d :: ds, _, h, k => by
    cases h with
    | cons h1 h2 => exact .cons h1 (h2.append k)
theorem RepL.take : ∀ {vs : List V} {ds : List D} (n : Nat), RepL K Z ads H vs ds → RepL K Z ads H (vs.take n) (ds.take n)
  | _, _, 0, _ => .nil
  | _, [], n + 1, h => by cases h; exact .nil
  | _, d :: ds, n + 1, h => by
    cases h with
    | cons h1 h2 => exact .cons h1 (h2.take n)
theorem RepL.drop : ∀ {vs : List V} {ds : List D} (n : Nat), RepL K Z ads H vs ds → RepL K Z ads H (vs.drop n) (ds.drop n)
  | _, _, 0, h => h
  | _, [], n + 1, h => by cases h; exact .nil
  | _, d :: ds, n + 1, h => by
    cases h with
    | cons h1 h2 => exact h2.drop n
theorem RepL.ofInts : ∀ (ns : List Int), RepL K Z ads H (ns.map V.int) (ns.map D.int)
  | [] => .nil
  | n :: ns => .cons (.int n) (RepL.ofInts ns)
theorem RepL.ints : ∀ {vs : List V} {ns : List Int}, RepL K Z ads H vs (ns.map D.int) → vs = ns.map V.int
  | _, [], h => by cases h; rfl
  | _, n :: ns, h => by
    cases h with
    | cons h1 h2 => cases h1; rw [List.map_cons, h2.ints]
theorem RepL.bls : ∀ {vs : List V} {ns : List Bool}, RepL K Z ads H vs (ns.map D.bl) → vs = ns.map V.bl
  | _, [], h => by cases h; rfl
  | _, n :: ns, h => by
    cases h with
    | cons h1 h2 => cases h1; rw [List.map_cons, h2.bls]
theorem RepL.strs : ∀ {vs : List V} {ns : List Str}, RepL K Z ads H vs (ns.map D.str) → vs = ns.map V.str
  | _, [], h => by cases h; rfl
  | _, n :: ns, h => by
    cases h with
    | cons h1 h2 => cases h1; rw [List.map_cons, h2.strs]
theorem RepL.one {d : D} {vs : List V} (h : RepL K Z ads H vs [d]) : ∃ v, vs = [v] ∧ Rep K Z ads H v d := by
  cases h with
  | cons h1 h2 => cases h2; exact ⟨_, rfl, h1⟩
theorem RepL.two {d e : D} {vs : List V} (h : RepL K Z ads H vs [d, e]) : ∃ v w, vs = [v, w] ∧ Rep K Z ads H v d ∧ Rep K Z ads H w e := by
  cases h with
  | cons h1 h2 => obtain ⟨w, rfl, h3⟩ := h2.one; exact ⟨_, _, rfl, h1, h3⟩
end

/-! ### the cells -/
/-- keys alike, values represented -/
def RepKV (K : PySem.W.Frag) (Z : Addr → Prop) (ads : List Addr) (H : Hp) (kvs : List (Key × V)) (kds : Cell) : Prop :=
  kvs.map (·.1) = kds.map (·.1) ∧ RepL K Z ads H (kvs.map (·.2)) (kds.map (·.2))
/-- own: lists that no plain datum may hold; ads: the cells' addresses -/
abbrev Zo (own : Addr → Prop) (ads : List Addr) : Addr → Prop := fun b => own b ∨ b ∈ ads
structure CellsR (K : PySem.W.Frag) (own : Addr → Prop) (ads : List Addr) (H : Hp) (μ : Cells) : Prop where
  len : ads.length = μ.length
  nd : ads.Nodup
  «at» : ∀ (k : Nat) (a : Addr), ads[k]? = some a → ∃ (kvs : List (Key × V)) (kds : Cell), μ[k]? = some kds ∧ H a = some (.dK kvs) ∧ RepKV K (Zo own ads) ads H kvs kds
  dis : ∀ a ∈ ads, ¬ own a
  ownT : ∀ b, own b → ∃ o, H b = some o ∧ Mut (some o)

/-- behind an expression: all that was tracked but the cells stands; new cells are new -/
structure Ext (ads : List Addr) (H : Hp) (ads' : List Addr) (H' : Hp) : Prop where
  keep : ∀ b o, H b = some o → b ∉ ads → H' b = some o
  there : ∀ b o, H b = some o → ∃ o', H' b = some o'
  new : ∀ b ∈ ads', b ∈ ads ∨ H b = none
  pre : ∀ (k : Nat) (a : Addr), ads[k]? = some a → ads'[k]? = some a
section
variable {K : PySem.W.Frag} {own : Addr → Prop} {ads ads' ads2 : List Addr} {H H' H2 : Hp} {μ : Cells}
theorem Ext.refl : Ext ads H ads H := ⟨fun _ _ h _ => h, fun _ o h => ⟨o, h⟩, fun _ h => .inl h, fun _ _ h => h⟩
theorem Ext.mem (e : Ext ads H ads' H') {b : Addr} (h : b ∈ ads) : b ∈ ads' := by
  obtain ⟨k, hk⟩ := List.mem_iff_getElem?.mp h
  exact List.mem_iff_getElem?.mpr ⟨k, e.pre _ _ hk⟩
theorem Ext.trans (e : Ext ads H ads' H') (f : Ext ads' H' ads2 H2) : Ext ads H ads2 H2 where
  keep := fun b o h hn => f.keep b o (e.keep b o h hn) fun hm => (e.new b hm).elim hn fun z => by rw [z] at h; cases h
  there := fun b o h => let ⟨o', h'⟩ := e.there b o h; f.there b o' h'
  new := fun b hb => (f.new b hb).elim (e.new b) fun z => .inr <| by
    cases q : H b with
    | none => rfl
    | some o => obtain ⟨o', h'⟩ := e.there b o q; rw [z] at h'; cases h'
  pre := fun k a h => f.pre k a (e.pre k a h)
theorem Ext.stay (e : Ext ads H ads' H') : Stay (Zo own ads) (Zo own ads') ads ads' H H' where
  keep := fun b o h z => e.keep b o h fun m => z (.inr m)
  free := fun b o h z q => q.elim (fun q => z (.inl q)) fun q => (e.new b q).elim (fun m => z (.inr m)) fun n => by rw [n] at h; cases h
  pre := e.pre
theorem Rep.ext {v : V} {d : D} (e : Ext ads H ads' H') (h : Rep K (Zo own ads) ads H v d) : Rep K (Zo own ads') ads' H' v d := h.stay e.stay
theorem RepL.ext {v : List V} {d : List D} (e : Ext ads H ads' H') (h : RepL K (Zo own ads) ads H v d) : RepL K (Zo own ads') ads' H' v d := h.stay e.stay
/-- a new object that is no cell -/
theorem Ext.fresh {p : Addr} {o : HO} (hp : H p = none) : Ext ads H ads (upd H p o) where
  keep := fun b u h _ => by rw [upd_ne (ne_of_none h hp)]; exact h
  there := fun b u h => ⟨u, by rw [upd_ne (ne_of_none h hp)]; exact h⟩
  new := fun _ h => .inl h
  pre := fun _ _ h => h
theorem RepKV.stay {Z Z' : Addr → Prop} {kvs : List (Key × V)} {kds : Cell} (s : Stay Z Z' ads ads' H H') (h : RepKV K Z ads H kvs kds) : RepKV K Z' ads' H' kvs kds := ⟨h.1, h.2.stay s⟩
/-- the cells where none of them is changed, none is new -/
theorem CellsR.same (c : CellsR K own ads H μ) (e : Ext ads H ads H') (k : ∀ a ∈ ads, H' a = H a) : CellsR K own ads H' μ where
  len := c.len
  nd := c.nd
  «at» := fun i a h => by
    obtain ⟨kvs, kds, h1, h2, h3⟩ := c.at i a h
    exact ⟨kvs, kds, h1, by rw [k a (List.mem_of_getElem? h)]; exact h2, h3.stay e.stay⟩
  dis := c.dis
  ownT := fun b h => let ⟨o, q, m⟩ := c.ownT b h; ⟨o, e.keep b o q fun z => c.dis b z h, m⟩
theorem CellsR.tracked (c : CellsR K own ads H μ) {b : Addr} (h : Zo own ads b) : ∃ o, H b = some o := by
  rcases h with h | h
  · obtain ⟨o, q, _⟩ := c.ownT b h
    exact ⟨o, q⟩
  · obtain ⟨k, hk⟩ := List.mem_iff_getElem?.mp h
    obtain ⟨kvs, _, _, h2, _⟩ := c.at k b hk
    exact ⟨_, h2⟩
theorem CellsR.freshZ (c : CellsR K own ads H μ) {p : Addr} (hp : H p = none) : ¬ Zo own ads p := fun z => by
  obtain ⟨o, h⟩ := c.tracked z
  rw [hp] at h; cases h
theorem CellsR.fresh (c : CellsR K own ads H μ) {p : Addr} {o : HO} (hp : H p = none) : CellsR K own ads (upd H p o) μ :=
  c.same (Ext.fresh hp) fun a ha => by
    have : a ≠ p := fun z => c.freshZ hp (z ▸ .inr ha)
    rw [upd_ne this]
/-- a new tuple stands for its items -/
theorem Rep.newTup (c : CellsR K own ads H μ) {p : Addr} {xs : List V} {ds : List D} (hp : H p = none) (h : RepL K (Zo own ads) ads H xs ds) : Rep K (Zo own ads) ads (upd H p (.tup xs)) (.ref p) (.tup ds) :=
  .tup (.inl ⟨.inl upd_same, c.freshZ hp⟩) (h.ext (Ext.fresh hp))
theorem Rep.newLst (c : CellsR K own ads H μ) {p : Addr} {xs : List V} {ds : List D} (hp : H p = none) (h : RepL K (Zo own ads) ads H xs ds) : Rep K (Zo own ads) ads (upd H p (.lst xs)) (.ref p) (.lst ds) :=
  .lst (.inl ⟨.inl upd_same, c.freshZ hp⟩) (h.ext (Ext.fresh hp))
end
end FM

set_option Elab.async false
set_option linter.all false
set_option maxRecDepth 100000
set_option maxHeartbeats 4000000
/-! Ev2: the little language (slots in place of names), its evaluator, the look at the real tree. -/
namespace FM
open PySem PySem.Spec PyProof.Rows L2

/-! ### syntax -/
/-- built-ins called by name on plain values -/
inductive Bi where
  | len | tuple | list | all | any | abs | int | str | max2 | min2 | sum
  deriving DecidableEq
inductive Ty where
  | int | bool | str | tuple | list
  deriving DecidableEq
/-- methods -/
inductive Me where
  | bits | partition | join
  deriving DecidableEq
inductive Tg where
  | nm (i : Nat) | tp (is : List Nat)
  deriving DecidableEq
mutual
inductive E where
  | var (i : Nat) | int (i : Int) | bl (b : Bool) | non | str (s : Str)
  | op (o : Operator) (a b : E)
  | neg (a : E)
  | cmp (o : CmpOp) (a b : E)
  | chn (o o' : CmpOp) (a b c : E)
  | and (a b : E) | or (a b : E) | not (a : E)
  | ife (c a b : E)
  | tup (es : Es) | lst (es : Es)
  | ix (a b : E)
  | sl (a : E) (lo hi : EO)
  | call (f : Nat) (es : Es)
  | callB (f : Nat) (es : Es)
  | bi (b : Bi) (es : Es)
  | isi (a : E) (t : Ty)
  | me (m : Me) (o : E) (es : Es)
  | lc (elt : E) (tg : Tg) (it : It) (cond : EO)
  | dict (ks : List Str) (es : Es)
inductive Es where
  | nil | cons (e : E) (es : Es)
inductive EO where
  | none | some (e : E)
inductive It where
  | seq (e : E) | rng1 (a : E) | rng2 (a b : E) | rng3 (a b c : E)
end
mutual
inductive S where
  | asg (i : Nat) (e : E)
  | own (i : Nat)
  | asgT (is : List Nat) (e : E)
  | par (i j : Nat) (a b : E)
  | aug (i : Nat) (o : Operator) (e : E)
  | app (i : Nat) (e : E)
  | ins (i : Nat) (k e : E)
  | daug (o k : E) (op : Operator) (e : E)
  | ret (e : E)
  | ifs (c : E) (a b : Ss)
  | whl (c : E) (b : Ss)
  | for_ (tg : Tg) (it : It) (b : Ss)
  | expr (e : E)
  | pass | brk | cont
  | frz (i : Nat)
inductive Ss where
  | nil | cons (s : S) (ss : Ss)
end

/-! ### the environment -/
inductive Sl where
  | pl (d : D) | ow (ds : List D)
abbrev Env := List (Option Sl)
def Sl.d : Sl → D
  | .pl d => d
  | .ow ds => .lst ds
def Sl.isOw : Sl → Bool
  | .pl _ => false
  | .ow _ => true
def isOw (ρ : Env) (i : Nat) : Bool := match ρ[i]? with
  | some (some s) => s.isOw
  | _ => false
/-- whether an expression may hand out a list that its slot owns -/
def lk (ρ : Env) : E → Bool
  | .var i => isOw ρ i
  | .ife _ a b => lk ρ a || lk ρ b
  | _ => false
def lks (ρ : Env) : Es → Bool
  | .nil => false
  | .cons e es => lk ρ e || lks ρ es

def It.lk (ρ : Env) : It → Bool
  | .seq e => FM.lk ρ e
  | _ => false

/-! ### values -/
mutual
def D.py : D → PyData
  | .non => .none
  | .bl b => .bool b
  | .int i => .int i
  | .str s => .str s
  | .tup ds => .tuple (pyAll ds)
  | .lst ds => .list (pyAll ds)
  | .cell _ => .none
def pyAll : List D → List PyData
  | [] => []
  | d :: ds => d.py :: pyAll ds
end
mutual
def D.noCell : D → Bool
  | .tup ds => noCells ds
  | .lst ds => noCells ds
  | .cell _ => false
  | _ => true
def noCells : List D → Bool
  | [] => true
  | d :: ds => d.noCell && noCells ds
end
mutual
def D.noLst : D → Bool
  | .tup ds => noLsts ds
  | .lst _ => false
  | _ => true
def noLsts : List D → Bool
  | [] => true
  | d :: ds => d.noLst && noLsts ds
end
def D.scal : D → Bool
  | .non => true
  | .bl _ => true
  | .int _ => true
  | .str _ => true
  | _ => false
def D.flat : D → Bool
  | .int _ => true
  | .str _ => true
  | .bl _ => true
  | .non => true
  | _ => false
def eqS : D → D → Bool
  | .non, .non => true
  | .bl a, .bl b => a == b
  | .int a, .int b => a == b
  | .str a, .str b => a == b
  | _, _ => false
def scalOk : D → D → Bool
  | .bl _, .int _ => false
  | .int _, .bl _ => false
  | a, b => a.scal && b.scal
def shOk (d : D) : Bool := d.noCell && SeqAt.shaped d.py
def eqD (a b : D) : Option Bool :=
  if scalOk a b then some (eqS a b) else if shOk a && shOk b then some (PyData.eqv a.py b.py) else none
def mulOk (i j : Int) : Bool := decide (i.natAbs.log2 + j.natAbs.log2 < 1000000)
def divOk (_ j : Int) : Bool := decide (j ≠ 0 ∧ j.natAbs < 1073741824) || decide (0 < j ∧ j.natAbs.log2 < 9000)
def powOk (i j : Int) : Bool := decide (0 ≤ j ∧ j ≤ 1000000 ∧ i.natAbs < 2 ^ 64)
def opA : Operator → D → D → Option D
  | .Add, .int i, .int j => some (.int (i + j))
  | .Add, .str a, .str b => if a.length + b.length ≤ sizeLine then some (.str (a ++ b)) else none
  | .Add, .tup a, .tup b => if a.length + b.length ≤ sizeLine then some (.tup (a ++ b)) else none
  | .Sub, .int i, .int j => some (.int (i - j))
  | .Sub, .bl a, .bl b => some (.int (b2i a - b2i b))
  | .Mult, .int i, .int j => if mulOk i j then some (.int (i * j)) else none
  | .FloorDiv, .int i, .int j => if divOk i j then some (.int (i.fdiv j)) else none
  | .Mod, .int i, .int j => if j = 0 then none else some (.int (i.fmod j))
  | .Pow, .int i, .int j => if powOk i j then some (.int (i ^ j.toNat)) else none
  | .LShift, .int i, .int j => if powOk i j then some (.int (i * 2 ^ j.toNat)) else none
  | _, _, _ => none
def negD : D → Option D
  | .int i => some (.int (-i))
  | _ => none
def isNon : D → Bool
  | .non => true
  | _ => false
/-- x in xs -/
def inD (x : D) : List D → Option Bool
  | [] => if x.flat then some false else none
  | y :: ys => if scalOk y x then (if eqS y x then (if (y :: ys).all (fun z => scalOk z x) then some true else none) else inD x ys) else none
/-- x in a list, deep -/
def inX (x : D) (b : List D) : Option Bool := match inD x b with
  | some r => some r
  | none => if shOk x && shOk (.lst b) then some ((pyAll b).any fun z => PyData.eqv z x.py) else none
def cmpD : CmpOp → D → D → Option Bool
  | .Eq, a, b => eqD a b
  | .NotEq, a, b => (eqD a b).map not
  | .Lt, .int i, .int j => some (decide (i < j))
  | .LtE, .int i, .int j => some (decide (i ≤ j))
  | .Gt, .int i, .int j => some (decide (j < i))
  | .GtE, .int i, .int j => some (decide (j ≤ i))
  | .Is, a, .non => some (isNon a)
  | .IsNot, a, .non => some (!isNon a)
  | .Is, .bl a, .bl b => some (decide (a = b))
  | .IsNot, .bl a, .bl b => some (!decide (a = b))
  | .In, .str a, .str b => some (!(Builtin.Str.occurrences b a 0 b.length 1).isEmpty)
  | .In, a, .tup b => inD a b
  | .In, a, .lst b => inX a b
  | .NotIn, a, .tup b => (inD a b).map not
  | .NotIn, a, .lst b => (inX a b).map not
  | _, _, _ => none
def valC (c : Cell) (k : Key) : Option D := (c.find? fun kv => decide (kv.1 = k)).map (·.2)
def putC (c : Cell) (k : Key) (d : D) : Cell := if (c.any fun kv => decide (kv.1 = k)) = true then c.map (fun kv => if kv.1 = k then (kv.1, d) else kv) else c ++ [(k, d)]
def keyD : D → Option Key
  | .int i => some (.inl i)
  | .str s => some (.inr s)
  | _ => none
def ixD (μ : Cells) : D → D → Option D
  | .lst ds, .int i => atI ds i
  | .tup ds, .int i => atI ds i
  | .str s, .int i => if s.length ≤ sizeLine then (atI s.cps.toList i).map fun c => .str ⟨#[c]⟩ else none
  | .cell k, d => match μ[k]?, keyD d with
    | some c, some q => valC c q
    | _, _ => none
  | _, _ => none
def cutD {α : Type} (xs : List α) (lo hi : Option Int) : List α := (xs.drop (HT.sIx xs.length 0 lo)).take (HT.sIx xs.length xs.length hi - HT.sIx xs.length 0 lo)
def slD : D → Option Int → Option Int → Option D
  | .tup ds, lo, hi => some (.tup (cutD ds lo hi))
  | .lst ds, lo, hi => some (.lst (cutD ds lo hi))
  | .str s, lo, hi => if s.length ≤ sizeLine then some (.str ⟨(cutD s.cps.toList lo hi).toArray⟩) else none
  | _, _, _ => none
def asBls : List D → Option (List Bool)
  | [] => some []
  | .bl b :: ds => (asBls ds).map (b :: ·)
  | _ => none
def asInts : List D → Option (List Int)
  | [] => some []
  | .int b :: ds => (asInts ds).map (b :: ·)
  | _ => none
def asStrs : List D → Option (List Str)
  | [] => some []
  | .str b :: ds => (asStrs ds).map (b :: ·)
  | _ => none
def biD (μ : Cells) : Bi → List D → Option D
  | .len, [.lst ds] => some (.int ds.length)
  | .len, [.tup ds] => some (.int ds.length)
  | .len, [.str s] => if s.length ≤ sizeLine then some (.int s.length) else none
  | .tuple, [.lst ds] => some (.tup ds)
  | .tuple, [.tup ds] => some (.tup ds)
  | .list, [.lst ds] => some (.lst ds)
  | .list, [.tup ds] => some (.lst ds)
  | .all, [.lst ds] => (asBls ds).map fun bs => .bl (bs.all id)
  | .any, [.lst ds] => (asBls ds).map fun bs => .bl (bs.any id)
  | .sum, [.lst ds] => (asInts ds).map fun bs => .int bs.sum
  | .abs, [.int i] => some (.int (if i < 0 then -i else i))
  | .int, [.int i] => some (.int i)
  | .int, [.str s] => match PySem.intText? s with
    | some n => if s.length ≤ 640 then some (.int n) else none
    | none => none
  | .str, [.int i] => if i.natAbs.log2 < 1920 then some (.str (toString i)) else none
  | .max2, [.int i, .int j] => some (.int (if j > i then j else i))
  | .min2, [.int i, .int j] => some (.int (if j < i then j else i))
  | _, _ => none
def isiD : D → Ty → Option Bool
  | .int _, .int => some true
  | .bl _, .int => some true
  | .bl _, .bool => some true
  | .str _, .str => some true
  | .tup _, .tuple => some true
  | .lst _, .list => some true
  | .cell _, _ => none
  | _, _ => some false
def meD : Me → D → List D → Option D
  | .bits, .int i, [] => some (.int (Builtin.Int.intBits i : Nat))
  | .partition, .str a, [.str b] => if (b.length == 0) = false ∧ a.length ≤ sizeLine then some (.tup [.str (Txt.partition a b).1, .str (Txt.partition a b).2.1, .str (Txt.partition a b).2.2]) else none
  | .join, .str a, [.lst ds] => match asStrs ds with
    | some ys => if (ys.map (·.length)).sum + ys.length * a.length ≤ 16777216 then some (.str (Txt.join a ys)) else none
    | none => none
  | _, _, _ => none

def opL : Operator → D → D → Option D
  | .Add, .lst a, .lst b => if a.length + b.length ≤ sizeLine then some (.lst (a ++ b)) else none
  | .Mult, .tup a, .int k => if ¬ a.isEmpty = true ∧ 2 ≤ k ∧ k ≤ 1000 ∧ a.length ≤ 1000 then some (.tup (List.replicate k.toNat a).flatten) else none
  | _, _, _ => none
def opD (o : Operator) (x y : D) : Option D := match opA o x y with
  | some z => some z
  | none => opL o x y
/-! ### binding -/
def setAll : List Nat → List D → Env → Env
  | i :: is, d :: ds, ρ => setAll is ds (ρ.set i (some (.pl d)))
  | _, _, ρ => ρ
def itemsOf : D → Option (List D)
  | .tup ds => some ds
  | _ => none
def bindT (tg : Tg) (d : D) (ρ : Env) : Option Env := match tg with
  | .nm i => some (ρ.set i (some (.pl d)))
  | .tp is => match d with
    | .tup ds => if ds.length = is.length then some (setAll is ds ρ) else none
    | _ => none
def lcGo (tg : Tg) (c : Env → Cells → Option (Bool × Cells)) (f : Env → Cells → Option (D × Cells)) (ρ : Env) : List D → Cells → Option (List D × Cells)
  | [], μ => some ([], μ)
  | x :: xs, μ =>
    match bindT tg x ρ with
    | none => none
    | some ρ1 => match c ρ1 μ with
      | none => none
      | some (false, μ1) => lcGo tg c f ρ xs μ1
      | some (true, μ1) => match f ρ1 μ1 with
        | none => none
        | some (y, μ2) => match lcGo tg c f ρ xs μ2 with
          | none => none
          | some (ys, μ3) => some (y :: ys, μ3)
def rngOk (i : Int) : Bool := decide (-(2 ^ 62) ≤ i) && decide (i < 2 ^ 62)
def rngD (lo : Int) (n : Nat) : List D := (List.range n).map fun (k : Nat) => D.int (lo + k)

def signs (s : Str) : List D := s.cps.toList.map fun c => D.str ⟨#[c]⟩
/-- a range with a step -/
def rngS (lo c : Int) (n : Nat) : List D := (List.range n).map fun (k : Nat) => D.int (lo + (k : Nat) * c)
def rgOk (i j c : Int) : Bool := decide (c ≠ 0) && decide (c.natAbs < 1073741824) && PySem.Builtin.Range.small i j c && decide (0 ≤ PySem.Builtin.Range.rangeSize i j c)
/-- an item put in at a place -/
def insAt {α : Type} (xs : List α) (i : Nat) (y : α) : List α := xs.take i ++ [y] ++ xs.drop i
/-! ### the evaluator -/
abbrev Fs := Nat → List D → Cells → Option (D × Cells)
abbrev Rs (α : Type) := Option (α × Cells)
def andThen {α β : Type} (x : Rs α) (f : α → Cells → Option β) : Option β := match x with
  | some (a, μ) => f a μ
  | none => none
def onBl {β : Type} (x : Rs D) (f : Bool → Cells → Option β) : Option β := match x with
  | some (.bl b, μ) => f b μ
  | _ => none
def wthD (z : Option D) (μ : Cells) : Rs D := z.map (·, μ)
mutual
def ev (F : Fs) : E → Env → Cells → Rs D
  | .var i, ρ, μ => match ρ[i]? with
    | some (some s) => some (s.d, μ)
    | _ => none
  | .int i, _, μ => some (.int i, μ)
  | .bl b, _, μ => some (.bl b, μ)
  | .non, _, μ => some (.non, μ)
  | .str s, _, μ => some (.str s, μ)
  | .op o a b, ρ, μ => andThen (ev F a ρ μ) fun x μ1 => andThen (ev F b ρ μ1) fun y μ2 => wthD (opD o x y) μ2
  | .neg a, ρ, μ => andThen (ev F a ρ μ) fun x μ1 => wthD (negD x) μ1
  | .cmp o a b, ρ, μ => andThen (ev F a ρ μ) fun x μ1 => andThen (ev F b ρ μ1) fun y μ2 => wthD ((cmpD o x y).map D.bl) μ2
  | .chn o o' a b c, ρ, μ => andThen (ev F a ρ μ) fun x μ1 => andThen (ev F b ρ μ1) fun y μ2 => match cmpD o x y with
    | some true => andThen (ev F c ρ μ2) fun z μ3 => wthD ((cmpD o' y z).map D.bl) μ3
    | some false => some (.bl false, μ2)
    | none => none
  | .and a b, ρ, μ => onBl (ev F a ρ μ) fun x μ1 => if x then onBl (ev F b ρ μ1) fun y μ2 => some (.bl y, μ2) else some (.bl false, μ1)
  | .or a b, ρ, μ => onBl (ev F a ρ μ) fun x μ1 => if x then some (.bl true, μ1) else onBl (ev F b ρ μ1) fun y μ2 => some (.bl y, μ2)
  | .not a, ρ, μ => onBl (ev F a ρ μ) fun x μ1 => some (.bl (!x), μ1)
  | .ife c a b, ρ, μ => onBl (ev F c ρ μ) fun x μ1 => if x then ev F a ρ μ1 else ev F b ρ μ1
  | .tup es, ρ, μ => if lks ρ es then none else andThen (evs F es ρ μ) fun xs μ1 => if xs.length ≤ sizeLine then some (.tup xs, μ1) else none
  | .lst es, ρ, μ => if lks ρ es then none else andThen (evs F es ρ μ) fun xs μ1 => if xs.length ≤ sizeLine then some (.lst xs, μ1) else none
  | .ix a b, ρ, μ => andThen (ev F a ρ μ) fun x μ1 => andThen (ev F b ρ μ1) fun y μ2 => wthD (ixD μ2 x y) μ2
  | .sl a lo hi, ρ, μ => andThen (ev F a ρ μ) fun x μ1 => andThen (evo F lo ρ μ1) fun l μ2 => andThen (evo F hi ρ μ2) fun h μ3 => wthD (slD x l h) μ3
  | .call f es, ρ, μ => if lks ρ es then none else andThen (evs F es ρ μ) fun xs μ1 => F f xs μ1
  | .callB f es, ρ, μ => andThen (evs F es ρ μ) fun xs μ1 => if noCells xs then (match F f xs [] with
    | some (d, _) => if d.noCell && d.noLst then some (d, μ1) else none
    | none => none) else none
  | .bi b es, ρ, μ => andThen (evs F es ρ μ) fun xs μ1 => wthD (biD μ1 b xs) μ1
  | .isi a t, ρ, μ => andThen (ev F a ρ μ) fun x μ1 => wthD ((isiD x t).map D.bl) μ1
  | .me m o es, ρ, μ => andThen (ev F o ρ μ) fun x μ1 => andThen (evs F es ρ μ1) fun xs μ2 => wthD (meD m x xs) μ2
  | .lc elt tg it cond, ρ, μ => andThen (evi F it ρ μ) fun xs μ1 =>
      if xs.length ≤ 16777216 then andThen (lcGo tg (fun ρ' μ' => evc F cond ρ' μ') (fun ρ' μ' => if lk ρ' elt then none else ev F elt ρ' μ') ρ xs μ1) fun ys μ2 => some (.lst ys, μ2) else none
  | .dict ks es, ρ, μ => if lks ρ es then none else andThen (evs F es ρ μ) fun xs μ1 => if xs.length = ks.length ∧ ks.length ≤ 15 ∧ ks.Nodup then some (.cell μ1.length, μ1 ++ [(ks.map Sum.inr).zip xs]) else none
def evs (F : Fs) : Es → Env → Cells → Rs (List D)
  | .nil, _, μ => some ([], μ)
  | .cons e es, ρ, μ => andThen (ev F e ρ μ) fun x μ1 => andThen (evs F es ρ μ1) fun xs μ2 => some (x :: xs, μ2)
def evo (F : Fs) : EO → Env → Cells → Rs (Option Int)
  | .none, _, μ => some (none, μ)
  | .some e, ρ, μ => andThen (ev F e ρ μ) fun x μ1 => match x with
    | .int i => some (some i, μ1)
    | _ => none
def evc (F : Fs) : EO → Env → Cells → Rs Bool
  | .none, _, μ => some (true, μ)
  | .some e, ρ, μ => onBl (ev F e ρ μ) fun x μ1 => some (x, μ1)
def evi (F : Fs) : It → Env → Cells → Rs (List D)
  | .seq e, ρ, μ => andThen (ev F e ρ μ) fun x μ1 => match x with
    | .lst ds => some (ds, μ1)
    | .tup ds => some (ds, μ1)
    | .str s => some (signs s, μ1)
    | _ => none
  | .rng1 a, ρ, μ => andThen (ev F a ρ μ) fun x μ1 => match x with
    | .int n => if rngOk n then some (rngD 0 n.toNat, μ1) else none
    | _ => none
  | .rng2 a b, ρ, μ => andThen (ev F a ρ μ) fun x μ1 => andThen (ev F b ρ μ1) fun y μ2 => match x, y with
    | .int m, .int n => if rngOk m && rngOk n then some (rngD m (n - m).toNat, μ2) else none
    | _, _ => none
  | .rng3 a b c, ρ, μ => andThen (ev F a ρ μ) fun x μ1 => andThen (ev F b ρ μ1) fun y μ2 => andThen (ev F c ρ μ2) fun z μ3 => match x, y, z with
    | .int m, .int n, .int s => if rgOk m n s then some (rngS m s (PySem.Builtin.Range.rangeSize m n s).toNat, μ3) else none
    | _, _, _ => none
end

/-! ### statements -/
inductive Res where
  | nx (ρ : Env) (μ : Cells) | bk (ρ : Env) (μ : Cells) | ct (ρ : Env) (μ : Cells) | rt (d : D) (μ : Cells)
def whileF (c : Env → Cells → Option (Bool × Cells)) (b : Env → Cells → Option Res) : Nat → Env → Cells → Option Res
  | 0, _, _ => none
  | n + 1, ρ, μ => match c ρ μ with
    | none => none
    | some (false, μ1) => some (.nx ρ μ1)
    | some (true, μ1) => match b ρ μ1 with
      | none => none
      | some (.nx ρ2 μ2) => whileF c b n ρ2 μ2
      | some (.ct ρ2 μ2) => whileF c b n ρ2 μ2
      | some (.bk ρ2 μ2) => some (.nx ρ2 μ2)
      | some (.rt d μ2) => some (.rt d μ2)
def forF (tg : Tg) (b : Env → Cells → Option Res) : List D → Env → Cells → Option Res
  | [], ρ, μ => some (.nx ρ μ)
  | x :: xs, ρ, μ => match bindT tg x ρ with
    | none => none
    | some ρ1 => match b ρ1 μ with
      | none => none
      | some (.nx ρ2 μ2) => forF tg b xs ρ2 μ2
      | some (.ct ρ2 μ2) => forF tg b xs ρ2 μ2
      | some (.bk ρ2 μ2) => some (.nx ρ2 μ2)
      | some (.rt d μ2) => some (.rt d μ2)
/-- whether no slot among these is owned -/
def noOw (ρ : Env) : List Nat → Bool
  | [] => true
  | i :: is => !isOw ρ i && noOw ρ is
mutual
def exec (F : Fs) (W : Nat) : S → Env → Cells → Option Res
  | .asg i e, ρ, μ => if lk ρ e || isOw ρ i then none else andThen (ev F e ρ μ) fun x μ1 => some (.nx (ρ.set i (some (.pl x))) μ1)
  | .own i, ρ, μ => if isOw ρ i then none else some (.nx (ρ.set i (some (.ow []))) μ)
  | .asgT is e, ρ, μ => if lk ρ e || !noOw ρ is then none else andThen (ev F e ρ μ) fun x μ1 => match x with
    | .tup ds => if ds.length = is.length then some (.nx (setAll is ds ρ) μ1) else none
    | _ => none
  | .par i j a b, ρ, μ => if lk ρ a || lk ρ b || isOw ρ i || isOw ρ j || i == j then none else andThen (ev F a ρ μ) fun x μ1 => andThen (ev F b ρ μ1) fun y μ2 => some (.nx ((ρ.set i (some (.pl x))).set j (some (.pl y))) μ2)
  | .aug i o e, ρ, μ => match ρ[i]? with
    | some (some (.pl (.int x))) => andThen (ev F e ρ μ) fun y μ1 => match o, y with
      | .Add, .int y => some (.nx (ρ.set i (some (.pl (.int (x + y))))) μ1)
      | .Sub, .int y => some (.nx (ρ.set i (some (.pl (.int (x - y))))) μ1)
      | _, _ => none
    | _ => none
  | .app i e, ρ, μ => match ρ[i]? with
    | some (some (.ow ds)) => if lk ρ e then none else andThen (ev F e ρ μ) fun x μ1 => if ds.length < sizeLine then some (.nx (ρ.set i (some (.ow (ds ++ [x])))) μ1) else none
    | _ => none
  | .ins i k e, ρ, μ => match ρ[i]? with
    | some (some (.ow ds)) => if lk ρ e || lk ρ k then none else andThen (ev F k ρ μ) fun z μ1 => andThen (ev F e ρ μ1) fun x μ2 => match z with
      | .int j => if ds.length < sizeLine ∧ 0 ≤ j ∧ j < 2 ^ 63 then some (.nx (ρ.set i (some (.ow (insAt ds j.toNat x)))) μ2) else none
      | _ => none
    | _ => none
  | .daug o k op e, ρ, μ => andThen (ev F o ρ μ) fun x μ1 => andThen (ev F k ρ μ1) fun y μ2 => match x, keyD y with
    | .cell n, some q => match (μ2[n]?).bind (valC · q) with
      | some (.int i) => andThen (ev F e ρ μ2) fun z μ3 => match op, z, μ3[n]? with
        | .Add, .int j, some c => if c.length < sizeLine then some (.nx ρ (μ3.set n (putC c q (.int (i + j))))) else none
        | .Sub, .int j, some c => if c.length < sizeLine then some (.nx ρ (μ3.set n (putC c q (.int (i - j))))) else none
        | _, _, _ => none
      | _ => none
    | _, _ => none
  | .ret e, ρ, μ => if lk ρ e then none else andThen (ev F e ρ μ) fun x μ1 => some (.rt x μ1)
  | .ifs c a b, ρ, μ => onBl (ev F c ρ μ) fun x μ1 => if x then execs F W a ρ μ1 else execs F W b ρ μ1
  | .whl c b, ρ, μ => whileF (fun ρ' μ' => onBl (ev F c ρ' μ') fun x μ1 => some (x, μ1)) (fun ρ' μ' => execs F W b ρ' μ') W ρ μ
  | .for_ tg it b, ρ, μ => andThen (evi F it ρ μ) fun xs μ1 => if it.lk ρ then none else forF tg (fun ρ' μ' => execs F W b ρ' μ') xs ρ μ1
  | .expr e, ρ, μ => andThen (ev F e ρ μ) fun _ μ1 => some (.nx ρ μ1)
  | .pass, ρ, μ => some (.nx ρ μ)
  | .brk, ρ, μ => some (.bk ρ μ)
  | .cont, ρ, μ => some (.ct ρ μ)
  | .frz i, ρ, μ => match ρ[i]? with
    | some (some (.ow ds)) => some (.nx (ρ.set i (some (.pl (.lst ds)))) μ)
    | _ => none
def execs (F : Fs) (W : Nat) : Ss → Env → Cells → Option Res
  | .nil, ρ, μ => some (.nx ρ μ)
  | .cons s ss, ρ, μ => match exec F W s ρ μ with
    | some (.nx ρ1 μ1) => execs F W ss ρ1 μ1
    | r => r
end
/-- a def: how many parameters, how many slots, its body -/
structure Fn where
  ar : Nat
  sl : Nat
  body : Ss
def runFn (F : Fs) (W : Nat) (fn : Fn) (ds : List D) (μ : Cells) : Option (D × Cells) :=
  if ds.length = fn.ar ∧ fn.ar ≤ fn.sl then
    match execs F W fn.body (ds.map (fun d => some (.pl d)) ++ List.replicate (fn.sl - fn.ar) none) μ with
    | some (.rt d μ1) => some (d, μ1)
    | some (.nx _ μ1) => some (.non, μ1)
    | _ => none
  else none
def call (T : Nat → Option Fn) (W : Nat) : Nat → Fs
  | 0, _, _, _ => none
  | n + 1, f, ds, μ => match T f with
    | some fn => runFn (call T W n) W fn ds μ
    | none => none
end FM

set_option Elab.async false
set_option linter.all false
set_option maxRecDepth 100000
set_option maxHeartbeats 4000000
/-! Ev3: operators, comparisons, subscripts, slices, built-ins, methods: what the evaluator says is what the hand layer's rules give. -/
namespace FM
open PySem PySem.Spec PyProof.Rows L2

/-- a datum's representation, or (b) a list that its slot owns -/
def RepB (K : PySem.W.Frag) (own : Addr → Prop) (ads : List Addr) (H : Hp) (b : Bool) (v : V) (d : D) : Prop :=
  Rep K (Zo own ads) ads H v d ∨ (b = true ∧ ∃ a xs ds, v = .ref a ∧ d = .lst ds ∧ H a = some (.lst xs) ∧ own a ∧ RepL K (Zo own ads) ads H xs ds)
section
variable {K : PySem.W.Frag} {own : Addr → Prop} {ads ads' : List Addr} {H H' : Hp} {μ : Cells} {b : Bool} {v : V} {d : D}
theorem RepB.of (h : Rep K (Zo own ads) ads H v d) : RepB K own ads H b v d := .inl h
theorem RepB.plain (h : RepB K own ads H false v d) : Rep K (Zo own ads) ads H v d := by
  rcases h with h | ⟨h, _⟩
  · exact h
  · cases h
theorem RepB.ext (c : CellsR K own ads H μ) (e : Ext ads H ads' H') (h : RepB K own ads H b v d) : RepB K own ads' H' b v d := by
  rcases h with h | ⟨h, a, xs, ds, e1, e2, e3, e4, e5⟩
  · exact .inl (h.ext e)
  · exact .inr ⟨h, a, xs, ds, e1, e2, e.keep _ _ e3 fun m => c.dis a m e4, e4, e5.ext e⟩
theorem RepB.non (h : RepB K own ads H b v .non) : v = .non := by
  rcases h with h | ⟨_, _, _, _, _, e, _⟩
  · cases h; rfl
  · cases e
theorem RepB.int {i : Int} (h : RepB K own ads H b v (.int i)) : v = .int i := by
  rcases h with h | ⟨_, _, _, _, _, e, _⟩
  · cases h; rfl
  · cases e
theorem RepB.bl {i : Bool} (h : RepB K own ads H b v (.bl i)) : v = .bl i := by
  rcases h with h | ⟨_, _, _, _, _, e, _⟩
  · cases h; rfl
  · cases e
theorem RepB.str {i : Str} (h : RepB K own ads H b v (.str i)) : v = .str i := by
  rcases h with h | ⟨_, _, _, _, _, e, _⟩
  · cases h; rfl
  · cases e
theorem RepB.tup {ds : List D} (h : RepB K own ads H b v (.tup ds)) : ∃ a xs, v = .ref a ∧ TupAt K (Zo own ads) H a xs ∧ RepL K (Zo own ads) ads H xs ds := by
  rcases h with h | ⟨_, _, _, _, _, e, _⟩
  · cases h with
    | tup h1 h2 => exact ⟨_, _, rfl, h1, h2⟩
  · cases e
theorem RepB.lst {ds : List D} (h : RepB K own ads H b v (.lst ds)) : ∃ a xs, v = .ref a ∧ SqL K H a xs ∧ RepL K (Zo own ads) ads H xs ds := by
  rcases h with h | ⟨_, a, xs, ds', e1, e, e3, _, e5⟩
  · cases h with
    | lst h1 h2 => exact ⟨_, _, rfl, h1.sq, h2⟩
  · cases e
    exact ⟨a, xs, e1, .inl (.inl e3), e5⟩
theorem RepB.cell {k : Nat} (h : RepB K own ads H b v (.cell k)) : ∃ a, v = .ref a ∧ ads[k]? = some a := by
  rcases h with h | ⟨_, _, _, _, _, e, _⟩
  · cases h with
    | cell h1 => exact ⟨_, rfl, h1⟩
  · cases e
mutual
theorem Rep.dp {Z : Addr → Prop} : ∀ (d : D) (v : V), Rep K Z ads H v d → d.noCell = true → Dp K H v d.py
  | .non, _, h, _ => by cases h; exact .non
  | .bl b, _, h, _ => by cases h; exact .bl b
  | .int i, _, h, _ => by cases h; exact .int i
  | .str x, _, h, _ => by cases h; exact .str x
  | .tup ds, _, h, n => by
    cases h with
    | tup h1 h2 => exact .tup h1.sq (RepL.dp ds _ h2 n)
  | .lst ds, _, h, n => by
    cases h with
    | lst h1 h2 => exact .lst h1.sq (RepL.dp ds _ h2 n)
  | .cell k, _, h, n => by cases n
theorem RepL.dp {Z : Addr → Prop} : ∀ (ds : List D) (vs : List V), RepL K Z ads H vs ds → noCells ds = true → DpAll K H vs (pyAll ds)
  | [], _, h, _ => by cases h; exact .nil
  | d :: ds, _, h, n => by
    cases h with
    | cons h1 h2 =>
      have n' : (d.noCell && noCells ds) = true := n
      rw [Bool.and_eq_true] at n'
      exact .cons (Rep.dp d _ h1 n'.1) (RepL.dp ds _ h2 n'.2)
end
theorem RepB.dp (h : RepB K own ads H b v d) (n : d.noCell = true) : Dp K H v d.py := by
  rcases h with h | ⟨_, a, xs, ds, e1, e, e3, _, e5⟩
  · exact h.dp d v n
  · subst e1 e
    exact .lst (.inl (.inl e3)) (e5.dp ds xs n)
end

/-- what is wanted behind: the datum z, the cells μ' -/
abbrev Fin (K : PySem.W.Frag) (own : Addr → Prop) (ads : List Addr) (H : Hp) (b : Bool) (z : D) (μ' : Cells) (Q : VK) : Prop :=
  ∀ v H' ads', Ext ads H ads' H' → CellsR K own ads' H' μ' → RepB K own ads' H' b v z → Q v H'
section
variable {K : PySem.W.Frag} {own : Addr → Prop} {ads ads' : List Addr} {H H' : Hp} {μ : Cells} {b : Bool} {Q : VK}
theorem Fin.int {i : Int} (q : Fin K own ads H b (.int i) μ Q) (c : CellsR K own ads H μ) : Q (.int i) H := q _ _ _ .refl c (.inl (.int i))
theorem Fin.bl {i : Bool} (q : Fin K own ads H b (.bl i) μ Q) (c : CellsR K own ads H μ) : Q (.bl i) H := q _ _ _ .refl c (.inl (.bl i))
theorem Fin.str {i : Str} (q : Fin K own ads H b (.str i) μ Q) (c : CellsR K own ads H μ) : Q (.str i) H := q _ _ _ .refl c (.inl (.str i))
theorem Fin.same {v : V} {d : D} (q : Fin K own ads H b d μ Q) (c : CellsR K own ads H μ) (h : Rep K (Zo own ads) ads H v d) : Q v H := q _ _ _ .refl c (.inl h)
theorem Fin.newT {xs : List V} {ds : List D} (q : Fin K own ads H b (.tup ds) μ Q) (c : CellsR K own ads H μ) (h : RepL K (Zo own ads) ads H xs ds) : ∀ p, H p = none → Q (.ref p) (upd H p (.tup xs)) :=
  fun p hp => q _ _ _ (.fresh hp) (c.fresh hp) (.inl (Rep.newTup c hp h))
theorem Fin.newL {xs : List V} {ds : List D} (q : Fin K own ads H b (.lst ds) μ Q) (c : CellsR K own ads H μ) (h : RepL K (Zo own ads) ads H xs ds) : ∀ p, H p = none → Q (.ref p) (upd H p (.lst xs)) :=
  fun p hp => q _ _ _ (.fresh hp) (c.fresh hp) (.inl (Rep.newLst c hp h))
end

/-! ### operators -/
def rA (K : PySem.W.Frag) (o : Operator) : R2 := fun x y H Q => ∃ own ads μ b1 b2 dx dy dz, CellsR K own ads H μ ∧ RepB K own ads H b1 x dx ∧ RepB K own ads H b2 y dy ∧ opA o dx dy = some dz ∧ Fin K own ads H false dz μ Q
def rD (K : PySem.W.Frag) (o : Operator) : R2 := fun x y H Q => ∃ own ads μ b1 b2 dx dy dz, CellsR K own ads H μ ∧ RepB K own ads H b1 x dx ∧ RepB K own ads H b2 y dy ∧ opD o dx dy = some dz ∧ Fin K own ads H false dz μ Q
section
variable {X : Cx}
theorem op_subB : OpR X (binaryOp .Sub) (fun x y H Q => ∃ i j, x = .bl i ∧ y = .bl j ∧ Q (.int (b2i i - b2i j)) H) := by
  intro pins s σ H x y v u Q I rx ry h
  obtain ⟨i, j, rfl, rfl, q⟩ := h
  cases rx
  cases ry
  exact PyProof.Rows.sub_bool ⟨.int _, H, I.tok _, ⟨_, rfl⟩, q⟩
theorem op_fdivD : OpR X (binaryOp .FloorDiv) (rI (fun i j => divOk i j = true) fun i j => .int (i.fdiv j)) := by
  intro pins s σ H x y v u Q I rx ry h
  obtain ⟨i, j, e1, e2, hc, q⟩ := h
  unfold divOk at hc
  rw [Bool.or_eq_true, decide_eq_true_eq, decide_eq_true_eq] at hc
  rcases hc with hc | hc
  · exact op_fdivN pins s σ H x y v u Q I rx ry ⟨i, j, e1, e2, hc, q⟩
  · refine op_fdivW pins s σ H x y v u Q I rx ry ⟨i, j, e1, e2, hc, ?_⟩
    have e : i.fdiv j = i / j := Int.fdiv_eq_ediv_of_nonneg i (by omega)
    show Q (V.int (i / j)) H
    rw [← e]
    exact q
theorem mulOk_ok {i j : Int} (h : mulOk i j = true) : CMulW i j := by
  unfold mulOk at h
  have z := of_decide_eq_true h
  exact z
theorem powOk_ok {i j : Int} (h : powOk i j = true) : CPow i j := by
  unfold powOk at h
  have z := of_decide_eq_true h
  exact z
/-- two lists, whatever kind of list they are -/
theorem op_catL : OpR X (binaryOp .Add) (fun x y H Q => ∃ l b xs zs, x = .ref l ∧ y = .ref b ∧ SqL X.K H l xs ∧ SqL X.K H b zs ∧ xs.length + zs.length ≤ sizeLine ∧ ∀ p, H p = none → Q (.ref p) (upd H p (.lst (xs ++ zs)))) := by
  intro pins s σ H x y v u Q I rx ry h
  obtain ⟨l, b, xs, zs, rfl, rfl, hH, hB, hz, q⟩ := h
  cases rx
  cases ry
  obtain ⟨its, r, ⟨⟨cls, dd, data, sls⟩, n, e, hc, hdn, hdt⟩, hl⟩ := I.list hH
  obtain ⟨its2, r2, ⟨⟨cls2, dd2, data2, sls2⟩, n2, e2, hc2, hdn2, hdt2⟩, hl2⟩ := I.list hB
  simp only at hc hdt hc2 hdt2
  subst hc hdt hc2 hdt2
  have q1 := r.length
  have q2 := r2.length
  have ea : its.toArray ++ its2.toArray = (its ++ its2).toArray := by simp
  refine concat_meets ⟨_, e, rfl⟩ ⟨_, e2, rfl⟩ noFill_list_add seq_list_add PySem.F.slot_list_add PySem.F.entry_list_add (PySem.F.args_list_add_2 _ _) (PyProof.Rows.list_addW l b its.toArray its2.toArray n n2 dd dd2 sls sls2 (by rw [List.size_toArray, List.size_toArray]; omega)) ⟨e, e2, ?_⟩
  rw [ea]
  exact ⟨.ref _, _, I.lnew (t' := s.toks) (r.append r2) (by rw [List.length_append]; omega), rfl, q _ I.fresh⟩
theorem RepL.flat {K : PySem.W.Frag} {Z : Addr → Prop} {ads : List Addr} {H : Hp} {xs : List V} {ds : List D} (l : RepL K Z ads H xs ds) : ∀ n : Nat, RepL K Z ads H (List.replicate n xs).flatten (List.replicate n ds).flatten
  | 0 => .nil
  | n + 1 => by
    rw [List.replicate_succ, List.replicate_succ, List.flatten_cons, List.flatten_cons]
    exact l.append (l.flat n)
theorem op_A (o : Operator) : OpR X (binaryOp o) (rA X.K o) := by
  intro pins s σ H x y v u Q I rx ry h
  obtain ⟨own, ads, μ, b1, b2, dx, dy, dz, c, h1, h2, hz, q⟩ := h
  unfold opA at hz
  split at hz
  · cases hz; exact op_add pins s σ H x y v u Q I rx ry ⟨_, _, h1.int, h2.int, q.int c⟩
  · split at hz
    · cases hz; exact op_add_str pins s σ H x y v u Q I rx ry ⟨_, _, h1.str, h2.str, by assumption, q.str c⟩
    · cases hz
  · split at hz
    · rename_i hl
      cases hz
      obtain ⟨a1, xs, e1, t1, l1⟩ := h1.tup
      obtain ⟨a2, ys, e2, t2, l2⟩ := h2.tup
      refine op_catA pins s σ H x y v u Q I rx ry ⟨a1, a2, xs, ys, e1, e2, t1.sq, t2.sq, by rw [l1.length, l2.length]; exact hl, fun e => ?_, fun _ e => ?_, fun _ _ => q.newT c (l1.append l2)⟩
      · subst e
        cases l1
        exact q.same c (.tup t2 l2)
      · subst e
        cases l2
        rw [List.append_nil] at q
        exact q.same c (.tup t1 l1)
    · cases hz
  · cases hz; exact op_sub pins s σ H x y v u Q I rx ry ⟨_, _, h1.int, h2.int, q.int c⟩
  · cases hz; exact op_subB pins s σ H x y v u Q I rx ry ⟨_, _, h1.bl, h2.bl, q.int c⟩
  · split at hz
    · rename_i hm
      cases hz; exact op_mulW pins s σ H x y v u Q I rx ry ⟨_, _, h1.int, h2.int, mulOk_ok hm, q.int c⟩
    · cases hz
  · split at hz
    · cases hz; exact op_fdivD pins s σ H x y v u Q I rx ry ⟨_, _, h1.int, h2.int, by assumption, q.int c⟩
    · cases hz
  · split at hz
    · cases hz
    · cases hz; exact op_modN pins s σ H x y v u Q I rx ry ⟨_, _, h1.int, h2.int, by assumption, q.int c⟩
  · split at hz
    · rename_i hm
      cases hz; exact op_pow pins s σ H x y v u Q I rx ry ⟨_, _, h1.int, h2.int, powOk_ok hm, q.int c⟩
    · cases hz
  · split at hz
    · rename_i hm
      cases hz; exact op_shl pins s σ H x y v u Q I rx ry ⟨_, _, h1.int, h2.int, powOk_ok hm, q.int c⟩
    · cases hz
  · cases hz
theorem op_D (o : Operator) : OpR X (binaryOp o) (rD X.K o) := by
  intro pins s σ H x y v u Q I rx ry h
  obtain ⟨own, ads, μ, b1, b2, dx, dy, dz, c, h1, h2, hz, q⟩ := h
  unfold opD at hz
  split at hz
  · rename_i z hA
    cases hz
    exact op_A o pins s σ H x y v u Q I rx ry ⟨own, ads, μ, b1, b2, dx, dy, _, c, h1, h2, hA, q⟩
  · unfold opL at hz
    split at hz
    · split at hz
      · rename_i hl
        cases hz
        obtain ⟨a1, xs, e1, t1, l1⟩ := h1.lst
        obtain ⟨a2, ys, e2, t2, l2⟩ := h2.lst
        exact op_catL pins s σ H x y v u Q I rx ry ⟨a1, a2, xs, ys, e1, e2, t1, t2, by rw [l1.length, l2.length]; exact hl, q.newL c (l1.append l2)⟩
      · cases hz
    · split at hz
      · rename_i hl
        cases hz
        obtain ⟨a1, xs, e1, t1, l1⟩ := h1.tup
        have ez := h2.int
        exact op_repT pins s σ H x y v u Q I rx ry ⟨a1, _, xs, e1, ez, t1.sq, fun z => hl.1 (by subst z; cases l1; rfl), hl.2.1, hl.2.2.1, by rw [l1.length]; exact hl.2.2.2, q.newT c (l1.flat _)⟩
      · cases hz
    · cases hz
def rN (K : PySem.W.Frag) : V → Hp → VK → Prop := fun x H Q => ∃ own ads μ b1 dx dz, CellsR K own ads H μ ∧ RepB K own ads H b1 x dx ∧ negD dx = some dz ∧ Fin K own ads H false dz μ Q
theorem un_D : UnR X (unaryOp .USub) (rN X.K) := by
  intro pins s σ H x v Q I rx h
  obtain ⟨own, ads, μ, b1, dx, dz, c, h1, hz, q⟩ := h
  unfold negD at hz
  split at hz
  · cases hz; exact un_neg pins s σ H x v Q I rx ⟨_, h1.int, q.int c⟩
  · cases hz
end

/-! ### comparisons -/
theorem eqS_scal {K : PySem.W.Frag} {own : Addr → Prop} {ads : List Addr} {H : Hp} {b1 b2 : Bool} {x y : V} {dx dy : D} (h1 : RepB K own ads H b1 x dx) (h2 : RepB K own ads H b2 y dy) (h : scalOk dx dy = true) :
    scal x y = true ∧ decide (x = y) = eqS dx dy := by
  cases dx <;> cases dy <;> first
    | (exfalso; revert h; decide)
    | (exfalso; revert h; simp [scalOk, D.scal]; done)
    | skip
  all_goals first | (have e1 := h1.non; subst e1) | (have e1 := h1.int; subst e1) | (have e1 := h1.bl; subst e1) | (have e1 := h1.str; subst e1)
  all_goals first | (have e2 := h2.non; subst e2) | (have e2 := h2.int; subst e2) | (have e2 := h2.bl; subst e2) | (have e2 := h2.str; subst e2)
  all_goals refine ⟨rfl, ?_⟩
  all_goals first | rfl | (simp [eqS]; done) | (simp only [eqS]; first | exact dec_int | exact dec_bl | exact dec_str)
theorem eqS_V {K : PySem.W.Frag} {own : Addr → Prop} {ads : List Addr} {H : Hp} {b1 b2 : Bool} {x y : V} {dx dy : D} (h1 : RepB K own ads H b1 x dx) (h2 : RepB K own ads H b2 y dy) (h : scalOk dx dy = true) :
    flatV x = true ∧ flatV y = true ∧ eqV x y = eqS dx dy := by
  cases dx <;> cases dy <;> first
    | (exfalso; revert h; decide)
    | (exfalso; revert h; simp [scalOk, D.scal]; done)
    | skip
  all_goals first | (have e1 := h1.non; subst e1) | (have e1 := h1.int; subst e1) | (have e1 := h1.bl; subst e1) | (have e1 := h1.str; subst e1)
  all_goals first | (have e2 := h2.non; subst e2) | (have e2 := h2.int; subst e2) | (have e2 := h2.bl; subst e2) | (have e2 := h2.str; subst e2)
  all_goals refine ⟨rfl, rfl, ?_⟩
  all_goals first | rfl | (simp [eqS, eqV]; done)
theorem inD_V {K : PySem.W.Frag} {own : Addr → Prop} {ads : List Addr} {H : Hp} {b1 : Bool} {x : V} {dx : D} (h1 : RepB K own ads H b1 x dx) : ∀ {ds : List D} {xs : List V} {r : Bool}, RepL K (Zo own ads) ads H xs ds → inD dx ds = some r → ds ≠ [] →
    flatV x = true ∧ xs.all flatV = true ∧ inV x xs = r
  | [], _, _, _, _, n => absurd rfl n
  | d :: ds, _, r, h, e, _ => by
    cases h with
    | @cons v _ vs _ hv hl =>
      unfold inD at e
      by_cases hs : scalOk d dx = true
      · rw [if_pos hs] at e
        obtain ⟨f1, f2, f3⟩ := eqS_V (RepB.of (b := false) hv) h1 hs
        by_cases he : eqS d dx = true
        · rw [if_pos he] at e
          split at e
          · rename_i ha
            cases e
            refine ⟨f2, ?_, ?_⟩
            · have all : ∀ (ds : List D) (vs : List V), RepL K (Zo own ads) ads H vs ds → ds.all (fun z => scalOk z dx) = true → vs.all flatV = true := by
                intro ds
                induction ds with
                | nil => intro vs h _; cases h; rfl
                | cons d' ds ih =>
                  intro vs h ha
                  cases h with
                  | cons g1 g2 =>
                    rw [List.all_cons, Bool.and_eq_true] at ha
                    rw [List.all_cons, Bool.and_eq_true]
                    exact ⟨(eqS_V (RepB.of (b := false) g1) h1 ha.1).1, ih _ g2 ha.2⟩
              exact all _ _ (.cons hv hl) ha
            · show (List.any (v :: vs) fun y => eqV y x) = true
              rw [List.any_cons, f3, he]
              rfl
          · cases e
        · rw [if_neg he] at e
          by_cases hn : ds = []
          · subst hn
            cases hl
            unfold inD at e
            have e : r = false := by
              split at e
              · cases e; rfl
              · cases e
            subst e
            refine ⟨f2, by simp [f1], ?_⟩
            show (List.any [v] fun y => eqV y x) = false
            rw [List.any_cons, f3]
            simpa using he
          · obtain ⟨g1, g2, g3⟩ := inD_V h1 hl e hn
            refine ⟨g1, by rw [List.all_cons, f1, g2]; rfl, ?_⟩
            show (List.any (v :: vs) fun y => eqV y x) = r
            rw [List.any_cons, f3]
            have he' : eqS d dx = false := by simpa using he
            rw [he', Bool.false_or]
            exact g3
      · rw [if_neg hs] at e
        cases e
def rCm (K : PySem.W.Frag) (o : CmpOp) : R2 := fun x y H Q => ∃ own ads μ b1 b2 dx dy r, CellsR K own ads H μ ∧ RepB K own ads H b1 x dx ∧ RepB K own ads H b2 y dy ∧ cmpD o dx dy = some r ∧ Q (.bl r) H
section
variable {X : Cx}
theorem eq_D {own : Addr → Prop} {ads : List Addr} {H : Hp} {b1 b2 : Bool} {x y : V} {dx dy : D} {r : Bool} (h1 : RepB X.K own ads H b1 x dx) (h2 : RepB X.K own ads H b2 y dy) (h : eqD dx dy = some r) {Q : VK} (q : Q (.bl r) H) :
    rEq x y H Q ∨ rEqD X.K x y H Q := by
  unfold eqD at h
  split at h
  · rename_i hs
    cases h
    obtain ⟨g1, g2⟩ := eqS_scal h1 h2 hs
    exact .inl ⟨g1, by rw [g2]; exact q⟩
  · split at h
    · rename_i hs
      cases h
      rw [Bool.and_eq_true] at hs
      obtain ⟨s1, s2⟩ := hs
      unfold shOk at s1 s2
      rw [Bool.and_eq_true] at s1 s2
      exact .inr ⟨_, _, h1.dp s1.1, h2.dp s2.1, s1.2, s2.2, q⟩
    · cases h
theorem ne_D {own : Addr → Prop} {ads : List Addr} {H : Hp} {b1 b2 : Bool} {x y : V} {dx dy : D} {r : Bool} (h1 : RepB X.K own ads H b1 x dx) (h2 : RepB X.K own ads H b2 y dy) (h : eqD dx dy = some r) {Q : VK} (q : Q (.bl (!r)) H) :
    rNe x y H Q ∨ rNeD X.K x y H Q := by
  unfold eqD at h
  split at h
  · rename_i hs
    cases h
    obtain ⟨g1, g2⟩ := eqS_scal h1 h2 hs
    exact .inl ⟨g1, by rw [g2]; exact q⟩
  · split at h
    · rename_i hs
      cases h
      rw [Bool.and_eq_true] at hs
      obtain ⟨s1, s2⟩ := hs
      unfold shOk at s1 s2
      rw [Bool.and_eq_true] at s1 s2
      exact .inr ⟨_, _, h1.dp s1.1, h2.dp s2.1, s1.2, s2.2, q⟩
    · cases h
theorem isNon_V {own : Addr → Prop} {ads : List Addr} {H : Hp} {b1 : Bool} {x : V} {dx : D} (h1 : RepB X.K own ads H b1 x dx) : decide (x = V.non) = isNon dx := by
  cases dx with
  | non => rw [h1.non]; rfl
  | bl b => rw [h1.bl]; rfl
  | int i => rw [h1.int]; rfl
  | str s => rw [h1.str]; rfl
  | tup ds => obtain ⟨a, xs, e, _⟩ := h1.tup; rw [e]; rfl
  | lst ds => obtain ⟨a, xs, e, _⟩ := h1.lst; rw [e]; rfl
  | cell k => obtain ⟨a, e, _⟩ := h1.cell; rw [e]; rfl
theorem flat_V {own : Addr → Prop} {ads : List Addr} {H : Hp} {b1 : Bool} {x : V} {dx : D} (h1 : RepB X.K own ads H b1 x dx) (h : dx.flat = true) : flatV x = true := by
  cases dx with
  | non => rw [h1.non]; rfl
  | bl b => rw [h1.bl]; rfl
  | int i => rw [h1.int]; rfl
  | str s => rw [h1.str]; rfl
  | _ => cases h
/-- x in xs, where it is said; of the empty one if x is flat -/
theorem in_D {own : Addr → Prop} {ads : List Addr} {H : Hp} {b1 : Bool} {x : V} {dx : D} {ds : List D} {xs : List V} {r : Bool} (h1 : RepB X.K own ads H b1 x dx) (l : RepL X.K (Zo own ads) ads H xs ds) (h : inD dx ds = some r) :
    flatV x = true ∧ xs.all flatV = true ∧ inV x xs = r := by
  by_cases hn : ds = []
  · subst hn
    cases l
    unfold inD at h
    split at h
    · rename_i hf
      cases h
      exact ⟨flat_V h1 hf, rfl, rfl⟩
    · cases h
  · exact inD_V h1 l h hn
theorem inX_V {own : Addr → Prop} {ads : List Addr} {H : Hp} {b1 b2 : Bool} {x y : V} {dx : D} {ds : List D} {r : Bool} (h1 : RepB X.K own ads H b1 x dx) (h2 : RepB X.K own ads H b2 y (.lst ds)) (h : inX dx ds = some r) :
    (∃ a xs, y = .ref a ∧ SqL X.K H a xs ∧ flatV x = true ∧ xs.all flatV = true ∧ inV x xs = r) ∨ ∃ d ds, Dp X.K H x d ∧ Dp X.K H y (.list ds) ∧ SeqAt.shaped d = true ∧ SeqAt.shaped (.list ds) = true ∧ (ds.any fun z => PyData.eqv z d) = r := by
  unfold inX at h
  split at h
  · rename_i r' hr
    cases h
    obtain ⟨a, xs, e, t, l⟩ := h2.lst
    obtain ⟨g1, g2, g3⟩ := in_D h1 l hr
    exact .inl ⟨a, xs, e, t, g1, g2, g3⟩
  · split at h
    · rename_i hs
      cases h
      rw [Bool.and_eq_true] at hs
      obtain ⟨s1, s2⟩ := hs
      unfold shOk at s1 s2
      rw [Bool.and_eq_true] at s1 s2
      exact .inr ⟨_, _, h1.dp s1.1, h2.dp s2.1, s1.2, s2.2, rfl⟩
    · cases h
theorem cm_D (hu : X.A.units + 65 < cLine) (o : CmpOp) : OpR X (compareOp o) (rCm X.K o) := by
  intro pins s σ H x y v u Q I rx ry h
  obtain ⟨own, ads, μ, b1, b2, dx, dy, r, c, h1, h2, hz, q⟩ := h
  unfold cmpD at hz
  split at hz
  · rcases eq_D h1 h2 hz q with h | h
    · exact op_eq pins s σ H x y v u Q I rx ry h
    · exact op_eqD (Nat.lt_of_succ_lt hu) pins s σ H x y v u Q I rx ry h
  · obtain ⟨r', hr, e⟩ := Option.map_eq_some_iff.mp hz
    subst e
    rcases ne_D h1 h2 hr q with h | h
    · exact op_ne pins s σ H x y v u Q I rx ry h
    · exact op_neD (Nat.lt_of_succ_lt hu) pins s σ H x y v u Q I rx ry h
  · cases hz; exact op_lt pins s σ H x y v u Q I rx ry ⟨_, _, h1.int, h2.int, q⟩
  · cases hz; exact op_le pins s σ H x y v u Q I rx ry ⟨_, _, h1.int, h2.int, q⟩
  · cases hz; exact op_gt pins s σ H x y v u Q I rx ry ⟨_, _, h1.int, h2.int, q⟩
  · cases hz; exact op_ge pins s σ H x y v u Q I rx ry ⟨_, _, h1.int, h2.int, q⟩
  · cases hz; exact op_isN pins s σ H x y v u Q I rx ry ⟨h2.non, by rw [isNon_V h1]; exact q⟩
  · cases hz; exact op_notN pins s σ H x y v u Q I rx ry ⟨h2.non, by rw [isNon_V h1]; exact q⟩
  · cases hz; exact op_is_bl pins s σ H x y v u Q I rx ry ⟨_, _, h1.bl, h2.bl, q⟩
  · cases hz; exact op_isnot_bl pins s σ H x y v u Q I rx ry ⟨_, _, h1.bl, h2.bl, q⟩
  · cases hz; exact op_in_str pins s σ H x y v u Q I rx ry ⟨_, _, h1.str, h2.str, q⟩
  · obtain ⟨a, xs, e, t, l⟩ := h2.tup
    obtain ⟨g1, g2, g3⟩ := in_D h1 l hz
    exact op_in_seq pins s σ H x y v u Q I rx ry ⟨a, xs, e, .inr t.sq, g1, g2, by rw [if_neg Bool.false_ne_true, g3]; exact q⟩
  · rcases inX_V h1 h2 hz with ⟨a, xs, e, t, g1, g2, g3⟩ | ⟨d, ds, g1, g2, g3, g4, g5⟩
    · exact op_in_seq pins s σ H x y v u Q I rx ry ⟨a, xs, e, .inl t, g1, g2, by rw [if_neg Bool.false_ne_true, g3]; exact q⟩
    · exact op_inD hu pins s σ H x y v u Q I rx ry ⟨d, ds, g1, g2, g3, g4, by rw [g5]; exact q⟩
  · obtain ⟨r', hr, e⟩ := Option.map_eq_some_iff.mp hz
    subst e
    obtain ⟨a, xs, e, t, l⟩ := h2.tup
    obtain ⟨g1, g2, g3⟩ := in_D h1 l hr
    exact op_notIn_seq pins s σ H x y v u Q I rx ry ⟨a, xs, e, .inr t.sq, g1, g2, by rw [if_pos rfl, g3]; exact q⟩
  · obtain ⟨r', hr, e⟩ := Option.map_eq_some_iff.mp hz
    subst e
    rcases inX_V h1 h2 hr with ⟨a, xs, e, t, g1, g2, g3⟩ | ⟨d, ds, g1, g2, g3, g4, g5⟩
    · exact op_notIn_seq pins s σ H x y v u Q I rx ry ⟨a, xs, e, .inl t, g1, g2, by rw [if_pos rfl, g3]; exact q⟩
    · exact op_notInD hu pins s σ H x y v u Q I rx ry ⟨d, ds, g1, g2, g3, g4, by rw [g5]; exact q⟩
  · cases hz
end
end FM

set_option Elab.async false
set_option linter.all false
set_option maxRecDepth 100000
set_option maxHeartbeats 4000000
/-! Ev4: subscripts, slices, built-ins, methods. -/
namespace FM
open PySem PySem.Spec PyProof.Rows L2

/-! ### subscripts -/
theorem atI_rep {K : PySem.W.Frag} {Z : Addr → Prop} {ads : List Addr} {H : Hp} {xs : List V} {ds : List D} {i : Int} {d : D} (l : RepL K Z ads H xs ds) (h : atI ds i = some d) : ∃ v, atI xs i = some v ∧ Rep K Z ads H v d := by
  unfold atI at h ⊢
  rw [l.length]
  cases e : ixN ds.length i with
  | none => rw [e] at h; cases h
  | some j =>
    rw [e] at h
    obtain ⟨v, h1, h2⟩ := l.get (show ds[j]? = some d from h)
    exact ⟨v, h1, h2⟩
theorem valC_rep {K : PySem.W.Frag} {Z : Addr → Prop} {ads : List Addr} {H : Hp} {k : Key} : ∀ {kvs : List (Key × V)} {c : Cell} {d : D}, RepKV K Z ads H kvs c → valC c k = some d → ∃ v, valV kvs k = some v ∧ Rep K Z ads H v d
  | [], [], _, _, h => by cases h
  | [], _ :: _, _, r, _ => by cases r.1
  | _ :: _, [], _, r, _ => by cases r.1
  | (k1, v1) :: kvs, (k2, d2) :: c, d, ⟨r1, r2⟩, h => by
    have r1' : k1 :: kvs.map (·.1) = k2 :: c.map (·.1) := r1
    have r2' : RepL K Z ads H (v1 :: kvs.map (·.2)) (d2 :: c.map (·.2)) := r2
    injection r1' with e1 e2
    subst e1
    cases r2' with
    | cons g1 g2 =>
      by_cases e : k1 = k
      · refine ⟨v1, valV_pos e, ?_⟩
        have z : valC ((k1, d2) :: c) k = some d2 := by simp [valC, List.find?_cons, e]
        rw [z] at h
        cases h
        exact g1
      · have z : valC ((k1, d2) :: c) k = valC c k := by simp [valC, List.find?_cons, e]
        rw [z] at h
        rw [valV_neg (p := (k1, v1)) e]
        exact valC_rep ⟨e2, g2⟩ h
theorem keyD_V {K : PySem.W.Frag} {own : Addr → Prop} {ads : List Addr} {H : Hp} {b : Bool} {v : V} {d : D} {k : Key} (h : RepB K own ads H b v d) (e : keyD d = some k) : v = kV k := by
  cases d with
  | int i => cases e; exact h.int
  | str s => cases e; exact h.str
  | _ => cases e
def rIxD' (K : PySem.W.Frag) : R2 := fun x y H Q => ∃ own ads μ b1 b2 dx dy dz, CellsR K own ads H μ ∧ RepB K own ads H b1 x dx ∧ RepB K own ads H b2 y dy ∧ ixD μ dx dy = some dz ∧ Fin K own ads H false dz μ Q
section
variable {X : Cx}
theorem ix_dict (hu : X.A.units + 1 < cLine) : IxR X (fun x y H Q => ∃ a v, x = .ref a ∧ DGet H a y (some v) ∧ Q v H) := by
  intro value slice pins s σ H x y v u Q I rx ry h hs
  obtain ⟨a, w, rfl, g, q⟩ := h
  obtain rfl : v = Value.ref a := rx
  unfold subscriptTail
  have hT := dict_typeIs I g
  refine wpAny_bind ?_
  rw [getitemInPython_of_ne hT.not_modules]
  refine wpAny_bind (wpAny_specialOf hT PySem.F.slot_dict_getitem.lookup ?_)
  have fin : wpAny (model X.prog X.w) X.A (subscripted slice false (.ref a) u) (fun r s₃ => wpAny (model X.prog X.w) X.A (letTemporaryGo value (.ref a) r >>= fun _ => pure r) (EP X pins σ Q) X.xe s₃) X.xe s := by
    rw [hs]
    exact wpAny_operating (d_getItem hu I g ry fun w' s' I' r' => wpAny_bind (wpAny_letTemporaryGo (wpAny_pure ⟨w, H, I', r', q⟩)))
  first
    | exact wpAny_pure (wpAny_bind fin)
    | exact wpAny_bind (wpAny_pure (wpAny_bind fin))
    | exact wpAny_bind fin
theorem ix_D (hu : X.A.units + 1 < cLine) : IxR X (rIxD' X.K) := by
  intro value slice pins s σ H x y v u Q I rx ry h hs
  obtain ⟨own, ads, μ, b1, b2, dx, dy, dz, c, h1, h2, hz, q⟩ := h
  unfold ixD at hz
  split at hz
  · obtain ⟨a, xs, e, t, l⟩ := h1.lst
    obtain ⟨w, g1, g2⟩ := atI_rep l hz
    exact ix_list value slice pins s σ H x y v u Q I rx ry ⟨a, xs, _, w, e, h2.int, t, g1, q.same c g2⟩ hs
  · obtain ⟨a, xs, e, t, l⟩ := h1.tup
    obtain ⟨w, g1, g2⟩ := atI_rep l hz
    exact ix_tup value slice pins s σ H x y v u Q I rx ry ⟨a, xs, _, w, e, h2.int, t.sq, g1, q.same c g2⟩ hs
  · split at hz
    · rename_i hl
      obtain ⟨c', hc, e⟩ := Option.map_eq_some_iff.mp hz
      subst e
      exact ix_str value slice pins s σ H x y v u Q I rx ry ⟨_, _, c', h1.str, h2.int, hl, hc, q.str c⟩ hs
    · cases hz
  · split at hz
    · rename_i k _ _ cl qk e1 e2
      obtain ⟨a, e, ha⟩ := h1.cell
      obtain ⟨kvs, kds, m1, m2, m3⟩ := c.at k a ha
      rw [e1] at m1
      cases m1
      obtain ⟨w, g1, g2⟩ := valC_rep m3 hz
      refine ix_dict hu value slice pins s σ H x y v u Q I rx ry ⟨a, w, e, ?_, q.same c g2⟩ hs
      rw [keyD_V h2 e2, ← g1]
      exact DGet.k m2
    · cases hz
  · cases hz
/-! ### slices -/
theorem cutV_D {α : Type} (xs : List V) (ys : List α) (e : xs.length = ys.length) (lo hi : Option Int) : cutV xs lo hi = cutD xs lo hi := rfl
theorem RepL.cut {K : PySem.W.Frag} {Z : Addr → Prop} {ads : List Addr} {H : Hp} {xs : List V} {ds : List D} (l : RepL K Z ads H xs ds) (lo hi : Option Int) : RepL K Z ads H (cutV xs lo hi) (cutD ds lo hi) := by
  unfold cutV cutD
  rw [l.length]
  exact (l.drop _).take _
theorem cutD_whole {α : Type} (xs : List α) (lo hi : Option Int) (h : HT.sIx xs.length 0 lo = 0 ∧ HT.sIx xs.length xs.length hi = xs.length) : cutD xs lo hi = xs := by
  unfold cutD
  rw [h.1, h.2]
  simp
def rSlD (K : PySem.W.Frag) : V → Option Int → Option Int → Hp → VK → Prop := fun x lo hi H Q => ∃ own ads μ b1 dx dz, CellsR K own ads H μ ∧ RepB K own ads H b1 x dx ∧ slD dx lo hi = some dz ∧ Fin K own ads H false dz μ Q
theorem sl_D : SlR X (rSlD X.K) := by
  intro pins s σ H x v vl vu lo hi sl Q I rx hs pl pu h
  obtain ⟨own, ads, μ, b1, dx, dz, c, h1, hz, q⟩ := h
  unfold slD at hz
  split at hz
  · cases hz
    obtain ⟨a, xs, e, t, l⟩ := h1.tup
    refine sl_tupA pins s σ H x v vl vu lo hi sl Q I rx hs pl pu ⟨a, xs, e, t.sq, fun w => ?_, fun w => q.newT c (l.cut lo hi)⟩
    rw [l.length] at w
    rw [cutD_whole _ lo hi w] at q
    exact q.same c (.tup t l)
  · cases hz
    obtain ⟨a, xs, e, t, l⟩ := h1.lst
    exact sl_list pins s σ H x v vl vu lo hi sl Q I rx hs pl pu ⟨a, xs, e, t, q.newL c (l.cut lo hi)⟩
  · split at hz
    · rename_i hl
      cases hz
      exact sl_str pins s σ H x v vl vu lo hi sl Q I rx hs pl pu ⟨_, h1.str, hl, by
        have z := q.str c
        unfold cutD at z
        exact z⟩
    · cases hz
  · cases hz
end

/-! ### built-ins -/
theorem asBls_ok : ∀ {ds : List D} {bs : List Bool}, asBls ds = some bs → ds = bs.map D.bl
  | [], _, h => by cases h; rfl
  | d :: ds, bs, h => by
    cases d with
    | bl b =>
      obtain ⟨r, h1, e⟩ := Option.map_eq_some_iff.mp (show (asBls ds).map (b :: ·) = some bs from h)
      subst e
      rw [asBls_ok h1]
      rfl
    | _ => cases h
theorem asInts_ok : ∀ {ds : List D} {bs : List Int}, asInts ds = some bs → ds = bs.map D.int
  | [], _, h => by cases h; rfl
  | d :: ds, bs, h => by
    cases d with
    | int b =>
      obtain ⟨r, h1, e⟩ := Option.map_eq_some_iff.mp (show (asInts ds).map (b :: ·) = some bs from h)
      subst e
      rw [asInts_ok h1]
      rfl
    | _ => cases h
theorem asStrs_ok : ∀ {ds : List D} {bs : List Str}, asStrs ds = some bs → ds = bs.map D.str
  | [], _, h => by cases h; rfl
  | d :: ds, bs, h => by
    cases d with
    | str b =>
      obtain ⟨r, h1, e⟩ := Option.map_eq_some_iff.mp (show (asStrs ds).map (b :: ·) = some bs from h)
      subst e
      rw [asStrs_ok h1]
      rfl
    | _ => cases h
def Bi.name : Bi → Str
  | .len => "len" | .tuple => "tuple" | .list => "list" | .all => "all" | .any => "any" | .abs => "abs" | .int => "int" | .str => "str" | .max2 => "max" | .min2 => "min" | .sum => "sum"
def Bi.val : Bi → Value
  | .len => .builtin "len" | .tuple => .type "tuple" | .list => .type "list" | .all => .builtin "all" | .any => .builtin "any" | .abs => .builtin "abs" | .int => .type "int" | .str => .type "str"
  | .max2 => .builtin "max" | .min2 => .builtin "min" | .sum => .builtin "sum"
theorem Bi.boot (b : Bi) : bootBuiltins b.name = some b.val := by cases b <;> decide +kernel
/-- several values -/
def RepBL (K : PySem.W.Frag) (own : Addr → Prop) (ads : List Addr) (H : Hp) : List V → List D → Prop
  | [], [] => True
  | v :: vs, d :: ds => RepB K own ads H true v d ∧ RepBL K own ads H vs ds
  | _, _ => False
theorem RepBL.one {K : PySem.W.Frag} {own : Addr → Prop} {ads : List Addr} {H : Hp} {vs : List V} {d : D} (h : RepBL K own ads H vs [d]) : ∃ v, vs = [v] ∧ RepB K own ads H true v d := by
  cases vs with
  | nil => exact h.elim
  | cons v vs =>
    cases vs with
    | nil => exact ⟨v, rfl, h.1⟩
    | cons _ _ => exact h.2.elim
theorem RepBL.two {K : PySem.W.Frag} {own : Addr → Prop} {ads : List Addr} {H : Hp} {vs : List V} {d e : D} (h : RepBL K own ads H vs [d, e]) : ∃ v w, vs = [v, w] ∧ RepB K own ads H true v d ∧ RepB K own ads H true w e := by
  cases vs with
  | nil => exact h.elim
  | cons v vs =>
    obtain ⟨w, e, h2⟩ := RepBL.one h.2
    subst e
    exact ⟨v, w, rfl, h.1, h2⟩
theorem RepBL.ext {K : PySem.W.Frag} {own : Addr → Prop} {ads ads' : List Addr} {H H' : Hp} {μ : Cells} (c : CellsR K own ads H μ) (e : Ext ads H ads' H') : ∀ {vs : List V} {ds : List D}, RepBL K own ads H vs ds → RepBL K own ads' H' vs ds
  | [], [], _ => True.intro
  | v :: vs, d :: ds, h => ⟨h.1.ext c e, RepBL.ext c e h.2⟩
  | [], _ :: _, h => h.elim
  | _ :: _, [], h => h.elim
def rBi (K : PySem.W.Frag) (b : Bi) : List V → Hp → VK → Prop := fun xs H Q => ∃ own ads μ ds dz, CellsR K own ads H μ ∧ RepBL K own ads H xs ds ∧ biD μ b ds = some dz ∧ Fin K own ads H false dz μ Q
section
variable {X : Cx}
theorem bi_D (hc : X.calm = true) (b : Bi) : CallR X b.val (rBi X.K b) := by
  intro pins s σ H xs us Q I r h
  obtain ⟨own, ads, μ, ds, dz, c, h1, hz, q⟩ := h
  unfold biD at hz
  split at hz
  · cases hz
    obtain ⟨v, e, h2⟩ := h1.one
    obtain ⟨a, ys, e2, t, l⟩ := h2.lst
    subst e e2
    exact call_len_seq pins s σ H _ us Q I r ⟨a, ys, rfl, .inl t, by rw [l.length]; exact q.int c⟩
  · cases hz
    obtain ⟨v, e, h2⟩ := h1.one
    obtain ⟨a, ys, e2, t, l⟩ := h2.tup
    subst e e2
    exact call_len_seq pins s σ H _ us Q I r ⟨a, ys, rfl, .inr t.sq, by rw [l.length]; exact q.int c⟩
  · split at hz
    · rename_i hl
      cases hz
      obtain ⟨v, e, h2⟩ := h1.one
      have e2 := h2.str
      subst e e2
      exact call_len_str pins s σ H _ us Q I r ⟨_, rfl, hl, q.int c⟩
    · cases hz
  · cases hz
    obtain ⟨v, e, h2⟩ := h1.one
    obtain ⟨a, ys, e2, t, l⟩ := h2.lst
    subst e e2
    exact call_tuple_of pins s σ H _ us Q I r ⟨a, ys, rfl, .inl ⟨t, q.newT c l⟩⟩
  · cases hz
    obtain ⟨v, e, h2⟩ := h1.one
    obtain ⟨a, ys, e2, t, l⟩ := h2.tup
    subst e e2
    exact call_tuple_of pins s σ H _ us Q I r ⟨a, ys, rfl, .inr ⟨t.sq, q.same c (.tup t l)⟩⟩
  · cases hz
    obtain ⟨v, e, h2⟩ := h1.one
    obtain ⟨a, ys, e2, t, l⟩ := h2.lst
    subst e e2
    exact call_list_of pins s σ H _ us Q I r ⟨a, ys, rfl, .inl t, q.newL c l⟩
  · cases hz
    obtain ⟨v, e, h2⟩ := h1.one
    obtain ⟨a, ys, e2, t, l⟩ := h2.tup
    subst e e2
    exact call_list_of pins s σ H _ us Q I r ⟨a, ys, rfl, .inr t.sq, q.newL c l⟩
  · obtain ⟨bs, hb, e0⟩ := Option.map_eq_some_iff.mp hz
    subst e0
    obtain ⟨v, e, h2⟩ := h1.one
    obtain ⟨a, ys, e2, t, l⟩ := h2.lst
    subst e e2
    rw [asBls_ok hb] at l
    have e3 := l.bls
    subst e3
    exact cr_all hc pins s σ H _ us Q I r ⟨a, bs, rfl, t, q.bl c⟩
  · obtain ⟨bs, hb, e0⟩ := Option.map_eq_some_iff.mp hz
    subst e0
    obtain ⟨v, e, h2⟩ := h1.one
    obtain ⟨a, ys, e2, t, l⟩ := h2.lst
    subst e e2
    rw [asBls_ok hb] at l
    have e3 := l.bls
    subst e3
    exact cr_any hc pins s σ H _ us Q I r ⟨a, bs, rfl, t, q.bl c⟩
  · obtain ⟨bs, hb, e0⟩ := Option.map_eq_some_iff.mp hz
    subst e0
    obtain ⟨v, e, h2⟩ := h1.one
    obtain ⟨a, ys, e2, t, l⟩ := h2.lst
    subst e e2
    rw [asInts_ok hb] at l
    have e3 := l.ints
    subst e3
    exact cr_sum hc pins s σ H _ us Q I r ⟨a, bs, rfl, t, q.int c⟩
  · cases hz
    obtain ⟨v, e, h2⟩ := h1.one
    have e2 := h2.int
    subst e e2
    exact call_abs pins s σ H _ us Q I r ⟨_, rfl, q.int c⟩
  · cases hz
    obtain ⟨v, e, h2⟩ := h1.one
    have e2 := h2.int
    subst e e2
    exact call_int1 pins s σ H _ us Q I r (.inl ⟨_, rfl, q.int c⟩)
  · split at hz
    · rename_i hn
      split at hz
      · rename_i hl
        cases hz
        obtain ⟨v, e, h2⟩ := h1.one
        have e2 := h2.str
        subst e e2
        exact call_int_str pins s σ H _ us Q I r ⟨_, _, rfl, hn, hl, q.int c⟩
      · cases hz
    · cases hz
  · split at hz
    · rename_i hl
      cases hz
      obtain ⟨v, e, h2⟩ := h1.one
      have e2 := h2.int
      subst e e2
      exact call_str_int pins s σ H _ us Q I r ⟨_, rfl, hl, q.str c⟩
    · cases hz
  · cases hz
    obtain ⟨v, w, e, h2, h3⟩ := h1.two
    have e2 := h2.int
    have e3 := h3.int
    subst e e2 e3
    exact call_max2 hc pins s σ H _ us Q I r ⟨_, _, rfl, q.int c⟩
  · cases hz
    obtain ⟨v, w, e, h2, h3⟩ := h1.two
    have e2 := h2.int
    have e3 := h3.int
    subst e e2 e3
    exact call_min2 hc pins s σ H _ us Q I r ⟨_, _, rfl, q.int c⟩
  · cases hz
end

/-! ### isinstance -/
def Ty.name : Ty → String
  | .int => "int" | .bool => "bool" | .str => "str" | .tuple => "tuple" | .list => "list"
def Ty.py : Ty → Str
  | .int => "int" | .bool => "bool" | .str => "str" | .tuple => "tuple" | .list => "list"
theorem Ty.boot (t : Ty) : bootBuiltins t.py = some (.type t.name) := by cases t <;> decide +kernel
theorem isi_kit {K : PySem.W.Frag} {own : Addr → Prop} {ads : List Addr} {H : Hp} {b : Bool} {v : V} {d : D} {t : Ty} {r : Bool} (h : RepB K own ads H b v d) (e : isiD d t = some r) : ∃ u, TyX K H v u ∧ PySem.W.kitOne K u (.type t.name) = some r := by
  cases d with
  | non =>
    rw [h.non]
    refine ⟨_, .base .non, kit_ty ?_⟩
    cases t <;> (cases e; decide +kernel)
  | bl x =>
    rw [h.bl]
    refine ⟨_, .base (.bl x), kit_ty ?_⟩
    cases t <;> (cases e; decide +kernel)
  | int x =>
    rw [h.int]
    refine ⟨_, .base (.int x), kit_ty ?_⟩
    cases t <;> (cases e; decide +kernel)
  | str x =>
    rw [h.str]
    refine ⟨_, .base (.str x), kit_ty ?_⟩
    cases t <;> (cases e; decide +kernel)
  | tup ds =>
    obtain ⟨a, xs, e1, t1, l⟩ := h.tup
    rw [e1]
    have ty : TyX K H (.ref a) (.type "tuple") := by
      rcases t1 with ⟨t1 | ⟨o, t1⟩, _⟩ | ⟨o, its, n, t1, t2, _⟩
      · exact .base (.tup t1)
      · exact .fTuple t1
      · exact .kTuple t1 t2
    refine ⟨_, ty, kit_ty ?_⟩
    cases t <;> (cases e; decide +kernel)
  | lst ds =>
    obtain ⟨a, xs, e1, t1, l⟩ := h.lst
    rw [e1]
    have ty : TyX K H (.ref a) (.type "list") := by
      rcases t1 with (t1 | ⟨o, t1⟩) | ⟨o, its, n, t1, t2, _⟩
      · exact .base (.lst t1)
      · exact .base (.frz t1)
      · exact .kList t1 t2
    refine ⟨_, ty, kit_ty ?_⟩
    cases t <;> (cases e; decide +kernel)
  | cell k => cases e

/-! ### methods -/
def Me.name : Me → Str
  | .bits => "bit_length" | .partition => "partition" | .join => "join"
end FM

set_option Elab.async false
set_option linter.all false
set_option maxRecDepth 100000
set_option maxHeartbeats 4000000
/-! Ev5: the look at the real tree; expressions. -/
namespace FM
open PySem PySem.Spec PyProof.Rows L2

/-! ### the look -/
def visB (sc : Scope) (x : Str) : Bool := match sc.names.lookup x with
  | some .local => true
  | some .cell => true
  | some .free => true
  | _ => false
def gloB (sc : Scope) (x : Str) : Bool := match sc.names.lookup x with
  | some .globalImplicit => true
  | _ => false
def locB (sc : Scope) (x : Str) : Bool := match sc.names.lookup x with
  | some .local => true
  | some .cell => true
  | _ => false
def notStar : Expr → Bool
  | .Starred _ _ => false
  | _ => true
def notSlice : Expr → Bool
  | .Slice _ _ _ _ => false
  | _ => true
def notSet : Expr → Bool
  | .Set _ _ _ => false
  | _ => true
def notCall : Expr → Bool
  | .Call _ _ _ _ => false
  | _ => true
theorem starEach_cons {e : Expr} (h : notStar e = true) (es : List Expr) (env : PySem.Env) : starEach (e :: es) env = (false, eval e env) :: starEach es env := by
  cases e <;> first | rfl | cases h
theorem plainIx_of {e : Expr} (h : notSlice e = true) : PlainIx e := by
  intro o i
  cases e <;> first | rfl | cases h
theorem folded_of {e : Expr} (h : notSet e = true) (env : PySem.Env) (x : Value) : foldedSetIterable e env x = pure x := by
  cases e <;> first | rfl | cases h
theorem marks_of {e : Expr} (h : notSet e = true) (o : CmpOp) : behindInMarks o e = false := by
  cases e <;> first | rfl | cases h
/-- the base of a method's call: no super() -/
def baseOk : Expr → Bool
  | .Call (.Name _ _) [] [] _ => false
  | _ => true
theorem base_of {o : Expr} (h : baseOk o = true) (m : Str) (env : PySem.Env) : attributeBase o m env (eval o env) = eval o env := by
  unfold attributeBase
  split
  · cases h
  · rfl
def nameIs (N : List Str) (sc : Scope) (i : Nat) (x : Str) : Bool := decide (N[i]? = some x) && visB sc x && !(x == ("__debug__" : Str)) && !(x == ("__classdict__" : Str))
def ownOf (N : List Str) : List Nat → List (Str × Nat)
  | [] => []
  | i :: is => (N.getD i "", i) :: ownOf N is
def Tg.slots : Tg → List Nat
  | .nm i => [i]
  | .tp is => is
def chkTs (N : List Str) (sc : Scope) : List Nat → List Expr → Bool
  | [], [] => true
  | i :: is, .Name x _ :: es => decide (N[i]? = some x) && locB sc x && chkTs N sc is es
  | _, _ => false
def chkTg (N : List Str) (sc : Scope) : Tg → Expr → Bool
  | .nm i, .Name x _ => decide (N[i]? = some x) && locB sc x
  | .tp is, .Tuple es _ _ => chkTs N sc is es && decide is.Nodup
  | _, _ => false
def Bi.argsOk : Bi → List Expr → Bool
  | _, [] => false
  | _, _ => true
def chkKs : List Str → List (Option Expr) → Bool
  | [], [] => true
  | k :: ks, some (.Constant (.str j) _ _) :: r => decide (k = j) && chkKs ks r
  | _, _ => false
def Me.arOk : Me → List Expr → Bool
  | .bits, xs => xs.isEmpty
  | _, xs => xs.length == 1
mutual
def chkE (N fs : List Str) : E → Scope → Expr → Bool
  | .var i, sc, .Name x _ => nameIs N sc i x
  | .int i, _, .Constant (.int j) _ _ => decide (i = j)
  | .bl i, _, .Constant (.bool j) _ _ => decide (i = j)
  | .non, _, .Constant .none _ _ => true
  | .str i, _, .Constant (.str j) _ _ => decide (i = j)
  | .op o a b, sc, .BinOp x o' y _ => decide (o = o') && chkE N fs a sc x && chkE N fs b sc y
  | .neg a, sc, .UnaryOp .USub x _ => chkE N fs a sc x
  | .cmp o a b, sc, .Compare x [o'] [y] _ => decide (o = o') && notSet y && chkE N fs a sc x && chkE N fs b sc y
  | .chn o p a b c, sc, .Compare x [o', p'] [y, z] _ => decide (o = o') && decide (p = p') && notSet y && notSet z && chkE N fs a sc x && chkE N fs b sc y && chkE N fs c sc z
  | .and a b, sc, .BoolOp .And (x :: y :: r) pos => chkE N fs a sc x && (if r.isEmpty then chkE N fs b sc y else chkE N fs b sc (.BoolOp .And (y :: r) pos))
  | .or a b, sc, .BoolOp .Or (x :: y :: r) pos => chkE N fs a sc x && (if r.isEmpty then chkE N fs b sc y else chkE N fs b sc (.BoolOp .Or (y :: r) pos))
  | .not a, sc, .UnaryOp .Not x _ => chkE N fs a sc x
  | .ife c a b, sc, .IfExp z x y _ => chkE N fs c sc z && chkE N fs a sc x && chkE N fs b sc y
  | .tup es, sc, .Tuple xs _ _ => chkEs N fs es sc xs
  | .lst es, sc, .List xs _ => chkEs N fs es sc xs
  | .ix a b, sc, .Subscript x y _ => notSlice y && chkE N fs a sc x && chkE N fs b sc y
  | .sl a lo hi, sc, .Subscript x (.Slice l h none _) _ => chkE N fs a sc x && chkEO N fs lo sc l && chkEO N fs hi sc h
  | .call f es, sc, .Call (.Name g _) xs [] _ => decide (fs[f]? = some g) && gloB sc g && !(g == ("__debug__" : Str)) && chkEs N fs es sc xs
  | .callB f es, sc, .Call (.Name g _) xs [] _ => decide (fs[f]? = some g) && gloB sc g && !(g == ("__debug__" : Str)) && chkEs N fs es sc xs && !xs.isEmpty
  | .bi b es, sc, .Call (.Name g _) xs [] _ => decide (g = b.name) && gloB sc g && !xs.isEmpty && chkEs N fs es sc xs
  | .isi a t, sc, .Call (.Name g _) [x, .Name h _] [] _ => decide (g = "isinstance") && gloB sc g && decide (h = t.py) && gloB sc h && notStar x && chkE N fs a sc x
  | .me m o es, sc, .Call (.Attribute x g apos) xs [] cpos => decide (g = m.name) && (apos.endLine == cpos.line) && baseOk x && chkE N fs o sc x && m.arOk xs && chkEs N fs es sc xs
  | .lc elt tg it cond, sc, .ListComp x [⟨t, i, ifs, n⟩] scope _ => decide (n = 0) && blkC N sc scope (ownOf N tg.slots) && notSet i && chkTg N scope tg t && chkIt N fs it sc i && chkC N fs cond scope ifs && chkE N fs elt scope x
  | .dict ks es, sc, .Dict keys values _ => chkKs ks keys && decide (keys.length = values.length) && !keys.isEmpty && chkEs N fs es sc values
  | _, _, _ => false
def chkEs (N fs : List Str) : Es → Scope → List Expr → Bool
  | .nil, _, [] => true
  | .cons e es, sc, x :: xs => notStar x && chkE N fs e sc x && chkEs N fs es sc xs
  | _, _, _ => false
def chkEO (N fs : List Str) : EO → Scope → Option Expr → Bool
  | .none, _, none => true
  | .some e, sc, some x => chkE N fs e sc x
  | _, _, _ => false
def chkC (N fs : List Str) : EO → Scope → List Expr → Bool
  | .none, _, [] => true
  | .some e, sc, [x] => chkE N fs e sc x
  | _, _, _ => false
def chkIt (N fs : List Str) : It → Scope → Expr → Bool
  | .seq e, sc, x => chkE N fs e sc x
  | .rng1 a, sc, .Call (.Name g _) [x] [] _ => decide (g = "range") && gloB sc g && notStar x && chkE N fs a sc x
  | .rng2 a b, sc, .Call (.Name g _) [x, y] [] _ => decide (g = "range") && gloB sc g && notStar x && notStar y && chkE N fs a sc x && chkE N fs b sc y
  | .rng3 a b c, sc, .Call (.Name g _) [x, y, z] [] _ => decide (g = "range") && gloB sc g && notStar x && notStar y && notStar z && chkE N fs a sc x && chkE N fs b sc y && chkE N fs c sc z
  | _, _, _ => false
end

/-! ### where one stands -/
/-- a def's promise: what F says of plain arguments -/
def spF (K : PySem.W.Frag) (ar : Nat) (F : List D → Cells → Option (D × Cells)) : Sp := fun vs H Q _ => vs.length = ar ∧ ∃ own ads ds μ d μ', RepL K (Zo own ads) ads H vs ds ∧ CellsR K own ads H μ ∧ F ds μ = some (d, μ') ∧ Fin K own ads H false d μ' Q
/-- the def g of the text keeps what F says -/
def FnH (P : Program) (w : World) (K : PySem.W.Frag) (mg : Str → Option Value) (base : Heap) (n : Nat) (g : Str) (F : List D → Cells → Option (D × Cells)) : Prop :=
  ∀ ds μ d μ', F ds μ = some (d, μ') → ∃ a fd ps, mg g = some (.ref a) ∧ PySem.W.keepIn K (.ref a) = true ∧ Binds K fd ps [] ∧ ps.length = ds.length ∧ FnOk P w K mg base CX0 n a fd ps (spF K ps.length F)
/-- the built-in names -/
def bnames : List Str := ["len", "tuple", "list", "all", "any", "abs", "int", "str", "max", "min", "sum", "range", "isinstance", "bool"]
structure GX (N fs : List Str) (F : Fs) (n : Nat) (sc : Scope) (X : Cx) : Prop where
  hN : X.N = N
  nd : N.Nodup
  calm : X.calm = true
  nox : X.xe = fun _ _ => False
  room : Room n X.A
  vis : ∀ x, visB sc x = true → Vis X.env.scope x
  glo : ∀ x, gloB sc x = true → Gl X x
  loc : ∀ x, locB sc x = true → Loc X.env.scope x ∧ (X.fn x = true ∨ X.env.scope.names.lookup x = some .local)
  cap : ∀ x, (sc.names.lookup x = some .cell ∨ sc.names.lookup x = some .free) → (X.env.scope.names.lookup x = some .cell ∨ X.env.scope.names.lookup x = some .free)
  bn : ∀ x ∈ bnames, X.mg x = none
  fn : ∀ f g, fs[f]? = some g → FnH X.prog X.w X.K X.mg X.base n g (F f)

/-! ### readings -/
def SlR (K : PySem.W.Frag) (own : Addr → Prop) (ads : List Addr) (H : Hp) : Sl → V → Prop
  | .pl d, v => Rep K (Zo own ads) ads H v d
  | .ow ds, v => ∃ a xs, v = .ref a ∧ H a = some (.lst xs) ∧ own a ∧ RepL K (Zo own ads) ads H xs ds
def EnvR (K : PySem.W.Frag) (own : Addr → Prop) (ads : List Addr) (H : Hp) (σ : L2.St) (ρ : Env) : Prop :=
  ∀ (i : Nat) (s : Sl), ρ[i]? = some (some s) → ∃ v : V, σ[i]? = some (some v) ∧ SlR K own ads H s v
theorem SlR.ext {K : PySem.W.Frag} {own : Addr → Prop} {ads ads' : List Addr} {H H' : Hp} {μ : Cells} {s : Sl} {v : V} (c : CellsR K own ads H μ) (e : Ext ads H ads' H') (h : SlR K own ads H s v) : SlR K own ads' H' s v := by
  cases s with
  | pl d => exact Rep.ext e h
  | ow ds =>
    obtain ⟨a, xs, e1, e2, e3, e4⟩ := h
    exact ⟨a, xs, e1, e.keep _ _ e2 fun m => c.dis a m e3, e3, e4.ext e⟩
theorem EnvR.ext {K : PySem.W.Frag} {own : Addr → Prop} {ads ads' : List Addr} {H H' : Hp} {μ : Cells} {σ : L2.St} {ρ : Env} (c : CellsR K own ads H μ) (e : Ext ads H ads' H') (h : EnvR K own ads H σ ρ) : EnvR K own ads' H' σ ρ := fun i s q => by
  obtain ⟨v, h1, h2⟩ := h i s q
  exact ⟨v, h1, h2.ext c e⟩
/-- the whole of a state: slots, cells -/
structure Hold (K : PySem.W.Frag) (own : Addr → Prop) (ads : List Addr) (H : Hp) (σ : L2.St) (ρ : Env) (μ : Cells) : Prop where
  e : EnvR K own ads H σ ρ
  c : CellsR K own ads H μ
  len : ρ.length = σ.length
/-- behind: the datum, the cells; the environment stands -/
abbrev Fin2 (K : PySem.W.Frag) (own : Addr → Prop) (ads : List Addr) (H : Hp) (σ : L2.St) (ρ : Env) (b : Bool) (z : D) (μ' : Cells) (Q : VK) : Prop :=
  ∀ v H' ads', Ext ads H ads' H' → Hold K own ads' H' σ ρ μ' → RepB K own ads' H' b v z → Q v H'
def tE (K : PySem.W.Frag) (F : Fs) (e : E) : TE := fun σ H Q => ∃ own ads ρ μ d μ', Hold K own ads H σ ρ μ ∧ ev F e ρ μ = some (d, μ') ∧ Fin2 K own ads H σ ρ (lk ρ e) d μ' Q
def tEs (K : PySem.W.Frag) (F : Fs) (es : Es) : TA := fun σ H Q => ∃ own ads ρ μ ds μ', Hold K own ads H σ ρ μ ∧ evs F es ρ μ = some (ds, μ') ∧
  ∀ vs H' ads', Ext ads H ads' H' → Hold K own ads' H' σ ρ μ' → RepBL K own ads' H' vs ds → (lks ρ es = false → RepL K (Zo own ads') ads' H' vs ds) → Q vs H'
def tEO (K : PySem.W.Frag) (F : Fs) (e : EO) : TO := fun σ H Q => ∃ own ads ρ μ d μ', Hold K own ads H σ ρ μ ∧ evo F e ρ μ = some (d, μ') ∧ ∀ H' ads', Ext ads H ads' H' → Hold K own ads' H' σ ρ μ' → Q d H'
/-- as a test -/
def tT (K : PySem.W.Frag) (F : Fs) (e : E) : TT := fun σ H Q => ∃ own ads ρ μ b μ', Hold K own ads H σ ρ μ ∧ ev F e ρ μ = some (.bl b, μ') ∧ ∀ H' ads', Ext ads H ads' H' → Hold K own ads' H' σ ρ μ' → Q b H'
def tC' (K : PySem.W.Frag) (F : Fs) (e : EO) : TT := fun σ H Q => ∃ own ads ρ μ b μ', Hold K own ads H σ ρ μ ∧ evc F e ρ μ = some (b, μ') ∧ ∀ H' ads', Ext ads H ads' H' → Hold K own ads' H' σ ρ μ' → Q b H'
theorem PE.imp {X : Cx} {e : Expr} {t t' : TE} (h : PE X e t) (i : ∀ σ H Q, t' σ H Q → t σ H Q) : PE X e t' := ⟨fun pins s σ H Q I q => h.run pins s σ H Q I (i _ _ _ q)⟩
theorem PT.imp {X : Cx} {e : Expr} {t t' : TT} (h : PT X e t) (i : ∀ σ H Q, t' σ H Q → t σ H Q) : PT X e t' := ⟨fun pins s σ H Q I q => h.run pins s σ H Q I (i _ _ _ q)⟩
theorem PTs.imp {X : Cx} {e : List Expr} {t t' : TT} (h : PTs X e t) (i : ∀ σ H Q, t' σ H Q → t σ H Q) : PTs X e t' := ⟨fun pins s σ H Q I q => h.run pins s σ H Q I (i _ _ _ q)⟩
theorem PA.imp {X : Cx} {e : List Expr} {t t' : TA} (h : PA X e t) (i : ∀ σ H Q, t' σ H Q → t σ H Q) : PA X e t' := ⟨fun pos pins s σ H Q I q => h.run pos pins s σ H Q I (i _ _ _ q)⟩
theorem PO.imp {X : Cx} {e : Option Expr} {t t' : TO} (h : PO X e t) (i : ∀ σ H Q, t' σ H Q → t σ H Q) : PO X e t' := ⟨fun pins s σ H Q I q => h.run pins s σ H Q I (i _ _ _ q)⟩
theorem andThen_some {α β : Type} {x : Rs α} {f : α → Cells → Option β} {r : β} (h : andThen x f = some r) : ∃ a μ, x = some (a, μ) ∧ f a μ = some r := by
  unfold andThen at h
  split at h
  · exact ⟨_, _, rfl, h⟩
  · cases h
theorem onBl_some {β : Type} {x : Rs D} {f : Bool → Cells → Option β} {r : β} (h : onBl x f = some r) : ∃ b μ, x = some (.bl b, μ) ∧ f b μ = some r := by
  unfold onBl at h
  split at h
  · exact ⟨_, _, rfl, h⟩
  · cases h
theorem wthD_some {z : Option D} {μ μ' : Cells} {d : D} (h : wthD z μ = some (d, μ')) : z = some d ∧ μ' = μ := by
  unfold wthD at h
  obtain ⟨a, h1, h2⟩ := Option.map_eq_some_iff.mp h
  cases h2
  exact ⟨h1, rfl⟩
section
variable {K : PySem.W.Frag} {F : Fs} {own : Addr → Prop} {ads ads' : List Addr} {H H' : Hp} {σ : L2.St} {ρ : Env} {μ μ' : Cells} {Q : VK}
theorem Fin2.fin {b : Bool} {d : D} (h : Hold K own ads H σ ρ μ) (q : Fin2 K own ads H σ ρ b d μ' Q) (e0 : EnvR K own ads H σ ρ) : ∀ v H' ads', Ext ads H ads' H' → CellsR K own ads' H' μ' → RepB K own ads' H' b v d → Q v H' :=
  fun v H' ads' e c r => q v H' ads' e ⟨e0.ext h.c e, c, h.len⟩ r
/-- one part, then what follows -/
theorem tE.one {a : E} {x : D} (h : Hold K own ads H σ ρ μ) (ha : ev F a ρ μ = some (x, μ')) (k : ∀ v H' ads', Ext ads H ads' H' → Hold K own ads' H' σ ρ μ' → RepB K own ads' H' (lk ρ a) v x → Q v H') : tE K F a σ H Q :=
  ⟨own, ads, ρ, μ, x, μ', h, ha, k⟩
end
end FM

set_option Elab.async false
set_option linter.all false
set_option maxRecDepth 100000
set_option maxHeartbeats 4000000
/-! Ev6: one lemma a construct. -/
namespace FM
open PySem PySem.Spec PyProof.Rows L2

def plainT : Expr → Bool
  | .UnaryOp .Not _ _ => false
  | .BoolOp _ _ _ => false
  | .IfExp _ _ _ _ => false
  | .Compare _ _ _ _ => false
  | _ => true
theorem plainT_of {e : Expr} (h : plainT e = true) (env : PySem.Env) (whole : Sem Value) : isTrue e env whole = (do let v ← whole; standAt e.pos; holding [v] (truthy v)) := by
  cases e with
  | UnaryOp op x p => cases op <;> first | rfl | cases h
  | _ => first | rfl | cases h
theorem room65 {k : Nat} {A : Around} (r : Room k A) : A.units + 65 < cLine := by have := r.un; omega
section
variable {X : Cx} {F : Fs}
/-- as a value and as a test -/
structure Both (X : Cx) (F : Fs) (x : Expr) (e : E) : Prop where
  v : PE X x (tE X.K F e)
  t : PT X x (tT X.K F e)
theorem Both.mk' {x : Expr} {e : E} (h : PE X x (tE X.K F e)) (p : plainT x = true) : Both X F x e := by
  refine ⟨h, PT.imp (pt_val h (plainT_of p _)) fun σ H Q ⟨own, ads, ρ, μ, b, μ', h, he, q⟩ => ?_⟩
  exact ⟨own, ads, ρ, μ, _, μ', h, he, fun v H' ads' e' h' r => ⟨b, r.bl, q H' ads' e' h'⟩⟩

theorem s_var {N fs : List Str} {n : Nat} {sc : Scope} (G : GX N fs F n sc X) {i : Nat} {x : Str} {pos : Pos} (h : nameIs N sc i x = true) : Both X F (.Name x pos) (.var i) := by
  unfold nameIs at h
  rw [Bool.and_eq_true, Bool.and_eq_true, Bool.and_eq_true, decide_eq_true_eq] at h
  obtain ⟨⟨⟨h1, h2⟩, h3⟩, h4⟩ := h
  refine Both.mk' (PE.imp (pe_var (i := i) (by rw [G.hN]; exact h1) (G.vis x h2) (by simpa using h3) (by simpa using h4)) ?_) rfl
  intro σ H Q ⟨own, ads, ρ, μ, d, μ', h, he, q⟩
  unfold ev at he
  cases e : ρ[i]? with
  | none => rw [e] at he; cases he
  | some o =>
    cases o with
    | none => rw [e] at he; cases he
    | some s =>
      rw [e] at he
      cases he
      obtain ⟨v, h5, h6⟩ := h.e i s e
      refine ⟨v, h5, q v H ads .refl h ?_⟩
      cases s with
      | pl d => exact .inl h6
      | ow ds =>
        obtain ⟨a, xs, e1, e2, e3, e4⟩ := h6
        refine .inr ⟨?_, a, xs, ds, e1, rfl, e2, e3, e4⟩
        show isOw ρ i = true
        unfold isOw
        rw [e]
        rfl
theorem s_int {i : Int} {k : Nat} {pos : Pos} : Both X F (.Constant (.int i) k pos) (.int i) :=
  Both.mk' (PE.imp pe_int fun σ H Q ⟨own, ads, ρ, μ, d, μ', h, he, q⟩ => by cases he; exact q _ H ads .refl h (.inl (.int i))) rfl
theorem s_bl {i : Bool} {k : Nat} {pos : Pos} : Both X F (.Constant (.bool i) k pos) (.bl i) :=
  Both.mk' (PE.imp pe_bl fun σ H Q ⟨own, ads, ρ, μ, d, μ', h, he, q⟩ => by cases he; exact q _ H ads .refl h (.inl (.bl i))) rfl
theorem s_non {k : Nat} {pos : Pos} : Both X F (.Constant .none k pos) .non :=
  Both.mk' (PE.imp pe_non fun σ H Q ⟨own, ads, ρ, μ, d, μ', h, he, q⟩ => by cases he; exact q _ H ads .refl h (.inl .non)) rfl
theorem s_str {i : Str} {k : Nat} {pos : Pos} : Both X F (.Constant (.str i) k pos) (.str i) :=
  Both.mk' (PE.imp pe_str fun σ H Q ⟨own, ads, ρ, μ, d, μ', h, he, q⟩ => by cases he; exact q _ H ads .refl h (.inl (.str i))) rfl
/-- from Fin2 to Fin -/
theorem toFin {K : PySem.W.Frag} {own : Addr → Prop} {ads ads1 : List Addr} {H H1 : Hp} {σ : L2.St} {ρ : Env} {μ1 μ' : Cells} {b : Bool} {d : D} {Q : VK} (e1 : Ext ads H ads1 H1) (h1 : Hold K own ads1 H1 σ ρ μ1) (q : Fin2 K own ads H σ ρ b d μ' Q) : Fin K own ads1 H1 b d μ' Q :=
  fun v H' ads' e c r => q v H' ads' (e1.trans e) ⟨h1.e.ext h1.c e, c, h1.len⟩ r
theorem s_op {o : Operator} {a b : E} {x y : Expr} {pos : Pos} (ha : Both X F x a) (hb : Both X F y b) : Both X F (.BinOp x o y pos) (.op o a b) := by
  refine Both.mk' (PE.imp (pe_op (op_D o) ha.v hb.v) ?_) rfl
  intro σ H Q ⟨own, ads, ρ, μ, d, μ', h, he, q⟩
  unfold ev at he
  obtain ⟨dx, μ1, e1, he⟩ := andThen_some he
  obtain ⟨dy, μ2, e2, he⟩ := andThen_some he
  obtain ⟨hz, rfl⟩ := wthD_some he
  exact ⟨own, ads, ρ, μ, dx, μ1, h, e1, fun v H1 ads1 x1 h1 r1 => ⟨own, ads1, ρ, μ1, dy, μ', h1, e2, fun w H2 ads2 x2 h2 r2 =>
    ⟨own, ads2, μ', _, _, dx, dy, d, h2.c, r1.ext h1.c x2, r2, hz, toFin (x1.trans x2) h2 q⟩⟩⟩
theorem s_neg {a : E} {x : Expr} {pos : Pos} (ha : Both X F x a) : Both X F (.UnaryOp .USub x pos) (.neg a) := by
  refine Both.mk' (PE.imp (pe_un un_D ha.v) ?_) rfl
  intro σ H Q ⟨own, ads, ρ, μ, d, μ', h, he, q⟩
  unfold ev at he
  obtain ⟨dx, μ1, e1, he⟩ := andThen_some he
  obtain ⟨hz, rfl⟩ := wthD_some he
  exact ⟨own, ads, ρ, μ, dx, μ', h, e1, fun v H1 ads1 x1 h1 r1 => ⟨own, ads1, μ', _, dx, d, h1.c, r1, hz, toFin x1 h1 q⟩⟩
theorem s_cmp {N fs : List Str} {n : Nat} {sc : Scope} (G : GX N fs F n sc X) {o : CmpOp} {a b : E} {x y : Expr} {pos : Pos} (ha : Both X F x a) (hb : Both X F y b) (hs : notSet y = true) : Both X F (.Compare x [o] [y] pos) (.cmp o a b) := by
  refine ⟨PE.imp (pe_cmpR (cm_D (room65 G.room) o) ha.v hb.v (marks_of hs o)) ?_, PT.imp (pt_cmpR (cm_D (room65 G.room) o) ha.v hb.v (marks_of hs o)) ?_⟩
  · intro σ H Q ⟨own, ads, ρ, μ, d, μ', h, he, q⟩
    unfold ev at he
    obtain ⟨dx, μ1, e1, he⟩ := andThen_some he
    obtain ⟨dy, μ2, e2, he⟩ := andThen_some he
    obtain ⟨hz, rfl⟩ := wthD_some he
    obtain ⟨r, hr, e3⟩ := Option.map_eq_some_iff.mp hz
    subst e3
    exact ⟨own, ads, ρ, μ, dx, μ1, h, e1, fun v H1 ads1 x1 h1 r1 => ⟨own, ads1, ρ, μ1, dy, μ', h1, e2, fun w H2 ads2 x2 h2 r2 =>
      ⟨own, ads2, μ', _, _, dx, dy, r, h2.c, r1.ext h1.c x2, r2, hr, q _ H2 ads2 (x1.trans x2) h2 (.inl (.bl r))⟩⟩⟩
  · intro σ H Q ⟨own, ads, ρ, μ, b', μ', h, he, q⟩
    unfold ev at he
    obtain ⟨dx, μ1, e1, he⟩ := andThen_some he
    obtain ⟨dy, μ2, e2, he⟩ := andThen_some he
    obtain ⟨hz, rfl⟩ := wthD_some he
    obtain ⟨r, hr, e3⟩ := Option.map_eq_some_iff.mp hz
    cases e3
    exact ⟨own, ads, ρ, μ, dx, μ1, h, e1, fun v H1 ads1 x1 h1 r1 => ⟨own, ads1, ρ, μ1, dy, μ', h1, e2, fun w H2 ads2 x2 h2 r2 =>
      ⟨own, ads2, μ', _, _, dx, dy, b', h2.c, r1.ext h1.c x2, r2, hr, b', rfl, q H2 ads2 (x1.trans x2) h2⟩⟩⟩
theorem cmp_bl {o : CmpOp} {dx dy : D} {z : Option D} {d : D} (h : (cmpD o dx dy).map D.bl = some d) : ∃ r, cmpD o dx dy = some r ∧ d = .bl r := by
  obtain ⟨r, h1, h2⟩ := Option.map_eq_some_iff.mp h
  exact ⟨r, h1, h2.symm⟩
theorem chn_go {o o' : CmpOp} {a b c : E} {ρ : Env} {μ μ' : Cells} {d : D} (he : ev F (.chn o o' a b c) ρ μ = some (d, μ')) : ∃ dx μ1 dy μ2 r, ev F a ρ μ = some (dx, μ1) ∧ ev F b ρ μ1 = some (dy, μ2) ∧ cmpD o dx dy = some r ∧
    ((r = false ∧ d = .bl false ∧ μ' = μ2) ∨ (r = true ∧ ∃ dz r', ev F c ρ μ2 = some (dz, μ') ∧ cmpD o' dy dz = some r' ∧ d = .bl r')) := by
  unfold ev at he
  obtain ⟨dx, μ1, e1, he⟩ := andThen_some he
  obtain ⟨dy, μ2, e2, he⟩ := andThen_some he
  split at he
  · rename_i hr
    obtain ⟨dz, μ3, e3, he⟩ := andThen_some he
    obtain ⟨hz, rfl⟩ := wthD_some he
    obtain ⟨r', h1, h2⟩ := Option.map_eq_some_iff.mp hz
    exact ⟨dx, μ1, dy, μ2, true, e1, e2, hr, .inr ⟨rfl, dz, r', e3, h1, h2.symm⟩⟩
  · rename_i hr
    cases he
    exact ⟨dx, μ1, dy, _, false, e1, e2, hr, .inl ⟨rfl, rfl, rfl⟩⟩
  · cases he
end
end FM

set_option Elab.async false
set_option linter.all false
set_option maxRecDepth 100000
set_option maxHeartbeats 4000000
/-! Ev7: chains, and, or, not, conditional expressions, displays, subscripts, slices, calls. -/
namespace FM
open PySem PySem.Spec PyProof.Rows L2
section
variable {X : Cx} {F : Fs}
theorem marks2 {b c : Expr} (h : notSet c = true) (o o' : CmpOp) : lastMarks [o, o'] [b, c] = false := marks_of h o'
theorem s_chn {N fs : List Str} {n : Nat} {sc : Scope} (G : GX N fs F n sc X) {o o' : CmpOp} {a b c : E} {x y z : Expr} {pos : Pos} (ha : Both X F x a) (hb : Both X F y b) (hc : Both X F z c) (hs : notSet z = true) :
    Both X F (.Compare x [o, o'] [y, z] pos) (.chn o o' a b c) := by
  have core : ∀ (σ : L2.St) (H : Hp) (Q : VK), tE X.K F (.chn o o' a b c) σ H Q → tChain (rCm X.K o) (rCm X.K o') (tE X.K F a) (tE X.K F b) (tE X.K F c) σ H Q := by
    intro σ H Q ⟨own, ads, ρ, μ, d, μ', h, he, q⟩
    obtain ⟨dx, μ1, dy, μ2, r, e1, e2, hr, hz⟩ := chn_go he
    refine ⟨own, ads, ρ, μ, dx, μ1, h, e1, fun v H1 ads1 x1 h1 r1 => ⟨own, ads1, ρ, μ1, dy, μ2, h1, e2, fun w H2 ads2 x2 h2 r2 => ?_⟩⟩
    refine ⟨own, ads2, μ2, _, _, dx, dy, r, h2.c, r1.ext h1.c x2, r2, hr, r, rfl, ?_⟩
    rcases hz with ⟨rfl, rfl, rfl⟩ | ⟨rfl, dz, r', e3, hr', rfl⟩
    · rw [if_neg Bool.false_ne_true]
      exact q _ H2 ads2 (x1.trans x2) h2 (.inl (.bl false))
    · rw [if_pos rfl]
      exact ⟨own, ads2, ρ, μ2, dz, μ', h2, e3, fun u H3 ads3 x3 h3 r3 => ⟨own, ads3, μ', _, _, dy, dz, r', h3.c, r2.ext h2.c x3, r3, hr', q _ H3 ads3 ((x1.trans x2).trans x3) h3 (.inl (.bl r'))⟩⟩
  refine ⟨PE.imp (pe_chain (cm_D (room65 G.room) o) (cm_D (room65 G.room) o') ha.v hb.v hc.v (marks2 hs o o')) core, PT.imp (pt_chain (cm_D (room65 G.room) o) (cm_D (room65 G.room) o') ha.v hb.v hc.v (marks2 hs o o')) ?_⟩
  intro σ H Q ⟨own, ads, ρ, μ, b', μ', h, he, q⟩
  refine core σ H _ ⟨own, ads, ρ, μ, .bl b', μ', h, he, fun v H' ads' e h' r => ⟨b', r.bl, q H' ads' e h'⟩⟩
theorem pw_of {op : BoolOp} {vs : List Expr} {pos : Pos} {t : TT} (h : PT X (.BoolOp op vs pos) t) : PW X (.BoolOp op vs pos) t := ⟨fun _ pins s σ H Q I q => h.run pins s σ H Q I q⟩
theorem and_go {a b : E} {ρ : Env} {μ μ' : Cells} {d : D} (he : ev F (.and a b) ρ μ = some (d, μ')) : ∃ x μ1, ev F a ρ μ = some (.bl x, μ1) ∧ ((x = false ∧ d = .bl false ∧ μ' = μ1) ∨ (x = true ∧ ∃ y, ev F b ρ μ1 = some (.bl y, μ') ∧ d = .bl y)) := by
  unfold ev at he
  obtain ⟨x, μ1, e1, he⟩ := onBl_some he
  cases x with
  | false => cases he; exact ⟨_, _, e1, .inl ⟨rfl, rfl, rfl⟩⟩
  | true =>
    obtain ⟨y, μ2, e2, he⟩ := onBl_some he
    cases he
    exact ⟨_, _, e1, .inr ⟨rfl, _, e2, rfl⟩⟩
theorem or_go {a b : E} {ρ : Env} {μ μ' : Cells} {d : D} (he : ev F (.or a b) ρ μ = some (d, μ')) : ∃ x μ1, ev F a ρ μ = some (.bl x, μ1) ∧ ((x = true ∧ d = .bl true ∧ μ' = μ1) ∨ (x = false ∧ ∃ y, ev F b ρ μ1 = some (.bl y, μ') ∧ d = .bl y)) := by
  unfold ev at he
  obtain ⟨x, μ1, e1, he⟩ := onBl_some he
  cases x with
  | true => cases he; exact ⟨_, _, e1, .inl ⟨rfl, rfl, rfl⟩⟩
  | false =>
    obtain ⟨y, μ2, e2, he⟩ := onBl_some he
    cases he
    exact ⟨_, _, e1, .inr ⟨rfl, _, e2, rfl⟩⟩
theorem s_and {a b : E} {x y : Expr} {r : List Expr} {pos : Pos} (ha : Both X F x a) (hb : (r = [] ∧ Both X F y b) ∨ (r ≠ [] ∧ Both X F (.BoolOp .And (y :: r) pos) b)) : Both X F (.BoolOp .And (x :: y :: r) pos) (.and a b) := by
  have hv : PE X (.BoolOp .And (y :: r) pos) (tE X.K F b) := by
    rcases hb with ⟨rfl, hb⟩ | ⟨_, hb⟩
    · exact pe_one hb.v
    · exact hb.v
  have ht : PW X (.BoolOp .And (y :: r) pos) (tT X.K F b) := by
    rcases hb with ⟨rfl, hb⟩ | ⟨_, hb⟩
    · exact pw_and1 hb.t
    · exact pw_of hb.t
  refine ⟨PE.imp (pe_and ha.v hv) ?_, PT.imp (pw_and ha.t ht).pt ?_⟩
  · intro σ H Q ⟨own, ads, ρ, μ, d, μ', h, he, q⟩
    obtain ⟨k, μ1, e1, hz⟩ := and_go he
    refine ⟨own, ads, ρ, μ, _, μ1, h, e1, fun v H1 ads1 x1 h1 r1 => ⟨k, r1.bl, ?_⟩⟩
    rcases hz with ⟨rfl, rfl, rfl⟩ | ⟨rfl, j, e2, rfl⟩
    · rw [if_neg Bool.false_ne_true]
      exact q _ H1 ads1 x1 h1 (.inl (.bl false))
    · rw [if_pos rfl]
      exact ⟨own, ads1, ρ, μ1, _, μ', h1, e2, fun w H2 ads2 x2 h2 r2 => q w H2 ads2 (x1.trans x2) h2 (.inl (by rw [r2.bl]; exact .bl j))⟩
  · intro σ H Q ⟨own, ads, ρ, μ, d, μ', h, he, q⟩
    obtain ⟨k, μ1, e1, hz⟩ := and_go he
    refine ⟨own, ads, ρ, μ, _, μ1, h, e1, fun H1 ads1 x1 h1 => ?_⟩
    rcases hz with ⟨rfl, ed, rfl⟩ | ⟨rfl, j, e2, ed⟩
    · cases ed
      rw [if_neg Bool.false_ne_true]
      exact q H1 ads1 x1 h1
    · cases ed
      rw [if_pos rfl]
      exact ⟨own, ads1, ρ, μ1, _, μ', h1, e2, fun H2 ads2 x2 h2 => q H2 ads2 (x1.trans x2) h2⟩
theorem s_or {a b : E} {x y : Expr} {r : List Expr} {pos : Pos} (ha : Both X F x a) (hb : (r = [] ∧ Both X F y b) ∨ (r ≠ [] ∧ Both X F (.BoolOp .Or (y :: r) pos) b)) : Both X F (.BoolOp .Or (x :: y :: r) pos) (.or a b) := by
  have hv : PE X (.BoolOp .Or (y :: r) pos) (tE X.K F b) := by
    rcases hb with ⟨rfl, hb⟩ | ⟨_, hb⟩
    · exact pe_one hb.v
    · exact hb.v
  have ht : PW X (.BoolOp .Or (y :: r) pos) (tT X.K F b) := by
    rcases hb with ⟨rfl, hb⟩ | ⟨_, hb⟩
    · exact pw_or1 hb.t
    · exact pw_of hb.t
  refine ⟨PE.imp (pe_or ha.v hv) ?_, PT.imp (pw_or ha.t ht).pt ?_⟩
  · intro σ H Q ⟨own, ads, ρ, μ, d, μ', h, he, q⟩
    obtain ⟨k, μ1, e1, hz⟩ := or_go he
    refine ⟨own, ads, ρ, μ, _, μ1, h, e1, fun v H1 ads1 x1 h1 r1 => ⟨k, r1.bl, ?_⟩⟩
    rcases hz with ⟨rfl, rfl, rfl⟩ | ⟨rfl, j, e2, rfl⟩
    · rw [if_pos rfl]
      exact q _ H1 ads1 x1 h1 (.inl (.bl true))
    · rw [if_neg Bool.false_ne_true]
      exact ⟨own, ads1, ρ, μ1, _, μ', h1, e2, fun w H2 ads2 x2 h2 r2 => q w H2 ads2 (x1.trans x2) h2 (.inl (by rw [r2.bl]; exact .bl j))⟩
  · intro σ H Q ⟨own, ads, ρ, μ, d, μ', h, he, q⟩
    obtain ⟨k, μ1, e1, hz⟩ := or_go he
    refine ⟨own, ads, ρ, μ, _, μ1, h, e1, fun H1 ads1 x1 h1 => ?_⟩
    rcases hz with ⟨rfl, ed, rfl⟩ | ⟨rfl, j, e2, ed⟩
    · cases ed
      rw [if_pos rfl]
      exact q H1 ads1 x1 h1
    · cases ed
      rw [if_neg Bool.false_ne_true]
      exact ⟨own, ads1, ρ, μ1, _, μ', h1, e2, fun H2 ads2 x2 h2 => q H2 ads2 (x1.trans x2) h2⟩
theorem s_not {a : E} {x : Expr} {pos : Pos} (ha : Both X F x a) : Both X F (.UnaryOp .Not x pos) (.not a) := by
  refine ⟨PE.imp (pe_not ha.v) ?_, PT.imp (pt_not ha.t) ?_⟩
  · intro σ H Q ⟨own, ads, ρ, μ, d, μ', h, he, q⟩
    unfold ev at he
    obtain ⟨k, μ1, e1, he⟩ := onBl_some he
    cases he
    exact ⟨own, ads, ρ, μ, _, _, h, e1, fun v H1 ads1 x1 h1 r1 => ⟨k, r1.bl, q _ H1 ads1 x1 h1 (.inl (.bl (!k)))⟩⟩
  · intro σ H Q ⟨own, ads, ρ, μ, d, μ', h, he, q⟩
    unfold ev at he
    obtain ⟨k, μ1, e1, he⟩ := onBl_some he
    cases he
    exact ⟨own, ads, ρ, μ, _, _, h, e1, fun H1 ads1 x1 h1 => q H1 ads1 x1 h1⟩
theorem RepB.mono {K : PySem.W.Frag} {own : Addr → Prop} {ads : List Addr} {H : Hp} {b b' : Bool} {v : V} {d : D} (h : RepB K own ads H b v d) (i : b = true → b' = true) : RepB K own ads H b' v d := by
  rcases h with h | ⟨h, z⟩
  · exact .inl h
  · exact .inr ⟨i h, z⟩
theorem pt_ifExp {c x y : Expr} {tc tx ty : TT} {pos : Pos} (hc : PT X c tc) (hx : PT X x tx) (hy : PT X y ty) : PT X (.IfExp c x y pos) (fun σ H Q => tc σ H fun b H1 => if b = true then tx σ H1 Q else ty σ H1 Q) := by
  refine ⟨fun pins s σ H Q I h => ?_⟩
  refine isTrue_IfExp (thn (hc.run pins s σ H _ I h) fun d s1 ⟨H1, I1, q1⟩ => ?_)
  cases d with
  | true => exact hx.run pins s1 σ H1 Q I1 q1
  | false => exact hy.run pins s1 σ H1 Q I1 q1
theorem s_ife {c a b : E} {z x y : Expr} {pos : Pos} (hc : Both X F z c) (ha : Both X F x a) (hb : Both X F y b) : Both X F (.IfExp z x y pos) (.ife c a b) := by
  refine ⟨PE.imp (pe_ifExp hc.t ha.v hb.v) ?_, PT.imp (pt_ifExp hc.t ha.t hb.t) ?_⟩
  · intro σ H Q ⟨own, ads, ρ, μ, d, μ', h, he, q⟩
    unfold ev at he
    obtain ⟨k, μ1, e1, he⟩ := onBl_some he
    refine ⟨own, ads, ρ, μ, _, _, h, e1, fun H1 ads1 x1 h1 => ?_⟩
    cases k with
    | true =>
      rw [if_pos rfl] at he ⊢
      refine ⟨own, ads1, ρ, μ1, d, μ', h1, he, fun v H2 ads2 x2 h2 r2 => q v H2 ads2 (x1.trans x2) h2 (r2.mono fun z => ?_)⟩
      show (lk ρ a || lk ρ b) = true
      rw [z]; rfl
    | false =>
      rw [if_neg Bool.false_ne_true] at he ⊢
      refine ⟨own, ads1, ρ, μ1, d, μ', h1, he, fun v H2 ads2 x2 h2 r2 => q v H2 ads2 (x1.trans x2) h2 (r2.mono fun z => ?_)⟩
      show (lk ρ a || lk ρ b) = true
      rw [z, Bool.or_true]
  · intro σ H Q ⟨own, ads, ρ, μ, d, μ', h, he, q⟩
    unfold ev at he
    obtain ⟨k, μ1, e1, he⟩ := onBl_some he
    refine ⟨own, ads, ρ, μ, _, _, h, e1, fun H1 ads1 x1 h1 => ?_⟩
    cases k with
    | true =>
      rw [if_pos rfl] at he ⊢
      exact ⟨own, ads1, ρ, μ1, d, μ', h1, he, fun H2 ads2 x2 h2 => q H2 ads2 (x1.trans x2) h2⟩
    | false =>
      rw [if_neg Bool.false_ne_true] at he ⊢
      exact ⟨own, ads1, ρ, μ1, d, μ', h1, he, fun H2 ads2 x2 h2 => q H2 ads2 (x1.trans x2) h2⟩

/-! ### lists of expressions -/
theorem s_nil : PA X [] (tEs X.K F .nil) := PA.imp pa_nil fun σ H Q ⟨own, ads, ρ, μ, ds, μ', h, he, q⟩ => by
  cases he
  exact q [] H ads .refl h True.intro fun _ => .nil
theorem s_cons {e : E} {es : Es} {x : Expr} {xs : List Expr} (h1 : Both X F x e) (h2 : PA X xs (tEs X.K F es)) (hs : notStar x = true) : PA X (x :: xs) (tEs X.K F (.cons e es)) := by
  refine PA.imp (pa_cons h1.v h2 (starEach_cons hs _ _)) ?_
  intro σ H Q ⟨own, ads, ρ, μ, ds, μ', h, he, q⟩
  unfold evs at he
  obtain ⟨d, μ1, e1, he⟩ := andThen_some he
  obtain ⟨ds', μ2, e2, he⟩ := andThen_some he
  cases he
  refine ⟨own, ads, ρ, μ, d, μ1, h, e1, fun v H1 ads1 x1 h1 r1 => ⟨own, ads1, ρ, μ1, ds', _, h1, e2, fun vs H2 ads2 x2 h2 r2 p2 => ?_⟩⟩
  refine q (v :: vs) H2 ads2 (x1.trans x2) h2 ⟨(r1.ext h1.c x2).mono fun _ => rfl, r2⟩ fun z => ?_
  have z' : (lk ρ e || lks ρ es) = false := z
  rw [Bool.or_eq_false_iff] at z'
  rw [z'.1] at r1
  exact .cons (r1.plain.ext x2) (p2 z'.2)
theorem s_tup {es : Es} {xs : List Expr} {k : Nat} {pos : Pos} (h : PA X xs (tEs X.K F es)) : Both X F (.Tuple xs k pos) (.tup es) := by
  refine Both.mk' (PE.imp (pe_tup h) ?_) rfl
  intro σ H Q ⟨own, ads, ρ, μ, d, μ', h, he, q⟩
  unfold ev at he
  split at he
  · cases he
  · rename_i hl
    obtain ⟨ds, μ1, e1, he⟩ := andThen_some he
    split at he
    · rename_i hz
      cases he
      refine ⟨own, ads, ρ, μ, ds, _, h, e1, fun vs H1 ads1 x1 h1 r1 p1 => ?_⟩
      have l := p1 (by simpa using hl)
      exact ⟨by rw [l.length]; exact hz, (toFin x1 h1 q).newT h1.c l⟩
    · cases he
theorem s_lst {es : Es} {xs : List Expr} {pos : Pos} (h : PA X xs (tEs X.K F es)) : Both X F (.List xs pos) (.lst es) := by
  refine Both.mk' (PE.imp (pe_lst h) ?_) rfl
  intro σ H Q ⟨own, ads, ρ, μ, d, μ', h, he, q⟩
  unfold ev at he
  split at he
  · cases he
  · rename_i hl
    obtain ⟨ds, μ1, e1, he⟩ := andThen_some he
    split at he
    · rename_i hz
      cases he
      refine ⟨own, ads, ρ, μ, ds, _, h, e1, fun vs H1 ads1 x1 h1 r1 p1 => ?_⟩
      have l := p1 (by simpa using hl)
      exact ⟨by rw [l.length]; exact hz, (toFin x1 h1 q).newL h1.c l⟩
    · cases he
theorem s_ix {N fs : List Str} {n : Nat} {sc : Scope} (G : GX N fs F n sc X) {a b : E} {x y : Expr} {pos : Pos} (ha : Both X F x a) (hb : Both X F y b) (hs : notSlice y = true) : Both X F (.Subscript x y pos) (.ix a b) := by
  refine Both.mk' (PE.imp (pe_ix (ix_D (hu_of G.room)) ha.v hb.v (plainIx_of hs)) ?_) rfl
  intro σ H Q ⟨own, ads, ρ, μ, d, μ', h, he, q⟩
  unfold ev at he
  obtain ⟨dx, μ1, e1, he⟩ := andThen_some he
  obtain ⟨dy, μ2, e2, he⟩ := andThen_some he
  obtain ⟨hz, rfl⟩ := wthD_some he
  exact ⟨own, ads, ρ, μ, dx, μ1, h, e1, fun v H1 ads1 x1 h1 r1 => ⟨own, ads1, ρ, μ1, dy, μ', h1, e2, fun w H2 ads2 x2 h2 r2 =>
    ⟨own, ads2, μ', _, _, dx, dy, d, h2.c, r1.ext h1.c x2, r2, hz, toFin (x1.trans x2) h2 q⟩⟩⟩
theorem s_onone : PO X none (tEO X.K F .none) := PO.imp po_none fun σ H Q ⟨own, ads, ρ, μ, d, μ', h, he, q⟩ => by
  cases he
  exact q H ads .refl h
theorem s_osome {e : E} {x : Expr} (h : Both X F x e) : PO X (some x) (tEO X.K F (.some e)) := by
  refine PO.imp (po_some h.v) ?_
  intro σ H Q ⟨own, ads, ρ, μ, d, μ', h, he, q⟩
  unfold evo at he
  obtain ⟨dx, μ1, e1, he⟩ := andThen_some he
  split at he
  · cases he
    exact ⟨own, ads, ρ, μ, _, _, h, e1, fun v H1 ads1 x1 h1 r1 => ⟨_, r1.int, q H1 ads1 x1 h1⟩⟩
  · cases he
theorem s_sl {a : E} {lo hi : EO} {x : Expr} {l h : Option Expr} {p2 pos : Pos} (ha : Both X F x a) (hl : PO X l (tEO X.K F lo)) (hh : PO X h (tEO X.K F hi)) : Both X F (.Subscript x (.Slice l h none p2) pos) (.sl a lo hi) := by
  refine Both.mk' (PE.imp (pe_slice sl_D ha.v hl hh) ?_) rfl
  intro σ H Q ⟨own, ads, ρ, μ, d, μ', h, he, q⟩
  unfold ev at he
  obtain ⟨dx, μ1, e1, he⟩ := andThen_some he
  obtain ⟨dl, μ2, e2, he⟩ := andThen_some he
  obtain ⟨dh, μ3, e3, he⟩ := andThen_some he
  obtain ⟨hz, rfl⟩ := wthD_some he
  exact ⟨own, ads, ρ, μ, dx, μ1, h, e1, fun v H1 ads1 x1 h1 r1 => ⟨own, ads1, ρ, μ1, dl, μ2, h1, e2, fun H2 ads2 x2 h2 => ⟨own, ads2, ρ, μ2, dh, μ', h2, e3, fun H3 ads3 x3 h3 =>
    ⟨own, ads3, μ', _, dx, d, h3.c, (r1.ext h1.c x2).ext h2.c x3, hz, toFin ((x1.trans x2).trans x3) h3 q⟩⟩⟩⟩
theorem s_cnone : PTs X [] (tC' X.K F .none) := PTs.imp pts_nil fun σ H Q ⟨own, ads, ρ, μ, d, μ', h, he, q⟩ => by
  cases he
  exact q H ads .refl h
theorem s_csome {e : E} {x : Expr} (h : Both X F x e) : PTs X [x] (tC' X.K F (.some e)) := by
  refine PTs.imp (pts_one h.t) ?_
  intro σ H Q ⟨own, ads, ρ, μ, d, μ', h, he, q⟩
  unfold evc at he
  obtain ⟨k, μ1, e1, he⟩ := onBl_some he
  cases he
  exact ⟨own, ads, ρ, μ, _, _, h, e1, q⟩
/-! ### built-ins, isinstance, methods -/
theorem noStarAny : ∀ {es : List Expr} {env : PySem.Env} {pos : Pos}, (∀ x ∈ es, notStar x = true) → (backTo pos (starEach es env)).any (·.1) = false
  | [], _, _, _ => rfl
  | e :: es, env, pos, h => by
    rw [starEach_cons (h e List.mem_cons_self)]
    have ih := noStarAny (es := es) (env := env) (pos := pos) fun x hx => h x (List.mem_cons_of_mem _ hx)
    exact ih
theorem s_bi {N fs : List Str} {n : Nat} {sc : Scope} (G : GX N fs F n sc X) {b : Bi} {es : Es} {g : Str} {x : Expr} {xs : List Expr} {p pos : Pos} (hg : g = b.name) (hgl : gloB sc g = true) (hst : ∀ y ∈ x :: xs, notStar y = true) (h : PA X (x :: xs) (tEs X.K F es)) :
    Both X F (.Call (.Name g p) (x :: xs) [] pos) (.bi b es) := by
  have hn : X.mg g = none := G.bn g (by subst hg; cases b <;> decide +kernel)
  have hb : bootBuiltins g = some b.val := by rw [hg]; exact b.boot
  have core : PE X (.Call (.Name g p) (x :: xs) [] pos) (tCB (rBi X.K b) (tEs X.K F es)) := by
    have hc := bi_D (X := X) G.calm b
    have n1 : g ≠ "__name__" := by subst hg; cases b <;> decide +kernel
    have n2 : (g == ("__debug__" : Str)) = false := by subst hg; cases b <;> decide +kernel
    have n3 := starEach_cons (hst x List.mem_cons_self) xs X.env
    have n4 := noStarAny (env := X.env) (pos := pos) fun y hy => hst y (List.mem_cons_of_mem _ hy)
    cases b <;> first
      | exact pe_callB hc (G.glo g hgl) hn hb h n1 n2 n3 n4
      | exact pe_callTy hc (G.glo g hgl) hn hb h n1 n2 n3 n4
  refine Both.mk' (PE.imp core ?_) rfl
  intro σ H Q ⟨own, ads, ρ, μ, d, μ', h, he, q⟩
  unfold ev at he
  obtain ⟨ds, μ1, e1, he⟩ := andThen_some he
  obtain ⟨hz, rfl⟩ := wthD_some he
  exact ⟨own, ads, ρ, μ, ds, μ', h, e1, fun vs H1 ads1 x1 h1 r1 _ => ⟨own, ads1, μ', ds, d, h1.c, r1, hz, toFin x1 h1 q⟩⟩
theorem s_isi {N fs : List Str} {n : Nat} {sc : Scope} (G : GX N fs F n sc X) {a : E} {t : Ty} {x : Expr} {p p2 pos : Pos} (hgl : gloB sc "isinstance" = true) (hgt : gloB sc t.py = true) (hs : notStar x = true) (h : Both X F x a) :
    Both X F (.Call (.Name "isinstance" p) [x, .Name t.py p2] [] pos) (.isi a t) := by
  have hn : X.mg "isinstance" = none := G.bn _ (by decide +kernel)
  have hn2 : X.mg t.py = none := G.bn _ (by cases t <;> decide +kernel)
  have he : PE X (.Name t.py p2) (tC (.ty t.name)) := pe_bltn (G.glo _ hgt) hn2 t.boot rfl (by cases t <;> decide +kernel) (by cases t <;> decide +kernel)
  have core := pe_callB (X := X) (pos := pos) (p := p) call_isi (G.glo _ hgl) hn (by decide +kernel) (pa_cons h.v (pa_cons he pa_nil) (starEach_cons hs _ _)) (by decide +kernel) (by decide +kernel) (starEach_cons hs _ _) rfl
  refine Both.mk' (PE.imp core ?_) rfl
  intro σ H Q ⟨own, ads, ρ, μ, d, μ', h, he, q⟩
  unfold ev at he
  obtain ⟨dx, μ1, e1, he⟩ := andThen_some he
  obtain ⟨hz, rfl⟩ := wthD_some he
  obtain ⟨r, hr, e3⟩ := Option.map_eq_some_iff.mp hz
  subst e3
  refine ⟨own, ads, ρ, μ, dx, μ', h, e1, fun v H1 ads1 x1 h1 r1 => ?_⟩
  obtain ⟨u, ty, kk⟩ := isi_kit r1 hr
  exact ⟨v, .ty t.name, u, .type t.name, r, rfl, .ty _, ty, kk, q _ H1 ads1 x1 h1 (.inl (.bl r))⟩
end
end FM

set_option Elab.async false
set_option linter.all false
set_option maxRecDepth 100000
set_option maxHeartbeats 4000000
/-! Ev8: methods, calls, targets, iterators, comprehensions. -/
namespace FM
open PySem PySem.Spec PyProof.Rows L2
section
variable {X : Cx} {F : Fs}

/-! ### methods -/
theorem meD_bits {x z : D} {ds : List D} (h : meD .bits x ds = some z) : ∃ i, x = .int i ∧ z = .int (Builtin.Int.intBits i : Nat) := by
  cases x with
  | int i =>
    cases ds with
    | nil => cases h; exact ⟨i, rfl, rfl⟩
    | cons _ _ => cases h
  | _ => cases h
theorem meD_partition {x z : D} {ds : List D} (h : meD .partition x ds = some z) : ∃ a b, x = .str a ∧ ds = [.str b] ∧ (b.length == 0) = false ∧ a.length ≤ sizeLine ∧ z = .tup [.str (Txt.partition a b).1, .str (Txt.partition a b).2.1, .str (Txt.partition a b).2.2] := by
  unfold meD at h
  split at h
  · contradiction
  · split at h
    · rename_i hc
      cases h
      exact ⟨_, _, rfl, rfl, hc.1, hc.2, rfl⟩
    · cases h
  · contradiction
  · cases h
theorem meD_join {x z : D} {ds : List D} (h : meD .join x ds = some z) : ∃ a ys, x = .str a ∧ ds = [.lst (ys.map D.str)] ∧ (ys.map (·.length)).sum + ys.length * a.length ≤ 16777216 ∧ z = .str (Txt.join a ys) := by
  unfold meD at h
  split at h
  · contradiction
  · contradiction
  · split at h
    · rename_i hy
      split at h
      · rename_i hc
        cases h
        exact ⟨_, _, rfl, by rw [asStrs_ok hy], hc, rfl⟩
      · cases h
    · cases h
  · cases h
theorem me_go {m : Me} {a : E} {es : Es} {ρ : Env} {μ μ' : Cells} {d : D} (he : ev F (.me m a es) ρ μ = some (d, μ')) : ∃ x μ1 ds, ev F a ρ μ = some (x, μ1) ∧ evs F es ρ μ1 = some (ds, μ') ∧ meD m x ds = some d := by
  unfold ev at he
  obtain ⟨x, μ1, e1, he⟩ := andThen_some he
  obtain ⟨ds, μ2, e2, he⟩ := andThen_some he
  obtain ⟨hz, rfl⟩ := wthD_some he
  exact ⟨x, μ1, ds, e1, e2, hz⟩
theorem s_bits {a : E} {x : Expr} {apos pos : Pos} (ha : Both X F x a) (hb : baseOk x = true) (hl : (apos.endLine == pos.line) = true) : Both X F (.Call (.Attribute x "bit_length" apos) [] [] pos) (.me .bits a .nil) := by
  refine Both.mk' (PE.imp (pe_bits ha.v (base_of hb _ _) hl) ?_) rfl
  intro σ H Q ⟨own, ads, ρ, μ, d, μ', h, he, q⟩
  obtain ⟨dx, μ1, ds, e1, e2, hz⟩ := me_go he
  cases e2
  obtain ⟨i, rfl, rfl⟩ := meD_bits hz
  exact ⟨own, ads, ρ, μ, _, _, h, e1, fun v H1 ads1 x1 h1 r1 => ⟨_, r1.int, q _ H1 ads1 x1 h1 (.inl (.int _))⟩⟩
theorem one_arg {y : Expr} (hs : notStar y = true) (env : PySem.Env) (cpos : Pos) : ((backTo cpos (starEach [y] env)).all (fun x => !x.1) && (backToKw cpos (keywordEach [] env)).all (fun x => x.1.isSome)
      && decide (([y] : List Expr).length + ([] : List Keyword).length + (if ([] : List Keyword).isEmpty then 0 else 1) < 30)) = true := by
  rw [starEach_cons hs]
  rfl
theorem s_partition {a : E} {es : Es} {x y : Expr} {apos pos : Pos} (ha : Both X F x a) (he : PA X [y] (tEs X.K F es)) (hs : notStar y = true) (hb : baseOk x = true) (hl : (apos.endLine == pos.line) = true) :
    Both X F (.Call (.Attribute x "partition" apos) [y] [] pos) (.me .partition a es) := by
  refine Both.mk' (PE.imp (pe_bm PySem.F.plainAttrs_str PySem.F.slot_str_partition PySem.F.type_str_partition mt_partition ha.v he (base_of hb _ _) (one_arg hs _ _) hl (starEach_cons hs _ _) rfl) ?_) rfl
  intro σ H Q ⟨own, ads, ρ, μ, d, μ', h, he, q⟩
  obtain ⟨dx, μ1, ds, e1, e2, hz⟩ := me_go he
  obtain ⟨s, t, rfl, rfl, c1, c2, rfl⟩ := meD_partition hz
  refine ⟨own, ads, ρ, μ, _, _, h, e1, fun v H1 ads1 x1 h1 r1 => ?_⟩
  have ev := r1.str
  subst ev
  refine ⟨rfl, own, ads1, ρ, μ1, _, _, h1, e2, fun vs H2 ads2 x2 h2 r2 _ => ?_⟩
  obtain ⟨w, ew, r3⟩ := r2.one
  have ew2 := r3.str
  subst ew ew2
  exact ⟨_, _, rfl, rfl, c1, c2, (toFin (x1.trans x2) h2 q).newT h2.c (.cons (.str _) (.cons (.str _) (.cons (.str _) .nil)))⟩
theorem s_join {a : E} {es : Es} {x y : Expr} {apos pos : Pos} (ha : Both X F x a) (he : PA X [y] (tEs X.K F es)) (hs : notStar y = true) (hb : baseOk x = true) (hl : (apos.endLine == pos.line) = true) :
    Both X F (.Call (.Attribute x "join" apos) [y] [] pos) (.me .join a es) := by
  refine Both.mk' (PE.imp (pe_bm PySem.F.plainAttrs_str PySem.F.slot_str_join PySem.F.type_str_join mt_join ha.v he (base_of hb _ _) (one_arg hs _ _) hl (starEach_cons hs _ _) rfl) ?_) rfl
  intro σ H Q ⟨own, ads, ρ, μ, d, μ', h, he, q⟩
  obtain ⟨dx, μ1, ds, e1, e2, hz⟩ := me_go he
  obtain ⟨s, ys, rfl, rfl, c1, rfl⟩ := meD_join hz
  refine ⟨own, ads, ρ, μ, _, _, h, e1, fun v H1 ads1 x1 h1 r1 => ?_⟩
  have ev := r1.str
  subst ev
  refine ⟨rfl, own, ads1, ρ, μ1, _, _, h1, e2, fun vs H2 ads2 x2 h2 r2 _ => ?_⟩
  obtain ⟨w, ew, r3⟩ := r2.one
  obtain ⟨p, zs, ew2, t3, l3⟩ := r3.lst
  subst ew ew2
  have e3 := l3.strs
  subst e3
  exact ⟨_, _, ys, rfl, rfl, .inl t3, c1, (toFin (x1.trans x2) h2 q).str h2.c⟩

/-! ### calls of defs -/
theorem s_call {N fs : List Str} {n : Nat} {sc : Scope} (G : GX N fs F n sc X) {f : Nat} {g : Str} {es : Es} {xs : List Expr} {p pos : Pos} (hf : fs[f]? = some g) (hgl : gloB sc g = true) (hd : (g == ("__debug__" : Str)) = false) (hst : ∀ y ∈ xs, notStar y = true) (hne : xs = [] → es = .nil)
    (h : PA X xs (tEs X.K F es)) : Both X F (.Call (.Name g p) xs [] pos) (.call f es) := by
  refine Both.mk' ⟨fun pins s σ H Q I hq => ?_⟩ rfl
  obtain ⟨own, ads, ρ, μ, d, μ', h0, he, q⟩ := hq
  unfold ev at he
  split at he
  · cases he
  · rename_i hl
    obtain ⟨ds, μ1, e1, he⟩ := andThen_some he
    obtain ⟨a, fd, ps, m1, m2, m3, m4, m5⟩ := G.fn f g hf ds μ1 d μ' he
    have read : tCall (spF X.K ps.length (F f)) [] E0 (tEs X.K F es) σ H Q := by
      refine ⟨own, ads, ρ, μ, ds, μ1, h0, e1, fun vs H1 ads1 x1 h1 r1 p1 => ?_⟩
      have l := p1 (by simpa using hl)
      refine ⟨by rw [List.append_nil, l.length, m4], own, ads1, ds, μ1, d, μ', by rw [List.append_nil]; exact l, h1.c, he, ?_⟩
      exact toFin x1 h1 q
    cases xs with
    | nil =>
      have hnil : tCall (spF X.K ps.length (F f)) [] E0 tNil σ H Q := by
        obtain rfl := hne rfl
        cases e1
        exact ⟨by rw [List.append_nil, m4]; rfl, own, ads, [], _, d, μ', .nil, h0.c, he, toFin .refl h0 q⟩
      exact (pe_call0 m5 G.room (G.glo g hgl) m1 m2 m3 .nil pass0 hd).run pins s σ H Q I hnil
    | cons y ys =>
      exact (pe_call m5 G.room (G.glo g hgl) m1 m2 m3 .nil pass0 h hd (starEach_cons (hst y List.mem_cons_self) _ _) (noStarAny fun z hz => hst z (List.mem_cons_of_mem _ hz))).run pins s σ H Q I read
end
end FM

set_option Elab.async false
set_option linter.all false
set_option maxRecDepth 100000
set_option maxHeartbeats 4000000
/-! Ev9: calls that borrow, targets, iterators. -/
namespace FM
open PySem PySem.Spec PyProof.Rows L2

/-! ### calls that borrow -/
/-- the own lists and the cells, but those handed over -/
def less (own : Addr → Prop) (ads : List Addr) (vs : List V) : Addr → Prop := fun b => Zo own ads b ∧ V.ref b ∉ vs
mutual
theorem Rep.bare {K : PySem.W.Frag} {Z Z' : Addr → Prop} {ads ads' : List Addr} {H : Hp} (hz : ∀ b, Z' b → Z b) : ∀ (d : D) (v : V), Rep K Z ads H v d → d.noCell = true → Rep K Z' ads' H v d
  | .non, _, h, _ => by cases h; exact .non
  | .bl b, _, h, _ => by cases h; exact .bl b
  | .int i, _, h, _ => by cases h; exact .int i
  | .str x, _, h, _ => by cases h; exact .str x
  | .tup ds, _, h, n => by
    cases h with
    | tup h1 h2 => exact .tup (h1.elim (fun z => .inl ⟨z.1, fun q => z.2 (hz _ q)⟩) .inr) (RepL.bare hz ds _ h2 n)
  | .lst ds, _, h, n => by
    cases h with
    | lst h1 h2 => exact .lst (h1.elim (fun z => .inl ⟨z.1, fun q => z.2 (hz _ q)⟩) .inr) (RepL.bare hz ds _ h2 n)
  | .cell k, _, h, n => by cases n
theorem RepL.bare {K : PySem.W.Frag} {Z Z' : Addr → Prop} {ads ads' : List Addr} {H : Hp} (hz : ∀ b, Z' b → Z b) : ∀ (ds : List D) (vs : List V), RepL K Z ads H vs ds → noCells ds = true → RepL K Z' ads' H vs ds
  | [], _, h, _ => by cases h; exact .nil
  | d :: ds, _, h, n => by
    cases h with
    | cons h1 h2 =>
      have n' : (d.noCell && noCells ds) = true := n
      rw [Bool.and_eq_true] at n'
      exact .cons (Rep.bare hz d _ h1 n'.1) (RepL.bare hz ds _ h2 n'.2)
end
mutual
/-- data without lists and cells: whatever is owned -/
theorem Rep.deep {K : PySem.W.Frag} {Z Z' : Addr → Prop} {ads ads' : List Addr} {H : Hp} (hz : ∀ a xs, Rd H a (.tup xs) → ¬ Z' a) : ∀ (d : D) (v : V), Rep K Z ads H v d → d.noCell = true → d.noLst = true → Rep K Z' ads' H v d
  | .non, _, h, _, _ => by cases h; exact .non
  | .bl b, _, h, _, _ => by cases h; exact .bl b
  | .int i, _, h, _, _ => by cases h; exact .int i
  | .str x, _, h, _, _ => by cases h; exact .str x
  | .tup ds, _, h, n, m => by
    cases h with
    | tup h1 h2 => exact .tup (h1.elim (fun z => .inl ⟨z.1, hz _ _ z.1⟩) .inr) (RepL.deep hz ds _ h2 n m)
  | .lst ds, _, h, n, m => by cases m
  | .cell k, _, h, n, m => by cases n
theorem RepL.deep {K : PySem.W.Frag} {Z Z' : Addr → Prop} {ads ads' : List Addr} {H : Hp} (hz : ∀ a xs, Rd H a (.tup xs) → ¬ Z' a) : ∀ (ds : List D) (vs : List V), RepL K Z ads H vs ds → noCells ds = true → noLsts ds = true → RepL K Z' ads' H vs ds
  | [], _, h, _, _ => by cases h; exact .nil
  | d :: ds, _, h, n, m => by
    cases h with
    | cons h1 h2 =>
      have n' : (d.noCell && noCells ds) = true := n
      have m' : (d.noLst && noLsts ds) = true := m
      rw [Bool.and_eq_true] at n' m'
      exact .cons (Rep.deep hz d _ h1 n'.1 m'.1) (RepL.deep hz ds _ h2 n'.2 m'.2)
end
theorem RepBL.bare {K : PySem.W.Frag} {own : Addr → Prop} {ads : List Addr} {H : Hp} (ws : List V) : ∀ (vs : List V) (ds : List D), (∀ v ∈ vs, v ∈ ws) → RepBL K own ads H vs ds → noCells ds = true → RepL K (Zo (less own ads ws) []) [] H vs ds
  | [], [], _, _, _ => .nil
  | v :: vs, d :: ds, hw, h, n => by
    have n' : (d.noCell && noCells ds) = true := n
    rw [Bool.and_eq_true] at n'
    have hz : ∀ b, Zo (less own ads ws) [] b → Zo own ads b := fun b z => z.elim (fun z => z.1) fun z => nomatch z
    refine .cons ?_ (RepBL.bare ws vs ds (fun x hx => hw x (List.mem_cons_of_mem _ hx)) h.2 n'.2)
    rcases h.1 with h1 | ⟨_, a, xs, es, e1, e2, e3, e4, e5⟩
    · exact h1.bare hz d v n'.1
    · subst e1 e2
      refine .lst (.inl ⟨.inl e3, fun z => ?_⟩) (e5.bare hz es xs n'.1)
      rcases z with z | z
      · exact z.2 (hw _ List.mem_cons_self)
      · exact nomatch z
  | [], _ :: _, _, h, _ => h.elim
  | _ :: _, [], _, h, _ => h.elim
section
variable {X : Cx} {F : Fs}
theorem s_callB {N fs : List Str} {n : Nat} {sc : Scope} (G : GX N fs F n sc X) {f : Nat} {g : Str} {es : Es} {xs : List Expr} {p pos : Pos} (hf : fs[f]? = some g) (hgl : gloB sc g = true) (hd : (g == ("__debug__" : Str)) = false) (hst : ∀ y ∈ xs, notStar y = true) (hne : xs ≠ [])
    (h : PA X xs (tEs X.K F es)) : Both X F (.Call (.Name g p) xs [] pos) (.callB f es) := by
  refine Both.mk' ⟨fun pins s σ H Q I hq => ?_⟩ rfl
  obtain ⟨own, ads, ρ, μ, d, μ', h0, he, q⟩ := hq
  unfold ev at he
  obtain ⟨ds, μ1, e1, he⟩ := andThen_some he
  split at he
  · rename_i hnc
    split at he
    · rename_i d' μ2 hF
      split at he
      · rename_i hdd
        cases he
        rw [Bool.and_eq_true] at hdd
        obtain ⟨a, fd, ps, m1, m2, m3, m4, m5⟩ := G.fn f g hf ds [] d μ2 hF
        have read : tCall (spF X.K ps.length (F f)) [] E0 (tEs X.K F es) σ H Q := by
          refine ⟨own, ads, ρ, μ, ds, _, h0, e1, fun vs H1 ads1 x1 h1 r1 _ => ?_⟩
          have l := RepBL.bare vs vs ds (fun _ z => z) r1 hnc
          have c0 : CellsR X.K (less own ads1 vs) [] H1 [] := ⟨rfl, .nil, fun k a e => by simp at e, fun a z => (nomatch z), fun b z => by
            rcases z.1 with w | w
            · exact h1.c.ownT b w
            · obtain ⟨k, hk⟩ := List.mem_iff_getElem?.mp w
              obtain ⟨kvs, _, _, w2, _⟩ := h1.c.at k b hk
              exact ⟨_, w2, True.intro⟩⟩
          refine ⟨by rw [List.append_nil, l.length, m4], less own ads1 vs, [], ds, [], d, μ2, by rw [List.append_nil]; exact l, c0, hF, ?_⟩
          intro v H2 ads2 x2 c2 r2
          have keep : ∀ b o, H1 b = some o → H2 b = some o := fun b o w => x2.keep b o w (fun z => nomatch z)
          have x3 : Ext ads1 H1 ads1 H2 := ⟨fun b o w _ => keep b o w, x2.there, fun b w => .inl w, fun _ _ w => w⟩
          have c3 : CellsR X.K own ads1 H2 μ' := h1.c.same x3 fun a ha => by
            obtain ⟨k, hk⟩ := List.mem_iff_getElem?.mp ha
            obtain ⟨kvs, _, _, w2, _⟩ := h1.c.at k a hk
            rw [w2, keep _ _ w2]
          refine q v H2 ads1 (x1.trans x3) ⟨h1.e.ext h1.c x3, c3, h1.len⟩ (.inl ?_)
          refine r2.plain.deep (fun a xs t z => ?_) d v hdd.1 hdd.2
          have w : ∃ o, H1 a = some o ∧ Mut (some o) := by
            rcases z with w | w
            · exact h1.c.ownT a w
            · obtain ⟨k, hk⟩ := List.mem_iff_getElem?.mp w
              obtain ⟨kvs, _, _, w2, _⟩ := h1.c.at k a hk
              exact ⟨_, w2, True.intro⟩
          obtain ⟨o, w1, w2⟩ := w
          have w3 := keep _ _ w1
          rcases t with t | ⟨ob, t⟩
          · rw [w3] at t; cases t; exact w2
          · rw [w3] at t; cases t; exact w2
        cases xs with
        | nil => exact absurd rfl hne
        | cons y ys =>
          exact (pe_call m5 G.room (G.glo g hgl) m1 m2 m3 .nil pass0 h hd (starEach_cons (hst y List.mem_cons_self) _ _) (noStarAny fun z hz => hst z (List.mem_cons_of_mem _ hz))).run pins s σ H Q I read
      · cases he
    · cases he
  · cases he
end

/-! ### slots set and forgotten -/
theorem Hold.set {K : PySem.W.Frag} {own : Addr → Prop} {ads : List Addr} {H : Hp} {σ : L2.St} {ρ : Env} {μ : Cells} {i : Nat} {v : V} {d : D} (h : Hold K own ads H σ ρ μ) (r : Rep K (Zo own ads) ads H v d) : Hold K own ads H (σ.set i (some v)) (ρ.set i (some (.pl d))) μ := by
  refine ⟨fun j s e => ?_, h.c, by rw [List.length_set, List.length_set]; exact h.len⟩
  by_cases hj : i = j
  · subst hj
    have hl : i < ρ.length := by
      have z := (List.getElem?_eq_some_iff.mp e).1
      rw [List.length_set] at z
      exact z
    rw [List.getElem?_set_self hl] at e
    cases e
    exact ⟨v, List.getElem?_set_self (by rw [← h.len]; exact hl), r⟩
  · rw [List.getElem?_set_ne hj] at e
    obtain ⟨w, e1, e2⟩ := h.e j s e
    exact ⟨w, by rw [List.getElem?_set_ne hj]; exact e1, e2⟩
/-- the slots forgotten, in the little language -/
def wipeR (ρ : Env) : List Nat → Env
  | [] => ρ
  | v :: vs => (wipeR ρ vs).set v none
theorem wipeR_length (ρ : Env) : ∀ vs : List Nat, (wipeR ρ vs).length = ρ.length
  | [] => rfl
  | v :: vs => by unfold wipeR; rw [List.length_set, wipeR_length ρ vs]
theorem wipeR_some {ρ : Env} {i : Nat} {x : Sl} : ∀ {vs : List Nat}, (wipeR ρ vs)[i]? = some (some x) → ρ[i]? = some (some x) ∧ i ∉ vs
  | [], h => ⟨h, by simp⟩
  | v :: vs, h => by
    unfold wipeR at h
    by_cases hi : v = i
    · subst hi
      by_cases hv : v < (wipeR ρ vs).length
      · rw [List.getElem?_set_self hv] at h; cases h
      · rw [List.getElem?_eq_none (by simpa using hv)] at h; cases h
    · rw [List.getElem?_set_ne hi] at h
      obtain ⟨h1, h2⟩ := wipeR_some h
      exact ⟨h1, by simp only [List.mem_cons, not_or]; exact ⟨fun e => hi e.symm, h2⟩⟩
theorem Hold.wipe {K : PySem.W.Frag} {own : Addr → Prop} {ads : List Addr} {H : Hp} {σ : L2.St} {ρ : Env} {μ : Cells} (h : Hold K own ads H σ ρ μ) (vs : List Nat) : Hold K own ads H (L2.wipe σ vs) (wipeR ρ vs) μ := by
  refine ⟨fun j s e => ?_, h.c, by rw [wipeR_length, L2.wipe_length]; exact h.len⟩
  obtain ⟨e1, e2⟩ := wipeR_some e
  obtain ⟨w, e3, e4⟩ := h.e j s e1
  exact ⟨w, by rw [wipe_out e2]; exact e3, e4⟩
theorem wipe_set {σ : L2.St} {i : Nat} {x : Option V} : ∀ {vs : List Nat}, i ∈ vs → L2.wipe (σ.set i x) vs = L2.wipe σ vs
  | [], h => nomatch h
  | v :: vs, h => by
    unfold L2.wipe
    by_cases hi : i ∈ vs
    · rw [wipe_set hi]
    · have e : i = v := by
        rcases List.mem_cons.mp h with e | e
        · exact e
        · exact absurd e hi
      subst e
      have z : ∀ (vs : List Nat), i ∉ vs → (L2.wipe (σ.set i x) vs) = (L2.wipe σ vs).set i x := by
        intro vs
        induction vs with
        | nil => intro _; rfl
        | cons u us ih =>
          intro hn
          simp only [List.mem_cons, not_or] at hn
          unfold L2.wipe
          rw [ih hn.2, List.set_comm _ _ hn.1]
      rw [z vs hi, List.set_set]
theorem wipe_wipe {σ : L2.St} : ∀ {vs ws : List Nat}, (∀ i ∈ vs, i ∈ ws) → L2.wipe (L2.wipe σ vs) ws = L2.wipe σ ws
  | [], _, _ => rfl
  | v :: vs, ws, h => by
    have e : L2.wipe σ (v :: vs) = (L2.wipe σ vs).set v none := rfl
    rw [e, wipe_set (h v List.mem_cons_self), wipe_wipe fun i hi => h i (List.mem_cons_of_mem _ hi)]
theorem setAll_wipeR : ∀ (is : List Nat) (ds : List D) (ρ : Env), is.Nodup → ds.length = is.length → setAll is ds (wipeR ρ is) = setAll is ds ρ
  | [], [], _, _, _ => rfl
  | [], _ :: _, _, _, e => by cases e
  | _ :: _, [], _, _, e => by cases e
  | i :: is, d :: ds, ρ, nd, e => by
    have hn := List.nodup_cons.mp nd
    show setAll is ds (((wipeR ρ is).set i none).set i (some (.pl d))) = setAll is ds (ρ.set i (some (.pl d)))
    rw [List.set_set]
    have z : ∀ (vs : List Nat), i ∉ vs → wipeR (ρ.set i (some (Sl.pl d))) vs = (wipeR ρ vs).set i (some (.pl d)) := by
      intro vs
      induction vs with
      | nil => intro _; rfl
      | cons u us ih =>
        intro hn
        simp only [List.mem_cons, not_or] at hn
        unfold wipeR
        rw [ih hn.2, List.set_comm _ _ hn.1]
    rw [← z is hn.1]
    exact setAll_wipeR is ds _ hn.2 (by simpa using e)

/-! ### targets -/
def gNames : List Nat → TGs
  | [] => gNil
  | i :: is => gCons (gName i) (gNames is)
def tTg (K : PySem.W.Frag) : Tg → TG
  | .nm i => gName i
  | .tp is => gTup K is.length (gNames is)
theorem s_ts {N fs : List Str} {F : Fs} {n : Nat} {sc : Scope} {X : Cx} (G : GX N fs F n sc X) : ∀ {is : List Nat} {es : List Expr}, chkTs N sc is es = true → PGs X es (gNames is) ∧ (assignEach es X.env).length = is.length ∧ (assignEach es X.env).findIdx? (·.1) = none
  | [], [], _ => ⟨pgs_nil, rfl, rfl⟩
  | [], e :: es, h => by cases e <;> cases h
  | i :: is, [], h => by cases h
  | i :: is, e :: es, h => by
    cases e with
    | Name x pos =>
      have h' : (decide (N[i]? = some x) && locB sc x && chkTs N sc is es) = true := h
      rw [Bool.and_eq_true, Bool.and_eq_true, decide_eq_true_eq] at h'
      obtain ⟨⟨h1, h2⟩, h3⟩ := h'
      obtain ⟨g1, g2, g3⟩ := s_ts G h3
      obtain ⟨l1, l2⟩ := G.loc x h2
      refine ⟨pgs_cons (pg_name (by rw [G.hN]; exact G.nd) (by rw [G.hN]; exact h1) l1 l2) g1 rfl, ?_, ?_⟩
      · show ((false, assign (.Name x pos) X.env) :: assignEach es X.env).length = _
        rw [List.length_cons, g2]
        rfl
      · show ((false, assign (.Name x pos) X.env) :: assignEach es X.env).findIdx? (·.1) = none
        rw [List.findIdx?_cons, if_neg Bool.false_ne_true, g3]
        rfl
    | _ => cases h
theorem s_tg {N fs : List Str} {F : Fs} {n : Nat} {sc : Scope} {X : Cx} (G : GX N fs F n sc X) {tg : Tg} {e : Expr} (h : chkTg N sc tg e = true) : PG X e (tTg X.K tg) := by
  cases tg with
  | nm i =>
    cases e with
    | Name x pos =>
      have h' : (decide (N[i]? = some x) && locB sc x) = true := h
      rw [Bool.and_eq_true, decide_eq_true_eq] at h'
      obtain ⟨l1, l2⟩ := G.loc x h'.2
      exact pg_name (by rw [G.hN]; exact G.nd) (by rw [G.hN]; exact h'.1) l1 l2
    | _ => cases h
  | tp is =>
    cases e with
    | Tuple es k pos =>
      have h' : (chkTs N sc is es && decide is.Nodup) = true := h
      rw [Bool.and_eq_true] at h'
      obtain ⟨g1, g2, g3⟩ := s_ts G h'.1
      exact pg_tup G.calm g1 g2 g3
    | _ => cases h
theorem gNames_ok {K : PySem.W.Frag} {own : Addr → Prop} {ads : List Addr} {H : Hp} {μ : Cells} {Q : L2.St → Hp → Prop} {ws : List Nat} : ∀ {is : List Nat} {ds : List D} {vs : List V} {σ : L2.St} {ρ : Env}, Hold K own ads H σ ρ μ → RepL K (Zo own ads) ads H vs ds → ds.length = is.length →
    (∀ i ∈ is, i ∈ ws) → (∀ σ1, Hold K own ads H σ1 (setAll is ds ρ) μ → L2.wipe σ1 ws = L2.wipe σ ws → Q σ1 H) → gNames is vs σ H Q
  | [], [], _, σ, ρ, h, r, _, _, k => by
    cases r
    exact ⟨rfl, k σ h rfl⟩
  | [], _ :: _, _, _, _, _, _, e, _, _ => by cases e
  | _ :: _, [], _, _, _, _, _, e, _, _ => by cases e
  | i :: is, d :: ds, _, σ, ρ, h, r, e, hw, k => by
    cases r with
    | @cons v _ vs _ r1 r2 =>
      refine ⟨v, vs, rfl, ?_⟩
      show gNames is vs (σ.set i (some v)) H Q
      refine gNames_ok (h.set r1) r2 (by simpa using e) (fun j hj => hw j (List.mem_cons_of_mem _ hj)) fun σ1 h1 w1 => k σ1 h1 ?_
      rw [w1, wipe_set (hw i List.mem_cons_self)]
theorem tg_ok {K : PySem.W.Frag} {own : Addr → Prop} {ads : List Addr} {H : Hp} {σ : L2.St} {ρ ρ1 : Env} {μ : Cells} {Q : L2.St → Hp → Prop} {tg : Tg} {v : V} {d : D} (h : Hold K own ads H σ ρ μ) (r : Rep K (Zo own ads) ads H v d) (e : bindT tg d ρ = some ρ1)
    (k : ∀ σ1, Hold K own ads H σ1 ρ1 μ → L2.wipe σ1 tg.slots = L2.wipe σ tg.slots → Q σ1 H) : tTg K tg v σ H Q := by
  cases tg with
  | nm i =>
    have e' : some (ρ.set i (some (.pl d))) = some ρ1 := e
    cases e'
    exact k _ (h.set r) (wipe_set (List.mem_singleton.mpr rfl))
  | tp is =>
    cases d with
    | tup ds =>
      have e' : (if ds.length = is.length then some (setAll is ds ρ) else none) = some ρ1 := e
      split at e'
      · rename_i hl
        cases e'
        cases r with
        | tup t l =>
          exact ⟨_, _, rfl, t.sq, by rw [l.length]; exact hl, gNames_ok h l hl (fun _ z => z) k⟩
      · cases e'
    | _ => cases e

/-! ### what is walked -/
def WalksR (K : PySem.W.Frag) (own ow : Addr → Prop) (ads : List Addr) (H : Hp) (J : L2.It) (xs : List D) (b : Bool) : Prop :=
  (∃ a vs, J = Itl K a ∧ LstAt K (Zo own ads) H a vs ∧ RepL K (Zo own ads) ads H vs xs) ∨
  (b = true ∧ ∃ a vs, J = Itl K a ∧ H a = some (.lst vs) ∧ ow a ∧ RepL K (Zo own ads) ads H vs xs) ∨
  (∃ a vs, J = Itt K a ∧ TupAt K (Zo own ads) H a vs ∧ RepL K (Zo own ads) ads H vs xs) ∨
  (∃ lo n, J = Itr lo n ∧ xs = rngD lo n) ∨
  (∃ s : Str, J = Its s ∧ xs = signs s) ∨
  (∃ lo c n, J = Itc lo c n ∧ xs = rngS lo c n)
section
variable {K : PySem.W.Frag} {own ow : Addr → Prop} {ads ads' : List Addr} {H H' : Hp} {μ : Cells} {J : L2.It} {xs : List D} {b : Bool}
theorem WalksR.ext (hw : ∀ b, ow b → own b) (c : CellsR K own ads H μ) (e : Ext ads H ads' H') (h : WalksR K own ow ads H J xs b) : WalksR K own ow ads' H' J xs b := by
  rcases h with ⟨a, vs, h1, h2, h3⟩ | ⟨hb, a, vs, h1, h2, h3, h4⟩ | ⟨a, vs, h1, h2, h3⟩ | h
  · exact .inl ⟨a, vs, h1, h2.stay e.stay, h3.ext e⟩
  · exact .inr (.inl ⟨hb, a, vs, h1, e.keep _ _ h2 fun m => c.dis a m (hw _ h3), h3, h4.ext e⟩)
  · exact .inr (.inr (.inl ⟨a, vs, h1, h2.stay e.stay, h3.ext e⟩))
  · exact .inr (.inr (.inr h))
theorem signs_get {s : Str} {i : Nat} {d : D} (h : (signs s)[i]? = some d) : i < s.cps.size ∧ ∃ c, s.cps[i]? = some c ∧ d = .str ⟨#[c]⟩ := by
  unfold signs at h
  rw [List.getElem?_map, Array.getElem?_toList] at h
  cases e : s.cps[i]? with
  | none => rw [e] at h; cases h
  | some c => rw [e] at h; cases h; exact ⟨(Array.getElem?_eq_some_iff.mp e).1, c, rfl, rfl⟩
theorem signs_length {s : Str} : (signs s).length = s.cps.size := by unfold signs; rw [List.length_map, Array.length_toList]
theorem WalksR.seqL {a : Addr} {vs : List V} (hs : SqL K H a vs) (l : RepL K (Zo own ads) ads H vs xs) (inj : ∀ ys, SqL K H a ys → ys = vs) (i : Nat) :
    (xs.length ≤ i → (Itl K a).stop i H) ∧ (∀ d, xs[i]? = some d → (Itl K a).go i H ∧ ∀ x H', (Itl K a).yld i H x H' → H' = H ∧ Rep K (Zo own ads) ads H x d) := by
  refine ⟨fun hi => ⟨vs, hs, by rw [l.length]; exact hi⟩, fun d hd => ?_⟩
  obtain ⟨v, e1, e2⟩ := l.get hd
  refine ⟨⟨vs, v, hs, e1⟩, fun x H' y => ⟨y.1, ?_⟩⟩
  have z := y.2 vs hs
  rw [e1] at z
  cases z
  exact e2
theorem WalksR.seqT {a : Addr} {vs : List V} (hs : SqT K H a vs) (l : RepL K (Zo own ads) ads H vs xs) (i : Nat) :
    (xs.length ≤ i → (Itt K a).stop i H) ∧ (∀ d, xs[i]? = some d → (Itt K a).go i H ∧ ∀ x H', (Itt K a).yld i H x H' → H' = H ∧ Rep K (Zo own ads) ads H x d) := by
  refine ⟨fun hi => ⟨vs, hs, by rw [l.length]; exact hi⟩, fun d hd => ?_⟩
  obtain ⟨v, e1, e2⟩ := l.get hd
  refine ⟨⟨vs, v, hs, e1⟩, fun x H' y => ⟨y.1, ?_⟩⟩
  have z := y.2 vs hs
  rw [e1] at z
  cases z
  exact e2
theorem rngD_get {lo : Int} {n i : Nat} {d : D} (h : (rngD lo n)[i]? = some d) : i < n ∧ d = .int (lo + i) := by
  unfold rngD at h
  rw [List.getElem?_map] at h
  by_cases hi : i < n
  · rw [List.getElem?_range hi] at h
    cases h
    exact ⟨hi, rfl⟩
  · rw [List.getElem?_eq_none (by simpa using hi)] at h
    cases h
theorem rngD_length {lo : Int} {n : Nat} : (rngD lo n).length = n := by unfold rngD; rw [List.length_map, List.length_range]
theorem WalksR.turn (h : WalksR K own ow ads H J xs b) (i : Nat) :
    (xs.length ≤ i → J.stop i H) ∧ (∀ d, xs[i]? = some d → J.go i H ∧ ∀ x H', J.yld i H x H' → H' = H ∧ Rep K (Zo own ads) ads H x d) := by
  rcases h with ⟨a, vs, rfl, h2, h3⟩ | ⟨_, a, vs, rfl, h2, h3, h4⟩ | ⟨a, vs, rfl, h2, h3⟩ | ⟨lo, n, rfl, rfl⟩ | ⟨s, rfl, rfl⟩ | ⟨lo, k, n, rfl, rfl⟩
  · refine ⟨fun hi => ⟨vs, h2.sq, by rw [h3.length]; exact hi⟩, fun d hd => ?_⟩
    obtain ⟨v, e1, e2⟩ := h3.get hd
    refine ⟨⟨vs, v, h2.sq, e1⟩, fun x H' y => ⟨y.1, ?_⟩⟩
    have z := y.2 vs h2.sq
    rw [e1] at z
    cases z
    exact e2
  · refine ⟨fun hi => ⟨vs, .of h2, by rw [h4.length]; exact hi⟩, fun d hd => ?_⟩
    obtain ⟨v, e1, e2⟩ := h4.get hd
    refine ⟨⟨vs, v, .of h2, e1⟩, fun x H' y => ⟨y.1, ?_⟩⟩
    have z := y.2 vs (.of h2)
    rw [e1] at z
    cases z
    exact e2
  · exact WalksR.seqT h2.sq h3 i
  · refine ⟨fun hi => ?_, fun d hd => ?_⟩
    · rw [rngD_length] at hi
      exact hi
    · obtain ⟨h1, h2⟩ := rngD_get hd
      refine ⟨h1, fun x H' y => ⟨y.1, ?_⟩⟩
      rw [h2, y.2]
      exact .int _
  · refine ⟨fun hi => ?_, fun d hd => ?_⟩
    · rw [signs_length] at hi
      exact hi
    · obtain ⟨h1, c, h2, h3⟩ := signs_get hd
      subst h3
      refine ⟨h1, fun x H' ⟨y1, c', y2, y3⟩ => ⟨y1, ?_⟩⟩
      rw [h2] at y2
      cases y2
      subst y3
      exact .str _
  · refine ⟨fun hi => ?_, fun d hd => ?_⟩
    · unfold rngS at hi
      rw [List.length_map, List.length_range] at hi
      exact hi
    · unfold rngS at hd
      rw [List.getElem?_map] at hd
      by_cases hi : i < n
      · rw [List.getElem?_range hi] at hd
        cases hd
        refine ⟨hi, fun x H' y => ⟨y.1, ?_⟩⟩
        rw [y.2]
        exact .int _
      · rw [List.getElem?_eq_none (by simpa using hi)] at hd
        cases hd
end
def tI (K : PySem.W.Frag) (F : Fs) (it : It) : TI := fun σ H R => ∃ own ads ρ μ xs μ', Hold K own ads H σ ρ μ ∧ evi F it ρ μ = some (xs, μ') ∧
  ∀ J H' ads', Ext ads H ads' H' → Hold K own ads' H' σ ρ μ' → WalksR K own own ads' H' J xs (it.lk ρ) → R J H'
theorem PI.imp {X : Cx} {tg e : Expr} {t t' : TI} (h : PI X tg e t) (i : ∀ σ H Q, t' σ H Q → t σ H Q) : PI X tg e t' := ⟨fun pins s σ H Q I q => h.run pins s σ H Q I (i _ _ _ q)⟩
theorem PI.or {X : Cx} {tg e : Expr} {t t' : TI} (h : PI X tg e t) (h' : PI X tg e t') : PI X tg e (fun σ H R => t σ H R ∨ t' σ H R) := ⟨fun pins s σ H Q I q => q.elim (h.run pins s σ H Q I) (h'.run pins s σ H Q I)⟩
section
variable {X : Cx} {F : Fs} {tgx : Expr}
/-- a list or a tuple, whichever it is -/
theorem pi_seq {l : Expr} {tl : TE} (hl : PE X l tl) : PI X tgx l (fun σ H R => tl σ H fun x H1 => (∃ y, x = .str y ∧ R (Its y) H1) ∨ ∃ a, x = .ref a ∧ (((∃ xs, SqL X.K H1 a xs) ∧ R (Itl X.K a) H1) ∨ ((∃ xs, SqT X.K H1 a xs) ∧ R (Itt X.K a) H1))) := by
  refine ⟨fun pins s σ H R I h => ?_⟩
  refine thn (hl.run pins s σ H _ I h) fun v s1 ⟨x, H1, I1, r1, q1⟩ => ?_
  rcases q1 with ⟨y, e, q⟩ | q1
  · subst e
    obtain ⟨t, rfl⟩ := r1
    cases ha : y.cps.all (· < 128)
    · exact wpAny_pyIter_wide ha (pi_one (tk := s1.toks) I1 _ (turn_str _ y t "str_iterator" (.inr rfl)) ⟨_, Heap.get?_push_size _ rfl, rfl, rfl⟩ q)
    · exact wpAny_pyIter_ascii ha (pi_one (tk := s1.toks) I1 _ (turn_str _ y t "str_ascii_iterator" (.inl rfl)) ⟨_, Heap.get?_push_size _ rfl, rfl, rfl⟩ q)
  obtain ⟨a, e, q1⟩ := q1
  subst e
  cases r1
  rcases q1 with ⟨⟨xs, hq⟩, q⟩ | ⟨⟨xs, hq⟩, q⟩
  · obtain ⟨its, rv, p, hz⟩ := I1.list hq
    refine wpAny_pyIter_list p.isList ?_
    refine ⟨s1.heap.objs.size, [s1.heap.objs.size], _, _, H1, rfl, I1.kept (t' := s1.toks) fun b o e => Heap.get?_push_of_some _ e, turn_list a _, ⟨_, Heap.get?_push_size _ rfl, rfl, rfl⟩, fun b hb => ?_, q⟩
    have e : b = s1.heap.objs.size := by simpa using hb
    subst e
    exact I1.fpOk (Nat.le_refl _) (I1.hok.fresh (Nat.le_refl _))
  · obtain ⟨its, rv, p, hz⟩ := I1.tuple hq
    refine wpAny_pyIter_tuple (show s1.heap.IsTuple a its.toArray from p) ?_
    refine ⟨s1.heap.objs.size, [s1.heap.objs.size], _, _, H1, rfl, I1.kept (t' := s1.toks) fun b o e => Heap.get?_push_of_some _ e, turn_tuple a _, ⟨_, Heap.get?_push_size _ rfl, rfl, rfl⟩, fun b hb => ?_, q⟩
    have e : b = s1.heap.objs.size := by simpa using hb
    subst e
    exact I1.fpOk (Nat.le_refl _) (I1.hok.fresh (Nat.le_refl _))
theorem s_iseq {e : E} {x : Expr} (h : Both X F x e) : PI X tgx x (tI X.K F (.seq e)) := by
  refine PI.imp (pi_seq h.v) ?_
  intro σ H R ⟨own, ads, ρ, μ, xs, μ', h, he, q⟩
  unfold evi at he
  obtain ⟨dx, μ1, e1, he⟩ := andThen_some he
  refine ⟨own, ads, ρ, μ, dx, μ1, h, e1, fun v H1 ads1 x1 h1 r1 => ?_⟩
  split at he
  · cases he
    rcases r1 with r1 | ⟨hb, a, vs, es, f1, f2, f3, f4, f5⟩
    · cases r1 with
      | lst t l => exact .inr ⟨_, rfl, .inl ⟨⟨_, t.sq⟩, q _ H1 ads1 x1 h1 (.inl ⟨_, _, rfl, t, l⟩)⟩⟩
    · cases f2
      exact .inr ⟨a, f1, .inl ⟨⟨vs, .of f3⟩, q _ H1 ads1 x1 h1 (.inr (.inl ⟨hb, a, vs, rfl, f3, f4, f5⟩))⟩⟩
  · cases he
    obtain ⟨a, vs, f1, f2, f3⟩ := r1.tup
    exact .inr ⟨a, f1, .inr ⟨⟨vs, f2.sq⟩, q _ H1 ads1 x1 h1 (.inr (.inr (.inl ⟨a, vs, rfl, f2, f3⟩)))⟩⟩
  · cases he
    exact .inl ⟨_, r1.str, q _ H1 ads1 x1 h1 (.inr (.inr (.inr (.inr (.inl ⟨_, rfl, rfl⟩)))))⟩
  · cases he
theorem rngOk_ok {i : Int} (h : rngOk i = true) : -(2 ^ 62) ≤ i ∧ i < 2 ^ 62 := by
  unfold rngOk at h
  rw [Bool.and_eq_true, decide_eq_true_eq, decide_eq_true_eq] at h
  exact h
theorem s_rng1 {N fs : List Str} {n : Nat} {sc : Scope} (G : GX N fs F n sc X) {a : E} {x : Expr} {p pos : Pos} (hg : gloB sc "range" = true) (hs : notStar x = true) (h : Both X F x a) : PI X tgx (.Call (.Name "range" p) [x] [] pos) (tI X.K F (.rng1 a)) := by
  have hn : X.mg "range" = none := G.bn _ (by decide +kernel)
  refine PI.imp (pi_range1 (G.glo _ hg) hn (pa_cons h.v pa_nil (starEach_cons hs _ _)) (by rw [starEach_cons hs]; rfl)) ?_
  intro σ H R ⟨own, ads, ρ, μ, xs, μ', h, he, q⟩
  unfold evi at he
  obtain ⟨dx, μ1, e1, he⟩ := andThen_some he
  split at he
  · split at he
    · rename_i m hm
      cases he
      refine ⟨own, ads, ρ, μ, _, _, h, e1, fun v H1 ads1 x1 h1 r1 => ?_⟩
      have ev := r1.int
      subst ev
      exact ⟨_, rfl, (rngOk_ok hm).1, (rngOk_ok hm).2, q _ H1 ads1 x1 h1 (.inr (.inr (.inr (.inl ⟨_, _, rfl, rfl⟩))))⟩
    · cases he
  · cases he
theorem s_rng2 {N fs : List Str} {n : Nat} {sc : Scope} (G : GX N fs F n sc X) {a b : E} {x y : Expr} {p pos : Pos} (hg : gloB sc "range" = true) (hs : notStar x = true) (hs2 : notStar y = true) (h : Both X F x a) (h2 : Both X F y b) : PI X tgx (.Call (.Name "range" p) [x, y] [] pos) (tI X.K F (.rng2 a b)) := by
  have hn : X.mg "range" = none := G.bn _ (by decide +kernel)
  refine PI.imp (pi_range2 (G.glo _ hg) hn (pa_cons h.v (pa_cons h2.v pa_nil (starEach_cons hs2 _ _)) (starEach_cons hs _ _)) (by rw [starEach_cons hs, starEach_cons hs2]; rfl) (by rw [starEach_cons hs2]; rfl)) ?_
  intro σ H R ⟨own, ads, ρ, μ, xs, μ', h, he, q⟩
  unfold evi at he
  obtain ⟨dx, μ1, e1, he⟩ := andThen_some he
  obtain ⟨dy, μ2, e2, he⟩ := andThen_some he
  split at he
  · split at he
    · rename_i m k hm
      cases he
      rw [Bool.and_eq_true] at hm
      refine ⟨own, ads, ρ, μ, _, μ1, h, e1, fun v H1 ads1 x1 h1 r1 => ⟨own, ads1, ρ, μ1, _, _, h1, e2, fun w H2 ads2 x2 h2 r2 => ?_⟩⟩
      have ev := r1.int
      have ew := r2.int
      subst ev ew
      exact ⟨_, _, rfl, ⟨(rngOk_ok hm.1).1, (rngOk_ok hm.1).2, (rngOk_ok hm.2).1, (rngOk_ok hm.2).2⟩, q _ H2 ads2 (x1.trans x2) h2 (.inr (.inr (.inr (.inl ⟨_, _, rfl, rfl⟩))))⟩
    · cases he
  · cases he
theorem s_rng3 {N fs : List Str} {n : Nat} {sc : Scope} (G : GX N fs F n sc X) {a b c : E} {x y z : Expr} {p pos : Pos} (hg : gloB sc "range" = true) (hs : notStar x = true) (hs2 : notStar y = true) (hs3 : notStar z = true) (h : Both X F x a) (h2 : Both X F y b) (h3 : Both X F z c) : PI X tgx (.Call (.Name "range" p) [x, y, z] [] pos) (tI X.K F (.rng3 a b c)) := by
  have hn : X.mg "range" = none := G.bn _ (by decide +kernel)
  refine PI.imp (pi_range3 (G.glo _ hg) hn (pa_cons h.v (pa_cons h2.v (pa_cons h3.v pa_nil (starEach_cons hs3 _ _)) (starEach_cons hs2 _ _)) (starEach_cons hs _ _)) (starEach_cons hs _ _) (by rw [starEach_cons hs2, starEach_cons hs3]; rfl)) ?_
  intro σ H R ⟨own, ads, ρ, μ, xs, μ', h, he, q⟩
  unfold evi at he
  obtain ⟨dx, μ1, e1, he⟩ := andThen_some he
  obtain ⟨dy, μ2, e2, he⟩ := andThen_some he
  obtain ⟨dz, μ3, e3, he⟩ := andThen_some he
  split at he
  · split at he
    · rename_i m k j hm
      cases he
      unfold rgOk at hm
      rw [Bool.and_eq_true, Bool.and_eq_true, Bool.and_eq_true, decide_eq_true_eq, decide_eq_true_eq, decide_eq_true_eq] at hm
      obtain ⟨⟨⟨g1, g2⟩, g3⟩, g4⟩ := hm
      refine ⟨own, ads, ρ, μ, _, μ1, h, e1, fun v H1 ads1 x1 h1 r1 => ⟨own, ads1, ρ, μ1, _, _, h1, e2, fun w H2 ads2 x2 h2 r2 => ⟨own, ads2, ρ, μ2, _, _, h2, e3, fun u H3 ads3 x3 h3 r3 => ?_⟩⟩⟩
      have ev := r1.int
      have ew := r2.int
      have eu := r3.int
      subst ev ew eu
      exact ⟨_, _, _, _, rfl, ⟨g1, g2, g3, (Int.toNat_of_nonneg g4).symm⟩, q _ H3 ads3 ((x1.trans x2).trans x3) h3 (.inr (.inr (.inr (.inr (.inr ⟨_, _, _, rfl, rfl⟩)))))⟩
    · cases he
  · cases he
end
end FM

set_option Elab.async false
set_option linter.all false
set_option maxRecDepth 100000
set_option maxHeartbeats 4000000
/-! Ev10: comprehensions, dict displays, all expressions. -/
namespace FM
open PySem PySem.Spec PyProof.Rows L2

/-! ### the block of a comprehension -/
theorem lookup_cond (c : Str → NameKind → Bool) (x : Str) : ∀ names : List (Str × NameKind), (names.map fun p => if c p.1 p.2 = true then (p.1, NameKind.cell) else (p.1, p.2)).lookup x = (names.lookup x).map fun k => if c x k = true then NameKind.cell else k
  | [] => rfl
  | (n, k) :: r => by
    have ih := lookup_cond c x r
    rw [List.map_cons]
    cases hx : x == n with
    | true =>
      have e : x = n := eq_of_beq hx
      subst e
      by_cases hc : c x k = true
      · simp only [hc, if_true, List.lookup_cons, hx, Option.map_some]
      · have hc' : c x k = false := by simpa using hc
        simp [hc', List.lookup_cons]
    | false =>
      by_cases hc : c n k = true
      · simp only [hc, if_true, List.lookup_cons, hx]
        exact ih
      · have hc' : c n k = false := by simpa using hc
        simp only [hc', Bool.false_eq_true, if_false, List.lookup_cons, hx]
        exact ih
def relC (env : PySem.Env) (n : Str) (k : NameKind) : Bool := k == NameKind.free && env.scope.kind == .function && env.kindOf n == some .cell
theorem lookup_relabel (env : PySem.Env) (x : Str) (scope : Scope) : (relabel scope env).names.lookup x = (scope.names.lookup x).map fun k => if relC env x k = true then NameKind.cell else k := lookup_cond (relC env) x scope.names
theorem relC_local (env : PySem.Env) (x : Str) : relC env x .local = false := rfl
theorem relC_cell (env : PySem.Env) (x : Str) : relC env x .cell = false := rfl
theorem relC_glo (env : PySem.Env) (x : Str) : relC env x .globalImplicit = false := rfl
theorem GX.blk {N fs : List Str} {F : Fs} {n : Nat} {sc : Scope} {X : Cx} (G : GX N fs F n sc X) {scope : Scope} {s : Shared} {H : Hp} {C : Addr} {cl : List (Str × Addr)} {fp : List Addr} :
    GX N fs F n scope (X.blk s H scope (compEnvC scope cl C X.env) fp) := by
  have look : ∀ x, (compEnvC scope cl C X.env).scope.names.lookup x = (scope.names.lookup x).map fun k => if relC X.env x k = true then NameKind.cell else k := fun x => lookup_relabel X.env x scope
  have free : ∀ x, scope.names.lookup x = some .free → (compEnvC scope cl C X.env).scope.names.lookup x = some .cell ∨ (compEnvC scope cl C X.env).scope.names.lookup x = some .free := fun x e => by
    rw [look, e, Option.map_some]
    by_cases hc : relC X.env x .free = true
    · rw [if_pos hc]; exact .inl rfl
    · rw [if_neg hc]; exact .inr rfl
  refine ⟨G.hN, G.nd, G.calm, rfl, G.room, fun x h => ?_, fun x h => ?_, fun x h => ?_, fun x h => ?_, G.bn, G.fn⟩
  · unfold visB at h
    show (compEnvC scope cl C X.env).scope.names.lookup x = some .local ∨ (compEnvC scope cl C X.env).scope.names.lookup x = some .cell ∨ (compEnvC scope cl C X.env).scope.names.lookup x = some .free
    split at h
    · rename_i e; rw [look, e]; exact .inl rfl
    · rename_i e; rw [look, e]; exact .inr (.inl rfl)
    · rename_i e; exact .inr (free x e)
    · cases h
  · unfold gloB at h
    show (compEnvC scope cl C X.env).scope.names.lookup x = some .globalImplicit
    split at h
    · rename_i e; rw [look, e]; rfl
    · cases h
  · unfold locB at h
    show ((compEnvC scope cl C X.env).scope.names.lookup x = some .local ∨ (compEnvC scope cl C X.env).scope.names.lookup x = some .cell) ∧ ((scope.names.lookup x == some .cell) = true ∨ (compEnvC scope cl C X.env).scope.names.lookup x = some .local)
    split at h
    · rename_i e; rw [look, e]; exact ⟨.inl rfl, .inr rfl⟩
    · rename_i e; rw [look, e]; exact ⟨.inr rfl, .inl rfl⟩
    · cases h
  · show (compEnvC scope cl C X.env).scope.names.lookup x = some .cell ∨ (compEnvC scope cl C X.env).scope.names.lookup x = some .free
    rcases h with e | e
    · rw [look, e]; exact .inl rfl
    · exact free x e
theorem own_slots (N : List Str) : ∀ is : List Nat, (ownOf N is).map (·.2) = is
  | [] => rfl
  | i :: is => by
    show i :: (ownOf N is).map (·.2) = i :: is
    rw [own_slots N is]
theorem GX.blkOk {N fs : List Str} {F : Fs} {n : Nat} {sc : Scope} {X : Cx} (G : GX N fs F n sc X) {scope : Scope} {is : List Nat} (h : blkC N sc scope (ownOf N is) = true) : BlkOk X.N X.env.scope scope (ownOf N is) := by
  have b := blkOk_by h
  rw [G.hN]
  exact ⟨b.kind, b.uniq, b.ix, fun y hy e => G.cap y.1 (b.free y hy e), b.own⟩

/-! ### the comprehension -/
section
variable {X : Cx} {F : Fs}
theorem lcGo_len {tg : Tg} {c : Env → Cells → Option (Bool × Cells)} {f : Env → Cells → Option (D × Cells)} {ρ : Env} : ∀ {xs : List D} {μ μ' : Cells} {ys : List D}, lcGo tg c f ρ xs μ = some (ys, μ') → ys.length ≤ xs.length
  | [], _, _, _, h => by cases h; exact Nat.le_refl _
  | x :: xs, μ, μ', ys, h => by
    unfold lcGo at h
    split at h
    · cases h
    · split at h
      · cases h
      · have := lcGo_len h
        rw [List.length_cons]; omega
      · split at h
        · cases h
        · split at h
          · cases h
          · rename_i e
            cases h
            have := lcGo_len e
            rw [List.length_cons, List.length_cons]; omega
theorem antiOwn {K : PySem.W.Frag} {own own' : Addr → Prop} {ads : List Addr} {H : Hp} (h : ∀ b, own' b → own b) : Stay (Zo own ads) (Zo own' ads) ads ads H H :=
  ⟨fun _ _ e _ => e, fun _ _ _ z q => z (q.elim (fun q => .inl (h _ q)) .inr), fun _ _ e => e⟩
theorem SlR.anti {K : PySem.W.Frag} {own own' : Addr → Prop} {ads : List Addr} {H : Hp} {s : Sl} {v : V} (h : ∀ b, own' b → own b) (k : ∀ ds, s = .ow ds → ∀ a, v = .ref a → own' a) (r : SlR K own ads H s v) : SlR K own' ads H s v := by
  cases s with
  | pl d => exact Rep.stay (antiOwn (K := K) h) d v r
  | ow ds =>
    obtain ⟨a, xs, e1, e2, e3, e4⟩ := r
    exact ⟨a, xs, e1, e2, k ds rfl a e1, RepL.stay (antiOwn (K := K) h) _ _ e4⟩
theorem CellsR.anti {K : PySem.W.Frag} {own own' : Addr → Prop} {ads : List Addr} {H : Hp} {μ : Cells} (h : ∀ b, own' b → own b) (c : CellsR K own ads H μ) : CellsR K own' ads H μ where
  len := c.len
  nd := c.nd
  «at» := fun k a e => by
    obtain ⟨kvs, kds, h1, h2, h3⟩ := c.at k a e
    exact ⟨kvs, kds, h1, h2, h3.stay (antiOwn (K := K) h)⟩
  dis := fun a ha q => c.dis a ha (h a q)
  ownT := fun b q => c.ownT b (h b q)
/-- one more own object, new -/
abbrev plusOwn (own : Addr → Prop) (p : Addr) : Addr → Prop := fun b => own b ∨ b = p
theorem stayPlus {own : Addr → Prop} {ads : List Addr} {H : Hp} {p : Addr} {o : HO} (hp : H p = none) : Stay (Zo own ads) (Zo (plusOwn own p) ads) ads ads H (upd H p o) :=
  ⟨fun b u e _ => by rw [upd_ne (ne_of_none e hp)]; exact e, fun b u e z q => z (by
    rcases q with (q | q) | q
    · exact .inl q
    · subst q; rw [hp] at e; cases e
    · exact .inr q), fun _ _ e => e⟩
theorem Hold.plus {K : PySem.W.Frag} {own : Addr → Prop} {ads : List Addr} {H : Hp} {σ : L2.St} {ρ : Env} {μ : Cells} {p : Addr} {o : HO} (hp : H p = none) (mu : Mut (some o)) (h : Hold K own ads H σ ρ μ) : Hold K (plusOwn own p) ads (upd H p o) σ ρ μ := by
  refine ⟨fun i s e => ?_, ⟨h.c.len, h.c.nd, fun k a e => ?_, fun a ha q => ?_, fun b q => ?_⟩, h.len⟩
  · obtain ⟨v, h1, h2⟩ := h.e i s e
    refine ⟨v, h1, ?_⟩
    cases s with
    | pl d => exact Rep.stay (stayPlus hp) d v h2
    | ow ds =>
      obtain ⟨a, xs, e1, e2, e3, e4⟩ := h2
      exact ⟨a, xs, e1, by rw [upd_ne (ne_of_none e2 hp)]; exact e2, .inl e3, RepL.stay (stayPlus hp) _ _ e4⟩
  · obtain ⟨kvs, kds, h1, h2, h3⟩ := h.c.at k a e
    exact ⟨kvs, kds, h1, by rw [upd_ne (ne_of_none h2 hp)]; exact h2, h3.stay (stayPlus hp)⟩
  · rcases q with q | q
    · exact h.c.dis a ha q
    · subst q
      exact h.c.freshZ hp (.inr ha)
  · rcases q with q | q
    · obtain ⟨u, h1, h2⟩ := h.c.ownT b q
      exact ⟨u, by rw [upd_ne (ne_of_none h1 hp)]; exact h1, h2⟩
    · subst q
      exact ⟨o, upd_same, mu⟩
/-- the own list at p is changed -/
theorem stayWrite {own : Addr → Prop} {ads : List Addr} {H : Hp} {p : Addr} {o : HO} (h : own p) : Stay (Zo own ads) (Zo own ads) ads ads H (upd H p o) :=
  ⟨fun b u e z => by
    have ne : b ≠ p := by rintro rfl; exact z (.inl h)
    rw [upd_ne ne]; exact e, fun _ _ _ z => z, fun _ _ e => e⟩
theorem Hold.write {K : PySem.W.Frag} {own : Addr → Prop} {ads : List Addr} {H : Hp} {σ : L2.St} {ρ : Env} {μ : Cells} {p : Addr} {o : HO} (hp : own p) (mu : Mut (some o)) (hn : ∀ (i : Nat) (ds : List D), ρ[i]? = some (some (Sl.ow ds)) → σ[i]? ≠ some (some (V.ref p))) (h : Hold K own ads H σ ρ μ) : Hold K own ads (upd H p o) σ ρ μ := by
  refine ⟨fun i s e => ?_, ⟨h.c.len, h.c.nd, fun k a e => ?_, h.c.dis, fun b q => ?_⟩, h.len⟩
  · obtain ⟨v, h1, h2⟩ := h.e i s e
    refine ⟨v, h1, ?_⟩
    cases s with
    | pl d => exact Rep.stay (stayWrite hp) d v h2
    | ow ds =>
      obtain ⟨a, xs, e1, e2, e3, e4⟩ := h2
      subst e1
      have ne : a ≠ p := fun z => hn i ds e (by rw [h1, z])
      exact ⟨a, xs, rfl, by rw [upd_ne ne]; exact e2, e3, RepL.stay (stayWrite hp) _ _ e4⟩
  · obtain ⟨kvs, kds, h1, h2, h3⟩ := h.c.at k a e
    have ne : a ≠ p := fun z => h.c.dis a (List.mem_of_getElem? e) (z ▸ hp)
    exact ⟨kvs, kds, h1, by rw [upd_ne ne]; exact h2, h3.stay (stayWrite hp)⟩
  · by_cases hb : b = p
    · subst hb
      exact ⟨o, upd_same, mu⟩
    · obtain ⟨u, h1, h2⟩ := h.c.ownT b q
      exact ⟨u, by rw [upd_ne hb]; exact h1, h2⟩
theorem lc_read {K : PySem.W.Frag} {elt : E} {tg : Tg} {it : It} {cond : EO} (hnd : ∀ is, tg = .tp is → is.Nodup) (σ : L2.St) (H : Hp) (Q : VK) (h : tE K F (.lc elt tg it cond) σ H Q) : tLc (tI K F it) (tTg K tg) (tC' K F cond) (tE K F elt) tg.slots σ H Q := by
  obtain ⟨own, ads, ρ, μ, d, μ', h, he, q⟩ := h
  unfold ev at he
  obtain ⟨xs, μ1, e1, he⟩ := andThen_some he
  split at he
  · rename_i hz
    obtain ⟨ys, μ2, e2, he⟩ := andThen_some he
    cases he
    refine ⟨own, ads, ρ, μ, xs, μ1, h, e1, fun J H1 ads1 x1 h1 w1 => ?_⟩
    intro D' hD
    let P : Nat → Hp → Prop := fun i Hi => ∃ adsi μi acc yi rest, Hold K (plusOwn own D') adsi Hi σ ρ μi ∧ Ext ads1 H1 adsi Hi ∧ WalksR K (plusOwn own D') own adsi Hi J xs (it.lk ρ) ∧ Hi D' = some (.lst acc) ∧ RepL K (Zo (plusOwn own D') adsi) adsi Hi acc yi ∧
      lcGo tg (fun ρ' μ' => evc F cond ρ' μ') (fun ρ' μ' => if lk ρ' elt then none else ev F elt ρ' μ') ρ (xs.drop i) μi = some (rest, μ') ∧ ys = yi ++ rest ∧ acc.length ≤ i
    have hP0 : P 0 (upd H1 D' (.lst [])) := by
      refine ⟨ads1, μ1, [], [], ys, h1.plus hD True.intro, .fresh hD, ?_, upd_same, .nil, e2, rfl, Nat.le_refl _⟩
      rcases w1 with ⟨a, vs, g1, g2, g3⟩ | ⟨hb, a, vs, g1, g2, g3, g4⟩ | ⟨a, vs, g1, g2, g3⟩ | g
      · exact .inl ⟨a, vs, g1, g2.stay (stayPlus hD), RepL.stay (stayPlus hD) _ _ g3⟩
      · exact .inr (.inl ⟨hb, a, vs, g1, by rw [upd_ne (ne_of_none g2 hD)]; exact g2, g3, RepL.stay (stayPlus hD) _ _ g4⟩)
      · exact .inr (.inr (.inl ⟨a, vs, g1, g2.stay (stayPlus hD), RepL.stay (stayPlus hD) _ _ g3⟩))
      · exact .inr (.inr (.inr g))
    refine ⟨fun i m Hi => m = xs.length - i ∧ i ≤ xs.length ∧ P i Hi, ⟨xs.length, by simp, Nat.zero_le _, hP0⟩, ?_⟩
    rintro i m Hi ⟨rfl, hi, adsi, μi, acc, yi, rest, hh, xe, wi, hacc, hrep, hgo, hys, hlen⟩
    obtain ⟨t1, t2⟩ := wi.turn i
    by_cases hlt : i < xs.length
    · -- a turn
      have hd : xs[i]? = some xs[i] := by simp [hlt]
      obtain ⟨go, yl⟩ := t2 _ hd
      refine .inr ⟨go, P (i + 1), fun H' p => ⟨xs.length - (i + 1), by omega, rfl, hlt, p⟩, fun x H' y => ?_⟩
      obtain ⟨e3, r3⟩ := yl x H' y
      subst e3
      have hdrop : xs.drop i = xs[i] :: xs.drop (i + 1) := by rw [List.drop_eq_getElem_cons hlt]
      rw [hdrop] at hgo
      unfold lcGo at hgo
      split at hgo
      · cases hgo
      · rename_i ρ1 hb
        have hb' : bindT tg xs[i] (wipeR ρ tg.slots) = some ρ1 := by
          cases tg with
          | nm k =>
            have z : some (ρ.set k (some (Sl.pl xs[i]))) = some ρ1 := hb
            show some ((ρ.set k none).set k (some (Sl.pl xs[i]))) = some ρ1
            rw [List.set_set]
            exact z
          | tp is =>
            have nd := hnd is rfl
            revert hb
            show bindT (.tp is) xs[i] ρ = some ρ1 → bindT (.tp is) xs[i] (wipeR ρ is) = some ρ1
            unfold bindT
            cases xs[i] with
            | tup ds =>
              show (if ds.length = is.length then some (setAll is ds ρ) else none) = some ρ1 → (if ds.length = is.length then some (setAll is ds (wipeR ρ is)) else none) = some ρ1
              split
              · rename_i hl
                rw [setAll_wipeR is ds ρ nd hl]
                exact fun z => z
              · exact fun z => z
            | _ => exact fun z => z
        refine tg_ok (hh.wipe tg.slots) r3 hb' fun σ1 h1' w1' => ⟨by rw [w1', wipe_wipe fun _ z => z], ?_⟩
        -- σ again from σ1
        have back : ∀ {adsj : List Addr} {Hj : Hp} {μj : Cells}, Ext adsi H' adsj Hj → Hold K (plusOwn own D') adsj Hj σ1 ρ1 μj → Hold K (plusOwn own D') adsj Hj σ ρ μj := fun {adsj Hj μj} x2 h2 => ⟨hh.e.ext hh.c x2, h2.c, hh.len⟩
        cases hc : evc F cond ρ1 μi with
        | none => rw [hc] at hgo; cases hgo
        | some r =>
          obtain ⟨b, μj⟩ := r
          rw [hc] at hgo
          refine ⟨plusOwn own D', adsi, ρ1, μi, b, μj, h1', hc, fun Hj adsj x2 h2 => ?_⟩
          have accD : ∀ {Hj : Hp} {adsj : List Addr}, Ext adsi H' adsj Hj → Hj D' = some (.lst acc) := fun {Hj adsj} x2 => x2.keep _ _ hacc fun z => hh.c.dis _ z (.inr rfl)
          cases b with
          | false =>
            show P (i + 1) Hj
            exact ⟨adsj, μj, acc, yi, rest, back x2 h2, xe.trans x2, wi.ext (fun _ z => .inl z) hh.c x2, accD x2, hrep.ext x2, hgo, hys, by omega⟩
          | true =>
            show tE K F elt σ1 Hj fun y H4 => ∃ acc, H4 D' = some (.lst acc) ∧ acc.length < sizeLine ∧ P (i + 1) (upd H4 D' (.lst (acc ++ [y])))
            cases hl : lk ρ1 elt with
            | true =>
              simp only [hl, if_true] at hgo
              cases hgo
            | false =>
              simp only [hl, Bool.false_eq_true, if_false] at hgo
              cases hev : ev F elt ρ1 μj with
              | none => rw [hev] at hgo; cases hgo
              | some r =>
                obtain ⟨y1, μk⟩ := r
                rw [hev] at hgo
                simp only at hgo
                cases hrest : lcGo tg (fun ρ' μ' => evc F cond ρ' μ') (fun ρ' μ' => if lk ρ' elt then none else ev F elt ρ' μ') ρ (xs.drop (i + 1)) μk with
                | none => rw [hrest] at hgo; cases hgo
                | some r =>
                  obtain ⟨rest', μl⟩ := r
                  rw [hrest] at hgo
                  cases hgo
                  refine ⟨plusOwn own D', adsj, ρ1, μj, y1, μk, h2, hev, fun v Hk adsk x3 h3 r3' => ?_⟩
                  rw [hl] at r3'
                  have x4 := x2.trans x3
                  have hk := back x4 h3
                  have dk : Hk D' = some (.lst acc) := accD x4
                  have own' : plusOwn own D' D' := .inr rfl
                  have hn : ∀ (j : Nat) ds, ρ[j]? = some (some (.ow ds)) → σ[j]? ≠ some (some (.ref D')) := fun j ds ej es => by
                    obtain ⟨w, g1, g2⟩ := h1.e j _ ej
                    rw [es] at g1
                    cases g1
                    obtain ⟨a, zs, f1, f2, _⟩ := g2
                    cases f1
                    rw [hD] at f2
                    cases f2
                  refine ⟨acc, dk, ?_, adsk, μk, acc ++ [v], yi ++ [y1], rest', hk.write own' True.intro hn, ?_, ?_, upd_same, ?_, hrest, by rw [hys, List.append_assoc]; rfl, by rw [List.length_append]; simp; omega⟩
                  · rw [sizeLine_eq]; omega
                  · refine ⟨fun b o e m => ?_, fun b o e => ?_, (xe.trans x4).new, (xe.trans x4).pre⟩
                    · have ne : b ≠ D' := ne_of_none e hD
                      rw [upd_ne ne]
                      exact (xe.trans x4).keep b o e m
                    · have ne : b ≠ D' := ne_of_none e hD
                      rw [upd_ne ne]
                      exact (xe.trans x4).there b o e
                  · rcases (wi.ext (fun _ z => .inl z) hh.c x4) with ⟨a, vs, g1, g2, g3⟩ | ⟨hb, a, vs, g1, g2, g3, g4⟩ | ⟨a, vs, g1, g2, g3⟩ | g
                    · exact .inl ⟨a, vs, g1, g2.stay (stayWrite own'), RepL.stay (stayWrite own') _ _ g3⟩
                    · have ne : a ≠ D' := by
                        rintro rfl
                        obtain ⟨o, z1, _⟩ := h1.c.ownT _ g3
                        rw [hD] at z1
                        cases z1
                      exact .inr (.inl ⟨hb, a, vs, g1, by rw [upd_ne ne]; exact g2, g3, RepL.stay (stayWrite own') _ _ g4⟩)
                    · exact .inr (.inr (.inl ⟨a, vs, g1, g2.stay (stayWrite own'), RepL.stay (stayWrite own') _ _ g3⟩))
                    · exact .inr (.inr (.inr g))
                  · exact .append (RepL.stay (stayWrite own') _ _ (hrep.ext x4)) (.cons (Rep.stay (stayWrite own') _ _ r3'.plain) .nil)
    · -- the end
      have e3 : i = xs.length := by omega
      subst e3
      rw [List.drop_length] at hgo
      unfold lcGo at hgo
      cases hgo
      rw [List.append_nil] at hys
      subst hys
      refine .inl ⟨t1 (Nat.le_refl _), ?_⟩
      have anti : ∀ b, own b → plusOwn own D' b := fun b z => .inl z
      have hD' : ¬ Zo own adsi D' := fun z => by
        rcases z with z | z
        · obtain ⟨o, z1, _⟩ := h1.c.ownT _ z
          rw [hD] at z1; cases z1
        · exact hh.c.dis _ z (.inr rfl)
      refine q (.ref D') Hi adsi (x1.trans xe) ⟨h1.e.ext h1.c xe, hh.c.anti anti, hh.len⟩ (.inl (.lst (.inl ⟨.inl hacc, hD'⟩) (RepL.stay (antiOwn (K := K) anti) _ _ hrep)))
  · cases he
end
end FM

set_option Elab.async false
set_option linter.all false
set_option maxRecDepth 100000
set_option maxHeartbeats 4000000
/-! Ev11: dict displays; all expressions. -/
namespace FM
open PySem PySem.Spec PyProof.Rows L2
section
variable {X : Cx} {F : Fs}
/-! ### dict displays -/
def trsOf (K : PySem.W.Frag) (F : Fs) : List Str → Es → List (TE × TE)
  | k :: ks, .cons e es => (tC (.str k), tE K F e) :: trsOf K F ks es
  | _, _ => []
theorem pairs_read {K : PySem.W.Frag} {σ : L2.St} {ρ : Env} {own : Addr → Prop} : ∀ {ks : List Str} {es : Es} {ads : List Addr} {H : Hp} {μ μ' : Cells} {ds : List D} {Q : List (V × V) → Hp → Prop}, Hold K own ads H σ ρ μ → evs F es ρ μ = some (ds, μ') → lks ρ es = false → ds.length = ks.length →
    (∀ vs H' ads', Ext ads H ads' H' → Hold K own ads' H' σ ρ μ' → RepL K (Zo own ads') ads' H' vs ds → Q ((ks.map V.str).zip vs) H') → tPairs (trsOf K F ks es) σ H Q
  | [], .nil, _, _, _, _, _, _, h, e, _, _, k => by
    cases e
    exact k [] _ _ .refl h .nil
  | [], .cons _ _, _, _, _, _, ds, _, h, e, _, hl, k => by
    unfold evs at e
    obtain ⟨d, μ1, e1, e⟩ := andThen_some e
    obtain ⟨ds', μ2, e2, e⟩ := andThen_some e
    cases e
    cases hl
  | _ :: _, .nil, _, _, _, _, _, _, h, e, _, hl, k => by
    cases e
    cases hl
  | s :: ks, .cons x es, ads, H, μ, μ', ds, Q, h, e, hk, hl, k => by
    unfold evs at e
    obtain ⟨d, μ1, e1, e⟩ := andThen_some e
    obtain ⟨ds', μ2, e2, e⟩ := andThen_some e
    cases e
    have hk' : (lk ρ x || lks ρ es) = false := hk
    rw [Bool.or_eq_false_iff] at hk'
    show tE K F x σ H fun y H2 => tPairs (trsOf K F ks es) σ H2 fun ps H3 => Q ((V.str s, y) :: ps) H3
    refine ⟨own, ads, ρ, μ, d, μ1, h, e1, fun v H1 ads1 x1 h1 r1 => ?_⟩
    rw [hk'.1] at r1
    exact pairs_read h1 e2 hk'.2 (by simpa using hl) fun vs H2 ads2 x2 h2 l2 => k (v :: vs) H2 ads2 (x1.trans x2) h2 (.cons (r1.plain.ext x2) l2)
theorem mergeK_new : ∀ (kvs acc : List (Key × V)), (∀ p ∈ kvs, valV acc p.1 = none) → (kvs.map (·.1)).Nodup → mergeK acc kvs = acc ++ kvs
  | [], acc, _, _ => by rw [List.append_nil]; rfl
  | p :: kvs, acc, h, nd => by
    have n := List.nodup_cons.mp (show (p.1 :: kvs.map (·.1)).Nodup from nd)
    show mergeK (putK acc p.1 p.2) kvs = acc ++ p :: kvs
    rw [putK_new _ (h p List.mem_cons_self), mergeK_new kvs _ (fun q hq => ?_) n.2, List.append_assoc]
    · rfl
    · rw [valV_snoc _ _ _ _ (h p List.mem_cons_self)]
      rw [if_neg (fun e => n.1 (List.mem_map.mpr ⟨q, hq, e⟩))]
      exact h q (List.mem_cons_of_mem _ hq)
theorem zip_keys : ∀ (ks : List Str) (vs : List V), ks.length = vs.length → ((ks.map fun s => (Sum.inr s : Key)).zip vs).map (·.1) = ks.map Sum.inr ∧ ((ks.map fun s => (Sum.inr s : Key)).zip vs).map (·.2) = vs ∧ (ks.map V.str).zip vs = ((ks.map fun s => (Sum.inr s : Key)).zip vs).map fun kv => (kV kv.1, kv.2)
  | [], [], _ => ⟨rfl, rfl, rfl⟩
  | [], _ :: _, e => by cases e
  | _ :: _, [], e => by cases e
  | k :: ks, v :: vs, e => by
    obtain ⟨h1, h2, h3⟩ := zip_keys ks vs (by simpa using e)
    refine ⟨?_, ?_, ?_⟩
    · simp only [List.map_cons, List.zip_cons_cons, h1]
    · simp only [List.map_cons, List.zip_cons_cons, h2]
    · simp only [List.map_cons, List.zip_cons_cons, h3]; rfl
theorem zip_keysD : ∀ (ks : List Str) (ds : List D), ks.length = ds.length → ((ks.map fun s => (Sum.inr s : Key)).zip ds).map (·.1) = ks.map Sum.inr ∧ ((ks.map fun s => (Sum.inr s : Key)).zip ds).map (·.2) = ds
  | [], [], _ => ⟨rfl, rfl⟩
  | [], _ :: _, e => by cases e
  | _ :: _, [], e => by cases e
  | k :: ks, v :: vs, e => by
    obtain ⟨h1, h2⟩ := zip_keysD ks vs (by simpa using e)
    refine ⟨?_, ?_⟩
    · simp only [List.map_cons, List.zip_cons_cons, h1]
    · simp only [List.map_cons, List.zip_cons_cons, h2]
theorem nodup_inr : ∀ {ks : List Str}, ks.Nodup → (ks.map fun s => (Sum.inr s : Key)).Nodup
  | [], _ => .nil
  | k :: ks, h => by
    have n := List.nodup_cons.mp h
    refine List.nodup_cons.mpr ⟨fun m => ?_, nodup_inr n.2⟩
    obtain ⟨j, h1, h2⟩ := List.mem_map.mp m
    cases h2
    exact n.1 h1
theorem dict_read {K : PySem.W.Frag} {ks : List Str} {es : Es} (σ : L2.St) (H : Hp) (Q : VK) (h : tE K F (.dict ks es) σ H Q) : tDisp (trsOf K F ks es) σ H Q := by
  obtain ⟨own, ads, ρ, μ, d, μ', h, he, q⟩ := h
  unfold ev at he
  split at he
  · cases he
  · rename_i hl
    obtain ⟨ds, μ1, e1, he⟩ := andThen_some he
    split at he
    · rename_i hk
      cases he
      obtain ⟨hk1, hk2, hk3⟩ := hk
      intro p hp
      refine pairs_read (h.plus hp True.intro) e1 (by simpa using hl) hk1 fun vs H2 ads2 x2 h2 l2 => ?_
      have hn : p ∉ ads := fun m => h.c.freshZ hp (.inr m)
      have hp2 : H2 p = some (.dK []) := x2.keep p _ upd_same hn
      have hn2 : p ∉ ads2 := fun m => h2.c.dis p m (.inr rfl)
      obtain ⟨z1, z2, z3⟩ := zip_keys ks vs (by rw [l2.length]; exact hk1.symm)
      obtain ⟨w1, w2⟩ := zip_keysD ks ds hk1.symm
      refine ⟨hp2, (ks.map fun s => (Sum.inr s : Key)).zip vs, z3, ?_, ?_⟩
      · rw [List.length_zip, List.length_map]
        omega
      · have nd : (((ks.map fun s => (Sum.inr s : Key)).zip vs).map (·.1)).Nodup := by
          rw [z1]
          exact nodup_inr hk3
        rw [mergeK_new _ [] (fun _ _ => rfl) nd, List.nil_append]
        -- the heap behind
        have anti : ∀ b, own b → plusOwn own p b := fun b z => .inl z
        have x3 : Ext ads H (ads2 ++ [p]) (upd H2 p (.dK ((ks.map fun s => (Sum.inr s : Key)).zip vs))) := by
          refine ⟨fun b o e m => ?_, fun b o e => ?_, fun b m => ?_, fun k a e => ?_⟩
          · have ne : b ≠ p := ne_of_none e hp
            rw [upd_ne ne]
            exact x2.keep b o (by rw [upd_ne ne]; exact e) m
          · have ne : b ≠ p := ne_of_none e hp
            rw [upd_ne ne]
            exact x2.there b o (by rw [upd_ne ne]; exact e)
          · rcases List.mem_append.mp m with m | m
            · rcases x2.new b m with z | z
              · exact .inl z
              · refine .inr ?_
                have ne : b ≠ p := fun q => hn2 (q ▸ m)
                rw [upd_ne ne] at z
                exact z
            · rw [List.mem_singleton.mp m]
              exact .inr hp
          · have z := x2.pre k a e
            rw [List.getElem?_append_left (List.getElem?_eq_some_iff.mp z).1]
            exact z
        have st : Stay (Zo (plusOwn own p) ads2) (Zo own (ads2 ++ [p])) ads2 (ads2 ++ [p]) H2 (upd H2 p (.dK ((ks.map fun s => (Sum.inr s : Key)).zip vs))) := by
          refine ⟨fun b o e z => ?_, fun b o e z w => z ?_, fun k a e => ?_⟩
          · have ne : b ≠ p := fun w => z (.inl (.inr w))
            rw [upd_ne ne]
            exact e
          · rcases w with w | w
            · exact .inl (.inl w)
            · rcases List.mem_append.mp w with w | w
              · exact .inr w
              · exact .inl (.inr (List.mem_singleton.mp w))
          · rw [List.getElem?_append_left (List.getElem?_eq_some_iff.mp e).1]
            exact e
        have hown : ¬ own p := fun z => by
          obtain ⟨o, z1, _⟩ := h.c.ownT p z
          rw [hp] at z1; cases z1
        have c3 : CellsR K own (ads2 ++ [p]) (upd H2 p (.dK ((ks.map fun s => (Sum.inr s : Key)).zip vs))) (μ1 ++ [(ks.map Sum.inr).zip ds]) := by
          refine ⟨by rw [List.length_append, List.length_append, h2.c.len]; rfl, ?_, fun k a e => ?_, fun a m => ?_, fun b z => ?_⟩
          · rw [List.nodup_append]
            exact ⟨h2.c.nd, List.nodup_cons.mpr ⟨by simp, .nil⟩, fun a m b m2 => by
              rw [List.mem_singleton.mp m2]
              exact fun q => hn2 (q ▸ m)⟩
          · by_cases hlt : k < ads2.length
            · rw [List.getElem?_append_left hlt] at e
              obtain ⟨kvs, kds, f1, f2, f3⟩ := h2.c.at k a e
              have ne : a ≠ p := fun w => hn2 (w ▸ List.mem_of_getElem? e)
              exact ⟨kvs, kds, by rw [List.getElem?_append_left (by rw [← h2.c.len]; exact hlt)]; exact f1, by rw [upd_ne ne]; exact f2, f3.stay st⟩
            · have hk : k = ads2.length := by
                have := (List.getElem?_eq_some_iff.mp e).1
                rw [List.length_append] at this
                simp at this
                omega
              subst hk
              rw [List.getElem?_append_right (Nat.le_refl _), Nat.sub_self] at e
              cases e
              refine ⟨_, (ks.map fun s => (Sum.inr s : Key)).zip ds, ?_, upd_same, ?_⟩
              · rw [List.getElem?_append_right (by rw [h2.c.len]; exact Nat.le_refl _), h2.c.len, Nat.sub_self]
                rfl
              · refine ⟨?_, ?_⟩
                · rw [z1]; exact w1.symm
                · rw [z2]
                  have : (((ks.map Sum.inr).zip ds).map (·.2)) = ds := w2
                  rw [this]
                  exact l2.stay st
          · rcases List.mem_append.mp m with m | m
            · exact fun w => h2.c.dis a m (.inl w)
            · rw [List.mem_singleton.mp m]
              exact hown
          · obtain ⟨o, f1, f2⟩ := h2.c.ownT b (.inl z)
            have ne : b ≠ p := fun w => hown (w ▸ z)
            exact ⟨o, by rw [upd_ne ne]; exact f1, f2⟩
        refine q (.ref p) _ (ads2 ++ [p]) x3 ⟨h.e.ext h.c x3, c3, h.len⟩ (.inl (.cell ?_))
        rw [List.getElem?_append_right (by rw [h2.c.len]; exact Nat.le_refl _), h2.c.len, Nat.sub_self]
        rfl
    · cases he
end
theorem chkKs_len : ∀ {ks : List Str} {keys : List (Option Expr)}, chkKs ks keys = true → ks.length = keys.length ∧ keys.all (·.isSome) = true
  | [], [], _ => ⟨rfl, rfl⟩
  | [], _ :: _, h => absurd h Bool.false_ne_true
  | _ :: _, [], h => absurd h Bool.false_ne_true
  | k :: ks, o :: r, h => by
    cases o with
    | none => exact absurd h Bool.false_ne_true
    | some y =>
      cases y with
      | Constant c j p =>
        cases c with
        | str z =>
          have h' : (decide (k = z) && chkKs ks r) = true := h
          rw [Bool.and_eq_true] at h'
          obtain ⟨e1, e2⟩ := chkKs_len h'.2
          exact ⟨by rw [List.length_cons, List.length_cons, e1], by rw [List.all_cons, e2]; rfl⟩
        | _ => exact absurd h Bool.false_ne_true
      | _ => exact absurd h Bool.false_ne_true
theorem s_dict {X : Cx} {F : Fs} {ks : List Str} {es : Es} {keys : List (Option Expr)} {values : List Expr} {pos : Pos} (hk : chkKs ks keys = true) (hl : keys.length = values.length) (h0 : keys ≠ []) (pp : PPs X pos keys values (trsOf X.K F ks es)) :
    Both X F (.Dict keys values pos) (.dict ks es) := by
  obtain ⟨e1, e2⟩ := chkKs_len hk
  refine Both.mk' ⟨fun pins s σ H Q I h => ?_⟩ rfl
  have h15 : keys.length ≤ 15 := by
    obtain ⟨own, ads, ρ, μ, d, μ', _, he, _⟩ := h
    unfold ev at he
    split at he
    · cases he
    · obtain ⟨ds, μ1, _, he⟩ := andThen_some he
      split at he
      · rename_i hh
        rw [← e1]
        exact hh.2.1
      · cases he
  exact (pe_disp pp e2 hl h0 h15).run pins s σ H Q I (dict_read σ H Q h)
/-! ### all expressions -/
section
variable {N fs : List Str} {F : Fs} {n : Nat}
theorem and3 {a b c : Bool} (h : (a && b && c) = true) : a = true ∧ b = true ∧ c = true := by
  rw [Bool.and_eq_true, Bool.and_eq_true] at h
  exact ⟨h.1.1, h.1.2, h.2⟩
theorem and2 {a b : Bool} (h : (a && b) = true) : a = true ∧ b = true := by
  rw [Bool.and_eq_true] at h
  exact h
theorem chkEs_star : ∀ {es : Es} {sc : Scope} {xs : List Expr}, chkEs N fs es sc xs = true → ∀ x ∈ xs, notStar x = true
  | .nil, _, [], _, _, hx => nomatch hx
  | .nil, _, _ :: _, h, _, _ => by cases h
  | .cons _ _, _, [], h, _, _ => by cases h
  | .cons e es, sc, y :: ys, h, x, hx => by
    obtain ⟨h1, h2, h3⟩ := and3 (show (notStar y && chkE N fs e sc y && chkEs N fs es sc ys) = true from h)
    rcases List.mem_cons.mp hx with rfl | hx
    · exact h1
    · exact chkEs_star h3 x hx
theorem chkEs_nil {es : Es} {sc : Scope} (h : chkEs N fs es sc [] = true) : es = .nil := by
  cases es with
  | nil => rfl
  | cons _ _ => cases h
theorem s_lc {sc scope : Scope} {X : Cx} (G : GX N fs F n sc X) {elt : E} {tg : Tg} {it : It} {cond : EO} {x t i : Expr} {ifs : List Expr} {pos : Pos} (hb : blkC N sc scope (ownOf N tg.slots) = true) (hs : notSet i = true) (ht : chkTg N scope tg t = true)
    (hi : ∀ tgx, PI X tgx i (tI X.K F it)) (hc : ∀ X', GX N fs F n scope X' → PTs X' ifs (tC' X'.K F cond)) (he : ∀ X', GX N fs F n scope X' → Both X' F x elt) : Both X F (.ListComp x [⟨t, i, ifs, 0⟩] scope pos) (.lc elt tg it cond) := by
  have nd : ∀ is, tg = .tp is → is.Nodup := fun is e => by
    subst e
    cases t with
    | Tuple es k p =>
      have h' : (chkTs N scope is es && decide is.Nodup) = true := ht
      exact of_decide_eq_true (and2 h').2
    | _ => cases ht
  have core := pe_lc (X := X) (own := ownOf N tg.slots) (g := tTg X.K tg) (tt := tC' X.K F cond) (te := tE X.K F elt) (elt := x) (tg := t) (iter := i) (ifs := ifs) (scope := scope) (pos := pos) G.calm (by rw [G.hN]; exact G.nd) (hi t) (G.blkOk hb)
    (fun s H C cl fp => s_tg G.blk ht) (fun s H C cl fp => hc _ G.blk) (fun s H C cl fp => (he _ G.blk).v) (folded_of hs _)
  rw [own_slots] at core
  exact Both.mk' (PE.imp core (lc_read nd)) rfl
mutual
theorem sE : ∀ (e : E) (sc : Scope) (x : Expr) (X : Cx), GX N fs F n sc X → chkE N fs e sc x = true → Both X F x e
  | .var i, sc, x, X, G, h => by
    cases x with
    | Name y pos => exact s_var G h
    | _ => exact absurd h Bool.false_ne_true
  | .int i, sc, x, X, G, h => by
    cases x with
    | Constant c k pos =>
      cases c with
      | int j =>
        have e : i = j := of_decide_eq_true h
        subst e
        exact s_int
      | _ => exact absurd h Bool.false_ne_true
    | _ => exact absurd h Bool.false_ne_true
  | .bl i, sc, x, X, G, h => by
    cases x with
    | Constant c k pos =>
      cases c with
      | bool j =>
        have e : i = j := of_decide_eq_true h
        subst e
        exact s_bl
      | _ => exact absurd h Bool.false_ne_true
    | _ => exact absurd h Bool.false_ne_true
  | .non, sc, x, X, G, h => by
    cases x with
    | Constant c k pos =>
      cases c with
      | none => exact s_non
      | _ => exact absurd h Bool.false_ne_true
    | _ => exact absurd h Bool.false_ne_true
  | .str i, sc, x, X, G, h => by
    cases x with
    | Constant c k pos =>
      cases c with
      | str j =>
        have e : i = j := of_decide_eq_true h
        subst e
        exact s_str
      | _ => exact absurd h Bool.false_ne_true
    | _ => exact absurd h Bool.false_ne_true
  | .op o a b, sc, x, X, G, h => by
    cases x with
    | BinOp y o' z pos =>
      obtain ⟨h1, h2, h3⟩ := and3 (show (decide (o = o') && chkE N fs a sc y && chkE N fs b sc z) = true from h)
      have e : o = o' := of_decide_eq_true h1
      subst e
      exact s_op (sE a sc y X G h2) (sE b sc z X G h3)
    | _ => exact absurd h Bool.false_ne_true
  | .neg a, sc, x, X, G, h => by
    cases x with
    | UnaryOp o y pos =>
      cases o with
      | USub => exact s_neg (sE a sc y X G h)
      | _ => exact absurd h Bool.false_ne_true
    | _ => exact absurd h Bool.false_ne_true
  | .cmp o a b, sc, x, X, G, h => by
    cases x with
    | Compare y os ys pos =>
      match os, ys, h with
      | [o'], [z], h =>
        obtain ⟨h0, h3⟩ := and2 (show (decide (o = o') && notSet z && chkE N fs a sc y && chkE N fs b sc z) = true from h)
        obtain ⟨h1, h2, h4⟩ := and3 h0
        have e : o = o' := of_decide_eq_true h1
        subst e
        exact s_cmp G (sE a sc y X G h4) (sE b sc z X G h3) h2
      | [], _, h => exact absurd h Bool.false_ne_true
      | [_], [], h => exact absurd h Bool.false_ne_true
      | [_], _ :: _ :: _, h => exact absurd h Bool.false_ne_true
      | _ :: _ :: _, _, h => exact absurd h Bool.false_ne_true
    | _ => exact absurd h Bool.false_ne_true
  | .chn o p a b c, sc, x, X, G, h => by
    cases x with
    | Compare y os ys pos =>
      match os, ys, h with
      | [o', p'], [z, w], h =>
        obtain ⟨h1, h2, h3⟩ := and3 (show (decide (o = o') && decide (p = p') && notSet z && notSet w && chkE N fs a sc y && chkE N fs b sc z && chkE N fs c sc w) = true from h)
        obtain ⟨h4, h5, h6⟩ := and3 h1
        obtain ⟨h7, h8, h9⟩ := and3 h4
        have e : o = o' := of_decide_eq_true h7
        have e2 : p = p' := of_decide_eq_true h8
        subst e e2
        exact s_chn G (sE a sc y X G h6) (sE b sc z X G h2) (sE c sc w X G h3) h5
      | [], _, h => exact absurd h Bool.false_ne_true
      | [_], _, h => exact absurd h Bool.false_ne_true
      | [_, _], [], h => exact absurd h Bool.false_ne_true
      | [_, _], [_], h => exact absurd h Bool.false_ne_true
      | [_, _], _ :: _ :: _ :: _, h => exact absurd h Bool.false_ne_true
      | _ :: _ :: _ :: _, _, h => exact absurd h Bool.false_ne_true
    | _ => exact absurd h Bool.false_ne_true
  | .and a b, sc, x, X, G, h => by
    cases x with
    | BoolOp o ys pos =>
      match o, ys, h with
      | .And, y :: z :: r, h =>
        obtain ⟨h1, h2⟩ := and2 (show (chkE N fs a sc y && (if r.isEmpty then chkE N fs b sc z else chkE N fs b sc (.BoolOp .And (z :: r) pos))) = true from h)
        cases r with
        | nil => exact s_and (sE a sc y X G h1) (.inl ⟨rfl, sE b sc z X G h2⟩)
        | cons u us => exact s_and (sE a sc y X G h1) (.inr ⟨(fun q => by cases q), sE b sc _ X G h2⟩)
      | .Or, _, h => exact absurd h Bool.false_ne_true
      | .And, [], h => exact absurd h Bool.false_ne_true
      | .And, [_], h => exact absurd h Bool.false_ne_true
    | _ => exact absurd h Bool.false_ne_true
  | .or a b, sc, x, X, G, h => by
    cases x with
    | BoolOp o ys pos =>
      match o, ys, h with
      | .Or, y :: z :: r, h =>
        obtain ⟨h1, h2⟩ := and2 (show (chkE N fs a sc y && (if r.isEmpty then chkE N fs b sc z else chkE N fs b sc (.BoolOp .Or (z :: r) pos))) = true from h)
        cases r with
        | nil => exact s_or (sE a sc y X G h1) (.inl ⟨rfl, sE b sc z X G h2⟩)
        | cons u us => exact s_or (sE a sc y X G h1) (.inr ⟨(fun q => by cases q), sE b sc _ X G h2⟩)
      | .And, _, h => exact absurd h Bool.false_ne_true
      | .Or, [], h => exact absurd h Bool.false_ne_true
      | .Or, [_], h => exact absurd h Bool.false_ne_true
    | _ => exact absurd h Bool.false_ne_true
  | .not a, sc, x, X, G, h => by
    cases x with
    | UnaryOp o y pos =>
      cases o with
      | Not => exact s_not (sE a sc y X G h)
      | _ => exact absurd h Bool.false_ne_true
    | _ => exact absurd h Bool.false_ne_true
  | .ife c a b, sc, x, X, G, h => by
    cases x with
    | IfExp z y w pos =>
      obtain ⟨h1, h2, h3⟩ := and3 (show (chkE N fs c sc z && chkE N fs a sc y && chkE N fs b sc w) = true from h)
      exact s_ife (sE c sc z X G h1) (sE a sc y X G h2) (sE b sc w X G h3)
    | _ => exact absurd h Bool.false_ne_true
  | .tup es, sc, x, X, G, h => by
    cases x with
    | Tuple ys k pos => exact s_tup (sEs es sc ys X G h)
    | _ => exact absurd h Bool.false_ne_true
  | .lst es, sc, x, X, G, h => by
    cases x with
    | List ys pos => exact s_lst (sEs es sc ys X G h)
    | _ => exact absurd h Bool.false_ne_true
  | .ix a b, sc, x, X, G, h => by
    cases x with
    | Subscript y z pos =>
      have h' : (notSlice z && chkE N fs a sc y && chkE N fs b sc z) = true := by
        cases z with
        | Slice l u st p2 =>
          exfalso
          cases st with
          | none => exact absurd h Bool.false_ne_true
          | some _ => exact absurd h Bool.false_ne_true
        | _ => exact h
      obtain ⟨h1, h2, h3⟩ := and3 h'
      exact s_ix G (sE a sc y X G h2) (sE b sc z X G h3) h1
    | _ => exact absurd h Bool.false_ne_true
  | .sl a lo hi, sc, x, X, G, h => by
    cases x with
    | Subscript y z pos =>
      cases z with
      | Slice l u st p2 =>
        cases st with
        | none =>
          obtain ⟨h1, h2, h3⟩ := and3 (show (chkE N fs a sc y && chkEO N fs lo sc l && chkEO N fs hi sc u) = true from h)
          exact s_sl (sE a sc y X G h1) (sEO lo sc l X G h2) (sEO hi sc u X G h3)
        | some _ => exact absurd h Bool.false_ne_true
      | _ => exact absurd h Bool.false_ne_true
    | _ => exact absurd h Bool.false_ne_true
  | .call f es, sc, x, X, G, h => by
    cases x with
    | Call y ys ks pos =>
      cases y with
      | Name g p =>
        cases ks with
        | nil =>
          obtain ⟨h0, h4⟩ := and2 (show (decide (fs[f]? = some g) && gloB sc g && !(g == ("__debug__" : Str)) && chkEs N fs es sc ys) = true from h)
          obtain ⟨h1, h2, h3⟩ := and3 h0
          exact s_call G (of_decide_eq_true h1) h2 (by simpa using h3) (chkEs_star h4) (fun e => by subst e; exact chkEs_nil h4) (sEs es sc ys X G h4)
        | cons _ _ => exact absurd h Bool.false_ne_true
      | _ => exact absurd h Bool.false_ne_true
    | _ => exact absurd h Bool.false_ne_true
  | .callB f es, sc, x, X, G, h => by
    cases x with
    | Call y ys ks pos =>
      cases y with
      | Name g p =>
        cases ks with
        | nil =>
          obtain ⟨h00, h5⟩ := and2 (show (decide (fs[f]? = some g) && gloB sc g && !(g == ("__debug__" : Str)) && chkEs N fs es sc ys && !ys.isEmpty) = true from h)
          obtain ⟨h0, h4⟩ := and2 h00
          obtain ⟨h1, h2, h3⟩ := and3 h0
          exact s_callB G (of_decide_eq_true h1) h2 (by simpa using h3) (chkEs_star h4) (fun e => by subst e; cases h5) (sEs es sc ys X G h4)
        | cons _ _ => exact absurd h Bool.false_ne_true
      | _ => exact absurd h Bool.false_ne_true
    | _ => exact absurd h Bool.false_ne_true
  | .bi b es, sc, x, X, G, h => by
    cases x with
    | Call y ys ks pos =>
      cases y with
      | Name g p =>
        cases ks with
        | nil =>
          obtain ⟨h0, h4⟩ := and2 (show (decide (g = b.name) && gloB sc g && !ys.isEmpty && chkEs N fs es sc ys) = true from h)
          obtain ⟨h1, h2, h3⟩ := and3 h0
          cases ys with
          | nil => cases h3
          | cons z zs => exact s_bi G (of_decide_eq_true h1) h2 (chkEs_star h4) (sEs es sc (z :: zs) X G h4)
        | cons _ _ => exact absurd h Bool.false_ne_true
      | _ => exact absurd h Bool.false_ne_true
    | _ => exact absurd h Bool.false_ne_true
  | .isi a t, sc, x, X, G, h => by
    cases x with
    | Call y ys ks pos =>
      cases y with
      | Name g p =>
        cases ks with
        | nil =>
          match ys, h with
          | [], h => exact absurd h Bool.false_ne_true
          | [_], h => exact absurd h Bool.false_ne_true
          | _ :: w :: _ :: _, h => cases w <;> exact absurd h Bool.false_ne_true
          | [z, w], h =>
            cases w with
            | Name k p2 =>
              obtain ⟨h1, h2, h3⟩ := and3 (show (decide (g = "isinstance") && gloB sc g && decide (k = t.py) && gloB sc k && notStar z && chkE N fs a sc z) = true from h)
              obtain ⟨h4, h5, h6⟩ := and3 h1
              obtain ⟨h7, h8⟩ := and2 h4
              have e : g = "isinstance" := of_decide_eq_true h7
              have e2 : k = t.py := of_decide_eq_true h5
              subst e e2
              exact s_isi G h8 h6 h2 (sE a sc z X G h3)
            | _ => exact absurd h Bool.false_ne_true
        | cons _ _ => (rcases ys with _ | ⟨a1, _ | ⟨a2, _ | ⟨a3, r⟩⟩⟩ <;> first | exact absurd h Bool.false_ne_true | (cases a2 <;> exact absurd h Bool.false_ne_true))
      | _ => exact absurd h Bool.false_ne_true
    | _ => exact absurd h Bool.false_ne_true
  | .me m o es, sc, x, X, G, h => by
    cases x with
    | Call y ys ks pos =>
      cases y with
      | Attribute z g apos =>
        cases ks with
        | nil =>
          obtain ⟨h1, h2, h3⟩ := and3 (show (decide (g = m.name) && (apos.endLine == pos.line) && baseOk z && chkE N fs o sc z && m.arOk ys && chkEs N fs es sc ys) = true from h)
          obtain ⟨h4, h5, h6⟩ := and3 h1
          obtain ⟨h7, h8⟩ := and2 h4
          have e : g = m.name := of_decide_eq_true h7
          subst e
          cases m with
          | bits =>
            cases ys with
            | nil =>
              obtain rfl := chkEs_nil h3
              exact s_bits (sE o sc z X G h6) h5 h8
            | cons _ _ => cases h2
          | partition =>
            clear h h1 h4 h7
            match ys, h2, h3 with
            | [w], h2, h3 => exact s_partition (sE o sc z X G h6) (sEs es sc [w] X G h3) (chkEs_star h3 w List.mem_cons_self) h5 h8
            | [], h2, h3 => cases h2
            | _ :: _ :: _, h2, h3 => cases h2
          | join =>
            clear h h1 h4 h7
            match ys, h2, h3 with
            | [w], h2, h3 => exact s_join (sE o sc z X G h6) (sEs es sc [w] X G h3) (chkEs_star h3 w List.mem_cons_self) h5 h8
            | [], h2, h3 => cases h2
            | _ :: _ :: _, h2, h3 => cases h2
        | cons _ _ => exact absurd h Bool.false_ne_true
      | _ => exact absurd h Bool.false_ne_true
    | _ => exact absurd h Bool.false_ne_true
  | .lc elt tg it cond, sc, x, X, G, h => by
    cases x with
    | ListComp y gs scope pos =>
      match gs, h with
      | [⟨t, i, ifs, k⟩], h =>
        obtain ⟨h1, h2, h3⟩ := and3 (show (decide (k = 0) && blkC N sc scope (ownOf N tg.slots) && notSet i && chkTg N scope tg t && chkIt N fs it sc i && chkC N fs cond scope ifs && chkE N fs elt scope y) = true from h)
        obtain ⟨h4, h5, h6⟩ := and3 h1
        obtain ⟨h7, h8, h9⟩ := and3 h4
        have e : k = 0 := of_decide_eq_true h7
        subst e
        exact s_lc G h8 h9 h5 (fun tgx => sIt it sc i X tgx G h6) (fun X' G' => sC cond scope ifs X' G' h2) (fun X' G' => sE elt scope y X' G' h3)
      | [], h => exact absurd h Bool.false_ne_true
      | ⟨_, _, _, _⟩ :: _ :: _, h => exact absurd h Bool.false_ne_true
    | _ => exact absurd h Bool.false_ne_true
  | .dict ks es, sc, x, X, G, h => by
    cases x with
    | Dict keys values pos =>
      obtain ⟨h0, h4⟩ := and2 (show (chkKs ks keys && decide (keys.length = values.length) && !keys.isEmpty && chkEs N fs es sc values) = true from h)
      obtain ⟨h1, h2, h3⟩ := and3 h0
      have hl : keys.length = values.length := of_decide_eq_true h2
      have pp := sPP es ks sc keys values X pos G h1 h4 hl
      exact s_dict h1 hl (by intro e; subst e; cases h3) pp
    | _ => exact absurd h Bool.false_ne_true
theorem sPP : ∀ (es : Es) (ks : List Str) (sc : Scope) (keys : List (Option Expr)) (values : List Expr) (X : Cx) (pos : Pos), GX N fs F n sc X → chkKs ks keys = true → chkEs N fs es sc values = true → keys.length = values.length → PPs X pos keys values (trsOf X.K F ks es)
  | es, [], sc, [], [], X, pos, _, _, _, _ => by
    cases es <;> exact pps_nil
  | _, [], _, _ :: _, _, _, _, _, h, _, _ => absurd h Bool.false_ne_true
  | _, [], _, [], _ :: _, _, _, _, _, _, h => by cases h
  | _, _ :: _, _, [], _, _, _, _, h, _, _ => absurd h Bool.false_ne_true
  | .nil, _ :: _, _, _ :: _, [], _, _, _, _, _, h => by cases h
  | .nil, _ :: _, _, _ :: _, _ :: _, _, _, _, _, h, _ => absurd h Bool.false_ne_true
  | .cons e es, _ :: _, _, _ :: _, [], _, _, _, _, _, h => by cases h
  | .cons e es, k :: ks, sc, o :: keys, v :: values, X, pos, G, h1, h2, h3 => by
    obtain ⟨g1, g2, g3⟩ := and3 (show (notStar v && chkE N fs e sc v && chkEs N fs es sc values) = true from h2)
    cases o with
    | none => exact absurd h1 Bool.false_ne_true
    | some y =>
      cases y with
      | Constant c j p =>
        cases c with
        | str z =>
          obtain ⟨m1, m2⟩ := and2 (show (decide (k = z) && chkKs ks keys) = true from h1)
          have ek : k = z := of_decide_eq_true m1
          subst ek
          exact pps_cons pe_str (sE e sc v X G g2).v (sPP es ks sc keys values X pos G m2 g3 (by simpa using h3))
        | _ => exact absurd h1 Bool.false_ne_true
      | _ => exact absurd h1 Bool.false_ne_true
theorem sEs : ∀ (es : Es) (sc : Scope) (xs : List Expr) (X : Cx), GX N fs F n sc X → chkEs N fs es sc xs = true → PA X xs (tEs X.K F es)
  | .nil, sc, [], X, G, h => s_nil
  | .nil, sc, _ :: _, X, G, h => absurd h Bool.false_ne_true
  | .cons e es, sc, [], X, G, h => absurd h Bool.false_ne_true
  | .cons e es, sc, x :: xs, X, G, h => by
    obtain ⟨h1, h2, h3⟩ := and3 (show (notStar x && chkE N fs e sc x && chkEs N fs es sc xs) = true from h)
    exact s_cons (sE e sc x X G h2) (sEs es sc xs X G h3) h1
theorem sEO : ∀ (e : EO) (sc : Scope) (x : Option Expr) (X : Cx), GX N fs F n sc X → chkEO N fs e sc x = true → PO X x (tEO X.K F e)
  | .none, sc, none, X, G, h => s_onone
  | .none, sc, some _, X, G, h => absurd h Bool.false_ne_true
  | .some e, sc, none, X, G, h => absurd h Bool.false_ne_true
  | .some e, sc, some x, X, G, h => s_osome (sE e sc x X G h)
theorem sC : ∀ (e : EO) (sc : Scope) (x : List Expr) (X : Cx), GX N fs F n sc X → chkC N fs e sc x = true → PTs X x (tC' X.K F e)
  | .none, sc, [], X, G, h => s_cnone
  | .none, sc, _ :: _, X, G, h => absurd h Bool.false_ne_true
  | .some e, sc, [], X, G, h => absurd h Bool.false_ne_true
  | .some e, sc, [x], X, G, h => s_csome (sE e sc x X G h)
  | .some e, sc, _ :: _ :: _, X, G, h => absurd h Bool.false_ne_true
theorem sIt : ∀ (it : It) (sc : Scope) (x : Expr) (X : Cx) (tgx : Expr), GX N fs F n sc X → chkIt N fs it sc x = true → PI X tgx x (tI X.K F it)
  | .seq e, sc, x, X, tgx, G, h => s_iseq (sE e sc x X G h)
  | .rng1 a, sc, x, X, tgx, G, h => by
    cases x with
    | Call y ys ks pos =>
      cases y with
      | Name g p =>
        cases ks with
        | nil =>
          match ys, h with
          | [], h => exact absurd h Bool.false_ne_true
          | _ :: _ :: _, h => exact absurd h Bool.false_ne_true
          | [z], h =>
            obtain ⟨h0, h4⟩ := and2 (show (decide (g = "range") && gloB sc g && notStar z && chkE N fs a sc z) = true from h)
            obtain ⟨h1, h2, h3⟩ := and3 h0
            have e : g = "range" := of_decide_eq_true h1
            subst e
            exact s_rng1 G h2 h3 (sE a sc z X G h4)
        | cons _ _ => (rcases ys with _ | ⟨a1, _ | ⟨a2, _ | ⟨a3, r⟩⟩⟩ <;> first | exact absurd h Bool.false_ne_true | (cases a2 <;> exact absurd h Bool.false_ne_true))
      | _ => exact absurd h Bool.false_ne_true
    | _ => exact absurd h Bool.false_ne_true
  | .rng2 a b, sc, x, X, tgx, G, h => by
    cases x with
    | Call y ys ks pos =>
      cases y with
      | Name g p =>
        cases ks with
        | nil =>
          match ys, h with
          | [], h => exact absurd h Bool.false_ne_true
          | [_], h => exact absurd h Bool.false_ne_true
          | _ :: _ :: _ :: _, h => exact absurd h Bool.false_ne_true
          | [z, w], h =>
            obtain ⟨h0, h4, h5⟩ := and3 (show (decide (g = "range") && gloB sc g && notStar z && notStar w && chkE N fs a sc z && chkE N fs b sc w) = true from h)
            obtain ⟨h6, h2, h3⟩ := and3 h0
            obtain ⟨h1, h7⟩ := and2 h6
            have e : g = "range" := of_decide_eq_true h1
            subst e
            exact s_rng2 G h7 h2 h3 (sE a sc z X G h4) (sE b sc w X G h5)
        | cons _ _ => (rcases ys with _ | ⟨a1, _ | ⟨a2, _ | ⟨a3, r⟩⟩⟩ <;> first | exact absurd h Bool.false_ne_true | (cases a2 <;> exact absurd h Bool.false_ne_true))
      | _ => exact absurd h Bool.false_ne_true
    | _ => exact absurd h Bool.false_ne_true
  | .rng3 a b c, sc, x, X, tgx, G, h => by
    cases x with
    | Call y ys ks pos =>
      cases y with
      | Name g p =>
        cases ks with
        | nil =>
          match ys, h with
          | [], h => exact absurd h Bool.false_ne_true
          | [_], h => exact absurd h Bool.false_ne_true
          | [_, _], h => exact absurd h Bool.false_ne_true
          | _ :: _ :: _ :: _ :: _, h => exact absurd h Bool.false_ne_true
          | [z, w, o], h =>
            obtain ⟨h0, h4, h5⟩ := and3 (show (decide (g = "range") && gloB sc g && notStar z && notStar w && notStar o && chkE N fs a sc z && chkE N fs b sc w && chkE N fs c sc o) = true from h)
            obtain ⟨h6, h8, h9⟩ := and3 h0
            obtain ⟨h10, h2, h3⟩ := and3 h6
            obtain ⟨h1, h7⟩ := and2 h10
            have e : g = "range" := of_decide_eq_true h1
            subst e
            exact s_rng3 G h7 h2 h3 h8 (sE a sc z X G h9) (sE b sc w X G h4) (sE c sc o X G h5)
        | cons _ _ => (rcases ys with _ | ⟨a1, _ | ⟨a2, _ | ⟨a3, _ | ⟨a4, r⟩⟩⟩⟩ <;> first | exact absurd h Bool.false_ne_true | (cases a2 <;> first | exact absurd h Bool.false_ne_true | (cases a3 <;> exact absurd h Bool.false_ne_true)))
      | _ => exact absurd h Bool.false_ne_true
    | _ => exact absurd h Bool.false_ne_true
end
end
end FM

set_option Elab.async false
set_option linter.all false
set_option maxRecDepth 100000
set_option maxHeartbeats 4000000
/-! Ev12: statements. -/
namespace FM
open PySem PySem.Spec PyProof.Rows L2

/-! ### the frame -/
/-- what the frame's slots own, and what was own ahead of the call -/
def ownF (own0 : Addr → Prop) (σ : L2.St) (ρ : Env) : Addr → Prop := fun b => own0 b ∨ ∃ (i : Nat) (ds : List D), ρ[i]? = some (some (Sl.ow ds)) ∧ σ[i]? = some (some (V.ref b))
/-- what a def's body keeps: base: the state at its entry; pn, pa: what a loop around wants kept -/
structure Base where
  own0 : Addr → Prop
  ads0 : List Addr
  H0 : Hp
  pn : Addr → HO → Prop
  pa : List Addr
structure FI (K : PySem.W.Frag) (B : Base) (ads : List Addr) (H : Hp) (σ : L2.St) (ρ : Env) (μ : Cells) : Prop where
  hold : Hold K (ownF B.own0 σ ρ) ads H σ ρ μ
  ext : Ext B.ads0 B.H0 ads H
  dist : ∀ (i j : Nat) (ds es : List D) (b : Addr), ρ[i]? = some (some (Sl.ow ds)) → ρ[j]? = some (some (Sl.ow es)) → σ[i]? = some (some (V.ref b)) → σ[j]? = some (some (V.ref b)) → i = j
  new : ∀ (i : Nat) (ds : List D) (b : Addr), ρ[i]? = some (some (Sl.ow ds)) → σ[i]? = some (some (V.ref b)) → B.H0 b = none
  own0T : ∀ b, B.own0 b → ∃ o, B.H0 b = some o
  pin : ∀ b o, B.pn b o → H b = some o ∧ ¬ Zo (ownF B.own0 σ ρ) ads b
  pre : ∀ (k : Nat) (a : Addr), B.pa[k]? = some a → ads[k]? = some a
section
variable {K : PySem.W.Frag} {B : Base} {ads ads' : List Addr} {H H' : Hp} {σ : L2.St} {ρ : Env} {μ μ' : Cells}
/-- behind an expression -/
theorem FI.step (f : FI K B ads H σ ρ μ) (e : Ext ads H ads' H') (h : Hold K (ownF B.own0 σ ρ) ads' H' σ ρ μ') : FI K B ads' H' σ ρ μ' where
  hold := h
  ext := f.ext.trans e
  dist := f.dist
  new := f.new
  own0T := f.own0T
  pin := fun b o p => by
    obtain ⟨h1, h2⟩ := f.pin b o p
    exact ⟨e.keep b o h1 fun m => h2 (.inr m), e.stay.free b o h1 h2⟩
  pre := fun k a q => e.pre k a (f.pre k a q)
theorem ownF_set {own0 : Addr → Prop} {i : Nat} {v : Option V} {d : D} {b : Addr} (h : ownF own0 (σ.set i v) (ρ.set i (some (.pl d))) b) : ownF own0 σ ρ b := by
  rcases h with h | ⟨j, ds, h1, h2⟩
  · exact .inl h
  · by_cases hj : i = j
    · subst hj
      rw [List.getElem?_set] at h1
      simp at h1
    · rw [List.getElem?_set_ne hj] at h1 h2
      exact .inr ⟨j, ds, h1, h2⟩
theorem ownF_set' {own0 : Addr → Prop} {i : Nat} {d : D} {b : Addr} (h : ownF own0 σ (ρ.set i (some (.pl d))) b) : ownF own0 σ ρ b := by
  rcases h with h | ⟨j, ds, h1, h2⟩
  · exact .inl h
  · by_cases hj : i = j
    · subst hj
      rw [List.getElem?_set] at h1
      simp at h1
    · rw [List.getElem?_set_ne hj] at h1
      exact .inr ⟨j, ds, h1, h2⟩
theorem set_ow {i j : Nat} {d : D} {ds : List D} (h : (ρ.set i (some (Sl.pl d)))[j]? = some (some (Sl.ow ds))) : i ≠ j ∧ ρ[j]? = some (some (Sl.ow ds)) := by
  by_cases hj : i = j
  · subst hj
    rw [List.getElem?_set] at h
    simp at h
  · rw [List.getElem?_set_ne hj] at h
    exact ⟨hj, h⟩
/-- the environment, seen with fewer own lists -/
theorem Hold.anti {own own' : Addr → Prop} (h : ∀ b, own' b → own b) (k : ∀ (i : Nat) (ds : List D) (b : Addr), ρ[i]? = some (some (Sl.ow ds)) → σ[i]? = some (some (V.ref b)) → own' b) (x : Hold K own ads H σ ρ μ) : Hold K own' ads H σ ρ μ := by
  refine ⟨fun i s e => ?_, x.c.anti h, x.len⟩
  obtain ⟨v, h1, h2⟩ := x.e i s e
  refine ⟨v, h1, h2.anti h fun ds e1 a e2 => ?_⟩
  subst e1 e2
  exact k i ds a e h1
/-- a plain datum is stored -/
theorem FI.setPl {i : Nat} {v : V} {d : D} (f : FI K B ads H σ ρ μ) (r : Rep K (Zo (ownF B.own0 σ ρ) ads) ads H v d) : FI K B ads H (σ.set i (some v)) (ρ.set i (some (.pl d))) μ where
  hold := (f.hold.set r).anti (fun b h => ownF_set h) fun j ds b h1 h2 => .inr ⟨j, ds, h1, h2⟩
  ext := f.ext
  dist := fun j k ds es b h1 h2 h3 h4 => by
    obtain ⟨n1, g1⟩ := set_ow h1
    obtain ⟨n2, g2⟩ := set_ow h2
    rw [List.getElem?_set_ne n1] at h3
    rw [List.getElem?_set_ne n2] at h4
    exact f.dist j k ds es b g1 g2 h3 h4
  new := fun j ds b h1 h2 => by
    obtain ⟨n1, g1⟩ := set_ow h1
    rw [List.getElem?_set_ne n1] at h2
    exact f.new j ds b g1 h2
  own0T := f.own0T
  pin := fun b o p => by
    obtain ⟨h1, h2⟩ := f.pin b o p
    exact ⟨h1, fun z => h2 (z.elim (fun z => .inl (ownF_set z)) .inr)⟩
  pre := f.pre
/-- an owned list is let go: it is plain from now on -/
theorem FI.frz {i : Nat} {ds : List D} (f : FI K B ads H σ ρ μ) (hi : ρ[i]? = some (some (Sl.ow ds))) : FI K B ads H σ (ρ.set i (some (.pl (.lst ds)))) μ := by
  obtain ⟨v, e1, a, xs, e2, e3, e4, e5⟩ := f.hold.e i _ hi
  subst e2
  have fewer : ∀ b, ownF B.own0 σ (ρ.set i (some (.pl (.lst ds)))) b → ownF B.own0 σ ρ b := fun b h => ownF_set' h
  have na : ¬ Zo (ownF B.own0 σ (ρ.set i (some (.pl (.lst ds))))) ads a := by
    intro z
    rcases z with (z | ⟨j, es, z1, z2⟩) | z
    · obtain ⟨o, z1⟩ := f.own0T a z
      rw [f.new i ds a hi e1] at z1
      cases z1
    · obtain ⟨n1, g1⟩ := set_ow z1
      exact n1 (f.dist i j ds es a hi g1 e1 z2)
    · exact f.hold.c.dis a z e4
  refine ⟨?_, f.ext, fun j k ds es b h1 h2 h3 h4 => ?_, fun j ds b h1 h2 => ?_, f.own0T, fun b o p => ?_, f.pre⟩
  · refine ⟨fun j s e => ?_, f.hold.c.anti fewer, by rw [List.length_set]; exact f.hold.len⟩
    by_cases hj : i = j
    · subst hj
      have hl := (List.getElem?_eq_some_iff.mp hi).1
      rw [List.getElem?_set_self hl] at e
      cases e
      exact ⟨_, e1, .lst (.inl ⟨.inl e3, na⟩) (RepL.stay (antiOwn (K := K) fewer) _ _ e5)⟩
    · rw [List.getElem?_set_ne hj] at e
      obtain ⟨w, g1, g2⟩ := f.hold.e j s e
      refine ⟨w, g1, g2.anti fewer fun es e1 a e2 => ?_⟩
      subst e1 e2
      exact .inr ⟨j, es, by rw [List.getElem?_set_ne hj]; exact e, g1⟩
  · exact f.dist j k ds es b (set_ow h1).2 (set_ow h2).2 h3 h4
  · exact f.new j ds b (set_ow h1).2 h2
  · obtain ⟨h1, h2⟩ := f.pin b o p
    exact ⟨h1, fun z => h2 (z.elim (fun z => .inl (fewer _ z)) .inr)⟩
/-- a new list of one's own -/
theorem FI.own {i : Nat} {p : Addr} (f : FI K B ads H σ ρ μ) (hp : H p = none) (hi : isOw ρ i = false) : FI K B ads (upd H p (.lst [])) (σ.set i (some (.ref p))) (ρ.set i (some (.ow []))) μ := by
  have hp0 : B.H0 p = none := by
    cases q : B.H0 p with
    | none => rfl
    | some o => obtain ⟨o', q'⟩ := f.ext.there p o q; rw [hp] at q'; cases q'
  have not : ∀ (j : Nat) (ds : List D), ρ[j]? = some (some (Sl.ow ds)) → i ≠ j := fun j ds e z => by
    subst z
    unfold isOw at hi
    rw [e] at hi
    cases hi
  have notp : ∀ (j : Nat) (ds : List D), ρ[j]? = some (some (Sl.ow ds)) → σ[j]? ≠ some (some (V.ref p)) := fun j ds e z => by
    obtain ⟨v, e1, a, xs, e2, e3, _⟩ := f.hold.e j _ e
    rw [z] at e1
    cases e1
    cases e2
    rw [hp] at e3
    cases e3
  have look : ∀ {j : Nat} {ds : List D}, (ρ.set i (some (Sl.ow [])))[j]? = some (some (Sl.ow ds)) → (i = j ∧ ds = [] ∧ j < ρ.length) ∨ (i ≠ j ∧ ρ[j]? = some (some (Sl.ow ds))) := fun {j ds} e => by
    by_cases hj : i = j
    · subst hj
      have hl := (List.getElem?_eq_some_iff.mp e).1
      rw [List.length_set] at hl
      rw [List.getElem?_set_self hl] at e
      cases e
      exact .inl ⟨rfl, rfl, hl⟩
    · rw [List.getElem?_set_ne hj] at e
      exact .inr ⟨hj, e⟩
  have fewer : ∀ b, ownF B.own0 (σ.set i (some (V.ref p))) (ρ.set i (some (Sl.ow []))) b → plusOwn (ownF B.own0 σ ρ) p b := fun b h => by
    rcases h with h | ⟨j, ds, h1, h2⟩
    · exact .inl (.inl h)
    · rcases look h1 with ⟨e1, _, hl⟩ | ⟨e1, e2⟩
      · subst e1
        rw [List.getElem?_set_self (by rw [← f.hold.len]; exact hl)] at h2
        cases h2
        exact .inr rfl
      · rw [List.getElem?_set_ne e1] at h2
        exact .inl (.inr ⟨j, ds, e2, h2⟩)
  have hh := f.hold.plus (p := p) (o := .lst []) hp True.intro
  refine ⟨?_, f.ext.trans (.fresh hp), fun j k ds es b h1 h2 h3 h4 => ?_, fun j ds b h1 h2 => ?_, f.own0T, fun b o q => ?_, f.pre⟩
  · refine ⟨fun j s e => ?_, hh.c.anti fewer, by rw [List.length_set, List.length_set]; exact f.hold.len⟩
    by_cases hj : i = j
    · subst hj
      have hl := (List.getElem?_eq_some_iff.mp e).1
      rw [List.length_set] at hl
      rw [List.getElem?_set_self hl] at e
      cases e
      exact ⟨_, List.getElem?_set_self (by rw [← f.hold.len]; exact hl), p, [], rfl, upd_same, .inr ⟨i, [], List.getElem?_set_self hl, List.getElem?_set_self (by rw [← f.hold.len]; exact hl)⟩, .nil⟩
    · rw [List.getElem?_set_ne hj] at e
      obtain ⟨w, g1, g2⟩ := hh.e j s e
      refine ⟨w, by rw [List.getElem?_set_ne hj]; exact g1, g2.anti fewer fun es e1 a e2 => ?_⟩
      subst e1 e2
      exact .inr ⟨j, es, by rw [List.getElem?_set_ne hj]; exact e, by rw [List.getElem?_set_ne hj]; exact g1⟩
  · rcases look h1 with ⟨a1, _, l1⟩ | ⟨a1, a2⟩
    · subst a1
      rw [List.getElem?_set_self (by rw [← f.hold.len]; exact l1)] at h3
      cases h3
      rcases look h2 with ⟨b1, _, _⟩ | ⟨b1, b2⟩
      · exact b1
      · rw [List.getElem?_set_ne b1] at h4
        exact absurd h4 (notp k es b2)
    · rw [List.getElem?_set_ne a1] at h3
      rcases look h2 with ⟨b1, _, l2⟩ | ⟨b1, b2⟩
      · subst b1
        rw [List.getElem?_set_self (by rw [← f.hold.len]; exact l2)] at h4
        cases h4
        exact absurd h3 (notp j ds a2)
      · rw [List.getElem?_set_ne b1] at h4
        exact f.dist j k ds es b a2 b2 h3 h4
  · rcases look h1 with ⟨a1, _, l1⟩ | ⟨a1, a2⟩
    · subst a1
      rw [List.getElem?_set_self (by rw [← f.hold.len]; exact l1)] at h2
      cases h2
      exact hp0
    · rw [List.getElem?_set_ne a1] at h2
      exact f.new j ds b a2 h2
  · obtain ⟨h1, h2⟩ := f.pin b o q
    have ne : b ≠ p := ne_of_none h1 hp
    refine ⟨by rw [upd_ne ne]; exact h1, fun z => ?_⟩
    rcases z with z | z
    · rcases fewer b z with z | z
      · exact h2 (.inl z)
      · exact ne z
    · exact h2 (.inr z)
/-- a list of one's own with new items -/
theorem FI.wr {i : Nat} {a : Addr} {ds en : List D} {xs ys : List V} (f : FI K B ads H σ ρ μ) (hi : ρ[i]? = some (some (Sl.ow ds))) (hs : σ[i]? = some (some (V.ref a))) (ha : H a = some (.lst xs)) (hl : RepL K (Zo (ownF B.own0 σ ρ) ads) ads H ys en) :
    FI K B ads (upd H a (.lst ys)) σ (ρ.set i (some (.ow en))) μ := by
  have own : ownF B.own0 σ ρ a := .inr ⟨i, ds, hi, hs⟩
  have hlen := (List.getElem?_eq_some_iff.mp hi).1
  have look : ∀ {j : Nat} {es : List D}, (ρ.set i (some (Sl.ow en)))[j]? = some (some (Sl.ow es)) → ∃ es', ρ[j]? = some (some (Sl.ow es')) := fun {j es} e => by
    by_cases hj : i = j
    · subst hj
      exact ⟨ds, hi⟩
    · rw [List.getElem?_set_ne hj] at e
      exact ⟨es, e⟩
  have same : ∀ b, ownF B.own0 σ (ρ.set i (some (Sl.ow en))) b → ownF B.own0 σ ρ b := fun b h => by
    rcases h with h | ⟨j, es, h1, h2⟩
    · exact .inl h
    · obtain ⟨es', e⟩ := look h1
      exact .inr ⟨j, es', e, h2⟩
  have back : ∀ (j : Nat) (es : List D) (b : Addr), ρ[j]? = some (some (Sl.ow es)) → σ[j]? = some (some (V.ref b)) → ownF B.own0 σ (ρ.set i (some (Sl.ow en))) b := fun j es b e1 e2 => by
    by_cases hj : i = j
    · subst hj
      exact .inr ⟨i, _, List.getElem?_set_self hlen, e2⟩
    · exact .inr ⟨j, es, by rw [List.getElem?_set_ne hj]; exact e1, e2⟩
  have e0 : ∀ b o, B.H0 b = some o → b ≠ a := fun b o e z => by
    subst z
    rw [f.new i ds b hi hs] at e
    cases e
  refine ⟨?_, ⟨fun b o e m => ?_, fun b o e => ?_, f.ext.new, f.ext.pre⟩, fun j k es gs b h1 h2 h3 h4 => ?_, fun j es b h1 h2 => ?_, f.own0T, fun b o q => ?_, f.pre⟩
  · refine ⟨fun j s e => ?_, ⟨f.hold.c.len, f.hold.c.nd, fun k b e => ?_, fun b m z => f.hold.c.dis b m (same _ z), fun b z => ?_⟩, by rw [List.length_set]; exact f.hold.len⟩
    · by_cases hj : i = j
      · subst hj
        rw [List.getElem?_set_self hlen] at e
        cases e
        refine ⟨_, hs, a, ys, rfl, upd_same, back i ds a hi hs, ?_⟩
        exact RepL.stay (antiOwn (K := K) same) _ _ (RepL.stay (stayWrite own) _ _ hl)
      · rw [List.getElem?_set_ne hj] at e
        obtain ⟨w, g1, g2⟩ := f.hold.e j s e
        refine ⟨w, g1, ?_⟩
        cases s with
        | pl d' => exact Rep.stay (antiOwn (K := K) same) _ _ (Rep.stay (stayWrite own) _ _ g2)
        | ow es =>
          obtain ⟨a', zs, f1, f2, f3, f4⟩ := g2
          subst f1
          have ne : a' ≠ a := fun z => hj (f.dist i j ds es a hi e hs (z ▸ g1))
          exact ⟨a', zs, rfl, by rw [upd_ne ne]; exact f2, back j es a' e g1, RepL.stay (antiOwn (K := K) same) _ _ (RepL.stay (stayWrite own) _ _ f4)⟩
    · obtain ⟨kvs, kds, g1, g2, g3⟩ := f.hold.c.at k b e
      have ne : b ≠ a := fun z => f.hold.c.dis b (List.mem_of_getElem? e) (z ▸ own)
      exact ⟨kvs, kds, g1, by rw [upd_ne ne]; exact g2, (g3.stay (stayWrite own)).stay (antiOwn (K := K) same)⟩
    · by_cases hb : b = a
      · subst hb
        exact ⟨_, upd_same, True.intro⟩
      · obtain ⟨o, g1, g2⟩ := f.hold.c.ownT b (same _ z)
        exact ⟨o, by rw [upd_ne hb]; exact g1, g2⟩
  · rw [upd_ne (e0 b o e)]
    exact f.ext.keep b o e m
  · rw [upd_ne (e0 b o e)]
    exact f.ext.there b o e
  · obtain ⟨es', g1⟩ := look h1
    obtain ⟨gs', g2⟩ := look h2
    exact f.dist j k es' gs' b g1 g2 h3 h4
  · obtain ⟨es', g1⟩ := look h1
    exact f.new j es' b g1 h2
  · obtain ⟨h1, h2⟩ := f.pin b o q
    have ne : b ≠ a := fun z => h2 (.inl (z ▸ own))
    exact ⟨by rw [upd_ne ne]; exact h1, fun z => h2 (z.elim (fun z => .inl (same _ z)) .inr)⟩
/-- an item appended to a list of one's own -/
theorem FI.app {i : Nat} {a : Addr} {ds : List D} {xs : List V} {v : V} {d : D} (f : FI K B ads H σ ρ μ) (hi : ρ[i]? = some (some (Sl.ow ds))) (hs : σ[i]? = some (some (V.ref a))) (ha : H a = some (.lst xs)) (hl : RepL K (Zo (ownF B.own0 σ ρ) ads) ads H xs ds) (r : Rep K (Zo (ownF B.own0 σ ρ) ads) ads H v d) :
    FI K B ads (upd H a (.lst (xs ++ [v]))) σ (ρ.set i (some (.ow (ds ++ [d])))) μ := f.wr hi hs ha (hl.append (.cons r .nil))
theorem stayCell {own : Addr → Prop} {p : Addr} {o : HO} (h : p ∈ ads) : Stay (Zo own ads) (Zo own ads) ads ads H (upd H p o) :=
  ⟨fun b u e z => by
    have ne : b ≠ p := by rintro rfl; exact z (.inr h)
    rw [upd_ne ne]; exact e, fun _ _ _ z => z, fun _ _ e => e⟩
theorem ix_inj {N : List Addr} (hN : N.Nodup) {i j : Nat} {x : Addr} (a : N[i]? = some x) (b : N[j]? = some x) : i = j := by
  obtain ⟨h1, e1⟩ := List.getElem?_eq_some_iff.mp a
  obtain ⟨h2, e2⟩ := List.getElem?_eq_some_iff.mp b
  exact (List.getElem_inj hN).mp (e1.trans e2.symm)
/-- a cell is changed -/
theorem FI.cell {n : Nat} {a : Addr} {c : Cell} {kvs : List (Key × V)} (f : FI K B ads H σ ρ μ) (ha : ads[n]? = some a) (hk : RepKV K (Zo (ownF B.own0 σ ρ) ads) ads H kvs c) : FI K B ads (upd H a (.dK kvs)) σ ρ (μ.set n c) := by
  have mem := List.mem_of_getElem? ha
  obtain ⟨kv0, kd0, k1, k2, k3⟩ := f.hold.c.at n a ha
  have hn : n < μ.length := (List.getElem?_eq_some_iff.mp k1).1
  refine ⟨⟨fun i s e => ?_, ⟨by rw [List.length_set]; exact f.hold.c.len, f.hold.c.nd, fun k b e => ?_, f.hold.c.dis, fun b z => ?_⟩, f.hold.len⟩, ⟨fun b o e m => ?_, fun b o e => ?_, f.ext.new, f.ext.pre⟩, f.dist, f.new, f.own0T, fun b o q => ?_, f.pre⟩
  · obtain ⟨v, h1, h2⟩ := f.hold.e i s e
    refine ⟨v, h1, ?_⟩
    cases s with
    | pl d => exact Rep.stay (stayCell mem) _ _ h2
    | ow ds =>
      obtain ⟨b, zs, f1, f2, f3, f4⟩ := h2
      have ne : b ≠ a := fun z => f.hold.c.dis a mem (z ▸ f3)
      exact ⟨b, zs, f1, by rw [upd_ne ne]; exact f2, f3, RepL.stay (stayCell mem) _ _ f4⟩
  · by_cases hb : k = n
    · subst hb
      rw [ha] at e
      cases e
      exact ⟨kvs, c, List.getElem?_set_self hn, upd_same, hk.stay (stayCell mem)⟩
    · obtain ⟨kv, kd, g1, g2, g3⟩ := f.hold.c.at k b e
      have ne : b ≠ a := fun z => hb (ix_inj f.hold.c.nd e (z ▸ ha))
      exact ⟨kv, kd, by rw [List.getElem?_set_ne (Ne.symm hb)]; exact g1, by rw [upd_ne ne]; exact g2, g3.stay (stayCell mem)⟩
  · obtain ⟨o, g1, g2⟩ := f.hold.c.ownT b z
    have ne : b ≠ a := fun w => f.hold.c.dis a mem (w ▸ z)
    exact ⟨o, by rw [upd_ne ne]; exact g1, g2⟩
  · by_cases hb : b = a
    · subst hb
      rcases f.ext.new b mem with z | z
      · exact absurd z m
      · rw [z] at e; cases e
    · rw [upd_ne hb]
      exact f.ext.keep b o e m
  · by_cases hb : b = a
    · subst hb
      exact ⟨_, upd_same⟩
    · rw [upd_ne hb]
      exact f.ext.there b o e
  · obtain ⟨h1, h2⟩ := f.pin b o q
    have ne : b ≠ a := fun z => h2 (.inr (z ▸ mem))
    exact ⟨by rw [upd_ne ne]; exact h1, h2⟩
end
end FM

set_option Elab.async false
set_option linter.all false
set_option maxRecDepth 100000
set_option maxHeartbeats 4000000
/-! Ev13: the look at statements; every statement sound. -/
namespace FM
open PySem PySem.Spec PyProof.Rows L2

/-! ### the look -/
def isComp : Expr → Bool
  | .ListComp _ _ _ _ => true
  | .SetComp _ _ _ _ => true
  | .DictComp _ _ _ _ _ => true
  | _ => false
def isStar : Expr → Bool
  | .Starred .. => true
  | _ => false
/-- the names of a swap, as the model finds them -/
def swapNames (sc : Scope) (ts : List Expr) : List Str := ts.filterMap fun
  | .Name id pos => if sc.names.lookup id == some .local && pos.line == (ts.head?.map (·.pos.line)).getD 0 then some id else none
  | _ => none
def swapC (sc : Scope) (ts vs : List Expr) : Option (Option (List Str)) :=
  if (!(ts.length == 2 || ts.length == 3) || vs.length != ts.length) = true then some none
  else if vs.any isStar = true then some none
  else if ((swapNames sc ts).length != ts.length || (swapNames sc ts).eraseDups.length != (swapNames sc ts).length) = true then some none
  else if vs.all (foldedForSure 8) = true then some none
  else if vs.all (constantsAlone 8) = true then none
  else some (some (swapNames sc ts))
theorem swapC_ok {env : PySem.Env} {sc : Scope} (hsc : env.scope = sc) (hk : env.blockKind = .function) {ts vs : List Expr} {k k2 : Nat} {p p2 : Pos} {r : Option (List Str)} (h : swapC sc ts vs = some r) :
    swappedStores [.Tuple ts k p] (.Tuple vs k2 p2) env = pure r := by
  subst hsc
  unfold swapC at h
  unfold swappedStores
  simp only [hk]
  split at h
  · rename_i c
    cases h
    rw [if_pos]
    rw [Bool.or_eq_true]
    exact .inl c
  · rename_i c
    rw [if_neg (by rw [Bool.or_eq_true]; rintro (z | z); exact c z; cases z)]
    split at h
    · rename_i c2
      cases h
      rw [if_pos (by exact c2)]
    · rename_i c2
      rw [if_neg (by exact c2)]
      split at h
      · rename_i c3
        cases h
        exact if_pos c3
      · rename_i c3
        refine (if_neg c3).trans ?_
        split at h
        · rename_i c4
          cases h
          exact if_pos c4
        · rename_i c4
          refine (if_neg c4).trans ?_
          split at h
          · cases h
          · rename_i c5
            cases h
            exact if_neg c5

def opAS : Operator → Bool
  | .Add => true
  | .Sub => true
  | _ => false
/-- whether a stored comprehension is told to its name before its variables are let go -/
def swB (sc : Scope) (x : Str) (px : Pos) : Expr → Bool
  | .ListComp _ _ scope p => (sc.names.lookup x == some .local) && px.line == p.line && !(scope.names.any fun (n, k) => n == x && (k == .local || k == .cell))
  | _ => false
def isLC : Expr → Bool
  | .ListComp _ _ _ _ => true
  | _ => false
def asgOk (sc : Scope) (x : Str) (px : Pos) (v : Expr) : Bool := !isComp v || isLC v
def pairB (f g : Expr → Bool) : Expr → Bool
  | .Tuple [va, vb] _ _ => f va && g vb
  | _ => false
def swapOk (sc : Scope) (ts : List Expr) : Expr → Bool
  | .Tuple vs _ _ => decide (swapC sc ts vs = some none)
  | _ => true
def parOk (N : List Str) (sc : Scope) (i j : Nat) : Expr → Expr → Bool
  | .Tuple [.Name x px, .Name y py] _ _, .Tuple [va, vb] _ _ => decide (swapC sc [.Name x px, .Name y py] [va, vb] = some (some [x, y])) && decide (N[i]? = some x) && decide (N[j]? = some y) && decide (sc.names.lookup x = some .local) && decide (sc.names.lookup y = some .local) && notStar va && notStar vb && decide (i ≠ j)
  | _, _ => false
mutual
def chkS (N fs : List Str) (sc : Scope) : S → Stmt → Bool
  | .asg i e, .Assign [.Name x px] v _ => decide (N[i]? = some x) && locB sc x && chkE N fs e sc v && asgOk sc x px v
  | .own i, .Assign [.Name x _] (.List [] _) _ => decide (N[i]? = some x) && locB sc x
  | .asgT is e, .Assign [.Tuple ts _ _] v _ => chkTs N sc is ts && !isComp v && chkE N fs e sc v && swapOk sc ts v
  | .par i j a b, .Assign [t] v _ => parOk N sc i j t v && pairB (chkE N fs a sc) (chkE N fs b sc) v
  | .aug i o e, .AugAssign (.Name x _) o' v _ => decide (o = o') && opAS o && decide (N[i]? = some x) && locB sc x && chkE N fs e sc v
  | .app i e, .Expr (.Call (.Attribute (.Name x _) g apos) [v] [] cpos) _ => decide (g = "append") && nameIs N sc i x && (apos.endLine == cpos.line) && notStar v && chkE N fs e sc v
  | .ins i k e, .Expr (.Call (.Attribute (.Name x _) g apos) [u, v] [] cpos) _ => decide (g = "insert") && nameIs N sc i x && (apos.endLine == cpos.line) && notStar u && notStar v && chkE N fs k sc u && chkE N fs e sc v
  | .daug o k op e, .AugAssign (.Subscript a b _) op' v _ => decide (op = op') && opAS op && notSlice b && chkE N fs o sc a && chkE N fs k sc b && chkE N fs e sc v
  | .ret e, .Return (some v) _ => chkE N fs e sc v
  | .ifs c a b, .If x ys zs _ => chkE N fs c sc x && chkSs N fs sc a ys && chkSs N fs sc b zs
  | .whl c b, .While x ys [] _ => chkE N fs c sc x && chkSs N fs sc b ys
  | .for_ tg it b, .For t i ys [] _ => chkTg N sc tg t && chkIt N fs it sc i && notSet i && chkSs N fs sc b ys
  | .expr e, .Expr v _ => !isComp v && chkE N fs e sc v
  | .pass, .Pass _ => true
  | .brk, .Break _ => true
  | .cont, .Continue _ => true
  | _, _ => false
def chkSs (N fs : List Str) (sc : Scope) : Ss → List Stmt → Bool
  | .nil, [] => true
  | .cons (.frz _) ss, xs => chkSs N fs sc ss xs
  | .cons s ss, x :: xs => chkS N fs sc s x && chkSs N fs sc ss xs
  | _, _ => false
end

/-! ### readings -/
def PostR (K : PySem.W.Frag) (B : Base) (Dn : Ends) : Res → Prop
  | .nx ρ μ => ∀ σ' H' ads', FI K B ads' H' σ' ρ μ → Dn.nx σ' H'
  | .bk ρ μ => ∀ σ' H' ads', FI K B ads' H' σ' ρ μ → Dn.bk σ' H'
  | .ct ρ μ => ∀ σ' H' ads', FI K B ads' H' σ' ρ μ → Dn.ct σ' H'
  | .rt d μ => ∀ v H' ads', Ext B.ads0 B.H0 ads' H' → CellsR K B.own0 ads' H' μ → Rep K (Zo B.own0 ads') ads' H' v d → Dn.rt v H'
def tX (K : PySem.W.Frag) (run : Env → Cells → Option Res) : TS := fun Dn σ H => ∃ B ads ρ μ r, FI K B ads H σ ρ μ ∧ run ρ μ = some r ∧ PostR K B Dn r
theorem PS.imp {X : Cx} {e : Stmt} {t t' : TS} (h : PS X e t) (i : ∀ Dn σ H, t' Dn σ H → t Dn σ H) : PS X e t' := ⟨fun pins s σ H Dn I q => h.run pins s σ H Dn I (i _ _ _ q)⟩
theorem PSs.imp {X : Cx} {e : List Stmt} {t t' : TS} (h : PSs X e t) (i : ∀ Dn σ H, t' Dn σ H → t Dn σ H) : PSs X e t' := ⟨fun pins s σ H Dn I q => h.run pins s σ H Dn I (i _ _ _ q)⟩
section
variable {N fs : List Str} {F : Fs} {n : Nat} {sc : Scope} {X : Cx} {W : Nat}
/-- at a def's own level -/
structure GS (N fs : List Str) (F : Fs) (n : Nat) (sc : Scope) (X : Cx) : Prop where
  g : GX N fs F n sc X
  hsc : X.env.scope = sc
  kind : sc.kind = .function
theorem GS.block (G : GS N fs F n sc X) : X.env.blockKind = .function := by
  unfold PySem.Env.blockKind
  rw [G.hsc, G.kind]
  rfl
theorem sw_plain {v : Expr} (h : isComp v = false) (t : Option Expr) (l : Nat) (env : PySem.Env) : swapsWith v t l env = pure false := by
  cases v <;> first | rfl | cases h
theorem sw_one {v t : Expr} (h : isComp v = false) (l : Nat) (env : PySem.Env) : swapsWithSole [t] v l env = pure false := sw_plain h _ l env
theorem sw_list (G : GS N fs F n sc X) {x : Str} {px p : Pos} {elt : Expr} {gs : List Comprehension} {scope : Scope} {l : Nat} : swapsWith (.ListComp elt gs scope p) (some (.Name x px)) l X.env = pure (swB sc x px (.ListComp elt gs scope p)) := by
  unfold swapsWith
  have hk : X.env.kindOf x = sc.names.lookup x := by rw [← G.hsc]; rfl
  simp only [G.block, hk]
  rfl
theorem asg_read {e : E} {i : Nat} (Dn : Ends) (σ : L2.St) (H : Hp) (h : tX X.K (exec F W (.asg i e)) Dn σ H) : tAsg (tE X.K F e) (gName i) Dn σ H := by
  obtain ⟨B, ads, ρ, μ, r, f, he, q⟩ := h
  unfold exec at he
  split at he
  · cases he
  · rename_i hl
    obtain ⟨d, μ1, e1, he⟩ := andThen_some he
    cases he
    rw [Bool.or_eq_true, not_or] at hl
    have hl1 : lk ρ e = false := by simpa using hl.1
    refine ⟨_, ads, ρ, μ, d, μ1, f.hold, e1, fun v H1 ads1 x1 h1 r1 => ?_⟩
    rw [hl1] at r1
    exact q _ H1 ads1 ((f.step x1 h1).setPl r1.plain)
theorem s_asg (G : GS N fs F n sc X) {i : Nat} {e : E} {x : Str} {px pos : Pos} {v : Expr} (hi : N[i]? = some x) (hx : locB sc x = true) (hv : chkE N fs e sc v = true) (ho : asgOk sc x px v = true) : PS X (.Assign [.Name x px] v pos) (tX X.K (exec F W (.asg i e))) := by
  obtain ⟨l1, l2⟩ := G.g.loc x hx
  have hN : X.N.Nodup := by rw [G.g.hN]; exact G.g.nd
  have hi' : X.N[i]? = some x := by rw [G.g.hN]; exact hi
  unfold asgOk at ho
  by_cases hc : isComp v = false
  · exact PS.imp (ps_set hN hi' l1 (sE e sc v X G.g hv).v (sw_plain hc _ _ _) l2) asg_read
  · have hs : isLC v = true := by
      rw [Bool.or_eq_true] at ho
      rcases ho with ho | ho
      · rw [Bool.not_eq_true'] at ho
        exact absurd ho hc
      · exact ho
    cases v with
    | ListComp y gs scope p =>
      by_cases hs : swB sc x px (.ListComp y gs scope p) = false
      · refine PS.imp (ps_set hN hi' l1 (sE e sc _ X G.g hv).v (by rw [sw_list G, hs]) l2) asg_read
      have hs : swB sc x px (.ListComp y gs scope p) = true := by simpa using hs
      have hs' : ((sc.names.lookup x == some .local) && px.line == p.line && !(scope.names.any fun (n, k) => n == x && (k == .local || k == .cell))) = true := hs
      obtain ⟨z1, z2, z3⟩ := and3 hs'
      have hl : X.env.scope.names.lookup x = some .local := by rw [G.hsc]; exact eq_of_beq z1
      cases e with
      | lc elt tg it cond =>
        match gs, hv, hs with
        | [⟨t, i2, ifs, k⟩], hv, hs =>
          obtain ⟨h1, h2, h3⟩ := and3 (show (decide (k = 0) && blkC N sc scope (ownOf N tg.slots) && notSet i2 && chkTg N scope tg t && chkIt N fs it sc i2 && chkC N fs cond scope ifs && chkE N fs elt scope y) = true from hv)
          obtain ⟨h4, h5, h6⟩ := and3 h1
          obtain ⟨h7, h8, h9⟩ := and3 h4
          have ek : k = 0 := of_decide_eq_true h7
          subst ek
          have nd : ∀ is, tg = .tp is → is.Nodup := fun is e => by
            subst e
            cases t with
            | Tuple es k p =>
              have h' : (chkTs N scope is es && decide is.Nodup) = true := h5
              exact of_decide_eq_true (and2 h').2
            | _ => cases h5
          have sw : swapsWith (.ListComp y [⟨t, i2, ifs, 0⟩] scope p) (some (.Name x px)) pos.line X.env = pure true := by
            rw [sw_list G, hs]
          have core := ps_setLc (X := X) (i := i) (own := ownOf N tg.slots) (g := tTg X.K tg) (tt := tC' X.K F cond) (te := tE X.K F elt) (elt := y) (tg := t) (iter := i2) (ifs := ifs) (scope := scope) (pos := p) (spos := pos) (py := px) G.g.calm hN hi' hl sw (sIt it sc i2 X t G.g h6) (G.g.blkOk h8)
            (fun s H C cl fp => s_tg G.g.blk h5) (fun s H C cl fp => sC cond scope ifs _ G.g.blk h2) (fun s H C cl fp => (sE elt scope y _ G.g.blk h3).v) (folded_of h9 _)
          rw [own_slots] at core
          refine PS.imp core fun Dn σ H h => ?_
          have z := asg_read Dn σ H h
          exact lc_read nd σ H _ z
        | [], hv, _ => exact absurd hv Bool.false_ne_true
        | ⟨_, _, _, _⟩ :: _ :: _, hv, _ => exact absurd hv Bool.false_ne_true
      | _ => exact absurd hv Bool.false_ne_true
    | _ => exact absurd hs Bool.false_ne_true
end
end FM

set_option Elab.async false
set_option linter.all false
set_option maxRecDepth 100000
set_option maxHeartbeats 4000000
/-! Ev14: the other statements. -/
namespace FM
open PySem PySem.Spec PyProof.Rows L2
section
variable {N fs : List Str} {F : Fs} {n : Nat} {sc : Scope} {X : Cx} {W : Nat}
theorem s_own (G : GS N fs F n sc X) {i : Nat} {x : Str} {px p2 pos : Pos} (hi : N[i]? = some x) (hx : locB sc x = true) : PS X (.Assign [.Name x px] (.List [] p2) pos) (tX X.K (exec F W (.own i))) := by
  obtain ⟨l1, l2⟩ := G.g.loc x hx
  refine PS.imp (ps_set (by rw [G.g.hN]; exact G.g.nd) (by rw [G.g.hN]; exact hi) l1 (pe_lst pa_nil) rfl l2) fun Dn σ H ⟨B, ads, ρ, μ, r, f, he, q⟩ => ?_
  unfold exec at he
  split at he
  · cases he
  · rename_i hl
    cases he
    exact ⟨Nat.zero_le _, fun p hp => q _ _ ads (f.own hp (by simpa using hl))⟩
/-- the targets' slots, for statements -/
theorem FI.names {K : PySem.W.Frag} {B : Base} {ads : List Addr} {H : Hp} {μ : Cells} {Q : L2.St → Hp → Prop} : ∀ {is : List Nat} {ds : List D} {vs : List V} {σ : L2.St} {ρ : Env}, FI K B ads H σ ρ μ → RepL K (Zo (ownF B.own0 σ ρ) ads) ads H vs ds → ds.length = is.length →
    (∀ σ1, FI K B ads H σ1 (setAll is ds ρ) μ → Q σ1 H) → gNames is vs σ H Q
  | [], [], _, σ, ρ, f, r, _, k => by
    cases r
    exact ⟨rfl, k σ f⟩
  | [], _ :: _, _, _, _, _, _, e, _ => by cases e
  | _ :: _, [], _, _, _, _, _, e, _ => by cases e
  | i :: is, d :: ds, _, σ, ρ, f, r, e, k => by
    cases r with
    | @cons v _ vs _ r1 r2 =>
      refine ⟨v, vs, rfl, ?_⟩
      show gNames is vs (σ.set i (some v)) H Q
      exact FI.names (f.setPl r1) (RepL.stay (antiOwn (K := K) fun b h => ownF_set h) _ _ r2) (by simpa using e) k
theorem FI.tg {K : PySem.W.Frag} {B : Base} {ads : List Addr} {H : Hp} {σ : L2.St} {ρ ρ1 : Env} {μ : Cells} {Q : L2.St → Hp → Prop} {tg : Tg} {v : V} {d : D} (f : FI K B ads H σ ρ μ) (r : Rep K (Zo (ownF B.own0 σ ρ) ads) ads H v d) (e : bindT tg d ρ = some ρ1)
    (k : ∀ σ1, FI K B ads H σ1 ρ1 μ → Q σ1 H) : tTg K tg v σ H Q := by
  cases tg with
  | nm i =>
    have e' : some (ρ.set i (some (.pl d))) = some ρ1 := e
    cases e'
    exact k _ (f.setPl r)
  | tp is =>
    cases d with
    | tup ds =>
      have e' : (if ds.length = is.length then some (setAll is ds ρ) else none) = some ρ1 := e
      split at e'
      · rename_i hl
        cases e'
        cases r with
        | tup t l => exact ⟨_, _, rfl, t.sq, by rw [l.length]; exact hl, FI.names f l hl k⟩
      · cases e'
    | _ => cases e
theorem s_asgT (G : GS N fs F n sc X) {is : List Nat} {e : E} {ts : List Expr} {k : Nat} {p pos : Pos} {v : Expr} (ht : chkTs N sc is ts = true) (hc : isComp v = false) (hv : chkE N fs e sc v = true)
    (hw : swappedStores [.Tuple ts k p] v X.env = pure none) : PS X (.Assign [.Tuple ts k p] v pos) (tX X.K (exec F W (.asgT is e))) := by
  obtain ⟨g1, g2, g3⟩ := s_ts G.g ht
  refine PS.imp (ps_asg (sE e sc v X G.g hv).v (pg_tup G.g.calm g1 g2 g3) (sw_one hc _ _) hw rfl) fun Dn σ H ⟨B, ads, ρ, μ, r, f, he, q⟩ => ?_
  unfold exec at he
  split at he
  · cases he
  · rename_i hl
    obtain ⟨d, μ1, e1, he⟩ := andThen_some he
    split at he
    · split at he
      · rename_i ds hds
        cases he
        rw [Bool.or_eq_true, not_or] at hl
        have hl1 : lk ρ e = false := by simpa using hl.1
        refine ⟨_, ads, ρ, μ, _, μ1, f.hold, e1, fun v H1 ads1 x1 h1 r1 => ?_⟩
        obtain ⟨a, xs, ev, t, l⟩ := r1.tup
        exact ⟨a, xs, ev, t.sq, by rw [l.length]; exact hds, FI.names (f.step x1 h1) l hds fun σ1 f1 => q σ1 H1 ads1 f1⟩
      · cases he
    · cases he
def augF : Operator → Int → Int → Int
  | .Sub, i, j => i - j
  | _, i, j => i + j
theorem aug_go {i : Nat} {o : Operator} {e : E} {ρ : Env} {μ : Cells} {r : Res} (he : exec F W (.aug i o e) ρ μ = some r) : ∃ a b μ1, ρ[i]? = some (some (Sl.pl (.int a))) ∧ ev F e ρ μ = some (.int b, μ1) ∧ opAS o = true ∧ r = .nx (ρ.set i (some (.pl (.int (augF o a b))))) μ1 := by
  unfold exec at he
  split at he
  · rename_i a hρ
    obtain ⟨d, μ1, e1, he⟩ := andThen_some he
    split at he
    · cases he
      exact ⟨a, _, _, hρ, e1, rfl, rfl⟩
    · cases he
      exact ⟨a, _, _, hρ, e1, rfl, rfl⟩
    · cases he
  · cases he
theorem s_aug (G : GS N fs F n sc X) {i : Nat} {o : Operator} {e : E} {x : Str} {px pos : Pos} {v : Expr} (hi : N[i]? = some x) (hx : locB sc x = true) (ho : opAS o = true) (hv : chkE N fs e sc v = true) : PS X (.AugAssign (.Name x px) o v pos) (tX X.K (exec F W (.aug i o e))) := by
  obtain ⟨l1, l2⟩ := G.g.loc x hx
  have hN : X.N.Nodup := by rw [G.g.hN]; exact G.g.nd
  have hi' : X.N[i]? = some x := by rw [G.g.hN]; exact hi
  have read : ∀ (Dn : Ends) (σ : L2.St) (H : Hp), tX X.K (exec F W (.aug i o e)) Dn σ H → tAug i (tE X.K F e) (ipI (augF o)) Dn σ H := by
    intro Dn σ H ⟨B, ads, ρ, μ, r, f, he, q⟩
    obtain ⟨a, b, μ1, hρ, e1, _, rfl⟩ := aug_go he
    obtain ⟨w, g1, g2⟩ := f.hold.e i _ hρ
    have ew : w = .int a := by
      have z : Rep X.K (Zo (ownF B.own0 σ ρ) ads) ads H w (.int a) := g2
      cases z; rfl
    subst ew
    refine ⟨_, g1, _, ads, ρ, μ, _, μ1, f.hold, e1, fun v H1 ads1 x1 h1 r1 => ⟨a, b, rfl, r1.int, ?_⟩⟩
    exact q _ H1 ads1 ((f.step x1 h1).setPl (.int _))
  cases o with
  | Add => exact PS.imp (ps_aug hN hi' l1 (sE e sc v X G.g hv).v ip_add l2) read
  | Sub => exact PS.imp (ps_aug hN hi' l1 (sE e sc v X G.g hv).v ip_sub l2) read
  | _ => cases ho
theorem s_app (G : GS N fs F n sc X) {i : Nat} {e : E} {x : Str} {px apos cpos pos : Pos} {v : Expr} (hx : nameIs N sc i x = true) (hl : (apos.endLine == cpos.line) = true) (hs : notStar v = true) (hv : chkE N fs e sc v = true) :
    PS X (.Expr (.Call (.Attribute (.Name x px) "append" apos) [v] [] cpos) pos) (tX X.K (exec F W (.app i e))) := by
  have hx' := hx
  unfold nameIs at hx'
  rw [Bool.and_eq_true, Bool.and_eq_true, Bool.and_eq_true, decide_eq_true_eq] at hx'
  obtain ⟨⟨⟨h1, h2⟩, h3⟩, h4⟩ := hx'
  have pvx : PE X (.Name x px) (tVar i) := pe_var (i := i) (by rw [G.g.hN]; exact h1) (G.g.vis x h2) (by simpa using h3) (by simpa using h4)
  have core := pe_bm (X := X) (apos := apos) (cpos := cpos) PySem.F.plainAttrs_list PySem.F.slot_list_append PySem.F.type_list_append mt_append pvx (pa_cons (sE e sc v X G.g hv).v pa_nil (starEach_cons hs _ _)) rfl (one_arg hs _ _) hl (starEach_cons hs _ _) rfl
  refine PS.imp (ps_expr core rfl) fun Dn σ H ⟨B, ads, ρ, μ, r, f, he, q⟩ => ?_
  unfold exec at he
  split at he
  · rename_i ds hρ
    split at he
    · cases he
    · rename_i hle
      obtain ⟨d, μ1, e1, he⟩ := andThen_some he
      split at he
      · rename_i hz
        cases he
        obtain ⟨w, g1, a, xs, g2, g3, g4, g5⟩ := f.hold.e i _ hρ
        subst g2
        have hle' : lk ρ e = false := by simpa using hle
        refine ⟨_, g1, .inl ⟨rfl, xs, .of g3⟩, _, ads, ρ, μ, d, μ1, f.hold, e1, fun v H1 ads1 x1 h1 r1 => ?_⟩
        rw [hle'] at r1
        have ha := x1.keep a _ g3 fun m => f.hold.c.dis a m g4
        have l := g5.ext x1
        refine ⟨a, xs, v, rfl, rfl, ha, by rw [l.length]; exact hz, ?_⟩
        exact q _ _ ads1 ((f.step x1 h1).app hρ g1 ha l r1.plain)
      · cases he
  · cases he
theorem RepL.takeR {K : PySem.W.Frag} {Z : Addr → Prop} {ads : List Addr} {H : Hp} : ∀ {xs : List V} {ds : List D} (_ : RepL K Z ads H xs ds) (n : Nat), RepL K Z ads H (xs.take n) (ds.take n)
  | _, _, _, 0 => .nil
  | _, _, .nil, n + 1 => .nil
  | _, _, .cons r l, n + 1 => .cons r (l.takeR n)
theorem RepL.dropR {K : PySem.W.Frag} {Z : Addr → Prop} {ads : List Addr} {H : Hp} : ∀ {xs : List V} {ds : List D} (_ : RepL K Z ads H xs ds) (n : Nat), RepL K Z ads H (xs.drop n) (ds.drop n)
  | _, _, l, 0 => l
  | _, _, .nil, n + 1 => .nil
  | _, _, .cons r l, n + 1 => l.dropR n
theorem s_ins (G : GS N fs F n sc X) {i : Nat} {k e : E} {x : Str} {px apos cpos pos : Pos} {u v : Expr} (hx : nameIs N sc i x = true) (hl : (apos.endLine == cpos.line) = true) (hs : notStar u = true) (hs2 : notStar v = true) (hu : chkE N fs k sc u = true) (hv : chkE N fs e sc v = true) :
    PS X (.Expr (.Call (.Attribute (.Name x px) "insert" apos) [u, v] [] cpos) pos) (tX X.K (exec F W (.ins i k e))) := by
  have hx' := hx
  unfold nameIs at hx'
  rw [Bool.and_eq_true, Bool.and_eq_true, Bool.and_eq_true, decide_eq_true_eq] at hx'
  obtain ⟨⟨⟨h1, h2⟩, h3⟩, h4⟩ := hx'
  have pvx : PE X (.Name x px) (tVar i) := pe_var (i := i) (by rw [G.g.hN]; exact h1) (G.g.vis x h2) (by simpa using h3) (by simpa using h4)
  have core := pe_bm (X := X) (apos := apos) (cpos := cpos) PySem.F.plainAttrs_list PySem.F.slot_list_insert PySem.F.type_list_insert mt_insert pvx (pa_cons (sE k sc u X G.g hu).v (pa_cons (sE e sc v X G.g hv).v pa_nil (starEach_cons hs2 _ _)) (starEach_cons hs _ _)) rfl (by rw [starEach_cons hs, starEach_cons hs2]; rfl) hl (by rw [starEach_cons hs, starEach_cons hs2]) (by rw [starEach_cons hs2]; rfl)
  refine PS.imp (ps_expr core rfl) fun Dn σ H ⟨B, ads, ρ, μ, r, f, he, q⟩ => ?_
  unfold exec at he
  split at he
  · rename_i ds hρ
    split at he
    · cases he
    · rename_i hle
      obtain ⟨dk, μ1, e1, he⟩ := andThen_some he
      obtain ⟨d, μ2, e2, he⟩ := andThen_some he
      split at he
      · split at he
        · rename_i hz
          cases he
          obtain ⟨w, g1, a, xs, g2, g3, g4, g5⟩ := f.hold.e i _ hρ
          subst g2
          rw [Bool.or_eq_true, not_or] at hle
          have hle' : lk ρ e = false := by simpa using hle.1
          refine ⟨_, g1, .inl ⟨rfl, xs, .of g3⟩, _, ads, ρ, μ, _, μ1, f.hold, e1, fun v1 H1 ads1 x1 h1 r1 => ⟨_, ads1, ρ, μ1, d, μ2, h1, e2, fun v H2 ads2 x2 h2 r2 => ?_⟩⟩
          rw [hle'] at r2
          have ev := r1.int
          subst ev
          have x12 := x1.trans x2
          have ha := x12.keep a _ g3 fun m => f.hold.c.dis a m g4
          have l := g5.ext x12
          refine ⟨a, xs, _, v, rfl, rfl, ha, by rw [l.length]; exact hz.1, hz.2.1, hz.2.2, ?_⟩
          exact q _ _ ads2 ((f.step x12 h2).wr hρ g1 ha (((l.takeR _).append (.cons r2.plain .nil)).append (l.dropR _)))
        · cases he
      · cases he
  · cases he
theorem augStore_of {b : Expr} (h : notSlice b = true) (ov iv new : Value) : augStore b ov iv new = (do holding [new, ov, iv] (setItem ov iv new); release [new, ov, iv] []; pure .next) := by
  cases b <;> first | rfl | cases h
theorem putC_rep {K : PySem.W.Frag} {Z : Addr → Prop} {ads : List Addr} {H : Hp} {k : Key} {v : V} {d : D} (r : Rep K Z ads H v d) {kvs : List (Key × V)} {c : Cell} (h : RepKV K Z ads H kvs c) : RepKV K Z ads H (putK kvs k v) (putC c k d) := by
  have any : ∀ (kvs : List (Key × V)) (c : Cell), kvs.map (·.1) = c.map (·.1) → (kvs.any fun kv => decide (kv.1 = k)) = (c.any fun kv => decide (kv.1 = k)) := by
    intro kvs
    induction kvs with
    | nil => intro c e; cases c with
      | nil => rfl
      | cons _ _ => cases e
    | cons p kvs ih => intro c e; cases c with
      | nil => cases e
      | cons q c =>
        have e' : p.1 :: kvs.map (·.1) = q.1 :: c.map (·.1) := e
        injection e' with e1 e2
        rw [List.any_cons, List.any_cons, e1, ih c e2]
  have map : ∀ (kvs : List (Key × V)) (c : Cell), RepKV K Z ads H kvs c → RepKV K Z ads H (kvs.map fun kv => if kv.1 = k then (kv.1, v) else kv) (c.map fun kv => if kv.1 = k then (kv.1, d) else kv) := by
    intro kvs
    induction kvs with
    | nil => intro c e; cases c with
      | nil => exact ⟨rfl, .nil⟩
      | cons _ _ => cases e.1
    | cons p kvs ih => intro c e; cases c with
      | nil => cases e.1
      | cons q c =>
        have e1 : p.1 :: kvs.map (·.1) = q.1 :: c.map (·.1) := e.1
        have e2 : RepL K Z ads H (p.2 :: kvs.map (·.2)) (q.2 :: c.map (·.2)) := e.2
        injection e1 with e3 e4
        cases e2 with
        | cons g1 g2 =>
          obtain ⟨i1, i2⟩ := ih c ⟨e4, g2⟩
          by_cases hk : p.1 = k
          · have hk' : q.1 = k := e3 ▸ hk
            simp only [List.map_cons, hk, hk', if_true]
            exact ⟨by simp only [List.map_cons, i1], .cons r i2⟩
          · have hk' : ¬ q.1 = k := fun z => hk (e3.trans z)
            simp only [List.map_cons, hk, hk', if_false]
            exact ⟨by simp only [List.map_cons, i1, e3], .cons g1 i2⟩
  unfold putK putC
  rw [any kvs c h.1]
  split
  · exact map kvs c h
  · refine ⟨?_, ?_⟩
    · rw [List.map_append, List.map_append, h.1]
      rfl
    · rw [List.map_append, List.map_append]
      exact h.2.append (.cons r .nil)
theorem daug_go {o k e : E} {op : Operator} {ρ : Env} {μ : Cells} {r : Res} (he : exec F W (.daug o k op e) ρ μ = some r) : ∃ m μ1 y μ2 q c i j μ3 c3, ev F o ρ μ = some (.cell m, μ1) ∧ ev F k ρ μ1 = some (y, μ2) ∧ keyD y = some q ∧ μ2[m]? = some c ∧ valC c q = some (.int i) ∧
    ev F e ρ μ2 = some (.int j, μ3) ∧ μ3[m]? = some c3 ∧ c3.length < sizeLine ∧ opAS op = true ∧ r = .nx ρ (μ3.set m (putC c3 q (.int (augF op i j)))) := by
  unfold exec at he
  obtain ⟨x, μ1, e1, he⟩ := andThen_some he
  obtain ⟨y, μ2, e2, he⟩ := andThen_some he
  cases x with
  | cell m =>
    cases hq : keyD y with
    | none => simp only [hq] at he; cases he
    | some q =>
      simp only [hq] at he
      cases hc : μ2[m]? with
      | none => simp only [hc, Option.bind_none] at he; cases he
      | some c =>
        simp only [hc, Option.bind_some] at he
        cases hv : valC c q with
        | none => simp only [hv] at he; cases he
        | some old =>
          simp only [hv] at he
          cases old with
          | int i =>
            obtain ⟨z, μ3, e3, he⟩ := andThen_some he
            split at he
            · split at he
              · rename_i hl
                cases he
                exact ⟨m, μ1, y, μ2, q, c, i, _, μ3, _, e1, e2, hq, hc, hv, e3, by assumption, hl, rfl, rfl⟩
              · cases he
            · split at he
              · rename_i hl
                cases he
                exact ⟨m, μ1, y, μ2, q, c, i, _, μ3, _, e1, e2, hq, hc, hv, e3, by assumption, hl, rfl, rfl⟩
              · cases he
            · cases he
          | _ => cases he
  | _ => cases he
theorem s_daug (G : GS N fs F n sc X) {o k e : E} {op : Operator} {a b v : Expr} {p2 pos : Pos} (hs : notSlice b = true) (ho : chkE N fs o sc a = true) (hk : chkE N fs k sc b = true) (hv : chkE N fs e sc v = true) : PS X (.AugAssign (.Subscript a b p2) op v pos) (tX X.K (exec F W (.daug o k op e))) := by
  have read : ∀ (rd : V → V → Hp → VK → Prop), (∀ i j H Q, opAS op = true → Q (.int (augF op i j)) H → rd (.int i) (.int j) H Q) → ∀ (Dn : Ends) (σ : L2.St) (H : Hp), tX X.K (exec F W (.daug o k op e)) Dn σ H → sDAug (tE X.K F o) (tE X.K F k) (tE X.K F e) rd Dn σ H := by
    intro rd hrd Dn σ H ⟨B, ads, ρ, μ, r, f, he, q⟩
    obtain ⟨m, μ1, y, μ2, qk, c, i, j, μ3, c3, e1, e2, e3, e4, e5, e6, e7, e8, e9, rfl⟩ := daug_go he
    refine ⟨_, ads, ρ, μ, _, μ1, f.hold, e1, fun v H1 ads1 x1 h1 r1 => ⟨_, ads1, ρ, μ1, y, μ2, h1, e2, fun w H2 ads2 x2 h2 r2 => ?_⟩⟩
    obtain ⟨ad, ev, ha⟩ := (r1.ext h1.c x2).cell
    obtain ⟨kvs, kds, k1, k2, k3⟩ := h2.c.at m ad ha
    rw [e4] at k1
    cases k1
    obtain ⟨old, k4, k5⟩ := valC_rep k3 e5
    have eo : old = .int i := by cases k5; rfl
    subst eo
    have ew := keyD_V r2 e3
    subst ew
    refine ⟨ad, .int i, ev, by rw [← k4]; exact DGet.k k2, _, ads2, ρ, μ2, _, μ3, h2, e6, fun u H3 ads3 x3 h3 r3 => ?_⟩
    have eu := r3.int
    subst eu
    have ha3 := x3.pre m ad ha
    obtain ⟨kvs3, kds3, m1, m2, m3⟩ := h3.c.at m ad ha3
    rw [e7] at m1
    cases m1
    have hlen : kvs3.length = c3.length := by
      have := congrArg List.length m3.1
      rw [List.length_map, List.length_map] at this
      exact this
    refine hrd i j H3 _ e9 ⟨_, DPut.k m2 (by rw [hlen]; exact e8), ?_⟩
    exact q σ _ ads3 ((f.step ((x1.trans x2).trans x3) h3).cell ha3 (putC_rep (.int _) m3))
  cases op with
  | Add => exact PS.imp (ps_daug (hu_of G.g.room) (sE o sc a X G.g ho).v (sE k sc b X G.g hk).v (sE e sc v X G.g hv).v in_add (augStore_of hs)) (read _ fun i j H Q _ q => ⟨i, j, rfl, rfl, q⟩)
  | Sub => exact PS.imp (ps_daug (hu_of G.g.room) (sE o sc a X G.g ho).v (sE k sc b X G.g hk).v (sE e sc v X G.g hv).v in_sub (augStore_of hs)) (read _ fun i j H Q _ q => ⟨i, j, rfl, rfl, q⟩)
  | _ => exact ⟨fun pins s σ H Dn I h => by
      exfalso
      obtain ⟨B, ads, ρ, μ, r, f, he, q⟩ := h
      obtain ⟨m, μ1, y, μ2, qk, c, i, j, μ3, c3, e1, e2, e3, e4, e5, e6, e7, e8, e9, _⟩ := daug_go he
      cases e9⟩
theorem s_ret (G : GS N fs F n sc X) {e : E} {v : Expr} {pos : Pos} (hv : chkE N fs e sc v = true) : PS X (.Return (some v) pos) (tX X.K (exec F W (.ret e))) := by
  refine PS.imp (ps_ret (sE e sc v X G.g hv).v) fun Dn σ H ⟨B, ads, ρ, μ, r, f, he, q⟩ => ?_
  unfold exec at he
  split at he
  · cases he
  · rename_i hl
    obtain ⟨d, μ1, e1, he⟩ := andThen_some he
    cases he
    refine ⟨_, ads, ρ, μ, d, μ1, f.hold, e1, fun v H1 ads1 x1 h1 r1 => ?_⟩
    have hl' : lk ρ e = false := by simpa using hl
    rw [hl'] at r1
    have anti : ∀ b, B.own0 b → ownF B.own0 σ ρ b := fun b z => .inl z
    exact q v H1 ads1 (f.ext.trans x1) (h1.c.anti anti) (Rep.stay (antiOwn (K := X.K) anti) _ _ r1.plain)
theorem s_ifs (G : GS N fs F n sc X) {c : E} {a b : Ss} {x : Expr} {ys zs : List Stmt} {pos : Pos} (hc : chkE N fs c sc x = true) (ha : PSs X ys (tX X.K (execs F W a))) (hb : PSs X zs (tX X.K (execs F W b))) : PS X (.If x ys zs pos) (tX X.K (exec F W (.ifs c a b))) := by
  refine PS.imp (ps_if (sE c sc x X G.g hc).t ha hb) fun Dn σ H ⟨B, ads, ρ, μ, r, f, he, q⟩ => ?_
  unfold exec at he
  obtain ⟨k, μ1, e1, he⟩ := onBl_some he
  refine ⟨_, ads, ρ, μ, k, μ1, f.hold, e1, fun H1 ads1 x1 h1 => ?_⟩
  cases k with
  | true => exact ⟨B, ads1, ρ, μ1, r, f.step x1 h1, he, q⟩
  | false => exact ⟨B, ads1, ρ, μ1, r, f.step x1 h1, he, q⟩
theorem passes (G : GS N fs F n sc X) : PassesOwn (model X.prog X.w) X.A X.env X.xe := by
  rw [G.g.nox]
  exact PassesOwn.never
theorem s_whl (G : GS N fs F n sc X) {c : E} {b : Ss} {x : Expr} {ys : List Stmt} {pos : Pos} (hc : chkE N fs c sc x = true) (hb : PSs X ys (tX X.K (execs F W b))) : PS X (.While x ys [] pos) (tX X.K (exec F W (.whl c b))) := by
  refine PS.imp (ps_while (passes G) (sE c sc x X G.g hc).t hb) fun Dn σ H ⟨B, ads, ρ, μ, r, f, he, q⟩ => ?_
  unfold exec at he
  refine ⟨fun m σ H => ∃ ads ρ μ, FI X.K B ads H σ ρ μ ∧ whileF (fun ρ' μ' => onBl (ev F c ρ' μ') fun x μ1 => some (x, μ1)) (fun ρ' μ' => execs F W b ρ' μ') m ρ μ = some r, ⟨W, ads, ρ, μ, f, he⟩, ?_⟩
  clear f he
  rintro m σ H ⟨ads, ρ, μ, f, he⟩
  cases m with
  | zero => cases he
  | succ m =>
    unfold whileF at he
    split at he
    · cases he
    · rename_i μ1 hc1
      cases he
      obtain ⟨k, μ2, e1, e2⟩ := onBl_some hc1
      cases e2
      refine ⟨_, ads, ρ, μ, false, _, f.hold, e1, fun H1 ads1 x1 h1 => ?_⟩
      exact q σ H1 ads1 (f.step x1 h1)
    · rename_i μ1 hc1
      obtain ⟨k, μ2, e1, e2⟩ := onBl_some hc1
      cases e2
      refine ⟨_, ads, ρ, μ, true, _, f.hold, e1, fun H1 ads1 x1 h1 => ?_⟩
      refine ⟨fun σ H => ∃ ads ρ μ, FI X.K B ads H σ ρ μ ∧ whileF (fun ρ' μ' => onBl (ev F c ρ' μ') fun x μ1 => some (x, μ1)) (fun ρ' μ' => execs F W b ρ' μ') m ρ μ = some r, fun σ' H' z => ⟨m, Nat.lt_succ_self m, z⟩, ?_⟩
      split at he
      · cases he
      · rename_i ρ2 μ2 hb2
        exact ⟨B, ads1, ρ, _, _, f.step x1 h1, hb2, fun σ' H' ads' f' => ⟨ads', _, _, f', he⟩⟩
      · rename_i ρ2 μ2 hb2
        exact ⟨B, ads1, ρ, _, _, f.step x1 h1, hb2, fun σ' H' ads' f' => ⟨ads', _, _, f', he⟩⟩
      · rename_i ρ2 μ2 hb2
        cases he
        exact ⟨B, ads1, ρ, _, _, f.step x1 h1, hb2, fun σ' H' ads' f' => q σ' H' ads' f'⟩
      · rename_i d μ2 hb2
        cases he
        exact ⟨B, ads1, ρ, _, _, f.step x1 h1, hb2, q⟩
theorem s_for (G : GS N fs F n sc X) {tg : Tg} {it : It} {b : Ss} {t i : Expr} {ys : List Stmt} {pos : Pos} (ht : chkTg N sc tg t = true) (hi : chkIt N fs it sc i = true) (hs : notSet i = true) (hb : PSs X ys (tX X.K (execs F W b))) : PS X (.For t i ys [] pos) (tX X.K (exec F W (.for_ tg it b))) := by
  refine PS.imp (ps_for (passes G) G.g.calm (sIt it sc i X t G.g hi) (s_tg G.g ht) hb (folded_of hs _)) fun Dn σ H ⟨B, ads, ρ, μ, r, f, he, q⟩ => ?_
  unfold exec at he
  obtain ⟨xs, μ1, e1, he⟩ := andThen_some he
  split at he
  · cases he
  · rename_i hl
    have hl' : it.lk ρ = false := by simpa using hl
    refine ⟨_, ads, ρ, μ, xs, μ1, f.hold, e1, fun J H1 ads1 x1 h1 w1 => ?_⟩
    rw [hl'] at w1
    have f1 := f.step x1 h1
    let B' : Base := { B with pn := fun b o => H1 b = some o ∧ ¬ Zo (ownF B.own0 σ ρ) ads1 b, pa := ads1 }
    have f' : FI X.K B' ads1 H1 σ ρ μ1 := ⟨f1.hold, f1.ext, f1.dist, f1.new, f1.own0T, fun b o z => z, fun k a z => z⟩
    have unpin : ∀ {ads' H' σ' ρ' μ'}, FI X.K B' ads' H' σ' ρ' μ' → FI X.K B ads' H' σ' ρ' μ' := fun {ads' H' σ' ρ' μ'} g => ⟨g.hold, g.ext, g.dist, g.new, g.own0T, fun b o z => g.pin b o (f1.pin b o z), fun k a z => g.pre k a (f1.pre k a z)⟩
    refine ⟨fun i m σ' H' => m = xs.length - i ∧ i ≤ xs.length ∧ ∃ ads' ρ' μ', FI X.K B' ads' H' σ' ρ' μ' ∧ forF tg (fun ρ' μ' => execs F W b ρ' μ') (xs.drop i) ρ' μ' = some r, ⟨xs.length, by simp, Nat.zero_le _, ads1, ρ, μ1, f', he⟩, ?_⟩
    rintro i m σ' H' ⟨rfl, hi, ads', ρ', μ', g, hgo⟩
    have st : Stay (Zo (ownF B.own0 σ ρ) ads1) (Zo (ownF B.own0 σ' ρ') ads') ads1 ads' H1 H' := ⟨fun b o z1 z2 => (g.pin b o ⟨z1, z2⟩).1, fun b o z1 z2 => (g.pin b o ⟨z1, z2⟩).2, g.pre⟩
    have w' : WalksR X.K (ownF B.own0 σ' ρ') (ownF B.own0 σ' ρ') ads' H' J xs false := by
      rcases w1 with ⟨a, vs, g1, g2, g3⟩ | ⟨hb, _⟩ | ⟨a, vs, g1, g2, g3⟩ | g1
      · exact .inl ⟨a, vs, g1, g2.stay st, RepL.stay st _ _ g3⟩
      · cases hb
      · exact .inr (.inr (.inl ⟨a, vs, g1, g2.stay st, RepL.stay st _ _ g3⟩))
      · exact .inr (.inr (.inr g1))
    obtain ⟨t1, t2⟩ := w'.turn i
    by_cases hlt : i < xs.length
    · have hd : xs[i]? = some xs[i] := by simp [hlt]
      obtain ⟨go, yl⟩ := t2 _ hd
      have hdrop : xs.drop i = xs[i] :: xs.drop (i + 1) := by rw [List.drop_eq_getElem_cons hlt]
      rw [hdrop] at hgo
      unfold forF at hgo
      refine .inr ⟨go, fun σ' H' => ∃ ads' ρ' μ', FI X.K B' ads' H' σ' ρ' μ' ∧ forF tg (fun ρ' μ' => execs F W b ρ' μ') (xs.drop (i + 1)) ρ' μ' = some r, fun σ2 H2 z => ⟨xs.length - (i + 1), by omega, rfl, hlt, z⟩, fun x H2 y => ?_⟩
      obtain ⟨e3, r3⟩ := yl x H2 y
      subst e3
      split at hgo
      · cases hgo
      · rename_i ρ1 hb1
        refine g.tg r3 hb1 fun σ1 g1 => ?_
        split at hgo
        · cases hgo
        · rename_i ρ2 μ2 hb2
          exact ⟨B', ads', ρ1, μ', _, g1, hb2, fun σ2 H2 ads2 g2 => ⟨ads2, _, _, g2, hgo⟩⟩
        · rename_i ρ2 μ2 hb2
          exact ⟨B', ads', ρ1, μ', _, g1, hb2, fun σ2 H2 ads2 g2 => ⟨ads2, _, _, g2, hgo⟩⟩
        · rename_i ρ2 μ2 hb2
          cases hgo
          exact ⟨B', ads', ρ1, μ', _, g1, hb2, fun σ2 H2 ads2 g2 => q σ2 H2 ads2 (unpin g2)⟩
        · rename_i d μ2 hb2
          cases hgo
          exact ⟨B', ads', ρ1, μ', _, g1, hb2, q⟩
    · have e3 : i = xs.length := by omega
      subst e3
      rw [List.drop_length] at hgo
      unfold forF at hgo
      cases hgo
      exact .inl ⟨t1 (Nat.le_refl _), q σ' H' ads' (unpin g)⟩
theorem s_expr (G : GS N fs F n sc X) {e : E} {v : Expr} {pos : Pos} (hc : isComp v = false) (hv : chkE N fs e sc v = true) : PS X (.Expr v pos) (tX X.K (exec F W (.expr e))) := by
  refine PS.imp (ps_expr (sE e sc v X G.g hv).v (sw_plain hc _ _ _)) fun Dn σ H ⟨B, ads, ρ, μ, r, f, he, q⟩ => ?_
  unfold exec at he
  obtain ⟨d, μ1, e1, he⟩ := andThen_some he
  cases he
  exact ⟨_, ads, ρ, μ, d, μ1, f.hold, e1, fun v H1 ads1 x1 h1 r1 => q σ H1 ads1 (f.step x1 h1)⟩
theorem s_pass {pos : Pos} : PS X (.Pass pos) (tX X.K (exec F W .pass)) := PS.imp ps_pass fun Dn σ H ⟨B, ads, ρ, μ, r, f, he, q⟩ => by
  cases he
  exact q σ H ads f
theorem s_brk {pos : Pos} : PS X (.Break pos) (tX X.K (exec F W .brk)) := PS.imp ps_break fun Dn σ H ⟨B, ads, ρ, μ, r, f, he, q⟩ => by
  cases he
  exact q σ H ads f
theorem s_cont {pos : Pos} : PS X (.Continue pos) (tX X.K (exec F W .cont)) := PS.imp ps_continue fun Dn σ H ⟨B, ads, ρ, μ, r, f, he, q⟩ => by
  cases he
  exact q σ H ads f
end
end FM

set_option Elab.async false
set_option linter.all false
set_option maxRecDepth 100000
set_option maxHeartbeats 4000000
/-! Ev15: all statements; defs; the whole program; the law. -/
namespace FM
open PySem PySem.Spec PyProof.Rows L2
/-! ### how arguments bind -/
theorem zip_look : ∀ {ps : List Str} {us : List Value}, us.length = ps.length → ∀ n ∈ ps, ((ps.zip us).lookup n).isNone = false
  | [], _, _, n, h => nomatch h
  | p :: ps, [], e, _, _ => by cases e
  | p :: ps, u :: us, e, n, h => by
    rw [List.zip_cons_cons, List.lookup_cons]
    cases hn : n == p with
    | true => rfl
    | false =>
      have : n ∈ ps := by
        rcases List.mem_cons.mp h with q | q
        · subst q; simp at hn
        · exact q
      exact zip_look (by simpa using e) n this
theorem filterMap_same {α β : Type} {f g : α → Option β} : ∀ {l : List α}, (∀ m ∈ l, f m = g m) → l.filterMap f = l.filterMap g
  | [], _ => rfl
  | a :: l, h => by
    rw [List.filterMap_cons, List.filterMap_cons, h a List.mem_cons_self, filterMap_same fun m hm => h m (List.mem_cons_of_mem _ hm)]
theorem zip_find : ∀ {ps : List Str} {us : List Value}, ps.Nodup → us.length = ps.length → (ps.filterMap fun n => ((ps.zip us).lookup n).map (n, ·)) = ps.zip us
  | [], [], _, _ => rfl
  | [], _ :: _, _, e => by cases e
  | _ :: _, [], _, e => by cases e
  | p :: ps, u :: us, nd, e => by
    have n := List.nodup_cons.mp nd
    have ih := zip_find (ps := ps) (us := us) n.2 (by simpa using e)
    have z : (ps.filterMap fun n => (((p, u) :: ps.zip us).lookup n).map (n, ·)) = ps.filterMap fun n => ((ps.zip us).lookup n).map (n, ·) := filterMap_same fun m hm => by
      have ne : (m == p) = false := by
        rw [beq_eq_false_iff_ne]
        rintro rfl
        exact n.1 hm
      rw [List.lookup_cons, ne]
    rw [List.zip_cons_cons, List.filterMap_cons]
    simp only [List.lookup_cons, beq_self_eq_true, Option.map_some]
    congr 1
    exact z.trans ih
theorem binds_gen {x qual : Str} {body : List Stmt} {scope : Scope} {kV doc pm cdv ct : Value} {an : Option Addr} (as : List Arg) (us : List Value) (nd : (as.map (·.arg)).Nodup) (hl : us.length = (as.map (·.arg)).length) :
  bindArgs (PySem.W.fnOf x qual { posonlyargs := [], args := as, vararg := none, kwonlyargs := [], kw_defaults := [], kwarg := none, defaults := [] } body scope .none kV doc pm an cdv ct) ⟨us, []⟩ = pure ((as.map (·.arg)).zip us) := by
  have hf : ((as.map (·.arg)).filter fun n => (((as.map (·.arg)).zip us).lookup n).isNone) = [] := by
    rw [List.filter_eq_nil_iff]
    intro n hn
    rw [zip_look hl n hn]
    exact Bool.false_ne_true
  have hz := zip_find nd hl
  generalize hps : as.map (·.arg) = ps at *
  have h1 : decide (us.length > ps.length) = false := by rw [decide_eq_false_iff_not]; omega
  unfold bindArgs
  simp only [hps, List.map_nil, List.nil_append, List.forIn_nil, pure_bind, seqItems?, notAStandIn, h1, Bool.false_and, Bool.false_eq_true, if_false, Option.getD_none, List.length_nil, Nat.zero_sub, List.drop_nil, Nat.sub_zero, List.take_length, hf, List.isEmpty_nil, Bool.not_true, List.drop_length, List.zip_nil_left, List.append_nil, hz]

section
variable {N fs : List Str} {F : Fs} {n : Nat} {sc : Scope} {X : Cx} {W : Nat}
/-! ### all statements -/
theorem swap_none (G : GS N fs F n sc X) {ts : List Expr} {k : Nat} {p : Pos} {v : Expr} (h : swapOk sc ts v = true) : swappedStores [.Tuple ts k p] v X.env = pure none := by
  cases v with
  | Tuple vs k2 p2 => exact swapC_ok G.hsc G.block (of_decide_eq_true h)
  | _ => rfl
theorem parOk_ok {i j : Nat} {t v : Expr} (h : parOk N sc i j t v = true) : ∃ x px y py kt pt va vb k2 pt2, t = .Tuple [.Name x px, .Name y py] kt pt ∧ v = .Tuple [va, vb] k2 pt2 ∧ swapC sc [.Name x px, .Name y py] [va, vb] = some (some [x, y]) ∧ N[i]? = some x ∧ N[j]? = some y ∧
    sc.names.lookup x = some .local ∧ sc.names.lookup y = some .local ∧ notStar va = true ∧ notStar vb = true ∧ i ≠ j := by
  unfold parOk at h
  split at h
  · simp only [Bool.and_eq_true, decide_eq_true_eq] at h
    obtain ⟨⟨⟨⟨⟨⟨⟨h1, h2⟩, h3⟩, h4⟩, h5⟩, h6⟩, h7⟩, h8⟩ := h
    exact ⟨_, _, _, _, _, _, _, _, _, _, rfl, rfl, h1, h2, h3, h4, h5, h6, h7, h8⟩
  · cases h
theorem s_par (G : GS N fs F n sc X) {i j : Nat} {a b : E} {x y : Str} {px py pt pt2 pos : Pos} {kt k2 : Nat} {va vb : Expr} (hw : swapC sc [.Name x px, .Name y py] [va, vb] = some (some [x, y])) (hi : N[i]? = some x) (hj : N[j]? = some y)
    (hx : sc.names.lookup x = some .local) (hy : sc.names.lookup y = some .local) (n1 : notStar va = true) (n2 : notStar vb = true) (hij : i ≠ j) (ha : Both X F va a) (hb : Both X F vb b) : PS X (.Assign [.Tuple [.Name x px, .Name y py] kt pt] (.Tuple [va, vb] k2 pt2) pos) (tX X.K (exec F W (.par i j a b))) := by
  have core := ps_par (X := X) (pos := pos) (px := px) (py := py) (pt := pt) (pt2 := pt2) (kt := kt) (k2 := k2) G.g.calm (by rw [G.g.hN]; exact G.g.nd) (by rw [G.g.hN]; exact hi) (by rw [G.g.hN]; exact hj) hij (by rw [G.hsc]; exact hx) (by rw [G.hsc]; exact hy)
    (pa_cons ha.v (pa_cons hb.v pa_nil (starEach_cons n2 _ _)) (starEach_cons n1 _ _)) (swapC_ok G.hsc G.block hw) rfl
  refine PS.imp core fun Dn σ H ⟨B, ads, ρ, μ, r, f, he, q⟩ => ?_
  unfold exec at he
  split at he
  · cases he
  · rename_i hl
    obtain ⟨d1, μ1, e1, he⟩ := andThen_some he
    obtain ⟨d2, μ2, e2, he⟩ := andThen_some he
    cases he
    simp only [Bool.or_eq_true, not_or, Bool.not_eq_true] at hl
    refine ⟨_, ads, ρ, μ, d1, μ1, f.hold, e1, fun v H1 ads1 x1 h1 r1 => ⟨_, ads1, ρ, μ1, d2, _, h1, e2, fun w H2 ads2 x2 h2 r2 => ⟨v, w, rfl, ?_⟩⟩⟩
    have r1' := r1.ext h1.c x2
    rw [hl.1.1.1.1] at r1'
    rw [hl.1.1.1.2] at r2
    have f2 := f.step (x1.trans x2) h2
    have f3 := f2.setPl (i := i) r1'.plain
    exact q _ H2 ads2 (f3.setPl (Rep.stay (antiOwn (K := X.K) fun b h => ownF_set h) _ _ r2.plain))
theorem frz_go {i : Nat} {ss : Ss} {ρ : Env} {μ : Cells} {r : Res} (he : execs F W (.cons (.frz i) ss) ρ μ = some r) : ∃ ds, ρ[i]? = some (some (Sl.ow ds)) ∧ execs F W ss (ρ.set i (some (.pl (.lst ds)))) μ = some r := by
  unfold execs exec at he
  cases h : ρ[i]? with
  | none => simp only [h] at he; cases he
  | some o =>
    cases o with
    | none => simp only [h] at he; cases he
    | some s =>
      cases s with
      | pl d => simp only [h] at he; cases he
      | ow ds =>
        simp only [h] at he
        exact ⟨ds, rfl, he⟩
theorem cons_go {s : S} {ss : Ss} {ρ : Env} {μ : Cells} {r : Res} (he : execs F W (.cons s ss) ρ μ = some r) : ∃ r1, exec F W s ρ μ = some r1 ∧ ((∃ ρ1 μ1, r1 = .nx ρ1 μ1 ∧ execs F W ss ρ1 μ1 = some r) ∨ ((∀ ρ1 μ1, r1 ≠ .nx ρ1 μ1) ∧ r = r1)) := by
  unfold execs at he
  cases h : exec F W s ρ μ with
  | none => rw [h] at he; cases he
  | some r1 =>
    rw [h] at he
    refine ⟨r1, rfl, ?_⟩
    cases r1 with
    | nx ρ1 μ1 => exact .inl ⟨ρ1, μ1, rfl, he⟩
    | bk ρ1 μ1 => cases he; exact .inr ⟨fun _ _ e => (by cases e), rfl⟩
    | ct ρ1 μ1 => cases he; exact .inr ⟨fun _ _ e => (by cases e), rfl⟩
    | rt d μ1 => cases he; exact .inr ⟨fun _ _ e => (by cases e), rfl⟩
theorem chkSs_cons {s : S} {ss : Ss} {sts : List Stmt} (hs : ∀ i, s ≠ .frz i) (h : chkSs N fs sc (.cons s ss) sts = true) : ∃ x xs, sts = x :: xs ∧ chkS N fs sc s x = true ∧ chkSs N fs sc ss xs = true := by
  cases sts with
  | nil =>
    exfalso
    cases s <;> first | exact absurd h Bool.false_ne_true | exact hs _ rfl
  | cons x xs =>
    have h' : (chkS N fs sc s x && chkSs N fs sc ss xs) = true := by
      cases s <;> first | exact h | exact absurd rfl (hs _)
    obtain ⟨h1, h2⟩ := and2 h'
    exact ⟨x, xs, rfl, h1, h2⟩
mutual
theorem sS : ∀ (s : S) (st : Stmt), GS N fs F n sc X → chkS N fs sc s st = true → PS X st (tX X.K (exec F W s))
  | .asg i e, st, G, h => by
    cases st with
    | Assign ts v pos =>
      match ts, h with
      | [t], h =>
        cases t with
        | Name x px =>
          obtain ⟨h1, h2, h3⟩ := and3 (show (decide (N[i]? = some x) && locB sc x && chkE N fs e sc v && asgOk sc x px v) = true from h)
          obtain ⟨h4, h5⟩ := and2 h1
          exact s_asg G (of_decide_eq_true h4) h5 h2 h3
        | _ => exact absurd h Bool.false_ne_true
      | [], h => exact absurd h Bool.false_ne_true
      | t :: _ :: _, h => cases t <;> exact absurd h Bool.false_ne_true
    | _ => exact absurd h Bool.false_ne_true
  | .own i, st, G, h => by
    cases st with
    | Assign ts v pos =>
      match ts, h with
      | [t], h =>
        cases t with
        | Name x px =>
          cases v with
          | List es p2 =>
            cases es with
            | nil =>
              obtain ⟨h4, h5⟩ := and2 (show (decide (N[i]? = some x) && locB sc x) = true from h)
              exact s_own G (of_decide_eq_true h4) h5
            | cons _ _ => exact absurd h Bool.false_ne_true
          | _ => exact absurd h Bool.false_ne_true
        | _ => exact absurd h Bool.false_ne_true
      | [], h => exact absurd h Bool.false_ne_true
      | t :: _ :: _, h => cases t <;> exact absurd h Bool.false_ne_true
    | _ => exact absurd h Bool.false_ne_true
  | .asgT is e, st, G, h => by
    cases st with
    | Assign ts v pos =>
      match ts, h with
      | [t], h =>
        cases t with
        | Tuple es k p =>
          obtain ⟨h1, h2, h3⟩ := and3 (show (chkTs N sc is es && !isComp v && chkE N fs e sc v && swapOk sc es v) = true from h)
          obtain ⟨h4, h5⟩ := and2 h1
          exact s_asgT G h4 (by simpa using h5) h2 (swap_none G h3)
        | _ => exact absurd h Bool.false_ne_true
      | [], h => exact absurd h Bool.false_ne_true
      | t :: _ :: _, h => cases t <;> exact absurd h Bool.false_ne_true
    | _ => exact absurd h Bool.false_ne_true
  | .par i j a b, st, G, h => by
    cases st with
    | Assign ts v pos =>
      match ts, h with
      | [t], h =>
        have h0 : (parOk N sc i j t v && pairB (chkE N fs a sc) (chkE N fs b sc) v) = true := h
        obtain ⟨h1, h2⟩ := and2 h0
        obtain ⟨x, px, y, py, kt, pt, va, vb, k2, pt2, e1, e2, g1, g2, g3, g4, g5, g6, g7, g8⟩ := parOk_ok h1
        subst e1 e2
        obtain ⟨h3, h4⟩ := and2 (show (chkE N fs a sc va && chkE N fs b sc vb) = true from h2)
        exact s_par G g1 g2 g3 g4 g5 g6 g7 g8 (sE a sc va X G.g h3) (sE b sc vb X G.g h4)
      | [], h => exact absurd h Bool.false_ne_true
      | t :: _ :: _, h => cases t <;> exact absurd h Bool.false_ne_true
    | _ => exact absurd h Bool.false_ne_true
  | .aug i o e, st, G, h => by
    cases st with
    | AugAssign t o' v pos =>
      cases t with
      | Name x px =>
        obtain ⟨h1, h2, h3⟩ := and3 (show (decide (o = o') && opAS o && decide (N[i]? = some x) && locB sc x && chkE N fs e sc v) = true from h)
        obtain ⟨h4, h5, h6⟩ := and3 h1
        have e1 : o = o' := of_decide_eq_true h4
        subst e1
        exact s_aug G (of_decide_eq_true h6) h2 h5 h3
      | _ => exact absurd h Bool.false_ne_true
    | _ => exact absurd h Bool.false_ne_true
  | .app i e, st, G, h => by
    cases st with
    | Expr v pos =>
      cases v with
      | Call f as ks cpos =>
        cases f with
        | Attribute b g apos =>
          cases b with
          | Name x px =>
            match as, ks, h with
            | [v], [], h =>
              obtain ⟨h1, h2, h3⟩ := and3 (show (decide (g = "append") && nameIs N sc i x && (apos.endLine == cpos.line) && notStar v && chkE N fs e sc v) = true from h)
              obtain ⟨h4, h5, h6⟩ := and3 h1
              have e1 : g = "append" := of_decide_eq_true h4
              subst e1
              exact s_app G h5 h6 h2 h3
            | [], _, h => exact absurd h Bool.false_ne_true
            | [_], _ :: _, h => exact absurd h Bool.false_ne_true
            | _ :: _ :: _, _, h => exact absurd h Bool.false_ne_true
          | _ => exact absurd h Bool.false_ne_true
        | _ => exact absurd h Bool.false_ne_true
      | _ => exact absurd h Bool.false_ne_true
    | _ => exact absurd h Bool.false_ne_true
  | .ins i k e, st, G, h => by
    cases st with
    | Expr v pos =>
      cases v with
      | Call f as ks cpos =>
        cases f with
        | Attribute b g apos =>
          cases b with
          | Name x px =>
            match as, ks, h with
            | [u, v], [], h =>
              obtain ⟨h0, h7, h8⟩ := and3 (show (decide (g = "insert") && nameIs N sc i x && (apos.endLine == cpos.line) && notStar u && notStar v && chkE N fs k sc u && chkE N fs e sc v) = true from h)
              obtain ⟨h1, h2, h3⟩ := and3 h0
              obtain ⟨h4, h5, h6⟩ := and3 h1
              have e1 : g = "insert" := of_decide_eq_true h4
              subst e1
              exact s_ins G h5 h6 h2 h3 h7 h8
            | [], _, h => exact absurd h Bool.false_ne_true
            | [_], _, h => exact absurd h Bool.false_ne_true
            | [_, _], _ :: _, h => exact absurd h Bool.false_ne_true
            | _ :: _ :: _ :: _, _, h => exact absurd h Bool.false_ne_true
          | _ => exact absurd h Bool.false_ne_true
        | _ => exact absurd h Bool.false_ne_true
      | _ => exact absurd h Bool.false_ne_true
    | _ => exact absurd h Bool.false_ne_true
  | .daug o k op e, st, G, h => by
    cases st with
    | AugAssign t o' v pos =>
      cases t with
      | Subscript a b p2 =>
        obtain ⟨h1, h2, h3⟩ := and3 (show (decide (op = o') && opAS op && notSlice b && chkE N fs o sc a && chkE N fs k sc b && chkE N fs e sc v) = true from h)
        obtain ⟨h4, h5, h6⟩ := and3 h1
        obtain ⟨h7, h8⟩ := and2 h4
        have e1 : op = o' := of_decide_eq_true h7
        subst e1
        exact s_daug G h5 h6 h2 h3
      | _ => exact absurd h Bool.false_ne_true
    | _ => exact absurd h Bool.false_ne_true
  | .ret e, st, G, h => by
    cases st with
    | Return v pos =>
      cases v with
      | none => exact absurd h Bool.false_ne_true
      | some v => exact s_ret G h
    | _ => exact absurd h Bool.false_ne_true
  | .ifs c a b, st, G, h => by
    cases st with
    | If x ys zs pos =>
      obtain ⟨h1, h2, h3⟩ := and3 (show (chkE N fs c sc x && chkSs N fs sc a ys && chkSs N fs sc b zs) = true from h)
      exact s_ifs G h1 (sSs a ys G h2) (sSs b zs G h3)
    | _ => exact absurd h Bool.false_ne_true
  | .whl c b, st, G, h => by
    cases st with
    | While x ys zs pos =>
      cases zs with
      | nil =>
        obtain ⟨h1, h2⟩ := and2 (show (chkE N fs c sc x && chkSs N fs sc b ys) = true from h)
        exact s_whl G h1 (sSs b ys G h2)
      | cons _ _ => exact absurd h Bool.false_ne_true
    | _ => exact absurd h Bool.false_ne_true
  | .for_ tg it b, st, G, h => by
    cases st with
    | For t i ys zs pos =>
      cases zs with
      | nil =>
        obtain ⟨h1, h2, h3⟩ := and3 (show (chkTg N sc tg t && chkIt N fs it sc i && notSet i && chkSs N fs sc b ys) = true from h)
        obtain ⟨h4, h5⟩ := and2 h1
        exact s_for G h4 h5 h2 (sSs b ys G h3)
      | cons _ _ => exact absurd h Bool.false_ne_true
    | _ => exact absurd h Bool.false_ne_true
  | .expr e, st, G, h => by
    cases st with
    | Expr v pos =>
      obtain ⟨h1, h2⟩ := and2 (show (!isComp v && chkE N fs e sc v) = true from h)
      exact s_expr G (by simpa using h1) h2
    | _ => exact absurd h Bool.false_ne_true
  | .pass, st, G, h => by
    cases st with
    | Pass pos => exact s_pass
    | _ => exact absurd h Bool.false_ne_true
  | .brk, st, G, h => by
    cases st with
    | Break pos => exact s_brk
    | _ => exact absurd h Bool.false_ne_true
  | .cont, st, G, h => by
    cases st with
    | Continue pos => exact s_cont
    | _ => exact absurd h Bool.false_ne_true
  | .frz i, st, G, h => absurd h Bool.false_ne_true
theorem sSs : ∀ (ss : Ss) (sts : List Stmt), GS N fs F n sc X → chkSs N fs sc ss sts = true → PSs X sts (tX X.K (execs F W ss))
  | .nil, [], G, h => PSs.imp pss_nil fun Dn σ H ⟨B, ads, ρ, μ, r, f, he, q⟩ => by
    cases he
    exact q σ H ads f
  | .nil, _ :: _, G, h => absurd h Bool.false_ne_true
  | .cons s ss, sts, G, h => by
    by_cases hs : ∃ i, s = .frz i
    · obtain ⟨i, rfl⟩ := hs
      refine PSs.imp (sSs ss sts G h) fun Dn σ H ⟨B, ads, ρ, μ, r, f, he, q⟩ => ?_
      obtain ⟨ds, hρ, he⟩ := frz_go he
      exact ⟨B, ads, _, μ, r, f.frz hρ, he, q⟩
    · obtain ⟨x, xs, rfl, h1, h2⟩ := chkSs_cons (fun i e => hs ⟨i, e⟩) h
      refine PSs.imp (pss_cons (sS s x G h1) (sSs ss xs G h2)) fun Dn σ H ⟨B, ads, ρ, μ, r, f, he, q⟩ => ?_
      obtain ⟨r1, e1, he⟩ := cons_go he
      rcases he with ⟨ρ1, μ1, rfl, he⟩ | ⟨hn, rfl⟩
      · exact ⟨B, ads, ρ, μ, _, f, e1, fun σ' H' ads' f' => ⟨B, ads', ρ1, μ1, r, f', he, q⟩⟩
      · refine ⟨B, ads, ρ, μ, r, f, e1, ?_⟩
        cases r with
        | nx ρ1 μ1 => exact absurd rfl (hn ρ1 μ1)
        | bk ρ1 μ1 => exact q
        | ct ρ1 μ1 => exact q
        | rt d μ1 => exact q
end
end
end FM

set_option Elab.async false
set_option linter.all false
set_option maxRecDepth 100000
set_option maxHeartbeats 4000000
/-! Ev16: defs, the whole program, the law. -/
namespace FM
open PySem PySem.Spec PyProof.Rows L2

/-! ### a def -/
/-- a def's text: its statement, its slots (parameters first), its parameters, its body in the little language -/
structure FD where
  name : Str
  st : Stmt
  N : List Str
  ps : List Str
  body : Ss
def FD.fn (d : FD) : Fn := ⟨d.ps.length, d.N.length, d.body⟩
def plainArgs : Arguments → List Str → Bool
  | ⟨[], as, none, [], [], none, []⟩, ps => decide (as.map (·.arg) = ps)
  | _, _ => false
def scopeOk (N ps : List Str) (sc : Scope) : Bool :=
  (match sc.kind with | .function => true | _ => false) && !sc.isCoroutine && !sc.isGenerator && decide N.Nodup && decide (N.take ps.length = ps) && (ps.all fun x => locB sc x) && (sc.names.all fun y => match y.2 with | .free => false | _ => true)
def FD.chk (fs : List Str) (d : FD) : Bool := scopeOk d.N d.ps (defScope d.st) && plainArgs (defArgs d.st) d.ps && chkSs d.N fs (defScope d.st) d.body (defBody d.st)
theorem scopeOk_ok {N ps : List Str} {sc : Scope} (h : scopeOk N ps sc = true) : FnScope N ps sc := by
  unfold scopeOk at h
  simp only [Bool.and_eq_true, decide_eq_true_eq, List.all_eq_true] at h
  obtain ⟨⟨⟨⟨⟨⟨h1, h2⟩, h3⟩, h4⟩, h5⟩, h6⟩, h7⟩ := h
  refine ⟨?_, by simpa using h2, by simpa using h3, h4, h5, fun x hx => ?_, fun y hy => ?_⟩
  · split at h1
    · assumption
    · cases h1
  · have z := h6 x hx
    unfold locB at z
    split at z
    · exact .inl (by assumption)
    · exact .inr (by assumption)
    · cases z
  · have z := h7 y hy
    intro e
    simp only [e] at z
    cases z
theorem plainArgs_ok {as : Arguments} {ps : List Str} (h : plainArgs as ps = true) : ∃ l, as = { posonlyargs := [], args := l, vararg := none, kwonlyargs := [], kw_defaults := [], kwarg := none, defaults := [] } ∧ l.map (·.arg) = ps := by
  unfold plainArgs at h
  split at h
  · exact ⟨_, rfl, of_decide_eq_true h⟩
  · cases h
section
variable {P : Program} {w : World} {K : PySem.W.Frag} {mg : Str → Option Value} {base : Heap} {fs : List Str} {W : Nat}
theorem env0_get {ds : List D} {m : Nat} {i : Nat} {s : Sl} (e : (ds.map (fun d => some (Sl.pl d)) ++ List.replicate m none)[i]? = some (some s)) : ∃ d, s = .pl d ∧ ds[i]? = some d := by
  by_cases hi : i < ds.length
  · rw [List.getElem?_append_left (by simpa using hi), List.getElem?_map] at e
    cases h : ds[i]? with
    | none => rw [h] at e; cases e
    | some d => rw [h] at e; cases e; exact ⟨d, rfl, rfl⟩
  · rw [List.getElem?_append_right (by simpa using hi), List.getElem?_replicate] at e
    split at e <;> cases e
theorem start_ok {d : FD} {own : Addr → Prop} {ads : List Addr} {H : Hp} {vs : List V} {ds : List D} {μ : Cells} (l : RepL K (Zo own ads) ads H vs ds) (c : CellsR K own ads H μ) (h1 : ds.length = d.fn.ar) (h2 : d.fn.ar ≤ d.fn.sl) :
    FI K ⟨own, ads, H, fun _ _ => False, []⟩ ads H (L2.start d.N vs) (ds.map (fun d => some (Sl.pl d)) ++ List.replicate (d.fn.sl - d.fn.ar) none) μ := by
  have no : ∀ (i : Nat) (es : List D), (ds.map (fun d => some (Sl.pl d)) ++ List.replicate (d.fn.sl - d.fn.ar) none)[i]? ≠ some (some (Sl.ow es)) := fun i es e => by
    obtain ⟨d, e1, _⟩ := env0_get e
    cases e1
  have fewer : ∀ b, ownF own (L2.start d.N vs) (ds.map (fun d => some (Sl.pl d)) ++ List.replicate (d.fn.sl - d.fn.ar) none) b → own b := fun b h => by
    rcases h with h | ⟨i, es, e, _⟩
    · exact h
    · exact absurd e (no i es)
  refine ⟨⟨fun i s e => ?_, c.anti fewer, ?_⟩, .refl, fun i j es gs b e _ _ _ => absurd e (no i es), fun i es b e _ => absurd e (no i es), fun b h => ?_, fun b o z => z.elim, fun k a e => by simp at e⟩
  · obtain ⟨dd, e1, e2⟩ := env0_get e
    subst e1
    obtain ⟨v, e3, e4⟩ := l.get e2
    refine ⟨v, ?_, Rep.stay (antiOwn (K := K) fewer) _ _ e4⟩
    unfold L2.start
    have hi := (List.getElem?_eq_some_iff.mp e3).1
    rw [List.getElem?_append_left (by simpa using hi), List.getElem?_map, e3]
    rfl
  · unfold L2.start
    rw [List.length_append, List.length_append, List.length_map, List.length_map, List.length_replicate, List.length_replicate, l.length, h1]
    rfl
  · obtain ⟨o, h1, _⟩ := c.ownT b h
    exact ⟨o, h1⟩
/-- a def keeps what the evaluator says of it -/
theorem fd_ok {d : FD} {F : Fs} {n : Nat} {f : Addr} {fd : FuncData} (hd : d.chk fs = true) (FDn : FunD K d.name d.name (defArgs d.st) (defBody d.st) (defScope d.st) [] [] f fd) (bn : ∀ x ∈ bnames, mg x = none)
    (hF : ∀ f g, fs[f]? = some g → FnH P w K mg base n g (F f)) : FnOk P w K mg base CX0 (n + 1) f fd d.ps (spF K d.ps.length (runFn F W d.fn)) := by
  unfold FD.chk at hd
  obtain ⟨h1, h2, h3⟩ := and3 hd
  have S := scopeOk_ok h1
  refine FDn.ok S (fun vs H Q E h => h.1) (fun cdv A outer s H vs Q E hr h => ?_)
  have G : GS d.N fs F n (defScope d.st) (cxOf CX0 P w K mg base d.N d.name (defScope d.st) f cdv A outer s H E).nox := by
    refine ⟨⟨rfl, S.nd, rfl, rfl, hr, fun x h => ?_, fun x h => ?_, fun x h => ?_, fun x h => h, bn, hF⟩, rfl, S.kind⟩
    · unfold visB at h
      split at h
      · exact .inl (by assumption)
      · exact .inr (.inl (by assumption))
      · exact .inr (.inr (by assumption))
      · cases h
    · unfold gloB at h
      split at h
      · assumption
      · cases h
    · unfold locB at h
      split at h
      · exact ⟨.inl (by assumption), .inl rfl⟩
      · exact ⟨.inr (by assumption), .inl rfl⟩
      · cases h
  refine ⟨_, PSs.nox (sSs (W := W) d.body (defBody d.st) G h3), ?_⟩
  obtain ⟨hl, own, ads, ds, μ, dd, μ', l, c, he, q⟩ := h
  unfold runFn at he
  split at he
  · rename_i hn
    split at he
    · rename_i dr μr hx
      cases he
      refine ⟨⟨own, ads, H, fun _ _ => False, []⟩, ads, _, μ, _, ?_, hx, ?_⟩
      · exact start_ok l c hn.1 hn.2
      · exact fun v H' ads' e c' r => q v H' ads' e c' (.inl r)
    · rename_i ρr μr hx
      cases he
      refine ⟨⟨own, ads, H, fun _ _ => False, []⟩, ads, _, μ, _, ?_, hx, ?_⟩
      · exact start_ok l c hn.1 hn.2
      · intro σ' H' ads' f'
        have anti : ∀ b, own b → ownF own σ' ρr b := fun b z => .inl z
        exact q .non H' ads' f'.ext (f'.hold.c.anti anti) (.inl .non)
    · cases he
  · cases he
/-! ### the whole program -/
/-- the defs by their numbers -/
def tabOf (l : List FD) : Nat → Option Fn := fun f => (l[f]?).map FD.fn
theorem bindsF {d : FD} {f : Addr} {fd : FuncData} (hd : d.chk fs = true) (FDn : FunD K d.name d.name (defArgs d.st) (defBody d.st) (defScope d.st) [] [] f fd) :
    (∀ (kV doc pm : Value) (an : Option Addr) (cdv ct : Value) (us : List Value), us.length = d.ps.length → bindArgs (PySem.W.fnOf d.name d.name (defArgs d.st) (defBody d.st) (defScope d.st) .none kV doc pm an cdv ct) ⟨us, []⟩ = pure (d.ps.zip us)) := by
  unfold FD.chk at hd
  obtain ⟨h1, h2, h3⟩ := and3 hd
  have S := scopeOk_ok h1
  obtain ⟨l, e1, e2⟩ := plainArgs_ok h2
  have nd : d.ps.Nodup := by rw [← S.pre]; exact S.nd.sublist (List.take_sublist _ _)
  intro kV doc pm an cdv ct us hl
  rw [e1]
  have z := binds_gen (x := d.name) (qual := d.name) (body := defBody d.st) (scope := defScope d.st) (kV := kV) (doc := doc) (pm := pm) (an := an) (cdv := cdv) (ct := ct) l us (by rw [e2]; exact nd) (by rw [e2]; exact hl)
  rw [e2] at z
  exact z
theorem all_ok {l : List FD} (hfs : fs = l.map FD.name) (hd : ∀ d ∈ l, d.chk fs = true) (bn : ∀ x ∈ bnames, mg x = none)
    (hK : ∀ d ∈ l, ∃ a fd, mg d.name = some (.ref a) ∧ FunD K d.name d.name (defArgs d.st) (defBody d.st) (defScope d.st) [] [] a fd) :
    ∀ n f g, fs[f]? = some g → FnH P w K mg base n g (call (tabOf l) W n f)
  | 0, f, g, _ => fun ds μ d μ' e => by cases e
  | n + 1, f, g, hg => fun ds μ dd μ' e => by
    have ih := all_ok hfs hd bn hK n
    have hl : ∃ d, l[f]? = some d ∧ d.name = g := by
      rw [hfs, List.getElem?_map] at hg
      cases q : l[f]? with
      | none => rw [q] at hg; cases hg
      | some d => rw [q] at hg; cases hg; exact ⟨d, rfl, rfl⟩
    obtain ⟨d, q, rfl⟩ := hl
    have mem := List.mem_of_getElem? q
    have hT : tabOf l f = some d.fn := by unfold tabOf; rw [q]; rfl
    have hcall : call (tabOf l) W (n + 1) f = runFn (call (tabOf l) W n) W d.fn := by
      funext ds μ
      show (match tabOf l f with | some fn => runFn (call (tabOf l) W n) W fn ds μ | none => none) = _
      rw [hT]
    obtain ⟨a, fd, m1, m2⟩ := hK d mem
    have hdm := hd d mem
    refine ⟨a, fd, d.ps, m1, m2.kp, m2.bindsN (bindsF hdm m2), ?_, ?_⟩
    · rw [hcall] at e
      unfold runFn at e
      split at e
      · rename_i hh
        exact hh.1.symm
      · cases e
    · rw [hcall]
      exact fd_ok hdm m2 bn ih
/-- the law's promise from the evaluator's answer -/
theorem law_sp {F : List D → Cells → Option (D × Cells)} {H : Hp} {a : Addr} {ns : List Int} {μ' : Cells} (hS : SqL K H a (ns.map V.int)) (h : F [.lst (ns.map D.int)] [] = some (.bl true, μ')) :
    spF K 1 F [.ref a] H (fun v _ => v = .bl true) fun _ _ _ => False := by
  refine ⟨rfl, fun _ => False, [], [.lst (ns.map D.int)], [], .bl true, μ', .cons (.lst ?_ (RepL.ofInts ns)) .nil, ⟨rfl, .nil, fun k a e => by simp at e, fun a z => (nomatch z), fun b z => z.elim⟩, h, fun v H' ads' e c r => r.bl⟩
  rcases hS with hS | hS
  · exact .inl ⟨hS, fun z => z.elim (fun z => z) fun z => (nomatch z)⟩
  · exact .inr hS
end
end FM

set_option Elab.async false
set_option linter.all false
set_option maxRecDepth 100000
namespace FM
def B_is_whole : Ss := (.cons (.ret (.and (.isi (.var 0) .int) (.not (.isi (.var 0) .bool)))) .nil)
def B_common : Ss := (.cons (.whl (.cmp .NotEq (.var 1) (.int 0)) (.cons (.par 0 1 (.var 1) (.op .Mod (.var 0) (.var 1))) .nil)) (.cons (.ret (.bi .abs (.cons (.var 0) .nil))) .nil))
def B_frac (c_common : Nat) : Ss := (.cons (.asg 2 (.call c_common (.cons (.var 0) (.cons (.var 1) .nil)))) (.cons (.ifs (.cmp .Lt (.var 1) (.int 0)) (.cons (.asg 2 (.neg (.var 2))) .nil) .nil) (.cons (.ret (.tup (.cons (.op .FloorDiv (.var 0) (.var 2)) (.cons (.op .FloorDiv (.var 1) (.var 2)) .nil)))) .nil)))
def B_is_frac (c_is_whole : Nat) (c_common : Nat) : Ss := (.cons (.ifs (.or (.not (.isi (.var 0) .tuple)) (.or (.cmp .NotEq (.bi .len (.cons (.var 0) .nil)) (.int 2)) (.not (.bi .all (.cons (.lc (.call c_is_whole (.cons (.var 1) .nil)) (.nm 1) (.seq (.var 0)) .none) .nil))))) (.cons (.ret (.bl false)) .nil) .nil) (.cons (.ret (.and (.cmp .Gt (.ix (.var 0) (.int 1)) (.int 0)) (.cmp .Eq (.call c_common (.cons (.ix (.var 0) (.int 0)) (.cons (.ix (.var 0) (.int 1)) .nil))) (.int 1)))) .nil))
def B_whole : Ss := (.cons (.ret (.tup (.cons (.var 0) (.cons (.int 1) .nil)))) .nil)
def B_plus (c_frac : Nat) : Ss := (.cons (.ret (.call c_frac (.cons (.op .Add (.op .Mult (.ix (.var 0) (.int 0)) (.ix (.var 1) (.int 1))) (.op .Mult (.ix (.var 1) (.int 0)) (.ix (.var 0) (.int 1)))) (.cons (.op .Mult (.ix (.var 0) (.int 1)) (.ix (.var 1) (.int 1))) .nil)))) .nil)
def B_minus (c_frac : Nat) : Ss := (.cons (.ret (.call c_frac (.cons (.op .Sub (.op .Mult (.ix (.var 0) (.int 0)) (.ix (.var 1) (.int 1))) (.op .Mult (.ix (.var 1) (.int 0)) (.ix (.var 0) (.int 1)))) (.cons (.op .Mult (.ix (.var 0) (.int 1)) (.ix (.var 1) (.int 1))) .nil)))) .nil)
def B_times (c_frac : Nat) : Ss := (.cons (.ret (.call c_frac (.cons (.op .Mult (.ix (.var 0) (.int 0)) (.ix (.var 1) (.int 0))) (.cons (.op .Mult (.ix (.var 0) (.int 1)) (.ix (.var 1) (.int 1))) .nil)))) .nil)
def B_over (c_frac : Nat) : Ss := (.cons (.ret (.call c_frac (.cons (.op .Mult (.ix (.var 0) (.int 0)) (.ix (.var 1) (.int 1))) (.cons (.op .Mult (.ix (.var 0) (.int 1)) (.ix (.var 1) (.int 0))) .nil)))) .nil)
def B_sign_of : Ss := (.cons (.ret (.op .Sub (.cmp .Gt (.ix (.var 0) (.int 0)) (.int 0)) (.cmp .Lt (.ix (.var 0) (.int 0)) (.int 0)))) .nil)
def B_less : Ss := (.cons (.ret (.cmp .Lt (.op .Mult (.ix (.var 0) (.int 0)) (.ix (.var 1) (.int 1))) (.op .Mult (.ix (.var 1) (.int 0)) (.ix (.var 0) (.int 1))))) .nil)
def B_least (c_less : Nat) : Ss := (.cons (.ret (.ife (.call c_less (.cons (.var 0) (.cons (.var 1) .nil))) (.var 0) (.var 1))) .nil)
def B_most (c_less : Nat) : Ss := (.cons (.ret (.ife (.call c_less (.cons (.var 0) (.cons (.var 1) .nil))) (.var 1) (.var 0))) .nil)
def B_floor_of : Ss := (.cons (.ret (.op .FloorDiv (.ix (.var 0) (.int 0)) (.ix (.var 0) (.int 1)))) .nil)
def B_root_below : Ss := (.cons (.ifs (.cmp .Eq (.var 0) (.int 0)) (.cons (.ret (.int 0)) .nil) .nil) (.cons (.asg 1 (.op .LShift (.int 1) (.op .FloorDiv (.op .Add (.me .bits (.var 0) .nil) (.int 1)) (.int 2)))) (.cons (.whl (.bl true) (.cons (.asg 2 (.op .FloorDiv (.op .Add (.var 1) (.op .FloorDiv (.var 0) (.var 1))) (.int 2))) (.cons (.ifs (.cmp .GtE (.var 2) (.var 1)) (.cons (.ret (.var 1)) .nil) .nil) (.cons (.asg 1 (.var 2)) .nil)))) .nil)))
def B_exact_root (c_root_below : Nat) : Ss := (.cons (.ifs (.cmp .Lt (.ix (.var 0) (.int 0)) (.int 0)) (.cons (.ret .non) .nil) .nil) (.cons (.par 1 2 (.call c_root_below (.cons (.ix (.var 0) (.int 0)) .nil)) (.call c_root_below (.cons (.ix (.var 0) (.int 1)) .nil))) (.cons (.ret (.ife (.and (.cmp .Eq (.op .Mult (.var 1) (.var 1)) (.ix (.var 0) (.int 0))) (.cmp .Eq (.op .Mult (.var 2) (.var 2)) (.ix (.var 0) (.int 1)))) (.tup (.cons (.var 1) (.cons (.var 2) .nil))) .non)) .nil)))
def B_root_above (c_root_below : Nat) (c_frac : Nat) : Ss := (.cons (.asg 2 (.op .Mult (.op .Mult (.ix (.var 0) (.int 0)) (.var 1)) (.var 1))) (.cons (.asg 3 (.call c_root_below (.cons (.op .FloorDiv (.var 2) (.ix (.var 0) (.int 1))) .nil))) (.cons (.whl (.cmp .Lt (.op .Mult (.op .Mult (.var 3) (.var 3)) (.ix (.var 0) (.int 1))) (.var 2)) (.cons (.aug 3 .Add (.int 1)) .nil)) (.cons (.ret (.call c_frac (.cons (.var 3) (.cons (.var 1) .nil)))) .nil))))
def B_text_of : Ss := (.cons (.ret (.op .Add (.bi .str (.cons (.ix (.var 0) (.int 0)) .nil)) (.ife (.cmp .Gt (.ix (.var 0) (.int 1)) (.int 1)) (.op .Add (.str "/") (.bi .str (.cons (.ix (.var 0) (.int 1)) .nil))) (.str "")))) .nil)
def B_figures_in : Ss := (.cons (.ifs (.or (.cmp .Eq (.var 0) (.str "")) (.not (.bi .all (.cons (.lc (.cmp .In (.var 1) (.str "0123456789")) (.nm 1) (.seq (.var 0)) .none) .nil)))) (.cons (.ret .non) .nil) .nil) (.cons (.ret (.ife (.or (.cmp .Eq (.var 0) (.str "0")) (.cmp .NotEq (.ix (.var 0) (.int 0)) (.str "0"))) (.bi .int (.cons (.var 0) .nil)) .non)) .nil))
def B_frac_in (c_figures_in : Nat) (c_frac : Nat) (c_text_of : Nat) : Ss := (.cons (.asgT [4, 5, 6] (.me .partition (.var 0) (.cons (.str "/") .nil))) (.cons (.asg 1 (.call c_figures_in (.cons (.ife (.cmp .Eq (.sl (.var 4) .none (.some (.int 1))) (.str "-")) (.sl (.var 4) (.some (.int 1)) .none) (.var 4)) .nil))) (.cons (.asg 2 (.ife (.cmp .NotEq (.var 5) (.str "")) (.call c_figures_in (.cons (.var 6) .nil)) (.int 1))) (.cons (.ifs (.or (.cmp .Is (.var 1) .non) (.cmp .In (.var 2) (.tup (.cons .non (.cons (.int 0) .nil))))) (.cons (.ret .non) .nil) .nil) (.cons (.asg 3 (.call c_frac (.cons (.ife (.cmp .Eq (.sl (.var 4) .none (.some (.int 1))) (.str "-")) (.neg (.var 1)) (.var 1)) (.cons (.var 2) .nil)))) (.cons (.ret (.ife (.cmp .Eq (.call c_text_of (.cons (.var 3) .nil)) (.var 0)) (.var 3) .non)) .nil))))))
def B_mean (c_over : Nat) (c_plus : Nat) : Ss := (.cons (.ret (.call c_over (.cons (.call c_plus (.cons (.var 0) (.cons (.var 1) .nil))) (.cons (.tup (.cons (.int 2) (.cons (.int 1) .nil))) .nil)))) .nil)
def B_sum_of (c_plus : Nat) : Ss := (.cons (.asg 1 (.tup (.cons (.int 0) (.cons (.int 1) .nil)))) (.cons (.for_ (.nm 2) (.seq (.var 0)) (.cons (.asg 1 (.call c_plus (.cons (.var 1) (.cons (.var 2) .nil)))) .nil)) (.cons (.ret (.var 1)) .nil)))
def B__law_draws : Ss := (.cons (.own 2) (.cons (.asg 3 (.int 7)) (.cons (.for_ (.nm 4) (.rng1 (.bi .len (.cons (.var 0) .nil))) (.cons (.asg 5 (.bi .abs (.cons (.bi .int (.cons (.ix (.var 0) (.var 4)) .nil)) .nil))) (.cons (.asg 3 (.op .Mod (.bi .int (.cons (.op .Add (.op .Add (.op .Mult (.var 3) (.int 48271)) (.op .Mod (.var 5) (.int 1000003))) (.var 4)) .nil)) (.int 65537))) (.cons (.asg 6 (.int 0)) (.cons (.ifs (.cmp .GtE (.var 5) (.op .Pow (.int 10) (.int 18))) (.cons (.asg 6 (.var 5)) .nil) (.cons (.app 2 (.op .Mod (.bi .int (.cons (.var 5) .nil)) (.int 997))) (.cons (.app 2 (.op .Mod (.op .Mod (.bi .int (.cons (.op .Add (.op .Mult (.var 3) (.int 69621)) (.int 5)) .nil)) (.int 65521)) (.int 997))) .nil))) (.cons (.for_ (.nm 7) (.rng1 (.int 60)) (.cons (.ifs (.cmp .Gt (.var 6) (.int 0)) (.cons (.app 2 (.op .Mod (.bi .int (.cons (.var 6) .nil)) (.int 997))) (.cons (.asg 6 (.op .FloorDiv (.var 6) (.int 997))) .nil)) .nil) .nil)) .nil)))))) (.cons (.for_ (.nm 4) (.rng1 (.var 1)) (.cons (.asg 3 (.op .Mod (.bi .int (.cons (.op .Add (.op .Add (.op .Mult (.var 3) (.int 16807)) (.var 4)) (.int 1)) .nil)) (.int 65537))) (.cons (.app 2 (.op .Mod (.bi .int (.cons (.var 3) .nil)) (.int 997))) .nil))) (.cons (.ret (.sl (.var 2) .none (.some (.var 1)))) .nil)))))
def B__law_next : Ss := (.cons (.daug (.var 0) (.str "at") .Add (.int 1)) (.cons (.ifs (.cmp .Gt (.ix (.var 0) (.str "at")) (.bi .len (.cons (.ix (.var 0) (.str "draws")) .nil))) (.cons (.ret (.int 0)) .nil) .nil) (.cons (.ret (.op .Mod (.bi .int (.cons (.ix (.ix (.var 0) (.str "draws")) (.op .Sub (.ix (.var 0) (.str "at")) (.int 1))) .nil)) (.var 1))) .nil)))
def B__law_alike (c__law_alike : Nat) : Ss := (.cons (.ifs (.isi (.var 1) .tuple) (.cons (.ifs (.or (.not (.isi (.var 0) .tuple)) (.cmp .NotEq (.bi .len (.cons (.var 0) .nil)) (.bi .len (.cons (.var 1) .nil)))) (.cons (.ret (.bl false)) .nil) .nil) (.cons (.ret (.cmp .Eq (.lc (.var 2) (.nm 2) (.rng1 (.bi .len (.cons (.var 1) .nil))) (.some (.not (.call c__law_alike (.cons (.ix (.var 0) (.var 2)) (.cons (.ix (.var 1) (.var 2)) .nil)))))) (.lst .nil))) .nil)) .nil) (.cons (.ifs (.cmp .Is (.var 1) .non) (.cons (.ret (.cmp .Is (.var 0) .non)) .nil) .nil) (.cons (.ifs (.isi (.var 1) .bool) (.cons (.ret (.and (.isi (.var 0) .bool) (.cmp .Eq (.var 0) (.var 1)))) .nil) .nil) (.cons (.ifs (.isi (.var 1) .int) (.cons (.ret (.and (.isi (.var 0) .int) (.and (.not (.isi (.var 0) .bool)) (.cmp .Eq (.var 0) (.var 1))))) .nil) .nil) (.cons (.ret (.and (.isi (.var 0) .str) (.cmp .Eq (.var 0) (.var 1)))) .nil)))))
def B__law_gcd : Ss := (.cons (.whl (.cmp .NotEq (.var 1) (.int 0)) (.cons (.par 0 1 (.var 1) (.op .Sub (.var 0) (.op .Mult (.op .FloorDiv (.var 0) (.var 1)) (.var 1)))) .nil)) (.cons (.ret (.bi .abs (.cons (.var 0) .nil))) .nil))
def B__law_fr (c__law_gcd : Nat) : Ss := (.cons (.asg 2 (.ife (.cmp .Gt (.var 1) (.int 0)) (.call c__law_gcd (.cons (.var 0) (.cons (.var 1) .nil))) (.op .Sub (.int 0) (.call c__law_gcd (.cons (.var 0) (.cons (.var 1) .nil)))))) (.cons (.ret (.tup (.cons (.op .FloorDiv (.var 0) (.var 2)) (.cons (.op .FloorDiv (.var 1) (.var 2)) .nil)))) .nil))
def B__law_add (c__law_fr : Nat) : Ss := (.cons (.ret (.call c__law_fr (.cons (.op .Add (.op .Mult (.ix (.var 0) (.int 0)) (.ix (.var 1) (.int 1))) (.op .Mult (.ix (.var 1) (.int 0)) (.ix (.var 0) (.int 1)))) (.cons (.op .Mult (.ix (.var 0) (.int 1)) (.ix (.var 1) (.int 1))) .nil)))) .nil)
def B__law_sub (c__law_fr : Nat) : Ss := (.cons (.ret (.call c__law_fr (.cons (.op .Sub (.op .Mult (.ix (.var 0) (.int 0)) (.ix (.var 1) (.int 1))) (.op .Mult (.ix (.var 1) (.int 0)) (.ix (.var 0) (.int 1)))) (.cons (.op .Mult (.ix (.var 0) (.int 1)) (.ix (.var 1) (.int 1))) .nil)))) .nil)
def B__law_mul (c__law_fr : Nat) : Ss := (.cons (.ret (.call c__law_fr (.cons (.op .Mult (.ix (.var 0) (.int 0)) (.ix (.var 1) (.int 0))) (.cons (.op .Mult (.ix (.var 0) (.int 1)) (.ix (.var 1) (.int 1))) .nil)))) .nil)
def B__law_div (c__law_fr : Nat) : Ss := (.cons (.ret (.call c__law_fr (.cons (.op .Mult (.ix (.var 0) (.int 0)) (.ix (.var 1) (.int 1))) (.cons (.op .Mult (.ix (.var 0) (.int 1)) (.ix (.var 1) (.int 0))) .nil)))) .nil)
def B__law_sgn : Ss := (.cons (.ret (.ife (.cmp .Gt (.ix (.var 0) (.int 0)) (.int 0)) (.int 1) (.ife (.cmp .Lt (.ix (.var 0) (.int 0)) (.int 0)) (.neg (.int 1)) (.int 0)))) .nil)
end FM

set_option Elab.async false
set_option linter.all false
set_option maxRecDepth 100000
set_option maxHeartbeats 4000000
/-! L1: what the library's defs compute, each once, whatever numbers its callees have. -/
namespace FM
open PySem (Str sizeLine)
open L2 (atI ixN)
open PySem.Spec PyProof.Rows
theorem call_at {l : List FD} {W n f : Nat} {d : FD} (h : l[f]? = some d) (ds : List D) (μ : Cells) : call (tabOf l) W (n + 1) f ds μ = runFn (call (tabOf l) W n) W d.fn ds μ := by
  show (match tabOf l f with | some fn => runFn (call (tabOf l) W n) W fn ds μ | none => none) = _
  unfold tabOf
  rw [h]
  rfl
theorem andThen_some' {α β : Type} (a : α) (μ : Cells) (f : α → Cells → Option β) : andThen (some (a, μ)) f = f a μ := rfl
theorem andThen_none' {α β : Type} (f : α → Cells → Option β) : andThen (none : Rs α) f = none := rfl
theorem onBl_bl {β : Type} (b : Bool) (μ : Cells) (f : Bool → Cells → Option β) : onBl (some (.bl b, μ)) f = f b μ := rfl
theorem wthD_some' (d : D) (μ : Cells) : wthD (some d) μ = some (d, μ) := rfl
theorem eqD_int (i j : Int) : eqD (.int i) (.int j) = some (decide (i = j)) := by
  show some (i == j) = _
  rw [Bool.beq_eq_decide_eq]
theorem ix_tup (μ : Cells) (l : List D) (i : Int) : ixD μ (.tup l) (.int i) = atI l i := rfl
theorem ix_lst (μ : Cells) (l : List D) (i : Int) : ixD μ (.lst l) (.int i) = atI l i := rfl
theorem atI_0 {α : Type} (x : α) (l : List α) : atI (x :: l) 0 = some x := by
  unfold atI ixN
  simp
theorem atI_1 {α : Type} (x y : α) (l : List α) : atI (x :: y :: l) 1 = some y := by
  unfold atI ixN
  simp
  rw [if_pos (by omega)]
  rfl
theorem atI_2 {α : Type} (x y z : α) (l : List α) : atI (x :: y :: z :: l) 2 = some z := by
  unfold atI ixN
  simp
  rw [if_pos (by omega)]
  rfl
/-! ### sizes -/
def Sm (k : Nat) (i : Int) : Prop := i.natAbs < 2 ^ k
theorem Sm.mono {j k : Nat} {i : Int} (h : Sm j i) (l : j ≤ k) : Sm k i := Nat.lt_of_lt_of_le h (Nat.pow_le_pow_right (by decide) l)
theorem Sm.mul {j k : Nat} {a b : Int} (h : Sm j a) (g : Sm k b) : Sm (j + k) (a * b) := by
  unfold Sm at *
  rw [Int.natAbs_mul, Nat.pow_add]
  exact Nat.mul_lt_mul'' h g
theorem Sm.neg {k : Nat} {a : Int} (h : Sm k a) : Sm k (-a) := by
  unfold Sm at *
  rwa [Int.natAbs_neg]
theorem Sm.add {k : Nat} {a b : Int} (h : Sm k a) (g : Sm k b) : Sm (k + 1) (a + b) := by
  unfold Sm at *
  have := Int.natAbs_add_le a b
  rw [Nat.pow_succ]
  omega
theorem Sm.sub {k : Nat} {a b : Int} (h : Sm k a) (g : Sm k b) : Sm (k + 1) (a - b) := by
  rw [Int.sub_eq_add_neg]
  exact h.add g.neg
theorem log2_le' {n k : Nat} (h : n < 2 ^ k) : n.log2 ≤ k := by
  by_cases z : n = 0
  · subst z
    exact Nat.zero_le _
  · exact Nat.le_of_lt ((Nat.log2_lt z).mpr h)
theorem Sm.log {k : Nat} {a : Int} (h : Sm k a) : a.natAbs.log2 ≤ k := log2_le' h
theorem mulOk_sm {j k : Nat} {a b : Int} (h : Sm j a) (g : Sm k b) (l : j + k < 1000000) : mulOk a b = true := by
  unfold mulOk
  have := h.log
  have := g.log
  exact decide_eq_true (by omega)
theorem opD_of {o : PySem.Operator} {x y z : D} (h : opA o x y = some z) : opD o x y = some z := by
  unfold opD
  rw [h]
theorem op_mul {j k : Nat} {a b : Int} (h : Sm j a) (g : Sm k b) (l : j + k < 1000000) : opD .Mult (.int a) (.int b) = some (.int (a * b)) := by
  refine opD_of ?_
  show (if mulOk a b then _ else _) = _
  rw [mulOk_sm h g l]
  rfl
theorem op_mulB (B : Nat) {a b : Int} (h : Sm B a) (g : Sm B b) (l : B + B < 1000000) : opD .Mult (.int a) (.int b) = some (.int (a * b)) := op_mul h g l
theorem op_add (i j : Int) : opD .Add (.int i) (.int j) = some (.int (i + j)) := rfl
theorem op_sub (i j : Int) : opD .Sub (.int i) (.int j) = some (.int (i - j)) := rfl
theorem op_subBl (i j : Bool) : opD .Sub (.bl i) (.bl j) = some (.int (PyProof.Rows.b2i i - PyProof.Rows.b2i j)) := rfl
theorem op_mod (i : Int) {j : Int} (h : j ≠ 0) : opD .Mod (.int i) (.int j) = some (.int (i.fmod j)) := by
  refine opD_of ?_
  show (if j = 0 then none else _) = _
  rw [if_neg h]
/-- a divisor that is allowed -/
def Dv (j : Int) : Prop := (j ≠ 0 ∧ j.natAbs < 1073741824) ∨ (0 < j ∧ j.natAbs.log2 < 9000)
theorem op_div (i : Int) {j : Int} (h : Dv j) : opD .FloorDiv (.int i) (.int j) = some (.int (i.fdiv j)) := by
  refine opD_of ?_
  show (if divOk i j then _ else _) = _
  have : divOk i j = true := by
    unfold divOk
    rw [Bool.or_eq_true, decide_eq_true_eq, decide_eq_true_eq]
    exact h
  rw [this]
  rfl
theorem Dv.pos {k : Nat} {j : Int} (h : 0 < j) (g : Sm k j) (l : k < 9000) : Dv j := .inr ⟨h, by have := g.log; omega⟩
theorem biD_abs (μ : Cells) (i : Int) : biD μ .abs [.int i] = some (.int (i.natAbs : Int)) := by
  show some (D.int (if i < 0 then -i else i)) = _
  congr 2
  split <;> omega
theorem sizeLine_ge : 16777216 ≤ sizeLine := by decide
theorem szle {n : Nat} (h : n ≤ 1000) : n ≤ sizeLine := Nat.le_trans h (by decide)
local macro_rules | `(tactic| walk_at "go") => `(tactic| simp [FM.runFn, FM.FD.fn, FM.execs, FM.exec, FM.ev, FM.evs, FM.evo, FM.evc, FM.evi, FM.lk, FM.lks, FM.It.lk, FM.isOw, FM.noOw, FM.Sl.isOw, FM.Sl.d, FM.isiD, FM.cmpD, FM.negD, FM.setAll, FM.bindT, FM.andThen_some', FM.onBl_bl, FM.wthD_some', FM.eqD_int, FM.ix_tup, FM.ix_lst, FM.atI_0, FM.atI_1, FM.atI_2, FM.op_add, FM.op_sub, FM.op_subBl, FM.biD_abs, FM.szle])
/-- the fuel of the loops -/
def W : Nat := 2 ^ 4100
section
variable {F : Fs}
/-! ### gcd -/
theorem fmod_abs (a : Int) {b : Int} (h : b ≠ 0) : (a.fmod b).natAbs < b.natAbs := by
  rcases Int.lt_or_gt_of_ne h with h | h
  · have h1 := Int.fmod_nonneg_of_pos (-a) (b := -b) (by omega)
    have h2 := Int.fmod_lt_of_pos (-a) (b := -b) (by omega)
    rw [Int.neg_fmod_neg] at h1 h2
    omega
  · have h1 := Int.fmod_nonneg_of_pos a h
    have h2 := Int.fmod_lt_of_pos a h
    omega
theorem gcd_fmod (a b : Int) : Int.gcd b (a.fmod b) = Int.gcd a b := by
  rw [Int.fmod_def, Int.gcd_comm a b, Int.sub_eq_add_neg, ← Int.mul_neg, Int.gcd_add_mul_left_right]
theorem gcd_loop (P : Int → Int → Prop) (c : Env → Cells → Option (Bool × Cells)) (b : Env → Cells → Option Res) (μ : Cells)
    (hc : ∀ i j : Int, c [some (.pl (.int i)), some (.pl (.int j))] μ = some (decide (j ≠ 0), μ))
    (hP : ∀ i j : Int, P i j → j ≠ 0 → P j (i.fmod j))
    (hb : ∀ i j : Int, P i j → j ≠ 0 → b [some (.pl (.int i)), some (.pl (.int j))] μ = some (.nx [some (.pl (.int j)), some (.pl (.int (i.fmod j)))] μ)) :
    ∀ (n : Nat) (i j : Int), P i j → j.natAbs < n → ∃ g : Int, whileF c b n [some (.pl (.int i)), some (.pl (.int j))] μ = some (.nx [some (.pl (.int g)), some (.pl (.int 0))] μ) ∧ g.natAbs = Int.gcd i j
  | 0, i, j, p, h => by omega
  | n + 1, i, j, p, h => by
    unfold whileF
    rw [hc]
    by_cases z : j = 0
    · subst z
      exact ⟨i, by simp, by simp⟩
    · have h2 := fmod_abs i z
      obtain ⟨g, h3, h4⟩ := gcd_loop P c b μ hc hP hb n j (i.fmod j) (hP i j p z) (by omega)
      refine ⟨g, ?_, ?_⟩
      · simp only [ne_eq, z, not_false_eq_true, decide_true, hb i j p z]
        exact h3
      · rw [h4, gcd_fmod]
theorem smW {j : Int} (h : Sm 4000 j) : j.natAbs < W := Nat.lt_of_lt_of_le h (Nat.pow_le_pow_right (by decide) (by decide))
theorem run_rt {fn : Fn} {ds : List D} {μ μ1 : Cells} {d : D} (h1 : ds.length = fn.ar) (h2 : fn.ar ≤ fn.sl) (h : execs F W fn.body (ds.map (fun d => some (.pl d)) ++ List.replicate (fn.sl - fn.ar) none) μ = some (.rt d μ1)) : runFn F W fn ds μ = some (d, μ1) := by
  unfold runFn
  rw [if_pos ⟨h1, h2⟩, h]
theorem seq_nx {s : S} {ss : Ss} {ρ ρ1 : Env} {μ μ1 : Cells} {r : Option Res} (h : exec F W s ρ μ = some (.nx ρ1 μ1)) (k : execs F W ss ρ1 μ1 = r) : execs F W (.cons s ss) ρ μ = r := by
  unfold execs
  rw [h]
  exact k
theorem seq_rt {s : S} {ss : Ss} {ρ : Env} {μ μ1 : Cells} {d : D} (h : exec F W s ρ μ = some (.rt d μ1)) : execs F W (.cons s ss) ρ μ = some (.rt d μ1) := by
  unfold execs
  rw [h]
theorem whl_of {c : E} {b : Ss} {ρ : Env} {μ : Cells} {r : Option Res} (h : whileF (fun ρ' μ' => onBl (ev F c ρ' μ') fun x μ1 => some (x, μ1)) (fun ρ' μ' => execs F W b ρ' μ') W ρ μ = r) : exec F W (.whl c b) ρ μ = r := by
  unfold exec
  exact h
theorem for_of {tg : Tg} {it : It} {b : Ss} {ρ : Env} {μ μ1 : Cells} {xs : List D} {r : Option Res} (h1 : evi F it ρ μ = some (xs, μ1)) (h2 : it.lk ρ = false) (h : forF tg (fun ρ' μ' => execs F W b ρ' μ') xs ρ μ1 = r) : exec F W (.for_ tg it b) ρ μ = r := by
  unfold exec
  rw [h1]
  show (if it.lk ρ = true then none else _) = _
  rw [h2]
  exact h
theorem gcd_fin (P : Int → Int → Prop) {c : E} {b : Ss} {μ : Cells} (i j : Int) (p : P i j) (h : Sm 4000 j)
    (hc : ∀ i j : Int, onBl (ev F c [some (.pl (.int i)), some (.pl (.int j))] μ) (fun x μ1 => some (x, μ1)) = some (decide (j ≠ 0), μ))
    (hP : ∀ i j : Int, P i j → j ≠ 0 → P j (i.fmod j))
    (hb : ∀ i j : Int, P i j → j ≠ 0 → execs F W b [some (.pl (.int i)), some (.pl (.int j))] μ = some (.nx [some (.pl (.int j)), some (.pl (.int (i.fmod j)))] μ)) :
    runFn F W ⟨2, 2, .cons (.whl c b) (.cons (.ret (.bi .abs (.cons (.var 0) .nil))) .nil)⟩ [.int i, .int j] μ = some (.int (Int.gcd i j), μ) := by
  obtain ⟨g, h1, h2⟩ := gcd_loop P (fun ρ' μ' => onBl (ev F c ρ' μ') fun x μ1 => some (x, μ1)) (fun ρ' μ' => execs F W b ρ' μ') μ hc hP hb W i j p (smW h)
  refine run_rt rfl (Nat.le_refl 2) (seq_nx (whl_of h1) (seq_rt ?_))
  walk_at "go"
  exact congrArg Int.ofNat h2
theorem common_ok (i j : Int) (h : Sm 4000 j) (μ : Cells) : runFn F W ⟨2, 2, B_common⟩ [.int i, .int j] μ = some (.int (Int.gcd i j), μ) := by
  refine gcd_fin (fun _ _ => True) i j trivial h (fun i j => ?_) (fun _ _ _ _ => trivial) (fun i j _ hj => ?_)
  · walk_at "go"
  · walk_at "go"
    simp [op_mod i hj, andThen_some', wthD_some']
/-- what may be halved by turns -/
def Gp (i j : Int) : Prop := Sm 4000 i ∧ Sm 4000 j ∧ (0 ≤ j ∨ j.natAbs < 1073741824)
theorem Gp.next {i j : Int} (h : Gp i j) (z : j ≠ 0) : Gp j (i.fmod j) := by
  obtain ⟨h1, h2, h3⟩ := h
  have q := fmod_abs i z
  refine ⟨h2, Nat.lt_trans q h2, ?_⟩
  rcases h3 with h3 | h3
  · exact .inl (Int.fmod_nonneg_of_pos i (by omega))
  · exact .inr (by omega)
theorem Gp.dv {i j : Int} (h : Gp i j) (z : j ≠ 0) : Dv j := by
  obtain ⟨h1, h2, h3⟩ := h
  rcases h3 with h3 | h3
  · exact Dv.pos (by omega) h2 (by decide)
  · exact .inl ⟨z, h3⟩
theorem Sm.fdiv {k : Nat} {i : Int} (h : Sm k i) (j : Int) : Sm k (i.fdiv j) := Nat.lt_of_le_of_lt (Int.natAbs_fdiv_le_natAbs i j) h
theorem gcd_ok (i j : Int) (p : Gp i j) (μ : Cells) : runFn F W ⟨2, 2, B__law_gcd⟩ [.int i, .int j] μ = some (.int (Int.gcd i j), μ) := by
  refine gcd_fin Gp i j p p.2.1 (fun i j => ?_) (fun i j p z => p.next z) (fun i j p hj => ?_)
  · walk_at "go"
  · walk_at "go"
    simp [op_div i (p.dv hj), andThen_some', wthD_some', op_mul (p.1.fdiv j) p.2.1 (by decide), op_sub, Int.fmod_def, Int.mul_comm]
/-! ### fractions -/
/-- a denominator that may be given -/
def Dn (b : Int) : Prop := Sm 4000 b ∧ (0 < b ∨ (b ≠ 0 ∧ b.natAbs < 1073741824))
def gs (a b : Int) : Int := if 0 < b then (Int.gcd a b : Int) else -(Int.gcd a b : Int)
def fr (a b : Int) : Int × Int := (a.fdiv (gs a b), b.fdiv (gs a b))
abbrev fD (x : Int × Int) : D := .tup [.int x.1, .int x.2]
theorem Dn.ne {b : Int} (h : Dn b) : b ≠ 0 := by
  obtain ⟨_, h | h⟩ := h
  · omega
  · exact h.1
theorem gcd_pos (a : Int) {b : Int} (h : b ≠ 0) : 0 < Int.gcd a b := Int.gcd_pos_of_ne_zero_right a h
theorem gcd_le (a : Int) {b : Int} (h : b ≠ 0) : Int.gcd a b ≤ b.natAbs := Nat.gcd_le_right _ (by omega)
theorem Dn.gs (a : Int) {b : Int} (h : Dn b) : Dv (gs a b) := by
  have h1 := gcd_pos a h.ne
  have h2 := gcd_le a h.ne
  unfold FM.gs
  obtain ⟨h3, h4⟩ := h
  split
  · refine Dv.pos (k := 4000) (by omega) ?_ (by decide)
    exact Nat.lt_of_le_of_lt h2 h3
  · rcases h4 with h4 | h4
    · omega
    · exact .inl ⟨by omega, by omega⟩
def CommonC (F : Fs) (f : Nat) : Prop := ∀ (a b : Int) (μ : Cells), Sm 4000 b → F f [.int a, .int b] μ = some (.int (Int.gcd a b), μ)
def FracC (F : Fs) (f : Nat) : Prop := ∀ (a b : Int) (μ : Cells), Dn b → F f [.int a, .int b] μ = some (fD (fr a b), μ)
def LFracC (F : Fs) (f : Nat) : Prop := ∀ (a b : Int) (μ : Cells), Sm 4000 a → Dn b → F f [.int a, .int b] μ = some (fD (fr a b), μ)
theorem frac_ok {c : Nat} (hc : CommonC F c) (a b : Int) (μ : Cells) (h : Dn b) : runFn F W ⟨2, 3, B_frac c⟩ [.int a, .int b] μ = some (fD (fr a b), μ) := by
  have e : gs a b = if b < 0 then -(Int.gcd a b : Int) else (Int.gcd a b : Int) := by
    have := h.ne
    unfold gs
    split <;> split <;> omega
  have d := h.gs a
  refine run_rt rfl (Nat.le_of_ble_eq_true rfl) (seq_nx (ρ1 := [some (.pl (.int a)), some (.pl (.int b)), some (.pl (.int (Int.gcd a b)))]) (μ1 := μ) ?_ (seq_nx (ρ1 := [some (.pl (.int a)), some (.pl (.int b)), some (.pl (.int (gs a b)))]) (μ1 := μ) ?_ (seq_rt ?_)))
  · walk_at "go"
    simp [hc a b μ h.1, andThen_some']
  · rw [e]
    by_cases z : b < 0
    · walk_at "go"
      simp [z]
    · walk_at "go"
      simp [z]
  · walk_at "go"
    simp [op_div a d, op_div b d, andThen_some', wthD_some', fr, szle]
theorem law_fr_ok {c : Nat} (hc : ∀ (a b : Int) (μ : Cells), Gp a b → F c [.int a, .int b] μ = some (.int (Int.gcd a b), μ)) (a b : Int) (μ : Cells) (ha : Sm 4000 a) (h : Dn b) : runFn F W ⟨2, 3, B__law_fr c⟩ [.int a, .int b] μ = some (fD (fr a b), μ) := by
  have d := h.gs a
  have p : Gp a b := ⟨ha, h.1, h.2.elim (fun z => .inl (by omega)) fun z => .inr z.2⟩
  refine run_rt rfl (Nat.le_of_ble_eq_true rfl) (seq_nx (ρ1 := [some (.pl (.int a)), some (.pl (.int b)), some (.pl (.int (gs a b)))]) (μ1 := μ) ?_ (seq_rt ?_))
  · unfold gs
    by_cases z : 0 < b
    · walk_at "go"
      simp [z, hc a b μ p, andThen_some']
    · walk_at "go"
      simp [z, hc a b μ p, andThen_some', wthD_some', op_sub]
  · walk_at "go"
    simp [op_div a d, op_div b d, andThen_some', wthD_some', fr, szle]
end
end FM

set_option Elab.async false
set_option linter.all false
set_option maxRecDepth 100000
set_option maxHeartbeats 4000000
/-! M1: fractions in plain Lean; sums, products and the rest. -/
namespace FM
open PySem (Str sizeLine)
open L2 (atI ixN)
open PySem.Spec PyProof.Rows
theorem fr_mul {n d g : Int} (hg : g ≠ 0) (hd : 0 < d) (h : Int.gcd n d = 1) : fr (n * g) (d * g) = (n, d) := by
  have e : gs (n * g) (d * g) = g := by
    unfold gs
    rw [Int.gcd_mul_right, h, Nat.one_mul]
    rcases Int.lt_or_gt_of_ne hg with z | z
    · rw [if_neg (by have := Int.mul_neg_of_pos_of_neg hd z; omega)]
      omega
    · rw [if_pos (Int.mul_pos hd z)]
      omega
  unfold fr
  rw [e, Int.mul_fdiv_cancel _ hg, Int.mul_fdiv_cancel _ hg]
theorem gs_ne (a : Int) {b : Int} (hb : b ≠ 0) : gs a b ≠ 0 := by
  have := gcd_pos a hb
  unfold gs
  split <;> omega
theorem gs_dvd_l (a b : Int) : gs a b ∣ a := by
  unfold gs
  split
  · exact Int.gcd_dvd_left a b
  · exact Int.neg_dvd.mpr (Int.gcd_dvd_left a b)
theorem gs_dvd_r (a b : Int) : gs a b ∣ b := by
  unfold gs
  split
  · exact Int.gcd_dvd_right a b
  · exact Int.neg_dvd.mpr (Int.gcd_dvd_right a b)
theorem fr_spec (a : Int) {b : Int} (hb : b ≠ 0) : a = (fr a b).1 * gs a b ∧ b = (fr a b).2 * gs a b ∧ 0 < (fr a b).2 ∧ Int.gcd (fr a b).1 (fr a b).2 = 1 := by
  have g0 := gs_ne a hb
  have h1 : a = (fr a b).1 * gs a b := (Int.fdiv_mul_cancel (gs_dvd_l a b)).symm
  have h2 : b = (fr a b).2 * gs a b := (Int.fdiv_mul_cancel (gs_dvd_r a b)).symm
  refine ⟨h1, h2, ?_, ?_⟩
  · by_cases z : 0 < b
    · have gp : 0 < gs a b := by
        have := gcd_pos a hb
        unfold gs
        rw [if_pos z]
        omega
      rw [h2] at z
      exact Int.pos_of_mul_pos_left z (by omega) |> fun h => h
    · have gn : gs a b < 0 := by
        have := gcd_pos a hb
        unfold gs
        rw [if_neg z]
        omega
      have z2 : b < 0 := by omega
      generalize (fr a b).2 = q at *
      generalize gs a b = g at *
      by_cases c : 0 < q
      · exact c
      · have := Int.mul_nonneg_of_nonpos_of_nonpos (a := q) (b := g) (by omega) (by omega)
        omega
  · have e : Int.gcd a b = Int.gcd (fr a b).1 (fr a b).2 * (gs a b).natAbs := by
      rw [← Int.gcd_mul_right, ← h1, ← h2]
    have e2 : (gs a b).natAbs = Int.gcd a b := by
      unfold gs
      split <;> omega
    rw [e2] at e
    have p := gcd_pos a hb
    have : 1 * Int.gcd a b = Int.gcd (fr a b).1 (fr a b).2 * Int.gcd a b := by omega
    exact (Nat.eq_of_mul_eq_mul_right p this).symm
/-- a fraction that is written as it should be, not too long -/
def Fq (k : Nat) (x : Int × Int) : Prop := Sm k x.1 ∧ Sm k x.2 ∧ 0 < x.2 ∧ Int.gcd x.1 x.2 = 1
theorem fr_fq {k : Nat} {a b : Int} (ha : Sm k a) (hb : Sm k b) (z : b ≠ 0) : Fq k (fr a b) := by
  obtain ⟨h1, h2, h3, h4⟩ := fr_spec a z
  exact ⟨ha.fdiv _, hb.fdiv _, h3, h4⟩
theorem Fq.mono {j k : Nat} {x : Int × Int} (h : Fq j x) (l : j ≤ k) : Fq k x := ⟨h.1.mono l, h.2.1.mono l, h.2.2⟩
theorem Fq.fr {k : Nat} {x : Int × Int} (h : Fq k x) : fr x.1 x.2 = x := by
  have := fr_mul (g := 1) (by decide) h.2.2.1 h.2.2.2
  simpa using this
theorem fr_neg (a b : Int) (hb : b ≠ 0) : fr a (-b) = fr (-a) b := by
  obtain ⟨h1, h2, h3, h4⟩ := fr_spec (-a) hb
  have g0 := gs_ne (-a) hb
  have e1 : a = (fr (-a) b).1 * (-gs (-a) b) := by rw [Int.mul_neg]; omega
  have e2 : -b = (fr (-a) b).2 * (-gs (-a) b) := by rw [Int.mul_neg]; omega
  have z := fr_mul (g := -gs (-a) b) (by omega) h3 h4
  rw [← e1, ← e2] at z
  exact z
def addF (x y : Int × Int) : Int × Int := fr (x.1 * y.2 + y.1 * x.2) (x.2 * y.2)
def subF (x y : Int × Int) : Int × Int := fr (x.1 * y.2 - y.1 * x.2) (x.2 * y.2)
def mulF (x y : Int × Int) : Int × Int := fr (x.1 * y.1) (x.2 * y.2)
def divF (x y : Int × Int) : Int × Int := fr (x.1 * y.2) (x.2 * y.1)
theorem Fq.add {j k : Nat} {x y : Int × Int} (hx : Fq j x) (hy : Fq k y) : Fq (j + k + 1) (addF x y) := by
  refine fr_fq ?_ ((hx.2.1.mul hy.2.1).mono (by omega)) ?_
  · have h := (hx.1.mul hy.2.1).add (Sm.mono (hy.1.mul hx.2.1) (by omega))
    exact h
  · have := Int.mul_pos hx.2.2.1 hy.2.2.1
    omega
theorem Fq.sub {j k : Nat} {x y : Int × Int} (hx : Fq j x) (hy : Fq k y) : Fq (j + k + 1) (subF x y) := by
  refine fr_fq ?_ ((hx.2.1.mul hy.2.1).mono (by omega)) ?_
  · have h := (hx.1.mul hy.2.1).sub (Sm.mono (hy.1.mul hx.2.1) (by omega))
    exact h
  · have := Int.mul_pos hx.2.2.1 hy.2.2.1
    omega
theorem Fq.mul {j k : Nat} {x y : Int × Int} (hx : Fq j x) (hy : Fq k y) : Fq (j + k) (mulF x y) := by
  refine fr_fq (hx.1.mul hy.1) (hx.2.1.mul hy.2.1) ?_
  have := Int.mul_pos hx.2.2.1 hy.2.2.1
  omega
theorem addF_zero {k : Nat} {x : Int × Int} (h : Fq k x) : addF (0, 1) x = x := by
  unfold addF
  simpa using h.fr
theorem mulF_comm (x y : Int × Int) : mulF x y = mulF y x := by
  unfold mulF
  rw [Int.mul_comm x.1, Int.mul_comm x.2]
/-! ### the walks -/
section
variable {F : Fs} {j k : Nat}
local macro_rules | `(tactic| walk_at "go") => `(tactic| simp [FM.runFn, FM.FD.fn, FM.execs, FM.exec, FM.ev, FM.evs, FM.evo, FM.evc, FM.evi, FM.lk, FM.lks, FM.It.lk, FM.isOw, FM.noOw, FM.Sl.isOw, FM.Sl.d, FM.isiD, FM.cmpD, FM.negD, FM.setAll, FM.bindT, FM.andThen_some', FM.onBl_bl, FM.wthD_some', FM.eqD_int, FM.ix_tup, FM.ix_lst, FM.atI_0, FM.atI_1, FM.atI_2, FM.op_add, FM.op_sub, FM.op_subBl, FM.biD_abs, FM.szle])
theorem dn_mul {x y : Int} (hx : Sm 1800 x) (hy : Sm 1800 y) (px : 0 < x) (py : 0 < y) : Dn (x * y) := ⟨(hx.mul hy).mono (by decide), .inl (Int.mul_pos px py)⟩
section
variable {x y : Int × Int} {f : Nat} (hx : Fq 1800 x) (hy : Fq 1800 y) (μ : Cells)
include hx hy
theorem plus_ok (hf : FracC F f) : runFn F W ⟨2, 2, B_plus f⟩ [fD x, fD y] μ = some (fD (addF x y), μ) := by
  refine run_rt rfl (Nat.le_of_ble_eq_true rfl) (seq_rt ?_)
  walk_at "go"
  simp [op_mulB 1800 hx.1 hy.2.1, op_mulB 1800 hy.1 hx.2.1, op_mulB 1800 hx.2.1 hy.2.1, op_add, hf _ _ μ (dn_mul hx.2.1 hy.2.1 hx.2.2.1 hy.2.2.1), wthD_some', andThen_some', addF]
theorem minus_ok (hf : FracC F f) : runFn F W ⟨2, 2, B_minus f⟩ [fD x, fD y] μ = some (fD (subF x y), μ) := by
  refine run_rt rfl (Nat.le_of_ble_eq_true rfl) (seq_rt ?_)
  walk_at "go"
  simp [op_mulB 1800 hx.1 hy.2.1, op_mulB 1800 hy.1 hx.2.1, op_mulB 1800 hx.2.1 hy.2.1, op_sub, hf _ _ μ (dn_mul hx.2.1 hy.2.1 hx.2.2.1 hy.2.2.1), wthD_some', andThen_some', subF]
theorem times_ok (hf : FracC F f) : runFn F W ⟨2, 2, B_times f⟩ [fD x, fD y] μ = some (fD (mulF x y), μ) := by
  refine run_rt rfl (Nat.le_of_ble_eq_true rfl) (seq_rt ?_)
  walk_at "go"
  simp [op_mulB 1800 hx.1 hy.1, op_mulB 1800 hx.2.1 hy.2.1, hf _ _ μ (dn_mul hx.2.1 hy.2.1 hx.2.2.1 hy.2.2.1), wthD_some', andThen_some', mulF]
theorem over_ok (hf : FracC F f) (hd : Dn (x.2 * y.1)) : runFn F W ⟨2, 2, B_over f⟩ [fD x, fD y] μ = some (fD (divF x y), μ) := by
  refine run_rt rfl (Nat.le_of_ble_eq_true rfl) (seq_rt ?_)
  walk_at "go"
  simp [op_mulB 1800 hx.1 hy.2.1, op_mulB 1800 hx.2.1 hy.1, hf _ _ μ hd, wthD_some', andThen_some', divF]
theorem law_add_ok (hf : LFracC F f) : runFn F W ⟨2, 2, B__law_add f⟩ [fD x, fD y] μ = some (fD (addF x y), μ) := by
  refine run_rt rfl (Nat.le_of_ble_eq_true rfl) (seq_rt ?_)
  walk_at "go"
  have b : Sm 4000 (x.1 * y.2 + y.1 * x.2) := ((hx.1.mul hy.2.1).add (hy.1.mul hx.2.1)).mono (by decide)
  simp [op_mulB 1800 hx.1 hy.2.1, op_mulB 1800 hy.1 hx.2.1, op_mulB 1800 hx.2.1 hy.2.1, op_add, hf _ _ μ b (dn_mul hx.2.1 hy.2.1 hx.2.2.1 hy.2.2.1), wthD_some', andThen_some', addF]
theorem law_sub_ok (hf : LFracC F f) : runFn F W ⟨2, 2, B__law_sub f⟩ [fD x, fD y] μ = some (fD (subF x y), μ) := by
  refine run_rt rfl (Nat.le_of_ble_eq_true rfl) (seq_rt ?_)
  walk_at "go"
  have b : Sm 4000 (x.1 * y.2 - y.1 * x.2) := ((hx.1.mul hy.2.1).sub (hy.1.mul hx.2.1)).mono (by decide)
  simp [op_mulB 1800 hx.1 hy.2.1, op_mulB 1800 hy.1 hx.2.1, op_mulB 1800 hx.2.1 hy.2.1, op_sub, hf _ _ μ b (dn_mul hx.2.1 hy.2.1 hx.2.2.1 hy.2.2.1), wthD_some', andThen_some', subF]
theorem law_mul_ok (hf : LFracC F f) : runFn F W ⟨2, 2, B__law_mul f⟩ [fD x, fD y] μ = some (fD (mulF x y), μ) := by
  refine run_rt rfl (Nat.le_of_ble_eq_true rfl) (seq_rt ?_)
  walk_at "go"
  have b : Sm 4000 (x.1 * y.1) := (hx.1.mul hy.1).mono (by decide)
  simp [op_mulB 1800 hx.1 hy.1, op_mulB 1800 hx.2.1 hy.2.1, hf _ _ μ b (dn_mul hx.2.1 hy.2.1 hx.2.2.1 hy.2.2.1), wthD_some', andThen_some', mulF]
theorem law_div_ok (hf : LFracC F f) (hd : Dn (x.2 * y.1)) : runFn F W ⟨2, 2, B__law_div f⟩ [fD x, fD y] μ = some (fD (divF x y), μ) := by
  refine run_rt rfl (Nat.le_of_ble_eq_true rfl) (seq_rt ?_)
  walk_at "go"
  have b : Sm 4000 (x.1 * y.2) := (hx.1.mul hy.2.1).mono (by decide)
  simp [op_mulB 1800 hx.1 hy.2.1, op_mulB 1800 hx.2.1 hy.1, hf _ _ μ b hd, wthD_some', andThen_some', divF]
theorem less_ok : runFn F W ⟨2, 2, B_less⟩ [fD x, fD y] μ = some (.bl (decide (x.1 * y.2 < y.1 * x.2)), μ) := by
  refine run_rt rfl (Nat.le_of_ble_eq_true rfl) (seq_rt ?_)
  walk_at "go"
  simp [op_mulB 1800 hx.1 hy.2.1, op_mulB 1800 hy.1 hx.2.1, cmpD, wthD_some', andThen_some']
def lessF (x y : Int × Int) : Bool := decide (x.1 * y.2 < y.1 * x.2)
theorem least_ok (hf : F f [fD x, fD y] μ = some (.bl (lessF x y), μ)) : runFn F W ⟨2, 2, B_least f⟩ [fD x, fD y] μ = some (fD (if lessF x y then x else y), μ) := by
  refine run_rt rfl (Nat.le_of_ble_eq_true rfl) (seq_rt ?_)
  walk_at "go"
  simp [hf]
  cases lessF x y <;> simp [andThen_some', onBl_bl]
theorem most_ok (hf : F f [fD x, fD y] μ = some (.bl (lessF x y), μ)) : runFn F W ⟨2, 2, B_most f⟩ [fD x, fD y] μ = some (fD (if lessF x y then y else x), μ) := by
  refine run_rt rfl (Nat.le_of_ble_eq_true rfl) (seq_rt ?_)
  walk_at "go"
  simp [hf]
  cases lessF x y <;> simp [andThen_some', onBl_bl]
omit hx hy in
theorem mean_ok {g : Nat} {z : Int × Int} (hf : F f [fD x, fD y] μ = some (fD (addF x y), μ)) (hg : F g [fD (addF x y), fD (2, 1)] μ = some (fD z, μ)) : runFn F W ⟨2, 2, B_mean g f⟩ [fD x, fD y] μ = some (fD z, μ) := by
  refine run_rt rfl (Nat.le_of_ble_eq_true rfl) (seq_rt ?_)
  walk_at "go"
  simp [hf, hg, andThen_some', wthD_some', szle]
end
def sgI (n : Int) : Int := if 0 < n then 1 else if n < 0 then -1 else 0
theorem sign_of_ok (x : Int × Int) (μ : Cells) : runFn F W ⟨1, 1, B_sign_of⟩ [fD x] μ = some (.int (sgI x.1), μ) := by
  refine run_rt rfl (Nat.le_of_ble_eq_true rfl) (seq_rt ?_)
  walk_at "go"
  unfold sgI
  by_cases a : 0 < x.1
  · have b : ¬ x.1 < 0 := by omega
    simp [a, b, b2i]
  · by_cases b : x.1 < 0
    · simp [a, b, b2i]
    · simp [a, b, b2i]
theorem law_sgn_ok (x : Int × Int) (μ : Cells) : runFn F W ⟨1, 1, B__law_sgn⟩ [fD x] μ = some (.int (sgI x.1), μ) := by
  refine run_rt rfl (Nat.le_of_ble_eq_true rfl) (seq_rt ?_)
  walk_at "go"
  unfold sgI
  by_cases a : 0 < x.1
  · simp [a, andThen_some']
  · by_cases b : x.1 < 0
    · simp [a, b, andThen_some', onBl_bl, wthD_some']
    · simp [a, b, andThen_some', onBl_bl, wthD_some']
theorem floor_of_ok {x : Int × Int} (h : Dv x.2) (μ : Cells) : runFn F W ⟨1, 1, B_floor_of⟩ [fD x] μ = some (.int (x.1.fdiv x.2), μ) := by
  refine run_rt rfl (Nat.le_of_ble_eq_true rfl) (seq_rt ?_)
  walk_at "go"
  simp [op_div x.1 h, wthD_some', andThen_some']
theorem whole_ok (i : Int) (μ : Cells) : runFn F W ⟨1, 1, B_whole⟩ [.int i] μ = some (fD (i, 1), μ) := by
  refine run_rt rfl (Nat.le_of_ble_eq_true rfl) (seq_rt ?_)
  walk_at "go"
theorem is_whole_int (i : Int) (μ : Cells) : runFn F W ⟨1, 1, B_is_whole⟩ [.int i] μ = some (.bl true, μ) := by
  refine run_rt rfl (Nat.le_of_ble_eq_true rfl) (seq_rt ?_)
  walk_at "go"
end
end FM

set_option Elab.async false
set_option linter.all false
set_option maxRecDepth 100000
set_option maxHeartbeats 4000000
/-! M2: roots, the draws, alike. -/
namespace FM
open PySem (Str sizeLine)
open L2 (atI ixN)
open PySem.Spec PyProof.Rows
section
variable {F : Fs} {j k : Nat}
local macro_rules | `(tactic| walk_at "go") => `(tactic| simp [FM.runFn, FM.FD.fn, FM.execs, FM.exec, FM.ev, FM.evs, FM.evo, FM.evc, FM.evi, FM.lk, FM.lks, FM.It.lk, FM.isOw, FM.noOw, FM.Sl.isOw, FM.Sl.d, FM.isiD, FM.cmpD, FM.negD, FM.setAll, FM.bindT, FM.andThen_some', FM.onBl_bl, FM.wthD_some', FM.eqD_int, FM.ix_tup, FM.ix_lst, FM.atI_0, FM.atI_1, FM.atI_2, FM.op_add, FM.op_sub, FM.op_subBl, FM.biD_abs, FM.szle])
/-! ### is_frac of two whole numbers -/
theorem is_frac_ok {fw fc : Nat} (hw : ∀ (i : Int) (μ : Cells), F fw [.int i] μ = some (.bl true, μ)) (hc : CommonC F fc) (x : Int × Int) (h : Sm 4000 x.2) (μ : Cells) :
    runFn F W ⟨1, 2, B_is_frac fw fc⟩ [fD x] μ = some (.bl (decide (0 < x.2) && decide ((Int.gcd x.1 x.2 : Int) = 1)), μ) := by
  refine run_rt rfl (Nat.le_of_ble_eq_true rfl) (seq_nx (ρ1 := [some (.pl (fD x)), none]) (μ1 := μ) ?_ (seq_rt ?_))
  · walk_at "go"
    simp [biD, eqD_int, onBl_bl, wthD_some', lcGo, bindT, hw, andThen_some', asBls]
  · walk_at "go"
    by_cases z : 0 < x.2
    · simp [z, hc _ _ μ h, andThen_some', eqD_int, wthD_some', onBl_bl]
    · simp [z, onBl_bl, andThen_some']
theorem whileF_rt {c : Env → Cells → Option (Bool × Cells)} {b : Env → Cells → Option Res} {m : Nat} {ρ : Env} {μ μ1 : Cells} {d : D} (h : c ρ μ = some (true, μ)) (g : b ρ μ = some (.rt d μ1)) : whileF c b (m + 1) ρ μ = some (.rt d μ1) := by
  unfold whileF
  rw [h]
  simp only
  rw [g]
theorem whileF_nx {c : Env → Cells → Option (Bool × Cells)} {b : Env → Cells → Option Res} {m : Nat} {ρ ρ1 : Env} {μ μ1 : Cells} (h : c ρ μ = some (true, μ)) (g : b ρ μ = some (.nx ρ1 μ1)) : whileF c b (m + 1) ρ μ = whileF c b m ρ1 μ1 := by
  conv => lhs; unfold whileF
  rw [h]
  simp only
  rw [g]
theorem whileF_no {c : Env → Cells → Option (Bool × Cells)} {b : Env → Cells → Option Res} {m : Nat} {ρ : Env} {μ : Cells} (h : c ρ μ = some (false, μ)) : whileF c b (m + 1) ρ μ = some (.nx ρ μ) := by
  unfold whileF
  rw [h]
/-! ### roots -/
/-- r is the root of n, rounded down -/
def IsRt (n r : Int) : Prop := 0 ≤ r ∧ r * r ≤ n ∧ n < (r + 1) * (r + 1)
theorem IsRt.uniq {n r s : Int} (h : IsRt n r) (g : IsRt n s) : r = s := by
  obtain ⟨h1, h2, h3⟩ := h
  obtain ⟨g1, g2, g3⟩ := g
  rcases Int.lt_trichotomy r s with z | z | z
  · have : (r + 1) * (r + 1) ≤ s * s := Int.mul_le_mul (by omega) (by omega) (by omega) (by omega)
    omega
  · exact z
  · have : (s + 1) * (s + 1) ≤ r * r := Int.mul_le_mul (by omega) (by omega) (by omega) (by omega)
    omega
theorem sqn (a : Int) : 0 ≤ a * a := by
  rcases Int.le_total 0 a with h | h
  · exact Int.mul_nonneg h h
  · exact Int.mul_nonneg_of_nonpos_of_nonpos h h
theorem op_shl1 {p : Int} (h : 0 ≤ p ∧ p ≤ 1000000) : opD .LShift (.int 1) (.int p) = some (.int (2 ^ p.toNat)) := by
  refine opD_of ?_
  show (if powOk 1 p then some (D.int (1 * 2 ^ p.toNat)) else none) = _
  have : powOk 1 p = true := by
    unfold powOk
    exact decide_eq_true ⟨h.1, h.2, by decide⟩
  rw [this, Int.one_mul]
  rfl
theorem me_bits (n : Int) : meD .bits (.int n) [] = some (.int (PySem.Builtin.Int.intBits n : Nat)) := rfl
/-- one step of the root -/
theorem newton {n f : Int} (hf : 0 < f) (hn : 0 ≤ n) :
    0 ≤ (f + n.fdiv f).fdiv 2 ∧ n < ((f + n.fdiv f).fdiv 2 + 1) * ((f + n.fdiv f).fdiv 2 + 1) ∧ (f ≤ (f + n.fdiv f).fdiv 2 → f * f ≤ n) ∧ (0 < n → 0 < (f + n.fdiv f).fdiv 2) := by
  have q1 : n.fdiv f * f ≤ n := by
    rw [Int.fdiv_eq_ediv_of_nonneg _ (by omega)]
    exact Int.ediv_mul_le n (by omega)
  have q2 : n < (n.fdiv f + 1) * f := by
    rw [Int.fdiv_eq_ediv_of_nonneg _ (by omega)]
    exact Int.lt_ediv_add_one_mul_self n hf
  have q0 : 0 ≤ n.fdiv f := Int.fdiv_nonneg hn (by omega)
  generalize n.fdiv f = q at *
  have l0 : (f + q).fdiv 2 = (f + q) / 2 := Int.fdiv_eq_ediv_of_nonneg _ (by decide)
  rw [l0]
  have l1 : (f + q) / 2 * 2 ≤ f + q := by omega
  have l2 : f + q ≤ (f + q) / 2 * 2 + 1 := by omega
  have l3 : 0 ≤ (f + q) / 2 := by omega
  refine ⟨l3, ?_, fun z => ?_, fun z => ?_⟩
  · generalize (f + q) / 2 = l at *
    have a : (f + q + 1) * (f + q + 1) ≤ (2 * (l + 1)) * (2 * (l + 1)) := Int.mul_le_mul (by omega) (by omega) (by omega) (by omega)
    have b : 0 ≤ (f - (q + 1)) * (f - (q + 1)) := sqn _
    grind
  · have a : f * f ≤ q * f := Int.mul_le_mul_of_nonneg_right (by omega) (by omega)
    omega
  · rcases Int.lt_or_le 1 f with z1 | z1
    · omega
    · have : f = 1 := by omega
      subst this
      omega
theorem root_loop {n : Int} {μ : Cells} (hn : 0 < n) (hs : Sm 3900 n) {c : Env → Cells → Option (Bool × Cells)} {b : Env → Cells → Option Res}
    (hc : ∀ ρ, c ρ μ = some (true, μ))
    (hb : ∀ (f : Int) (o : Option D), 0 < f → Sm 3900 f → b [some (.pl (.int n)), some (.pl (.int f)), o.map .pl] μ = if f ≤ (f + n.fdiv f).fdiv 2 then some (.rt (.int f) μ) else some (.nx [some (.pl (.int n)), some (.pl (.int ((f + n.fdiv f).fdiv 2))), some (.pl (.int ((f + n.fdiv f).fdiv 2)))] μ)) :
    ∀ (m : Nat) (f : Int) (o : Option D), 0 < f → f < m → Sm 3900 f → n < (f + 1) * (f + 1) → ∃ r : Int, whileF c b m [some (.pl (.int n)), some (.pl (.int f)), o.map .pl] μ = some (.rt (.int r) μ) ∧ IsRt n r
  | 0, f, o, h1, h2, h3, h4 => by omega
  | m + 1, f, o, h1, h2, h3, h4 => by
    have hb1 := hb f o h1 h3
    obtain ⟨n1, n2, n3, n4⟩ := newton (n := n) h1 (by omega)
    by_cases z : f ≤ (f + n.fdiv f).fdiv 2
    · rw [if_pos z] at hb1
      exact ⟨f, whileF_rt (hc _) hb1, by omega, n3 z, h4⟩
    · rw [if_neg z] at hb1
      rw [whileF_nx (hc _) hb1]
      refine root_loop hn hs hc hb m _ (some _) (n4 hn) (by omega) ?_ n2
      exact Nat.lt_trans (by have := n4 hn; omega) h3
theorem bits_start {n : Int} (h : 0 < n) (hs : Sm 3800 n) : let p : Nat := (PySem.Builtin.Int.intBits n + 1) / 2
    p ≤ 1901 ∧ 0 < (2 : Int) ^ p ∧ Sm 3900 (2 ^ p) ∧ n < ((2 : Int) ^ p + 1) * (2 ^ p + 1) := by
  intro p
  have e : PySem.Builtin.Int.intBits n = n.natAbs.log2 + 1 := by
    unfold PySem.Builtin.Int.intBits
    rw [if_neg (by simp; omega)]
  have l := hs.log
  have hp : p ≤ 1901 := by
    show (PySem.Builtin.Int.intBits n + 1) / 2 ≤ 1901
    omega
  have pos : 0 < (2 : Int) ^ p := Int.pow_pos (by decide)
  refine ⟨hp, pos, ?_, ?_⟩
  · unfold Sm
    rw [Int.natAbs_pow]
    exact Nat.pow_lt_pow_right (by decide) (by omega)
  · have a : n.natAbs < 2 ^ (p + p) := by
      refine Nat.lt_of_lt_of_le (Nat.lt_log2_self (n := n.natAbs)) (Nat.pow_le_pow_right (by decide) ?_)
      show n.natAbs.log2 + 1 ≤ (PySem.Builtin.Int.intBits n + 1) / 2 + (PySem.Builtin.Int.intBits n + 1) / 2
      omega
    have b : n < (2 : Int) ^ p * 2 ^ p := by
      rw [← Int.pow_add]
      have : ((2 ^ (p + p) : Nat) : Int) = (2 : Int) ^ (p + p) := by simp
      omega
    generalize (2 : Int) ^ p = q at *
    grind
def RootC (F : Fs) (f : Nat) : Prop := ∀ (n : Int) (μ : Cells), 0 ≤ n → Sm 3800 n → ∃ r, F f [.int n] μ = some (.int r, μ) ∧ IsRt n r
theorem root_fin {n f : Int} {μ : Cells} {c : E} {b : Ss} (h1 : 0 < f) (h2 : f < W) (h3 : Sm 3900 f) (h4 : n < (f + 1) * (f + 1)) (hn : 0 < n) (hs : Sm 3900 n)
    (hc : ∀ ρ, onBl (ev F c ρ μ) (fun x μ1 => some (x, μ1)) = some (true, μ))
    (hb : ∀ (f : Int) (o : Option D), 0 < f → Sm 3900 f → execs F W b [some (.pl (.int n)), some (.pl (.int f)), o.map .pl] μ = if f ≤ (f + n.fdiv f).fdiv 2 then some (.rt (.int f) μ) else some (.nx [some (.pl (.int n)), some (.pl (.int ((f + n.fdiv f).fdiv 2))), some (.pl (.int ((f + n.fdiv f).fdiv 2)))] μ)) :
    ∃ r : Int, execs F W (.cons (.whl c b) .nil) [some (.pl (.int n)), some (.pl (.int f)), none] μ = some (.rt (.int r) μ) ∧ IsRt n r := by
  obtain ⟨r, h5, h6⟩ := root_loop (c := fun ρ' μ' => onBl (ev F c ρ' μ') fun x μ1 => some (x, μ1)) (b := fun ρ' μ' => execs F W b ρ' μ') hn hs hc hb W f none h1 h2 h3 h4
  exact ⟨r, seq_rt (whl_of h5), h6⟩
theorem root_below_ok (n : Int) (μ : Cells) (hn : 0 ≤ n) (hs : Sm 3800 n) : ∃ r, runFn F W ⟨1, 3, B_root_below⟩ [.int n] μ = some (.int r, μ) ∧ IsRt n r := by
  by_cases z : n = 0
  · subst z
    refine ⟨0, run_rt rfl (Nat.le_of_ble_eq_true rfl) (seq_rt ?_), by unfold IsRt; decide⟩
    walk_at "go"
  · obtain ⟨b1, b2, b3, b4⟩ := bits_start (n := n) (by omega) hs
    have q : ∃ r : Int, _ ∧ IsRt n r := root_fin (F := F) (μ := μ) (c := .bl true) (b := (.cons (.asg 2 (.op .FloorDiv (.op .Add (.var 1) (.op .FloorDiv (.var 0) (.var 1))) (.int 2))) (.cons (.ifs (.cmp .GtE (.var 2) (.var 1)) (.cons (.ret (.var 1)) .nil) .nil) (.cons (.asg 1 (.var 2)) .nil)))) b2 (by have := smW (b3.mono (by decide)); omega) b3 b4 (by omega) (hs.mono (by decide)) (fun ρ => by walk_at "go") (fun f o hf hs => ?_)
    · obtain ⟨r, q1, q2⟩ := q
      refine ⟨r, run_rt rfl (Nat.le_of_ble_eq_true rfl) (seq_nx (ρ1 := [some (.pl (.int n)), none, none]) (μ1 := μ) ?_ (seq_nx (ρ1 := [some (.pl (.int n)), some (.pl (.int _)), none]) (μ1 := μ) ?_ q1)), q2⟩
      · walk_at "go"
        simp [z, onBl_bl]
      · have d2 : Dv 2 := .inl (by decide)
        have e : ((PySem.Builtin.Int.intBits n : Int) + 1).fdiv 2 = ((PySem.Builtin.Int.intBits n : Int) + 1) / 2 := Int.fdiv_eq_ediv_of_nonneg _ (by decide)
        have e2 : (((PySem.Builtin.Int.intBits n : Int) + 1) / 2).toNat = (PySem.Builtin.Int.intBits n + 1) / 2 := by omega
        have sh := op_shl1 (p := ((PySem.Builtin.Int.intBits n : Int) + 1) / 2) ⟨by omega, by omega⟩
        rw [e2] at sh
        walk_at "go"
        simp [me_bits, op_div _ d2, op_add, andThen_some', wthD_some', e, sh]
    · have d1 : Dv f := Dv.pos hf hs (by decide)
      have d2 : Dv 2 := .inl (by decide)
      refine seq_nx (ρ1 := [some (.pl (.int n)), some (.pl (.int f)), some (.pl (.int ((f + n.fdiv f).fdiv 2)))]) (μ1 := μ) ?_ ?_
      · cases o <;>
        · walk_at "go"
          simp [op_div _ d1, op_div _ d2, op_add, andThen_some', wthD_some']
      · split
        · rename_i z
          refine seq_rt ?_
          walk_at "go"
          simp [z]
        · rename_i z
          refine seq_nx (ρ1 := [some (.pl (.int n)), some (.pl (.int f)), some (.pl (.int ((f + n.fdiv f).fdiv 2)))]) (μ1 := μ) ?_ ?_
          · walk_at "go"
            omega
          · walk_at "go"
end
end FM

set_option Elab.async false
set_option linter.all false
set_option maxRecDepth 100000
set_option maxHeartbeats 4000000
/-! M3: roots of fractions, sums of lists, the draws, alike. -/
namespace FM
open PySem (Str sizeLine)
open L2 (atI ixN)
open PySem.Spec PyProof.Rows
section
variable {F : Fs} {j k : Nat}
local macro_rules | `(tactic| walk_at "go") => `(tactic| simp [FM.runFn, FM.FD.fn, FM.execs, FM.exec, FM.ev, FM.evs, FM.evo, FM.evc, FM.evi, FM.lk, FM.lks, FM.It.lk, FM.isOw, FM.noOw, FM.Sl.isOw, FM.Sl.d, FM.isiD, FM.cmpD, FM.negD, FM.setAll, FM.bindT, FM.andThen_some', FM.onBl_bl, FM.wthD_some', FM.eqD_int, FM.ix_tup, FM.ix_lst, FM.atI_0, FM.atI_1, FM.atI_2, FM.op_add, FM.op_sub, FM.op_subBl, FM.biD_abs, FM.szle])
theorem IsRt.sm {n r : Int} {k : Nat} (h : IsRt n r) (hs : Sm k n) : Sm k r := by
  obtain ⟨h1, h2, h3⟩ := h
  have a : r ≤ r * r := by
    rcases Int.lt_or_le 0 r with z | z
    · have := Int.mul_le_mul_of_nonneg_left (show 1 ≤ r by omega) h1
      omega
    · have : r = 0 := by omega
      subst this
      decide
  exact Nat.lt_of_le_of_lt (by omega) hs
/-- the exact root of a fraction, or none -/
theorem exact_root_ok {f : Nat} {x : Int × Int} (hr : RootC F f) (hx : Fq 1800 x) (μ : Cells) :
    if x.1 < 0 then runFn F W ⟨1, 3, B_exact_root f⟩ [fD x] μ = some (.non, μ)
    else ∃ r s, IsRt x.1 r ∧ IsRt x.2 s ∧ runFn F W ⟨1, 3, B_exact_root f⟩ [fD x] μ = some (if r * r = x.1 ∧ s * s = x.2 then fD (r, s) else .non, μ) := by
  split
  · rename_i z
    refine run_rt rfl (Nat.le_of_ble_eq_true rfl) (seq_rt ?_)
    walk_at "go"
    simp [z]
  · rename_i z
    obtain ⟨r, r1, r2⟩ := hr x.1 μ (by omega) (hx.1.mono (by decide))
    obtain ⟨s, s1, s2⟩ := hr x.2 μ (by have := hx.2.2.1; omega) (hx.2.1.mono (by decide))
    refine ⟨r, s, r2, s2, run_rt rfl (Nat.le_of_ble_eq_true rfl) (seq_nx (ρ1 := [some (.pl (fD x)), none, none]) (μ1 := μ) ?_ (seq_nx (ρ1 := [some (.pl (fD x)), some (.pl (.int r)), some (.pl (.int s))]) (μ1 := μ) ?_ (seq_rt ?_)))⟩
    · walk_at "go"
      omega
    · walk_at "go"
      simp [r1, s1, andThen_some']
    · have q1 := op_mulB 1800 (r2.sm hx.1) (r2.sm hx.1) (by decide)
      have q2 := op_mulB 1800 (s2.sm hx.2.1) (s2.sm hx.2.1) (by decide)
      walk_at "go"
      by_cases a : r * r = x.1
      · by_cases b : s * s = x.2
        · simp [q1, q2, a, b, andThen_some', wthD_some', eqD_int, onBl_bl, szle]
        · simp [q1, q2, a, b, andThen_some', wthD_some', eqD_int, onBl_bl, szle]
      · simp [q1, q2, a, andThen_some', wthD_some', eqD_int, onBl_bl, szle]
/-- s is the least that reaches -/
def IsUp (n d s : Int) : Prop := 0 ≤ s ∧ n ≤ s * s * d ∧ ∀ t, 0 ≤ t → t < s → t * t * d < n
theorem up_loop {p n d : Int} {x : D} {μ : Cells} (hd : 0 < d) {c : Env → Cells → Option (Bool × Cells)} {b : Env → Cells → Option Res}
    (hc : ∀ f : Int, 0 ≤ f → Sm 1900 f → c [some (.pl x), some (.pl (.int p)), some (.pl (.int n)), some (.pl (.int f))] μ = some (decide (f * f * d < n), μ))
    (hb : ∀ f : Int, b [some (.pl x), some (.pl (.int p)), some (.pl (.int n)), some (.pl (.int f))] μ = some (.nx [some (.pl x), some (.pl (.int p)), some (.pl (.int n)), some (.pl (.int (f + 1)))] μ)) :
    ∀ (m : Nat) (f t : Int), 0 ≤ f → f ≤ t → Sm 1900 t → n ≤ t * t * d → (t - f).toNat < m → (∀ t, 0 ≤ t → t < f → t * t * d < n) → ∃ s : Int, whileF c b m [some (.pl x), some (.pl (.int p)), some (.pl (.int n)), some (.pl (.int f))] μ = some (.nx [some (.pl x), some (.pl (.int p)), some (.pl (.int n)), some (.pl (.int s))] μ) ∧ IsUp n d s ∧ s ≤ t
  | 0, f, t, _, _, _, _, h, _ => by omega
  | m + 1, f, t, h0, h1, h2, h3, h4, h5 => by
    have c1 := hc f h0 (Nat.lt_of_le_of_lt (by omega) h2)
    by_cases z : f * f * d < n
    · rw [decide_eq_true z] at c1
      rw [whileF_nx c1 (hb f)]
      have ne : f ≠ t := fun e => by subst e; omega
      refine up_loop hd hc hb m (f + 1) t (by omega) (by omega) h2 h3 (by omega) (fun u u0 u1 => ?_)
      by_cases e : u = f
      · subst e
        exact z
      · exact h5 u u0 (by omega)
    · rw [decide_eq_false z] at c1
      exact ⟨f, whileF_no c1, ⟨h0, by omega, h5⟩, h1⟩
theorem up_fin {p n d : Int} {x : D} {μ : Cells} (hd : 0 < d) {c : E} {b : Ss}
    (hc : ∀ f : Int, 0 ≤ f → Sm 1900 f → onBl (ev F c [some (.pl x), some (.pl (.int p)), some (.pl (.int n)), some (.pl (.int f))] μ) (fun x μ1 => some (x, μ1)) = some (decide (f * f * d < n), μ))
    (hb : ∀ f : Int, execs F W b [some (.pl x), some (.pl (.int p)), some (.pl (.int n)), some (.pl (.int f))] μ = some (.nx [some (.pl x), some (.pl (.int p)), some (.pl (.int n)), some (.pl (.int (f + 1)))] μ))
    (f t : Int) (h0 : 0 ≤ f) (h1 : f ≤ t) (h2 : Sm 1900 t) (h3 : n ≤ t * t * d) (h5 : ∀ t, 0 ≤ t → t < f → t * t * d < n) : ∃ s : Int, exec F W (.whl c b) [some (.pl x), some (.pl (.int p)), some (.pl (.int n)), some (.pl (.int f))] μ = some (.nx [some (.pl x), some (.pl (.int p)), some (.pl (.int n)), some (.pl (.int s))] μ) ∧ IsUp n d s ∧ s ≤ t := by
  obtain ⟨s, e, u⟩ := up_loop (c := fun ρ' μ' => onBl (ev F c ρ' μ') fun x μ1 => some (x, μ1)) (b := fun ρ' μ' => execs F W b ρ' μ') hd hc hb W f t h0 h1 h2 h3 (by have := smW (h2.mono (k := 4000) (by decide)); omega) h5
  exact ⟨s, whl_of e, u⟩
theorem root_above_ok {f g : Nat} {x : Int × Int} {p : Int} (hr : RootC F f) (hf : FracC F g) (hx : Fq 600 x) (x0 : 0 ≤ x.1) (hp : Sm 600 p) (p0 : 0 < p) (μ : Cells) :
    ∃ s, IsUp (x.1 * p * p) x.2 s ∧ runFn F W ⟨2, 4, B_root_above f g⟩ [fD x, .int p] μ = some (fD (fr s p), μ) := by
  have s1 : Sm 1200 (x.1 * p) := hx.1.mul hp
  have s2 : Sm 1800 (x.1 * p * p) := s1.mul hp
  have n0 : 0 ≤ x.1 * p * p := Int.mul_nonneg (Int.mul_nonneg x0 (by omega)) (by omega)
  have d0 := hx.2.2.1
  have dv : Dv x.2 := Dv.pos d0 hx.2.1 (by decide)
  have q0 : 0 ≤ (x.1 * p * p).fdiv x.2 := Int.fdiv_nonneg n0 (by omega)
  obtain ⟨r, r1, r2⟩ := hr ((x.1 * p * p).fdiv x.2) μ q0 ((s2.fdiv _).mono (by decide))
  obtain ⟨r3, r4, r5⟩ := r2
  have qn : (x.1 * p * p).fdiv x.2 * x.2 ≤ x.1 * p * p := by
    rw [Int.fdiv_eq_ediv_of_nonneg _ (by omega)]
    exact Int.ediv_mul_le _ (by omega)
  have rr : r * r * x.2 ≤ x.1 * p * p := Int.le_trans (Int.mul_le_mul_of_nonneg_right r4 (by omega)) qn
  have low : ∀ t, 0 ≤ t → t < r → t * t * x.2 < x.1 * p * p := fun t t0 t1 => by
    have a : t * t < r * r := by
      have a1 : t * t ≤ t * r := Int.mul_le_mul_of_nonneg_left (by omega) t0
      have a2 : t * r < r * r := Int.mul_lt_mul_of_pos_right t1 (by omega)
      omega
    have := Int.mul_lt_mul_of_pos_right a d0
    omega
  have top : x.1 * p * p ≤ (x.1 * p * p) * (x.1 * p * p) * x.2 := by
    generalize x.1 * p * p = n at *
    rcases Int.lt_or_le 0 n with z | z
    · have a : n * 1 ≤ n * n := Int.mul_le_mul_of_nonneg_left (by omega) (by omega)
      have b : n * n * 1 ≤ n * n * x.2 := Int.mul_le_mul_of_nonneg_left (by omega) (sqn n)
      omega
    · have : n = 0 := by omega
      subst this
      simp
  have rle : r ≤ x.1 * p * p := by
    have a : r ≤ r * r := by
      rcases Int.lt_or_le 0 r with z | z
      · have := Int.mul_le_mul_of_nonneg_left (show 1 ≤ r by omega) r3
        omega
      · have : r = 0 := by omega
        subst this
        decide
    have b : r * r * 1 ≤ r * r * x.2 := Int.mul_le_mul_of_nonneg_left (by omega) (sqn r)
    omega
  obtain ⟨s, e1, e2, e3⟩ := up_fin (F := F) (μ := μ) (p := p) (n := x.1 * p * p) (x := fD x) (c := (.cmp .Lt (.op .Mult (.op .Mult (.var 3) (.var 3)) (.ix (.var 0) (.int 1))) (.var 2))) (b := .cons (.aug 3 .Add (.int 1)) .nil) d0 (fun f f0 hf => by
    walk_at "go"
    simp [op_mulB 1900 hf hf, op_mul (hf.mul hf) hx.2.1, wthD_some', andThen_some', cmpD, onBl_bl]) (fun f => by walk_at "go") r (x.1 * p * p) r3 rle (s2.mono (by decide)) top low
  refine ⟨s, e2, run_rt rfl (Nat.le_of_ble_eq_true rfl) (seq_nx (ρ1 := [some (.pl (fD x)), some (.pl (.int p)), some (.pl (.int (x.1 * p * p))), none]) (μ1 := μ) ?_ (seq_nx (ρ1 := [some (.pl (fD x)), some (.pl (.int p)), some (.pl (.int (x.1 * p * p))), some (.pl (.int r))]) (μ1 := μ) ?_ (seq_nx e1 (seq_rt ?_))))⟩
  · walk_at "go"
    simp [op_mul hx.1 hp, op_mul s1 hp, wthD_some', andThen_some']
  · walk_at "go"
    simp [op_div _ dv, wthD_some', andThen_some', r1]
  · walk_at "go"
    simp [hf s p μ ⟨hp.mono (by decide), .inl p0⟩, andThen_some']
/-! ### sums of lists -/
theorem sum3_ok {f : Nat} {x y z s1 s2 s3 : D} {μ : Cells} (h1 : F f [fD (0, 1), x] μ = some (s1, μ)) (h2 : F f [s1, y] μ = some (s2, μ)) (h3 : F f [s2, z] μ = some (s3, μ)) : runFn F W ⟨1, 3, B_sum_of f⟩ [.lst [x, y, z]] μ = some (s3, μ) := by
  refine run_rt rfl (Nat.le_of_ble_eq_true rfl) ?_
  unfold B_sum_of
  walk_at "go"
  simp [forF, bindT, h1, h2, h3, andThen_some']
end
end FM

set_option Elab.async false
set_option linter.all false
set_option maxRecDepth 100000
set_option maxHeartbeats 4000000
/-! M4: the draws, alike. -/
namespace FM
open PySem (Str sizeLine)
open L2 (atI ixN Key)
open PySem.Spec PyProof.Rows
section
variable {F : Fs} {j k : Nat}
local macro_rules | `(tactic| walk_at "go") => `(tactic| simp [FM.runFn, FM.FD.fn, FM.execs, FM.exec, FM.ev, FM.evs, FM.evo, FM.evc, FM.evi, FM.lk, FM.lks, FM.It.lk, FM.isOw, FM.noOw, FM.Sl.isOw, FM.Sl.d, FM.isiD, FM.cmpD, FM.negD, FM.setAll, FM.bindT, FM.andThen_some', FM.onBl_bl, FM.wthD_some', FM.eqD_int, FM.ix_tup, FM.ix_lst, FM.atI_0, FM.atI_1, FM.atI_2, FM.op_add, FM.op_sub, FM.op_subBl, FM.biD_abs, FM.szle])
/-- the law's cell -/
def cw (is : List Int) (k : Int) : Cell := [(.inr "draws", .lst (is.map D.int)), (.inr "at", .int k)]
theorem cw_draws (is : List Int) (k : Int) : valC (cw is k) (.inr "draws") = some (.lst (is.map D.int)) := by
  unfold valC cw
  rfl
theorem cw_at (is : List Int) (k : Int) : valC (cw is k) (.inr "at") = some (.int k) := by
  have : ((Sum.inr ("draws" : Str) : Key) = Sum.inr ("at" : Str)) = False := by simp; decide
  unfold valC cw
  simp [this]
theorem cw_put (is : List Int) (k i : Int) : putC (cw is k) (.inr "at") (.int i) = cw is i := by
  have : ((Sum.inr ("draws" : Str) : Key) = Sum.inr ("at" : Str)) = False := by simp; decide
  unfold putC cw
  simp [this]
theorem atI_int {is : List Int} {k : Int} (h0 : 0 ≤ k) (h1 : k < is.length) : ∃ i : Int, atI (is.map D.int) k = some (.int i) := by
  have e : k.toNat < is.length := by omega
  refine ⟨is[k.toNat], ?_⟩
  unfold atI ixN
  simp
  rw [if_pos h0, if_pos h1]
  simp [e]
theorem next_ok (is : List Int) (k many : Int) (h : 0 < many) (hk : 0 ≤ k) (μ : Cells) : ∃ r : Int, 0 ≤ r ∧ r < many ∧ runFn F W ⟨2, 2, B__law_next⟩ [.cell 0, .int many] (cw is k :: μ) = some (.int r, cw is (k + 1) :: μ) := by
  by_cases z : (is.length : Int) < k + 1
  · refine ⟨0, Int.le_refl _, h, run_rt rfl (Nat.le_of_ble_eq_true rfl) (seq_nx (ρ1 := [some (.pl (.cell 0)), some (.pl (.int many))]) (μ1 := cw is (k + 1) :: μ) ?_ (seq_rt ?_))⟩
    · have : (cw is k).length < sizeLine := Nat.lt_of_lt_of_le (show 2 < 16777216 by decide) (by decide)
      walk_at "go"
      simp [keyD, cw_at, cw_put, this]
    · walk_at "go"
      simp [ixD, keyD, cw_at, cw_draws, wthD_some', andThen_some', biD, cmpD, onBl_bl, z]
  · obtain ⟨i, hi⟩ := atI_int (is := is) (k := k) hk (by omega)
    refine ⟨i.fmod many, Int.fmod_nonneg_of_pos i h, Int.fmod_lt_of_pos i h, run_rt rfl (Nat.le_of_ble_eq_true rfl) (seq_nx (ρ1 := [some (.pl (.cell 0)), some (.pl (.int many))]) (μ1 := cw is (k + 1) :: μ) ?_ (seq_nx (ρ1 := [some (.pl (.cell 0)), some (.pl (.int many))]) (μ1 := cw is (k + 1) :: μ) ?_ (seq_rt ?_)))⟩
    · have : (cw is k).length < sizeLine := Nat.lt_of_lt_of_le (show 2 < 16777216 by decide) (by decide)
      walk_at "go"
      simp [keyD, cw_at, cw_put, this]
    · walk_at "go"
      simp [ixD, keyD, cw_at, cw_draws, wthD_some', andThen_some', biD, cmpD, onBl_bl, z]
    · have e : k + 1 - 1 = k := by omega
      walk_at "go"
      simp [ixD, keyD, cw_at, cw_draws, wthD_some', andThen_some', biD, cmpD, onBl_bl, op_sub, e, hi, op_mod i (show many ≠ 0 by omega)]
/-! ### alike -/
def LikeC (F : Fs) (f : Nat) (d : D) : Prop := ∀ μ, F f [d, d] μ = some (.bl true, μ)
theorem alike_scal {f : Nat} {d : D} (h : d.scal = true) (μ : Cells) : runFn F W ⟨2, 3, B__law_alike f⟩ [d, d] μ = some (.bl true, μ) := by
  refine run_rt rfl (Nat.le_of_ble_eq_true rfl) ?_
  unfold B__law_alike
  cases d <;> first
    | (cases h; done)
    | (walk_at "go"; simp [isNon, eqD, scalOk, eqS, D.scal, onBl_bl, wthD_some', andThen_some', h])
theorem alike_go {f : Nat} {ds es : List D} {μ : Cells} {ρ : Env} (n : Nat) (c : Env → Cells → Option (Bool × Cells)) (g : Env → Cells → Option (D × Cells)) (hc : ∀ k : Nat, k < n → ∃ ρ1, bindT (.nm 2) (.int k) ρ = some ρ1 ∧ c ρ1 μ = some (false, μ)) :
    ∀ (l : List Nat), (∀ k ∈ l, k < n) → lcGo (.nm 2) c g ρ (l.map fun (k : Nat) => D.int (0 + k)) μ = some ([], μ)
  | [], _ => rfl
  | k :: l, h => by
    obtain ⟨ρ1, e1, e2⟩ := hc k (h k (by simp))
    have ih := alike_go n c g hc l (fun k hk => h k (by simp [hk])) (f := f) (ds := ds) (es := es)
    show lcGo (.nm 2) c g ρ (D.int (0 + k) :: l.map fun (k : Nat) => D.int (0 + k)) μ = _
    unfold lcGo
    rw [Int.zero_add, e1]
    simp only
    rw [e2]
    exact ih
theorem ev_lc {elt : E} {tg : Tg} {it : It} {cond : EO} {ρ : Env} {μ μ1 μ2 : Cells} {xs ys : List D} (h1 : evi F it ρ μ = some (xs, μ1)) (hl : xs.length ≤ 16777216) (h2 : lcGo tg (fun ρ' μ' => evc F cond ρ' μ') (fun ρ' μ' => if lk ρ' elt then none else ev F elt ρ' μ') ρ xs μ1 = some (ys, μ2)) : ev F (.lc elt tg it cond) ρ μ = some (.lst ys, μ2) := by
  unfold ev
  rw [h1]
  show (if xs.length ≤ 16777216 then _ else _) = _
  rw [if_pos hl, h2]
  rfl
theorem ifs_t {c : E} {a b : Ss} {ρ : Env} {μ μ1 : Cells} {r : Option Res} (h : ev F c ρ μ = some (.bl true, μ1)) (g : execs F W a ρ μ1 = r) : exec F W (.ifs c a b) ρ μ = r := by
  unfold exec
  rw [h]
  exact g
theorem ifs_f {c : E} {a b : Ss} {ρ : Env} {μ μ1 : Cells} {r : Option Res} (h : ev F c ρ μ = some (.bl false, μ1)) (g : execs F W b ρ μ1 = r) : exec F W (.ifs c a b) ρ μ = r := by
  unfold exec
  rw [h]
  exact g
theorem ret_of {e : E} {ρ : Env} {μ μ1 : Cells} {d : D} (h : lk ρ e = false) (g : ev F e ρ μ = some (d, μ1)) : exec F W (.ret e) ρ μ = some (.rt d μ1) := by
  unfold exec
  rw [h, g]
  rfl
theorem cmp_of {o : PySem.CmpOp} {a b : E} {ρ : Env} {μ μ1 μ2 : Cells} {x y : D} {t : Bool} (h : ev F a ρ μ = some (x, μ1)) (g : ev F b ρ μ1 = some (y, μ2)) (e : cmpD o x y = some t) : ev F (.cmp o a b) ρ μ = some (.bl t, μ2) := by
  unfold ev
  rw [h]
  show andThen (ev F b ρ μ1) _ = _
  rw [g]
  show wthD ((cmpD o x y).map D.bl) μ2 = _
  rw [e]
  rfl
theorem len_tup (μ : Cells) (ds : List D) : biD μ .len [.tup ds] = some (.int ds.length) := rfl
theorem len_lst (μ : Cells) (ds : List D) : biD μ .len [.lst ds] = some (.int ds.length) := rfl
theorem evi_rng {ρ : Env} {e : E} {n : Nat} {μ μ1 : Cells} (h : ev F e ρ μ = some (.int n, μ1)) (hn : n ≤ 16777216) : evi F (.rng1 e) ρ μ = some (rngD 0 n, μ1) := by
  have t : rngOk n = true := by
    unfold rngOk
    rw [Bool.and_eq_true, decide_eq_true_eq, decide_eq_true_eq]
    omega
  unfold evi
  rw [h, andThen_some']
  simp only [t, if_true, Int.toNat_natCast]
theorem rng_len (lo : Int) (n : Nat) : (rngD lo n).length = n := by
  unfold rngD
  simp
theorem atI_nat {α : Type} {l : List α} {k : Nat} (h : k < l.length) : atI l (k : Int) = some l[k] := by
  unfold atI ixN
  simp [h]
theorem alike_tup {f : Nat} {ds : List D} (hl : ds.length ≤ 1000) (h : ∀ d ∈ ds, LikeC F f d) (μ : Cells) : runFn F W ⟨2, 3, B__law_alike f⟩ [.tup ds, .tup ds] μ = some (.bl true, μ) := by
  refine run_rt rfl (Nat.le_of_ble_eq_true rfl) (seq_rt (ifs_t (μ1 := μ) ?_ (seq_nx (ρ1 := [some (.pl (.tup ds)), some (.pl (.tup ds)), none]) (μ1 := μ) (ifs_f (μ1 := μ) ?_ ?_) (seq_rt (ret_of rfl (cmp_of (x := .lst []) (y := .lst []) (ev_lc (xs := rngD 0 ds.length) (μ1 := μ) (evi_rng ?_ (by omega)) (by rw [rng_len]; omega) (alike_go ds.length _ _ (fun k hk => ⟨[some (.pl (.tup ds)), some (.pl (.tup ds)), some (.pl (.int k))], rfl, ?_⟩) _ (fun k hk => List.mem_range.mp hk) (f := f) (ds := ds) (es := ds))) ?_ ?_))))))
  · walk_at "go"
  · walk_at "go"
    simp [len_tup, andThen_some', eqD_int, wthD_some', onBl_bl]
  · walk_at "go"
  · walk_at "go"
    simp [len_tup, andThen_some', eqD_int, wthD_some', onBl_bl]
  · have e := h ds[k] (List.getElem_mem hk) μ
    walk_at "go"
    simp [atI_nat hk, andThen_some', wthD_some', onBl_bl, e]
  · walk_at "go"
  · rfl
end
end FM

set_option Elab.async false
set_option linter.all false
set_option maxRecDepth 100000
set_option maxHeartbeats 4000000
/-! M5: the draws. -/
namespace FM
open PySem (Str sizeLine)
open L2 (atI ixN Key)
open PySem.Spec PyProof.Rows
section
variable {F : Fs} {j k : Nat}
local macro_rules | `(tactic| walk_at "go") => `(tactic| simp [FM.runFn, FM.FD.fn, FM.execs, FM.exec, FM.ev, FM.evs, FM.evo, FM.evc, FM.evi, FM.lk, FM.lks, FM.It.lk, FM.isOw, FM.noOw, FM.Sl.isOw, FM.Sl.d, FM.isiD, FM.cmpD, FM.negD, FM.setAll, FM.bindT, FM.andThen_some', FM.onBl_bl, FM.wthD_some', FM.eqD_int, FM.ix_tup, FM.ix_lst, FM.atI_0, FM.atI_1, FM.atI_2, FM.op_add, FM.op_sub, FM.op_subBl, FM.biD_abs, FM.szle])
theorem forF_inv (I : List D → Env → Cells → Prop) {tg : Tg} {b : Env → Cells → Option Res}
    (h : ∀ x ys ρ μ, I (x :: ys) ρ μ → ∃ ρ1 ρ2 μ2, bindT tg x ρ = some ρ1 ∧ b ρ1 μ = some (.nx ρ2 μ2) ∧ I ys ρ2 μ2) :
    ∀ (xs : List D) (ρ : Env) (μ : Cells), I xs ρ μ → ∃ ρ' μ', forF tg b xs ρ μ = some (.nx ρ' μ') ∧ I [] ρ' μ'
  | [], ρ, μ, g => ⟨ρ, μ, rfl, g⟩
  | x :: xs, ρ, μ, g => by
    obtain ⟨ρ1, ρ2, μ2, e1, e2, g2⟩ := h x xs ρ μ g
    obtain ⟨ρ', μ', e3, g3⟩ := forF_inv I h xs ρ2 μ2 g2
    refine ⟨ρ', μ', ?_, g3⟩
    unfold forF
    rw [e1]
    simp only
    rw [e2]
    exact e3
/-- whole numbers from a to b -/
def Ints (a b : Int) (xs : List D) : Prop := ∀ x ∈ xs, ∃ i : Int, x = .int i ∧ a ≤ i ∧ i < b
theorem Ints.head {a b : Int} {x : D} {xs : List D} (h : Ints a b (x :: xs)) : ∃ i : Int, x = .int i ∧ a ≤ i ∧ i < b := h x (by simp)
theorem Ints.tail {a b : Int} {x : D} {xs : List D} (h : Ints a b (x :: xs)) : Ints a b xs := fun y hy => h y (by simp [hy])
theorem ints_rng (n : Nat) : Ints 0 n (rngD 0 n) := fun x hx => by
  unfold rngD at hx
  obtain ⟨k, hk, rfl⟩ := List.mem_map.mp hx
  have := List.mem_range.mp hk
  exact ⟨_, rfl, by omega, by omega⟩
/-- a place without an owned list -/
abbrev pE (s : List D) (m : Int) (is : List Int) (mx : Int) (o4 o5 o6 o7 : Option D) : Env := [some (.pl (.lst s)), some (.pl (.int m)), some (.ow (is.map D.int)), some (.pl (.int mx)), o4.map .pl, o5.map .pl, o6.map .pl, o7.map .pl]
theorem pow1018 : opD .Pow (.int 10) (.int 18) = some (.int 1000000000000000000) := by rfl
theorem bi_int (μ : Cells) (i : Int) : biD μ .int [.int i] = some (.int i) := rfl
theorem app_ow {is : List Int} {i : Int} : is.map D.int ++ [D.int i] = (is ++ [i]).map D.int := by simp
def MxI (mx : Int) : Prop := 0 ≤ mx ∧ mx < 65537
theorem MxI.sm {mx : Int} (h : MxI mx) : Sm 17 mx := by
  unfold Sm
  obtain ⟨h1, h2⟩ := h
  have : (65537 : Nat) < 2 ^ 17 := by decide
  omega
theorem MxI.mod (i : Int) : MxI (i.fmod 65537) := ⟨Int.fmod_nonneg_of_pos i (by decide), Int.fmod_lt_of_pos i (by decide)⟩
theorem sz_lt {n : Nat} (h : n < 100000) : n < sizeLine := Nat.lt_of_lt_of_le h (by decide)
def bIn : Ss := (.cons (.ifs (.cmp .Gt (.var 6) (.int 0)) (.cons (.app 2 (.op .Mod (.bi .int (.cons (.var 6) .nil)) (.int 997))) (.cons (.asg 6 (.op .FloorDiv (.var 6) (.int 997))) .nil)) .nil) .nil)
theorem in_step {s : List D} {m mx rest i : Int} {is : List Int} {o4 o5 o7 : Option D} {μ : Cells} (hl : is.length < 100000) : ∃ is' rest', is'.length ≤ is.length + 1 ∧ execs F W bIn (pE s m is mx o4 o5 (some (.int rest)) (some (.int i))) μ = some (.nx (pE s m is' mx o4 o5 (some (.int rest')) (some (.int i))) μ) := by
  have d : Dv 997 := .inl (by decide)
  have n : (997 : Int) ≠ 0 := by decide
  by_cases z : 0 < rest
  · refine ⟨is ++ [rest.fmod 997], rest.fdiv 997, by simp, seq_nx (ifs_t (μ1 := μ) ?_ (seq_nx (ρ1 := pE s m (is ++ [rest.fmod 997]) mx o4 o5 (some (.int rest)) (some (.int i))) (μ1 := μ) ?_ (seq_nx ?_ rfl))) rfl⟩
    · walk_at "go"
      exact z
    · walk_at "go"
      simp [bi_int, op_mod _ n, andThen_some', wthD_some', sz_lt hl]
    · walk_at "go"
      simp [op_div _ d, andThen_some', wthD_some']
  · refine ⟨is, rest, by omega, seq_nx (ifs_f (μ1 := μ) ?_ rfl) rfl⟩
    walk_at "go"
    omega
def bOut : Ss := (.cons (.asg 5 (.bi .abs (.cons (.bi .int (.cons (.ix (.var 0) (.var 4)) .nil)) .nil))) (.cons (.asg 3 (.op .Mod (.bi .int (.cons (.op .Add (.op .Add (.op .Mult (.var 3) (.int 48271)) (.op .Mod (.var 5) (.int 1000003))) (.var 4)) .nil)) (.int 65537))) (.cons (.asg 6 (.int 0)) (.cons (.ifs (.cmp .GtE (.var 5) (.op .Pow (.int 10) (.int 18))) (.cons (.asg 6 (.var 5)) .nil) (.cons (.app 2 (.op .Mod (.bi .int (.cons (.var 5) .nil)) (.int 997))) (.cons (.app 2 (.op .Mod (.op .Mod (.bi .int (.cons (.op .Add (.op .Mult (.var 3) (.int 69621)) (.int 5)) .nil)) (.int 65521)) (.int 997))) .nil))) (.cons (.for_ (.nm 7) (.rng1 (.int 60)) bIn) .nil)))))
theorem in_loop {s : List D} {m mx : Int} {o4 o5 : Option D} {μ : Cells} (N : Nat) (xs : List D) (rest : Int) (is : List Int) (o7 : Option D) (hl : is.length + xs.length ≤ N) (hN : N < 100000) (hx : Ints 0 60 xs) :
    ∃ is' rest' o7', is'.length ≤ N ∧ forF (.nm 7) (fun ρ' μ' => execs F W bIn ρ' μ') xs (pE s m is mx o4 o5 (some (.int rest)) o7) μ = some (.nx (pE s m is' mx o4 o5 (some (.int rest')) o7') μ) := by
  obtain ⟨ρ', μ', e1, e2⟩ := forF_inv (fun ys ρ μ1 => μ1 = μ ∧ Ints 0 60 ys ∧ ∃ is' rest' o7', ρ = pE s m is' mx o4 o5 (some (.int rest')) o7' ∧ is'.length + ys.length ≤ N) (tg := .nm 7) (b := fun ρ' μ' => execs F W bIn ρ' μ') (fun x ys ρ μ1 h => by
    obtain ⟨rfl, h1, is', rest', o7', rfl, h2⟩ := h
    obtain ⟨i, rfl, _⟩ := h1.head
    rw [List.length_cons] at h2
    obtain ⟨is2, r2, l2, e2⟩ := in_step (F := F) (s := s) (m := m) (mx := mx) (rest := rest') (i := i) (is := is') (o4 := o4) (o5 := o5) (o7 := o7') (μ := μ1) (by omega)
    exact ⟨_, _, _, rfl, e2, rfl, h1.tail, is2, r2, _, rfl, by omega⟩) xs _ μ ⟨rfl, hx, is, rest, o7, rfl, hl⟩
  obtain ⟨rfl, _, is', rest', o7', rfl, h2⟩ := e2
  exact ⟨is', rest', o7', h2, e1⟩
theorem out_step {ns : List Int} {m mx i : Int} {is : List Int} {o5 o6 o7 : Option D} {μ : Cells} (hm : MxI mx) (hl : is.length < 90000) (hi : 0 ≤ i) (hn : i < ns.length) :
    ∃ is' mx' o5' o6' o7', is'.length ≤ is.length + 62 ∧ MxI mx' ∧ execs F W bOut (pE (ns.map D.int) m is mx (some (.int i)) o5 o6 o7) μ = some (.nx (pE (ns.map D.int) m is' mx' (some (.int i)) o5' o6' o7') μ) := by
  obtain ⟨c, hc⟩ := atI_int (is := ns) (k := i) hi hn
  have n1 : (997 : Int) ≠ 0 := by decide
  have n2 : (65537 : Int) ≠ 0 := by decide
  have n3 : (1000003 : Int) ≠ 0 := by decide
  have n4 : (65521 : Int) ≠ 0 := by decide
  have s1 : Sm 17 (48271 : Int) := by unfold Sm; decide
  have s2 : Sm 17 (69621 : Int) := by unfold Sm; decide
  have p1 := op_mul hm.sm s1 (by decide)
  let mx1 : Int := (mx * 48271 + (c.natAbs : Int).fmod 1000003 + i).fmod 65537
  have hm1 : MxI mx1 := MxI.mod _
  have p2 := op_mul hm1.sm s2 (by decide)
  have e1 : exec F W (.asg 5 (.bi .abs (.cons (.bi .int (.cons (.ix (.var 0) (.var 4)) .nil)) .nil))) (pE (ns.map D.int) m is mx (some (.int i)) o5 o6 o7) μ = some (.nx (pE (ns.map D.int) m is mx (some (.int i)) (some (.int c.natAbs)) o6 o7) μ) := by
    cases o5 <;>
    · walk_at "go"
      simp [hc, wthD_some', andThen_some', bi_int, biD_abs]
  have e2 : exec F W (.asg 3 (.op .Mod (.bi .int (.cons (.op .Add (.op .Add (.op .Mult (.var 3) (.int 48271)) (.op .Mod (.var 5) (.int 1000003))) (.var 4)) .nil)) (.int 65537))) (pE (ns.map D.int) m is mx (some (.int i)) (some (.int c.natAbs)) o6 o7) μ = some (.nx (pE (ns.map D.int) m is mx1 (some (.int i)) (some (.int c.natAbs)) o6 o7) μ) := by
    walk_at "go"
    simp [p1, op_mod _ n3, op_add, wthD_some', andThen_some', bi_int, op_mod _ n2, mx1]
  have e3 : exec F W (.asg 6 (.int 0)) (pE (ns.map D.int) m is mx1 (some (.int i)) (some (.int c.natAbs)) o6 o7) μ = some (.nx (pE (ns.map D.int) m is mx1 (some (.int i)) (some (.int c.natAbs)) (some (.int 0)) o7) μ) := by
    cases o6 <;> walk_at "go"
  have e4 : ∃ is1 r1, is1.length ≤ is.length + 2 ∧ exec F W (.ifs (.cmp .GtE (.var 5) (.op .Pow (.int 10) (.int 18))) (.cons (.asg 6 (.var 5)) .nil) (.cons (.app 2 (.op .Mod (.bi .int (.cons (.var 5) .nil)) (.int 997))) (.cons (.app 2 (.op .Mod (.op .Mod (.bi .int (.cons (.op .Add (.op .Mult (.var 3) (.int 69621)) (.int 5)) .nil)) (.int 65521)) (.int 997))) .nil))) (pE (ns.map D.int) m is mx1 (some (.int i)) (some (.int c.natAbs)) (some (.int 0)) o7) μ = some (.nx (pE (ns.map D.int) m is1 mx1 (some (.int i)) (some (.int c.natAbs)) (some (.int r1)) o7) μ) := by
    by_cases z : 1000000000000000000 ≤ (c.natAbs : Int)
    · refine ⟨is, c.natAbs, by omega, ifs_t (μ1 := μ) ?_ ?_⟩
      · walk_at "go"
        simp [pow1018, wthD_some', andThen_some', cmpD]
        omega
      · walk_at "go"
    · refine ⟨is ++ [(c.natAbs : Int).fmod 997] ++ [((mx1 * 69621 + 5).fmod 65521).fmod 997], 0, by simp, ifs_f (μ1 := μ) ?_ (seq_nx (ρ1 := pE (ns.map D.int) m (is ++ [(c.natAbs : Int).fmod 997]) mx1 (some (.int i)) (some (.int c.natAbs)) (some (.int 0)) o7) (μ1 := μ) ?_ (seq_nx ?_ rfl))⟩
      · walk_at "go"
        simp [pow1018, wthD_some', andThen_some', cmpD]
        omega
      · walk_at "go"
        simp [bi_int, op_mod _ n1, andThen_some', wthD_some', sz_lt (n := is.length) (by omega)]
      · have l : (is ++ [(c.natAbs : Int).fmod 997]).length < sizeLine := sz_lt (by simp; omega)
        simp at l
        walk_at "go"
        simp [p2, bi_int, op_mod _ n1, op_mod _ n4, op_add, andThen_some', wthD_some', l]
  obtain ⟨is1, r1, l1, e4⟩ := e4
  obtain ⟨is2, r2, o7', l2, e5⟩ := in_loop (F := F) (s := ns.map D.int) (m := m) (mx := mx1) (o4 := some (.int i)) (o5 := some (.int c.natAbs)) (μ := μ) (is.length + 62) (rngD 0 60) r1 is1 o7 (by rw [rng_len]; omega) (by omega) (ints_rng 60)
  refine ⟨is2, mx1, _, _, o7', l2, hm1, seq_nx e1 (seq_nx e2 (seq_nx e3 (seq_nx e4 (seq_nx (for_of ?_ rfl e5) rfl))))⟩
  exact evi_rng (n := 60) rfl (by decide)
def bLast : Ss := (.cons (.asg 3 (.op .Mod (.bi .int (.cons (.op .Add (.op .Add (.op .Mult (.var 3) (.int 16807)) (.var 4)) (.int 1)) .nil)) (.int 65537))) (.cons (.app 2 (.op .Mod (.bi .int (.cons (.var 3) .nil)) (.int 997))) .nil))
theorem last_step {s : List D} {m mx i : Int} {is : List Int} {o5 o6 o7 : Option D} {μ : Cells} (hm : MxI mx) (hl : is.length < 90000) :
    ∃ is' mx', is'.length ≤ is.length + 1 ∧ MxI mx' ∧ execs F W bLast (pE s m is mx (some (.int i)) o5 o6 o7) μ = some (.nx (pE s m is' mx' (some (.int i)) o5 o6 o7) μ) := by
  have n1 : (997 : Int) ≠ 0 := by decide
  have n2 : (65537 : Int) ≠ 0 := by decide
  have s1 : Sm 17 (16807 : Int) := by unfold Sm; decide
  have p1 := op_mul hm.sm s1 (by decide)
  refine ⟨is ++ [((mx * 16807 + i + 1).fmod 65537).fmod 997], (mx * 16807 + i + 1).fmod 65537, by simp, MxI.mod _, seq_nx (ρ1 := pE s m is ((mx * 16807 + i + 1).fmod 65537) (some (.int i)) o5 o6 o7) (μ1 := μ) ?_ (seq_nx ?_ rfl)⟩
  · walk_at "go"
    simp [p1, op_add, wthD_some', andThen_some', bi_int, op_mod _ n2]
  · walk_at "go"
    simp [bi_int, op_mod _ n1, andThen_some', wthD_some', sz_lt (n := is.length) (by omega)]
theorem draws_ok (ns : List Int) (hn : ns.length ≤ 63) (many : Nat) (h : many ≤ 1000) (μ : Cells) : ∃ is : List Int, runFn F W ⟨2, 8, B__law_draws⟩ [.lst (ns.map D.int), .int many] μ = some (.lst (is.map D.int), μ) := by
  obtain ⟨ρ1, μ1, e1, e2⟩ := forF_inv (fun ys ρ μ1 => μ1 = μ ∧ Ints 0 ns.length ys ∧ ∃ is mx o4 o5 o6 o7, ρ = pE (ns.map D.int) many is mx o4 o5 o6 o7 ∧ MxI mx ∧ is.length + ys.length * 62 ≤ 63 * 62) (tg := .nm 4) (b := fun ρ' μ' => execs F W bOut ρ' μ') (fun x ys ρ μ1 h => by
    obtain ⟨rfl, h1, is, mx, o4, o5, o6, o7, rfl, hm, h2⟩ := h
    obtain ⟨i, rfl, h3, h4⟩ := h1.head
    rw [List.length_cons] at h2
    obtain ⟨is', mx', o5', o6', o7', l, hm', e⟩ := out_step (F := F) (ns := ns) (m := many) (mx := mx) (i := i) (is := is) (o5 := o5) (o6 := o6) (o7 := o7) (μ := μ1) hm (by omega) h3 h4
    exact ⟨_, _, _, rfl, e, rfl, h1.tail, is', mx', _, _, _, _, rfl, hm', by omega⟩) (rngD 0 ns.length) (pE (ns.map D.int) many [] 7 none none none none) μ ⟨rfl, ints_rng _, [], 7, none, none, none, none, rfl, ⟨by decide, by decide⟩, by rw [rng_len]; simp; omega⟩
  obtain ⟨rfl, _, is, mx, o4, o5, o6, o7, rfl, hm, hl⟩ := e2
  obtain ⟨ρ2, μ2, e3, e4⟩ := forF_inv (fun ys ρ μ2 => μ2 = μ1 ∧ Ints 0 many ys ∧ ∃ is mx o4 o5 o6 o7, ρ = pE (ns.map D.int) many is mx o4 o5 o6 o7 ∧ MxI mx ∧ is.length + ys.length ≤ 63 * 62 + 1000) (tg := .nm 4) (b := fun ρ' μ' => execs F W bLast ρ' μ') (fun x ys ρ μ1 h => by
    obtain ⟨rfl, h1, is, mx, o4, o5, o6, o7, rfl, hm, h2⟩ := h
    obtain ⟨i, rfl, h3, h4⟩ := h1.head
    rw [List.length_cons] at h2
    obtain ⟨is', mx', l, hm', e⟩ := last_step (F := F) (s := ns.map D.int) (m := many) (mx := mx) (i := i) (is := is) (o5 := o5) (o6 := o6) (o7 := o7) (μ := μ1) hm (by omega)
    exact ⟨_, _, _, rfl, e, rfl, h1.tail, is', mx', _, _, _, _, rfl, hm', by omega⟩) (rngD 0 many) _ μ1 ⟨rfl, ints_rng _, is, mx, o4, o5, o6, o7, rfl, hm, by rw [rng_len]; simp at hl; omega⟩
  obtain ⟨rfl, _, is2, mx2, p4, p5, p6, p7, rfl, hm2, hl2⟩ := e4
  refine ⟨cutD is2 none (some many), run_rt rfl (Nat.le_of_ble_eq_true rfl) (seq_nx (ρ1 := [some (.pl (.lst (ns.map D.int))), some (.pl (.int many)), some (.ow []), none, none, none, none, none]) (μ1 := μ2) rfl (seq_nx (ρ1 := pE (ns.map D.int) many [] 7 none none none none) (μ1 := μ2) rfl (seq_nx (for_of (evi_rng (n := ns.length) ?_ (by omega)) rfl e1) (seq_nx (for_of (evi_rng (n := many) rfl (by omega)) rfl e3) (seq_rt ?_)))))⟩
  · walk_at "go"
    simp [len_lst, wthD_some']
  · walk_at "go"
    simp [slD, cutD, andThen_some', wthD_some', List.map_drop, List.map_take]
end
end FM

set_option Elab.async false
set_option linter.all false
set_option maxRecDepth 100000
set_option maxHeartbeats 4000000
/-! M6: places that own nothing; alike at any depth; comprehensions over ranges. -/
namespace FM
open PySem (Str sizeLine)
open L2 (atI ixN Key)
open PySem.Spec PyProof.Rows
/-- an environment that owns nothing -/
def pl (ds : List (Option D)) : Env := ds.map (Option.map Sl.pl)
theorem pl_get (ds : List (Option D)) (i : Nat) : (pl ds)[i]? = (ds[i]?).map (Option.map Sl.pl) := by
  unfold pl
  rw [List.getElem?_map]
theorem pl_set (ds : List (Option D)) (i : Nat) (d : D) : (pl ds).set i (some (.pl d)) = pl (ds.set i (some d)) := by
  unfold pl
  rw [List.map_set]
  rfl
theorem isOw_pl (ds : List (Option D)) (i : Nat) : isOw (pl ds) i = false := by
  unfold isOw
  rw [pl_get]
  cases ds[i]? with
  | none => rfl
  | some o => cases o <;> rfl
theorem noOw_pl (ds : List (Option D)) : ∀ is : List Nat, noOw (pl ds) is = true
  | [] => rfl
  | i :: is => by
    unfold noOw
    rw [isOw_pl, noOw_pl ds is]
    rfl
theorem lk_pl (ds : List (Option D)) : ∀ e : E, lk (pl ds) e = false
  | .var i => by unfold lk; exact isOw_pl ds i
  | .ife c a b => by unfold lk; rw [lk_pl ds a, lk_pl ds b]; rfl
  | .int _ | .bl _ | .non | .str _ | .op .. | .neg _ | .cmp .. | .chn .. | .and .. | .or .. | .not _ | .tup _ | .lst _ | .ix .. | .sl .. | .call .. | .callB .. | .bi .. | .isi .. | .me .. | .lc .. | .dict .. => by unfold lk; rfl
theorem lks_pl (ds : List (Option D)) : ∀ es : Es, lks (pl ds) es = false
  | .nil => rfl
  | .cons e es => by unfold lks; rw [lk_pl, lks_pl ds es]; rfl
theorem itlk_pl (ds : List (Option D)) (it : It) : it.lk (pl ds) = false := by
  cases it <;> first | rfl | (unfold It.lk; exact lk_pl ds _)
theorem start_pl (ds : List D) (n : Nat) : ds.map (fun d => some (Sl.pl d)) ++ List.replicate n none = pl (ds.map some ++ List.replicate n none) := by
  unfold pl
  simp
def setAllD : List Nat → List D → List (Option D) → List (Option D)
  | i :: is, d :: ds, ρ => setAllD is ds (ρ.set i (some d))
  | _, _, ρ => ρ
theorem setAll_pl : ∀ (is : List Nat) (xs : List D) (ds : List (Option D)), setAll is xs (pl ds) = pl (setAllD is xs ds)
  | [], xs, ds => by cases xs <;> rfl
  | i :: is, [], ds => rfl
  | i :: is, x :: xs, ds => by
    unfold setAll setAllD
    rw [pl_set]
    exact setAll_pl is xs _
/-! ### data that are alike to themselves -/
def dep : Nat → D → Bool
  | _, .non => true
  | _, .bl _ => true
  | _, .int _ => true
  | _, .str _ => true
  | n + 1, .tup ds => decide (ds.length ≤ 1000) && ds.all (dep n)
  | _, _ => false
theorem like_dep {f : Nat} {G : Nat → Fs} (hG : ∀ n ds μ, G (n + 1) f ds μ = runFn (G n) W ⟨2, 3, B__law_alike f⟩ ds μ) : ∀ (n : Nat) (d : D), dep n d = true → LikeC (G (n + 1)) f d
  | n, .non, _ => fun μ => by rw [hG]; exact alike_scal rfl μ
  | n, .bl _, _ => fun μ => by rw [hG]; exact alike_scal rfl μ
  | n, .int _, _ => fun μ => by rw [hG]; exact alike_scal rfl μ
  | n, .str _, _ => fun μ => by rw [hG]; exact alike_scal rfl μ
  | 0, .tup ds, h => by cases h
  | 0, .lst ds, h => by cases h
  | _ + 1, .lst ds, h => by cases h
  | 0, .cell _, h => by cases h
  | _ + 1, .cell _, h => by cases h
  | n + 1, .tup ds, h => fun μ => by
    unfold dep at h
    rw [Bool.and_eq_true, decide_eq_true_eq, List.all_eq_true] at h
    rw [hG]
    exact alike_tup h.1 (fun d hd => like_dep hG n d (h.2 d hd)) μ
/-! ### the filters of the law -/
theorem filter_below (r : Nat) (p : Nat → Bool) (h1 : ∀ k, k ≤ r → p k = true) (h2 : ∀ k, r < k → p k = false) : ∀ n, (List.range n).filter p = List.range (min n (r + 1))
  | 0 => rfl
  | n + 1 => by
    rw [List.range_succ, List.filter_append, filter_below r p h1 h2 n]
    by_cases z : n ≤ r
    · have e1 : min n (r + 1) = n := by omega
      have e2 : min (n + 1) (r + 1) = n + 1 := by omega
      rw [e1, e2, List.range_succ]
      simp [h1 n z]
    · have e1 : min n (r + 1) = r + 1 := by omega
      have e2 : min (n + 1) (r + 1) = r + 1 := by omega
      rw [e1, e2]
      simp [h2 n (by omega)]
theorem filter_above (s : Nat) (p : Nat → Bool) (h1 : ∀ k, k < s → p k = false) (h2 : p s = true) : ∀ n, ((List.range n).filter p).head? = if s < n then some s else none
  | 0 => rfl
  | n + 1 => by
    rw [List.range_succ, List.filter_append, List.head?_append, filter_above s p h1 h2 n]
    by_cases z : s < n
    · rw [if_pos z, if_pos (by omega)]
      rfl
    · rw [if_neg z]
      by_cases e : s = n
      · subst e
        rw [if_pos (by omega)]
        simp [h2]
      · rw [if_neg (by omega)]
        simp [h1 n (by omega)]
theorem lc_filter (N : Nat) {i : Nat} {ρ : Env} {μ : Cells} {c : Env → Cells → Option (Bool × Cells)} {g : Env → Cells → Option (D × Cells)} (p : Nat → Bool)
    (hc : ∀ k : Nat, k < N → c (ρ.set i (some (.pl (.int k)))) μ = some (p k, μ)) (hg : ∀ k : Nat, g (ρ.set i (some (.pl (.int k)))) μ = some (.int k, μ)) :
    ∀ l : List Nat, (∀ k ∈ l, k < N) → lcGo (.nm i) c g ρ (l.map fun (k : Nat) => D.int (0 + k)) μ = some ((l.filter p).map fun (k : Nat) => D.int k, μ)
  | [], _ => rfl
  | k :: l, hl => by
    have ih := lc_filter N p hc hg l fun k hk => hl k (List.mem_cons_of_mem _ hk)
    have hk := hc k (hl k (List.mem_cons_self ..))
    show lcGo (.nm i) c g ρ (D.int (0 + k) :: l.map fun (k : Nat) => D.int (0 + k)) μ = _
    unfold lcGo
    rw [Int.zero_add]
    show (match some (ρ.set i (some (.pl (.int k)))) with | none => none | some ρ1 => _) = _
    simp only [hk]
    cases e : p k with
    | false =>
      simp only [List.filter_cons, e]
      exact ih
    | true =>
      simp only [List.filter_cons, e, hg k, ih]
      rfl
/-- a comprehension over a range, filtered -/
theorem ev_lcf {F : Fs} {i : Nat} {e : E} {cond : E} {ds : List (Option D)} {μ : Cells} (N : Nat) (p : Nat → Bool) (hN : N ≤ 16777216) (hi : i < ds.length) (he : ev F e (pl ds) μ = some (.int N, μ))
    (hc : ∀ k : Nat, k < N → ev F cond (pl (ds.set i (some (.int k)))) μ = some (.bl (p k), μ)) :
    ev F (.lc (.var i) (.nm i) (.rng1 e) (.some cond)) (pl ds) μ = some (.lst (((List.range N).filter p).map fun (k : Nat) => D.int k), μ) := by
  refine ev_lc (evi_rng he hN) (by rw [rng_len]; exact hN) (lc_filter N p (fun k hk => ?_) (fun k => ?_) (List.range N) fun k hk => List.mem_range.mp hk)
  · rw [pl_set]
    show onBl (ev F cond _ μ) _ = _
    rw [hc k hk]
    rfl
  · rw [pl_set, lk_pl]
    show (if false = true then none else ev F (.var i) _ μ) = _
    rw [if_neg (by decide)]
    unfold ev
    rw [pl_get, List.getElem?_set_self (by simpa using hi)]
    rfl
theorem ev_ix {F : Fs} {a b : E} {ρ : Env} {μ μ1 μ2 : Cells} {x y d : D} (h1 : ev F a ρ μ = some (x, μ1)) (h2 : ev F b ρ μ1 = some (y, μ2)) (h3 : ixD μ2 x y = some d) : ev F (.ix a b) ρ μ = some (d, μ2) := by
  unfold ev
  rw [h1]
  show andThen (ev F b ρ μ1) _ = _
  rw [h2]
  show wthD (ixD μ2 x y) μ2 = _
  rw [h3]
  rfl
theorem asg_pl {F : Fs} {W : Nat} {i : Nat} {e : E} {ds : List (Option D)} {μ μ1 : Cells} {d : D} (h : ev F e (pl ds) μ = some (d, μ1)) : exec F W (.asg i e) (pl ds) μ = some (.nx (pl (ds.set i (some d))) μ1) := by
  unfold exec
  rw [lk_pl, isOw_pl, h]
  show some (Res.nx ((pl ds).set i _) μ1) = _
  rw [pl_set]
theorem atI_last {l : List D} {d : D} : atI (l ++ [d]) (-1) = some d := by
  unfold atI ixN
  simp
  rw [if_pos (by omega)]
  have : (-1 + ((l.length : Int) + 1)).toNat = l.length := by omega
  show (l ++ [d])[(-1 + ((l.length : Int) + 1)).toNat]? = _
  rw [this]
  simp
theorem atI_head {l : List Nat} {k : Nat} (h : l.head? = some k) : atI (l.map fun (k : Nat) => D.int k) 0 = some (.int k) := by
  cases l with
  | nil => cases h
  | cons a l => cases h; exact atI_0 _ _
end FM

set_option Elab.async false
set_option linter.all false
set_option maxRecDepth 100000
set_option maxHeartbeats 1000000
/-! OF1: ordered fields with one more root. -/
namespace OF
/-- a + b times a root of p -/
structure Ext (K : Type) (p : K) where
  a : K
  b : K
section
variable {K : Type} [fK : Lean.Grind.Field K] {p : K}
local instance ncK : NatCast K := Lean.Grind.Semiring.natCast
local instance icK : IntCast K := Lean.Grind.Ring.intCast
theorem Ext.ext' {x y : Ext K p} (h : x.a = y.a) (g : x.b = y.b) : x = y := by
  cases x
  cases y
  simp only at h g
  rw [h, g]
def Ext.nat (n : Nat) : Ext K p := ⟨(n : K), 0⟩
def Ext.add (x y : Ext K p) : Ext K p := ⟨x.a + y.a, x.b + y.b⟩
def Ext.mul (x y : Ext K p) : Ext K p := ⟨x.a * y.a + x.b * y.b * p, x.a * y.b + x.b * y.a⟩
def Ext.neg (x : Ext K p) : Ext K p := ⟨-x.a, -x.b⟩
def Ext.pow (x : Ext K p) : Nat → Ext K p
  | 0 => ⟨1, 0⟩
  | n + 1 => (x.pow n).mul x
def Ext.N (x : Ext K p) : K := x.a * x.a - x.b * x.b * p
def Ext.inv (x : Ext K p) : Ext K p := ⟨x.a * (x.N)⁻¹, -x.b * (x.N)⁻¹⟩
def Ext.zp (x : Ext K p) : Int → Ext K p
  | .ofNat n => x.pow n
  | .negSucc n => (x.pow (n + 1)).inv
instance : NatCast (Ext K p) := ⟨Ext.nat⟩
instance (n : Nat) : OfNat (Ext K p) n := ⟨⟨OfNat.ofNat n, 0⟩⟩
instance : Add (Ext K p) := ⟨Ext.add⟩
instance : Mul (Ext K p) := ⟨Ext.mul⟩
instance : Neg (Ext K p) := ⟨Ext.neg⟩
instance : Sub (Ext K p) := ⟨fun x y => x.add y.neg⟩
instance : HPow (Ext K p) Nat (Ext K p) := ⟨Ext.pow⟩
instance : SMul Nat (Ext K p) := ⟨fun n x => (Ext.nat n).mul x⟩
instance : IntCast (Ext K p) := ⟨fun i => ⟨(i : K), 0⟩⟩
instance : SMul Int (Ext K p) := ⟨fun i x => ⟨(i : K) * x.a, (i : K) * x.b⟩⟩
theorem add_a (x y : Ext K p) : (x + y).a = x.a + y.a := rfl
theorem add_b (x y : Ext K p) : (x + y).b = x.b + y.b := rfl
theorem mul_a (x y : Ext K p) : (x * y).a = x.a * y.a + x.b * y.b * p := rfl
theorem mul_b (x y : Ext K p) : (x * y).b = x.a * y.b + x.b * y.a := rfl
theorem neg_a (x : Ext K p) : (-x).a = -x.a := rfl
theorem neg_b (x : Ext K p) : (-x).b = -x.b := rfl
theorem sub_a (x y : Ext K p) : (x - y).a = x.a + -y.a := rfl
theorem sub_b (x y : Ext K p) : (x - y).b = x.b + -y.b := rfl
theorem of_a (n : Nat) : (OfNat.ofNat n : Ext K p).a = OfNat.ofNat n := rfl
theorem of_b (n : Nat) : (OfNat.ofNat n : Ext K p).b = 0 := rfl
theorem z_a : (0 : Ext K p).a = 0 := rfl
theorem z_b : (0 : Ext K p).b = 0 := rfl
theorem o_a : (1 : Ext K p).a = 1 := rfl
theorem o_b : (1 : Ext K p).b = 0 := rfl
theorem nat_a (n : Nat) : ((n : Nat) : Ext K p).a = (n : K) := rfl
theorem nat_b (n : Nat) : ((n : Nat) : Ext K p).b = 0 := rfl
theorem int_a (n : Int) : ((n : Int) : Ext K p).a = (n : K) := rfl
theorem int_b (n : Int) : ((n : Int) : Ext K p).b = 0 := rfl
theorem zs_a (n : Int) (x : Ext K p) : (n • x).a = (n : K) * x.a := rfl
theorem zs_b (n : Int) (x : Ext K p) : (n • x).b = (n : K) * x.b := rfl
theorem ns_a (n : Nat) (x : Ext K p) : (n • x).a = (n : K) * x.a + 0 * x.b * p := rfl
theorem ns_b (n : Nat) (x : Ext K p) : (n • x).b = (n : K) * x.b + 0 * x.a := rfl
instance extRing : Lean.Grind.CommRing (Ext K p) where
  add_zero x := Ext.ext' (by rw [add_a, z_a]; grind) (by rw [add_b, z_b]; grind)
  add_comm x y := Ext.ext' (by rw [add_a, add_a]; grind) (by rw [add_b, add_b]; grind)
  add_assoc x y z := Ext.ext' (by simp only [add_a]; grind) (by simp only [add_b]; grind)
  mul_assoc x y z := Ext.ext' (by simp only [mul_a, mul_b]; grind) (by simp only [mul_a, mul_b]; grind)
  mul_one x := Ext.ext' (by simp only [mul_a, o_a, o_b]; grind) (by simp only [mul_b, o_a, o_b]; grind)
  one_mul x := Ext.ext' (by simp only [mul_a, o_a, o_b]; grind) (by simp only [mul_b, o_a, o_b]; grind)
  mul_zero x := Ext.ext' (by simp only [mul_a, z_a, z_b]; grind) (by simp only [mul_b, z_a, z_b]; grind)
  right_distrib x y z := Ext.ext' (by simp only [mul_a, add_a, add_b]; grind) (by simp only [mul_b, add_a, add_b]; grind)
  left_distrib x y z := Ext.ext' (by simp only [mul_a, add_a, add_b]; grind) (by simp only [mul_b, add_a, add_b]; grind)
  zero_mul x := Ext.ext' (by simp only [mul_a, z_a, z_b]; grind) (by simp only [mul_b, z_a, z_b]; grind)
  pow_zero x := rfl
  pow_succ x n := rfl
  ofNat_succ n := Ext.ext' (by rw [add_a, of_a, of_a, o_a]; exact Lean.Grind.Semiring.ofNat_succ n) (by rw [add_b, of_b, of_b, o_b]; grind)
  ofNat_eq_natCast n := Ext.ext' (by rw [of_a, nat_a]; exact Lean.Grind.Semiring.ofNat_eq_natCast n) rfl
  nsmul_eq_natCast_mul n x := rfl
  neg_add_cancel x := Ext.ext' (by rw [add_a, neg_a, z_a]; grind) (by rw [add_b, neg_b, z_b]; grind)
  sub_eq_add_neg x y := rfl
  neg_zsmul i x := Ext.ext' (by rw [neg_a, zs_a, zs_a]; grind) (by rw [neg_b, zs_b, zs_b]; grind)
  zsmul_natCast_eq_nsmul n x := Ext.ext' (by rw [zs_a, ns_a, Lean.Grind.Ring.intCast_natCast]; grind) (by rw [zs_b, ns_b, Lean.Grind.Ring.intCast_natCast]; grind)
  intCast_ofNat n := Ext.ext' (by rw [int_a, of_a]; exact Lean.Grind.Ring.intCast_ofNat n) rfl
  intCast_neg i := Ext.ext' (by rw [neg_a, int_a, int_a]; exact Lean.Grind.Ring.intCast_neg i) (by rw [neg_b, int_b, int_b]; grind)
  mul_comm x y := Ext.ext' (by rw [mul_a, mul_a]; grind) (by rw [mul_b, mul_b]; grind)
/-! ### order -/
section
variable [LE K] [LT K] [Std.LawfulOrderLT K] [Std.IsLinearOrder K] [Lean.Grind.OrderedRing K]
theorem mpos {a b : K} (h : 0 < a) (g : 0 < b) : 0 < a * b := Lean.Grind.OrderedRing.mul_pos h g
theorem sqp {a : K} (h : a ≠ 0) : 0 < a * a := by
  rcases Std.lt_trichotomy a 0 with z | z | z
  · have := mpos (a := -a) (b := -a) (by grind) (by grind)
    grind
  · exact absurd z h
  · exact mpos z z
theorem sqn (a : K) : 0 ≤ a * a := by
  by_cases h : a = 0
  · subst h; grind
  · have := sqp h; grind
/-- of two that are not below 0 the greater square is the greater's -/
theorem lt_of_sq {a b : K} (hb : 0 ≤ b) (h : a * a < b * b) : a < b := by
  rcases Std.lt_trichotomy a b with z | z | z
  · exact z
  · subst z; grind
  · have h1 : 0 < a := by grind
    have h2 := mpos (a := a - b) (b := a) (by grind) h1
    by_cases e : b = 0
    · subst e; grind
    · have h3 := mpos (a := a - b) (b := b) (by grind) (by grind)
      grind
def Ext.P (x : Ext K p) : Prop := (0 < x.N ∧ 0 < x.a) ∨ (x.N < 0 ∧ 0 < x.b)
theorem N_mul (x y : Ext K p) : (x * y).N = x.N * y.N := by
  unfold Ext.N
  rw [mul_a, mul_b]
  grind
theorem N_neg (x : Ext K p) : (-x).N = x.N := by
  unfold Ext.N
  rw [neg_a, neg_b]
  grind
theorem P_mul (hp : 0 < p) {x y : Ext K p} (hx : x.P) (hy : y.P) : (x * y).P := by
  unfold Ext.P
  rw [N_mul, mul_a, mul_b]
  rcases hx with ⟨h1, h2⟩ | ⟨h1, h2⟩ <;> rcases hy with ⟨g1, g2⟩ | ⟨g1, g2⟩
  · refine .inl ⟨mpos h1 g1, ?_⟩
    have k : -(x.b * y.b * p) < x.a * y.a := by
      refine lt_of_sq (by have := mpos h2 g2; grind) ?_
      unfold Ext.N at h1 g1
      have e1 := mpos (a := y.a * y.a) (mpos g2 g2) h1
      have e2 : 0 ≤ x.b * x.b * p * (y.a * y.a - y.b * y.b * p) := by
        by_cases z : x.b = 0
        · rw [z]; grind
        · have := mpos (mpos (sqp z) hp) g1; grind
      by_cases z : x.b = 0
      · rw [z]
        have := mpos (mpos h2 h2) (mpos g2 g2)
        grind
      · have := mpos (mpos (sqp z) hp) g1
        grind
    grind
  · refine .inr ⟨by have := mpos h1 (a := x.N) (b := -y.N) (by grind); grind, ?_⟩
    have k : -(x.b * y.a) < x.a * y.b := by
      refine lt_of_sq (by have := mpos h2 g2; grind) ?_
      unfold Ext.N at h1 g1
      have e1 := mpos (mpos g2 g2) h1
      by_cases z : x.b = 0
      · rw [z]
        have := mpos (mpos h2 h2) (mpos g2 g2)
        grind
      · have := mpos (sqp z) (b := y.b * y.b * p - y.a * y.a) (by grind)
        grind
    grind
  · refine .inr ⟨by have := mpos (a := -x.N) (b := y.N) (by grind) g1; grind, ?_⟩
    have k : -(x.a * y.b) < x.b * y.a := by
      refine lt_of_sq (by have := mpos h2 g2; grind) ?_
      unfold Ext.N at h1 g1
      have e1 := mpos (mpos h2 h2) g1
      by_cases z : y.b = 0
      · rw [z]
        have := mpos (mpos h2 h2) (mpos g2 g2)
        grind
      · have := mpos (sqp z) (b := x.b * x.b * p - x.a * x.a) (by grind)
        grind
    grind
  · refine .inl ⟨by have := mpos (a := -x.N) (b := -y.N) (by grind) (by grind); grind, ?_⟩
    have k : -(x.a * y.a) < x.b * y.b * p := by
      refine lt_of_sq (by have := mpos (mpos h2 g2) hp; grind) ?_
      unfold Ext.N at h1 g1
      have e1 := mpos (mpos (mpos h2 h2) hp) (b := y.b * y.b * p - y.a * y.a) (by grind)
      by_cases z : y.a = 0
      · rw [z]
        have := mpos (mpos (mpos h2 g2) hp) (mpos (mpos h2 g2) hp)
        grind
      · have := mpos (sqp z) (b := x.b * x.b * p - x.a * x.a) (by grind)
        grind
    grind
theorem P_not {x : Ext K p} (h : x.P) (g : (-x).P) : False := by
  unfold Ext.P at h g
  rw [N_neg, neg_a, neg_b] at g
  grind
theorem N_ne (hn : ∀ t : K, t * t ≠ p) {x : Ext K p} (h : x ≠ 0) : x.N ≠ 0 := fun z => by
  unfold Ext.N at z
  by_cases e : x.b = 0
  · rw [e] at z
    refine h (Ext.ext' ?_ e)
    rw [z_a]
    by_cases f : x.a = 0
    · exact f
    · have := sqp f; grind
  · refine hn (x.a * x.b⁻¹) ?_
    have q : x.b * x.b⁻¹ = 1 := Lean.Grind.Field.mul_inv_cancel e
    grind
theorem P_tri (hn : ∀ t : K, t * t ≠ p) (hp : 0 < p) {x : Ext K p} (h : x ≠ 0) : x.P ∨ (-x).P := by
  have n := N_ne hn h
  unfold Ext.P
  rw [N_neg, neg_a, neg_b]
  rcases Std.lt_trichotomy x.N 0 with z | z | z
  · have : x.b ≠ 0 := fun e => by
      unfold Ext.N at z
      rw [e] at z
      have := sqn x.a
      grind
    rcases Std.lt_trichotomy x.b 0 with y | y | y
    · exact .inr (.inr ⟨z, by grind⟩)
    · exact absurd y this
    · exact .inl (.inr ⟨z, y⟩)
  · exact absurd z n
  · have : x.a ≠ 0 := fun e => by
      unfold Ext.N at z
      rw [e] at z
      have h1 := sqn x.b
      have h2 : 0 ≤ x.b * x.b * p := by
        by_cases f : x.b = 0
        · rw [f]; grind
        · have := mpos (sqp f) hp; grind
      grind
    rcases Std.lt_trichotomy x.a 0 with y | y | y
    · exact .inr (.inl ⟨z, by grind⟩)
    · exact absurd y this
    · exact .inl (.inl ⟨z, y⟩)
/-- a positive one of the lower field more -/
theorem P_addK (hn : ∀ t : K, t * t ≠ p) (hp : 0 < p) {x : Ext K p} (h : x.P) {k : K} (hk : 0 < k) : (x + ⟨k, 0⟩).P := by
  unfold Ext.P at h ⊢
  have ea : (x + (⟨k, 0⟩ : Ext K p)).a = x.a + k := rfl
  have eb : (x + (⟨k, 0⟩ : Ext K p)).b = x.b + 0 := rfl
  unfold Ext.N at *
  rw [ea, eb]
  rcases h with ⟨h1, h2⟩ | ⟨h1, h2⟩
  · refine .inl ⟨?_, by grind⟩
    have := mpos h2 hk
    have := mpos hk hk
    grind
  · rcases Std.lt_trichotomy ((x.a + k) * (x.a + k) - (x.b + 0) * (x.b + 0) * p) 0 with z | z | z
    · exact .inr ⟨z, by grind⟩
    · have nz : (x + (⟨k, 0⟩ : Ext K p)) ≠ 0 := fun e => by
        have e2 : (x + (⟨k, 0⟩ : Ext K p)).b = 0 := by rw [e]; rfl
        rw [eb] at e2
        grind
      exact absurd z (N_ne hn nz)
    · refine .inl ⟨z, ?_⟩
      have e : x.a * x.a < (x.a + k) * (x.a + k) := by grind
      rcases Std.lt_trichotomy (x.a + k) 0 with y | y | y
      · have h3 := mpos (a := -(x.a + k)) (b := k) (by grind) hk
        have h4 := mpos hk hk
        grind
      · rw [y] at e
        have := sqn x.a
        grind
      · exact y
theorem P_ne {x : Ext K p} (h : x.P) : x ≠ 0 := fun e => by
  subst e
  unfold Ext.P Ext.N at h
  rw [z_a, z_b] at h
  grind
theorem P_add (hn : ∀ t : K, t * t ≠ p) (hp : 0 < p) {x y : Ext K p} (hx : x.P) (hy : y.P) : (x + y).P := by
  have key : ∀ {x y : Ext K p}, x.P → y.P → y.N < 0 → (x + y).P := fun {x y} hx hy ny => by
    have dy : 0 < y.b := by
      unfold Ext.P at hy
      grind
    let w : Ext K p := ⟨-y.a, y.b⟩
    have wN : w.N = y.N := by
      show (-y.a) * (-y.a) - y.b * y.b * p = y.a * y.a - y.b * y.b * p
      grind
    have hw : w.P := .inr ⟨by rw [wN]; exact ny, dy⟩
    have e : (x + y) * w = x * w + ⟨-y.N, 0⟩ := by
      refine Ext.ext' ?_ ?_
      · rw [add_a, mul_a, mul_a, add_a, add_b]
        show (x.a + y.a) * -y.a + (x.b + y.b) * y.b * p = x.a * -y.a + x.b * y.b * p + -(y.a * y.a - y.b * y.b * p)
        grind
      · rw [add_b, mul_b, mul_b, add_a, add_b]
        show (x.a + y.a) * y.b + (x.b + y.b) * -y.a = x.a * y.b + x.b * -y.a + 0
        grind
    have h1 : ((x + y) * w).P := by
      rw [e]
      exact P_addK hn hp (P_mul hp hx hw) (by grind)
    by_cases z : x + y = 0
    · rw [z] at h1
      have : (0 : Ext K p) * w = 0 := Lean.Grind.Semiring.zero_mul w
      rw [this] at h1
      exact absurd rfl (P_ne h1)
    · rcases P_tri hn hp z with h | h
      · exact h
      · have h2 := P_mul hp h hw
        have e2 : -(x + y) * w = -((x + y) * w) := by grind
        rw [e2] at h2
        exact (P_not h1 h2).elim
  rcases hy with hy' | hy'
  · rcases hx with hx' | hx'
    · refine .inl ⟨?_, by rw [add_a]; grind⟩
      have q : x.b * y.b * p < x.a * y.a ∧ -(x.b * y.b * p) < x.a * y.a := by
        obtain ⟨h1, h2⟩ := hx'
        obtain ⟨g1, g2⟩ := hy'
        unfold Ext.N at h1 g1
        have m : 0 < x.a * y.a := mpos h2 g2
        have e1 := mpos (mpos g2 g2) h1
        have sq : (x.b * y.b * p) * (x.b * y.b * p) < (x.a * y.a) * (x.a * y.a) := by
          by_cases z : x.b = 0
          · rw [z]
            have := mpos m m
            grind
          · have := mpos (mpos (sqp z) hp) g1
            grind
        refine ⟨lt_of_sq (by grind) sq, lt_of_sq (by grind) (by grind)⟩
      have h1 := hx'.1
      have g1 := hy'.1
      unfold Ext.N at *
      rw [add_a, add_b]
      grind
    · rw [show x + y = y + x by grind]
      exact key (.inl hy') (.inr hx') hx'.1
  · exact key hx (.inr hy') hy'.1
instance : LT (Ext K p) := ⟨fun x y => (y - x).P⟩
instance : LE (Ext K p) := ⟨fun x y => x = y ∨ (y - x).P⟩
theorem lt_iff (x y : Ext K p) : x < y ↔ (y - x).P := Iff.rfl
theorem le_iff (x y : Ext K p) : x ≤ y ↔ x = y ∨ (y - x).P := Iff.rfl
/-- the field with the root -/
theorem linear (hn : ∀ t : K, t * t ≠ p) (hp : 0 < p) : Std.IsLinearOrder (Ext K p) where
  le_refl x := .inl rfl
  le_trans x y z h g := by
    rcases h with rfl | h
    · exact g
    · rcases g with rfl | g
      · exact .inr h
      · have := P_add hn hp h g
        exact .inr (by rw [show z - x = (y - x) + (z - y) by grind]; exact this)
  le_antisymm x y h g := by
    rcases h with rfl | h
    · rfl
    · rcases g with g | g
      · exact g.symm
      · rw [show x - y = -(y - x) by grind] at g
        exact (P_not h g).elim
  le_total x y := by
    by_cases z : y - x = 0
    · exact .inl (.inl (by grind))
    · rcases P_tri hn hp z with h | h
      · exact .inl (.inr h)
      · exact .inr (.inr (by rw [show x - y = -(y - x) by grind]; exact h))
theorem lawful : Std.LawfulOrderLT (Ext K p) where
  lt_iff x y := by
    constructor
    · intro h
      refine ⟨.inr h, fun g => ?_⟩
      rcases g with rfl | g
      · exact P_ne h (by grind)
      · rw [show x - y = -(y - x) by grind] at g
        exact P_not h g
    · rintro ⟨h, g⟩
      rcases h with rfl | h
      · exact absurd (.inl rfl) g
      · exact h
theorem ordered (hn : ∀ t : K, t * t ≠ p) (hp : 0 < p) [Std.IsPreorder (Ext K p)] : Lean.Grind.OrderedRing (Ext K p) where
  add_le_left_iff {x y} z := by
    rw [le_iff, le_iff, show y + z - (x + z) = y - x by grind]
    constructor
    · rintro (rfl | h)
      · exact .inl rfl
      · exact .inr h
    · rintro (h | h)
      · exact .inl (by grind)
      · exact .inr h
  zero_lt_one := by
    rw [lt_iff]
    refine .inl ?_
    unfold Ext.N
    rw [sub_a, sub_b, o_a, o_b, z_a, z_b]
    have : (0 : K) < 1 := Lean.Grind.OrderedRing.zero_lt_one
    grind
  mul_lt_mul_of_pos_left {x y z} h g := by
    rw [lt_iff] at *
    rw [show z * y - z * x = (z - 0) * (y - x) by grind]
    exact P_mul hp g h
  mul_lt_mul_of_pos_right {x y z} h g := by
    rw [lt_iff] at *
    rw [show y * z - x * z = (z - 0) * (y - x) by grind]
    exact P_mul hp g h
theorem inv_ok (hn : ∀ t : K, t * t ≠ p) {x : Ext K p} (h : x ≠ 0) : x * x.inv = 1 := by
  have q : x.N * x.N⁻¹ = 1 := Lean.Grind.Field.mul_inv_cancel (N_ne hn h)
  refine Ext.ext' ?_ ?_
  · rw [mul_a, o_a]
    show x.a * (x.a * x.N⁻¹) + x.b * (-x.b * x.N⁻¹) * p = 1
    unfold Ext.N at *
    grind
  · rw [mul_b, o_b]
    show x.a * (-x.b * x.N⁻¹) + x.b * (x.a * x.N⁻¹) = 0
    grind
end
end
end OF

set_option Elab.async false
set_option linter.all false
set_option maxRecDepth 100000
set_option maxHeartbeats 1000000
/-! OF2: every ordered field has one above it with a root of a number that is not below 0. -/
namespace OF
section
variable {K : Type} [fK : Lean.Grind.Field K] {p : K} [LE K] [LT K] [Std.LawfulOrderLT K] [Std.IsLinearOrder K] [Lean.Grind.OrderedRing K]
theorem inv0 : (0 : Ext K p).inv = 0 := by
  refine Ext.ext' ?_ ?_
  · show (0 : Ext K p).a * _ = 0
    rw [z_a]
    grind
  · show -(0 : Ext K p).b * _ = 0
    rw [z_b]
    grind
theorem o_ne : (1 : Ext K p) ≠ 0 := fun e => by
  have : (1 : Ext K p).a = (0 : Ext K p).a := by rw [e]
  rw [o_a, z_a] at this
  exact Lean.Grind.Field.zero_ne_one this.symm
theorem inv_uniq {x y : Ext K p} (hn : ∀ t : K, t * t ≠ p) (h : x * y = 1) : x.inv = y := by
  have hx : x ≠ 0 := fun e => by
    subst e
    have : (0 : Ext K p) * y = 0 := Lean.Grind.Semiring.zero_mul y
    rw [this] at h
    exact o_ne h.symm
  have q := inv_ok hn hx
  have e : x.inv = (x * y) * x.inv := by
    rw [h]
    exact (Lean.Grind.Semiring.one_mul _).symm
  rw [e, show x * y * x.inv = (x * x.inv) * y by grind, q]
  exact Lean.Grind.Semiring.one_mul y
theorem inv_inv (hn : ∀ t : K, t * t ≠ p) (x : Ext K p) : x.inv.inv = x := by
  by_cases h : x = 0
  · subst h
    rw [inv0, inv0]
  · refine inv_uniq hn ?_
    rw [show x.inv * x = x * x.inv by grind]
    exact inv_ok hn h
def field (hn : ∀ t : K, t * t ≠ p) : Lean.Grind.Field (Ext K p) where
  inv := Ext.inv
  div x y := x * y.inv
  zpow := ⟨Ext.zp⟩
  div_eq_mul_inv x y := rfl
  zero_ne_one := fun h => o_ne h.symm
  inv_zero := inv0
  mul_inv_cancel {x} h := inv_ok hn h
  zpow_zero x := rfl
  zpow_succ x n := rfl
  zpow_neg x n := by
    show Ext.zp x (-n) = (Ext.zp x n).inv
    cases n with
    | ofNat n =>
      cases n with
      | zero =>
        show (⟨1, 0⟩ : Ext K p) = (1 : Ext K p).inv
        exact (inv_uniq hn (x := (1 : Ext K p)) (y := 1) (Lean.Grind.Semiring.one_mul 1)).symm
      | succ n => rfl
    | negSucc n =>
      show x.pow (n + 1) = (x.pow (n + 1)).inv.inv
      rw [inv_inv hn]
/-- what keeps sums, products, order -/
structure Hom {K L : Type} [Lean.Grind.Field K] [LT K] [Lean.Grind.Field L] [LT L] (j : K → L) : Prop where
  add : ∀ a b, j (a + b) = j a + j b
  mul : ∀ a b, j (a * b) = j a * j b
  one : j 1 = 1
  lt : ∀ a b, a < b → j a < j b
/-- an ordered field -/
structure Fld where
  K : Type
  f : Lean.Grind.Field K
  le : LE K
  lt : LT K
  lin : Std.IsLinearOrder K
  lo : Std.LawfulOrderLT K
  ord : Lean.Grind.OrderedRing K
theorem root1 (hn : ∀ t : K, t * t ≠ p) (hp : 0 < p) : ∃ (L : Type) (_ : Lean.Grind.Field L) (_ : LE L) (_ : LT L) (_ : Std.IsLinearOrder L) (_ : Std.LawfulOrderLT L) (_ : Lean.Grind.OrderedRing L) (j : K → L), Hom j ∧ ∃ r : L, 0 ≤ r ∧ r * r = j p := by
  letI i1 := field hn
  letI i2 : Std.IsLinearOrder (Ext K p) := linear hn hp
  letI i3 : Std.LawfulOrderLT (Ext K p) := lawful
  letI i4 : Lean.Grind.OrderedRing (Ext K p) := ordered hn hp
  refine ⟨Ext K p, i1, inferInstance, inferInstance, i2, i3, i4, fun a => ⟨a, 0⟩, ⟨fun a b => ?_, fun a b => ?_, rfl, fun a b h => ?_⟩, ⟨0, 1⟩, ?_, ?_⟩
  · exact Ext.ext' rfl (by show (0 : K) = 0 + 0; grind)
  · exact Ext.ext' (by show a * b = a * b + 0 * 0 * p; grind) (by show (0 : K) = a * 0 + 0 * b; grind)
  · show Ext.P _
    have ea : ((⟨b, 0⟩ : Ext K p) - ⟨a, 0⟩).a = b + -a := rfl
    have eb : ((⟨b, 0⟩ : Ext K p) - ⟨a, 0⟩).b = 0 + -0 := rfl
    refine .inl ⟨?_, by rw [ea]; grind⟩
    unfold Ext.N
    rw [ea, eb]
    have := mpos (a := b - a) (b := b - a) (by grind) (by grind)
    grind
  · refine .inr (.inr ⟨?_, ?_⟩)
    · show (0 + -(0 : K)) * (0 + -0) - (1 + -0) * (1 + -0) * p < 0
      grind
    · show (0 : K) < 1 + -0
      have : (0 : K) < 1 := Lean.Grind.OrderedRing.zero_lt_one
      grind
  · exact Ext.ext' (by show (0 : K) * 0 + 1 * 1 * p = p; grind) (by show (0 : K) * 1 + 1 * 0 = 0; grind)
end
section
variable {K : Type} [fK : Lean.Grind.Field K] [leK : LE K] [ltK : LT K] [loK : Std.LawfulOrderLT K] [linK : Std.IsLinearOrder K] [ordK : Lean.Grind.OrderedRing K]
theorem Hom.id : Hom (fun x : K => x) := ⟨fun _ _ => rfl, fun _ _ => rfl, rfl, fun _ _ h => h⟩
theorem Hom.comp {L M : Type} [Lean.Grind.Field L] [LT L] [Lean.Grind.Field M] [LT M] {j : K → L} {k : L → M} (h : Hom j) (g : Hom k) : Hom (fun x => k (j x)) :=
  ⟨fun a b => by rw [h.add, g.add], fun a b => by rw [h.mul, g.mul], by rw [h.one, g.one], fun a b z => g.lt _ _ (h.lt _ _ z)⟩
theorem root (p : K) (hp : 0 ≤ p) : ∃ (L : Type) (_ : Lean.Grind.Field L) (_ : LE L) (_ : LT L) (_ : Std.IsLinearOrder L) (_ : Std.LawfulOrderLT L) (_ : Lean.Grind.OrderedRing L) (j : K → L), Hom j ∧ ∃ r : L, 0 ≤ r ∧ r * r = j p := by
  by_cases h : ∃ t : K, t * t = p
  · obtain ⟨t, ht⟩ := h
    refine ⟨K, fK, leK, ltK, linK, loK, ordK, fun x => x, Hom.id, ?_⟩
    by_cases z : 0 ≤ t
    · exact ⟨t, z, ht⟩
    · exact ⟨-t, by grind, by grind⟩
  · have hn : ∀ t : K, t * t ≠ p := fun t e => h ⟨t, e⟩
    refine root1 hn ?_
    have : p ≠ 0 := fun e => hn 0 (by rw [e]; grind)
    grind
end
section
variable {K L : Type} [fK : Lean.Grind.Field K] [LE K] [LT K] [Std.LawfulOrderLT K] [Std.IsLinearOrder K] [Lean.Grind.OrderedRing K] [fL : Lean.Grind.Field L] [LE L] [LT L] [Std.LawfulOrderLT L] [Std.IsLinearOrder L] [Lean.Grind.OrderedRing L] {j : K → L}
theorem Hom.zero (h : Hom j) : j 0 = 0 := by
  have := h.add 0 0
  rw [show (0 : K) + 0 = 0 by grind] at this
  grind
theorem Hom.neg (h : Hom j) (a : K) : j (-a) = -j a := by
  have := h.add a (-a)
  rw [show a + -a = 0 by grind, h.zero] at this
  grind
theorem Hom.le (h : Hom j) {a b : K} (l : a ≤ b) : j a ≤ j b := by
  by_cases e : a = b
  · subst e; grind
  · have := h.lt a b (by grind)
    grind
end
/-- over the fractions: a field with roots of so many numbers that are not below 0 -/
theorem roots (us : List Rat) : ∃ (L : Type) (_ : Lean.Grind.Field L) (_ : LE L) (_ : LT L) (_ : Std.IsLinearOrder L) (_ : Std.LawfulOrderLT L) (_ : Lean.Grind.OrderedRing L) (j : Rat → L), Hom j ∧ ∀ u ∈ us, 0 ≤ u → ∃ r : L, 0 ≤ r ∧ r * r = j u := by
  induction us with
  | nil => exact ⟨Rat, inferInstance, inferInstance, inferInstance, inferInstance, inferInstance, inferInstance, fun x => x, Hom.id, fun u h => by cases h⟩
  | cons u us ih =>
    obtain ⟨L, i1, i2, i3, i4, i5, i6, j, hj, hr⟩ := ih
    by_cases hu : 0 ≤ u
    · obtain ⟨M, k1, k2, k3, k4, k5, k6, k, hk, r, r0, rr⟩ := root (j u) (by have := hj.le hu; rwa [hj.zero] at this)
      refine ⟨M, k1, k2, k3, k4, k5, k6, fun x => k (j x), hj.comp hk, fun v hv v0 => ?_⟩
      rcases List.mem_cons.mp hv with rfl | hv
      · exact ⟨r, r0, rr⟩
      · obtain ⟨s, s0, ss⟩ := hr v hv v0
        refine ⟨k s, by have := hk.le s0; rwa [hk.zero] at this, by rw [← hk.mul, ss]⟩
    · refine ⟨L, i1, i2, i3, i4, i5, i6, j, hj, fun v hv v0 => ?_⟩
      rcases List.mem_cons.mp hv with rfl | hv
      · exact absurd v0 hu
      · exact hr v hv v0
end OF

set_option Elab.async false
set_option linter.all false
set_option maxRecDepth 100000
set_option maxHeartbeats 1000000
/-! OF3: signs; fractions as numbers. -/
namespace OF
open FM
section
variable {L : Type} [fL : Lean.Grind.Field L] [LE L] [LT L] [Std.LawfulOrderLT L] [Std.IsLinearOrder L] [Lean.Grind.OrderedRing L]
open Classical in
noncomputable def sgn (x : L) : Int := if 0 < x then 1 else if x < 0 then -1 else 0
theorem sgn_pos {x : L} (h : 0 < x) : sgn x = 1 := by unfold sgn; rw [if_pos h]
theorem sgn_neg {x : L} (h : x < 0) : sgn x = -1 := by unfold sgn; rw [if_neg (by grind), if_pos h]
theorem sgn_zero : sgn (0 : L) = 0 := by unfold sgn; rw [if_neg (by grind), if_neg (by grind)]
theorem sgn_eq0 {x : L} : sgn x = 0 ↔ x = 0 := by
  constructor
  · intro h
    rcases Std.lt_trichotomy x 0 with z | z | z
    · rw [sgn_neg z] at h; cases h
    · exact z
    · rw [sgn_pos z] at h; cases h
  · rintro rfl
    exact sgn_zero
theorem sgn_eq1 {x : L} : sgn x = 1 ↔ 0 < x := by
  constructor
  · intro h
    rcases Std.lt_trichotomy x 0 with z | z | z
    · rw [sgn_neg z] at h; cases h
    · rw [z, sgn_zero] at h; cases h
    · exact z
  · exact sgn_pos
theorem sgn_eqm {x : L} : sgn x = -1 ↔ x < 0 := by
  constructor
  · intro h
    rcases Std.lt_trichotomy x 0 with z | z | z
    · exact z
    · rw [z, sgn_zero] at h; cases h
    · rw [sgn_pos z] at h; cases h
  · exact sgn_neg
theorem sgn_m (x : L) : sgn (-x) = -sgn x := by
  rcases Std.lt_trichotomy x 0 with z | z | z
  · rw [sgn_neg z, sgn_pos (by grind)]; rfl
  · rw [z, show -(0 : L) = 0 by grind, sgn_zero]; rfl
  · rw [sgn_pos z, sgn_neg (by grind)]
theorem sgn_mul (x y : L) : sgn (x * y) = sgn x * sgn y := by
  rcases Std.lt_trichotomy x 0 with z | z | z <;> rcases Std.lt_trichotomy y 0 with w | w | w
  · have := mpos (a := -x) (b := -y) (by grind) (by grind)
    rw [sgn_neg z, sgn_neg w, sgn_pos (by grind)]; rfl
  · rw [w, show x * 0 = 0 by grind, sgn_zero, Int.mul_zero]
  · have := mpos (a := -x) (b := y) (by grind) (by grind)
    rw [sgn_neg z, sgn_pos w, sgn_neg (by grind)]; rfl
  · rw [z, show 0 * y = 0 by grind, sgn_zero, Int.zero_mul]
  · rw [z, show 0 * y = 0 by grind, sgn_zero, Int.zero_mul]
  · rw [z, show 0 * y = 0 by grind, sgn_zero, Int.zero_mul]
  · have := mpos (a := x) (b := -y) (by grind) (by grind)
    rw [sgn_pos z, sgn_neg w, sgn_neg (by grind)]; rfl
  · rw [w, show x * 0 = 0 by grind, sgn_zero, Int.mul_zero]
  · have := mpos z w
    rw [sgn_pos z, sgn_pos w, sgn_pos this]; rfl
/-- the sign of x + y times a root of r, told without the root -/
def sg2 (first second last : Int) : Int := if second = 0 ∨ first = second then first else if first = 0 then second else first * last
theorem sgn_root {x y ρ r : L} (h : 0 < ρ) (e : ρ * ρ = r) : sgn (x + y * ρ) = sg2 (sgn x) (sgn y) (sgn (x * x - y * y * r)) := by
  unfold sg2
  rcases Std.lt_trichotomy y 0 with w | w | w
  · have hy : 0 < -(y * ρ) := by have := mpos (a := -y) (b := ρ) (by grind) h; grind
    rcases Std.lt_trichotomy x 0 with z | z | z
    · rw [sgn_neg z, sgn_neg w, if_pos (.inr rfl), sgn_neg (by grind)]
    · subst z
      rw [sgn_zero, sgn_neg w, if_neg (by decide), if_pos rfl, sgn_neg (by grind)]
    · rw [sgn_pos z, sgn_neg w, if_neg (by decide), if_neg (by decide), Int.one_mul]
      have k : x * x - y * y * r = (x + y * ρ) * (x - y * ρ) := by grind
      rw [k, sgn_mul, sgn_pos (x := x - y * ρ) (by grind), Int.mul_one]
  · subst w
    rw [sgn_zero, if_pos (.inl rfl)]
    congr 1
    grind
  · have hy : 0 < y * ρ := mpos w h
    rcases Std.lt_trichotomy x 0 with z | z | z
    · rw [sgn_neg z, sgn_pos w, if_neg (by decide), if_neg (by decide)]
      have k : x * x - y * y * r = (x + y * ρ) * (x - y * ρ) := by grind
      rw [k, sgn_mul, sgn_neg (x := x - y * ρ) (by grind)]
      omega
    · subst z
      rw [sgn_zero, sgn_pos w, if_neg (by decide), if_pos rfl, sgn_pos (by grind)]
    · rw [sgn_pos z, sgn_pos w, if_pos (.inr rfl), sgn_pos (by grind)]
end
/-! ### fractions -/
def rat (x : Int × Int) : Rat := (x.1 : Rat) / (x.2 : Rat)
theorem rat_fr (a : Int) {b : Int} (hb : b ≠ 0) : rat (fr a b) = (a : Rat) / (b : Rat) := by
  obtain ⟨h1, h2, h3, _⟩ := fr_spec a hb
  have g0 := gs_ne a hb
  unfold rat
  generalize (fr a b).1 = n at *
  generalize (fr a b).2 = d at *
  generalize gs a b = g at *
  subst h1 h2
  have d0 : (d : Rat) ≠ 0 := by exact_mod_cast (show d ≠ 0 by omega)
  have g1 : (g : Rat) ≠ 0 := by exact_mod_cast g0
  rw [Rat.intCast_mul, Rat.intCast_mul]
  grind
theorem cast_ne {d : Int} (h : d ≠ 0) : (d : Rat) ≠ 0 := by exact_mod_cast h
theorem rat_add {x y : Int × Int} (hx : x.2 ≠ 0) (hy : y.2 ≠ 0) : rat (addF x y) = rat x + rat y := by
  unfold addF
  rw [rat_fr _ (Int.mul_ne_zero hx hy)]
  unfold rat
  have h1 := cast_ne hx
  have h2 := cast_ne hy
  rw [Rat.intCast_add, Rat.intCast_mul, Rat.intCast_mul, Rat.intCast_mul]
  grind
theorem rat_sub {x y : Int × Int} (hx : x.2 ≠ 0) (hy : y.2 ≠ 0) : rat (subF x y) = rat x - rat y := by
  unfold subF
  rw [rat_fr _ (Int.mul_ne_zero hx hy)]
  unfold rat
  have h1 := cast_ne hx
  have h2 := cast_ne hy
  rw [Rat.intCast_sub, Rat.intCast_mul, Rat.intCast_mul, Rat.intCast_mul]
  grind
theorem rat_mul {x y : Int × Int} (hx : x.2 ≠ 0) (hy : y.2 ≠ 0) : rat (mulF x y) = rat x * rat y := by
  unfold mulF
  rw [rat_fr _ (Int.mul_ne_zero hx hy)]
  unfold rat
  have h1 := cast_ne hx
  have h2 := cast_ne hy
  rw [Rat.intCast_mul, Rat.intCast_mul]
  grind
theorem sgn_int (i : Int) : sgn (i : Rat) = sgI i := by
  unfold sgI
  rcases Int.lt_trichotomy i 0 with z | z | z
  · rw [if_neg (by omega), if_pos z, sgn_neg (by exact_mod_cast z)]
  · subst z
    rw [if_neg (by decide), if_neg (by decide)]
    exact sgn_zero
  · rw [if_pos z, sgn_pos (by exact_mod_cast z)]
theorem rat_den {x : Int × Int} (h : x.2 ≠ 0) : rat x * (x.2 : Rat) = (x.1 : Rat) := by
  unfold rat
  have := cast_ne h
  grind
theorem rat_sgn {x : Int × Int} (h : 0 < x.2) : sgn (rat x) = sgI x.1 := by
  have e := rat_den (x := x) (by omega)
  have p : (0 : Rat) < (x.2 : Rat) := by exact_mod_cast h
  rw [← sgn_int, ← e, sgn_mul, sgn_pos p, Int.mul_one]
theorem rat_inj {x y : Int × Int} {j k : Nat} (hx : Fq j x) (hy : Fq k y) (h : rat x = rat y) : x = y := by
  have dx := hx.2.2.1
  have dy := hy.2.2.1
  have e1 := rat_den (x := x) (by omega)
  have e2 := rat_den (x := y) (by omega)
  have e : x.1 * y.2 = y.1 * x.2 := by
    have : ((x.1 * y.2 : Int) : Rat) = ((y.1 * x.2 : Int) : Rat) := by
      rw [Rat.intCast_mul, Rat.intCast_mul, ← e1, ← e2, h]
      grind
    exact_mod_cast this
  have f1 := fr_mul (g := y.2) (by omega) dx hx.2.2.2
  have f2 := fr_mul (g := x.2) (by omega) dy hy.2.2.2
  rw [e, Int.mul_comm x.2 y.2] at f1
  exact f1.symm.trans f2
theorem rat_lt {x y : Int × Int} (hx : 0 < x.2) (hy : 0 < y.2) : lessF x y = true ↔ rat x < rat y := by
  have e1 := rat_den (x := x) (by omega)
  have e2 := rat_den (x := y) (by omega)
  have p1 : (0 : Rat) < (x.2 : Rat) := by exact_mod_cast hx
  have p2 : (0 : Rat) < (y.2 : Rat) := by exact_mod_cast hy
  have pp := mpos p1 p2
  unfold lessF
  rw [decide_eq_true_eq]
  have : x.1 * y.2 < y.1 * x.2 ↔ ((x.1 * y.2 : Int) : Rat) < ((y.1 * x.2 : Int) : Rat) := by
    constructor
    · intro h; exact_mod_cast h
    · intro h; exact_mod_cast h
  rw [this, Rat.intCast_mul, Rat.intCast_mul, ← e1, ← e2]
  constructor
  · intro h
    rcases Std.lt_trichotomy (rat x) (rat y) with z | z | z
    · exact z
    · rw [z] at h; grind
    · have := mpos (a := rat x - rat y) (by grind) pp
      grind
  · intro z
    have := mpos (a := rat y - rat x) (by grind) pp
    grind
end OF

set_option Elab.async false
set_option linter.all false
set_option maxRecDepth 100000
namespace FM
def B_is_of (c_is_frac : Nat) (c_is_of : Nat) : Ss := (.cons (.ifs (.cmp .Eq (.var 1) (.tup .nil)) (.cons (.ret (.call c_is_frac (.cons (.var 0) .nil))) .nil) .nil) (.cons (.ret (.and (.isi (.var 0) .tuple) (.and (.cmp .Eq (.bi .len (.cons (.var 0) .nil)) (.int 2)) (.bi .all (.cons (.lc (.call c_is_of (.cons (.var 2) (.cons (.sl (.var 1) .none (.some (.neg (.int 1)))) .nil))) (.nm 2) (.seq (.var 0)) .none) .nil))))) .nil))
def B_lifted (c_nought : Nat) : Ss := (.cons (.for_ (.nm 3) (.rng2 (.bi .len (.cons (.var 1) .nil)) (.bi .len (.cons (.var 2) .nil))) (.cons (.asg 0 (.tup (.cons (.var 0) (.cons (.call c_nought (.cons (.sl (.var 2) .none (.some (.var 3))) .nil)) .nil)))) .nil)) (.cons (.ret (.var 0)) .nil))
def B_nought (c_lifted : Nat) : Ss := (.cons (.ret (.call c_lifted (.cons (.tup (.cons (.int 0) (.cons (.int 1) .nil))) (.cons (.tup .nil) (.cons (.var 0) .nil))))) .nil)
def B_number (c_lifted : Nat) : Ss := (.cons (.ret (.call c_lifted (.cons (.var 0) (.cons (.tup .nil) (.cons (.var 1) .nil))))) .nil)
def B_add (c_plus : Nat) (c_add : Nat) : Ss := (.cons (.ifs (.cmp .Eq (.var 2) (.tup .nil)) (.cons (.ret (.call c_plus (.cons (.var 0) (.cons (.var 1) .nil)))) .nil) .nil) (.cons (.asg 3 (.sl (.var 2) .none (.some (.neg (.int 1))))) (.cons (.ret (.tup (.cons (.call c_add (.cons (.ix (.var 0) (.int 0)) (.cons (.ix (.var 1) (.int 0)) (.cons (.var 3) .nil)))) (.cons (.call c_add (.cons (.ix (.var 0) (.int 1)) (.cons (.ix (.var 1) (.int 1)) (.cons (.var 3) .nil)))) .nil)))) .nil)))
def B_sub (c_minus : Nat) (c_sub : Nat) : Ss := (.cons (.ifs (.cmp .Eq (.var 2) (.tup .nil)) (.cons (.ret (.call c_minus (.cons (.var 0) (.cons (.var 1) .nil)))) .nil) .nil) (.cons (.asg 3 (.sl (.var 2) .none (.some (.neg (.int 1))))) (.cons (.ret (.tup (.cons (.call c_sub (.cons (.ix (.var 0) (.int 0)) (.cons (.ix (.var 1) (.int 0)) (.cons (.var 3) .nil)))) (.cons (.call c_sub (.cons (.ix (.var 0) (.int 1)) (.cons (.ix (.var 1) (.int 1)) (.cons (.var 3) .nil)))) .nil)))) .nil)))
def B_mul (c_times : Nat) (c_is_nought : Nat) (c_mul : Nat) (c_add : Nat) : Ss := (.cons (.ifs (.cmp .Eq (.var 2) (.tup .nil)) (.cons (.ret (.call c_times (.cons (.var 0) (.cons (.var 1) .nil)))) .nil) .nil) (.cons (.par 5 6 (.sl (.var 2) .none (.some (.neg (.int 1)))) (.ix (.var 2) (.neg (.int 1)))) (.cons (.ifs (.and (.call c_is_nought (.cons (.ix (.var 0) (.int 1)) (.cons (.var 5) .nil))) (.call c_is_nought (.cons (.ix (.var 1) (.int 1)) (.cons (.var 5) .nil)))) (.cons (.ret (.tup (.cons (.call c_mul (.cons (.ix (.var 0) (.int 0)) (.cons (.ix (.var 1) (.int 0)) (.cons (.var 5) .nil)))) (.cons (.ix (.var 0) (.int 1)) .nil)))) .nil) .nil) (.cons (.asg 3 (.call c_mul (.cons (.call c_mul (.cons (.ix (.var 0) (.int 1)) (.cons (.ix (.var 1) (.int 1)) (.cons (.var 5) .nil)))) (.cons (.var 6) (.cons (.var 5) .nil))))) (.cons (.asg 4 (.call c_add (.cons (.call c_mul (.cons (.ix (.var 0) (.int 0)) (.cons (.ix (.var 1) (.int 1)) (.cons (.var 5) .nil)))) (.cons (.call c_mul (.cons (.ix (.var 0) (.int 1)) (.cons (.ix (.var 1) (.int 0)) (.cons (.var 5) .nil)))) (.cons (.var 5) .nil))))) (.cons (.ret (.tup (.cons (.call c_add (.cons (.call c_mul (.cons (.ix (.var 0) (.int 0)) (.cons (.ix (.var 1) (.int 0)) (.cons (.var 5) .nil)))) (.cons (.var 3) (.cons (.var 5) .nil)))) (.cons (.var 4) .nil)))) .nil))))))
def B_is_nought (c_is_nought : Nat) : Ss := (.cons (.ifs (.cmp .Eq (.var 1) (.tup .nil)) (.cons (.ret (.cmp .Eq (.ix (.var 0) (.int 0)) (.int 0))) .nil) .nil) (.cons (.ret (.and (.call c_is_nought (.cons (.ix (.var 0) (.int 0)) (.cons (.sl (.var 1) .none (.some (.neg (.int 1)))) .nil))) (.call c_is_nought (.cons (.ix (.var 0) (.int 1)) (.cons (.sl (.var 1) .none (.some (.neg (.int 1)))) .nil))))) .nil))
def B_norm (c_sub : Nat) (c_mul : Nat) : Ss := (.cons (.asg 2 (.sl (.var 1) .none (.some (.neg (.int 1))))) (.cons (.ret (.call c_sub (.cons (.call c_mul (.cons (.ix (.var 0) (.int 0)) (.cons (.ix (.var 0) (.int 0)) (.cons (.var 2) .nil)))) (.cons (.call c_mul (.cons (.call c_mul (.cons (.ix (.var 0) (.int 1)) (.cons (.ix (.var 0) (.int 1)) (.cons (.var 2) .nil)))) (.cons (.ix (.var 1) (.neg (.int 1))) (.cons (.var 2) .nil)))) (.cons (.var 2) .nil))))) .nil))
def B_sign (c_sign_of : Nat) (c_sign : Nat) (c_norm : Nat) : Ss := (.cons (.ifs (.cmp .Eq (.var 1) (.tup .nil)) (.cons (.ret (.call c_sign_of (.cons (.var 0) .nil))) .nil) .nil) (.cons (.par 2 3 (.call c_sign (.cons (.ix (.var 0) (.int 0)) (.cons (.sl (.var 1) .none (.some (.neg (.int 1)))) .nil))) (.call c_sign (.cons (.ix (.var 0) (.int 1)) (.cons (.sl (.var 1) .none (.some (.neg (.int 1)))) .nil)))) (.cons (.ifs (.or (.cmp .Eq (.var 3) (.int 0)) (.cmp .Eq (.var 2) (.var 3))) (.cons (.ret (.var 2)) .nil) .nil) (.cons (.ifs (.cmp .Eq (.var 2) (.int 0)) (.cons (.ret (.var 3)) .nil) .nil) (.cons (.ret (.op .Mult (.var 2) (.call c_sign (.cons (.call c_norm (.cons (.var 0) (.cons (.var 1) .nil))) (.cons (.sl (.var 1) .none (.some (.neg (.int 1)))) .nil))))) .nil)))))
def B_compare (c_sign : Nat) (c_sub : Nat) : Ss := (.cons (.ret (.call c_sign (.cons (.call c_sub (.cons (.var 0) (.cons (.var 1) (.cons (.var 2) .nil)))) (.cons (.var 2) .nil)))) .nil)
def B_with_root (c_fraction_of : Nat) (c_exact_root : Nat) (c_number : Nat) (c_compare : Nat) (c_lifted : Nat) (c_nought : Nat) : Ss := (.cons (.asg 2 (.call c_fraction_of (.cons (.var 0) (.cons (.var 1) .nil)))) (.cons (.ifs (.and (.cmp .IsNot (.var 2) .non) (.cmp .IsNot (.call c_exact_root (.cons (.var 2) .nil)) .non)) (.cons (.ret (.tup (.cons (.var 1) (.cons (.call c_number (.cons (.call c_exact_root (.cons (.var 2) .nil)) (.cons (.var 1) .nil))) .nil)))) .nil) .nil) (.cons (.for_ (.nm 3) (.rng1 (.bi .len (.cons (.var 1) .nil))) (.cons (.ifs (.cmp .Eq (.call c_compare (.cons (.var 0) (.cons (.call c_lifted (.cons (.ix (.var 1) (.var 3)) (.cons (.sl (.var 1) .none (.some (.var 3))) (.cons (.var 1) .nil)))) (.cons (.var 1) .nil)))) (.int 0)) (.cons (.ret (.tup (.cons (.var 1) (.cons (.call c_lifted (.cons (.tup (.cons (.call c_nought (.cons (.sl (.var 1) .none (.some (.var 3))) .nil)) (.cons (.call c_number (.cons (.tup (.cons (.int 1) (.cons (.int 1) .nil))) (.cons (.sl (.var 1) .none (.some (.var 3))) .nil))) .nil))) (.cons (.sl (.var 1) .none (.some (.op .Add (.var 3) (.int 1)))) (.cons (.var 1) .nil)))) .nil)))) .nil) .nil) .nil)) (.cons (.asg 4 (.op .Add (.var 1) (.tup (.cons (.var 0) .nil)))) (.cons (.ret (.tup (.cons (.var 4) (.cons (.tup (.cons (.call c_nought (.cons (.var 1) .nil)) (.cons (.call c_number (.cons (.tup (.cons (.int 1) (.cons (.int 1) .nil))) (.cons (.var 1) .nil))) .nil))) .nil)))) .nil)))))
def B_fraction_of (c_is_nought : Nat) : Ss := (.cons (.for_ (.nm 2) (.rng3 (.bi .len (.cons (.var 1) .nil)) (.int 0) (.neg (.int 1))) (.cons (.ifs (.not (.call c_is_nought (.cons (.ix (.var 0) (.int 1)) (.cons (.sl (.var 1) .none (.some (.op .Sub (.var 2) (.int 1)))) .nil)))) (.cons (.ret .non) .nil) .nil) (.cons (.asg 0 (.ix (.var 0) (.int 0))) .nil))) (.cons (.ret (.var 0)) .nil))
def B_is_time (c_is_of : Nat) (c_sign : Nat) : Ss := (.cons (.ifs (.or (.not (.isi (.var 0) .tuple)) (.or (.cmp .NotEq (.bi .len (.cons (.var 0) .nil)) (.int 3)) (.not (.bi .all (.cons (.lc (.call c_is_of (.cons (.var 2) (.cons (.var 1) .nil))) (.nm 2) (.seq (.var 0)) .none) .nil))))) (.cons (.ret (.bl false)) .nil) .nil) (.cons (.ret (.cmp .GtE (.call c_sign (.cons (.ix (.var 0) (.int 2)) (.cons (.var 1) .nil))) (.int 0))) .nil))
def B_plain_time (c_nought : Nat) : Ss := (.cons (.ret (.tup (.cons (.var 0) (.cons (.call c_nought (.cons (.var 1) .nil)) (.cons (.call c_nought (.cons (.var 1) .nil)) .nil))))) .nil)
def B_time_number (c_is_nought : Nat) (c_with_root : Nat) (c_add : Nat) (c_mul : Nat) (c_lifted : Nat) : Ss := (.cons (.asgT [2, 3, 4] (.var 0)) (.cons (.ifs (.or (.call c_is_nought (.cons (.var 3) (.cons (.var 1) .nil))) (.call c_is_nought (.cons (.var 4) (.cons (.var 1) .nil)))) (.cons (.ret (.tup (.cons (.var 1) (.cons (.var 2) .nil)))) .nil) .nil) (.cons (.asgT [5, 6] (.call c_with_root (.cons (.var 4) (.cons (.var 1) .nil)))) (.cons (.ret (.tup (.cons (.var 5) (.cons (.call c_add (.cons (.call c_lifted (.cons (.var 2) (.cons (.var 1) (.cons (.var 5) .nil)))) (.cons (.call c_mul (.cons (.call c_lifted (.cons (.var 3) (.cons (.var 1) (.cons (.var 5) .nil)))) (.cons (.var 6) (.cons (.var 5) .nil)))) (.cons (.var 5) .nil)))) .nil)))) .nil))))
def B_raised_time (c_lifted : Nat) : Ss := (.cons (.ret (.bi .tuple (.cons (.lc (.call c_lifted (.cons (.var 3) (.cons (.var 1) (.cons (.var 2) .nil)))) (.nm 3) (.seq (.var 0)) .none) .nil))) .nil)
def B_compare_times (c_time_number : Nat) (c_raised_time : Nat) (c_sign : Nat) (c_sub : Nat) (c_lifted : Nat) : Ss := (.cons (.ifs (.cmp .Eq (.var 0) (.var 1)) (.cons (.ret (.int 0)) .nil) .nil) (.cons (.asgT [3, 4] (.call c_time_number (.cons (.var 0) (.cons (.var 2) .nil)))) (.cons (.asgT [5, 6] (.call c_time_number (.cons (.call c_raised_time (.cons (.var 1) (.cons (.var 2) (.cons (.var 3) .nil)))) (.cons (.var 3) .nil)))) (.cons (.ret (.call c_sign (.cons (.call c_sub (.cons (.call c_lifted (.cons (.var 4) (.cons (.var 3) (.cons (.var 5) .nil)))) (.cons (.var 6) (.cons (.var 5) .nil)))) (.cons (.var 5) .nil)))) .nil))))
def B_sign_of_time (c_compare_times : Nat) (c_plain_time : Nat) (c_nought : Nat) : Ss := (.cons (.ret (.call c_compare_times (.cons (.var 0) (.cons (.call c_plain_time (.cons (.call c_nought (.cons (.var 1) .nil)) (.cons (.var 1) .nil))) (.cons (.var 1) .nil))))) .nil)
def B_sorted_times (c_compare_times : Nat) : Ss := (.cons (.own 2) (.cons (.for_ (.nm 3) (.seq (.var 0)) (.cons (.asg 4 (.int 0)) (.cons (.whl (.and (.cmp .Lt (.var 4) (.bi .len (.cons (.var 2) .nil))) (.cmp .Lt (.call c_compare_times (.cons (.ix (.var 2) (.var 4)) (.cons (.var 3) (.cons (.var 1) .nil)))) (.int 0))) (.cons (.aug 4 .Add (.int 1)) .nil)) (.cons (.ifs (.or (.cmp .Eq (.var 4) (.bi .len (.cons (.var 2) .nil))) (.cmp .NotEq (.call c_compare_times (.cons (.ix (.var 2) (.var 4)) (.cons (.var 3) (.cons (.var 1) .nil)))) (.int 0))) (.cons (.ins 2 (.var 4) (.var 3)) .nil) .nil) .nil)))) (.cons (.ret (.bi .tuple (.cons (.var 2) .nil))) .nil)))
def B_midway (c_time_number : Nat) (c_raised_time : Nat) (c_add : Nat) (c_lifted : Nat) (c_mul : Nat) (c_number : Nat) : Ss := (.cons (.asgT [4, 5] (.call c_time_number (.cons (.var 0) (.cons (.var 2) .nil)))) (.cons (.asgT [6, 7] (.call c_time_number (.cons (.call c_raised_time (.cons (.var 1) (.cons (.var 2) (.cons (.var 4) .nil)))) (.cons (.var 4) .nil)))) (.cons (.asg 3 (.call c_add (.cons (.call c_lifted (.cons (.var 5) (.cons (.var 4) (.cons (.var 6) .nil)))) (.cons (.var 7) (.cons (.var 6) .nil))))) (.cons (.ret (.tup (.cons (.var 6) (.cons (.call c_mul (.cons (.var 3) (.cons (.call c_number (.cons (.tup (.cons (.int 1) (.cons (.int 2) .nil))) (.cons (.var 6) .nil))) (.cons (.var 6) .nil)))) .nil)))) .nil))))
def B_beside (c_time_number : Nat) (c_add : Nat) (c_number : Nat) : Ss := (.cons (.asgT [3, 4] (.call c_time_number (.cons (.var 0) (.cons (.var 2) .nil)))) (.cons (.ret (.tup (.cons (.var 3) (.cons (.call c_add (.cons (.var 4) (.cons (.call c_number (.cons (.tup (.cons (.var 1) (.cons (.int 1) .nil))) (.cons (.var 3) .nil))) (.cons (.var 3) .nil)))) .nil)))) .nil))
def B_is_same_time (c_compare_times : Nat) : Ss := (.cons (.ret (.cmp .Eq (.call c_compare_times (.cons (.var 0) (.cons (.var 1) (.cons (.var 2) .nil)))) (.int 0))) .nil)
def B_is_within (c_compare_times : Nat) : Ss := (.cons (.ifs (.and (.cmp .IsNot (.var 1) .non) (.cmp .GtE (.call c_compare_times (.cons (.var 1) (.cons (.var 0) (.cons (.var 3) .nil)))) (.int 0))) (.cons (.ret (.bl false)) .nil) .nil) (.cons (.ret (.or (.cmp .Is (.var 2) .non) (.cmp .Lt (.call c_compare_times (.cons (.var 0) (.cons (.var 2) (.cons (.var 3) .nil)))) (.int 0)))) .nil))
def B_least_time (c_compare_times : Nat) : Ss := (.cons (.asg 2 .non) (.cons (.for_ (.nm 3) (.seq (.var 0)) (.cons (.ifs (.or (.cmp .Is (.var 2) .non) (.cmp .Lt (.call c_compare_times (.cons (.var 3) (.cons (.var 2) (.cons (.var 1) .nil)))) (.int 0))) (.cons (.asg 2 (.var 3)) .nil) .nil) .nil)) (.cons (.ret (.var 2)) .nil)))
def B_time_of (c_plain_time : Nat) (c_number : Nat) : Ss := (.cons (.ret (.call c_plain_time (.cons (.call c_number (.cons (.var 0) (.cons (.ix (.var 1) (.int 0)) .nil))) (.cons (.ix (.var 1) (.int 0)) .nil)))) .nil)
def B_times_in (c_raised_time : Nat) : Ss := (.cons (.ret (.bi .tuple (.cons (.lc (.call c_raised_time (.cons (.var 3) (.cons (.ix (.var 1) (.int 0)) (.cons (.var 2) .nil)))) (.nm 3) (.seq (.var 0)) .none) .nil))) .nil)
def B__law_pick (c__law_next : Nat) : Ss := (.cons (.ret (.ix (.var 1) (.call c__law_next (.cons (.var 0) (.cons (.bi .len (.cons (.var 1) .nil)) .nil))))) .nil)
def B__law_sign_two (c__law_sgn : Nat) (c__law_sub : Nat) (c__law_mul : Nat) : Ss := (.cons (.par 3 4 (.call c__law_sgn (.cons (.var 0) .nil)) (.ife (.cmp .Gt (.ix (.var 2) (.int 0)) (.int 0)) (.call c__law_sgn (.cons (.var 1) .nil)) (.int 0))) (.cons (.ifs (.or (.cmp .Eq (.var 4) (.int 0)) (.cmp .Eq (.var 3) (.var 4))) (.cons (.ret (.var 3)) .nil) .nil) (.cons (.ifs (.cmp .Eq (.var 3) (.int 0)) (.cons (.ret (.var 4)) .nil) .nil) (.cons (.ret (.op .Mult (.var 3) (.call c__law_sgn (.cons (.call c__law_sub (.cons (.call c__law_mul (.cons (.var 0) (.cons (.var 0) .nil))) (.cons (.call c__law_mul (.cons (.call c__law_mul (.cons (.var 1) (.cons (.var 1) .nil))) (.cons (.var 2) .nil))) .nil))) .nil)))) .nil))))
def B__law_before (c__law_sub : Nat) (c__law_sign_two : Nat) (c__law_sgn : Nat) (c__law_mul : Nat) (c__law_add : Nat) : Ss := (.cons (.asgT [4, 5, 6, 7] (.tup (.cons (.call c__law_sub (.cons (.ix (.var 0) (.int 0)) (.cons (.ix (.var 1) (.int 0)) .nil))) (.cons (.ix (.var 0) (.int 1)) (.cons (.ix (.var 0) (.int 2)) (.cons (.ix (.var 1) (.int 2)) .nil)))))) (.cons (.asg 2 (.call c__law_sub (.cons (.tup (.cons (.int 0) (.cons (.int 1) .nil))) (.cons (.ix (.var 1) (.int 1)) .nil)))) (.cons (.par 8 9 (.call c__law_sign_two (.cons (.var 4) (.cons (.var 5) (.cons (.var 6) .nil)))) (.ife (.cmp .Gt (.ix (.var 7) (.int 0)) (.int 0)) (.call c__law_sgn (.cons (.var 2) .nil)) (.int 0))) (.cons (.ifs (.or (.cmp .Eq (.var 9) (.int 0)) (.cmp .Eq (.var 8) (.var 9))) (.cons (.ret (.var 8)) .nil) .nil) (.cons (.ifs (.cmp .Eq (.var 8) (.int 0)) (.cons (.ret (.var 9)) .nil) .nil) (.cons (.asg 3 (.call c__law_sub (.cons (.call c__law_add (.cons (.call c__law_mul (.cons (.var 4) (.cons (.var 4) .nil))) (.cons (.call c__law_mul (.cons (.call c__law_mul (.cons (.var 5) (.cons (.var 5) .nil))) (.cons (.var 6) .nil))) .nil))) (.cons (.call c__law_mul (.cons (.call c__law_mul (.cons (.var 2) (.cons (.var 2) .nil))) (.cons (.var 7) .nil))) .nil)))) (.cons (.ret (.op .Mult (.var 8) (.call c__law_sign_two (.cons (.var 3) (.cons (.call c__law_mul (.cons (.tup (.cons (.int 2) (.cons (.int 1) .nil))) (.cons (.call c__law_mul (.cons (.var 4) (.cons (.var 5) .nil))) .nil))) (.cons (.var 6) .nil)))))) .nil)))))))
def B__law_plain : Ss := (.cons (.ret (.tup (.cons (.var 0) (.cons (.tup (.cons (.int 0) (.cons (.int 1) .nil))) (.cons (.tup (.cons (.int 0) (.cons (.int 1) .nil))) .nil))))) .nil)
def B__law_between (c__law_before : Nat) (c__law_plain : Nat) (c__law_fr : Nat) : Ss := (.cons (.asg 2 (.int 1)) (.cons (.ifs (.and (.cmp .Is (.var 0) .non) (.cmp .Is (.var 1) .non)) (.cons (.ret (.tup (.cons (.int 0) (.cons (.int 1) .nil)))) .nil) .nil) (.cons (.for_ (.nm 3) (.rng1 (.int 200)) (.cons (.par 6 7 (.op .Sub (.op .Mult (.op .Mult (.neg (.int 4)) (.var 2)) (.var 2)) (.int 4)) (.op .Add (.op .Mult (.op .Mult (.int 4) (.var 2)) (.var 2)) (.int 4))) (.cons (.whl (.cmp .Gt (.op .Sub (.var 7) (.var 6)) (.int 1)) (.cons (.asg 8 (.op .FloorDiv (.op .Add (.var 6) (.var 7)) (.int 2))) (.cons (.ifs (.or (.and (.cmp .IsNot (.var 0) .non) (.cmp .LtE (.call c__law_before (.cons (.call c__law_plain (.cons (.call c__law_fr (.cons (.var 8) (.cons (.var 2) .nil))) .nil)) (.cons (.var 0) .nil))) (.int 0))) (.and (.cmp .Is (.var 0) .non) (.cmp .Lt (.call c__law_before (.cons (.call c__law_plain (.cons (.call c__law_fr (.cons (.op .Add (.var 8) (.int 1)) (.cons (.var 2) .nil))) .nil)) (.cons (.var 1) .nil))) (.int 0)))) (.cons (.asg 6 (.var 8)) .nil) (.cons (.asg 7 (.var 8)) .nil)) .nil))) (.cons (.asg 4 (.ife (.cmp .IsNot (.var 0) .non) (.call c__law_fr (.cons (.var 7) (.cons (.var 2) .nil))) (.call c__law_fr (.cons (.var 6) (.cons (.var 2) .nil))))) (.cons (.asg 5 (.and (.or (.cmp .Is (.var 0) .non) (.cmp .Lt (.call c__law_before (.cons (.var 0) (.cons (.call c__law_plain (.cons (.var 4) .nil)) .nil))) (.int 0))) (.or (.cmp .Is (.var 1) .non) (.cmp .Lt (.call c__law_before (.cons (.call c__law_plain (.cons (.var 4) .nil)) (.cons (.var 1) .nil))) (.int 0))))) (.cons (.ifs (.var 5) (.cons (.ret (.var 4)) .nil) .nil) (.cons (.asg 2 (.op .Mult (.int 2) (.var 2))) .nil))))))) (.cons (.ret .non) .nil))))
def B__law_num (c__law_fr : Nat) (c__law_pick : Nat) (c__law_next : Nat) : Ss := (.cons (.ret (.call c__law_fr (.cons (.op .Sub (.call c__law_next (.cons (.var 0) (.cons (.op .Add (.op .Mult (.int 2) (.var 1)) (.int 1)) .nil))) (.var 1)) (.cons (.call c__law_pick (.cons (.var 0) (.cons (.lst (.cons (.int 1) (.cons (.int 1) (.cons (.int 2) (.cons (.int 3) .nil))))) .nil))) .nil)))) .nil)
def B__law_time (c__law_fr : Nat) (c__law_next : Nat) (c__law_pick : Nat) (c__law_num : Nat) : Ss := (.cons (.ret (.tup (.cons (.call c__law_num (.cons (.var 0) (.cons (.int 4) .nil))) (.cons (.call c__law_pick (.cons (.var 0) (.cons (.lst (.cons (.tup (.cons (.int 0) (.cons (.int 1) .nil))) (.cons (.call c__law_num (.cons (.var 0) (.cons (.int 3) .nil))) (.cons (.call c__law_num (.cons (.var 0) (.cons (.int 3) .nil))) .nil)))) .nil))) (.cons (.call c__law_fr (.cons (.call c__law_next (.cons (.var 0) (.cons (.int 9) .nil))) (.cons (.op .Add (.int 1) (.call c__law_next (.cons (.var 0) (.cons (.int 3) .nil)))) .nil))) .nil))))) .nil)
def B__law_against (c_sign : Nat) (c_sub : Nat) (c_number : Nat) : Ss := (.cons (.asgT [2, 3] (.var 0)) (.cons (.ret (.call c_sign (.cons (.call c_sub (.cons (.var 3) (.cons (.call c_number (.cons (.var 1) (.cons (.var 2) .nil))) (.cons (.var 2) .nil)))) (.cons (.var 2) .nil)))) .nil))
end FM

set_option Elab.async false
set_option linter.all false
set_option maxRecDepth 100000
set_option maxHeartbeats 4000000
/-! N1: numbers of towers as plain data. -/
namespace FM
open PySem (Str sizeLine)
open L2 (atI ixN Key)
open PySem.Spec PyProof.Rows
def Nm : Nat → Type
  | 0 => Int × Int
  | n + 1 => Nm n × Nm n
def nD : (n : Nat) → Nm n → D
  | 0, x => fD x
  | n + 1, x => .tup [nD n x.1, nD n x.2]
inductive Tw : Nat → Type
  | nil : Tw 0
  | snoc {n : Nat} (t : Tw n) (r : Nm n) : Tw (n + 1)
def twL : {n : Nat} → Tw n → List D
  | _, .nil => []
  | n + 1, .snoc t r => twL t ++ [nD n r]
abbrev tD {n : Nat} (t : Tw n) : D := .tup (twL t)
theorem twL_len : {n : Nat} → (t : Tw n) → (twL t).length = n
  | _, .nil => rfl
  | n + 1, .snoc t r => by
    unfold twL
    rw [List.length_append, twL_len t]
    rfl
/-- data that may be held against others -/
def Sh (k : Nat) (d : D) : Prop := d.noCell = true ∧ d.py.canLay0 = true ∧ d.py.depth ≤ k
def ShL (k : Nat) (ds : List D) : Prop := noCells ds = true ∧ PySem.PyData.canLayAll0 (pyAll ds) = true ∧ PySem.PyData.depthAll (pyAll ds) ≤ k
theorem Sh.mono {j k : Nat} {d : D} (h : Sh j d) (l : j ≤ k) : Sh k d := ⟨h.1, h.2.1, Nat.le_trans h.2.2 l⟩
theorem ShL.nil (k : Nat) : ShL k [] := ⟨rfl, rfl, Nat.zero_le _⟩
theorem ShL.cons {k : Nat} {d : D} {ds : List D} (h : Sh k d) (g : ShL k ds) : ShL k (d :: ds) := by
  obtain ⟨h1, h2, h3⟩ := h
  obtain ⟨g1, g2, g3⟩ := g
  refine ⟨?_, ?_, ?_⟩
  · unfold noCells; rw [h1, g1]; rfl
  · unfold pyAll PySem.PyData.canLayAll0; rw [h2, g2]; rfl
  · unfold pyAll PySem.PyData.depthAll; omega
theorem ShL.append {k : Nat} {ds es : List D} (h : ShL k ds) (g : ShL k es) : ShL k (ds ++ es) := by
  induction ds with
  | nil => exact g
  | cons d ds ih =>
    obtain ⟨h1, h2, h3⟩ := h
    unfold noCells at h1
    unfold pyAll PySem.PyData.canLayAll0 at h2
    unfold pyAll PySem.PyData.depthAll at h3
    rw [Bool.and_eq_true] at h1 h2
    exact .cons ⟨h1.1, h2.1, by omega⟩ (ih ⟨h1.2, h2.2, by omega⟩)
theorem Sh.tup {k : Nat} {ds : List D} (h : ShL k ds) : Sh (k + 1) (.tup ds) := by
  obtain ⟨h1, h2, h3⟩ := h
  refine ⟨?_, ?_, ?_⟩
  · unfold D.noCell; exact h1
  · unfold D.py PySem.PyData.canLay0; exact h2
  · unfold D.py PySem.PyData.depth; omega
theorem Sh.int (k : Nat) (i : Int) : Sh k (.int i) := ⟨rfl, by unfold D.py PySem.PyData.canLay0; rfl, by unfold D.py PySem.PyData.depth; exact Nat.zero_le _⟩
theorem Sh.ok {k : Nat} {d : D} (h : Sh k d) (l : k ≤ 64) : shOk d = true := by
  unfold shOk PySem.SeqAt.shaped
  rw [h.1, h.2.1, decide_eq_true (Nat.le_trans h.2.2 l)]
  rfl
theorem sh_nD : (n : Nat) → (x : Nm n) → Sh (n + 1) (nD n x)
  | 0, x => .tup (.cons (.int _ _) (.cons (.int _ _) (.nil _)))
  | n + 1, x => .tup (.cons (sh_nD n x.1) (.cons (sh_nD n x.2) (.nil _)))
theorem sh_tw : {n : Nat} → (t : Tw n) → ShL (n + 1) (twL t)
  | _, .nil => .nil _
  | n + 1, .snoc t r => by
    have h := sh_tw t
    unfold twL
    exact .append ⟨h.1, h.2.1, by have := h.2.2; omega⟩ (.cons ((sh_nD n r).mono (by omega)) (.nil _))
theorem tw_nil {n : Nat} (t : Tw n) (hn : n ≤ 60) : cmpD .Eq (tD t) (.tup []) = some (decide (n = 0)) := by
  have s1 := (Sh.tup (sh_tw t)).ok (by omega)
  have s2 : shOk (.tup []) = true := (Sh.tup (ShL.nil 0)).ok (by omega)
  show eqD _ _ = _
  unfold eqD
  have s0 : scalOk (tD t) (.tup []) = false := rfl
  rw [s0, if_neg (by decide), s1, s2, Bool.and_self, if_pos rfl]
  cases t with
  | nil => rfl
  | snoc t r =>
    have e : ∃ d ds, twL (Tw.snoc t r) = d :: ds := by
      cases h : twL (Tw.snoc t r) with
      | nil => have := twL_len (Tw.snoc t r); rw [h] at this; cases this
      | cons d ds => exact ⟨d, ds, rfl⟩
    obtain ⟨d, ds, e⟩ := e
    show some (PySem.PyData.eqv (D.tup (twL (Tw.snoc t r))).py (D.tup []).py) = _
    rw [e]
    rfl
theorem cut_snoc {α : Type} (l : List α) (d : α) : cutD (l ++ [d]) none (some (-1)) = l := by
  have e : HT.sIx (l ++ [d]).length (l ++ [d]).length (some (-1)) = l.length := by
    show (if (-1 : Int) < 0 then (-1 + ((l ++ [d]).length : Int)).toNat else min (-1 : Int).toNat (l ++ [d]).length) = _
    rw [if_pos (by decide), List.length_append, List.length_singleton]
    omega
  unfold cutD
  rw [e]
  show ((l ++ [d]).drop 0).take (l.length - 0) = l
  rw [List.drop_zero, Nat.sub_zero, List.take_left]
theorem sl_tw {n : Nat} (t : Tw n) (r : Nm n) : slD (tD (.snoc t r)) none (some (-1)) = some (tD t) := by
  show some (D.tup (cutD (twL t ++ [nD n r]) none (some (-1)))) = _
  rw [cut_snoc]
theorem ix_tw (μ : Cells) {n : Nat} (t : Tw n) (r : Nm n) : ixD μ (tD (.snoc t r)) (.int (-1)) = some (nD n r) := atI_last
end FM

set_option Elab.async false
set_option linter.all false
set_option maxRecDepth 100000
set_option maxHeartbeats 4000000
/-! N2: sums, products, signs of tower numbers, and what the defs compute. -/
namespace FM
open PySem (Str sizeLine)
open L2 (atI ixN Key)
open PySem.Spec PyProof.Rows
def addN : (n : Nat) → Nm n → Nm n → Nm n
  | 0, x, y => addF x y
  | n + 1, x, y => (addN n x.1 y.1, addN n x.2 y.2)
def subN : (n : Nat) → Nm n → Nm n → Nm n
  | 0, x, y => subF x y
  | n + 1, x, y => (subN n x.1 y.1, subN n x.2 y.2)
def isN : (n : Nat) → Nm n → Bool
  | 0, x => decide (Prod.fst (α := Int) (β := Int) x = 0)
  | n + 1, x => isN n x.1 && isN n x.2
def mulN : {n : Nat} → Tw n → Nm n → Nm n → Nm n
  | _, .nil, x, y => mulF x y
  | n + 1, .snoc t r, x, y =>
    if isN n x.2 && isN n y.2 then (mulN t x.1 y.1, x.2)
    else (addN n (mulN t x.1 y.1) (mulN t (mulN t x.2 y.2) r), addN n (mulN t x.1 y.2) (mulN t x.2 y.1))
def normN {n : Nat} (t : Tw n) (r : Nm n) (x : Nm (n + 1)) : Nm n := subN n (mulN t x.1 x.1) (mulN t (mulN t x.2 x.2) r)
def signN : {n : Nat} → Tw n → Nm n → Int
  | _, .nil, x => sgI (Prod.fst (α := Int) (β := Int) x)
  | n + 1, .snoc t r, x => OF.sg2 (signN t x.1) (signN t x.2) (signN t (normN t r x))
/-- every leaf is so -/
def AllL (P : Int × Int → Prop) : (n : Nat) → Nm n → Prop
  | 0, x => P x
  | n + 1, x => AllL P n x.1 ∧ AllL P n x.2
theorem AllL.imp {P Q : Int × Int → Prop} (h : ∀ x, P x → Q x) : (n : Nat) → {x : Nm n} → AllL P n x → AllL Q n x
  | 0, _, g => h _ g
  | n + 1, _, g => ⟨AllL.imp h n g.1, AllL.imp h n g.2⟩
def TwAll (P : Int × Int → Prop) : {n : Nat} → Tw n → Prop
  | _, .nil => True
  | n + 1, .snoc t r => TwAll P t ∧ AllL P n r
/-! ### sizes: denominators that divide D^e, values up to 2^m -/
def Bd (D e m : Nat) (x : Int × Int) : Prop := 0 < x.2 ∧ Int.gcd x.1 x.2 = 1 ∧ x.2 ∣ ((D ^ e : Nat) : Int) ∧ (x.1.natAbs : Int) ≤ ((2 ^ m : Nat) : Int) * x.2
theorem Bd.mono {D e e' m m' : Nat} {x : Int × Int} (h : Bd D e m x) (he : e ≤ e') (hm : m ≤ m') : Bd D e' m' x := by
  obtain ⟨h1, h2, h3, h4⟩ := h
  refine ⟨h1, h2, ?_, ?_⟩
  · refine Int.dvd_trans h3 ?_
    exact_mod_cast Nat.pow_dvd_pow D he
  · have : ((2 ^ m : Nat) : Int) ≤ ((2 ^ m' : Nat) : Int) := by exact_mod_cast Nat.pow_le_pow_right (by decide) hm
    have := Int.mul_le_mul_of_nonneg_right this (show 0 ≤ x.2 by omega)
    omega
theorem Bd.fq {D e m : Nat} {x : Int × Int} (h : Bd D e m x) (hD : D < 2 ^ 8) (h0 : 0 < D) : Fq (m + 8 * e + 1) x := by
  obtain ⟨h1, h2, h3, h4⟩ := h
  have p : 0 < D ^ e := Nat.pow_pos h0
  have l1 : x.2 ≤ ((D ^ e : Nat) : Int) := Int.le_of_dvd (by omega) h3
  have l2 : D ^ e ≤ 2 ^ (8 * e) := by
    rw [Nat.pow_mul]
    exact Nat.pow_le_pow_left (by omega) e
  have l3 : 2 ^ (8 * e) < 2 ^ (m + 8 * e + 1) := Nat.pow_lt_pow_right (by decide) (by omega)
  refine ⟨?_, ?_, h1, h2⟩
  · unfold Sm
    have e1 : (x.1.natAbs : Int) ≤ ((2 ^ m * 2 ^ (8 * e) : Nat) : Int) := by
      rw [Int.natCast_mul]
      have q1 : ((D ^ e : Nat) : Int) ≤ ((2 ^ (8 * e) : Nat) : Int) := Int.ofNat_le.mpr l2
      have q2 : x.2 ≤ ((2 ^ (8 * e) : Nat) : Int) := Int.le_trans l1 q1
      have := Int.mul_le_mul_of_nonneg_left q2 (Int.natCast_nonneg (2 ^ m))
      exact Int.le_trans h4 this
    rw [← Nat.pow_add] at e1
    have : 2 ^ (m + 8 * e) < 2 ^ (m + 8 * e + 1) := Nat.pow_lt_pow_right (by decide) (by omega)
    omega
  · unfold Sm
    omega
/-- a fraction told with any denominator -/
theorem Bd.of {D e m : Nat} {a b : Int} (hb : 0 < b) (h : (a.natAbs : Int) ≤ ((2 ^ m : Nat) : Int) * b) {s : Int} (hs : s * b = a * ((D ^ e : Nat) : Int)) (h0 : 0 < D) : Bd D e m (fr a b) := by
  have f := fr_spec a (b := b) (by omega)
  obtain ⟨h1, h2, h3, h4⟩ := f
  have g0 : 0 < gs a b := by
    have := gcd_pos a (b := b) (by omega)
    unfold gs
    rw [if_pos hb]
    omega
  refine ⟨h3, h4, ?_, ?_⟩
  · generalize gs a b = g at *
    generalize (fr a b).1 = n at *
    generalize (fr a b).2 = d at *
    subst h1 h2
    have e1 : s * d = n * ((D ^ e : Nat) : Int) := by
      have : s * d * g = n * ((D ^ e : Nat) : Int) * g := by
        rw [Int.mul_assoc, hs, Int.mul_assoc n, Int.mul_comm g, ← Int.mul_assoc]
      exact Int.eq_of_mul_eq_mul_right (by omega) this
    have c : d ∣ n * ((D ^ e : Nat) : Int) := ⟨s, by rw [← e1, Int.mul_comm]⟩
    have c2 := Int.natAbs_dvd_natAbs.mpr c
    rw [Int.natAbs_mul] at c2
    have cop : Nat.Coprime d.natAbs n.natAbs := by rw [Nat.coprime_comm]; exact h4
    exact Int.natAbs_dvd_natAbs.mp (cop.dvd_of_dvd_mul_left c2)
  · generalize gs a b = g at *
    generalize (fr a b).1 = n at *
    generalize (fr a b).2 = d at *
    subst h1 h2
    have e1 : ((n * g).natAbs : Int) = (n.natAbs : Int) * g := by
      rw [Int.natAbs_mul, Int.natCast_mul]
      congr 1
      omega
    rw [e1, ← Int.mul_assoc] at h
    exact Int.le_of_mul_le_mul_right h g0
theorem Bd.div {D e m : Nat} {x : Int × Int} (h : Bd D e m x) : ∃ s : Int, s * x.2 = ((D ^ e : Nat) : Int) := by
  obtain ⟨s, hs⟩ := h.2.2.1
  exact ⟨s, by rw [hs, Int.mul_comm]⟩
theorem Bd.add {D e m : Nat} {x y : Int × Int} (hx : Bd D e m x) (hy : Bd D e m y) (h0 : 0 < D) : Bd D e (m + 1) (addF x y) := by
  obtain ⟨s, hs⟩ := hx.div
  obtain ⟨t, ht⟩ := hy.div
  have p1 := hx.1
  have p2 := hy.1
  have b1 := hx.2.2.2
  have b2 := hy.2.2.2
  refine Bd.of (s := x.1 * s + y.1 * t) (Int.mul_pos p1 p2) ?_ ?_ h0
  · have n1 : ((x.1 * y.2).natAbs : Int) ≤ ((2 ^ m : Nat) : Int) * (x.2 * y.2) := by
      rw [Int.natAbs_mul, Int.natCast_mul, show ((y.2.natAbs : Nat) : Int) = y.2 by omega, ← Int.mul_assoc]
      exact Int.mul_le_mul_of_nonneg_right b1 (by omega)
    have n2 : ((y.1 * x.2).natAbs : Int) ≤ ((2 ^ m : Nat) : Int) * (x.2 * y.2) := by
      rw [Int.natAbs_mul, Int.natCast_mul, show ((x.2.natAbs : Nat) : Int) = x.2 by omega, Int.mul_comm x.2, ← Int.mul_assoc]
      exact Int.mul_le_mul_of_nonneg_right b2 (by omega)
    have e2 : ((2 ^ (m + 1) : Nat) : Int) = ((2 ^ m : Nat) : Int) * 2 := by rw [Nat.pow_succ, Int.natCast_mul]; rfl
    have tri := Int.natAbs_add_le (x.1 * y.2) (y.1 * x.2)
    rw [e2]
    have : ((2 ^ m : Nat) : Int) * 2 * (x.2 * y.2) = ((2 ^ m : Nat) : Int) * (x.2 * y.2) + ((2 ^ m : Nat) : Int) * (x.2 * y.2) := by grind
    omega
  · have : (x.1 * y.2 + y.1 * x.2) * ((D ^ e : Nat) : Int) = x.1 * y.2 * ((D ^ e : Nat) : Int) + y.1 * x.2 * ((D ^ e : Nat) : Int) := by grind
    rw [this]
    generalize hq : ((D ^ e : Nat) : Int) = q at *
    have : x.1 * y.2 * q + y.1 * x.2 * q = x.1 * y.2 * (s * x.2) + y.1 * x.2 * (t * y.2) := by rw [hs, ht]
    rw [this]
    grind
theorem Bd.neg1 {D e m : Nat} {x : Int × Int} (h : Bd D e m x) : Bd D e m (-x.1, x.2) := by
  obtain ⟨h1, h2, h3, h4⟩ := h
  exact ⟨h1, by rw [Int.neg_gcd]; exact h2, h3, by rw [Int.natAbs_neg]; exact h4⟩
theorem subF_eq (x y : Int × Int) : subF x y = addF x (-y.1, y.2) := by
  unfold subF addF
  rw [Int.neg_mul, Int.sub_eq_add_neg]
theorem Bd.sub {D e m : Nat} {x y : Int × Int} (hx : Bd D e m x) (hy : Bd D e m y) (h0 : 0 < D) : Bd D e (m + 1) (subF x y) := by
  rw [subF_eq]
  exact hx.add hy.neg1 h0
theorem Bd.mul {D e e' m m' : Nat} {x y : Int × Int} (hx : Bd D e m x) (hy : Bd D e' m' y) (h0 : 0 < D) : Bd D (e + e') (m + m') (mulF x y) := by
  obtain ⟨s, hs⟩ := hx.div
  obtain ⟨t, ht⟩ := hy.div
  have p1 := hx.1
  have p2 := hy.1
  have b1 := hx.2.2.2
  have b2 := hy.2.2.2
  refine Bd.of (s := x.1 * y.1 * s * t) (Int.mul_pos p1 p2) ?_ ?_ h0
  · rw [Int.natAbs_mul, Int.natCast_mul, Nat.pow_add, Int.natCast_mul]
    have := Int.mul_le_mul b1 b2 (by omega) (Int.mul_nonneg (Int.natCast_nonneg _) (show 0 ≤ x.2 by omega))
    have e1 : ((2 ^ m : Nat) : Int) * x.2 * (((2 ^ m' : Nat) : Int) * y.2) = ((2 ^ m : Nat) : Int) * ((2 ^ m' : Nat) : Int) * (x.2 * y.2) := by grind
    omega
  · rw [Nat.pow_add, Int.natCast_mul]
    generalize hq : ((D ^ e : Nat) : Int) = q at *
    generalize hr : ((D ^ e' : Nat) : Int) = r at *
    rw [← hs, ← ht]
    grind
end FM

set_option Elab.async false
set_option linter.all false
set_option maxRecDepth 100000
set_option maxHeartbeats 4000000
/-! N3: what tower numbers mean in an ordered field; how long they grow. -/
namespace FM
open OF
def Pd (x : Int × Int) : Prop := 0 < x.2
theorem Bd.pd {D e m : Nat} {x : Int × Int} (h : Bd D e m x) : Pd x := h.1
theorem pd_fr (a : Int) {b : Int} (h : b ≠ 0) : Pd (fr a b) := (fr_spec a h).2.2.1
theorem pd_add {x y : Int × Int} (hx : Pd x) (hy : Pd y) : Pd (addF x y) := pd_fr _ (by have := Int.mul_pos hx hy; omega)
theorem pd_sub {x y : Int × Int} (hx : Pd x) (hy : Pd y) : Pd (subF x y) := pd_fr _ (by have := Int.mul_pos hx hy; omega)
theorem pd_mul {x y : Int × Int} (hx : Pd x) (hy : Pd y) : Pd (mulF x y) := pd_fr _ (by have := Int.mul_pos hx hy; omega)
theorem addN_all {P Q : Int × Int → Prop} (h : ∀ x y, P x → P y → Q (addF x y)) : (n : Nat) → {x y : Nm n} → AllL P n x → AllL P n y → AllL Q n (addN n x y)
  | 0, _, _, a, b => h _ _ a b
  | n + 1, _, _, a, b => ⟨addN_all h n a.1 b.1, addN_all h n a.2 b.2⟩
theorem subN_all {P Q : Int × Int → Prop} (h : ∀ x y, P x → P y → Q (subF x y)) : (n : Nat) → {x y : Nm n} → AllL P n x → AllL P n y → AllL Q n (subN n x y)
  | 0, _, _, a, b => h _ _ a b
  | n + 1, _, _, a, b => ⟨subN_all h n a.1 b.1, subN_all h n a.2 b.2⟩
theorem mulN_t {n : Nat} {t : Tw n} {r : Nm n} {x y : Nm (n + 1)} (z : (isN n x.2 && isN n y.2) = true) : mulN (.snoc t r) x y = (mulN t x.1 y.1, x.2) := if_pos z
theorem mulN_f {n : Nat} {t : Tw n} {r : Nm n} {x y : Nm (n + 1)} (z : ¬ (isN n x.2 && isN n y.2) = true) : mulN (.snoc t r) x y = (addN n (mulN t x.1 y.1) (mulN t (mulN t x.2 y.2) r), addN n (mulN t x.1 y.2) (mulN t x.2 y.1)) := if_neg z
theorem mulN_pd : {n : Nat} → (t : Tw n) → TwAll Pd t → {x y : Nm n} → AllL Pd n x → AllL Pd n y → AllL Pd n (mulN t x y)
  | _, .nil, _, _, _, a, b => pd_mul a b
  | n + 1, .snoc t r, ht, x, y, a, b => by
    by_cases z : (isN n x.2 && isN n y.2) = true
    · rw [mulN_t z]
      exact ⟨mulN_pd t ht.1 a.1 b.1, a.2⟩
    · rw [mulN_f z]
      exact ⟨addN_all (fun _ _ => pd_add) n (mulN_pd t ht.1 a.1 b.1) (mulN_pd t ht.1 (mulN_pd t ht.1 a.2 b.2) ht.2), addN_all (fun _ _ => pd_add) n (mulN_pd t ht.1 a.1 b.2) (mulN_pd t ht.1 a.2 b.1)⟩
theorem normN_pd {n : Nat} {t : Tw n} {r : Nm n} (ht : TwAll Pd t) (hr : AllL Pd n r) {x : Nm (n + 1)} (h : AllL Pd (n + 1) x) : AllL Pd n (normN t r x) :=
  subN_all (fun _ _ => pd_sub) n (mulN_pd t ht h.1 h.1) (mulN_pd t ht (mulN_pd t ht h.2 h.2) hr)
/-! ### sizes -/
def cc : Nat → Nat
  | 0 => 0
  | n + 1 => 2 * cc n + 1
section
variable {D er mr : Nat} (h0 : 0 < D)
include h0
theorem addN_bd {n e m : Nat} {x y : Nm n} (hx : AllL (Bd D e m) n x) (hy : AllL (Bd D e m) n y) : AllL (Bd D e (m + 1)) n (addN n x y) := addN_all (fun _ _ a b => a.add b h0) n hx hy
theorem subN_bd {n e m : Nat} {x y : Nm n} (hx : AllL (Bd D e m) n x) (hy : AllL (Bd D e m) n y) : AllL (Bd D e (m + 1)) n (subN n x y) := subN_all (fun _ _ a b => a.sub b h0) n hx hy
omit h0 in
theorem AllL.up {n e m e' m' : Nat} {x : Nm n} (h : AllL (Bd D e m) n x) (he : e ≤ e') (hm : m ≤ m') : AllL (Bd D e' m') n x := AllL.imp (fun _ g => g.mono he hm) n h
theorem mulN_bd : {n : Nat} → (t : Tw n) → TwAll (Bd D er mr) t → {e1 m1 e2 m2 : Nat} → {x y : Nm n} → AllL (Bd D e1 m1) n x → AllL (Bd D e2 m2) n y → AllL (Bd D (e1 + e2 + cc n * er) (m1 + m2 + cc n * (mr + 1))) n (mulN t x y)
  | _, .nil, _, e1, m1, e2, m2, x, y, a, b => by
    have := Bd.mul a b h0
    exact this.mono (by omega) (by omega)
  | n + 1, .snoc t r, ht, e1, m1, e2, m2, x, y, a, b => by
    have q1 : cc (n + 1) * er = 2 * (cc n * er) + er := by show (2 * cc n + 1) * er = _; rw [Nat.add_mul, Nat.one_mul, Nat.mul_assoc]
    have q2 : cc (n + 1) * (mr + 1) = 2 * (cc n * (mr + 1)) + (mr + 1) := by show (2 * cc n + 1) * (mr + 1) = _; rw [Nat.add_mul, Nat.one_mul, Nat.mul_assoc]
    have k1 := mulN_bd t ht.1 a.1 b.1
    have k2 := mulN_bd t ht.1 (mulN_bd t ht.1 a.2 b.2) ht.2
    have k3 := mulN_bd t ht.1 a.1 b.2
    have k4 := mulN_bd t ht.1 a.2 b.1
    by_cases z : (isN n x.2 && isN n y.2) = true
    · rw [mulN_t z]
      exact ⟨k1.up (by omega) (by omega), AllL.up a.2 (by omega) (by omega)⟩
    · rw [mulN_f z]
      refine ⟨?_, ?_⟩
      · have s := addN_bd h0 (k1.up (e' := e1 + e2 + 2 * (cc n * er) + er) (m' := m1 + m2 + 2 * (cc n * (mr + 1)) + mr) (by omega) (by omega)) (k2.up (by omega) (by omega))
        exact s.up (by omega) (by omega)
      · have s := addN_bd h0 k3 k4
        exact s.up (by omega) (by omega)
theorem normN_bd {n : Nat} {t : Tw n} {r : Nm n} (ht : TwAll (Bd D er mr) t) (hr : AllL (Bd D er mr) n r) {e m : Nat} {x : Nm (n + 1)} (h : AllL (Bd D e m) (n + 1) x) : AllL (Bd D (2 * e + cc (n + 1) * er) (2 * m + cc (n + 1) * (mr + 1))) n (normN t r x) := by
  have q1 : cc (n + 1) * er = 2 * (cc n * er) + er := by show (2 * cc n + 1) * er = _; rw [Nat.add_mul, Nat.one_mul, Nat.mul_assoc]
  have q2 : cc (n + 1) * (mr + 1) = 2 * (cc n * (mr + 1)) + (mr + 1) := by show (2 * cc n + 1) * (mr + 1) = _; rw [Nat.add_mul, Nat.one_mul, Nat.mul_assoc]
  have k1 := mulN_bd h0 t ht h.1 h.1
  have k2 := mulN_bd h0 t ht (mulN_bd h0 t ht h.2 h.2) hr
  have s := subN_bd h0 (k1.up (e' := 2 * e + 2 * (cc n * er) + er) (m' := 2 * m + 2 * (cc n * (mr + 1)) + mr) (by omega) (by omega)) (k2.up (by omega) (by omega))
  exact s.up (by omega) (by omega)
end
/-! ### meaning -/
section
variable {L : Type} [fL : Lean.Grind.Field L] [LE L] [LT L] [Std.LawfulOrderLT L] [Std.IsLinearOrder L] [Lean.Grind.OrderedRing L] {j : Rat → L} {ρ : Nat → L}
def val (j : Rat → L) (ρ : Nat → L) : (n : Nat) → Nm n → L
  | 0, x => j (rat x)
  | n + 1, x => val j ρ n x.1 + val j ρ n x.2 * ρ n
def TwV (j : Rat → L) (ρ : Nat → L) : {n : Nat} → Tw n → Prop
  | _, .nil => True
  | n + 1, .snoc t r => TwV j ρ t ∧ 0 < ρ n ∧ ρ n * ρ n = val j ρ n r
section
variable (hj : Hom j)
include hj
theorem hom_sub (a b : Rat) : j (a - b) = j a - j b := by
  rw [show a - b = a + -b by grind, hj.add, hj.neg]
  grind
theorem val_add : (n : Nat) → {x y : Nm n} → AllL Pd n x → AllL Pd n y → val j ρ n (addN n x y) = val j ρ n x + val j ρ n y
  | 0, x, y, a, b => by
    exact (congrArg j (rat_add (x := (x : Int × Int)) (y := (y : Int × Int)) (Int.ne_of_gt a) (Int.ne_of_gt b))).trans (hj.add _ _)
  | n + 1, x, y, a, b => by
    show val j ρ n (addN n x.1 y.1) + val j ρ n (addN n x.2 y.2) * ρ n = (val j ρ n x.1 + val j ρ n x.2 * ρ n) + (val j ρ n y.1 + val j ρ n y.2 * ρ n)
    rw [val_add n a.1 b.1, val_add n a.2 b.2]
    grind
theorem val_sub : (n : Nat) → {x y : Nm n} → AllL Pd n x → AllL Pd n y → val j ρ n (subN n x y) = val j ρ n x - val j ρ n y
  | 0, x, y, a, b => by
    exact (congrArg j (rat_sub (x := (x : Int × Int)) (y := (y : Int × Int)) (Int.ne_of_gt a) (Int.ne_of_gt b))).trans (hom_sub hj _ _)
  | n + 1, x, y, a, b => by
    show val j ρ n (subN n x.1 y.1) + val j ρ n (subN n x.2 y.2) * ρ n = (val j ρ n x.1 + val j ρ n x.2 * ρ n) - (val j ρ n y.1 + val j ρ n y.2 * ρ n)
    rw [val_sub n a.1 b.1, val_sub n a.2 b.2]
    grind
theorem val_isN : (n : Nat) → {x : Nm n} → isN n x = true → val j ρ n x = 0
  | 0, x, h => by
    have e : Prod.fst (α := Int) (β := Int) x = 0 := of_decide_eq_true h
    have e2 : rat (x : Int × Int) = 0 := by
      unfold rat
      rw [e]
      grind
    exact (congrArg j e2).trans hj.zero
  | n + 1, x, h => by
    unfold isN at h
    rw [Bool.and_eq_true] at h
    show val j ρ n x.1 + val j ρ n x.2 * ρ n = 0
    rw [val_isN n h.1, val_isN n h.2]
    grind
theorem val_mul : {n : Nat} → (t : Tw n) → TwV j ρ t → TwAll Pd t → {x y : Nm n} → AllL Pd n x → AllL Pd n y → val j ρ n (mulN t x y) = val j ρ n x * val j ρ n y
  | _, .nil, _, _, x, y, a, b => by
    exact (congrArg j (rat_mul (x := (x : Int × Int)) (y := (y : Int × Int)) (Int.ne_of_gt a) (Int.ne_of_gt b))).trans (hj.mul _ _)
  | n + 1, .snoc t r, hv, ht, x, y, a, b => by
    obtain ⟨hv1, hv2, hv3⟩ := hv
    by_cases z : (isN n x.2 && isN n y.2) = true
    · rw [mulN_t z]
      rw [Bool.and_eq_true] at z
      show val j ρ n (mulN t x.1 y.1) + val j ρ n x.2 * ρ n = (val j ρ n x.1 + val j ρ n x.2 * ρ n) * (val j ρ n y.1 + val j ρ n y.2 * ρ n)
      rw [val_mul t hv1 ht.1 a.1 b.1, val_isN hj n z.1, val_isN hj n z.2]
      grind
    · rw [mulN_f z]
      have p1 := mulN_pd t ht.1 a.1 b.1
      have p2 := mulN_pd t ht.1 a.2 b.2
      have p3 := mulN_pd t ht.1 p2 ht.2
      show val j ρ n (addN n (mulN t x.1 y.1) (mulN t (mulN t x.2 y.2) r)) + val j ρ n (addN n (mulN t x.1 y.2) (mulN t x.2 y.1)) * ρ n = (val j ρ n x.1 + val j ρ n x.2 * ρ n) * (val j ρ n y.1 + val j ρ n y.2 * ρ n)
      rw [val_add hj n p1 p3, val_add hj n (mulN_pd t ht.1 a.1 b.2) (mulN_pd t ht.1 a.2 b.1), val_mul t hv1 ht.1 a.1 b.1, val_mul t hv1 ht.1 p2 ht.2, val_mul t hv1 ht.1 a.2 b.2, val_mul t hv1 ht.1 a.1 b.2, val_mul t hv1 ht.1 a.2 b.1, ← hv3]
      grind
theorem val_norm {n : Nat} {t : Tw n} {r : Nm n} (hv : TwV j ρ t) (ht : TwAll Pd t) (hr : AllL Pd n r) {x : Nm (n + 1)} (h : AllL Pd (n + 1) x) : val j ρ n (normN t r x) = val j ρ n x.1 * val j ρ n x.1 - val j ρ n x.2 * val j ρ n x.2 * val j ρ n r := by
  have p1 := mulN_pd t ht h.1 h.1
  have p2 := mulN_pd t ht h.2 h.2
  unfold normN
  rw [val_sub hj n p1 (mulN_pd t ht p2 hr), val_mul hj t hv ht h.1 h.1, val_mul hj t hv ht p2 hr, val_mul hj t hv ht h.2 h.2]
theorem sgn_rat {x : Int × Int} (h : Pd x) : sgn (j (rat x)) = sgI x.1 := by
  rw [← rat_sgn h]
  rcases Std.lt_trichotomy (rat x) 0 with z | z | z
  · have := hj.lt _ _ z
    rw [hj.zero] at this
    rw [sgn_neg this, sgn_neg z]
  · rw [z, hj.zero, sgn_zero, sgn_zero]
  · have := hj.lt _ _ z
    rw [hj.zero] at this
    rw [sgn_pos this, sgn_pos z]
/-- THE SIGN: the defs' sign is the sign of what is meant -/
theorem sign_val : {n : Nat} → (t : Tw n) → TwV j ρ t → TwAll Pd t → {x : Nm n} → AllL Pd n x → signN t x = sgn (val j ρ n x)
  | _, .nil, _, _, x, h => (sgn_rat hj h).symm
  | n + 1, .snoc t r, hv, ht, x, h => by
    obtain ⟨hv1, hv2, hv3⟩ := hv
    show sg2 (signN t x.1) (signN t x.2) (signN t (normN t r x)) = sgn (val j ρ n x.1 + val j ρ n x.2 * ρ n)
    rw [sign_val t hv1 ht.1 h.1, sign_val t hv1 ht.1 h.2, sign_val t hv1 ht.1 (normN_pd ht.1 ht.2 h), val_norm hj hv1 ht.1 ht.2 h]
    exact (sgn_root hv2 hv3).symm
end
end
end FM

set_option Elab.async false
set_option linter.all false
set_option maxRecDepth 100000
set_option maxHeartbeats 4000000
/-! N4: what the towers' defs compute. -/
namespace FM
open PySem (Str sizeLine)
open L2 (atI ixN Key)
local macro_rules | `(tactic| walk_at "go") => `(tactic| simp [FM.execs, FM.exec, FM.ev, FM.evs, FM.evo, FM.evc, FM.evi, FM.Sl.d, FM.isiD, FM.cmpD, FM.negD, FM.bindT, FM.andThen_some', FM.onBl_bl, FM.wthD_some', FM.eqD_int, FM.ix_tup, FM.ix_lst, FM.atI_0, FM.atI_1, FM.atI_2, FM.op_add, FM.op_sub, FM.op_subBl, FM.biD_abs, FM.szle, FM.pl_get, FM.pl_set, FM.isOw_pl, FM.noOw_pl, FM.lk_pl, FM.lks_pl, FM.itlk_pl, FM.setAll_pl, FM.setAllD])
structure Ids where
  plus : Nat
  minus : Nat
  times : Nat
  sgn : Nat
  add : Nat
  sub : Nat
  mul : Nat
  isn : Nat
  norm : Nat
  sign : Nat
  cmp : Nat
structure TF (G : Nat → Fs) (i : Ids) : Prop where
  plus : ∀ (m : Nat) (x y : Int × Int) (μ : Cells), Fq 1800 x → Fq 1800 y → G m i.plus [fD x, fD y] μ = some (fD (addF x y), μ)
  minus : ∀ (m : Nat) (x y : Int × Int) (μ : Cells), Fq 1800 x → Fq 1800 y → G m i.minus [fD x, fD y] μ = some (fD (subF x y), μ)
  times : ∀ (m : Nat) (x y : Int × Int) (μ : Cells), Fq 1800 x → Fq 1800 y → G m i.times [fD x, fD y] μ = some (fD (mulF x y), μ)
  sgn : ∀ (m : Nat) (x : Int × Int) (μ : Cells), G m i.sgn [fD x] μ = some (.int (sgI x.1), μ)
  add : ∀ m ds μ, G (m + 1) i.add ds μ = runFn (G m) W ⟨3, 4, B_add i.plus i.add⟩ ds μ
  sub : ∀ m ds μ, G (m + 1) i.sub ds μ = runFn (G m) W ⟨3, 4, B_sub i.minus i.sub⟩ ds μ
  isn : ∀ m ds μ, G (m + 1) i.isn ds μ = runFn (G m) W ⟨2, 2, B_is_nought i.isn⟩ ds μ
  mul : ∀ m ds μ, G (m + 1) i.mul ds μ = runFn (G m) W ⟨3, 7, B_mul i.times i.isn i.mul i.add⟩ ds μ
  norm : ∀ m ds μ, G (m + 1) i.norm ds μ = runFn (G m) W ⟨2, 3, B_norm i.sub i.mul⟩ ds μ
  sign : ∀ m ds μ, G (m + 1) i.sign ds μ = runFn (G m) W ⟨2, 4, B_sign i.sgn i.sign i.norm⟩ ds μ
  cmp : ∀ m ds μ, G (m + 1) i.cmp ds μ = runFn (G m) W ⟨3, 3, B_compare i.sign i.sub⟩ ds μ
section
variable {G : Nat → Fs} {i : Ids} (T : TF G i)
include T
theorem add_c : (n : Nat) → (hn : n ≤ 50) → (t : Tw n) → (m : Nat) → n ≤ m → {x y : Nm n} → AllL (Fq 1800) n x → AllL (Fq 1800) n y → (μ : Cells) → G (m + 1) i.add [nD n x, nD n y, tD t] μ = some (nD n (addN n x y), μ)
  | 0, hn, .nil, m, _, x, y, hx, hy, μ => by
    rw [T.add]
    have e := tw_nil (.nil) (by decide)
    refine run_rt rfl (Nat.le_of_ble_eq_true rfl) ?_
    show execs (G m) W _ (pl [some (nD 0 x), some (nD 0 y), some (tD .nil), none]) μ = _
    refine seq_rt (ifs_t (cmp_of (x := tD .nil) (y := .tup []) rfl rfl e) (seq_rt (ret_of (lk_pl _ _) ?_)))
    have p := T.plus m (x : Int × Int) (y : Int × Int) μ hx hy
    unfold ev
    rw [lks_pl]
    exact p
  | n + 1, hn, .snoc t r, m, hm, x, y, hx, hy, μ => by
    obtain ⟨k, rfl⟩ : ∃ k, m = k + 1 := ⟨m - 1, by omega⟩
    rw [T.add]
    have e := tw_nil (.snoc t r) (by omega)
    have a1 := add_c n (by omega) t k (by omega) hx.1 hy.1 μ
    have a2 := add_c n (by omega) t k (by omega) hx.2 hy.2 μ
    refine run_rt rfl (Nat.le_of_ble_eq_true rfl) ?_
    show execs (G (k + 1)) W _ (pl [some (.tup [nD n x.1, nD n x.2]), some (.tup [nD n y.1, nD n y.2]), some (tD (.snoc t r)), none]) μ = some (Res.rt (.tup [nD n (addN n x.1 y.1), nD n (addN n x.2 y.2)]) μ)
    refine seq_nx (ifs_f (cmp_of (x := tD (.snoc t r)) (y := .tup []) rfl rfl e) rfl) (seq_nx (ρ1 := pl [some (.tup [nD n x.1, nD n x.2]), some (.tup [nD n y.1, nD n y.2]), some (tD (.snoc t r)), some (tD t)]) (μ1 := μ) ?_ (seq_rt ?_))
    · have s := sl_tw t r
      walk_at "go"
      simp [s, andThen_some', wthD_some', pl_set]
    · walk_at "go"
      simp [a1, a2, andThen_some', szle]
theorem sub_c : (n : Nat) → (hn : n ≤ 50) → (t : Tw n) → (m : Nat) → n ≤ m → {x y : Nm n} → AllL (Fq 1800) n x → AllL (Fq 1800) n y → (μ : Cells) → G (m + 1) i.sub [nD n x, nD n y, tD t] μ = some (nD n (subN n x y), μ)
  | 0, hn, .nil, m, _, x, y, hx, hy, μ => by
    rw [T.sub]
    have e := tw_nil (.nil) (by decide)
    refine run_rt rfl (Nat.le_of_ble_eq_true rfl) ?_
    show execs (G m) W _ (pl [some (nD 0 x), some (nD 0 y), some (tD .nil), none]) μ = _
    refine seq_rt (ifs_t (cmp_of (x := tD .nil) (y := .tup []) rfl rfl e) (seq_rt (ret_of (lk_pl _ _) ?_)))
    have p := T.minus m (x : Int × Int) (y : Int × Int) μ hx hy
    unfold ev
    rw [lks_pl]
    exact p
  | n + 1, hn, .snoc t r, m, hm, x, y, hx, hy, μ => by
    obtain ⟨k, rfl⟩ : ∃ k, m = k + 1 := ⟨m - 1, by omega⟩
    rw [T.sub]
    have e := tw_nil (.snoc t r) (by omega)
    have a1 := sub_c n (by omega) t k (by omega) hx.1 hy.1 μ
    have a2 := sub_c n (by omega) t k (by omega) hx.2 hy.2 μ
    refine run_rt rfl (Nat.le_of_ble_eq_true rfl) ?_
    show execs (G (k + 1)) W _ (pl [some (.tup [nD n x.1, nD n x.2]), some (.tup [nD n y.1, nD n y.2]), some (tD (.snoc t r)), none]) μ = some (Res.rt (.tup [nD n (subN n x.1 y.1), nD n (subN n x.2 y.2)]) μ)
    refine seq_nx (ifs_f (cmp_of (x := tD (.snoc t r)) (y := .tup []) rfl rfl e) rfl) (seq_nx (ρ1 := pl [some (.tup [nD n x.1, nD n x.2]), some (.tup [nD n y.1, nD n y.2]), some (tD (.snoc t r)), some (tD t)]) (μ1 := μ) ?_ (seq_rt ?_))
    · have s := sl_tw t r
      walk_at "go"
      simp [s, andThen_some', wthD_some', pl_set]
    · walk_at "go"
      simp [a1, a2, andThen_some', szle]
theorem isn_c : (n : Nat) → (hn : n ≤ 50) → (t : Tw n) → (m : Nat) → n ≤ m → (x : Nm n) → (μ : Cells) → G (m + 1) i.isn [nD n x, tD t] μ = some (.bl (isN n x), μ)
  | 0, hn, .nil, m, _, x, μ => by
    rw [T.isn]
    have e := tw_nil (.nil) (by decide)
    refine run_rt rfl (Nat.le_of_ble_eq_true rfl) ?_
    show execs (G m) W _ (pl [some (.tup [.int (Prod.fst (α := Int) (β := Int) x), .int (Prod.snd (α := Int) (β := Int) x)]), some (tD .nil)]) μ = _
    refine seq_rt (ifs_t (cmp_of (x := tD .nil) (y := .tup []) rfl rfl e) (seq_rt (ret_of (lk_pl _ _) ?_)))
    walk_at "go"
    rfl
  | n + 1, hn, .snoc t r, m, hm, x, μ => by
    obtain ⟨k, rfl⟩ : ∃ k, m = k + 1 := ⟨m - 1, by omega⟩
    rw [T.isn]
    have e := tw_nil (.snoc t r) (by omega)
    have a1 := isn_c n (by omega) t k (by omega) x.1 μ
    have a2 := isn_c n (by omega) t k (by omega) x.2 μ
    refine run_rt rfl (Nat.le_of_ble_eq_true rfl) ?_
    show execs (G (k + 1)) W _ (pl [some (.tup [nD n x.1, nD n x.2]), some (tD (.snoc t r))]) μ = some (Res.rt (.bl (isN n x.1 && isN n x.2)) μ)
    refine seq_nx (ifs_f (cmp_of (x := tD (.snoc t r)) (y := .tup []) rfl rfl e) rfl) (seq_rt ?_)
    have s := sl_tw t r
    walk_at "go"
    simp [s, a1, andThen_some', wthD_some', onBl_bl]
    cases isN n x.1 <;> simp [a2, andThen_some', wthD_some', onBl_bl]
/-- long enough for products -/
theorem mul_c {D er mr : Nat} (h0 : 0 < D) (hD : D < 2 ^ 8) : (n : Nat) → (hn : n ≤ 50) → (t : Tw n) → (ht : TwAll (Bd D er mr) t) → (m : Nat) → n ≤ m → {e1 m1 e2 m2 : Nat} → {x y : Nm n} → AllL (Bd D e1 m1) n x → AllL (Bd D e2 m2) n y →
    (m1 + m2 + cc n * (mr + 1)) + 8 * (e1 + e2 + cc n * er) + 2 ≤ 1800 → (μ : Cells) → G (m + 1) i.mul [nD n x, nD n y, tD t] μ = some (nD n (mulN t x y), μ)
  | 0, hn, .nil, ht, m, _, e1, m1, e2, m2, x, y, hx, hy, hl, μ => by
    rw [T.mul]
    have e := tw_nil (.nil) (by decide)
    have fx : Fq 1800 (x : Int × Int) := (Bd.fq hx hD h0).mono (by omega)
    have fy : Fq 1800 (y : Int × Int) := (Bd.fq hy hD h0).mono (by omega)
    refine run_rt rfl (Nat.le_of_ble_eq_true rfl) ?_
    show execs (G m) W _ (pl [some (nD 0 x), some (nD 0 y), some (tD .nil), none, none, none, none]) μ = _
    refine seq_rt (ifs_t (cmp_of (x := tD .nil) (y := .tup []) rfl rfl e) (seq_rt (ret_of (lk_pl _ _) ?_)))
    have p := T.times m (x : Int × Int) (y : Int × Int) μ fx fy
    unfold ev
    rw [lks_pl]
    exact p
  | n + 1, hn, .snoc t r, ht, m, hm, e1, m1, e2, m2, x, y, hx, hy, hl, μ => by
    obtain ⟨k, rfl⟩ : ∃ k, m = k + 1 := ⟨m - 1, by omega⟩
    have q1 : cc (n + 1) * er = 2 * (cc n * er) + er := by show (2 * cc n + 1) * er = _; rw [Nat.add_mul, Nat.one_mul, Nat.mul_assoc]
    have q2 : cc (n + 1) * (mr + 1) = 2 * (cc n * (mr + 1)) + (mr + 1) := by show (2 * cc n + 1) * (mr + 1) = _; rw [Nat.add_mul, Nat.one_mul, Nat.mul_assoc]
    rw [q1, q2] at hl
    have e := tw_nil (.snoc t r) (by omega)
    have b11 := mulN_bd h0 t ht.1 hx.1 hy.1
    have b22 := mulN_bd h0 t ht.1 hx.2 hy.2
    have b22r := mulN_bd h0 t ht.1 b22 ht.2
    have b12 := mulN_bd h0 t ht.1 hx.1 hy.2
    have b21 := mulN_bd h0 t ht.1 hx.2 hy.1
    have c11 := mul_c h0 hD n (by omega) t ht.1 k (by omega) hx.1 hy.1 (by omega) μ
    have c22 := mul_c h0 hD n (by omega) t ht.1 k (by omega) hx.2 hy.2 (by omega) μ
    have c12 := mul_c h0 hD n (by omega) t ht.1 k (by omega) hx.1 hy.2 (by omega) μ
    have c21 := mul_c h0 hD n (by omega) t ht.1 k (by omega) hx.2 hy.1 (by omega) μ
    have c22r := mul_c h0 hD n (by omega) t ht.1 k (by omega) b22 ht.2 (by omega) μ
    have fq : ∀ {e m : Nat} {z : Nm n}, AllL (Bd D e m) n z → m + 8 * e + 1 ≤ 1800 → AllL (Fq 1800) n z := fun h l => AllL.imp (fun _ g => (g.fq hD h0).mono l) n h
    have s1 := add_c T n (by omega) t k (by omega) (fq b12 (by omega)) (fq b21 (by omega)) μ
    have s2 := add_c T n (by omega) t k (by omega) (fq b11 (by omega)) (fq b22r (by omega)) μ
    have i1 := isn_c T n (by omega) t k (by omega) x.2 μ
    have i2 := isn_c T n (by omega) t k (by omega) y.2 μ
    have sl := sl_tw t r
    have ix : ixD μ (tD (.snoc t r)) (.int (-1)) = some (nD n r) := ix_tw μ t r
    rw [T.mul]
    refine run_rt rfl (Nat.le_of_ble_eq_true rfl) ?_
    show execs (G (k + 1)) W _ (pl [some (.tup [nD n x.1, nD n x.2]), some (.tup [nD n y.1, nD n y.2]), some (tD (.snoc t r)), none, none, none, none]) μ = some (Res.rt (nD (n + 1) (mulN (.snoc t r) x y)) μ)
    refine seq_nx (ifs_f (cmp_of (x := tD (.snoc t r)) (y := .tup []) rfl rfl e) rfl) (seq_nx (ρ1 := pl [some (.tup [nD n x.1, nD n x.2]), some (.tup [nD n y.1, nD n y.2]), some (tD (.snoc t r)), none, none, some (tD t), some (nD n r)]) (μ1 := μ) ?_ ?_)
    · have ix2 : atI (twL (.snoc t r)) (-1) = some (nD n r) := ix
      walk_at "go"
      simp [sl, ix2, andThen_some', wthD_some', pl_set]
    · by_cases z : (isN n x.2 && isN n y.2) = true
      · rw [mulN_t z]
        show _ = some (Res.rt (.tup [nD n (mulN t x.1 y.1), nD n x.2]) μ)
        rw [Bool.and_eq_true] at z
        rw [z.1] at i1
        rw [z.2] at i2
        refine seq_rt (ifs_t (μ1 := μ) ?_ (seq_rt ?_))
        · walk_at "go"
          simp [i1, i2, andThen_some', wthD_some', onBl_bl]
        · walk_at "go"
          simp [c11, andThen_some', wthD_some', onBl_bl, szle]
      · rw [mulN_f z]
        show _ = some (Res.rt (.tup [nD n (addN n (mulN t x.1 y.1) (mulN t (mulN t x.2 y.2) r)), nD n (addN n (mulN t x.1 y.2) (mulN t x.2 y.1))]) μ)
        refine seq_nx (ifs_f (μ1 := μ) ?_ rfl) (seq_nx (ρ1 := pl [some (.tup [nD n x.1, nD n x.2]), some (.tup [nD n y.1, nD n y.2]), some (tD (.snoc t r)), some (nD n (mulN t (mulN t x.2 y.2) r)), none, some (tD t), some (nD n r)]) (μ1 := μ) ?_ (seq_nx (ρ1 := pl [some (.tup [nD n x.1, nD n x.2]), some (.tup [nD n y.1, nD n y.2]), some (tD (.snoc t r)), some (nD n (mulN t (mulN t x.2 y.2) r)), some (nD n (addN n (mulN t x.1 y.2) (mulN t x.2 y.1))), some (tD t), some (nD n r)]) (μ1 := μ) ?_ (seq_rt ?_)))
        · walk_at "go"
          simp [i1, i2, andThen_some', wthD_some', onBl_bl]
          cases h1 : isN n x.2 <;> cases h2 : isN n y.2 <;> simp_all [i1, i2, andThen_some', wthD_some', onBl_bl]
        · walk_at "go"
          simp [c22, c22r, andThen_some', wthD_some', onBl_bl, pl_set]
        · walk_at "go"
          simp [c12, c21, s1, andThen_some', wthD_some', onBl_bl, pl_set]
        · walk_at "go"
          simp [c11, s2, andThen_some', wthD_some', onBl_bl, szle]
end
end FM

set_option Elab.async false
set_option linter.all false
set_option maxRecDepth 100000
set_option maxHeartbeats 4000000
/-! N5: norm, sign, compare. -/
namespace FM
open PySem (Str sizeLine)
open L2 (atI ixN Key)
local macro_rules | `(tactic| walk_at "go") => `(tactic| simp [FM.execs, FM.exec, FM.ev, FM.evs, FM.evo, FM.evc, FM.evi, FM.Sl.d, FM.isiD, FM.cmpD, FM.negD, FM.bindT, FM.andThen_some', FM.onBl_bl, FM.wthD_some', FM.eqD_int, FM.ix_tup, FM.ix_lst, FM.atI_0, FM.atI_1, FM.atI_2, FM.op_add, FM.op_sub, FM.op_subBl, FM.biD_abs, FM.szle, FM.pl_get, FM.pl_set, FM.isOw_pl, FM.noOw_pl, FM.lk_pl, FM.lks_pl, FM.itlk_pl, FM.setAll_pl, FM.setAllD])
theorem sgI_abs (n : Int) : (sgI n).natAbs ≤ 1 := by
  unfold sgI
  split
  · decide
  · split <;> decide
theorem sg2_abs {a b c : Int} (ha : a.natAbs ≤ 1) (hb : b.natAbs ≤ 1) (hc : c.natAbs ≤ 1) : (OF.sg2 a b c).natAbs ≤ 1 := by
  unfold OF.sg2
  split
  · exact ha
  · split
    · exact hb
    · rw [Int.natAbs_mul]
      exact Nat.mul_le_mul ha hc
theorem signN_abs : {n : Nat} → (t : Tw n) → (x : Nm n) → (signN t x).natAbs ≤ 1
  | _, .nil, x => sgI_abs _
  | n + 1, .snoc t r, x => sg2_abs (signN_abs t x.1) (signN_abs t x.2) (signN_abs t _)
/-- long enough for signs -/
def SL (er mr : Nat) : Nat → Nat → Nat → Prop
  | 0, _, _ => True
  | n + 1, e, m => (2 * m + cc (n + 1) * (mr + 1)) + 8 * (2 * e + cc (n + 1) * er) + 2 ≤ 1800 ∧ SL er mr n (2 * e + cc (n + 1) * er) (2 * m + cc (n + 1) * (mr + 1))
theorem SL.mono {er mr : Nat} : {n e m e' m' : Nat} → SL er mr n e' m' → e ≤ e' → m ≤ m' → SL er mr n e m
  | 0, _, _, _, _, _, _, _ => trivial
  | n + 1, e, m, e', m', h, he, hm => ⟨by have := h.1; omega, SL.mono h.2 (by omega) (by omega)⟩
section
variable {G : Nat → Fs} {i : Ids} (T : TF G i)
include T
theorem norm_c {D er mr : Nat} (h0 : 0 < D) (hD : D < 2 ^ 8) {n : Nat} (hn : n + 1 ≤ 50) (t : Tw n) (r : Nm n) (ht : TwAll (Bd D er mr) (.snoc t r)) {m : Nat} (hm : n + 1 ≤ m) {e1 m1 : Nat} {x : Nm (n + 1)} (hx : AllL (Bd D e1 m1) (n + 1) x)
    (hl : (2 * m1 + cc (n + 1) * (mr + 1)) + 8 * (2 * e1 + cc (n + 1) * er) + 2 ≤ 1800) (μ : Cells) : G (m + 1) i.norm [nD (n + 1) x, tD (.snoc t r)] μ = some (nD n (normN t r x), μ) := by
  obtain ⟨k, rfl⟩ : ∃ k, m = k + 1 := ⟨m - 1, by omega⟩
  have q1 : cc (n + 1) * er = 2 * (cc n * er) + er := by show (2 * cc n + 1) * er = _; rw [Nat.add_mul, Nat.one_mul, Nat.mul_assoc]
  have q2 : cc (n + 1) * (mr + 1) = 2 * (cc n * (mr + 1)) + (mr + 1) := by show (2 * cc n + 1) * (mr + 1) = _; rw [Nat.add_mul, Nat.one_mul, Nat.mul_assoc]
  rw [q1, q2] at hl
  have fq : ∀ {e m : Nat} {z : Nm n}, AllL (Bd D e m) n z → m + 8 * e + 1 ≤ 1800 → AllL (Fq 1800) n z := fun h l => AllL.imp (fun _ g => (g.fq hD h0).mono l) n h
  have b11 := mulN_bd h0 t ht.1 hx.1 hx.1
  have b22 := mulN_bd h0 t ht.1 hx.2 hx.2
  have b22r := mulN_bd h0 t ht.1 b22 ht.2
  have c11 := mul_c T h0 hD n (by omega) t ht.1 k (by omega) hx.1 hx.1 (by omega) μ
  have c22 := mul_c T h0 hD n (by omega) t ht.1 k (by omega) hx.2 hx.2 (by omega) μ
  have c22r := mul_c T h0 hD n (by omega) t ht.1 k (by omega) b22 ht.2 (by omega) μ
  have s := sub_c T n (by omega) t k (by omega) (fq b11 (by omega)) (fq b22r (by omega)) μ
  have sl := sl_tw t r
  have ix : atI (twL (.snoc t r)) (-1) = some (nD n r) := ix_tw μ t r
  rw [T.norm]
  refine run_rt rfl (Nat.le_of_ble_eq_true rfl) ?_
  show execs (G (k + 1)) W _ (pl [some (.tup [nD n x.1, nD n x.2]), some (tD (.snoc t r)), none]) μ = some (Res.rt (nD n (normN t r x)) μ)
  refine seq_nx (ρ1 := pl [some (.tup [nD n x.1, nD n x.2]), some (tD (.snoc t r)), some (tD t)]) (μ1 := μ) ?_ (seq_rt ?_)
  · walk_at "go"
    simp [sl, andThen_some', wthD_some', pl_set]
  · walk_at "go"
    simp [ix, c11, c22, c22r, s, andThen_some', wthD_some', normN]
theorem sign_c {D er mr : Nat} (h0 : 0 < D) (hD : D < 2 ^ 8) : (n : Nat) → (hn : n ≤ 50) → (t : Tw n) → (ht : TwAll (Bd D er mr) t) → (m : Nat) → n + 1 ≤ m → {e1 m1 : Nat} → {x : Nm n} → AllL (Bd D e1 m1) n x →
    SL er mr n e1 m1 → (μ : Cells) → G (m + 1) i.sign [nD n x, tD t] μ = some (.int (signN t x), μ)
  | 0, hn, .nil, ht, m, _, e1, m1, x, hx, hl, μ => by
    rw [T.sign]
    have e := tw_nil (.nil) (by decide)
    refine run_rt rfl (Nat.le_of_ble_eq_true rfl) ?_
    show execs (G m) W _ (pl [some (nD 0 x), some (tD .nil), none, none]) μ = _
    refine seq_rt (ifs_t (cmp_of (x := tD .nil) (y := .tup []) rfl rfl e) (seq_rt (ret_of (lk_pl _ _) ?_)))
    have p := T.sgn m (x : Int × Int) μ
    unfold ev
    rw [lks_pl]
    exact p
  | n + 1, hn, .snoc t r, ht, m, hm, e1, m1, x, hx, hl, μ => by
    obtain ⟨k, rfl⟩ : ∃ k, m = k + 1 := ⟨m - 1, by omega⟩
    have e := tw_nil (.snoc t r) (by omega)
    have nb := normN_bd h0 ht.1 ht.2 hx
    have sl1 : SL er mr n e1 m1 := hl.2.mono (by omega) (by omega)
    have a1 := sign_c h0 hD n (by omega) t ht.1 k (by omega) hx.1 sl1 μ
    have a2 := sign_c h0 hD n (by omega) t ht.1 k (by omega) hx.2 sl1 μ
    have a3 := sign_c h0 hD n (by omega) t ht.1 k (by omega) nb hl.2 μ
    have nc := norm_c T h0 hD (n := n) (by omega) t r ht (m := k) (by omega) hx hl.1 μ
    have z1 := signN_abs t x.1
    have z3 := signN_abs t (normN t r x)
    have sl := sl_tw t r
    rw [T.sign]
    refine run_rt rfl (Nat.le_of_ble_eq_true rfl) ?_
    show execs (G (k + 1)) W _ (pl [some (.tup [nD n x.1, nD n x.2]), some (tD (.snoc t r)), none, none]) μ = some (Res.rt (.int (OF.sg2 (signN t x.1) (signN t x.2) (signN t (normN t r x)))) μ)
    have nc' : G (k + 1) i.norm [.tup [nD n x.1, nD n x.2], tD (.snoc t r)] μ = some (nD n (normN t r x), μ) := nc
    generalize signN t x.1 = u at *
    generalize signN t x.2 = v at *
    generalize signN t (normN t r x) = w at *
    refine seq_nx (ifs_f (cmp_of (x := tD (.snoc t r)) (y := .tup []) rfl rfl e) rfl) (seq_nx (ρ1 := pl [some (.tup [nD n x.1, nD n x.2]), some (tD (.snoc t r)), some (.int u), some (.int v)]) (μ1 := μ) ?_ ?_)
    · walk_at "go"
      simp [sl, a1, a2, andThen_some', wthD_some', pl_set]
    · unfold OF.sg2
      by_cases y1 : v = 0 ∨ u = v
      · rw [if_pos y1]
        refine seq_rt (ifs_t (μ1 := μ) ?_ (seq_rt ?_))
        · walk_at "go"
          rcases y1 with y1 | y1
          · simp [y1]
          · by_cases y2 : v = 0 <;> simp [y1, y2, onBl_bl]
        · walk_at "go"
      · rw [if_neg y1]
        rw [not_or] at y1
        refine seq_nx (ifs_f (μ1 := μ) ?_ rfl) ?_
        · walk_at "go"
          simp [y1.1, y1.2, onBl_bl]
        · by_cases y2 : u = 0
          · rw [if_pos y2]
            refine seq_rt (ifs_t (μ1 := μ) ?_ (seq_rt ?_))
            · walk_at "go"
              exact y2
            · walk_at "go"
          · rw [if_neg y2]
            refine seq_nx (ifs_f (μ1 := μ) ?_ rfl) (seq_rt ?_)
            · walk_at "go"
              exact y2
            · have om := op_mul (j := 1) (k := 1) (a := u) (b := w) (by unfold Sm; omega) (by unfold Sm; omega) (by decide)
              walk_at "go"
              simp [sl, nc', a3, om, andThen_some', wthD_some']
/-- compare two numbers of a tower -/
theorem cmp_c {D er mr : Nat} (h0 : 0 < D) (hD : D < 2 ^ 8) {n : Nat} (hn : n ≤ 50) (t : Tw n) (ht : TwAll (Bd D er mr) t) {m : Nat} (hm : n + 2 ≤ m) {e1 m1 : Nat} {x y : Nm n} (hx : AllL (Bd D e1 m1) n x) (hy : AllL (Bd D e1 m1) n y) (h8 : m1 + 8 * e1 + 1 ≤ 1800)
    (hl : SL er mr n e1 (m1 + 1)) (μ : Cells) : G (m + 1) i.cmp [nD n x, nD n y, tD t] μ = some (.int (signN t (subN n x y)), μ) := by
  obtain ⟨k, rfl⟩ : ∃ k, m = k + 1 := ⟨m - 1, by omega⟩
  have fq : ∀ {z : Nm n}, AllL (Bd D e1 m1) n z → AllL (Fq 1800) n z := fun h => AllL.imp (fun _ g => (g.fq hD h0).mono h8) n h
  have s := sub_c T n hn t k (by omega) (fq hx) (fq hy) μ
  have g := sign_c T h0 hD n hn t ht k (by omega) (subN_bd h0 hx hy) hl μ
  rw [T.cmp]
  refine run_rt rfl (Nat.le_of_ble_eq_true rfl) ?_
  show execs (G (k + 1)) W _ (pl [some (nD n x), some (nD n y), some (tD t)]) μ = _
  refine seq_rt ?_
  walk_at "go"
  simp [s, g, andThen_some', wthD_some']
end
end FM

set_option Elab.async false
set_option linter.all false
set_option maxRecDepth 100000
set_option maxHeartbeats 4000000
/-! N6: noughts, lifting, whole fractions of towers. -/
namespace FM
open PySem (Str sizeLine)
open L2 (atI ixN Key)
open PySem.Spec PyProof.Rows
local macro_rules | `(tactic| walk_at "go") => `(tactic| simp [FM.execs, FM.exec, FM.ev, FM.evs, FM.evo, FM.evc, FM.evi, FM.Sl.d, FM.isiD, FM.cmpD, FM.negD, FM.bindT, FM.andThen_some', FM.onBl_bl, FM.wthD_some', FM.eqD_int, FM.ix_tup, FM.ix_lst, FM.atI_0, FM.atI_1, FM.atI_2, FM.op_add, FM.op_sub, FM.op_subBl, FM.biD_abs, FM.szle, FM.pl_get, FM.pl_set, FM.isOw_pl, FM.noOw_pl, FM.lk_pl, FM.lks_pl, FM.itlk_pl, FM.setAll_pl, FM.setAllD])
def zeroN : (n : Nat) → Nm n
  | 0 => ((0, 1) : Int × Int)
  | n + 1 => (zeroN n, zeroN n)
def liftN {n : Nat} (x : Nm n) : (d : Nat) → Nm (n + d)
  | 0 => x
  | d + 1 => (liftN x d, zeroN (n + d))
def liftD (n : Nat) (x : D) : Nat → D
  | 0 => x
  | d + 1 => .tup [liftD n x d, nD (n + d) (zeroN (n + d))]
theorem liftD_eq {n : Nat} (x : Nm n) : ∀ d, liftD n (nD n x) d = nD (n + d) (liftN x d)
  | 0 => rfl
  | d + 1 => by
    show D.tup [liftD n (nD n x) d, nD (n + d) (zeroN (n + d))] = _
    rw [liftD_eq x d]
    rfl
theorem liftZ : ∀ d, liftD 0 (fD (0, 1)) d = nD d (zeroN d)
  | 0 => rfl
  | d + 1 => by
    show D.tup [liftD 0 (fD (0, 1)) d, nD (0 + d) (zeroN (0 + d))] = _
    rw [liftZ d, Nat.zero_add]
    rfl
theorem cut_take {α : Type} (l : List α) (k : Nat) (h : k ≤ l.length) : cutD l none (some (k : Int)) = l.take k := by
  have e : HT.sIx l.length l.length (some (k : Int)) = k := by
    rw [HT.sIx_nat]
    omega
  unfold cutD
  rw [e]
  show (l.drop 0).take (k - 0) = _
  rw [List.drop_zero, Nat.sub_zero]
theorem sl_take (l : List D) (k : Nat) (h : k ≤ l.length) : slD (.tup l) none (some (k : Int)) = some (.tup (l.take k)) := by
  show some (D.tup (cutD l none (some (k : Int)))) = _
  rw [cut_take l k h]
theorem rngOk_nat {n : Nat} (h : n ≤ 16777216) : rngOk (n : Int) = true := by
  unfold rngOk
  rw [Bool.and_eq_true, decide_eq_true_eq, decide_eq_true_eq]
  omega
theorem evi_rng2 {F : Fs} {ρ : Env} {a b : E} {m n : Nat} {μ μ1 μ2 : Cells} (h1 : ev F a ρ μ = some (.int m, μ1)) (h2 : ev F b ρ μ1 = some (.int n, μ2)) (hm : m ≤ 16777216) (hn : n ≤ 16777216) : evi F (.rng2 a b) ρ μ = some (rngD m (n - m), μ2) := by
  have e : ((n : Int) - (m : Int)).toNat = n - m := by omega
  unfold evi
  rw [h1, andThen_some', h2, andThen_some']
  simp only [rngOk_nat hm, rngOk_nat hn, Bool.and_self, if_true, e]
structure Ids2 where
  nought : Nat
  lifted : Nat
  number : Nat
  fracof : Nat
  exact : Nat
  wroot : Nat
structure TF2 (G : Nat → Fs) (i : Ids) (j : Ids2) : Prop where
  t : TF G i
  nought : ∀ m ds μ, G (m + 1) j.nought ds μ = runFn (G m) W ⟨1, 1, B_nought j.lifted⟩ ds μ
  lifted : ∀ m ds μ, G (m + 1) j.lifted ds μ = runFn (G m) W ⟨3, 4, B_lifted j.nought⟩ ds μ
  number : ∀ m ds μ, G (m + 1) j.number ds μ = runFn (G m) W ⟨2, 2, B_number j.lifted⟩ ds μ
  fracof : ∀ m ds μ, G (m + 1) j.fracof ds μ = runFn (G m) W ⟨2, 3, B_fraction_of i.isn⟩ ds μ
  exact : ∀ (m : Nat) (x : Int × Int) (μ : Cells), Fq 1800 x → if x.1 < 0 then G m j.exact [fD x] μ = some (.non, μ) else ∃ r s, IsRt x.1 r ∧ IsRt x.2 s ∧ G m j.exact [fD x] μ = some (if r * r = x.1 ∧ s * s = x.2 then fD (r, s) else .non, μ)
  wroot : ∀ m ds μ, G (m + 1) j.wroot ds μ = runFn (G m) W ⟨2, 5, B_with_root j.fracof j.exact j.number i.cmp j.lifted j.nought⟩ ds μ
theorem rng_drop {lo : Int} {c j : Nat} {x : D} {ys : List D} (h : x :: ys = (rngD lo c).drop j) : j < c ∧ x = .int (lo + j) ∧ ys = (rngD lo c).drop (j + 1) := by
  have hj : j < c := by
    rcases Nat.lt_or_ge j c with z | z
    · exact z
    · rw [List.drop_eq_nil_of_le (by rw [rng_len]; exact z)] at h
      cases h
  have e := List.drop_eq_getElem_cons (l := rngD lo c) (i := j) (by rw [rng_len]; exact hj)
  rw [e] at h
  injection h with h1 h2
  refine ⟨hj, ?_, h2⟩
  rw [h1]
  unfold rngD
  simp
section
variable {G : Nat → Fs} {i : Ids} {j : Ids2} (T : TF2 G i j)
include T
theorem lift_of {m n c : Nat} (d : D) (l1 l2 : List D) (h1 : l1.length = n) (h2 : l2.length = n + c) (hs : n + c ≤ 1000) (μ : Cells) (hn : ∀ (k : Nat), n ≤ k → k < n + c → ∀ l : List D, l.length = k → G m j.nought [.tup l] μ = some (nD k (zeroN k), μ)) :
    G (m + 1) j.lifted [d, .tup l1, .tup l2] μ = some (liftD n d c, μ) := by
  rw [T.lifted]
  obtain ⟨ρ', μ', e1, e2⟩ := forF_inv (fun ys ρ μ' => μ' = μ ∧ ∃ (q : Nat) (o : Option D), q ≤ c ∧ ys = (rngD n c).drop q ∧ ρ = pl [some (liftD n d q), some (.tup l1), some (.tup l2), o]) (tg := .nm 3) (b := fun ρ' μ' => execs (G m) W (.cons (.asg 0 (.tup (.cons (.var 0) (.cons (.call j.nought (.cons (.sl (.var 2) .none (.some (.var 3))) .nil)) .nil)))) .nil) ρ' μ') (fun x ys ρ μ1 h => by
    obtain ⟨rfl, q, o, hq, hy, rfl⟩ := h
    obtain ⟨q1, rfl, rfl⟩ := rng_drop hy
    refine ⟨_, _, _, rfl, ?_, rfl, q + 1, some (.int (n + q)), by omega, rfl, rfl⟩
    have s := sl_take l2 (n + q) (by omega)
    have c1 := hn (n + q) (by omega) (by omega) (l2.take (n + q)) (by rw [List.length_take]; omega)
    rw [Int.natCast_add] at s
    show execs (G m) W _ (pl [some (liftD n d q), some (.tup l1), some (.tup l2), some (.int (n + q))]) μ1 = _
    walk_at "go"
    simp [s, c1, andThen_some', wthD_some', szle, pl_set]
    rfl) (rngD n c) (pl [some d, some (.tup l1), some (.tup l2), none]) μ ⟨rfl, 0, none, Nat.zero_le _, rfl, rfl⟩
  obtain ⟨rfl, q, o, hq, hy, rfl⟩ := e2
  have eq : q = c := by
    have := congrArg List.length hy
    rw [List.length_drop, rng_len] at this
    simp at this
    omega
  subst eq
  refine run_rt rfl (Nat.le_of_ble_eq_true rfl) (seq_nx (for_of (xs := rngD n q) (μ1 := μ') ?_ rfl e1) (seq_rt ?_))
  · have z := evi_rng2 (F := G m) (ρ := pl [some d, some (.tup l1), some (.tup l2), none]) (a := .bi .len (.cons (.var 1) .nil)) (b := .bi .len (.cons (.var 2) .nil)) (m := n) (n := n + q) (μ := μ') (μ1 := μ') (μ2 := μ') (by
      walk_at "go"
      simp [len_tup, wthD_some', h1]) (by
      walk_at "go"
      simp [len_tup, wthD_some', h2]) (by omega) (by omega)
    rw [Nat.add_sub_cancel_left] at z
    exact z
  · walk_at "go"
theorem nought_c : ∀ (n : Nat), n ≤ 50 → ∀ (m : Nat), 2 * n ≤ m → ∀ (l : List D), l.length = n → ∀ μ : Cells, G (m + 2) j.nought [.tup l] μ = some (nD n (zeroN n), μ) := by
  intro n
  induction n using Nat.strongRecOn with
  | _ n ih =>
    intro hn m hm l hl μ
    rw [T.nought]
    have h := lift_of T (m := m) (n := 0) (c := n) (fD (0, 1)) [] l rfl (by omega) (by omega) μ (fun k _ hk l' hl' => by
      obtain ⟨m', rfl⟩ : ∃ m', m = m' + 2 := ⟨m - 2, by omega⟩
      exact ih k (by omega) (by omega) m' (by omega) l' hl' μ)
    rw [liftZ] at h
    refine run_rt rfl (Nat.le_of_ble_eq_true rfl) (seq_rt ?_)
    show exec (G (m + 1)) W _ (pl [some (.tup l)]) μ = _
    walk_at "go"
    simp [h, andThen_some', szle]
theorem lifted_c {n c : Nat} (hn : n + c ≤ 50) {m : Nat} (hm : 2 * (n + c) + 2 ≤ m) (d : D) (l1 l2 : List D) (h1 : l1.length = n) (h2 : l2.length = n + c) (μ : Cells) : G (m + 1) j.lifted [d, .tup l1, .tup l2] μ = some (liftD n d c, μ) :=
  lift_of T d l1 l2 h1 h2 (by omega) μ fun k _ hk l hl => by
    obtain ⟨m', rfl⟩ : ∃ m', m = m' + 2 := ⟨m - 2, by omega⟩
    exact nought_c T k (by omega) m' (by omega) l hl μ
theorem number_c {n : Nat} (hn : n ≤ 50) {m : Nat} (hm : 2 * n + 3 ≤ m) (d : D) (l : List D) (hl : l.length = n) (μ : Cells) : G (m + 1) j.number [d, .tup l] μ = some (liftD 0 d n, μ) := by
  obtain ⟨k, rfl⟩ : ∃ k, m = k + 1 := ⟨m - 1, by omega⟩
  have h := lifted_c T (n := 0) (c := n) (by omega) (m := k) (by omega) d [] l rfl (by omega) μ
  rw [T.number]
  refine run_rt rfl (Nat.le_of_ble_eq_true rfl) (seq_rt ?_)
  show exec (G (k + 1)) W _ (pl [some d, some (.tup l)]) μ = _
  walk_at "go"
  simp [h, andThen_some', szle]
end
end FM

set_option Elab.async false
set_option linter.all false
set_option maxRecDepth 100000
set_option maxHeartbeats 4000000
/-! N7: fractions within towers, new roots. -/
namespace FM
open PySem (Str sizeLine)
open L2 (atI ixN Key)
open PySem.Spec PyProof.Rows
open OF (sgn sgn_eq0 Hom rat rat_mul)
local macro_rules | `(tactic| walk_at "go") => `(tactic| simp [FM.execs, FM.exec, FM.ev, FM.evs, FM.evo, FM.evc, FM.evi, FM.Sl.d, FM.isiD, FM.cmpD, FM.negD, FM.bindT, FM.andThen_some', FM.onBl_bl, FM.wthD_some', FM.eqD_int, FM.ix_tup, FM.ix_lst, FM.atI_0, FM.atI_1, FM.atI_2, FM.op_add, FM.op_sub, FM.op_subBl, FM.biD_abs, FM.szle, FM.pl_get, FM.pl_set, FM.isOw_pl, FM.noOw_pl, FM.lk_pl, FM.lks_pl, FM.itlk_pl, FM.setAll_pl, FM.setAllD])
def fracN : (n : Nat) → Nm n → Option (Int × Int)
  | 0, x => some x
  | n + 1, x => if isN n x.2 then fracN n x.1 else none
def frR (o : Option (Int × Int)) : D := match o with
  | some q => fD q
  | none => .non
theorem rngS_down (n : Nat) : rngS ((n + 1 : Nat) : Int) (-1) (n + 1) = .int ((n : Int) + 1) :: rngS (n : Int) (-1) n := by
  unfold rngS
  rw [List.range_succ_eq_map, List.map_cons, List.map_map]
  have e1 : ((n + 1 : Nat) : Int) + ((0 : Nat) : Int) * (-1) = (n : Int) + 1 := by omega
  rw [e1]
  congr 1
  refine List.map_congr_left fun k _ => ?_
  have e2 : ((n + 1 : Nat) : Int) + ((k + 1 : Nat) : Int) * (-1) = (n : Int) + (k : Int) * (-1) := by omega
  exact congrArg D.int e2
theorem rgOk_down {n : Nat} (h : n ≤ 16777216) : rgOk (n : Int) 0 (-1) = true ∧ PySem.Builtin.Range.rangeSize (n : Int) 0 (-1) = (n : Int) := by
  have e := PySem.W.rangeSize_downNat (n : Int) 0
  have e2 : (((n : Int) - 0).toNat : Int) = (n : Int) := by omega
  rw [e2] at e
  refine ⟨?_, e⟩
  have s := PySem.W.small_down (a := (n : Int)) (b := 0) (by omega) (by omega) (by decide) (by decide)
  unfold rgOk
  rw [s, e, Bool.and_true, Bool.and_eq_true, Bool.and_eq_true, decide_eq_true_eq, decide_eq_true_eq, decide_eq_true_eq]
  exact ⟨⟨by decide, by decide⟩, by omega⟩
def bFr (isn : Nat) : Ss := (.cons (.ifs (.not (.call isn (.cons (.ix (.var 0) (.int 1)) (.cons (.sl (.var 1) .none (.some (.op .Sub (.var 2) (.int 1)))) .nil)))) (.cons (.ret .non) .nil) .nil) (.cons (.asg 0 (.ix (.var 0) (.int 0))) .nil))
theorem fr_t {F : Fs} {isn : Nat} {a b : D} {l lo : List D} {n : Int} {μ : Cells} (sl : slD (.tup l) none (some (n + 1 - 1)) = some (.tup lo)) (ic : F isn [b, .tup lo] μ = some (.bl true, μ)) : execs F W (bFr isn) (pl [some (.tup [a, b]), some (.tup l), some (.int (n + 1))]) μ = some (.nx (pl [some a, some (.tup l), some (.int (n + 1))]) μ) := by
  refine seq_nx (ifs_f (μ1 := μ) ?_ rfl) (seq_nx (ρ1 := pl [some a, some (.tup l), some (.int (n + 1))]) (μ1 := μ) ?_ rfl)
  · walk_at "go"
    rw [Int.add_sub_cancel] at sl
    simp [sl, ic, andThen_some', wthD_some', onBl_bl]
  · walk_at "go"
theorem fr_f {F : Fs} {isn : Nat} {a b : D} {l lo : List D} {n : Int} {μ : Cells} (sl : slD (.tup l) none (some (n + 1 - 1)) = some (.tup lo)) (ic : F isn [b, .tup lo] μ = some (.bl false, μ)) : execs F W (bFr isn) (pl [some (.tup [a, b]), some (.tup l), some (.int (n + 1))]) μ = some (.rt .non μ) := by
  refine seq_rt (ifs_t (μ1 := μ) ?_ (seq_rt ?_))
  · walk_at "go"
    rw [Int.add_sub_cancel] at sl
    simp [sl, ic, andThen_some', wthD_some', onBl_bl]
  · walk_at "go"
theorem evi_rng3 {F : Fs} {ρ : Env} {a b c : E} {n : Nat} {μ : Cells} (h1 : ev F a ρ μ = some (.int n, μ)) (h2 : ev F b ρ μ = some (.int 0, μ)) (h3 : ev F c ρ μ = some (.int (-1), μ)) (hn : n ≤ 16777216) : evi F (.rng3 a b c) ρ μ = some (rngS n (-1) n, μ) := by
  have rg := rgOk_down hn
  unfold evi
  rw [h1, andThen_some', h2, andThen_some', h3, andThen_some']
  simp only [rg.1, if_true, rg.2, Int.toNat_natCast]
section
variable {G : Nat → Fs} {i : Ids} {j : Ids2} (T : TF2 G i j)
include T
theorem frac_loop (μ : Cells) : (n : Nat) → (hn : n ≤ 50) → (t : Tw n) → (m : Nat) → n ≤ m → (s : List D) → (x : Nm n) → (o : Option D) →
    (∃ q o', fracN n x = some q ∧ forF (.nm 2) (fun ρ' μ' => execs (G (m + 1)) W (bFr i.isn) ρ' μ') (rngS (n : Int) (-1) n) (pl [some (nD n x), some (.tup (twL t ++ s)), o]) μ = some (.nx (pl [some (fD q), some (.tup (twL t ++ s)), o']) μ)) ∨
    (fracN n x = none ∧ forF (.nm 2) (fun ρ' μ' => execs (G (m + 1)) W (bFr i.isn) ρ' μ') (rngS (n : Int) (-1) n) (pl [some (nD n x), some (.tup (twL t ++ s)), o]) μ = some (.rt .non μ))
  | 0, hn, .nil, m, hm, s, x, o => .inl ⟨x, o, rfl, rfl⟩
  | n + 1, hn, .snoc t r, m, hm, s, x, o => by
    have e0 : twL (.snoc t r) ++ s = twL t ++ (nD n r :: s) := by
      show twL t ++ [nD n r] ++ s = _
      rw [List.append_assoc]
      rfl
    have sl : slD (.tup (twL t ++ (nD n r :: s))) none (some ((n : Int) + 1 - 1)) = some (tD t) := by
      rw [show (n : Int) + 1 - 1 = (n : Int) by omega, sl_take _ n (by rw [List.length_append, twL_len]; omega), List.take_append_of_le_length (by rw [twL_len]; exact Nat.le_refl _), List.take_of_length_le (by rw [twL_len]; exact Nat.le_refl _)]
    have ic := isn_c T.t n (by omega) t m (by omega) x.2 μ
    rw [rngS_down, e0]
    by_cases z : isN n x.2 = true
    · have b : execs (G (m + 1)) W (bFr i.isn) (pl [some (.tup [nD n x.1, nD n x.2]), some (.tup (twL t ++ (nD n r :: s))), some (.int ((n : Int) + 1))]) μ = some (.nx (pl [some (nD n x.1), some (.tup (twL t ++ (nD n r :: s))), some (.int ((n : Int) + 1))]) μ) := by
        rw [z] at ic
        exact fr_t sl ic
      have fe : fracN (n + 1) x = fracN n x.1 := if_pos z
      have step : forF (.nm 2) (fun ρ' μ' => execs (G (m + 1)) W (bFr i.isn) ρ' μ') (.int ((n : Int) + 1) :: rngS (n : Int) (-1) n) (pl [some (nD (n + 1) x), some (.tup (twL t ++ (nD n r :: s))), o]) μ = forF (.nm 2) (fun ρ' μ' => execs (G (m + 1)) W (bFr i.isn) ρ' μ') (rngS (n : Int) (-1) n) (pl [some (nD n x.1), some (.tup (twL t ++ (nD n r :: s))), some (.int ((n : Int) + 1))]) μ := by
        conv => lhs; unfold forF
        show (match execs (G (m + 1)) W (bFr i.isn) (pl [some (.tup [nD n x.1, nD n x.2]), some (.tup (twL t ++ (nD n r :: s))), some (.int ((n : Int) + 1))]) μ with | none => none | some (.nx ρ2 μ2) => _ | some (.ct ρ2 μ2) => _ | some (.bk ρ2 μ2) => _ | some (.rt d μ2) => _) = _
        rw [b]
      rw [step, fe]
      exact frac_loop μ n (by omega) t m (by omega) (nD n r :: s) x.1 _
    · refine .inr ⟨if_neg z, ?_⟩
      have z' : isN n x.2 = false := by simpa using z
      rw [z'] at ic
      have b : execs (G (m + 1)) W (bFr i.isn) (pl [some (.tup [nD n x.1, nD n x.2]), some (.tup (twL t ++ (nD n r :: s))), some (.int ((n : Int) + 1))]) μ = some (.rt .non μ) := by
        exact fr_f sl ic
      unfold forF
      show (match execs (G (m + 1)) W (bFr i.isn) (pl [some (.tup [nD n x.1, nD n x.2]), some (.tup (twL t ++ (nD n r :: s))), some (.int ((n : Int) + 1))]) μ with | none => none | some (.nx ρ2 μ2) => _ | some (.ct ρ2 μ2) => _ | some (.bk ρ2 μ2) => _ | some (.rt d μ2) => _) = _
      rw [b]
theorem fracof_c {n : Nat} (hn : n ≤ 50) (t : Tw n) {m : Nat} (hm : n ≤ m) (x : Nm n) (μ : Cells) : G (m + 2) j.fracof [nD n x, tD t] μ = some (frR (fracN n x), μ) := by
  rw [T.fracof]
  have it : evi (G (m + 1)) (.rng3 (.bi .len (.cons (.var 1) .nil)) (.int 0) (.neg (.int 1))) (pl [some (nD n x), some (tD t), none]) μ = some (rngS (n : Int) (-1) n, μ) := by
    have a : ev (G (m + 1)) (.bi .len (.cons (.var 1) .nil)) (pl [some (nD n x), some (tD t), none]) μ = some (.int n, μ) := by
      walk_at "go"
      simp [len_tup, twL_len, wthD_some']
    refine evi_rng3 a rfl ?_ (by omega)
    walk_at "go"
  rcases frac_loop T μ n hn t m hm [] x none with ⟨q, o', e1, e2⟩ | ⟨e1, e2⟩
  · rw [List.append_nil] at e2
    rw [e1]
    refine run_rt rfl (Nat.le_of_ble_eq_true rfl) (seq_nx (for_of it rfl e2) (seq_rt ?_))
    walk_at "go"
    rfl
  · rw [List.append_nil] at e2
    rw [e1]
    exact run_rt rfl (Nat.le_of_ble_eq_true rfl) (seq_rt (for_of it rfl e2))
end
end FM

set_option Elab.async false
set_option linter.all false
set_option maxRecDepth 100000
set_option maxHeartbeats 4000000
/-! N8: a new root. -/
namespace FM
open PySem (Str sizeLine)
open L2 (atI ixN Key)
open PySem.Spec PyProof.Rows
open OF (sgn sgn_eq0 Hom rat rat_mul)
local macro_rules | `(tactic| walk_at "go") => `(tactic| simp [FM.execs, FM.exec, FM.ev, FM.evs, FM.evo, FM.evc, FM.evi, FM.Sl.d, FM.isiD, FM.cmpD, FM.negD, FM.bindT, FM.andThen_some', FM.onBl_bl, FM.wthD_some', FM.eqD_int, FM.ix_tup, FM.ix_lst, FM.atI_0, FM.atI_1, FM.atI_2, FM.op_add, FM.op_sub, FM.op_subBl, FM.biD_abs, FM.szle, FM.pl_get, FM.pl_set, FM.isOw_pl, FM.noOw_pl, FM.lk_pl, FM.lks_pl, FM.itlk_pl, FM.setAll_pl, FM.setAllD])
def numN (q : Int × Int) : (n : Nat) → Nm n
  | 0 => q
  | n + 1 => (numN q n, zeroN n)
theorem liftQ (q : Int × Int) : ∀ d, liftD 0 (fD q) d = nD d (numN q d)
  | 0 => rfl
  | d + 1 => by
    show D.tup [liftD 0 (fD q) d, nD (0 + d) (zeroN (0 + d))] = _
    rw [liftQ q d, Nat.zero_add]
    rfl
theorem bd01 (D e m : Nat) : Bd D e m (0, 1) := ⟨by decide, by decide, ⟨_, (Int.one_mul _).symm⟩, by
  show ((0 : Nat) : Int) ≤ _
  have := Int.natCast_nonneg (2 ^ m)
  omega⟩
theorem bd11 (D e m : Nat) : Bd D e m (1, 1) := ⟨by decide, by decide, ⟨_, (Int.one_mul _).symm⟩, by
  show ((1 : Nat) : Int) ≤ _
  have : 0 < 2 ^ m := Nat.pow_pos (by decide)
  omega⟩
theorem zeroN_all {P : Int × Int → Prop} (h : P (0, 1)) : ∀ n, AllL P n (zeroN n)
  | 0 => h
  | n + 1 => ⟨zeroN_all h n, zeroN_all h n⟩
theorem numN_all {P : Int × Int → Prop} (h : P (0, 1)) {q : Int × Int} (g : P q) : ∀ n, AllL P n (numN q n)
  | 0 => g
  | n + 1 => ⟨numN_all h g n, zeroN_all h n⟩
theorem fracN_all {P : Int × Int → Prop} : (n : Nat) → {x : Nm n} → {q : Int × Int} → fracN n x = some q → AllL P n x → P q
  | 0, x, q, h, a => by
    have e : x = q := Option.some.inj h
    exact e ▸ a
  | n + 1, x, q, h, a => by
    by_cases z : isN n x.2 = true
    · have e : fracN (n + 1) x = fracN n x.1 := if_pos z
      rw [e] at h
      exact fracN_all n h a.1
    · have e : fracN (n + 1) x = none := if_neg z
      rw [e] at h
      cases h
section
variable {L : Type} [fL : Lean.Grind.Field L] [LE L] [LT L] [Std.LawfulOrderLT L] [Std.IsLinearOrder L] [Lean.Grind.OrderedRing L] {j : Rat → L} {ρ : Nat → L} (hj : Hom j)
include hj
theorem val_zero : ∀ n, val j ρ n (zeroN n) = 0
  | 0 => by
    have e : rat (0, 1) = 0 := by unfold rat; grind
    exact (congrArg j e).trans hj.zero
  | n + 1 => by
    show val j ρ n (zeroN n) + val j ρ n (zeroN n) * ρ n = 0
    rw [val_zero n]
    grind
theorem val_num (q : Int × Int) : ∀ n, val j ρ n (numN q n) = j (rat q)
  | 0 => rfl
  | n + 1 => by
    show val j ρ n (numN q n) + val j ρ n (zeroN n) * ρ n = _
    rw [val_num q n, val_zero hj n]
    grind
theorem val_frac : (n : Nat) → {x : Nm n} → {q : Int × Int} → fracN n x = some q → val j ρ n x = j (rat q)
  | 0, x, q, h => by
    have e : x = q := Option.some.inj h
    subst e
    rfl
  | n + 1, x, q, h => by
    by_cases z : isN n x.2 = true
    · have e : fracN (n + 1) x = fracN n x.1 := if_pos z
      rw [e] at h
      show val j ρ n x.1 + val j ρ n x.2 * ρ n = _
      rw [val_frac n h, val_isN hj n z]
      grind
    · have e : fracN (n + 1) x = none := if_neg z
      rw [e] at h
      cases h
end
theorem rat1 : rat (1, 1) = 1 := by unfold rat; grind
/-- the k-th root of a tower, lifted up to it -/
theorem tw_at : {n : Nat} → (t : Tw n) → {k : Nat} → k < n → ∃ (l1 rest : List D) (rk : D) (z w : Nm n), twL t = l1 ++ rk :: rest ∧ l1.length = k ∧ liftD k rk (n - k) = nD n z ∧ liftD (k + 1) (.tup [nD k (zeroN k), liftD 0 (fD (1, 1)) k]) (n - k - 1) = nD n w ∧
    (∀ D er mr, TwAll (Bd D er mr) t → AllL (Bd D er mr) n z) ∧ (∀ D er mr, AllL (Bd D er mr) n w) ∧
    ∀ (L : Type) [Lean.Grind.Field L] [LE L] [LT L] [Std.LawfulOrderLT L] [Std.IsLinearOrder L] [Lean.Grind.OrderedRing L] (j : Rat → L) (ρ : Nat → L), Hom j → TwV j ρ t → val j ρ n z = ρ k * ρ k ∧ val j ρ n w = ρ k ∧ 0 < ρ k
  | _, .nil, k, h => by omega
  | n + 1, .snoc t r, k, h => by
    by_cases e : k = n
    · subst e
      refine ⟨twL t, [], nD k r, (r, zeroN k), (zeroN k, numN (1, 1) k), rfl, twL_len t, ?_, ?_, fun D er mr ht => ⟨ht.2, zeroN_all (bd01 _ _ _) _⟩, fun D er mr => ⟨zeroN_all (bd01 _ _ _) _, numN_all (bd01 _ _ _) (bd11 _ _ _) _⟩, ?_⟩
      · rw [show k + 1 - k = 1 by omega]
        rfl
      · rw [show k + 1 - k - 1 = 0 by omega, liftQ]
        rfl
      · intro L _ _ _ _ _ _ j ρ hj hv
        obtain ⟨h1, h2, h3⟩ := hv
        refine ⟨?_, ?_, h2⟩
        · show val j ρ k r + val j ρ k (zeroN k) * ρ k = _
          rw [val_zero hj k, ← h3]
          grind
        · show val j ρ k (zeroN k) + val j ρ k (numN (1, 1) k) * ρ k = _
          rw [val_zero hj k, val_num hj, rat1, hj.one]
          grind
    · obtain ⟨l1, rest, rk, z, w, h1, h2, h3, h4, h5, h6, h7⟩ := tw_at t (k := k) (by omega)
      have ez : ∀ m : Nat, m = n → nD m (zeroN m) = nD n (zeroN n) := fun m e => by subst e; rfl
      refine ⟨l1, rest ++ [nD n r], rk, (z, zeroN n), (w, zeroN n), ?_, h2, ?_, ?_, fun D er mr ht => ⟨h5 D er mr ht.1, zeroN_all (bd01 _ _ _) _⟩, fun D er mr => ⟨h6 D er mr, zeroN_all (bd01 _ _ _) _⟩, ?_⟩
      · show twL t ++ [nD n r] = _
        rw [h1, List.append_assoc]
        rfl
      · rw [show n + 1 - k = (n - k) + 1 by omega]
        show D.tup [liftD k rk (n - k), nD (k + (n - k)) (zeroN (k + (n - k)))] = _
        rw [h3, ez _ (by omega)]
        rfl
      · rw [show n + 1 - k - 1 = (n - k - 1) + 1 by omega]
        show D.tup [liftD (k + 1) _ (n - k - 1), nD (k + 1 + (n - k - 1)) (zeroN (k + 1 + (n - k - 1)))] = _
        rw [h4, ez _ (by omega)]
        rfl
      · intro L _ _ _ _ _ _ j ρ hj hv
        obtain ⟨g1, g2, g3⟩ := h7 L j ρ hj hv.1
        refine ⟨?_, ?_, g3⟩
        · show val j ρ n z + val j ρ n (zeroN n) * ρ n = _
          rw [val_zero hj n, g1]
          grind
        · show val j ρ n w + val j ρ n (zeroN n) * ρ n = _
          rw [val_zero hj n, g2]
          grind
/-- what a new root is -/
def RootIs {n : Nat} (t : Tw n) (x z : Nm n) : Prop := ∀ (L : Type) [Lean.Grind.Field L] [LE L] [LT L] [Std.LawfulOrderLT L] [Std.IsLinearOrder L] [Lean.Grind.OrderedRing L] (j : Rat → L) (ρ : Nat → L), Hom j → TwV j ρ t → 0 ≤ val j ρ n z ∧ val j ρ n z * val j ρ n z = val j ρ n x
theorem bd_root {D e m : Nat} {q : Int × Int} (h : Bd D e m q) {r s : Int} (hr : IsRt q.1 r) (hs : IsRt q.2 s) (e1 : r * r = q.1) (e2 : s * s = q.2) : Bd D e m (r, s) := by
  obtain ⟨h1, h2, h3, h4⟩ := h
  have s0 : 0 < s := by
    rcases Int.lt_or_le 0 s with z | z
    · exact z
    · have : s = 0 := by have := hs.1; omega
      subst this
      rw [← e2] at h1
      omega
  refine ⟨s0, ?_, Int.dvd_trans ⟨s, by rw [← e2]⟩ h3, ?_⟩
  · show Int.gcd r s = 1
    have d1 : ((Int.gcd r s : Nat) : Int) ∣ q.1 := Int.dvd_trans (Int.gcd_dvd_left r s) ⟨r, e1.symm⟩
    have d2 : ((Int.gcd r s : Nat) : Int) ∣ q.2 := Int.dvd_trans (Int.gcd_dvd_right r s) ⟨s, e2.symm⟩
    have := Int.dvd_gcd d1 d2
    rw [h2] at this
    exact Nat.dvd_one.mp this
  · show ((r.natAbs : Nat) : Int) ≤ ((2 ^ m : Nat) : Int) * s
    have r0 := hr.1
    rw [← e1, ← e2, show (((r * r).natAbs : Nat) : Int) = r * r by have := sqn r; omega] at h4
    rw [show ((r.natAbs : Nat) : Int) = r by omega]
    rcases Int.lt_or_le (((2 ^ m : Nat) : Int) * s) r with z | z
    · have p : 0 < ((2 ^ m : Nat) : Int) := by
        have : 0 < 2 ^ m := Nat.pow_pos (by decide)
        omega
      have ps := Int.mul_pos p s0
      have a1 : (((2 ^ m : Nat) : Int) * s) * (((2 ^ m : Nat) : Int) * s) < r * r := by
        have b1 := Int.mul_lt_mul_of_pos_left z ps
        have b2 := Int.mul_lt_mul_of_pos_right z (show 0 < r by omega)
        omega
      have a2 : ((2 ^ m : Nat) : Int) * (s * s) ≤ (((2 ^ m : Nat) : Int) * s) * (((2 ^ m : Nat) : Int) * s) := by
        have b1 : 1 * (((2 ^ m : Nat) : Int) * (s * s)) ≤ ((2 ^ m : Nat) : Int) * (((2 ^ m : Nat) : Int) * (s * s)) := Int.mul_le_mul_of_nonneg_right (by omega) (Int.mul_nonneg (by omega) (sqn s))
        have b2 : (((2 ^ m : Nat) : Int) * s) * (((2 ^ m : Nat) : Int) * s) = ((2 ^ m : Nat) : Int) * (((2 ^ m : Nat) : Int) * (s * s)) := by grind
        omega
      omega
    · exact z
theorem twAll_imp {P Q : Int × Int → Prop} (h : ∀ x, P x → Q x) : {n : Nat} → (t : Tw n) → TwAll P t → TwAll Q t
  | _, .nil, _ => trivial
  | n + 1, .snoc t r, g => ⟨twAll_imp h t g.1, AllL.imp h n g.2⟩
theorem isnot_of {F : Fs} {a : E} {ρ : Env} {μ μ1 : Cells} {x : D} (h : ev F a ρ μ = some (x, μ1)) : ev F (.cmp .IsNot a .non) ρ μ = some (.bl (!isNon x), μ1) := cmp_of h rfl rfl
theorem and_tt {F : Fs} {a b : E} {ρ : Env} {μ μ1 μ2 : Cells} {y : Bool} (h : ev F a ρ μ = some (.bl true, μ1)) (g : ev F b ρ μ1 = some (.bl y, μ2)) : ev F (.and a b) ρ μ = some (.bl y, μ2) := by
  unfold ev
  rw [h]
  show onBl (ev F b ρ μ1) _ = _
  rw [g]
  rfl
theorem and_ff {F : Fs} {a b : E} {ρ : Env} {μ μ1 : Cells} (h : ev F a ρ μ = some (.bl false, μ1)) : ev F (.and a b) ρ μ = some (.bl false, μ1) := by
  unfold ev
  rw [h]
  rfl
theorem atI_app {α : Type} (l : List α) (x : α) (r : List α) {k : Nat} (h : l.length = k) : atI (l ++ x :: r) (k : Int) = some x := by
  have := atI_nat (l := l ++ x :: r) (k := k) (by rw [List.length_append, List.length_cons]; omega)
  rw [this]
  subst h
  simp
section
variable {G : Nat → Fs} {i : Ids} {j : Ids2} (T : TF2 G i j)
include T
theorem wroot_c {B er mr : Nat} (h0 : 0 < B) (hD : B < 2 ^ 8) {n : Nat} (hn : n + 1 ≤ 50) (t : Tw n) (ht : TwAll (Bd B er mr) t) (x : Nm n) (hx : AllL (Bd B er mr) n x) (h8 : mr + 8 * er + 1 ≤ 1800) (hl : SL er mr n er (mr + 1)) {m : Nat} (hm : 2 * n + 20 ≤ m) (μ : Cells) :
    (∃ z : Nm n, G (m + 1) j.wroot [nD n x, tD t] μ = some (.tup [tD t, nD n z], μ) ∧ AllL (Bd B er mr) n z ∧ RootIs t x z) ∨ G (m + 1) j.wroot [nD n x, tD t] μ = some (.tup [tD (.snoc t x), nD (n + 1) (zeroN n, numN (1, 1) n)], μ) := by
  rw [T.wroot]
  obtain ⟨k, rfl⟩ : ∃ k, m = k + 2 := ⟨m - 2, by omega⟩
  have f1 := fracof_c T (n := n) (by omega) t (m := k) (by omega) x μ
  have nt : ∀ (d : D), G (k + 2) j.number [d, tD t] μ = some (liftD 0 d n, μ) := fun d => number_c T (by omega) (m := k + 1) (by omega) d (twL t) (twL_len t) μ
  have s0 : exec (G (k + 2)) W (.asg 2 (.call j.fracof (.cons (.var 0) (.cons (.var 1) .nil)))) (pl [some (nD n x), some (tD t), none, none, none]) μ = some (.nx (pl [some (nD n x), some (tD t), some (frR (fracN n x)), none, none]) μ) := by
    refine (asg_pl (d := frR (fracN n x)) (μ1 := μ) ?_).trans rfl
    walk_at "go"
    exact f1
  by_cases hq : ∃ q r s, fracN n x = some q ∧ IsRt q.1 r ∧ IsRt q.2 s ∧ r * r = q.1 ∧ s * s = q.2 ∧ G (k + 2) j.exact [fD q] μ = some (fD (r, s), μ)
  · obtain ⟨q, r, s, e1, e2, e3, e4, e5, e6⟩ := hq
    have hb := bd_root (fracN_all n e1 hx) e2 e3 e4 e5
    refine .inl ⟨numN (r, s) n, ?_, numN_all (bd01 _ _ _) hb n, ?_⟩
    · rw [e1] at s0
      have nn := nt (fD (r, s))
      rw [liftQ] at nn
      refine run_rt rfl (Nat.le_of_ble_eq_true rfl) (seq_nx s0 (seq_rt (ifs_t (μ1 := μ) ?_ (seq_rt ?_))))
      · have c1 : ev (G (k + 2)) (.call j.exact (.cons (.var 2) .nil)) (pl [some (nD n x), some (tD t), some (frR (some q)), none, none]) μ = some (fD (r, s), μ) := by
          walk_at "go"
          exact e6
        exact and_tt (isnot_of (x := fD q) (μ1 := μ) rfl) (isnot_of c1)
      · generalize hz : nD n (numN (r, s) n) = Z at *
        generalize hx' : nD n x = X at *
        walk_at "go"
        show _ = some (Res.rt (D.tup [tD t, Z]) μ)
        simp [frR, e6, nn, andThen_some', szle]
    · intro L _ _ _ _ _ _ j ρ hj hv
      have v1 := val_frac (j := j) (ρ := ρ) hj n e1
      have v2 := val_num (j := j) (ρ := ρ) hj (r, s) n
      have s0' := hb.1
      have q0 : 0 < q.2 := (fracN_all n e1 hx).1
      have rr : rat (r, s) * rat (r, s) = rat q := by
        unfold rat
        have c1 := OF.cast_ne (d := s) (by have : (0 : Int) < s := s0'; omega)
        rw [← e4, ← e5, Rat.intCast_mul, Rat.intCast_mul]
        show (r : Rat) / (s : Rat) * ((r : Rat) / (s : Rat)) = _
        grind
      rw [v1, v2, ← hj.mul, rr]
      refine ⟨?_, rfl⟩
      have r0 : (0 : Rat) ≤ rat (r, s) := by
        have e := OF.rat_den (x := (r, s)) (by have : (0 : Int) < s := s0'; show s ≠ 0; omega)
        have p1 : (0 : Rat) < ((s : Int) : Rat) := by exact_mod_cast s0'
        have p2 : (0 : Rat) ≤ ((r : Int) : Rat) := by exact_mod_cast e2.1
        rcases Std.lt_trichotomy (rat (r, s)) 0 with z | z | z
        · have := OF.mpos (a := -rat (r, s)) (b := ((s : Int) : Rat)) (by grind) p1
          have e' : rat (r, s) * ((s : Int) : Rat) = ((r : Int) : Rat) := e
          grind
        · grind
        · grind
      have := hj.le r0
      rwa [hj.zero] at this
  · have s1 : exec (G (k + 2)) W (.ifs (.and (.cmp .IsNot (.var 2) .non) (.cmp .IsNot (.call j.exact (.cons (.var 2) .nil)) .non)) (.cons (.ret (.tup (.cons (.var 1) (.cons (.call j.number (.cons (.call j.exact (.cons (.var 2) .nil)) (.cons (.var 1) .nil))) .nil)))) .nil) .nil) (pl [some (nD n x), some (tD t), some (frR (fracN n x)), none, none]) μ = some (.nx (pl [some (nD n x), some (tD t), some (frR (fracN n x)), none, none]) μ) := by
      refine ifs_f (μ1 := μ) ?_ rfl
      cases e : fracN n x with
      | none => exact and_ff (isnot_of (x := .non) (μ1 := μ) rfl)
      | some q =>
        have fq : Fq 1800 q := ((fracN_all n e hx).fq hD h0).mono h8
        have c1 : G (k + 2) j.exact [fD q] μ = some (.non, μ) := by
          have z := T.exact (k + 2) q μ fq
          split at z
          · exact z
          · obtain ⟨r, s, z1, z2, z3⟩ := z
            by_cases w : r * r = q.1 ∧ s * s = q.2
            · rw [if_pos w] at z3
              exact absurd ⟨q, r, s, e, z1, z2, w.1, w.2, z3⟩ hq
            · rw [if_neg w] at z3
              exact z3
        have c2 : ev (G (k + 2)) (.call j.exact (.cons (.var 2) .nil)) (pl [some (nD n x), some (tD t), some (frR (some q)), none, none]) μ = some (.non, μ) := by
          walk_at "go"
          exact c1
        exact and_tt (isnot_of (x := fD q) (μ1 := μ) rfl) (isnot_of c2)
    let P := frR (fracN n x)
    let bW : Ss := .cons (.ifs (.cmp .Eq (.call i.cmp (.cons (.var 0) (.cons (.call j.lifted (.cons (.ix (.var 1) (.var 3)) (.cons (.sl (.var 1) .none (.some (.var 3))) (.cons (.var 1) .nil)))) (.cons (.var 1) .nil)))) (.int 0)) (.cons (.ret (.tup (.cons (.var 1) (.cons (.call j.lifted (.cons (.tup (.cons (.call j.nought (.cons (.sl (.var 1) .none (.some (.var 3))) .nil)) (.cons (.call j.number (.cons (.tup (.cons (.int 1) (.cons (.int 1) .nil))) (.cons (.sl (.var 1) .none (.some (.var 3))) .nil))) .nil))) (.cons (.sl (.var 1) .none (.some (.op .Add (.var 3) (.int 1)))) (.cons (.var 1) .nil)))) .nil)))) .nil) .nil) .nil
    have loop : ∀ (ys : List D) (q : Nat) (o : Option D), ys = (rngD 0 n).drop q → (∃ z : Nm n, forF (.nm 3) (fun ρ' μ' => execs (G (k + 2)) W bW ρ' μ') ys (pl [some (nD n x), some (tD t), some P, o, none]) μ = some (.rt (.tup [tD t, nD n z]) μ) ∧ AllL (Bd B er mr) n z ∧ RootIs t x z) ∨
        ∃ o', forF (.nm 3) (fun ρ' μ' => execs (G (k + 2)) W bW ρ' μ') ys (pl [some (nD n x), some (tD t), some P, o, none]) μ = some (.nx (pl [some (nD n x), some (tD t), some P, o', none]) μ) := by
      intro ys
      induction ys with
      | nil => exact fun q o h => .inr ⟨o, rfl⟩
      | cons y ys ih =>
        intro q o h
        obtain ⟨q1, q2, q3⟩ := rng_drop h
        rw [Int.zero_add] at q2
        subst q2 q3
        obtain ⟨l1, rest, rk, z, w, g1, g2, g3, g4, g5, g6, g7⟩ := tw_at t q1
        have tl := twL_len t
        have ix : atI (twL t) (q : Int) = some rk := by rw [g1]; exact atI_app l1 rk rest g2
        have sl : slD (tD t) none (some (q : Int)) = some (.tup l1) := by
          rw [sl_take _ q (by omega), g1, List.take_append_of_le_length (by omega), List.take_of_length_le (by omega)]
        have sl2 : slD (tD t) none (some ((q : Int) + 1)) = some (.tup (l1 ++ [rk])) := by
          have e1 : twL t = (l1 ++ [rk]) ++ rest := by rw [g1]; simp
          have tk : (twL t).take (q + 1) = l1 ++ [rk] := by
            rw [e1, List.take_append_of_le_length (by simp; omega), List.take_of_length_le (by simp; omega)]
          have := sl_take (twL t) (q + 1) (by omega)
          rw [tk] at this
          exact this
        have c1 : G (k + 2) j.lifted [rk, .tup l1, tD t] μ = some (nD n z, μ) := by
          rw [← g3]
          exact lifted_c T (n := q) (c := n - q) (by omega) (m := k + 1) (by omega) rk l1 (twL t) g2 (by omega) μ
        have c2 : G (k + 2) i.cmp [nD n x, nD n z, tD t] μ = some (.int (signN t (subN n x z)), μ) := cmp_c T.t h0 hD (by omega) t ht (m := k + 1) (by omega) hx (g5 B er mr ht) h8 hl μ
        have c3 : G (k + 2) j.nought [.tup l1] μ = some (nD q (zeroN q), μ) := nought_c T q (by omega) k (by omega) l1 g2 μ
        have c4 : G (k + 2) j.number [fD (1, 1), .tup l1] μ = some (liftD 0 (fD (1, 1)) q, μ) := number_c T (by omega) (m := k + 1) (by omega) _ l1 g2 μ
        have c5 : G (k + 2) j.lifted [.tup [nD q (zeroN q), liftD 0 (fD (1, 1)) q], .tup (l1 ++ [rk]), tD t] μ = some (nD n w, μ) := by
          rw [← g4, Nat.sub_sub]
          exact lifted_c T (n := q + 1) (c := n - (q + 1)) (by omega) (m := k + 1) (by omega) _ (l1 ++ [rk]) (twL t) (by simp; omega) (by omega) μ
        have pn : AllL Pd n x := AllL.imp (fun _ g => g.pd) n hx
        have pz : AllL Pd n z := AllL.imp (fun _ g => g.pd) n (g5 B er mr ht)
        have ri : signN t (subN n x z) = 0 → RootIs t x w := fun e0 L _ _ _ _ _ _ jj ρ hj hv => by
          obtain ⟨v1, v2, v3⟩ := g7 L jj ρ hj hv
          have tp : TwAll Pd t := twAll_imp (fun _ g => g.pd) t ht
          have sv := sign_val hj t hv tp (x := subN n x z) (subN_all (fun _ _ => pd_sub) n pn pz)
          rw [e0, val_sub hj n pn pz] at sv
          have := sgn_eq0.mp sv.symm
          refine ⟨by grind, by grind⟩
        generalize hX : nD n x = X at *
        generalize hZ : nD n z = Z at *
        generalize hV : nD n w = V at *
        generalize signN t (subN n x z) = u at *
        generalize nD q (zeroN q) = Y at *
        generalize liftD 0 (fD (1, 1)) q = O at *
        by_cases e0 : u = 0
        · refine .inl ⟨w, ?_, g6 B er mr, ri e0⟩
          rw [hV]
          have b : execs (G (k + 2)) W bW (pl [some X, some (tD t), some P, some (.int q), none]) μ = some (.rt (.tup [tD t, V]) μ) := by
            refine seq_rt (ifs_t (μ1 := μ) ?_ (seq_rt ?_))
            · walk_at "go"
              simp [ix, sl, c1, c2, e0, andThen_some', wthD_some', eqD_int]
            · walk_at "go"
              simp [sl, sl2, c3, c4, c5, andThen_some', wthD_some', szle]
          unfold forF
          show (match execs (G (k + 2)) W bW (pl [some X, some (tD t), some P, some (.int q), none]) μ with | none => none | some (.nx ρ2 μ2) => _ | some (.ct ρ2 μ2) => _ | some (.bk ρ2 μ2) => _ | some (.rt d μ2) => _) = _
          rw [b]
        · have b : execs (G (k + 2)) W bW (pl [some X, some (tD t), some P, some (.int q), none]) μ = some (.nx (pl [some X, some (tD t), some P, some (.int q), none]) μ) := by
            refine seq_nx (ifs_f (μ1 := μ) ?_ rfl) rfl
            walk_at "go"
            simp [ix, sl, c1, c2, e0, andThen_some', wthD_some', eqD_int]
          have st : forF (.nm 3) (fun ρ' μ' => execs (G (k + 2)) W bW ρ' μ') (.int q :: (rngD 0 n).drop (q + 1)) (pl [some X, some (tD t), some P, o, none]) μ = forF (.nm 3) (fun ρ' μ' => execs (G (k + 2)) W bW ρ' μ') ((rngD 0 n).drop (q + 1)) (pl [some X, some (tD t), some P, some (.int q), none]) μ := by
            conv => lhs; unfold forF
            show (match execs (G (k + 2)) W bW (pl [some X, some (tD t), some P, some (.int q), none]) μ with | none => none | some (.nx ρ2 μ2) => _ | some (.ct ρ2 μ2) => _ | some (.bk ρ2 μ2) => _ | some (.rt d μ2) => _) = _
            rw [b]
          rw [st]
          exact ih (q + 1) _ rfl
    have itr : evi (G (k + 2)) (.rng1 (.bi .len (.cons (.var 1) .nil))) (pl [some (nD n x), some (tD t), some P, none, none]) μ = some (rngD 0 n, μ) := by
      refine evi_rng ?_ (by omega)
      walk_at "go"
      simp [len_tup, twL_len, wthD_some']
    rcases loop (rngD 0 n) 0 none rfl with ⟨z, l1, l2, l3⟩ | ⟨o', l1⟩
    · refine .inl ⟨z, ?_, l2, l3⟩
      exact run_rt rfl (Nat.le_of_ble_eq_true rfl) (seq_nx s0 (seq_nx s1 (seq_rt (for_of itr rfl l1))))
    · refine .inr ?_
      have cz : G (k + 2) j.nought [tD t] μ = some (nD n (zeroN n), μ) := nought_c T n (by omega) k (by omega) (twL t) (twL_len t) μ
      have co := nt (fD (1, 1))
      rw [liftQ] at co
      have ap : opD .Add (tD t) (.tup [nD n x]) = some (.tup (twL t ++ [nD n x])) := by
        refine opD_of ?_
        show (if (twL t).length + 1 ≤ sizeLine then _ else _) = _
        rw [if_pos (szle (by rw [twL_len]; omega))]
      show runFn _ W _ [nD n x, tD t] μ = some (D.tup [.tup (twL t ++ [nD n x]), .tup [nD n (zeroN n), nD n (numN (1, 1) n)]], μ)
      generalize nD n (zeroN n) = Y at *
      generalize nD n (numN (1, 1) n) = O at *
      generalize nD n x = X at *
      refine run_rt rfl (Nat.le_of_ble_eq_true rfl) (seq_nx s0 (seq_nx s1 (seq_nx (for_of itr rfl l1) (seq_nx (ρ1 := pl [some X, some (tD t), some P, o', some (.tup (twL t ++ [X]))]) (μ1 := μ) ?_ (seq_rt ?_)))))
      · walk_at "go"
        simp [ap, andThen_some', wthD_some', szle, pl_set]
      · walk_at "go"
        simp [cz, co, andThen_some', wthD_some', szle]
end
end FM

set_option Elab.async false
set_option linter.all false
set_option maxRecDepth 100000
set_option maxHeartbeats 4000000
/-! N9: times. -/
namespace FM
open PySem (Str sizeLine)
open L2 (atI ixN Key)
open PySem.Spec PyProof.Rows
open OF (sgn sgn_eq0 Hom rat rat_mul)
local macro_rules | `(tactic| walk_at "go") => `(tactic| simp [FM.execs, FM.exec, FM.ev, FM.evs, FM.evo, FM.evc, FM.evi, FM.Sl.d, FM.isiD, FM.cmpD, FM.negD, FM.bindT, FM.andThen_some', FM.onBl_bl, FM.wthD_some', FM.eqD_int, FM.ix_tup, FM.ix_lst, FM.atI_0, FM.atI_1, FM.atI_2, FM.op_add, FM.op_sub, FM.op_subBl, FM.biD_abs, FM.szle, FM.pl_get, FM.pl_set, FM.isOw_pl, FM.noOw_pl, FM.lk_pl, FM.lks_pl, FM.itlk_pl, FM.setAll_pl, FM.setAllD])
section
variable {L : Type} [fL : Lean.Grind.Field L] [LE L] [LT L] [Std.LawfulOrderLT L] [Std.IsLinearOrder L] [Lean.Grind.OrderedRing L] {j : Rat → L}
theorem val_congr {ρ ρ' : Nat → L} : (n : Nat) → (∀ k, k < n → ρ k = ρ' k) → (x : Nm n) → val j ρ n x = val j ρ' n x
  | 0, _, _ => rfl
  | n + 1, h, x => by
    show val j ρ n x.1 + val j ρ n x.2 * ρ n = val j ρ' n x.1 + val j ρ' n x.2 * ρ' n
    rw [val_congr n (fun k hk => h k (by omega)) x.1, val_congr n (fun k hk => h k (by omega)) x.2, h n (by omega)]
theorem twV_congr {ρ ρ' : Nat → L} : {n : Nat} → (∀ k, k < n → ρ k = ρ' k) → (t : Tw n) → TwV j ρ t → TwV j ρ' t
  | _, _, .nil, _ => trivial
  | n + 1, h, .snoc t r, g => by
    obtain ⟨g1, g2, g3⟩ := g
    refine ⟨twV_congr (fun k hk => h k (by omega)) t g1, ?_, ?_⟩
    · rw [← h n (by omega)]; exact g2
    · rw [← h n (by omega), g3]
      exact val_congr n (fun k hk => h k (by omega)) r
theorem val_lift (hj : Hom j) {ρ : Nat → L} {n : Nat} (x : Nm n) : ∀ d, val j ρ (n + d) (liftN x d) = val j ρ n x
  | 0 => rfl
  | d + 1 => by
    show val j ρ (n + d) (liftN x d) + val j ρ (n + d) (zeroN (n + d)) * ρ (n + d) = _
    rw [val_lift hj x d, val_zero hj]
    grind
end
theorem liftN_all {P : Int × Int → Prop} (h : P (0, 1)) {n : Nat} {x : Nm n} (g : AllL P n x) : ∀ d, AllL P (n + d) (liftN x d)
  | 0 => g
  | d + 1 => ⟨liftN_all h g d, zeroN_all h _⟩
theorem isN_zero : ∀ n, isN n (zeroN n) = true
  | 0 => rfl
  | n + 1 => by
    show (isN n (zeroN n) && isN n (zeroN n)) = true
    rw [isN_zero n]
    rfl
theorem isN_lift {n : Nat} (x : Nm n) : ∀ d, isN (n + d) (liftN x d) = isN n x
  | 0 => rfl
  | d + 1 => by
    show (isN (n + d) (liftN x d) && isN (n + d) (zeroN (n + d))) = _
    rw [isN_lift x d, isN_zero, Bool.and_true]
/-- a number lifted to a higher tower -/
theorem lift_ex {n n' : Nat} (h : n ≤ n') (x : Nm n) : ∃ y : Nm n', liftD n (nD n x) (n' - n) = nD n' y ∧ (∀ P : Int × Int → Prop, P (0, 1) → AllL P n x → AllL P n' y) ∧ isN n' y = isN n x ∧
    ∀ (L : Type) [Lean.Grind.Field L] [LE L] [LT L] [Std.LawfulOrderLT L] [Std.IsLinearOrder L] [Lean.Grind.OrderedRing L] (j : Rat → L) (ρ : Nat → L), Hom j → val j ρ n' y = val j ρ n x := by
  obtain ⟨d, rfl⟩ : ∃ d, n' = n + d := ⟨n' - n, by omega⟩
  refine ⟨liftN x d, ?_, fun P h g => liftN_all h g d, isN_lift x d, fun L _ _ _ _ _ _ j ρ hj => val_lift hj x d⟩
  rw [Nat.add_sub_cancel_left, liftD_eq]
structure Ids3 where
  tnum : Nat
  raised : Nat
  ctimes : Nat
structure TF3 (G : Nat → Fs) (i : Ids) (j : Ids2) (k : Ids3) : Prop where
  t : TF2 G i j
  tnum : ∀ m ds μ, G (m + 1) k.tnum ds μ = runFn (G m) W ⟨2, 7, B_time_number i.isn j.wroot i.add i.mul j.lifted⟩ ds μ
  raised : ∀ m ds μ, G (m + 1) k.raised ds μ = runFn (G m) W ⟨3, 4, B_raised_time j.lifted⟩ ds μ
  ctimes : ∀ m ds μ, G (m + 1) k.ctimes ds μ = runFn (G m) W ⟨3, 7, B_compare_times k.tnum k.raised i.sign i.sub j.lifted⟩ ds μ
/-- a time (a, b, u): a + b times a root of u -/
def tmD {n : Nat} (a b u : Nm n) : D := .tup [nD n a, nD n b, nD n u]
/-- the tower and the number that a time stands for -/
def TN {n : Nat} (B er mr E M : Nat) (t : Tw n) (a b u : Nm n) (res : D) : Prop :=
  ∃ (n' : Nat) (t' : Tw n') (z : Nm n'), n ≤ n' ∧ n' ≤ n + 1 ∧ res = .tup [tD t', nD n' z] ∧ TwAll (Bd B er mr) t' ∧ AllL (Bd B E M) n' z ∧
    ∀ (L : Type) [Lean.Grind.Field L] [LE L] [LT L] [Std.LawfulOrderLT L] [Std.IsLinearOrder L] [Lean.Grind.OrderedRing L] (j : Rat → L) (ρ : Nat → L) (r : L), Hom j → TwV j ρ t → 0 ≤ r → r * r = val j ρ n u → (isN n u = false → 0 < val j ρ n u) →
      ∃ ρ' : Nat → L, (∀ k, k < n → ρ k = ρ' k) ∧ TwV j ρ' t' ∧ val j ρ' n' z = val j ρ n a + val j ρ n b * r
section
variable {G : Nat → Fs} {i : Ids} {j : Ids2} {k : Ids3} (T : TF3 G i j k)
include T
theorem tnum_c {B er mr : Nat} (h0 : 0 < B) (hD : B < 2 ^ 8) {n : Nat} (hn : n + 2 ≤ 50) (t : Tw n) (ht : TwAll (Bd B er mr) t) (a b u : Nm n) (ha : AllL (Bd B er mr) n a) (hb : AllL (Bd B er mr) n b) (hu : AllL (Bd B er mr) n u) (hl : SL er mr n er (mr + 1))
    (hm1 : (mr + mr + cc (n + 1) * (mr + 1)) + 8 * (er + er + cc (n + 1) * er) + 10 ≤ 1800) {m : Nat} (hm : 2 * n + 30 ≤ m) (μ : Cells) :
    ∃ res, G (m + 1) k.tnum [tmD a b u, tD t] μ = some (res, μ) ∧ TN B er mr (er + er + cc (n + 1) * er) (mr + mr + cc (n + 1) * (mr + 1) + 1) t a b u res := by
  obtain ⟨m, rfl⟩ : ∃ m', m = m' + 2 := ⟨m - 2, by omega⟩
  have q1 : cc (n + 1) * er = 2 * (cc n * er) + er := by show (2 * cc n + 1) * er = _; rw [Nat.add_mul, Nat.one_mul, Nat.mul_assoc]
  have q2 : cc (n + 1) * (mr + 1) = 2 * (cc n * (mr + 1)) + (mr + 1) := by show (2 * cc n + 1) * (mr + 1) = _; rw [Nat.add_mul, Nat.one_mul, Nat.mul_assoc]
  have i1 := isn_c T.t.t n (by omega) t (m + 1) (by omega) b μ
  have i2 := isn_c T.t.t n (by omega) t (m + 1) (by omega) u μ
  have s0 : exec (G (m + 2)) W (.asgT [2, 3, 4] (.var 0)) (pl [some (tmD a b u), some (tD t), none, none, none, none, none]) μ = some (.nx (pl [some (tmD a b u), some (tD t), some (nD n a), some (nD n b), some (nD n u), none, none]) μ) := by
    walk_at "go"
    rfl
  have c0 : ∀ (x : Bool) (y : Bool), isN n b = x → isN n u = y → ev (G (m + 2)) (.or (.call i.isn (.cons (.var 3) (.cons (.var 1) .nil))) (.call i.isn (.cons (.var 4) (.cons (.var 1) .nil)))) (pl [some (tmD a b u), some (tD t), some (nD n a), some (nD n b), some (nD n u), none, none]) μ = some (.bl (x || y), μ) := fun x y e1 e2 => by
    rw [e1] at i1
    rw [e2] at i2
    walk_at "go"
    simp [i1, i2, andThen_some', onBl_bl]
    cases x <;> simp
  by_cases z : isN n b = true ∨ isN n u = true
  · refine ⟨.tup [tD t, nD n a], ?_, n, t, a, Nat.le_refl _, by omega, rfl, ht, ha.up (by omega) (by omega), fun L _ _ _ _ _ _ j ρ r hj hv r0 rr up => ⟨ρ, fun _ _ => rfl, hv, ?_⟩⟩
    · rw [T.tnum]
      refine run_rt rfl (Nat.le_of_ble_eq_true rfl) (seq_nx s0 (seq_rt (ifs_t (μ1 := μ) ?_ (seq_rt ?_))))
      · rw [c0 _ _ rfl rfl]
        rcases z with z | z <;> rw [z] <;> simp
      · walk_at "go"
    · rcases z with z | z
      · rw [val_isN hj n z]; grind
      · have e := val_isN (ρ := ρ) hj n z
        rw [e] at rr
        have : r = 0 := by
          by_cases w : r = 0
          · exact w
          · have := OF.sqp w
            grind
        rw [this]; grind
  · rw [not_or] at z
    have z1 : isN n b = false := by simpa using z.1
    have z2 : isN n u = false := by simpa using z.2
    have cf := c0 _ _ z1 z2
    have fqn : ∀ {n e m : Nat} {z : Nm n}, AllL (Bd B e m) n z → m + 8 * e + 1 ≤ 1800 → AllL (Fq 1800) n z := fun h l => AllL.imp (fun _ g => (g.fq hD h0).mono l) _ h
    have pd : ∀ {n e m : Nat} {z : Nm n}, AllL (Bd B e m) n z → AllL Pd n z := fun h => AllL.imp (fun _ g => g.pd) _ h
    rcases wroot_c T.t h0 hD (by omega) t ht u hu (by omega) hl (m := m + 1) (by omega) μ with ⟨w, w1, w2, w3⟩ | w1
    · have la : G (m + 2) j.lifted [nD n a, tD t, tD t] μ = some (nD n a, μ) := lifted_c T.t (n := n) (c := 0) (by omega) (m := m + 1) (by omega) (nD n a) (twL t) (twL t) (twL_len t) (twL_len t) μ
      have lb : G (m + 2) j.lifted [nD n b, tD t, tD t] μ = some (nD n b, μ) := lifted_c T.t (n := n) (c := 0) (by omega) (m := m + 1) (by omega) (nD n b) (twL t) (twL t) (twL_len t) (twL_len t) μ
      have bm := mulN_bd h0 t ht hb w2
      have cm := mul_c T.t.t h0 hD n (by omega) t ht (m + 1) (by omega) hb w2 (by omega) μ
      have ca := add_c T.t.t n (by omega) t (m + 1) (by omega) (fqn ha (by omega)) (fqn bm (by omega)) μ
      refine ⟨.tup [tD t, nD n (addN n a (mulN t b w))], ?_, n, t, _, Nat.le_refl _, by omega, rfl, ht, (addN_bd h0 (ha.up (e' := er + er + cc n * er) (m' := mr + mr + cc n * (mr + 1)) (by omega) (by omega)) bm).up (by omega) (by omega), fun L _ _ _ _ _ _ j ρ r hj hv r0 rr up => ⟨ρ, fun _ _ => rfl, hv, ?_⟩⟩
      · rw [T.tnum]
        generalize tmD a b u = X0 at *
        generalize nD n (addN n a (mulN t b w)) = X1 at *
        generalize nD n (mulN t b w) = X2 at *
        generalize nD n a = X3 at *
        generalize nD n b = X4 at *
        generalize nD n u = X5 at *
        generalize nD n w = X6 at *
        refine run_rt rfl (Nat.le_of_ble_eq_true rfl) (seq_nx s0 (seq_nx (ifs_f cf rfl) (seq_nx (ρ1 := pl [some X0, some (tD t), some X3, some X4, some X5, some (tD t), some X6]) (μ1 := μ) ?_ (seq_rt ?_))))
        · walk_at "go"
          simp [w1, andThen_some', wthD_some', setAll_pl, setAllD]
        · walk_at "go"
          simp [la, lb, cm, ca, andThen_some', wthD_some', szle]
      · obtain ⟨g1, g2⟩ := w3 L j ρ hj hv
        rw [val_add hj n (pd ha) (pd bm), val_mul hj t hv (twAll_imp (fun _ g => g.pd) t ht) (pd hb) (pd w2)]
        have : val j ρ n w = r := by
          have e : (val j ρ n w - r) * (val j ρ n w + r) = 0 := by grind
          by_cases y : val j ρ n w + r = 0
          · grind
          · have q := Lean.Grind.Field.mul_inv_cancel y
            grind
        rw [this]
    · have hb1 : AllL (Bd B er mr) (n + 1) (liftN b 1) := liftN_all (bd01 _ _ _) hb 1
      have ha1 : AllL (Bd B er mr) (n + 1) (liftN a 1) := liftN_all (bd01 _ _ _) ha 1
      have hw : AllL (Bd B er mr) (n + 1) ((zeroN n, numN (1, 1) n) : Nm (n + 1)) := ⟨zeroN_all (bd01 _ _ _) n, numN_all (bd01 _ _ _) (bd11 _ _ _) n⟩
      have ht1 : TwAll (Bd B er mr) (.snoc t u) := ⟨ht, hu⟩
      have la : G (m + 2) j.lifted [nD n a, tD t, tD (.snoc t u)] μ = some (nD (n + 1) (liftN a 1), μ) := by
        rw [← liftD_eq a 1]
        exact lifted_c T.t (n := n) (c := 1) (by omega) (m := m + 1) (by omega) (nD n a) (twL t) (twL (.snoc t u)) (twL_len t) (twL_len _) μ
      have lb : G (m + 2) j.lifted [nD n b, tD t, tD (.snoc t u)] μ = some (nD (n + 1) (liftN b 1), μ) := by
        rw [← liftD_eq b 1]
        exact lifted_c T.t (n := n) (c := 1) (by omega) (m := m + 1) (by omega) (nD n b) (twL t) (twL (.snoc t u)) (twL_len t) (twL_len _) μ
      generalize hW : ((zeroN n, numN (1, 1) n) : Nm (n + 1)) = w at *
      have bm := mulN_bd h0 (.snoc t u) ht1 hb1 hw
      have cm := mul_c T.t.t h0 hD (n + 1) (by omega) (.snoc t u) ht1 (m + 1) (by omega) hb1 hw (by omega) μ
      have ca := add_c T.t.t (n + 1) (by omega) (.snoc t u) (m + 1) (by omega) (fqn ha1 (by omega)) (fqn bm (by omega)) μ
      refine ⟨.tup [tD (.snoc t u), nD (n + 1) (addN (n + 1) (liftN a 1) (mulN (.snoc t u) (liftN b 1) w))], ?_, n + 1, .snoc t u, _, by omega, Nat.le_refl _, rfl, ht1, (addN_bd h0 (ha1.up (e' := er + er + cc (n + 1) * er) (m' := mr + mr + cc (n + 1) * (mr + 1)) (by omega) (by omega)) bm).up (by omega) (by omega), fun L _ _ _ _ _ _ j ρ r hj hv r0 rr up => ?_⟩
      · rw [T.tnum]
        generalize tmD a b u = X0 at *
        generalize nD (n + 1) (addN (n + 1) (liftN a 1) (mulN (.snoc t u) (liftN b 1) w)) = X1 at *
        generalize nD (n + 1) (mulN (.snoc t u) (liftN b 1) w) = X2 at *
        generalize nD (n + 1) (liftN a 1) = X7 at *
        generalize nD (n + 1) (liftN b 1) = X8 at *
        generalize nD n a = X3 at *
        generalize nD n b = X4 at *
        generalize nD n u = X5 at *
        generalize nD (n + 1) w = X6 at *
        refine run_rt rfl (Nat.le_of_ble_eq_true rfl) (seq_nx s0 (seq_nx (ifs_f cf rfl) (seq_nx (ρ1 := pl [some X0, some (tD t), some X3, some X4, some X5, some (tD (.snoc t u)), some X6]) (μ1 := μ) ?_ (seq_rt ?_))))
        · walk_at "go"
          simp [w1, andThen_some', wthD_some', setAll_pl, setAllD]
        · walk_at "go"
          simp [la, lb, cm, ca, andThen_some', wthD_some', szle]
      · have uv := up z2
        have rp : 0 < r := by
          by_cases w : r = 0
          · subst w
            grind
          · grind
        let ρ' : Nat → L := fun k => if k = n then r else ρ k
        have cg : ∀ k, k < n → ρ k = ρ' k := fun k hk => by
          show ρ k = if k = n then r else ρ k
          rw [if_neg (by omega)]
        have rn : ρ' n = r := if_pos rfl
        have hv' : TwV j ρ' (.snoc t u) := ⟨twV_congr cg t hv, by rw [rn]; exact rp, by rw [rn, rr]; exact val_congr n cg u⟩
        refine ⟨ρ', cg, hv', ?_⟩
        have tp := twAll_imp (fun _ g => Bd.pd g) _ ht1
        rw [val_add hj (n + 1) (pd ha1) (pd bm), val_mul hj (.snoc t u) hv' tp (pd hb1) (pd hw), val_lift hj, val_lift hj, ← val_congr n cg a, ← val_congr n cg b]
        have : val j ρ' (n + 1) w = r := by
          rw [← hW]
          show val j ρ' n (zeroN n) + val j ρ' n (numN (1, 1) n) * ρ' n = r
          rw [val_zero hj, val_num hj, rat1, hj.one, rn]
          grind
        rw [this]
end
end FM

set_option Elab.async false
set_option linter.all false
set_option maxRecDepth 100000
set_option maxHeartbeats 4000000
/-! N10: times compared. -/
namespace FM
open PySem (Str sizeLine)
open L2 (atI ixN Key)
open PySem.Spec PyProof.Rows
open OF (sgn sgn_eq0 Hom rat rat_mul)
local macro_rules | `(tactic| walk_at "go") => `(tactic| simp [FM.execs, FM.exec, FM.ev, FM.evs, FM.evo, FM.evc, FM.evi, FM.Sl.d, FM.isiD, FM.cmpD, FM.negD, FM.bindT, FM.andThen_some', FM.onBl_bl, FM.wthD_some', FM.eqD_int, FM.ix_tup, FM.ix_lst, FM.atI_0, FM.atI_1, FM.atI_2, FM.op_add, FM.op_sub, FM.op_subBl, FM.biD_abs, FM.szle, FM.pl_get, FM.pl_set, FM.isOw_pl, FM.noOw_pl, FM.lk_pl, FM.lks_pl, FM.itlk_pl, FM.setAll_pl, FM.setAllD])
/-- a comprehension whose parts leave the cells as they are -/
theorem lc_fm {F : Fs} {i : Nat} {elt : E} {cond : EO} {ds : List (Option D)} {μ : Cells} (p : D → Bool) (f : D → D) : (xs : List D) → (hc : ∀ d ∈ xs, evc F cond (pl (ds.set i (some d))) μ = some (p d, μ)) → (hf : ∀ d ∈ xs, p d = true → ev F elt (pl (ds.set i (some d))) μ = some (f d, μ)) →
    lcGo (.nm i) (fun ρ' μ' => evc F cond ρ' μ') (fun ρ' μ' => if lk ρ' elt then none else ev F elt ρ' μ') (pl ds) xs μ = some ((xs.filter p).map f, μ)
  | [], _, _ => rfl
  | x :: xs, hc, hf => by
    have ih := lc_fm p f xs (fun d hd => hc d (List.mem_cons_of_mem _ hd)) (fun d hd => hf d (List.mem_cons_of_mem _ hd))
    have c := hc x (List.mem_cons_self ..)
    have b : bindT (.nm i) x (pl ds) = some (pl (ds.set i (some x))) := by
      unfold bindT
      simp only [pl_set]
    unfold lcGo
    rw [b]
    simp only [c]
    cases e : p x with
    | false =>
      simp only [List.filter_cons, e]
      exact ih
    | true =>
      have g := hf x (List.mem_cons_self ..) e
      simp only [List.filter_cons, e, lk_pl, Bool.false_eq_true, if_false, g, ih, if_true, List.map_cons]
theorem lc_map {F : Fs} {i : Nat} {elt : E} {ds : List (Option D)} {μ : Cells} (f : D → D) (xs : List D) (hf : ∀ d ∈ xs, ev F elt (pl (ds.set i (some d))) μ = some (f d, μ)) :
    lcGo (.nm i) (fun ρ' μ' => evc F .none ρ' μ') (fun ρ' μ' => if lk ρ' elt then none else ev F elt ρ' μ') (pl ds) xs μ = some (xs.map f, μ) := by
  have := lc_fm (F := F) (i := i) (elt := elt) (cond := .none) (ds := ds) (μ := μ) (fun _ => true) f xs (fun _ _ => rfl) (fun d hd _ => hf d hd)
  rwa [List.filter_eq_self.mpr (fun _ _ => rfl)] at this
theorem eqv_int {i j : Int} (h : PySem.PyData.eqv (D.int i).py (D.int j).py = true) : i = j := by
  have : (i == j) = true := by simpa [D.py, PySem.PyData.eqv] using h
  exact eq_of_beq this
theorem eqv_two {a b c d : D} (h : PySem.PyData.eqv (D.tup [a, b]).py (D.tup [c, d]).py = true) : PySem.PyData.eqv a.py c.py = true ∧ PySem.PyData.eqv b.py d.py = true := by
  simpa [D.py, pyAll, PySem.PyData.eqv, PySem.PyData.eqvAll] using h
theorem eqv_nD : (n : Nat) → {x y : Nm n} → PySem.PyData.eqv (nD n x).py (nD n y).py = true → x = y
  | 0, x, y, h => by
    obtain ⟨h1, h2⟩ := eqv_two (a := .int (Prod.fst (α := Int) (β := Int) x)) (b := .int (Prod.snd (α := Int) (β := Int) x)) (c := .int (Prod.fst (α := Int) (β := Int) y)) (d := .int (Prod.snd (α := Int) (β := Int) y)) h
    exact Prod.ext (α := Int) (β := Int) (eqv_int h1) (eqv_int h2)
  | n + 1, x, y, h => by
    obtain ⟨h1, h2⟩ := eqv_two (a := nD n x.1) (b := nD n x.2) (c := nD n y.1) (d := nD n y.2) h
    exact Prod.ext (eqv_nD n h1) (eqv_nD n h2)
theorem eqv_tm {n : Nat} {a b u a' b' u' : Nm n} (h : PySem.PyData.eqv (tmD a b u).py (tmD a' b' u').py = true) : a = a' ∧ b = b' ∧ u = u' := by
  have : PySem.PyData.eqv (nD n a).py (nD n a').py = true ∧ PySem.PyData.eqv (nD n b).py (nD n b').py = true ∧ PySem.PyData.eqv (nD n u).py (nD n u').py = true := by
    simpa [tmD, D.py, pyAll, PySem.PyData.eqv, PySem.PyData.eqvAll] using h
  exact ⟨eqv_nD n this.1, eqv_nD n this.2.1, eqv_nD n this.2.2⟩
theorem eqD_tm {n : Nat} (hn : n ≤ 50) (a b u a' b' u' : Nm n) : eqD (tmD a b u) (tmD a' b' u') = some (PySem.PyData.eqv (tmD a b u).py (tmD a' b' u').py) := by
  have s : ∀ (a b u : Nm n), shOk (tmD a b u) = true := fun a b u => (Sh.tup (.cons (sh_nD n a) (.cons (sh_nD n b) (.cons (sh_nD n u) (.nil _))))).ok (by omega)
  have s0 : scalOk (tmD a b u) (tmD a' b' u') = false := rfl
  unfold eqD
  rw [s0, if_neg (by decide), s, s, Bool.and_self, if_pos rfl]
section
variable {G : Nat → Fs} {i : Ids} {j : Ids2} {k : Ids3} (T : TF3 G i j k)
include T
theorem raised_c {n n' : Nat} (h : n ≤ n') (hn : n' ≤ 50) (l1 l2 : List D) (h1 : l1.length = n) (h2 : l2.length = n') {m : Nat} (hm : 2 * n' + 3 ≤ m) (a b u : D) (μ : Cells) :
    G (m + 1) k.raised [.tup [a, b, u], .tup l1, .tup l2] μ = some (.tup [liftD n a (n' - n), liftD n b (n' - n), liftD n u (n' - n)], μ) := by
  obtain ⟨m, rfl⟩ : ∃ m', m = m' + 1 := ⟨m - 1, by omega⟩
  have c : ∀ d : D, G (m + 1) j.lifted [d, .tup l1, .tup l2] μ = some (liftD n d (n' - n), μ) := fun d => lifted_c T.t (n := n) (c := n' - n) (by omega) (m := m) (by omega) d l1 l2 h1 (by omega) μ
  rw [T.raised]
  refine run_rt rfl (Nat.le_of_ble_eq_true rfl) (seq_rt (ret_of (lk_pl [some (.tup [a, b, u]), some (.tup l1), some (.tup l2), none] _) ?_))
  have lc : ev (G (m + 1)) (.lc (.call j.lifted (.cons (.var 3) (.cons (.var 1) (.cons (.var 2) .nil)))) (.nm 3) (.seq (.var 0)) .none) (pl [some (.tup [a, b, u]), some (.tup l1), some (.tup l2), none]) μ = some (.lst [liftD n a (n' - n), liftD n b (n' - n), liftD n u (n' - n)], μ) := by
    refine ev_lc (xs := [a, b, u]) (μ1 := μ) rfl (show (3 : Nat) ≤ 16777216 by decide) ?_
    refine lc_map (fun d => liftD n d (n' - n)) [a, b, u] fun d _ => ?_
    have cd := c d
    show ev (G (m + 1)) _ (pl [some (.tup [a, b, u]), some (.tup l1), some (.tup l2), some d]) μ = _
    generalize liftD n d (n' - n) = Y at *
    walk_at "go"
    exact cd
  show ev (G (m + 1)) _ (pl [some (.tup [a, b, u]), some (.tup l1), some (.tup l2), none]) μ = _
  unfold ev
  rw [show evs (G (m + 1)) (.cons (.lc (.call j.lifted (.cons (.var 3) (.cons (.var 1) (.cons (.var 2) .nil)))) (.nm 3) (.seq (.var 0)) .none) .nil) (pl [some (.tup [a, b, u]), some (.tup l1), some (.tup l2), none]) μ = some ([.lst [liftD n a (n' - n), liftD n b (n' - n), liftD n u (n' - n)]], μ) from by unfold evs; rw [lc]; rfl]
  rfl
end
end FM

set_option Elab.async false
set_option linter.all false
set_option maxRecDepth 100000
set_option maxHeartbeats 4000000
/-! N11: which time is ahead. -/
namespace FM
open PySem (Str sizeLine)
open L2 (atI ixN Key)
open PySem.Spec PyProof.Rows
open OF (sgn sgn_eq0 Hom rat rat_mul)
local macro_rules | `(tactic| walk_at "go") => `(tactic| simp [FM.execs, FM.exec, FM.ev, FM.evs, FM.evo, FM.evc, FM.evi, FM.Sl.d, FM.isiD, FM.cmpD, FM.negD, FM.bindT, FM.andThen_some', FM.onBl_bl, FM.wthD_some', FM.eqD_int, FM.ix_tup, FM.ix_lst, FM.atI_0, FM.atI_1, FM.atI_2, FM.op_add, FM.op_sub, FM.op_subBl, FM.biD_abs, FM.szle, FM.pl_get, FM.pl_set, FM.isOw_pl, FM.noOw_pl, FM.lk_pl, FM.lks_pl, FM.itlk_pl, FM.setAll_pl, FM.setAllD])
theorem SL.down {er mr : Nat} : {n e m : Nat} → SL er mr (n + 1) e m → SL er mr n e m := fun h => h.2.mono (by omega) (by omega)
theorem cc_mono {a b : Nat} (h : a ≤ b) : cc a ≤ cc b := by
  obtain ⟨d, rfl⟩ : ∃ d, b = a + d := ⟨b - a, by omega⟩
  induction d with
  | zero => exact Nat.le_refl _
  | succ d ih =>
    have := ih (by omega)
    show cc a ≤ 2 * cc (a + d) + 1
    omega
theorem SL.downs {er mr n n' e m : Nat} (h : n ≤ n') (g : SL er mr n' e m) : SL er mr n e m := by
  obtain ⟨d, rfl⟩ : ∃ d, n' = n + d := ⟨n' - n, by omega⟩
  induction d with
  | zero => exact g
  | succ d ih => exact ih (by omega) (SL.down (n := n + d) g)
theorem root_uniq {L : Type} [fL : Lean.Grind.Field L] [LE L] [LT L] [Std.LawfulOrderLT L] [Std.IsLinearOrder L] [Lean.Grind.OrderedRing L] {r s : L} (h : 0 ≤ r) (g : 0 ≤ s) (e : r * r = s * s) : r = s := by
  have e : (r - s) * (r + s) = 0 := by grind
  by_cases y : r + s = 0
  · grind
  · have q := Lean.Grind.Field.mul_inv_cancel y
    grind
/-- long enough for times at a tower of height n -/
structure Lim (er mr n : Nat) : Prop where
  a : SL er mr (n + 1) er (mr + 1)
  b : SL er mr (n + 2) (er + er + cc (n + 2) * er) (mr + mr + cc (n + 2) * (mr + 1) + 3)
  c : (mr + mr + cc (n + 2) * (mr + 1)) + 8 * (er + er + cc (n + 2) * er) + 20 ≤ 1800
section
variable {G : Nat → Fs} {i : Ids} {j : Ids2} {k : Ids3} (T : TF3 G i j k)
include T
theorem ctimes_c {B er mr : Nat} (h0 : 0 < B) (hD : B < 2 ^ 8) {n : Nat} (hn : n + 4 ≤ 40) (t : Tw n) (ht : TwAll (Bd B er mr) t) (a b u a' b' u' : Nm n) (ha : AllL (Bd B er mr) n a) (hb : AllL (Bd B er mr) n b) (hu : AllL (Bd B er mr) n u) (ha' : AllL (Bd B er mr) n a') (hb' : AllL (Bd B er mr) n b') (hu' : AllL (Bd B er mr) n u')
    (hl : Lim er mr n) {m : Nat} (hm : 2 * n + 60 ≤ m) (μ : Cells) :
    ∃ s : Int, G (m + 1) k.ctimes [tmD a b u, tmD a' b' u', tD t] μ = some (.int s, μ) ∧ ∀ (L : Type) [Lean.Grind.Field L] [LE L] [LT L] [Std.LawfulOrderLT L] [Std.IsLinearOrder L] [Lean.Grind.OrderedRing L] (j : Rat → L) (ρ : Nat → L) (r r' : L), Hom j → TwV j ρ t → 0 ≤ r → r * r = val j ρ n u → (isN n u = false → 0 < val j ρ n u) →
      0 ≤ r' → r' * r' = val j ρ n u' → (isN n u' = false → 0 < val j ρ n u') → s = sgn ((val j ρ n a + val j ρ n b * r) - (val j ρ n a' + val j ρ n b' * r')) := by
  obtain ⟨m, rfl⟩ : ∃ m', m = m' + 2 := ⟨m - 2, by omega⟩
  have eq := eqD_tm (by omega) a b u a' b' u'
  by_cases z : PySem.PyData.eqv (tmD a b u).py (tmD a' b' u').py = true
  · obtain ⟨rfl, rfl, rfl⟩ := eqv_tm z
    rw [z] at eq
    refine ⟨0, ?_, fun L _ _ _ _ _ _ j ρ r r' hj hv r0 rr _ r0' rr' _ => ?_⟩
    · rw [T.ctimes]
      exact run_rt rfl (Nat.le_of_ble_eq_true rfl) (seq_rt (ifs_t (cmp_of (x := tmD a b u) (y := tmD a b u) rfl rfl eq) (seq_rt (ret_of rfl rfl))))
    · have : r = r' := root_uniq r0 r0' (by rw [rr, rr'])
      subst this
      rw [show (val j ρ n a + val j ρ n b * r) - (val j ρ n a + val j ρ n b * r) = 0 by grind, OF.sgn_zero]
  · have z' : PySem.PyData.eqv (tmD a b u).py (tmD a' b' u').py = false := by simpa using z
    rw [z'] at eq
    have k1 : cc (n + 1) ≤ cc (n + 2) := cc_mono (by omega)
    have m1 : cc (n + 1) * er ≤ cc (n + 2) * er := Nat.mul_le_mul_right _ k1
    have m2 : cc (n + 1) * (mr + 1) ≤ cc (n + 2) * (mr + 1) := Nat.mul_le_mul_right _ k1
    have lc := hl.c
    obtain ⟨res, p1, n1, t1, z1, l1, l2, rfl, p2, p3, p4⟩ := tnum_c T h0 hD (by omega) t ht a b u ha hb hu (SL.down hl.a) (by omega) (m := m + 1) (by omega) μ
    obtain ⟨av, a1, a2, a3, a4⟩ := lift_ex l1 a'
    obtain ⟨bv, b1, b2, b3, b4⟩ := lift_ex l1 b'
    obtain ⟨uv, u1, u2, u3, u4⟩ := lift_ex l1 u'
    have rz : G (m + 2) k.raised [tmD a' b' u', tD t, tD t1] μ = some (tmD av bv uv, μ) := by
      have h := raised_c T l1 (by omega) (twL t) (twL t1) (twL_len t) (twL_len t1) (m := m + 1) (by omega) (nD n a') (nD n b') (nD n u') μ
      rw [a1, b1, u1] at h
      exact h
    have k2 : cc (n1 + 1) ≤ cc (n + 2) := cc_mono (by omega)
    have m3 : cc (n1 + 1) * er ≤ cc (n + 2) * er := Nat.mul_le_mul_right _ k2
    have m4 : cc (n1 + 1) * (mr + 1) ≤ cc (n + 2) * (mr + 1) := Nat.mul_le_mul_right _ k2
    obtain ⟨res2, s1, n2, t2, z2, l3, l4, rfl, s2, s3, s4⟩ := tnum_c T h0 hD (by omega) t1 p2 av bv uv (a2 _ (bd01 _ _ _) ha') (b2 _ (bd01 _ _ _) hb') (u2 _ (bd01 _ _ _) hu') (SL.downs (by omega) hl.a) (by omega) (m := m + 1) (by omega) μ
    obtain ⟨y, y1, y2, y3, y4⟩ := lift_ex l3 z1
    have by1 := AllL.up (y2 _ (bd01 _ _ _) p3) (e' := er + er + cc (n + 2) * er) (m' := mr + mr + cc (n + 2) * (mr + 1) + 1) (by omega) (by omega)
    have bz2 := AllL.up s3 (e' := er + er + cc (n + 2) * er) (m' := mr + mr + cc (n + 2) * (mr + 1) + 1) (by omega) (by omega)
    have ly : G (m + 2) j.lifted [nD n1 z1, tD t1, tD t2] μ = some (nD n2 y, μ) := by
      rw [← y1]
      exact lifted_c T.t (n := n1) (c := n2 - n1) (by omega) (m := m + 1) (by omega) _ (twL t1) (twL t2) (twL_len t1) (by rw [twL_len]; omega) μ
    have fqn : ∀ {z : Nm n2}, AllL (Bd B (er + er + cc (n + 2) * er) (mr + mr + cc (n + 2) * (mr + 1) + 1)) n2 z → AllL (Fq 1800) n2 z := fun h => AllL.imp (fun _ g => (g.fq hD h0).mono (by omega)) _ h
    have pd : ∀ {e m : Nat} {z : Nm n2}, AllL (Bd B e m) n2 z → AllL Pd n2 z := fun h => AllL.imp (fun _ g => g.pd) _ h
    have cs := sub_c T.t.t n2 (by omega) t2 (m + 1) (by omega) (fqn by1) (fqn bz2) μ
    have sg := sign_c T.t.t h0 hD n2 (by omega) t2 s2 (m + 1) (by omega) (subN_bd h0 by1 bz2) ((SL.downs (by omega) hl.b).mono (by omega) (by omega)) μ
    refine ⟨signN t2 (subN n2 y z2), ?_, fun L _ _ _ _ _ _ j ρ r r' hj hv r0 rr up r0' rr' up' => ?_⟩
    · rw [T.ctimes]
      generalize tmD a b u = X0 at *
      generalize tmD a' b' u' = X1 at *
      generalize tmD av bv uv = X2 at *
      generalize nD n2 (subN n2 y z2) = X3 at *
      generalize nD n2 y = X4 at *
      generalize nD n2 z2 = X5 at *
      generalize nD n1 z1 = X6 at *
      refine run_rt rfl (Nat.le_of_ble_eq_true rfl) (seq_nx (ifs_f (cmp_of (x := X0) (y := X1) rfl rfl eq) rfl) (seq_nx (ρ1 := pl [some X0, some X1, some (tD t), some (tD t1), some X6, none, none]) (μ1 := μ) ?_ (seq_nx (ρ1 := pl [some X0, some X1, some (tD t), some (tD t1), some X6, some (tD t2), some X5]) (μ1 := μ) ?_ (seq_rt ?_))))
      · show exec (G (m + 2)) W _ (pl [some X0, some X1, some (tD t), none, none, none, none]) μ = _
        walk_at "go"
        simp [p1, andThen_some', wthD_some', setAll_pl, setAllD]
      · walk_at "go"
        simp [rz, s1, andThen_some', wthD_some', setAll_pl, setAllD]
      · walk_at "go"
        simp [ly, cs, sg, andThen_some', wthD_some']
    · obtain ⟨ρ1, c1, v1, e1⟩ := p4 L j ρ r hj hv r0 rr up
      have vu : val j ρ1 n1 uv = val j ρ n u' := by rw [u4 L j ρ1 hj]; exact (val_congr n c1 u').symm
      have va : val j ρ1 n1 av = val j ρ n a' := by rw [a4 L j ρ1 hj]; exact (val_congr n c1 a').symm
      have vb : val j ρ1 n1 bv = val j ρ n b' := by rw [b4 L j ρ1 hj]; exact (val_congr n c1 b').symm
      obtain ⟨ρ2, c2, v2, e2⟩ := s4 L j ρ1 r' hj v1 r0' (by rw [vu]; exact rr') (fun h => by rw [vu]; exact up' (by rw [← u3]; exact h))
      rw [sign_val hj t2 v2 (twAll_imp (fun _ g => g.pd) t2 s2) (subN_all (fun _ _ => pd_sub) n2 (pd by1) (pd bz2)), val_sub hj n2 (pd by1) (pd bz2), e2, va, vb, y4 L j ρ2 hj, ← val_congr n1 c2 z1, e1]
end
end FM

set_option Elab.async false
set_option linter.all false
set_option maxRecDepth 100000
set_option maxHeartbeats 4000000
/-! N12: the law's own: which time is ahead. -/
namespace FM
open PySem (Str sizeLine)
open L2 (atI ixN Key)
open PySem.Spec PyProof.Rows
open OF (sgn sgn_eq0 Hom rat rat_mul rat_sub rat_add sg2)
local macro_rules | `(tactic| walk_at "go") => `(tactic| simp [FM.execs, FM.exec, FM.ev, FM.evs, FM.evo, FM.evc, FM.evi, FM.Sl.d, FM.isiD, FM.cmpD, FM.negD, FM.bindT, FM.andThen_some', FM.onBl_bl, FM.wthD_some', FM.eqD_int, FM.ix_tup, FM.ix_lst, FM.atI_0, FM.atI_1, FM.atI_2, FM.op_add, FM.op_sub, FM.op_subBl, FM.biD_abs, FM.szle, FM.pl_get, FM.pl_set, FM.isOw_pl, FM.noOw_pl, FM.lk_pl, FM.lks_pl, FM.itlk_pl, FM.setAll_pl, FM.setAllD])
/-- the law's sign of u + v times a root of p -/
def sgTwo (u v p : Int × Int) : Int := sg2 (sgI u.1) (if 0 < p.1 then sgI v.1 else 0) (sgI (subF (mulF u u) (mulF (mulF v v) p)).1)
abbrev sqF (u v p t q : Int × Int) : Int × Int := subF (addF (mulF u u) (mulF (mulF v v) p)) (mulF (mulF t t) q)
def befF (a b p a' b' q : Int × Int) : Int :=
  sg2 (sgTwo (subF a a') b p) (if 0 < q.1 then sgI (subF (0, 1) b').1 else 0) (sgTwo (sqF (subF a a') b p (subF (0, 1) b') q) (mulF (2, 1) (mulF (subF a a') b)) p)
theorem sgTwo_abs (u v p : Int × Int) : (sgTwo u v p).natAbs ≤ 1 := sg2_abs (sgI_abs _) (by split <;> first | exact sgI_abs _ | decide) (sgI_abs _)
section
variable {L : Type} [fL : Lean.Grind.Field L] [LE L] [LT L] [Std.LawfulOrderLT L] [Std.IsLinearOrder L] [Lean.Grind.OrderedRing L] {j : Rat → L} (hj : Hom j)
include hj
theorem j_add {x y : Int × Int} (hx : Pd x) (hy : Pd y) : j (rat (addF x y)) = j (rat x) + j (rat y) := by
  rw [rat_add (Int.ne_of_gt hx) (Int.ne_of_gt hy), hj.add]
theorem j_sub {x y : Int × Int} (hx : Pd x) (hy : Pd y) : j (rat (subF x y)) = j (rat x) - j (rat y) := by
  rw [rat_sub (Int.ne_of_gt hx) (Int.ne_of_gt hy), hom_sub hj]
theorem j_mul {x y : Int × Int} (hx : Pd x) (hy : Pd y) : j (rat (mulF x y)) = j (rat x) * j (rat y) := by
  rw [rat_mul (Int.ne_of_gt hx) (Int.ne_of_gt hy), hj.mul]
theorem sgI_pos {p : Int × Int} (h : Pd p) : 0 < p.1 ↔ 0 < j (rat p) := by
  rw [← OF.sgn_eq1, sgn_rat hj h]
  unfold sgI
  split
  · simp_all
  · split <;> simp_all <;> omega
theorem sgTwo_val {u v p : Int × Int} (hu : Pd u) (hv : Pd v) (hp : Pd p) {r : L} (r0 : 0 ≤ r) (rr : r * r = j (rat p)) : sgTwo u v p = sgn (j (rat u) + j (rat v) * r) := by
  unfold sgTwo
  by_cases z : 0 < p.1
  · have zp := (sgI_pos hj hp).mp z
    have rp : 0 < r := by
      by_cases w : r = 0
      · subst w; grind
      · grind
    rw [if_pos z, OF.sgn_root rp rr, ← sgn_rat hj hu, ← sgn_rat hj hv, ← sgn_rat hj (pd_sub (pd_mul hu hu) (pd_mul (pd_mul hv hv) hp)), j_sub hj (pd_mul hu hu) (pd_mul (pd_mul hv hv) hp), j_mul hj hu hu, j_mul hj (pd_mul hv hv) hp, j_mul hj hv hv]
  · rw [if_neg z]
    have q0 : ¬ 0 < j (rat p) := fun h => z ((sgI_pos hj hp).mpr h)
    have r1 : r = 0 := by
      by_cases w : r = 0
      · exact w
      · have := OF.sqp w
        grind
    subst r1
    rw [show j (rat u) + j (rat v) * 0 = j (rat u) by grind, sgn_rat hj hu]
    unfold sg2
    rw [if_pos (.inl rfl)]
/-- THE LAW'S ORDER is the order of what is meant -/
theorem bef_val {a b p a' b' q : Int × Int} (ha : Pd a) (hb : Pd b) (hp : Pd p) (ha' : Pd a') (hb' : Pd b') (hq : Pd q) {r s : L} (r0 : 0 ≤ r) (rr : r * r = j (rat p)) (s0 : 0 ≤ s) (ss : s * s = j (rat q)) :
    befF a b p a' b' q = sgn ((j (rat a) + j (rat b) * r) - (j (rat a') + j (rat b') * s)) := by
  have h01 : Pd (0, 1) := by unfold Pd; decide
  have h21 : Pd (2, 1) := by unfold Pd; decide
  have pu := pd_sub ha ha'
  have pt := pd_sub h01 hb'
  have j0 : j (rat (0, 1)) = 0 := by
    rw [show rat (0, 1) = 0 by unfold rat; grind, hj.zero]
  have j2 : j (rat (2, 1)) = 1 + 1 := by
    rw [show rat (2, 1) = 1 + 1 by unfold rat; grind, hj.add, hj.one]
  have e1 := sgTwo_val hj pu hb hp r0 rr
  have ps := pd_sub (pd_add (pd_mul pu pu) (pd_mul (pd_mul hb hb) hp)) (pd_mul (pd_mul pt pt) hq)
  have e2 := sgTwo_val hj ps (pd_mul h21 (pd_mul pu hb)) hp r0 rr
  unfold befF
  rw [e1, e2, j_sub hj (pd_add (pd_mul pu pu) (pd_mul (pd_mul hb hb) hp)) (pd_mul (pd_mul pt pt) hq), j_add hj (pd_mul pu pu) (pd_mul (pd_mul hb hb) hp), j_mul hj pu pu, j_mul hj (pd_mul hb hb) hp, j_mul hj hb hb, j_mul hj (pd_mul pt pt) hq, j_mul hj pt pt, j_mul hj h21 (pd_mul pu hb), j_mul hj pu hb, j_sub hj ha ha', j_sub hj h01 hb', j0, j2]
  generalize j (rat a) = A at *
  generalize j (rat a') = A' at *
  generalize hB' : j (rat b') = B' at *
  generalize j (rat b) = B at *
  by_cases z : 0 < q.1
  · have zp := (sgI_pos hj hq).mp z
    have sp : 0 < s := by
      by_cases w : s = 0
      · subst w; grind
      · grind
    have st : sgI (subF (0, 1) b').1 = sgn (-B') := by
      rw [← sgn_rat hj pt, j_sub hj h01 hb', j0, hB', show (0 : L) - B' = -B' by grind]
    rw [if_pos z, st, show (A + B * r) - (A' + B' * s) = ((A - A') + B * r) + (-B') * s by grind, OF.sgn_root sp ss]
    congr 2
    rw [← rr, ← ss]
    grind
  · rw [if_neg z]
    have q0 : ¬ 0 < j (rat q) := fun h => z ((sgI_pos hj hq).mpr h)
    have s1 : s = 0 := by
      by_cases w : s = 0
      · exact w
      · have := OF.sqp w
        grind
    subst s1
    unfold sg2
    rw [if_pos (.inl rfl)]
    congr 1
    grind
end
/-! ### the walks -/
structure LawF (F : Fs) (sub mul add sgn fr : Nat) : Prop where
  sub : ∀ (x y : Int × Int) (μ : Cells), Fq 1800 x → Fq 1800 y → F sub [fD x, fD y] μ = some (fD (subF x y), μ)
  mul : ∀ (x y : Int × Int) (μ : Cells), Fq 1800 x → Fq 1800 y → F mul [fD x, fD y] μ = some (fD (mulF x y), μ)
  add : ∀ (x y : Int × Int) (μ : Cells), Fq 1800 x → Fq 1800 y → F add [fD x, fD y] μ = some (fD (addF x y), μ)
  sgn : ∀ (x : Int × Int) (μ : Cells), F sgn [fD x] μ = some (.int (sgI x.1), μ)
theorem mul_abs1 {u w : Int} (hu : u.natAbs ≤ 1) (hw : w.natAbs ≤ 1) : opD .Mult (.int u) (.int w) = some (.int (u * w)) := op_mul (j := 1) (k := 1) (by unfold Sm; omega) (by unfold Sm; omega) (by decide)
theorem sign_two_ok {F : Fs} {cs cm ca cg cf : Nat} (K : LawF F cs cm ca cg cf) {u v p : Int × Int} {ku kv kp : Nat} (hu : Fq ku u) (hv : Fq kv v) (hp : Fq kp p) (l1 : ku + ku ≤ 1800) (l2 : kv + kv + kp ≤ 1800) (μ : Cells) :
    runFn F W ⟨3, 5, B__law_sign_two cg cs cm⟩ [fD u, fD v, fD p] μ = some (.int (sgTwo u v p), μ) := by
  have m1 := K.mul u u μ (hu.mono (by omega)) (hu.mono (by omega))
  have m2 := K.mul v v μ (hv.mono (by omega)) (hv.mono (by omega))
  have m3 := K.mul (mulF v v) p μ ((hv.mul hv).mono (by omega)) (hp.mono (by omega))
  have m4 := K.sub (mulF u u) (mulF (mulF v v) p) μ ((hu.mul hu).mono (by omega)) (((hv.mul hv).mul hp).mono (by omega))
  have g1 := K.sgn u μ
  have g2 := K.sgn v μ
  have g3 := K.sgn (subF (mulF u u) (mulF (mulF v v) p)) μ
  have a1 := sgI_abs u.1
  have a3 := sgI_abs (subF (mulF u u) (mulF (mulF v v) p)).1
  have s1 : ∀ (V : Int), (if 0 < p.1 then sgI v.1 else 0) = V → exec F W (.par 3 4 (.call cg (.cons (.var 0) .nil)) (.ife (.cmp .Gt (.ix (.var 2) (.int 0)) (.int 0)) (.call cg (.cons (.var 1) .nil)) (.int 0))) (pl [some (fD u), some (fD v), some (fD p), none, none]) μ = some (.nx (pl [some (fD u), some (fD v), some (fD p), some (.int (sgI u.1)), some (.int V)]) μ) := fun V e => by
    by_cases z : 0 < p.1
    · rw [if_pos z] at e
      subst e
      walk_at "go"
      simp [g1, g2, z, andThen_some', wthD_some', onBl_bl, pl_set]
    · rw [if_neg z] at e
      subst e
      walk_at "go"
      simp [g1, g2, z, andThen_some', wthD_some', onBl_bl, pl_set]
  have s1 := s1 _ rfl
  unfold sgTwo sg2
  generalize (if 0 < p.1 then sgI v.1 else 0) = V at *
  generalize sgI u.1 = U at *
  generalize (sgI (subF (mulF u u) (mulF (mulF v v) p)).1) = Z at *
  refine run_rt rfl (Nat.le_of_ble_eq_true rfl) (seq_nx s1 ?_)
  by_cases y1 : V = 0 ∨ U = V
  · rw [if_pos y1]
    refine seq_rt (ifs_t (μ1 := μ) ?_ (seq_rt ?_))
    · walk_at "go"
      rcases y1 with y1 | y1
      · simp [y1]
      · by_cases y2 : V = 0 <;> simp [y1, y2, onBl_bl]
    · walk_at "go"
  · rw [if_neg y1]
    rw [not_or] at y1
    refine seq_nx (ifs_f (μ1 := μ) ?_ rfl) ?_
    · walk_at "go"
      simp [y1.1, y1.2, onBl_bl]
    · by_cases y2 : U = 0
      · rw [if_pos y2]
        refine seq_rt (ifs_t (μ1 := μ) ?_ (seq_rt ?_))
        · walk_at "go"
          exact y2
        · walk_at "go"
      · rw [if_neg y2]
        refine seq_nx (ifs_f (μ1 := μ) ?_ rfl) (seq_rt ?_)
        · walk_at "go"
          exact y2
        · have om := mul_abs1 a1 a3
          walk_at "go"
          simp [m1, m2, m3, m4, g3, om, andThen_some', wthD_some']
end FM

set_option Elab.async false
set_option linter.all false
set_option maxRecDepth 100000
set_option maxHeartbeats 4000000
/-! N13: the law's order walked. -/
namespace FM
open PySem (Str sizeLine)
open L2 (atI ixN Key)
open PySem.Spec PyProof.Rows
open OF (sgn sgn_eq0 Hom rat sg2)
local macro_rules | `(tactic| walk_at "go") => `(tactic| simp [FM.execs, FM.exec, FM.ev, FM.evs, FM.evo, FM.evc, FM.evi, FM.Sl.d, FM.isiD, FM.cmpD, FM.negD, FM.bindT, FM.andThen_some', FM.onBl_bl, FM.wthD_some', FM.eqD_int, FM.ix_tup, FM.ix_lst, FM.atI_0, FM.atI_1, FM.atI_2, FM.op_add, FM.op_sub, FM.op_subBl, FM.biD_abs, FM.szle, FM.pl_get, FM.pl_set, FM.isOw_pl, FM.noOw_pl, FM.lk_pl, FM.lks_pl, FM.itlk_pl, FM.setAll_pl, FM.setAllD])
/-- a time of fractions -/
abbrev t3 (a b p : Int × Int) : D := .tup [fD a, fD b, fD p]
theorem fq01' (k : Nat) : Fq (k + 2) (0, 1) := ⟨by unfold Sm; exact Nat.pow_pos (by decide), by unfold Sm; show 1 < 2 ^ (k + 2); have : 2 ^ 1 ≤ 2 ^ (k + 2) := Nat.pow_le_pow_right (by decide) (by omega); omega, by decide, by decide⟩
theorem fq21' (k : Nat) : Fq (k + 2) (2, 1) := ⟨by unfold Sm; show 2 < 2 ^ (k + 2); have : 2 ^ 2 ≤ 2 ^ (k + 2) := Nat.pow_le_pow_right (by decide) (by omega); omega, by unfold Sm; show 1 < 2 ^ (k + 2); have : 2 ^ 1 ≤ 2 ^ (k + 2) := Nat.pow_le_pow_right (by decide) (by omega); omega, by decide, by decide⟩
/-- after the two signs: which of the three answers -/
theorem sg2_tail {F : Fs} {U V Z : Int} {ds : List (Option D)} {i k : Nat} {μ : Cells} {rest : Ss} (hi : ds[i]? = some (some (.int U))) (hk : ds[k]? = some (some (.int V)))
    (hr : ¬(V = 0 ∨ U = V) → U ≠ 0 → execs F W rest (pl ds) μ = some (.rt (.int (U * Z)) μ)) :
    execs F W (.cons (.ifs (.or (.cmp .Eq (.var k) (.int 0)) (.cmp .Eq (.var i) (.var k))) (.cons (.ret (.var i)) .nil) .nil) (.cons (.ifs (.cmp .Eq (.var i) (.int 0)) (.cons (.ret (.var k)) .nil) .nil) rest)) (pl ds) μ = some (.rt (.int (sg2 U V Z)) μ) := by
  have vi : ev F (.var i) (pl ds) μ = some (.int U, μ) := by
    unfold ev
    rw [pl_get, hi]
    rfl
  have vk : ev F (.var k) (pl ds) μ = some (.int V, μ) := by
    unfold ev
    rw [pl_get, hk]
    rfl
  have ck : ev F (.cmp .Eq (.var k) (.int 0)) (pl ds) μ = some (.bl (decide (V = 0)), μ) := cmp_of vk rfl (eqD_int V 0)
  have cik : ev F (.cmp .Eq (.var i) (.var k)) (pl ds) μ = some (.bl (decide (U = V)), μ) := cmp_of vi vk (eqD_int U V)
  have ci : ev F (.cmp .Eq (.var i) (.int 0)) (pl ds) μ = some (.bl (decide (U = 0)), μ) := cmp_of vi rfl (eqD_int U 0)
  have co : ev F (.or (.cmp .Eq (.var k) (.int 0)) (.cmp .Eq (.var i) (.var k))) (pl ds) μ = some (.bl (decide (V = 0) || decide (U = V)), μ) := by
    unfold ev
    rw [ck]
    show (if decide (V = 0) = true then some (D.bl true, μ) else onBl (ev F (.cmp .Eq (.var i) (.var k)) (pl ds) μ) fun y μ2 => some (.bl y, μ2)) = _
    rw [cik]
    by_cases e : V = 0 <;> simp [e, onBl_bl]
  unfold sg2
  by_cases y1 : V = 0 ∨ U = V
  · rw [if_pos y1]
    refine seq_rt (ifs_t (μ1 := μ) ?_ (seq_rt (ret_of (lk_pl _ _) vi)))
    rw [co]
    rcases y1 with y1 | y1 <;> simp [y1]
  · rw [if_neg y1]
    have y1' := y1
    rw [not_or] at y1'
    refine seq_nx (ifs_f (μ1 := μ) ?_ rfl) ?_
    · rw [co]
      simp [y1'.1, y1'.2]
    · by_cases y2 : U = 0
      · rw [if_pos y2]
        refine seq_rt (ifs_t (μ1 := μ) ?_ (seq_rt (ret_of (lk_pl _ _) vk)))
        rw [ci, decide_eq_true y2]
      · rw [if_neg y2]
        refine seq_nx (ifs_f (μ1 := μ) ?_ rfl) (hr y1 y2)
        rw [ci, decide_eq_false y2]
theorem before_ok {F : Fs} {cs cm ca cg cf ct : Nat} (K : LawF F cs cm ca cg cf) (hT : ∀ {u v p : Int × Int} {ku kv kp : Nat} (μ : Cells), Fq ku u → Fq kv v → Fq kp p → ku + ku ≤ 1800 → kv + kv + kp ≤ 1800 → F ct [fD u, fD v, fD p] μ = some (.int (sgTwo u v p), μ))
    {a b p a' b' q : Int × Int} {ka ka' : Nat} (ha : Fq ka a) (hb : Fq 8 b) (hp : Fq 8 p) (ha' : Fq ka' a') (hb' : Fq 8 b') (hq : Fq 8 q) (l : ka + ka' ≤ 415) (μ : Cells) :
    runFn F W ⟨2, 10, B__law_before cs ct cg cm ca⟩ [t3 a b p, t3 a' b' q] μ = some (.int (befF a b p a' b' q), μ) := by
  have hu := ha.sub ha'
  have ht := (fq01' 6).sub hb'
  have u1 := K.sub a a' μ (ha.mono (by omega)) (ha'.mono (by omega))
  have t1 := K.sub (0, 1) b' μ ((fq01' 6).mono (by omega)) (hb'.mono (by omega))
  generalize hU0 : subF a a' = u at *
  generalize hT0 : subF (0, 1) b' = t at *
  have f1 := hT μ hu hb hp (by omega) (by omega)
  have g1 := K.sgn t μ
  have m1 := K.mul u u μ (hu.mono (by omega)) (hu.mono (by omega))
  have m2 := K.mul b b μ (hb.mono (by omega)) (hb.mono (by omega))
  have m3 := K.mul (mulF b b) p μ ((hb.mul hb).mono (by omega)) (hp.mono (by omega))
  have m4 := K.mul t t μ (ht.mono (by omega)) (ht.mono (by omega))
  have m5 := K.mul (mulF t t) q μ ((ht.mul ht).mono (by omega)) (hq.mono (by omega))
  have s1 := (hu.mul hu).add ((hb.mul hb).mul hp)
  have s2 := s1.sub ((ht.mul ht).mul hq)
  have a1 := K.add (mulF u u) (mulF (mulF b b) p) μ ((hu.mul hu).mono (by omega)) (((hb.mul hb).mul hp).mono (by omega))
  have a2 := K.sub (addF (mulF u u) (mulF (mulF b b) p)) (mulF (mulF t t) q) μ (s1.mono (by omega)) (((ht.mul ht).mul hq).mono (by omega))
  have m6 := K.mul u b μ (hu.mono (by omega)) (hb.mono (by omega))
  have m7 := K.mul (2, 1) (mulF u b) μ ((fq21' 6).mono (by omega)) ((hu.mul hb).mono (by omega))
  have f2 := hT μ s2 ((fq21' 6).mul (hu.mul hb)) hp (by omega) (by omega)
  have z1 := sgTwo_abs u b p
  have z2 := sgTwo_abs (sqF u b p t q) (mulF (2, 1) (mulF u b)) p
  have om := mul_abs1 z1 z2
  have e : befF a b p a' b' q = sg2 (sgTwo u b p) (if 0 < q.1 then sgI t.1 else 0) (sgTwo (sqF u b p t q) (mulF (2, 1) (mulF u b)) p) := by
    unfold befF
    rw [hU0, hT0]
  rw [e]
  have s8 : ∀ V : Int, (if 0 < q.1 then sgI t.1 else 0) = V → exec F W (.par 8 9 (.call ct (.cons (.var 4) (.cons (.var 5) (.cons (.var 6) .nil)))) (.ife (.cmp .Gt (.ix (.var 7) (.int 0)) (.int 0)) (.call cg (.cons (.var 2) .nil)) (.int 0))) (pl [some (t3 a b p), some (t3 a' b' q), some (fD t), none, some (fD u), some (fD b), some (fD p), some (fD q), none, none]) μ = some (.nx (pl [some (t3 a b p), some (t3 a' b' q), some (fD t), none, some (fD u), some (fD b), some (fD p), some (fD q), some (.int (sgTwo u b p)), some (.int V)]) μ) := fun V e => by
    by_cases z : 0 < q.1
    · rw [if_pos z] at e
      subst e
      walk_at "go"
      simp [f1, g1, z, andThen_some', wthD_some', onBl_bl, pl_set]
    · rw [if_neg z] at e
      subst e
      walk_at "go"
      simp [f1, g1, z, andThen_some', wthD_some', onBl_bl, pl_set]
  have s8 := s8 _ rfl
  generalize (if 0 < q.1 then sgI t.1 else 0) = V at *
  generalize hSQ : sgTwo (sqF u b p t q) (mulF (2, 1) (mulF u b)) p = Z at *
  generalize sgTwo u b p = U at *
  refine run_rt rfl (Nat.le_of_ble_eq_true rfl) (seq_nx (ρ1 := pl [some (t3 a b p), some (t3 a' b' q), none, none, some (fD u), some (fD b), some (fD p), some (fD q), none, none]) (μ1 := μ) ?_ (seq_nx (ρ1 := pl [some (t3 a b p), some (t3 a' b' q), some (fD t), none, some (fD u), some (fD b), some (fD p), some (fD q), none, none]) (μ1 := μ) ?_ (seq_nx s8 (sg2_tail rfl rfl fun _ _ => ?_))))
  · show exec F W _ (pl [some (t3 a b p), some (t3 a' b' q), none, none, none, none, none, none, none, none]) μ = _
    walk_at "go"
    simp [u1, andThen_some', wthD_some', szle, setAll_pl, setAllD]
  · walk_at "go"
    simp [t1, andThen_some', wthD_some', szle, pl_set]
  · refine seq_nx (ρ1 := pl [some (t3 a b p), some (t3 a' b' q), some (fD t), some (fD (sqF u b p t q)), some (fD u), some (fD b), some (fD p), some (fD q), some (.int U), some (.int V)]) (μ1 := μ) ?_ (seq_rt ?_)
    · walk_at "go"
      simp [m1, m2, m3, m4, m5, a1, a2, andThen_some', wthD_some', szle, pl_set]
    · walk_at "go"
      simp [m6, m7, f2, om, andThen_some', wthD_some', szle]
end FM

set_option Elab.async false
set_option linter.all false
set_option maxRecDepth 100000
set_option maxHeartbeats 4000000
/-! N14: fractions between times. -/
namespace FM
open PySem (Str sizeLine)
open L2 (atI ixN Key)
open PySem.Spec PyProof.Rows
local macro_rules | `(tactic| walk_at "go") => `(tactic| simp [FM.execs, FM.exec, FM.ev, FM.evs, FM.evo, FM.evc, FM.evi, FM.Sl.d, FM.isiD, FM.cmpD, FM.negD, FM.bindT, FM.andThen_some', FM.onBl_bl, FM.wthD_some', FM.eqD_int, FM.ix_tup, FM.ix_lst, FM.atI_0, FM.atI_1, FM.atI_2, FM.op_add, FM.op_sub, FM.op_subBl, FM.biD_abs, FM.szle, FM.pl_get, FM.pl_set, FM.isOw_pl, FM.noOw_pl, FM.lk_pl, FM.lks_pl, FM.itlk_pl, FM.setAll_pl, FM.setAllD])
/-- a time of fractions, its parts -/
structure T8 where
  a : Int × Int
  b : Int × Int
  p : Int × Int
  fa : Fq 8 a
  fb : Fq 8 b
  fp : Fq 8 p
def T8.D (x : T8) : FM.D := t3 x.a x.b x.p
def oT : Option T8 → FM.D
  | none => .non
  | some x => x.D
abbrev plD (f : Int × Int) : FM.D := t3 f (0, 1) (0, 1)
def bp (f : Int × Int) (x : T8) : Int := befF f (0, 1) (0, 1) x.a x.b x.p
def pb (x : T8) (f : Int × Int) : Int := befF x.a x.b x.p f (0, 1) (0, 1)
structure BtF (F : Fs) (cb cp cf : Nat) : Prop where
  bp : ∀ (f : Int × Int) (x : T8) (μ : Cells), Fq 405 f → F cb [plD f, x.D] μ = some (.int (bp f x), μ)
  pb : ∀ (f : Int × Int) (x : T8) (μ : Cells), Fq 405 f → F cb [x.D, plD f] μ = some (.int (pb x f), μ)
  pl : ∀ (f : Int × Int) (μ : Cells), F cp [fD f] μ = some (plD f, μ)
  fr : LFracC F cf
/-- where the middle goes -/
def cnd (one other : Option T8) (m k : Int) : Bool := match one with
  | some x => decide (bp (fr m k) x ≤ 0)
  | none => match other with
    | some y => decide (bp (fr (m + 1) k) y < 0)
    | none => false
def sW : E := (.or (.and (.cmp .IsNot (.var 0) .non) (.cmp .LtE (.call 0 .nil) (.int 0))) (.and (.cmp .Is (.var 0) .non) (.bl true)))
theorem is_t8 (x : T8) : isNon x.D = false := rfl
section
variable {F : Fs} {cb cp cf : Nat} (K : BtF F cb cp cf) (one other : Option T8) (hs : one ≠ none ∨ other ≠ none)
def eC (cb cp cf : Nat) : E := (.or (.and (.cmp .IsNot (.var 0) .non) (.cmp .LtE (.call cb (.cons (.call cp (.cons (.call cf (.cons (.var 8) (.cons (.var 2) .nil))) .nil)) (.cons (.var 0) .nil))) (.int 0))) (.and (.cmp .Is (.var 0) .non) (.cmp .Lt (.call cb (.cons (.call cp (.cons (.call cf (.cons (.op .Add (.var 8) (.int 1)) (.cons (.var 2) .nil))) .nil)) (.cons (.var 1) .nil))) (.int 0))))
include K hs
theorem cnd_ev {m k : Int} {o3 o4 o5 o6 o7 : Option D} (hm : Sm 404 m) (hm1 : Sm 404 (m + 1)) (hk : Sm 404 k) (k0 : 0 < k) (μ : Cells) : ev F (eC cb cp cf) (pl [some (oT one), some (oT other), some (.int k), o3, o4, o5, o6, o7, some (.int m)]) μ = some (.bl (cnd one other m k), μ) := by
  have dn : Dn k := ⟨hk.mono (by decide), .inl k0⟩
  have f1 := K.fr m k μ (hm.mono (by decide)) dn
  have f2 := K.fr (m + 1) k μ (hm1.mono (by decide)) dn
  have q1 : Fq 405 (fr m k) := (fr_fq hm hk (by omega)).mono (by decide)
  have q2 : Fq 405 (fr (m + 1) k) := (fr_fq hm1 hk (by omega)).mono (by decide)
  have p1 := K.pl (fr m k) μ
  have p2 := K.pl (fr (m + 1) k) μ
  unfold eC
  cases one with
  | some x =>
    have b := K.bp (fr m k) x μ q1
    show ev F _ (pl [some x.D, some (oT other), some (.int k), o3, o4, o5, o6, o7, some (.int m)]) μ = some (.bl (decide (bp (fr m k) x ≤ 0)), μ)
    have nx : isNon x.D = false := rfl
    generalize x.D = X at *
    generalize oT other = Y at *
    generalize bp (fr m k) x = B at *
    walk_at "go"
    simp [nx, f1, p1, b, andThen_some', wthD_some', onBl_bl, cmpD]
    split <;> simp_all
  | none =>
    cases other with
    | none => simp at hs
    | some y =>
      have b := K.bp (fr (m + 1) k) y μ q2
      show ev F _ (pl [some .non, some y.D, some (.int k), o3, o4, o5, o6, o7, some (.int m)]) μ = some (.bl (decide (bp (fr (m + 1) k) y < 0)), μ)
      generalize y.D = Y at *
      generalize bp (fr (m + 1) k) y = B at *
      walk_at "go"
      simp [isNon, f2, p2, b, andThen_some', wthD_some', onBl_bl, cmpD, op_add]
def bWh (cb cp cf : Nat) : Ss := (.cons (.asg 8 (.op .FloorDiv (.op .Add (.var 6) (.var 7)) (.int 2))) (.cons (.ifs (eC cb cp cf) (.cons (.asg 6 (.var 8)) .nil) (.cons (.asg 7 (.var 8)) .nil)) .nil))
theorem half_loop {k B : Int} (hk : Sm 404 k) (k0 : 0 < k) (hB : Sm 403 B) {o3 o4 o5 : Option D} (μ : Cells) (I : Int → Int → Prop) (hI : ∀ l h m : Int, I l h → (cnd one other m k = true → I m h) ∧ (cnd one other m k = false → I l m)) :
    ∀ (n : Nat) (l h : Int) (o8 : Option D), I l h → -B ≤ l → h ≤ B → l < h → (h - l).toNat < n → ∃ (l' h' : Int) (o8' : Option D), whileF (fun ρ' μ' => onBl (ev F (.cmp .Gt (.op .Sub (.var 7) (.var 6)) (.int 1)) ρ' μ') fun x μ1 => some (x, μ1)) (fun ρ' μ' => execs F W (bWh cb cp cf) ρ' μ') n (pl [some (oT one), some (oT other), some (.int k), o3, o4, o5, some (.int l), some (.int h), o8]) μ = some (.nx (pl [some (oT one), some (oT other), some (.int k), o3, o4, o5, some (.int l'), some (.int h'), o8']) μ) ∧
      I l' h' ∧ -B ≤ l' ∧ h' ≤ B ∧ l' < h'
  | 0, l, h, o8, _, _, _, _, hn => by omega
  | n + 1, l, h, o8, i, b1, b2, lt, hn => by
    have c : onBl (ev F (.cmp .Gt (.op .Sub (.var 7) (.var 6)) (.int 1)) (pl [some (oT one), some (oT other), some (.int k), o3, o4, o5, some (.int l), some (.int h), o8]) μ) (fun x μ1 => some (x, μ1)) = some (decide (1 < h - l), μ) := by
      walk_at "go"
    by_cases z : 1 < h - l
    · rw [decide_eq_true z] at c
      have d2 : Dv 2 := .inl (by decide)
      have md : (l + h).fdiv 2 = (l + h) / 2 := Int.fdiv_eq_ediv_of_nonneg _ (by decide)
      have m1 : l < (l + h) / 2 := by omega
      have m2 : (l + h) / 2 < h := by omega
      have s1 : Sm 404 ((l + h) / 2) := by unfold Sm at *; have : 2 ^ 403 < 2 ^ 404 := Nat.pow_lt_pow_right (by decide) (by decide); omega
      have s2 : Sm 404 ((l + h) / 2 + 1) := by unfold Sm at *; have : 2 ^ 403 < 2 ^ 404 := Nat.pow_lt_pow_right (by decide) (by decide); omega
      have ce := cnd_ev K one other hs (o3 := o3) (o4 := o4) (o5 := o5) (o6 := some (.int l)) (o7 := some (.int h)) s1 s2 hk k0 μ
      have hi := hI l h ((l + h) / 2) i
      have a8 : exec F W (.asg 8 (.op .FloorDiv (.op .Add (.var 6) (.var 7)) (.int 2))) (pl [some (oT one), some (oT other), some (.int k), o3, o4, o5, some (.int l), some (.int h), o8]) μ = some (.nx (pl [some (oT one), some (oT other), some (.int k), o3, o4, o5, some (.int l), some (.int h), some (.int ((l + h) / 2))]) μ) := by
        have od := op_div (l + h) d2
        rw [md] at od
        walk_at "go"
        simp [od, andThen_some', wthD_some', pl_set]
      generalize (l + h) / 2 = m at *
      cases e : cnd one other m k with
      | true =>
        rw [e] at ce
        have b : execs F W (bWh cb cp cf) (pl [some (oT one), some (oT other), some (.int k), o3, o4, o5, some (.int l), some (.int h), o8]) μ = some (.nx (pl [some (oT one), some (oT other), some (.int k), o3, o4, o5, some (.int m), some (.int h), some (.int m)]) μ) := by
          refine seq_nx a8 (seq_nx (ifs_t ce (seq_nx (ρ1 := pl [some (oT one), some (oT other), some (.int k), o3, o4, o5, some (.int m), some (.int h), some (.int m)]) (μ1 := μ) ?_ rfl)) rfl)
          walk_at "go"
        rw [whileF_nx c b]
        exact half_loop hk k0 hB μ I hI n m h _ (hi.1 e) (by omega) b2 m2 (by omega)
      | false =>
        rw [e] at ce
        have b : execs F W (bWh cb cp cf) (pl [some (oT one), some (oT other), some (.int k), o3, o4, o5, some (.int l), some (.int h), o8]) μ = some (.nx (pl [some (oT one), some (oT other), some (.int k), o3, o4, o5, some (.int l), some (.int m), some (.int m)]) μ) := by
          refine seq_nx a8 (seq_nx (ifs_f ce (seq_nx (ρ1 := pl [some (oT one), some (oT other), some (.int k), o3, o4, o5, some (.int l), some (.int m), some (.int m)]) (μ1 := μ) ?_ rfl)) rfl)
          walk_at "go"
        rw [whileF_nx c b]
        exact half_loop hk k0 hB μ I hI n l m _ (hi.2 e) b1 (by omega) m1 (by omega)
    · rw [decide_eq_false z] at c
      exact ⟨l, h, o8, whileF_no c, i, b1, b2, lt⟩
def gOne : Option T8 → Int × Int → Bool
  | none, _ => true
  | some x, f => decide (pb x f < 0)
def gOth : Option T8 → Int × Int → Bool
  | none, _ => true
  | some x, f => decide (bp f x < 0)
def pk : Option T8 → Int × Int → Int × Int → Int × Int
  | none, _, l => l
  | some _, h, _ => h
/-- whether a fraction is good -/
def gd (one other : Option T8) (f : Int × Int) : Bool := gOne one f && gOth other f
def eG (cb cp : Nat) : E := (.and (.or (.cmp .Is (.var 0) .non) (.cmp .Lt (.call cb (.cons (.var 0) (.cons (.call cp (.cons (.var 4) .nil)) .nil))) (.int 0))) (.or (.cmp .Is (.var 1) .non) (.cmp .Lt (.call cb (.cons (.call cp (.cons (.var 4) .nil)) (.cons (.var 1) .nil))) (.int 0))))
omit hs in
theorem gd_ev {f : Int × Int} (hf : Fq 405 f) {o2 o3 o5 o6 o7 o8 : Option D} (μ : Cells) : ev F (eG cb cp) (pl [some (oT one), some (oT other), o2, o3, some (fD f), o5, o6, o7, o8]) μ = some (.bl (gd one other f), μ) := by
  have p := K.pl f μ
  have part1 : ev F (.or (.cmp .Is (.var 0) .non) (.cmp .Lt (.call cb (.cons (.var 0) (.cons (.call cp (.cons (.var 4) .nil)) .nil))) (.int 0))) (pl [some (oT one), some (oT other), o2, o3, some (fD f), o5, o6, o7, o8]) μ = some (.bl (gOne one f), μ) := by
    cases one with
    | none =>
      show ev F _ (pl [some .non, some (oT other), o2, o3, some (fD f), o5, o6, o7, o8]) μ = some (.bl true, μ)
      walk_at "go"
      simp [isNon]
    | some x =>
      have b := K.pb f x μ hf
      show ev F _ (pl [some x.D, some (oT other), o2, o3, some (fD f), o5, o6, o7, o8]) μ = some (.bl (decide (pb x f < 0)), μ)
      have nx : isNon x.D = false := rfl
      generalize x.D = X at *
      generalize pb x f = B at *
      walk_at "go"
      simp [nx, p, b, andThen_some', wthD_some', onBl_bl, cmpD]
  have part2 : ev F (.or (.cmp .Is (.var 1) .non) (.cmp .Lt (.call cb (.cons (.call cp (.cons (.var 4) .nil)) (.cons (.var 1) .nil))) (.int 0))) (pl [some (oT one), some (oT other), o2, o3, some (fD f), o5, o6, o7, o8]) μ = some (.bl (gOth other f), μ) := by
    cases other with
    | none =>
      show ev F _ (pl [some (oT one), some .non, o2, o3, some (fD f), o5, o6, o7, o8]) μ = some (.bl true, μ)
      walk_at "go"
      simp [isNon]
    | some x =>
      have b := K.bp f x μ hf
      show ev F _ (pl [some (oT one), some x.D, o2, o3, some (fD f), o5, o6, o7, o8]) μ = some (.bl (decide (bp f x < 0)), μ)
      have nx : isNon x.D = false := rfl
      generalize x.D = X at *
      generalize bp f x = B at *
      walk_at "go"
      simp [nx, p, b, andThen_some', wthD_some', onBl_bl, cmpD]
  unfold eG ev
  rw [part1]
  unfold gd
  generalize gOne one f = d1 at *
  rw [onBl_bl, part2]
  cases d1 <;> simp [onBl_bl]
def bTn (cb cp cf : Nat) : Ss := (.cons (.par 6 7 (.op .Sub (.op .Mult (.op .Mult (.neg (.int 4)) (.var 2)) (.var 2)) (.int 4)) (.op .Add (.op .Mult (.op .Mult (.int 4) (.var 2)) (.var 2)) (.int 4))) (.cons (.whl (.cmp .Gt (.op .Sub (.var 7) (.var 6)) (.int 1)) (bWh cb cp cf)) (.cons (.asg 4 (.ife (.cmp .IsNot (.var 0) .non) (.call cf (.cons (.var 7) (.cons (.var 2) .nil))) (.call cf (.cons (.var 6) (.cons (.var 2) .nil))))) (.cons (.asg 5 (eG cb cp)) (.cons (.ifs (.var 5) (.cons (.ret (.var 4)) .nil) .nil) (.cons (.asg 2 (.op .Mult (.int 2) (.var 2))) .nil))))))
/-- one turn: a good fraction, or twice the parts -/
theorem turn_bt {k : Int} (hk : Sm 200 k) (k0 : 0 < k) {o3 o4 o5 o6 o7 o8 : Option D} (μ : Cells) (I : Int → Int → Prop) (hI : ∀ l h m : Int, I l h → (cnd one other m k = true → I m h) ∧ (cnd one other m k = false → I l m)) (i0 : I (-4 * k * k - 4) (4 * k * k + 4)) :
    ∃ l h : Int, I l h ∧ (-(4 * k * k + 4) ≤ l ∧ h ≤ 4 * k * k + 4 ∧ l < h) ∧ ∃ f : Int × Int, f = pk one (fr h k) (fr l k) ∧ Fq 405 f ∧
      if gd one other f = true then execs F W (bTn cb cp cf) (pl [some (oT one), some (oT other), some (.int k), o3, o4, o5, o6, o7, o8]) μ = some (.rt (fD f) μ)
      else ∃ p4 p5 p6 p7 p8 : Option D, execs F W (bTn cb cp cf) (pl [some (oT one), some (oT other), some (.int k), o3, o4, o5, o6, o7, o8]) μ = some (.nx (pl [some (oT one), some (oT other), some (.int (2 * k)), o3, p4, p5, p6, p7, p8]) μ) := by
  have s4 : Sm 3 (4 : Int) := by unfold Sm; decide
  have e1 := op_mul (a := -4) (b := k) (s4.neg) hk (by decide)
  have e2 := op_mul (s4.neg.mul hk) hk (by decide)
  have e3 := op_mul s4 hk (by decide)
  have e4 := op_mul (s4.mul hk) hk (by decide)
  have e5 := op_mul (j := 3) (a := 2) (by unfold Sm; decide) hk (by decide)
  have kk : Sm 400 (k * k) := hk.mul hk
  have bB : Sm 403 (4 * k * k + 4) := by
    have p1 := Int.mul_pos k0 k0
    unfold Sm at *
    have : 4 * k * k = 4 * (k * k) := Int.mul_assoc 4 k k
    have q : 2 ^ 403 = 8 * 2 ^ 400 := by rw [show 403 = 3 + 400 from rfl, Nat.pow_add]
    omega
  have p1 := Int.mul_pos k0 k0
  have a4 : 4 * k * k = 4 * (k * k) := Int.mul_assoc 4 k k
  have a4' : -4 * k * k = -4 * (k * k) := Int.mul_assoc (-4) k k
  have w : (4 * k * k + 4 - (-4 * k * k - 4)).toNat < W := by
    unfold Sm at bB
    have : 2 ^ 403 * 4 ≤ W := by
      show 2 ^ 403 * 2 ^ 2 ≤ 2 ^ 4100
      rw [← Nat.pow_add]
      exact Nat.pow_le_pow_right (by decide) (by decide)
    omega
  obtain ⟨l, h, o8', c1, i1, b1, b2, lt⟩ := half_loop K one other hs (hk.mono (by decide)) k0 bB (o3 := o3) (o4 := o4) (o5 := o5) μ I hI W (-4 * k * k - 4) (4 * k * k + 4) o8 i0 (by omega) (Int.le_refl _) (by omega) w
  have sl : Sm 404 l := by unfold Sm at *; have : 2 ^ 403 < 2 ^ 404 := Nat.pow_lt_pow_right (by decide) (by decide); omega
  have sh : Sm 404 h := by unfold Sm at *; have : 2 ^ 403 < 2 ^ 404 := Nat.pow_lt_pow_right (by decide) (by decide); omega
  have dn : Dn k := ⟨hk.mono (by decide), .inl k0⟩
  have st1 : exec F W (.par 6 7 (.op .Sub (.op .Mult (.op .Mult (.neg (.int 4)) (.var 2)) (.var 2)) (.int 4)) (.op .Add (.op .Mult (.op .Mult (.int 4) (.var 2)) (.var 2)) (.int 4))) (pl [some (oT one), some (oT other), some (.int k), o3, o4, o5, o6, o7, o8]) μ = some (.nx (pl [some (oT one), some (oT other), some (.int k), o3, o4, o5, some (.int (-4 * k * k - 4)), some (.int (4 * k * k + 4)), o8]) μ) := by
    generalize oT one = X at *
    generalize oT other = Y at *
    walk_at "go"
    simp [e1, e2, e3, e4, andThen_some', wthD_some', op_sub, op_add, pl_set]
  have f1 := K.fr h k μ (sh.mono (by decide)) dn
  have f2 := K.fr l k μ (sl.mono (by decide)) dn
  have st3 : exec F W (.asg 4 (.ife (.cmp .IsNot (.var 0) .non) (.call cf (.cons (.var 7) (.cons (.var 2) .nil))) (.call cf (.cons (.var 6) (.cons (.var 2) .nil))))) (pl [some (oT one), some (oT other), some (.int k), o3, o4, o5, some (.int l), some (.int h), o8']) μ = some (.nx (pl [some (oT one), some (oT other), some (.int k), o3, some (fD (pk one (fr h k) (fr l k))), o5, some (.int l), some (.int h), o8']) μ) := by
    cases one with
    | none =>
      show exec F W _ (pl [some .non, some (oT other), some (.int k), o3, o4, o5, some (.int l), some (.int h), o8']) μ = some (.nx (pl [some .non, some (oT other), some (.int k), o3, some (fD (fr l k)), o5, some (.int l), some (.int h), o8']) μ)
      generalize oT other = Y at *
      walk_at "go"
      simp [isNon, f2, andThen_some', pl_set]
    | some x =>
      show exec F W _ (pl [some x.D, some (oT other), some (.int k), o3, o4, o5, some (.int l), some (.int h), o8']) μ = some (.nx (pl [some x.D, some (oT other), some (.int k), o3, some (fD (fr h k)), o5, some (.int l), some (.int h), o8']) μ)
      have nx : isNon x.D = false := rfl
      generalize x.D = X at *
      generalize oT other = Y at *
      walk_at "go"
      simp [nx, f1, andThen_some', pl_set]
  have qf : Fq 405 (pk one (fr h k) (fr l k)) := by
    cases one with
    | none => exact (fr_fq sl (hk.mono (by decide)) (by omega)).mono (by decide)
    | some x => exact (fr_fq sh (hk.mono (by decide)) (by omega)).mono (by decide)
  refine ⟨l, h, i1, ⟨b1, b2, lt⟩, _, rfl, qf, ?_⟩
  generalize (pk one (fr h k) (fr l k)) = f at *
  have g := gd_ev K one other qf (o2 := some (.int k)) (o3 := o3) (o5 := o5) (o6 := some (.int l)) (o7 := some (.int h)) (o8 := o8') μ
  have st4 : exec F W (.asg 5 (eG cb cp)) (pl [some (oT one), some (oT other), some (.int k), o3, some (fD f), o5, some (.int l), some (.int h), o8']) μ = some (.nx (pl [some (oT one), some (oT other), some (.int k), o3, some (fD f), some (.bl (gd one other f)), some (.int l), some (.int h), o8']) μ) := asg_pl g
  split
  · rename_i z
    rw [z] at st4
    exact seq_nx st1 (seq_nx (whl_of c1) (seq_nx st3 (seq_nx st4 (seq_rt (ifs_t (μ1 := μ) rfl (seq_rt (ret_of (lk_pl _ _) rfl)))))))
  · rename_i z
    have z' : gd one other f = false := by simpa using z
    rw [z'] at st4
    refine ⟨_, _, _, _, _, seq_nx st1 (seq_nx (whl_of c1) (seq_nx st3 (seq_nx st4 (seq_nx (ifs_f (μ1 := μ) rfl rfl) (seq_nx (ρ1 := pl [some (oT one), some (oT other), some (.int (2 * k)), o3, some (fD f), some (.bl false), some (.int l), some (.int h), o8']) (μ1 := μ) ?_ rfl)))))⟩
    generalize oT one = X at *
    generalize oT other = Y at *
    walk_at "go"
    simp [e5, andThen_some', wthD_some', pl_set]
end
end FM

set_option Elab.async false
set_option linter.all false
set_option maxRecDepth 100000
set_option maxHeartbeats 4000000
/-! N15: fractions between times: the whole. -/
namespace FM
open PySem (Str sizeLine)
open L2 (atI ixN Key)
open PySem.Spec PyProof.Rows
local macro_rules | `(tactic| walk_at "go") => `(tactic| simp [FM.execs, FM.exec, FM.ev, FM.evs, FM.evo, FM.evc, FM.evi, FM.Sl.d, FM.isiD, FM.cmpD, FM.negD, FM.bindT, FM.andThen_some', FM.onBl_bl, FM.wthD_some', FM.eqD_int, FM.ix_tup, FM.ix_lst, FM.atI_0, FM.atI_1, FM.atI_2, FM.op_add, FM.op_sub, FM.op_subBl, FM.biD_abs, FM.szle, FM.pl_get, FM.pl_set, FM.isOw_pl, FM.noOw_pl, FM.lk_pl, FM.lks_pl, FM.itlk_pl, FM.setAll_pl, FM.setAllD])
section
variable {F : Fs} {cb cp cf : Nat} (K : BtF F cb cp cf) (one other : Option T8) (hs : one ≠ none ∨ other ≠ none)
include K hs
theorem bt_loop (μ : Cells) (I : Int → Int → Int → Prop) (hI : ∀ k l h m : Int, 0 < k → I k l h → (cnd one other m k = true → I k m h) ∧ (cnd one other m k = false → I k l m)) (i0 : ∀ k : Int, 0 < k → I k (-4 * k * k - 4) (4 * k * k + 4)) :
    ∀ (ys : List D) (q : Nat) (o3 o4 o5 o6 o7 o8 : Option D), ys = (rngD 0 200).drop q → q ≤ 200 →
      (∃ f, forF (.nm 3) (fun ρ' μ' => execs F W (bTn cb cp cf) ρ' μ') ys (pl [some (oT one), some (oT other), some (.int (2 ^ q)), o3, o4, o5, o6, o7, o8]) μ = some (.rt (fD f) μ) ∧ Fq 405 f ∧ gd one other f = true ∧ ∃ (q' : Nat) (m : Int), f = fr m (2 ^ q') ∧ (m.natAbs : Int) ≤ 4 * 2 ^ q' * 2 ^ q' + 4 ∧ ((∀ l h, I 4 l h → gd one other (pk one (fr h 4) (fr l 4)) = true) → q' ≤ 2 ∨ 2 < q)) ∨
      ∃ ρ', forF (.nm 3) (fun ρ' μ' => execs F W (bTn cb cp cf) ρ' μ') ys (pl [some (oT one), some (oT other), some (.int (2 ^ q)), o3, o4, o5, o6, o7, o8]) μ = some (.nx ρ' μ) ∧ ((∀ l h, I 4 l h → gd one other (pk one (fr h 4) (fr l 4)) = true) → 2 < q) := by
  intro ys
  induction ys with
  | nil =>
    intro q o3 o4 o5 o6 o7 o8 h hq
    refine .inr ⟨_, rfl, fun _ => ?_⟩
    have := congrArg List.length h
    rw [List.length_drop, rng_len] at this
    simp at this
    omega
  | cons y ys ih =>
    intro q o3 o4 o5 o6 o7 o8 h hq
    obtain ⟨q1, q2, q3⟩ := rng_drop h
    rw [Int.zero_add] at q2
    subst q2 q3
    have k0 : (0 : Int) < 2 ^ q := Int.pow_pos (by decide)
    have hk : Sm 200 ((2 : Int) ^ q) := by
      unfold Sm
      rw [Int.natAbs_pow]
      exact Nat.pow_lt_pow_right (by decide) q1
    obtain ⟨l, h', i1, ib, f, f1, f2, st⟩ := turn_bt K one other hs hk k0 (o3 := some (.int q)) (o4 := o4) (o5 := o5) (o6 := o6) (o7 := o7) (o8 := o8) μ (I (2 ^ q)) (fun l h m i => hI _ l h m k0 i) (i0 _ k0)
    by_cases g : gd one other f = true
    · rw [if_pos g] at st
      have mm : ∃ m : Int, f = fr m (2 ^ q) ∧ (m.natAbs : Int) ≤ 4 * 2 ^ q * 2 ^ q + 4 := by
        cases one with
        | none => exact ⟨l, f1, by omega⟩
        | some x => exact ⟨h', f1, by omega⟩
      obtain ⟨m, m1, m2⟩ := mm
      refine .inl ⟨f, ?_, f2, g, q, m, m1, m2, fun _ => by omega⟩
      unfold forF
      show (match execs F W (bTn cb cp cf) (pl [some (oT one), some (oT other), some (.int (2 ^ q)), some (.int q), o4, o5, o6, o7, o8]) μ with | none => none | some (.nx ρ2 μ2) => _ | some (.ct ρ2 μ2) => _ | some (.bk ρ2 μ2) => _ | some (.rt d μ2) => _) = _
      rw [st]
    · rw [if_neg g] at st
      obtain ⟨p4, p5, p6, p7, p8, st⟩ := st
      have e2 : (2 : Int) * 2 ^ q = 2 ^ (q + 1) := by rw [Int.pow_succ, Int.mul_comm]
      rw [e2] at st
      have step : forF (.nm 3) (fun ρ' μ' => execs F W (bTn cb cp cf) ρ' μ') (.int q :: (rngD 0 200).drop (q + 1)) (pl [some (oT one), some (oT other), some (.int (2 ^ q)), o3, o4, o5, o6, o7, o8]) μ = forF (.nm 3) (fun ρ' μ' => execs F W (bTn cb cp cf) ρ' μ') ((rngD 0 200).drop (q + 1)) (pl [some (oT one), some (oT other), some (.int (2 ^ (q + 1))), some (.int q), p4, p5, p6, p7, p8]) μ := by
        conv => lhs; unfold forF
        show (match execs F W (bTn cb cp cf) (pl [some (oT one), some (oT other), some (.int (2 ^ q)), some (.int q), o4, o5, o6, o7, o8]) μ with | none => none | some (.nx ρ2 μ2) => _ | some (.ct ρ2 μ2) => _ | some (.bk ρ2 μ2) => _ | some (.rt d μ2) => _) = _
        rw [st]
      rw [step]
      rcases ih (q + 1) (some (.int q)) p4 p5 p6 p7 p8 rfl (by omega) with ⟨f', g1, g2, g3, q', m, g4, g5, g6⟩ | ⟨ρ', e1, e3⟩
      · refine .inl ⟨f', g1, g2, g3, q', m, g4, g5, fun hg => ?_⟩
        rcases g6 hg with z | z
        · exact .inl z
        · rcases Nat.lt_or_ge 2 q with z2 | z2
          · exact .inr z2
          · have e : q = 2 := by omega
            subst e
            have i1' : I 4 l h' := i1
            have gg := hg l h' i1'
            have f1' : f = pk one (fr h' 4) (fr l 4) := f1
            rw [← f1'] at gg
            exact absurd gg g
      · refine .inr ⟨ρ', e1, fun hg => ?_⟩
        have := e3 hg
        rcases Nat.lt_or_ge 2 q with z | z
        · exact z
        · have e : q = 2 := by omega
          subst e
          have i1' : I 4 l h' := i1
          have g2 := hg l h' i1'
          have f1' : f = pk one (fr h' 4) (fr l 4) := f1
          rw [← f1'] at g2
          exact absurd g2 g
theorem between_ok (μ : Cells) (I : Int → Int → Int → Prop) (hI : ∀ k l h m : Int, 0 < k → I k l h → (cnd one other m k = true → I k m h) ∧ (cnd one other m k = false → I k l m)) (i0 : ∀ k : Int, 0 < k → I k (-4 * k * k - 4) (4 * k * k + 4)) :
    ∃ res : Option (Int × Int), runFn F W ⟨2, 9, B__law_between cb cp cf⟩ [oT one, oT other] μ = some (frR res, μ) ∧ (∀ f, res = some f → Fq 405 f ∧ gd one other f = true) ∧ ((∀ l h, I 4 l h → gd one other (pk one (fr h 4) (fr l 4)) = true) → ∃ (q : Nat) (m : Int), q ≤ 2 ∧ res = some (fr m (2 ^ q)) ∧ (m.natAbs : Int) ≤ 4 * 2 ^ q * 2 ^ q + 4) := by
  have s1 : exec F W (.asg 2 (.int 1)) (pl [some (oT one), some (oT other), none, none, none, none, none, none, none]) μ = some (.nx (pl [some (oT one), some (oT other), some (.int (2 ^ 0)), none, none, none, none, none, none]) μ) := by
    walk_at "go"
  have s2 : exec F W (.ifs (.and (.cmp .Is (.var 0) .non) (.cmp .Is (.var 1) .non)) (.cons (.ret (.tup (.cons (.int 0) (.cons (.int 1) .nil)))) .nil) .nil) (pl [some (oT one), some (oT other), some (.int (2 ^ 0)), none, none, none, none, none, none]) μ = some (.nx (pl [some (oT one), some (oT other), some (.int (2 ^ 0)), none, none, none, none, none, none]) μ) := by
    refine ifs_f (μ1 := μ) ?_ rfl
    cases one with
    | some x => rfl
    | none =>
      cases other with
      | some y => rfl
      | none => simp at hs
  rcases bt_loop K one other hs μ I hI i0 (rngD 0 200) 0 none none none none none none rfl (by decide) with ⟨f, e1, e2, e3, q', m, m1, m2, m3⟩ | ⟨ρ', e1, e2⟩
  · refine ⟨some f, run_rt rfl (Nat.le_of_ble_eq_true rfl) (seq_nx s1 (seq_nx s2 (seq_rt (for_of (evi_rng (n := 200) rfl (by decide)) rfl e1)))), fun g hg => ?_, fun hg => ⟨q', m, by have := m3 hg; omega, by rw [m1], m2⟩⟩
    cases hg
    exact ⟨e2, e3⟩
  · refine ⟨none, run_rt rfl (Nat.le_of_ble_eq_true rfl) (seq_nx s1 (seq_nx s2 (seq_nx (for_of (evi_rng (n := 200) rfl (by decide)) rfl e1) (seq_rt (ret_of rfl rfl))))), fun g hg => (by cases hg), fun hg => ?_⟩
    have := e2 hg
    omega
end
end FM

set_option Elab.async false
set_option linter.all false
set_option maxRecDepth 100000
set_option maxHeartbeats 4000000
/-! N16: what is a time; same, within, least, sorted. -/
namespace FM
open PySem (Str sizeLine)
open L2 (atI ixN Key)
open PySem.Spec PyProof.Rows
local macro_rules | `(tactic| walk_at "go") => `(tactic| simp [FM.execs, FM.exec, FM.ev, FM.evs, FM.evo, FM.evc, FM.evi, FM.Sl.d, FM.isiD, FM.cmpD, FM.negD, FM.bindT, FM.andThen_some', FM.onBl_bl, FM.wthD_some', FM.eqD_int, FM.ix_tup, FM.ix_lst, FM.atI_0, FM.atI_1, FM.atI_2, FM.op_add, FM.op_sub, FM.op_subBl, FM.biD_abs, FM.szle, FM.pl_get, FM.pl_set, FM.isOw_pl, FM.noOw_pl, FM.lk_pl, FM.lks_pl, FM.itlk_pl, FM.setAll_pl, FM.setAllD])
section
variable {F : Fs} {μ : Cells}
theorem run_pl {fn : Fn} {ds : List D} {μ1 : Cells} {d : D} (h1 : ds.length = fn.ar) (h2 : fn.ar ≤ fn.sl) (h : execs F W fn.body (pl (ds.map some ++ List.replicate (fn.sl - fn.ar) none)) μ = some (.rt d μ1)) : runFn F W fn ds μ = some (d, μ1) := by
  refine run_rt h1 h2 ?_
  rw [start_pl]
  exact h
theorem eqD_nil : eqD (.tup []) (.tup []) = some true := rfl
theorem is_of_ok {cf co : Nat} {d : D} {b : Bool} (h : F cf [d] μ = some (.bl b, μ)) : runFn F W ⟨2, 3, B_is_of cf co⟩ [d, .tup []] μ = some (.bl b, μ) := by
  refine run_rt rfl (Nat.le_of_ble_eq_true rfl) (seq_rt (ifs_t (μ1 := μ) ?_ (seq_rt ?_)))
  · show ev F _ (pl [some d, some (.tup []), none]) μ = _
    exact cmp_of (x := .tup []) (y := .tup []) rfl rfl rfl
  · show exec F W _ (pl [some d, some (.tup []), none]) μ = _
    walk_at "go"
    simp [h, andThen_some']
theorem all3 {co : Nat} {d1 d2 d3 : D} {x1 x2 x3 : Bool} (h1 : F co [d1, .tup []] μ = some (.bl x1, μ)) (h2 : F co [d2, .tup []] μ = some (.bl x2, μ)) (h3 : F co [d3, .tup []] μ = some (.bl x3, μ)) :
    ev F (.bi .all (.cons (.lc (.call co (.cons (.var 2) (.cons (.var 1) .nil))) (.nm 2) (.seq (.var 0)) .none) .nil)) (pl [some (.tup [d1, d2, d3]), some (.tup []), none]) μ = some (.bl (x1 && x2 && x3), μ) := by
  have e : ∀ (d : D) (x : Bool), F co [d, .tup []] μ = some (.bl x, μ) → ev F (.call co (.cons (.var 2) (.cons (.var 1) .nil))) (pl [some (.tup [d1, d2, d3]), some (.tup []), some d]) μ = some (.bl x, μ) := fun d x h => by
    walk_at "go"
    exact h
  have lc : ev F (.lc (.call co (.cons (.var 2) (.cons (.var 1) .nil))) (.nm 2) (.seq (.var 0)) .none) (pl [some (.tup [d1, d2, d3]), some (.tup []), none]) μ = some (.lst [.bl x1, .bl x2, .bl x3], μ) := by
    refine ev_lc (xs := [d1, d2, d3]) (μ1 := μ) rfl (show (3 : Nat) ≤ 16777216 by decide) ?_
    have b : ∀ d : D, bindT (.nm 2) d (pl [some (.tup [d1, d2, d3]), some (.tup []), none]) = some (pl [some (.tup [d1, d2, d3]), some (.tup []), some d]) := fun d => rfl
    simp only [lcGo, b, evc, lk_pl, Bool.false_eq_true, if_false, e _ _ h1, e _ _ h2, e _ _ h3]
  unfold ev
  unfold evs
  rw [lc]
  show wthD (biD μ .all [.lst [.bl x1, .bl x2, .bl x3]]) μ = _
  simp [biD, asBls, wthD_some', Bool.and_assoc]
theorem is_time3_ok {co cs : Nat} {d1 d2 d3 : D} {x1 x2 x3 : Bool} {s : Int} (h1 : F co [d1, .tup []] μ = some (.bl x1, μ)) (h2 : F co [d2, .tup []] μ = some (.bl x2, μ)) (h3 : F co [d3, .tup []] μ = some (.bl x3, μ)) (hs : (x1 && x2 && x3) = true → F cs [d3, .tup []] μ = some (.int s, μ)) :
    runFn F W ⟨2, 3, B_is_time co cs⟩ [.tup [d1, d2, d3], .tup []] μ = some (.bl (x1 && x2 && x3 && decide (0 ≤ s)), μ) := by
  have a := all3 h1 h2 h3
  have c : ev F (.or (.not (.isi (.var 0) .tuple)) (.or (.cmp .NotEq (.bi .len (.cons (.var 0) .nil)) (.int 3)) (.not (.bi .all (.cons (.lc (.call co (.cons (.var 2) (.cons (.var 1) .nil))) (.nm 2) (.seq (.var 0)) .none) .nil))))) (pl [some (.tup [d1, d2, d3]), some (.tup []), none]) μ = some (.bl (!(x1 && x2 && x3)), μ) := by
    have n : ev F (.not (.bi .all (.cons (.lc (.call co (.cons (.var 2) (.cons (.var 1) .nil))) (.nm 2) (.seq (.var 0)) .none) .nil))) (pl [some (.tup [d1, d2, d3]), some (.tup []), none]) μ = some (.bl (!(x1 && x2 && x3)), μ) := by
      unfold ev
      rw [a]
      rfl
    have l : ev F (.cmp .NotEq (.bi .len (.cons (.var 0) .nil)) (.int 3)) (pl [some (.tup [d1, d2, d3]), some (.tup []), none]) μ = some (.bl false, μ) := by
      walk_at "go"
      simp [len_tup, eqD_int, wthD_some', andThen_some']
    have i : ev F (.not (.isi (.var 0) .tuple)) (pl [some (.tup [d1, d2, d3]), some (.tup []), none]) μ = some (.bl false, μ) := by
      walk_at "go"
    unfold ev
    rw [i, onBl_bl, if_neg (by decide)]
    unfold ev
    rw [l, onBl_bl, if_neg (by decide), n]
    rfl
  cases e : (x1 && x2 && x3) with
  | false =>
    rw [e] at c
    exact run_rt rfl (Nat.le_of_ble_eq_true rfl) (seq_rt (ifs_t c (seq_rt (ret_of rfl rfl))))
  | true =>
    rw [e] at c
    have g := hs e
    refine run_rt rfl (Nat.le_of_ble_eq_true rfl) (seq_nx (ifs_f c rfl) (seq_rt ?_))
    show exec F W _ (pl [some (.tup [d1, d2, d3]), some (.tup []), none]) μ = _
    walk_at "go"
    simp [g, andThen_some', wthD_some', cmpD]
theorem plain_time_ok {cn : Nat} {d z : D} {t : D} (h : F cn [t] μ = some (z, μ)) : runFn F W ⟨2, 2, B_plain_time cn⟩ [d, t] μ = some (.tup [d, z, z], μ) := by
  refine run_pl rfl (Nat.le_of_ble_eq_true rfl) (seq_rt ?_)
  walk_at "go"
  simp [h, andThen_some', szle]
theorem law_plain_ok {d : D} : runFn F W ⟨1, 1, B__law_plain⟩ [d] μ = some (.tup [d, fD (0, 1), fD (0, 1)], μ) := by
  refine run_pl rfl (Nat.le_of_ble_eq_true rfl) (seq_rt ?_)
  walk_at "go"
theorem sign_of_time_ok {cc cp cn : Nat} {x t z : D} {s : Int} (h1 : F cn [t] μ = some (z, μ)) (h2 : F cp [z, t] μ = some (.tup [z, z, z], μ)) (h3 : F cc [x, .tup [z, z, z], t] μ = some (.int s, μ)) : runFn F W ⟨2, 2, B_sign_of_time cc cp cn⟩ [x, t] μ = some (.int s, μ) := by
  refine run_pl rfl (Nat.le_of_ble_eq_true rfl) (seq_rt ?_)
  walk_at "go"
  simp [h1, h2, h3, andThen_some']
theorem is_same_ok {cc : Nat} {x y t : D} {s : Int} (h : F cc [x, y, t] μ = some (.int s, μ)) : runFn F W ⟨3, 3, B_is_same_time cc⟩ [x, y, t] μ = some (.bl (decide (s = 0)), μ) := by
  refine run_pl rfl (Nat.le_of_ble_eq_true rfl) (seq_rt ?_)
  walk_at "go"
  simp [h, andThen_some', wthD_some', eqD_int]
/-- within, of ends that may be none -/
def loB : Option Int → Bool
  | none => true
  | some s => decide (s < 0)
def wiB (lo hi : Option Int) : Bool := loB lo && loB hi
theorem is_within_ok {cc : Nat} {x t : D} {one other : D} {lo hi : Option Int} (h1 : match lo with | none => one = .non | some s => isNon one = false ∧ F cc [one, x, t] μ = some (.int s, μ)) (h2 : match hi with | none => other = .non | some s => isNon other = false ∧ F cc [x, other, t] μ = some (.int s, μ)) :
    runFn F W ⟨4, 4, B_is_within cc⟩ [x, one, other, t] μ = some (.bl (wiB lo hi), μ) := by
  have tail : ev F (.or (.cmp .Is (.var 2) .non) (.cmp .Lt (.call cc (.cons (.var 0) (.cons (.var 2) (.cons (.var 3) .nil)))) (.int 0))) (pl [some x, some one, some other, some t]) μ = some (.bl (loB hi), μ) := by
    cases hi with
    | none =>
      simp only at h2
      subst h2
      walk_at "go"
      simp [isNon]
      rfl
    | some s =>
      obtain ⟨n, h⟩ := h2
      walk_at "go"
      simp [n, h, andThen_some', wthD_some', cmpD, onBl_bl]
      rfl
  cases lo with
  | none =>
    simp only at h1
    subst h1
    refine run_rt rfl (Nat.le_of_ble_eq_true rfl) (seq_nx (ifs_f (μ1 := μ) ?_ rfl) (seq_rt (ret_of (lk_pl [some x, some .non, some other, some t] _) ?_)))
    · exact and_ff (isnot_of (x := .non) (μ1 := μ) rfl)
    · show ev F _ _ μ = some (.bl (true && loB hi), μ)
      rw [Bool.true_and]
      exact tail
  | some s =>
    obtain ⟨n, h⟩ := h1
    have c : ev F (.and (.cmp .IsNot (.var 1) .non) (.cmp .GtE (.call cc (.cons (.var 1) (.cons (.var 0) (.cons (.var 3) .nil)))) (.int 0))) (pl [some x, some one, some other, some t]) μ = some (.bl (decide (0 ≤ s)), μ) := by
      refine and_tt (μ1 := μ) ?_ ?_
      · have := isnot_of (F := F) (a := .var 1) (ρ := pl [some x, some one, some other, some t]) (μ := μ) (x := one) (μ1 := μ) rfl
        rwa [n] at this
      · walk_at "go"
        simp [h, andThen_some', wthD_some', cmpD]
    by_cases z : 0 ≤ s
    · rw [decide_eq_true z] at c
      have e : wiB (some s) hi = false := by
        show (decide (s < 0) && loB hi) = false
        rw [decide_eq_false (by omega)]
        rfl
      rw [e]
      exact run_rt rfl (Nat.le_of_ble_eq_true rfl) (seq_rt (ifs_t c (seq_rt (ret_of rfl rfl))))
    · rw [decide_eq_false z] at c
      have e : wiB (some s) hi = loB hi := by
        show (decide (s < 0) && loB hi) = loB hi
        rw [decide_eq_true (show s < 0 by omega), Bool.true_and]
      rw [e]
      exact run_rt rfl (Nat.le_of_ble_eq_true rfl) (seq_nx (ifs_f c rfl) (seq_rt (ret_of (lk_pl [some x, some one, some other, some t] _) tail)))
end
end FM

set_option Elab.async false
set_option linter.all false
set_option maxRecDepth 100000
set_option maxHeartbeats 4000000
/-! N17: times sorted, the least. -/
namespace FM
open PySem (Str sizeLine)
open L2 (atI ixN Key)
open PySem.Spec PyProof.Rows
local macro_rules | `(tactic| walk_at "go") => `(tactic| simp [FM.execs, FM.exec, FM.ev, FM.evs, FM.evo, FM.evc, FM.evi, FM.Sl.d, FM.isiD, FM.cmpD, FM.negD, FM.bindT, FM.andThen_some', FM.onBl_bl, FM.wthD_some', FM.eqD_int, FM.ix_tup, FM.ix_lst, FM.atI_0, FM.atI_1, FM.atI_2, FM.op_add, FM.op_sub, FM.op_subBl, FM.biD_abs, FM.szle, FM.lk, FM.lks, FM.It.lk, FM.isOw, FM.noOw, FM.Sl.isOw, FM.setAll])
/-- put in where it belongs, if none is the same -/
def insS {α : Type} (c : α → α → Int) (x : α) : List α → List α
  | [] => [x]
  | y :: ys => if c y x < 0 then y :: insS c x ys else if c y x = 0 then y :: ys else x :: y :: ys
abbrev srE (T tw : D) (ds : List D) (x a : Option D) : Env := [some (.pl T), some (.pl tw), some (.ow ds), x.map .pl, a.map .pl]
section
variable {F : Fs} {cc : Nat} (c : D → D → Int) {T tw : D} {μ : Cells}
def srW (cc : Nat) : E := (.and (.cmp .Lt (.var 4) (.bi .len (.cons (.var 2) .nil))) (.cmp .Lt (.call cc (.cons (.ix (.var 2) (.var 4)) (.cons (.var 3) (.cons (.var 1) .nil)))) (.int 0)))
def srI (cc : Nat) : S := .ifs (.or (.cmp .Eq (.var 4) (.bi .len (.cons (.var 2) .nil))) (.cmp .NotEq (.call cc (.cons (.ix (.var 2) (.var 4)) (.cons (.var 3) (.cons (.var 1) .nil)))) (.int 0))) (.cons (.ins 2 (.var 4) (.var 3)) .nil) .nil
theorem ix_mid (pre : List D) (y : D) (rest : List D) : atI (pre ++ y :: rest) (pre.length : Int) = some y := atI_app pre y rest rfl
theorem wh_step {x y : D} {pre rest : List D} (h : F cc [y, x, tw] μ = some (.int (c y x), μ)) : onBl (ev F (srW cc) (srE T tw (pre ++ y :: rest) (some x) (some (.int pre.length))) μ) (fun x μ1 => some (x, μ1)) = some (decide (c y x < 0), μ) := by
  have i := ix_mid pre y rest
  have l : ((pre.length : Nat) : Int) < ((pre ++ y :: rest).length : Nat) := by rw [List.length_append, List.length_cons]; omega
  unfold srW
  generalize hL : pre ++ y :: rest = ds at *
  walk_at "go"
  simp [len_lst, i, h, l, andThen_some', wthD_some', onBl_bl, cmpD]
theorem wh_end {x : D} {pre : List D} : onBl (ev F (srW cc) (srE T tw pre (some x) (some (.int pre.length))) μ) (fun x μ1 => some (x, μ1)) = some (false, μ) := by
  unfold srW
  walk_at "go"
  simp [len_lst, andThen_some', wthD_some', onBl_bl, cmpD]
theorem wh_loop {x : D} : ∀ (n : Nat) (rest pre : List D), (∀ y ∈ rest, F cc [y, x, tw] μ = some (.int (c y x), μ)) → rest.length < n →
    ∃ p2 r2 : List D, p2 ++ r2 = pre ++ rest ∧ pre ++ insS c x rest = p2 ++ insS c x r2 ∧ (∀ y ys, r2 = y :: ys → ¬ c y x < 0 ∧ y ∈ rest) ∧ whileF (fun ρ' μ' => onBl (ev F (srW cc) ρ' μ') fun x μ1 => some (x, μ1)) (fun ρ' μ' => execs F W (.cons (.aug 4 .Add (.int 1)) .nil) ρ' μ') n (srE T tw (pre ++ rest) (some x) (some (.int pre.length))) μ = some (.nx (srE T tw (pre ++ rest) (some x) (some (.int p2.length))) μ)
  | 0, rest, pre, _, h => by omega
  | n + 1, [], pre, _, _ => by
    rw [List.append_nil]
    exact ⟨pre, [], by rw [List.append_nil], rfl, fun y ys e => (by cases e), whileF_no wh_end⟩
  | n + 1, y :: rest, pre, hy, h => by
    have c1 := wh_step (T := T) (pre := pre) (rest := rest) c (hy y (List.mem_cons_self ..))
    by_cases z : c y x < 0
    · rw [decide_eq_true z] at c1
      have b : execs F W (.cons (.aug 4 .Add (.int 1)) .nil) (srE T tw (pre ++ y :: rest) (some x) (some (.int pre.length))) μ = some (.nx (srE T tw (pre ++ y :: rest) (some x) (some (.int (pre ++ [y]).length))) μ) := by
        walk_at "go"
      obtain ⟨p2, r2, e1, e2, e3, e4⟩ := wh_loop n rest (pre ++ [y]) (fun z hz => hy z (List.mem_cons_of_mem _ hz)) (by rw [List.length_cons] at h; omega)
      have e0 : pre ++ [y] ++ rest = pre ++ y :: rest := by simp
      refine ⟨p2, r2, by rw [e1, e0], ?_, fun w ws hw => ⟨(e3 w ws hw).1, List.mem_cons_of_mem _ (e3 w ws hw).2⟩, ?_⟩
      · rw [← e2]
        have : insS c x (y :: rest) = y :: insS c x rest := if_pos z
        rw [this]
        simp
      · rw [whileF_nx c1 b]
        rw [e0] at e4
        exact e4
    · rw [decide_eq_false z] at c1
      exact ⟨pre, y :: rest, rfl, rfl, fun w ws hw => by cases hw; exact ⟨z, List.mem_cons_self ..⟩, whileF_no c1⟩
theorem ins_step {x : D} (p2 r2 : List D) (hl : (p2 ++ r2).length < 1000) (hy : ∀ y ∈ r2, F cc [y, x, tw] μ = some (.int (c y x), μ)) (hn : ∀ y ys, r2 = y :: ys → ¬ c y x < 0) : exec F W (srI cc) (srE T tw (p2 ++ r2) (some x) (some (.int p2.length))) μ = some (.nx (srE T tw (p2 ++ insS c x r2) (some x) (some (.int p2.length))) μ) := by
  have put : exec F W (.ins 2 (.var 4) (.var 3)) (srE T tw (p2 ++ r2) (some x) (some (.int p2.length))) μ = some (.nx (srE T tw (p2 ++ x :: r2) (some x) (some (.int p2.length))) μ) := by
    have s : (p2 ++ r2).length < sizeLine := sz_lt (by omega)
    have e : insAt (p2 ++ r2) p2.length x = p2 ++ x :: r2 := by
      unfold insAt
      simp
    have s' : p2.length + r2.length < sizeLine := by rw [← List.length_append]; exact s
    walk_at "go"
    simp [s', e]
    rw [List.length_append] at hl
    omega
  unfold srI
  cases r2 with
  | nil =>
    rw [List.append_nil] at put ⊢
    refine ifs_t (μ1 := μ) ?_ (seq_nx put rfl)
    walk_at "go"
    simp [len_lst, andThen_some', wthD_some', onBl_bl, eqD_int]
  | cons y ys =>
    have h := hy y (List.mem_cons_self ..)
    have i := ix_mid p2 y ys
    have z := hn y ys rfl
    have ne : ¬ ((p2.length : Nat) : Int) = ((p2 ++ y :: ys).length : Nat) := by rw [List.length_append, List.length_cons]; omega
    have cnd : ev F (.or (.cmp .Eq (.var 4) (.bi .len (.cons (.var 2) .nil))) (.cmp .NotEq (.call cc (.cons (.ix (.var 2) (.var 4)) (.cons (.var 3) (.cons (.var 1) .nil)))) (.int 0))) (srE T tw (p2 ++ y :: ys) (some x) (some (.int p2.length))) μ = some (.bl (!decide (c y x = 0)), μ) := by
      generalize p2 ++ y :: ys = ds at *
      walk_at "go"
      simp [len_lst, i, h, ne, andThen_some', wthD_some', onBl_bl, eqD_int]
    by_cases e : c y x = 0
    · rw [decide_eq_true e] at cnd
      have : insS c x (y :: ys) = y :: ys := by
        show (if c y x < 0 then _ else if c y x = 0 then _ else _) = _
        rw [if_neg z, if_pos e]
      rw [this]
      exact ifs_f cnd rfl
    · rw [decide_eq_false e] at cnd
      have : insS c x (y :: ys) = x :: y :: ys := by
        show (if c y x < 0 then _ else if c y x = 0 then _ else _) = _
        rw [if_neg z, if_neg e]
      rw [this]
      exact ifs_t cnd (seq_nx put rfl)
theorem insS_mem {x : D} : ∀ (l : List D) (y : D), y ∈ insS c x l → y = x ∨ y ∈ l
  | [], y, h => .inl (by simpa [insS] using h)
  | z :: zs, y, h => by
    unfold insS at h
    split at h
    · rcases List.mem_cons.mp h with rfl | h
      · exact .inr (List.mem_cons_self ..)
      · rcases insS_mem zs y h with h | h
        · exact .inl h
        · exact .inr (List.mem_cons_of_mem _ h)
    · split at h
      · exact .inr h
      · rcases List.mem_cons.mp h with rfl | h
        · exact .inl rfl
        · exact .inr h
theorem insS_len {x : D} : ∀ (l : List D), (insS c x l).length ≤ l.length + 1
  | [] => Nat.le_refl _
  | z :: zs => by
    unfold insS
    have := insS_len (x := x) zs
    split
    · rw [List.length_cons, List.length_cons]; omega
    · split <;> simp
/-- times sorted -/
theorem sorted_ok (xs : List D) (hx : xs.length ≤ 500) (hc : ∀ y ∈ xs, ∀ x ∈ xs, F cc [y, x, tw] μ = some (.int (c y x), μ)) : runFn F W ⟨2, 5, B_sorted_times cc⟩ [.tup xs, tw] μ = some (.tup (xs.foldl (fun l x => insS c x l) []), μ) := by
  have loop : ∀ (ys l : List D) (o3 o4 : Option D), (∀ y ∈ ys, y ∈ xs) → (∀ y ∈ l, y ∈ xs) → l.length + ys.length ≤ 500 → ∃ o3' o4', forF (.nm 3) (fun ρ' μ' => execs F W (.cons (.asg 4 (.int 0)) (.cons (.whl (srW cc) (.cons (.aug 4 .Add (.int 1)) .nil)) (.cons (srI cc) .nil))) ρ' μ') ys (srE (.tup xs) tw l o3 o4) μ = some (.nx (srE (.tup xs) tw (ys.foldl (fun l x => insS c x l) l) o3' o4') μ) := by
    intro ys
    induction ys with
    | nil => exact fun l o3 o4 _ _ _ => ⟨o3, o4, rfl⟩
    | cons x ys ih =>
      intro l o3 o4 h1 h2 h3
      rw [List.length_cons] at h3
      have hxm := h1 x (List.mem_cons_self ..)
      have hW : l.length < W := Nat.lt_of_lt_of_le (show l.length < 2 ^ 10 by omega) (Nat.pow_le_pow_right (by decide) (by decide))
      obtain ⟨p2, r2, e1, e2, e3, e4⟩ := wh_loop c (T := .tup xs) (tw := tw) (μ := μ) (F := F) (cc := cc) (x := x) W l [] (fun y hy => hc y (h2 y hy) x hxm) hW
      have s1 : exec F W (.asg 4 (.int 0)) (srE (.tup xs) tw l (some x) o4) μ = some (.nx (srE (.tup xs) tw l (some x) (some (.int (([] : List D).length : Nat)))) μ) := by
        cases o4 <;> walk_at "go"
      have e1' : p2 ++ r2 = l := e1
      have e4' : exec F W (.whl (srW cc) (.cons (.aug 4 .Add (.int 1)) .nil)) (srE (.tup xs) tw l (some x) (some (.int (([] : List D).length : Nat)))) μ = some (.nx (srE (.tup xs) tw l (some x) (some (.int p2.length))) μ) := whl_of e4
      have e2' : insS c x l = p2 ++ insS c x r2 := e2
      have e5 := ins_step c (T := .tup xs) (tw := tw) (μ := μ) (F := F) (cc := cc) (x := x) p2 r2 (by rw [e1']; omega) (fun y hy => hc y (h2 y (by rw [← e1']; exact List.mem_append_right _ hy)) x hxm) (fun y ys h => (e3 y ys h).1)
      rw [e1', ← e2'] at e5
      have body : execs F W (.cons (.asg 4 (.int 0)) (.cons (.whl (srW cc) (.cons (.aug 4 .Add (.int 1)) .nil)) (.cons (srI cc) .nil))) (srE (.tup xs) tw l (some x) o4) μ = some (.nx (srE (.tup xs) tw (insS c x l) (some x) (some (.int p2.length))) μ) := seq_nx s1 (seq_nx e4' (seq_nx e5 rfl))
      obtain ⟨o3', o4', e6⟩ := ih (insS c x l) (some x) (some (.int p2.length)) (fun y hy => h1 y (List.mem_cons_of_mem _ hy)) (fun y hy => by
        rcases insS_mem c l y hy with rfl | hy
        · exact hxm
        · exact h2 y hy) (by have := insS_len c (x := x) l; omega)
      refine ⟨o3', o4', ?_⟩
      unfold forF
      show (match execs F W (.cons (.asg 4 (.int 0)) (.cons (.whl (srW cc) (.cons (.aug 4 .Add (.int 1)) .nil)) (.cons (srI cc) .nil))) (srE (.tup xs) tw l (some x) o4) μ with | none => none | some (.nx ρ2 μ2) => _ | some (.ct ρ2 μ2) => _ | some (.bk ρ2 μ2) => _ | some (.rt d μ2) => _) = _
      rw [body]
      exact e6
  obtain ⟨o3', o4', e⟩ := loop xs [] none none (fun _ h => h) (fun _ h => by cases h) (by simpa using hx)
  refine run_rt rfl (Nat.le_of_ble_eq_true rfl) (seq_nx (ρ1 := srE (.tup xs) tw [] none none) (μ1 := μ) rfl (seq_nx (for_of rfl rfl e) (seq_rt ?_)))
  generalize xs.foldl (fun l x => insS c x l) [] = R at *
  walk_at "go"
  simp [biD, wthD_some', andThen_some']
end
end FM

set_option Elab.async false
set_option linter.all false
set_option maxRecDepth 100000
set_option maxHeartbeats 4000000
/-! N18: numbers of times held against fractions; beside, midway; the least. -/
namespace FM
open PySem (Str sizeLine)
open L2 (atI ixN Key)
open PySem.Spec PyProof.Rows
open OF (sgn sgn_eq0 Hom rat)
local macro_rules | `(tactic| walk_at "go") => `(tactic| simp [FM.execs, FM.exec, FM.ev, FM.evs, FM.evo, FM.evc, FM.evi, FM.Sl.d, FM.isiD, FM.cmpD, FM.negD, FM.bindT, FM.andThen_some', FM.onBl_bl, FM.wthD_some', FM.eqD_int, FM.ix_tup, FM.ix_lst, FM.atI_0, FM.atI_1, FM.atI_2, FM.op_add, FM.op_sub, FM.op_subBl, FM.biD_abs, FM.szle, FM.pl_get, FM.pl_set, FM.isOw_pl, FM.noOw_pl, FM.lk_pl, FM.lks_pl, FM.itlk_pl, FM.setAll_pl, FM.setAllD])
structure Ids4 where
  against : Nat
  beside : Nat
  midway : Nat
structure TF4 (G : Nat → Fs) (i : Ids) (j : Ids2) (k : Ids3) (l : Ids4) : Prop where
  t : TF3 G i j k
  against : ∀ m ds μ, G (m + 1) l.against ds μ = runFn (G m) W ⟨2, 4, B__law_against i.sign i.sub j.number⟩ ds μ
  beside : ∀ m ds μ, G (m + 1) l.beside ds μ = runFn (G m) W ⟨3, 5, B_beside k.tnum i.add j.number⟩ ds μ
  midway : ∀ m ds μ, G (m + 1) l.midway ds μ = runFn (G m) W ⟨3, 8, B_midway k.tnum k.raised i.add j.lifted i.mul j.number⟩ ds μ
section
variable {G : Nat → Fs} {i : Ids} {j : Ids2} {k : Ids3} {l : Ids4} (T : TF4 G i j k l)
include T
theorem against_c {B er mr E M : Nat} (h0 : 0 < B) (hD : B < 2 ^ 8) {n : Nat} (hn : n ≤ 40) (t : Tw n) (ht : TwAll (Bd B er mr) t) (z : Nm n) (hz : AllL (Bd B E M) n z) (f : Int × Int) (hf : Bd B E M f) (h8 : M + 8 * E + 1 ≤ 1800) (hl : SL er mr n E (M + 1)) {m : Nat} (hm : 2 * n + 60 ≤ m) (μ : Cells) :
    ∃ s : Int, G (m + 1) l.against [.tup [tD t, nD n z], fD f] μ = some (.int s, μ) ∧ ∀ (L : Type) [Lean.Grind.Field L] [LE L] [LT L] [Std.LawfulOrderLT L] [Std.IsLinearOrder L] [Lean.Grind.OrderedRing L] (j : Rat → L) (ρ : Nat → L), Hom j → TwV j ρ t → s = sgn (val j ρ n z - j (rat f)) := by
  obtain ⟨m, rfl⟩ : ∃ m', m = m' + 2 := ⟨m - 2, by omega⟩
  have nf : AllL (Bd B E M) n (numN f n) := numN_all (bd01 _ _ _) hf n
  have fqn : ∀ {z : Nm n}, AllL (Bd B E M) n z → AllL (Fq 1800) n z := fun h => AllL.imp (fun _ g => (g.fq hD h0).mono h8) _ h
  have pd : ∀ {z : Nm n}, AllL (Bd B E M) n z → AllL Pd n z := fun h => AllL.imp (fun _ g => g.pd) _ h
  have c1 : G (m + 2) j.number [fD f, tD t] μ = some (nD n (numN f n), μ) := by
    rw [← liftQ]
    exact number_c T.t.t (by omega) (m := m + 1) (by omega) _ (twL t) (twL_len t) μ
  have c2 := sub_c T.t.t.t n (by omega) t (m + 1) (by omega) (fqn hz) (fqn nf) μ
  have c3 := sign_c T.t.t.t h0 hD n (by omega) t ht (m + 1) (by omega) (subN_bd h0 hz nf) hl μ
  refine ⟨signN t (subN n z (numN f n)), ?_, fun L _ _ _ _ _ _ j ρ hj hv => ?_⟩
  · rw [T.against]
    generalize nD n (subN n z (numN f n)) = X1 at *
    generalize nD n (numN f n) = X2 at *
    generalize nD n z = X3 at *
    refine run_pl rfl (Nat.le_of_ble_eq_true rfl) (seq_nx (ρ1 := pl [some (.tup [tD t, X3]), some (fD f), some (tD t), some X3]) (μ1 := μ) ?_ (seq_rt ?_))
    · walk_at "go"
    · walk_at "go"
      simp [c1, c2, c3, andThen_some']
  · rw [sign_val hj t hv (twAll_imp (fun _ g => g.pd) t ht) (subN_all (fun _ _ => pd_sub) n (pd hz) (pd nf)), val_sub hj n (pd hz) (pd nf), val_num hj]
theorem beside_c {B er mr : Nat} (h0 : 0 < B) (hD : B < 2 ^ 8) {n : Nat} (hn : n + 2 ≤ 40) (t : Tw n) (ht : TwAll (Bd B er mr) t) (a b u : Nm n) (ha : AllL (Bd B er mr) n a) (hb : AllL (Bd B er mr) n b) (hu : AllL (Bd B er mr) n u) (hl : SL er mr n er (mr + 1))
    (hm1 : (mr + mr + cc (n + 1) * (mr + 1)) + 8 * (er + er + cc (n + 1) * er) + 10 ≤ 1800) (st : Int) (hst : Bd B 0 (mr + mr + cc (n + 1) * (mr + 1) + 1) (st, 1)) {m : Nat} (hm : 2 * n + 60 ≤ m) (μ : Cells) :
    ∃ (n' : Nat) (t' : Tw n') (z : Nm n'), n ≤ n' ∧ n' ≤ n + 1 ∧ G (m + 1) l.beside [tmD a b u, .int st, tD t] μ = some (.tup [tD t', nD n' z], μ) ∧ TwAll (Bd B er mr) t' ∧ AllL (Bd B (er + er + cc (n + 1) * er) (mr + mr + cc (n + 1) * (mr + 1) + 2)) n' z ∧
    ∀ (L : Type) [Lean.Grind.Field L] [LE L] [LT L] [Std.LawfulOrderLT L] [Std.IsLinearOrder L] [Lean.Grind.OrderedRing L] (j : Rat → L) (ρ : Nat → L) (r : L), Hom j → TwV j ρ t → 0 ≤ r → r * r = val j ρ n u → (isN n u = false → 0 < val j ρ n u) →
      ∃ ρ' : Nat → L, (∀ k, k < n → ρ k = ρ' k) ∧ TwV j ρ' t' ∧ val j ρ' n' z = val j ρ n a + val j ρ n b * r + j (rat (st, 1)) := by
  obtain ⟨m, rfl⟩ : ∃ m', m = m' + 2 := ⟨m - 2, by omega⟩
  obtain ⟨res, p1, n', t', z, l1, l2, rfl, p2, p3, p4⟩ := tnum_c T.t h0 hD (by omega) t ht a b u ha hb hu hl hm1 (m := m + 1) (by omega) μ
  have nf : AllL (Bd B (er + er + cc (n + 1) * er) (mr + mr + cc (n + 1) * (mr + 1) + 1)) n' (numN (st, 1) n') := numN_all (bd01 _ _ _) (hst.mono (by omega) (by omega)) n'
  have fqn : ∀ {z : Nm n'}, AllL (Bd B (er + er + cc (n + 1) * er) (mr + mr + cc (n + 1) * (mr + 1) + 1)) n' z → AllL (Fq 1800) n' z := fun h => AllL.imp (fun _ g => (g.fq hD h0).mono (by omega)) _ h
  have pd : ∀ {z : Nm n'}, AllL (Bd B (er + er + cc (n + 1) * er) (mr + mr + cc (n + 1) * (mr + 1) + 1)) n' z → AllL Pd n' z := fun h => AllL.imp (fun _ g => g.pd) _ h
  have c1 : G (m + 2) j.number [fD (st, 1), tD t'] μ = some (nD n' (numN (st, 1) n'), μ) := by
    rw [← liftQ]
    exact number_c T.t.t (by omega) (m := m + 1) (by omega) _ (twL t') (twL_len t') μ
  have c2 := add_c T.t.t.t n' (by omega) t' (m + 1) (by omega) (fqn p3) (fqn nf) μ
  refine ⟨n', t', addN n' z (numN (st, 1) n'), l1, l2, ?_, p2, addN_bd h0 p3 nf, fun L _ _ _ _ _ _ j ρ r hj hv r0 rr up => ?_⟩
  · rw [T.beside]
    generalize tmD a b u = X0 at *
    generalize nD n' (addN n' z (numN (st, 1) n')) = X1 at *
    generalize nD n' (numN (st, 1) n') = X2 at *
    generalize nD n' z = X3 at *
    refine run_pl rfl (Nat.le_of_ble_eq_true rfl) (seq_nx (ρ1 := pl [some X0, some (.int st), some (tD t), some (tD t'), some X3]) (μ1 := μ) ?_ (seq_rt ?_))
    · walk_at "go"
      simp [p1, andThen_some', wthD_some', setAll_pl, setAllD]
    · walk_at "go"
      simp [c1, c2, andThen_some', szle]
  · obtain ⟨ρ', g1, g2, g3⟩ := p4 L j ρ r hj hv r0 rr up
    exact ⟨ρ', g1, g2, by rw [val_add hj n' (pd p3) (pd nf), val_num hj, g3]⟩
theorem midway_c {B er mr : Nat} (h0 : 0 < B) (hB2 : (2 : Int) ∣ B) (hD : B < 2 ^ 8) {n : Nat} (hn : n + 4 ≤ 40) (t : Tw n) (ht : TwAll (Bd B er mr) t) (a b u a' b' u' : Nm n) (ha : AllL (Bd B er mr) n a) (hb : AllL (Bd B er mr) n b) (hu : AllL (Bd B er mr) n u) (ha' : AllL (Bd B er mr) n a') (hb' : AllL (Bd B er mr) n b') (hu' : AllL (Bd B er mr) n u')
    (hl : Lim er mr n) (h9 : (mr + mr + cc (n + 2) * (mr + 1) + 3 + cc (n + 2) * (mr + 1)) + 8 * (er + er + cc (n + 2) * er + 1 + cc (n + 2) * er) + 10 ≤ 1800) {m : Nat} (hm : 2 * n + 60 ≤ m) (μ : Cells) :
    ∃ (n' : Nat) (t' : Tw n') (z : Nm n'), n ≤ n' ∧ n' ≤ n + 2 ∧ G (m + 1) l.midway [tmD a b u, tmD a' b' u', tD t] μ = some (.tup [tD t', nD n' z], μ) ∧ TwAll (Bd B er mr) t' ∧ AllL (Bd B (er + er + cc (n + 2) * er + 1 + cc (n + 2) * er) (mr + mr + cc (n + 2) * (mr + 1) + 3 + cc (n + 2) * (mr + 1))) n' z ∧
    ∀ (L : Type) [Lean.Grind.Field L] [LE L] [LT L] [Std.LawfulOrderLT L] [Std.IsLinearOrder L] [Lean.Grind.OrderedRing L] (j : Rat → L) (ρ : Nat → L) (r r' : L), Hom j → TwV j ρ t → 0 ≤ r → r * r = val j ρ n u → (isN n u = false → 0 < val j ρ n u) →
      0 ≤ r' → r' * r' = val j ρ n u' → (isN n u' = false → 0 < val j ρ n u') →
      ∃ ρ' : Nat → L, (∀ k, k < n → ρ k = ρ' k) ∧ TwV j ρ' t' ∧ val j ρ' n' z * (1 + 1) = (val j ρ n a + val j ρ n b * r) + (val j ρ n a' + val j ρ n b' * r') := by
  obtain ⟨m, rfl⟩ : ∃ m', m = m' + 2 := ⟨m - 2, by omega⟩
  have k1 : cc (n + 1) ≤ cc (n + 2) := cc_mono (by omega)
  have m1 : cc (n + 1) * er ≤ cc (n + 2) * er := Nat.mul_le_mul_right _ k1
  have m2 : cc (n + 1) * (mr + 1) ≤ cc (n + 2) * (mr + 1) := Nat.mul_le_mul_right _ k1
  have lc := hl.c
  obtain ⟨res, p1, n1, t1, z1, l1, l2, rfl, p2, p3, p4⟩ := tnum_c T.t h0 hD (by omega) t ht a b u ha hb hu (SL.down hl.a) (by omega) (m := m + 1) (by omega) μ
  obtain ⟨av, a1, a2, a3, a4⟩ := lift_ex l1 a'
  obtain ⟨bv, b1, b2, b3, b4⟩ := lift_ex l1 b'
  obtain ⟨uv, u1, u2, u3, u4⟩ := lift_ex l1 u'
  have rz : G (m + 2) k.raised [tmD a' b' u', tD t, tD t1] μ = some (tmD av bv uv, μ) := by
    have h := raised_c T.t l1 (by omega) (twL t) (twL t1) (twL_len t) (twL_len t1) (m := m + 1) (by omega) (nD n a') (nD n b') (nD n u') μ
    rw [a1, b1, u1] at h
    exact h
  have k2 : cc (n1 + 1) ≤ cc (n + 2) := cc_mono (by omega)
  have m3 : cc (n1 + 1) * er ≤ cc (n + 2) * er := Nat.mul_le_mul_right _ k2
  have m4 : cc (n1 + 1) * (mr + 1) ≤ cc (n + 2) * (mr + 1) := Nat.mul_le_mul_right _ k2
  obtain ⟨res2, s1, n2, t2, z2, l3, l4, rfl, s2, s3, s4⟩ := tnum_c T.t h0 hD (by omega) t1 p2 av bv uv (a2 _ (bd01 _ _ _) ha') (b2 _ (bd01 _ _ _) hb') (u2 _ (bd01 _ _ _) hu') (SL.downs (by omega) hl.a) (by omega) (m := m + 1) (by omega) μ
  have k3 : cc n2 ≤ cc (n + 2) := cc_mono (by omega)
  have m5 : cc n2 * er ≤ cc (n + 2) * er := Nat.mul_le_mul_right _ k3
  have m6 : cc n2 * (mr + 1) ≤ cc (n + 2) * (mr + 1) := Nat.mul_le_mul_right _ k3
  obtain ⟨y, y1, y2, y3, y4⟩ := lift_ex l3 z1
  have by1 := AllL.up (y2 _ (bd01 _ _ _) p3) (e' := er + er + cc (n + 2) * er) (m' := mr + mr + cc (n + 2) * (mr + 1) + 1) (by omega) (by omega)
  have bz2 := AllL.up s3 (e' := er + er + cc (n + 2) * er) (m' := mr + mr + cc (n + 2) * (mr + 1) + 1) (by omega) (by omega)
  have ly : G (m + 2) j.lifted [nD n1 z1, tD t1, tD t2] μ = some (nD n2 y, μ) := by
    rw [← y1]
    exact lifted_c T.t.t (n := n1) (c := n2 - n1) (by omega) (m := m + 1) (by omega) _ (twL t1) (twL t2) (twL_len t1) (by rw [twL_len]; omega) μ
  have fqn : ∀ {z : Nm n2}, AllL (Bd B (er + er + cc (n + 2) * er) (mr + mr + cc (n + 2) * (mr + 1) + 1)) n2 z → AllL (Fq 1800) n2 z := fun h => AllL.imp (fun _ g => (g.fq hD h0).mono (by omega)) _ h
  have pd : ∀ {e m : Nat} {z : Nm n2}, AllL (Bd B e m) n2 z → AllL Pd n2 z := fun h => AllL.imp (fun _ g => g.pd) _ h
  have bs := addN_bd h0 by1 bz2
  have hf : Bd B 1 0 (1, 2) := ⟨by decide, by decide, by rw [Nat.pow_one]; exact hB2, by decide⟩
  have bh : AllL (Bd B 1 0) n2 (numN (1, 2) n2) := numN_all (bd01 _ _ _) hf n2
  have c1 : G (m + 2) j.number [fD (1, 2), tD t2] μ = some (nD n2 (numN (1, 2) n2), μ) := by
    rw [← liftQ]
    exact number_c T.t.t (by omega) (m := m + 1) (by omega) _ (twL t2) (twL_len t2) μ
  have c2 := add_c T.t.t.t n2 (by omega) t2 (m + 1) (by omega) (fqn by1) (fqn bz2) μ
  have c3 := mul_c T.t.t.t h0 hD n2 (by omega) t2 s2 (m + 1) (by omega) bs bh (by omega) μ
  have b3 := mulN_bd h0 t2 s2 bs bh
  refine ⟨n2, t2, mulN t2 (addN n2 y z2) (numN (1, 2) n2), by omega, by omega, ?_, s2, b3.up (by omega) (by omega), fun L _ _ _ _ _ _ j ρ r r' hj hv r0 rr up r0' rr' up' => ?_⟩
  · rw [T.midway]
    generalize tmD a b u = X0 at *
    generalize tmD a' b' u' = X1 at *
    generalize tmD av bv uv = X2 at *
    generalize nD n2 (mulN t2 (addN n2 y z2) (numN (1, 2) n2)) = X3 at *
    generalize nD n2 (addN n2 y z2) = X7 at *
    generalize nD n2 (numN (1, 2) n2) = X8 at *
    generalize nD n2 y = X4 at *
    generalize nD n2 z2 = X5 at *
    generalize nD n1 z1 = X6 at *
    refine run_pl rfl (Nat.le_of_ble_eq_true rfl) (seq_nx (ρ1 := pl [some X0, some X1, some (tD t), none, some (tD t1), some X6, none, none]) (μ1 := μ) ?_ (seq_nx (ρ1 := pl [some X0, some X1, some (tD t), none, some (tD t1), some X6, some (tD t2), some X5]) (μ1 := μ) ?_ (seq_nx (ρ1 := pl [some X0, some X1, some (tD t), some X7, some (tD t1), some X6, some (tD t2), some X5]) (μ1 := μ) ?_ (seq_rt ?_))))
    · walk_at "go"
      simp [p1, andThen_some', wthD_some', setAll_pl, setAllD]
    · walk_at "go"
      simp [rz, s1, andThen_some', wthD_some', setAll_pl, setAllD]
    · walk_at "go"
      simp [ly, c2, andThen_some', wthD_some', pl_set]
    · walk_at "go"
      simp [c1, c3, andThen_some', wthD_some', szle]
  · obtain ⟨ρ1, c1, v1, e1⟩ := p4 L j ρ r hj hv r0 rr up
    have vu : val j ρ1 n1 uv = val j ρ n u' := by rw [u4 L j ρ1 hj]; exact (val_congr n c1 u').symm
    have va : val j ρ1 n1 av = val j ρ n a' := by rw [a4 L j ρ1 hj]; exact (val_congr n c1 a').symm
    have vb : val j ρ1 n1 bv = val j ρ n b' := by rw [b4 L j ρ1 hj]; exact (val_congr n c1 b').symm
    obtain ⟨ρ2, c2, v2, e2⟩ := s4 L j ρ1 r' hj v1 r0' (by rw [vu]; exact rr') (fun h => by rw [vu]; exact up' (by rw [← u3]; exact h))
    refine ⟨ρ2, fun k hk => (c1 k hk).trans (c2 k (by omega)), v2, ?_⟩
    have hh : j (rat (1, 2)) * (1 + 1) = 1 := by
      have e : rat (1, 2) * (1 + 1) = 1 := by unfold rat; grind
      have := congrArg j e
      rw [hj.mul, hj.add, hj.one] at this
      exact this
    rw [val_mul hj t2 v2 (twAll_imp (fun _ g => g.pd) t2 s2) (pd bs) (pd bh), val_add hj n2 (pd by1) (pd bz2), val_num hj, e2, va, vb, y4 L j ρ2 hj, ← val_congr n1 c2 z1, e1]
    grind
end
section
variable {F : Fs} {cc : Nat} (c : D → D → Int) {tw : D} {μ : Cells}
def leastS (c : D → D → Int) : D → List D → D
  | f, [] => f
  | f, x :: xs => leastS c (if c x f < 0 then x else f) xs
def bLe (cc : Nat) : Ss := (.cons (.ifs (.or (.cmp .Is (.var 2) .non) (.cmp .Lt (.call cc (.cons (.var 3) (.cons (.var 2) (.cons (.var 1) .nil)))) (.int 0))) (.cons (.asg 2 (.var 3)) .nil) .nil) .nil)
theorem least_loop (xs0 : List D) (T : D) : ∀ (xs : List D) (f : D) (o : Option D), isNon f = false → (∀ x ∈ xs, x ∈ xs0) → f ∈ xs0 → (∀ x ∈ xs0, isNon x = false) → (∀ x ∈ xs0, ∀ y ∈ xs0, F cc [x, y, tw] μ = some (.int (c x y), μ)) →
    ∃ o', forF (.nm 3) (fun ρ' μ' => execs F W (bLe cc) ρ' μ') xs (pl [some T, some tw, some f, o]) μ = some (.nx (pl [some T, some tw, some (leastS c f xs), o']) μ)
  | [], f, o, _, _, _, _, _ => ⟨o, rfl⟩
  | x :: xs, f, o, hf, hx, hm, hn, hc => by
    have h := hc x (hx x (List.mem_cons_self ..)) f hm
    have cnd : ev F (.or (.cmp .Is (.var 2) .non) (.cmp .Lt (.call cc (.cons (.var 3) (.cons (.var 2) (.cons (.var 1) .nil)))) (.int 0))) (pl [some T, some tw, some f, some x]) μ = some (.bl (decide (c x f < 0)), μ) := by
      walk_at "go"
      simp [hf, h, andThen_some', wthD_some', onBl_bl, cmpD]
    have body : execs F W (bLe cc) (pl [some T, some tw, some f, some x]) μ = some (.nx (pl [some T, some tw, some (if c x f < 0 then x else f), some x]) μ) := by
      by_cases z : c x f < 0
      · rw [decide_eq_true z] at cnd
        rw [if_pos z]
        refine seq_nx (ifs_t cnd (seq_nx (ρ1 := pl [some T, some tw, some x, some x]) (μ1 := μ) ?_ rfl)) rfl
        walk_at "go"
      · rw [decide_eq_false z] at cnd
        rw [if_neg z]
        exact seq_nx (ifs_f cnd rfl) rfl
    have hm' : (if c x f < 0 then x else f) ∈ xs0 := by
      split
      · exact hx x (List.mem_cons_self ..)
      · exact hm
    obtain ⟨o', e⟩ := least_loop xs0 T xs (if c x f < 0 then x else f) (some x) (hn _ hm') (fun y hy => hx y (List.mem_cons_of_mem _ hy)) hm' hn hc
    refine ⟨o', ?_⟩
    unfold forF
    show (match execs F W (bLe cc) (pl [some T, some tw, some f, some x]) μ with | none => none | some (.nx ρ2 μ2) => _ | some (.ct ρ2 μ2) => _ | some (.bk ρ2 μ2) => _ | some (.rt d μ2) => _) = _
    rw [body]
    exact e
theorem forF_nx {tg : Tg} {b : Env → Cells → Option Res} {x : D} {xs : List D} {ρ ρ1 ρ2 : Env} {μ μ2 : Cells} (h1 : bindT tg x ρ = some ρ1) (h2 : b ρ1 μ = some (.nx ρ2 μ2)) : forF tg b (x :: xs) ρ μ = forF tg b xs ρ2 μ2 := by
  conv => lhs; unfold forF
  rw [h1]
  simp only
  rw [h2]
theorem least_times_ok (x : D) (xs : List D) (hn : ∀ y ∈ x :: xs, isNon y = false) (hc : ∀ y ∈ x :: xs, ∀ z ∈ x :: xs, F cc [y, z, tw] μ = some (.int (c y z), μ)) : runFn F W ⟨2, 4, B_least_time cc⟩ [.tup (x :: xs), tw] μ = some (leastS c x xs, μ) := by
  have body : execs F W (bLe cc) (pl [some (.tup (x :: xs)), some tw, some .non, some x]) μ = some (.nx (pl [some (.tup (x :: xs)), some tw, some x, some x]) μ) := by
    refine seq_nx (ifs_t (μ1 := μ) ?_ (seq_nx (ρ1 := pl [some (.tup (x :: xs)), some tw, some x, some x]) (μ1 := μ) ?_ rfl)) rfl
    · walk_at "go"
      simp [isNon]
    · walk_at "go"
  obtain ⟨o', e⟩ := least_loop c (x :: xs) (.tup (x :: xs)) xs x (some x) (hn x (List.mem_cons_self ..)) (fun y hy => List.mem_cons_of_mem _ hy) (List.mem_cons_self ..) hn hc
  have fl : forF (.nm 3) (fun ρ' μ' => execs F W (bLe cc) ρ' μ') (x :: xs) (pl [some (.tup (x :: xs)), some tw, some .non, none]) μ = some (.nx (pl [some (.tup (x :: xs)), some tw, some (leastS c x xs), o']) μ) := by
    exact (forF_nx rfl body).trans e
  refine run_pl rfl (Nat.le_of_ble_eq_true rfl) (seq_nx (ρ1 := pl [some (.tup (x :: xs)), some tw, some .non, none]) (μ1 := μ) ?_ (seq_nx (for_of rfl (itlk_pl _ _) fl) (seq_rt ?_)))
  · walk_at "go"
  · walk_at "go"
theorem least_nil : runFn F W ⟨2, 4, B_least_time cc⟩ [.tup [], tw] μ = some (.non, μ) := by
  refine run_pl rfl (Nat.le_of_ble_eq_true rfl) (seq_nx (ρ1 := pl [some (.tup []), some tw, some .non, none]) (μ1 := μ) ?_ (seq_nx (for_of rfl (itlk_pl _ _) rfl) (seq_rt ?_)))
  · walk_at "go"
  · walk_at "go"
end
end FM

set_option Elab.async false
set_option linter.all false
set_option maxRecDepth 100000
set_option maxHeartbeats 4000000
/-! N19: drawn numbers, drawn times. -/
namespace FM
open PySem (Str sizeLine)
open L2 (atI ixN Key)
open PySem.Spec PyProof.Rows
local macro_rules | `(tactic| walk_at "go") => `(tactic| simp [FM.execs, FM.exec, FM.ev, FM.evs, FM.evo, FM.evc, FM.evi, FM.Sl.d, FM.isiD, FM.cmpD, FM.negD, FM.bindT, FM.andThen_some', FM.onBl_bl, FM.wthD_some', FM.eqD_int, FM.ix_tup, FM.ix_lst, FM.atI_0, FM.atI_1, FM.atI_2, FM.op_add, FM.op_sub, FM.op_subBl, FM.biD_abs, FM.szle, FM.pl_get, FM.pl_set, FM.isOw_pl, FM.noOw_pl, FM.lk_pl, FM.lks_pl, FM.itlk_pl, FM.setAll_pl, FM.setAllD])
def NextC (F : Fs) (cn : Nat) : Prop := ∀ (is : List Int) (k many : Int), 0 < many → 0 ≤ k → ∃ r k1 : Int, 0 ≤ r ∧ r < many ∧ 0 ≤ k1 ∧ F cn [.cell 0, .int many] [cw is k] = some (.int r, [cw is k1])
def PickC (F : Fs) (cp : Nat) : Prop := ∀ (is : List Int) (k : Int) (ds : List D), 0 ≤ k → ds ≠ [] → ∃ (d : D) (k1 : Int), d ∈ ds ∧ 0 ≤ k1 ∧ F cp [.cell 0, .lst ds] [cw is k] = some (d, [cw is k1])
/-- a drawn number -/
def NumR (most : Int) (x : Int × Int) : Prop := ∃ n d : Int, -most ≤ n ∧ n ≤ most ∧ 1 ≤ d ∧ d ≤ 3 ∧ x = fr n d
def NumC (F : Fs) (cn : Nat) : Prop := ∀ (is : List Int) (k most : Int), 0 ≤ k → 0 ≤ most → most ≤ 100 → ∃ (x : Int × Int) (k1 : Int), NumR most x ∧ 0 ≤ k1 ∧ F cn [.cell 0, .int most] [cw is k] = some (fD x, [cw is k1])
section
variable {F : Fs}
theorem pick_ok {cn : Nat} (hN : NextC F cn) (is : List Int) (k : Int) (ds : List D) (hk : 0 ≤ k) (hd : ds ≠ []) : ∃ (d : D) (k1 : Int), d ∈ ds ∧ 0 ≤ k1 ∧ runFn F W ⟨2, 2, B__law_pick cn⟩ [.cell 0, .lst ds] [cw is k] = some (d, [cw is k1]) := by
  have l0 : 0 < ds.length := List.length_pos_iff.mpr hd
  obtain ⟨r, k1, r0, r1, k0, e⟩ := hN is k ds.length (by omega) hk
  have hr : r.toNat < ds.length := by omega
  have at' : atI ds r = some ds[r.toNat] := by
    have := atI_nat (l := ds) (k := r.toNat) hr
    rwa [Int.toNat_of_nonneg r0] at this
  refine ⟨ds[r.toNat], k1, List.getElem_mem hr, k0, run_pl rfl (Nat.le_of_ble_eq_true rfl) (seq_rt ?_)⟩
  generalize ds[r.toNat] = d at *
  walk_at "go"
  simp [len_lst, e, FM.ix_lst, at', andThen_some', wthD_some']
theorem num_ok {cf cp cn : Nat} (hF : LFracC F cf) (hP : PickC F cp) (hN : NextC F cn) (is : List Int) (k most : Int) (hk : 0 ≤ k) (h0 : 0 ≤ most) (h1 : most ≤ 100) : ∃ (x : Int × Int) (k1 : Int), NumR most x ∧ 0 ≤ k1 ∧ runFn F W ⟨2, 2, B__law_num cf cp cn⟩ [.cell 0, .int most] [cw is k] = some (fD x, [cw is k1]) := by
  obtain ⟨r, k1, r0, r1, k10, e1⟩ := hN is k (2 * most + 1) (by omega) hk
  obtain ⟨d, k2, hd, k20, e2⟩ := hP is k1 [.int 1, .int 1, .int 2, .int 3] k10 (by simp)
  have hd' : ∃ i : Int, d = .int i ∧ 1 ≤ i ∧ i ≤ 3 := by
    simp at hd
    rcases hd with rfl | rfl | rfl
    · exact ⟨1, rfl, by decide, by decide⟩
    · exact ⟨2, rfl, by decide, by decide⟩
    · exact ⟨3, rfl, by decide, by decide⟩
  obtain ⟨i, rfl, i1, i2⟩ := hd'
  have sm : Sm 10 (r - most) := by unfold Sm; omega
  have si : Sm 10 i := by unfold Sm; omega
  have e3 := hF (r - most) i [cw is k2] (sm.mono (by decide)) ⟨si.mono (by decide), .inl (by omega)⟩
  have om := op_mul (j := 10) (k := 10) (a := 2) (b := most) (by unfold Sm; decide) (by unfold Sm; omega) (by decide)
  refine ⟨fr (r - most) i, k2, ⟨r - most, i, by omega, by omega, i1, i2, rfl⟩, k20, run_pl rfl (Nat.le_of_ble_eq_true rfl) (seq_rt ?_)⟩
  generalize fr (r - most) i = z at *
  walk_at "go"
  simp [om, e1, e2, e3, andThen_some', wthD_some', op_add, op_sub, szle]
/-- a drawn time -/
structure TimeR (a b u : Int × Int) : Prop where
  a : NumR 4 a
  b : NumR 3 b
  u : ∃ n d : Int, 0 ≤ n ∧ n ≤ 8 ∧ 1 ≤ d ∧ d ≤ 3 ∧ u = fr n d
theorem numR_zero : NumR 3 (0, 1) := ⟨0, 1, by decide, by decide, by decide, by decide, by decide⟩
theorem time_ok {cf cp cn cm : Nat} (hF : LFracC F cf) (hP : PickC F cp) (hN : NextC F cn) (hM : NumC F cm) (is : List Int) (k : Int) (hk : 0 ≤ k) : ∃ (a b u : Int × Int) (k1 : Int), TimeR a b u ∧ 0 ≤ k1 ∧ runFn F W ⟨1, 1, B__law_time cf cn cp cm⟩ [.cell 0] [cw is k] = some (t3 a b u, [cw is k1]) := by
  obtain ⟨a, k1, ha, k10, e1⟩ := hM is k 4 hk (by decide) (by decide)
  obtain ⟨b1, k2, hb1, k20, e2⟩ := hM is k1 3 k10 (by decide) (by decide)
  obtain ⟨b2, k3, hb2, k30, e3⟩ := hM is k2 3 k20 (by decide) (by decide)
  obtain ⟨d, k4, hd, k40, e4⟩ := hP is k3 [fD (0, 1), fD b1, fD b2] k30 (by simp)
  obtain ⟨r, k5, r0, r1, k50, e5⟩ := hN is k4 9 (by decide) k40
  obtain ⟨s, k6, s0, s1, k60, e6⟩ := hN is k5 3 (by decide) k50
  have hd' : ∃ b, d = fD b ∧ NumR 3 b := by
    rcases List.mem_cons.mp hd with rfl | hd
    · exact ⟨_, rfl, numR_zero⟩
    · rcases List.mem_cons.mp hd with rfl | hd
      · exact ⟨_, rfl, hb1⟩
      · rcases List.mem_cons.mp hd with rfl | hd
        · exact ⟨_, rfl, hb2⟩
        · cases hd
  obtain ⟨b, rfl, hb⟩ := hd'
  have e7 := hF r (1 + s) [cw is k6] (Sm.mono (j := 10) (by unfold Sm; omega) (by decide)) ⟨Sm.mono (j := 10) (by unfold Sm; omega) (by decide), .inl (by omega)⟩
  refine ⟨a, b, fr r (1 + s), k6, ⟨ha, hb, r, 1 + s, r0, by omega, by omega, by omega, rfl⟩, k60, run_pl rfl (Nat.le_of_ble_eq_true rfl) (seq_rt ?_)⟩
  generalize fr r (1 + s) = u at *
  walk_at "go"
  simp [e1, e2, e3, e4, e5, e6, e7, andThen_some', wthD_some', op_add, szle]
theorem numR_bd {most : Int} {x : Int × Int} (h : NumR most x) (hm : most ≤ 8) : Bd 6 1 3 x := by
  obtain ⟨n, d, h1, h2, h3, h4, rfl⟩ := h
  have hd : d = 1 ∨ d = 2 ∨ d = 3 := by omega
  rcases hd with rfl | rfl | rfl
  · exact Bd.of (s := n * 6) (by decide) (by show (n.natAbs : Int) ≤ 8 * 1; omega) (by show n * 6 * 1 = n * 6; omega) (by decide)
  · exact Bd.of (s := n * 3) (by decide) (by show (n.natAbs : Int) ≤ 8 * 2; omega) (by show n * 3 * 2 = n * 6; omega) (by decide)
  · exact Bd.of (s := n * 2) (by decide) (by show (n.natAbs : Int) ≤ 8 * 3; omega) (by show n * 2 * 3 = n * 6; omega) (by decide)
theorem numR_fq {most : Int} {x : Int × Int} (h : NumR most x) (hm : most ≤ 8) : Fq 8 x := by
  obtain ⟨n, d, h1, h2, h3, h4, rfl⟩ := h
  exact fr_fq (by unfold Sm; omega) (by unfold Sm; omega) (by omega)
end
end FM

set_option Elab.async false
set_option linter.all false
set_option maxRecDepth 100000
set_option maxHeartbeats 4000000
/-! N20: times of fractions as values; the order is one. -/
namespace FM
open OF (sgn sgn_eq0 Hom rat)
/-- a time of fractions -/
structure Tm where
  a : Int × Int
  b : Int × Int
  u : Int × Int
def Tm.D (x : Tm) : FM.D := t3 x.a x.b x.u
structure Tm.Ok (x : Tm) : Prop where
  a : Pd x.a
  b : Pd x.b
  u : Pd x.u
  u0 : 0 ≤ x.u.1
def cT (x y : Tm) : Int := befF x.a x.b x.u y.a y.b y.u
theorem rat_nn {x : Int × Int} (h : Pd x) (h0 : 0 ≤ x.1) : 0 ≤ rat x := by
  have e := OF.rat_den (x := x) (by have : 0 < x.2 := h; omega)
  have p1 : (0 : Rat) < ((x.2 : Int) : Rat) := by exact_mod_cast h
  have p2 : (0 : Rat) ≤ ((x.1 : Int) : Rat) := by exact_mod_cast h0
  rcases Std.lt_trichotomy (rat x) 0 with z | z | z
  · have := OF.mpos (a := -rat x) (b := ((x.2 : Int) : Rat)) (by grind) p1
    grind
  · grind
  · grind
/-- a field in which all these times are values -/
theorem vals (ts : List Tm) (h : ∀ t ∈ ts, t.Ok) : ∃ (L : Type) (_ : Lean.Grind.Field L) (_ : LE L) (_ : LT L) (_ : Std.IsLinearOrder L) (_ : Std.LawfulOrderLT L) (_ : Lean.Grind.OrderedRing L) (j : Rat → L) (r : Int × Int → L), Hom j ∧ (∀ t ∈ ts, 0 ≤ r t.u ∧ r t.u * r t.u = j (rat t.u)) ∧
    ∀ x ∈ ts, ∀ y ∈ ts, cT x y = sgn ((j (rat x.a) + j (rat x.b) * r x.u) - (j (rat y.a) + j (rat y.b) * r y.u)) := by
  obtain ⟨L, i1, i2, i3, i4, i5, i6, j, hj, hr⟩ := OF.roots (ts.map fun t => rat t.u)
  have ex : ∀ t ∈ ts, ∃ r : L, 0 ≤ r ∧ r * r = j (rat t.u) := fun t ht => hr _ (List.mem_map.mpr ⟨t, ht, rfl⟩) (rat_nn (h t ht).u (h t ht).u0)
  classical
  let r : Int × Int → L := fun u => if e : ∃ r : L, 0 ≤ r ∧ r * r = j (rat u) then Classical.choose e else 0
  have rs : ∀ t ∈ ts, 0 ≤ r t.u ∧ r t.u * r t.u = j (rat t.u) := fun t ht => by
    have e := ex t ht
    show 0 ≤ (if e : ∃ r : L, 0 ≤ r ∧ r * r = j (rat t.u) then Classical.choose e else 0) ∧ _
    have hd : r t.u = Classical.choose e := dif_pos e
    rw [hd, dif_pos e]
    exact Classical.choose_spec e
  refine ⟨L, i1, i2, i3, i4, i5, i6, j, r, hj, rs, fun x hx y hy => ?_⟩
  have hx' := h x hx
  have hy' := h y hy
  exact bef_val hj hx'.a hx'.b hx'.u hy'.a hy'.b hy'.u (rs x hx).1 (rs x hx).2 (rs y hy).1 (rs y hy).2
section
variable {x y z : Tm} (hx : x.Ok) (hy : y.Ok) (hz : z.Ok)
include hx
theorem cT_self : cT x x = 0 := by
  obtain ⟨L, i1, i2, i3, i4, i5, i6, j, r, hj, _, h⟩ := vals [x] (fun t ht => by simp at ht; subst ht; exact hx)
  rw [h x (by simp) x (by simp)]
  rw [show (j (rat x.a) + j (rat x.b) * r x.u) - (j (rat x.a) + j (rat x.b) * r x.u) = 0 by grind]
  exact OF.sgn_zero
include hy
theorem cT_anti : cT y x = -cT x y := by
  obtain ⟨L, i1, i2, i3, i4, i5, i6, j, r, hj, _, h⟩ := vals [x, y] (fun t ht => by simp at ht; rcases ht with rfl | rfl <;> assumption)
  rw [h x (by simp) y (by simp), h y (by simp) x (by simp), ← OF.sgn_m]
  congr 1
  grind
theorem cT_three : cT x y = -1 ∨ cT x y = 0 ∨ cT x y = 1 := by
  have := sg2_abs (a := sgTwo (subF x.a y.a) x.b x.u) (b := if 0 < y.u.1 then sgI (subF (0, 1) y.b).1 else 0) (c := sgTwo (sqF (subF x.a y.a) x.b x.u (subF (0, 1) y.b) y.u) (mulF (2, 1) (mulF (subF x.a y.a) x.b)) x.u) (sgTwo_abs _ _ _) (by split <;> first | exact sgI_abs _ | decide) (sgTwo_abs _ _ _)
  have e : (cT x y).natAbs ≤ 1 := this
  omega
include hz
/-- the order goes on -/
theorem cT_trans : (cT x y ≤ 0 → cT y z ≤ 0 → cT x z ≤ 0) ∧ (cT x y < 0 → cT y z ≤ 0 → cT x z < 0) ∧ (cT x y ≤ 0 → cT y z < 0 → cT x z < 0) ∧ (cT x y = 0 → cT x z = cT y z) := by
  obtain ⟨L, i1, i2, i3, i4, i5, i6, j, r, hj, _, h⟩ := vals [x, y, z] (fun t ht => by simp at ht; rcases ht with rfl | rfl | rfl <;> assumption)
  rw [h x (by simp) y (by simp), h y (by simp) z (by simp), h x (by simp) z (by simp)]
  generalize j (rat x.a) + j (rat x.b) * r x.u = A
  generalize j (rat y.a) + j (rat y.b) * r y.u = B
  generalize j (rat z.a) + j (rat z.b) * r z.u = C
  have le0 : ∀ v : L, sgn v ≤ 0 ↔ v ≤ 0 := fun v => by
    rcases Std.lt_trichotomy v 0 with w | w | w
    · rw [OF.sgn_neg w]; constructor
      · intro _; grind
      · intro _; decide
    · subst w; rw [OF.sgn_zero]; constructor
      · intro _; grind
      · intro _; decide
    · rw [OF.sgn_pos w]; constructor
      · intro q; exact absurd q (by decide)
      · intro q; grind
  have lt0 : ∀ v : L, sgn v < 0 ↔ v < 0 := fun v => by
    rcases Std.lt_trichotomy v 0 with w | w | w
    · rw [OF.sgn_neg w]; constructor
      · intro _; exact w
      · intro _; decide
    · subst w; rw [OF.sgn_zero]; constructor
      · intro q; exact absurd q (by decide)
      · intro q; grind
    · rw [OF.sgn_pos w]; constructor
      · intro q; exact absurd q (by decide)
      · intro q; grind
  refine ⟨fun p q => ?_, fun p q => ?_, fun p q => ?_, fun p => ?_⟩
  · rw [le0] at *; grind
  · rw [lt0] at *; rw [le0] at q; grind
  · rw [lt0] at *; rw [le0] at p; grind
  · rw [sgn_eq0] at p
    congr 1
    grind
end
end FM

set_option Elab.async false
set_option linter.all false
set_option maxRecDepth 100000
set_option maxHeartbeats 0
namespace K15
open PySem FM L2
def top (i : Nat) : Stmt := PySem.Challenge.pw_firstmet_k15_times_told.main.body.getD i (.Pass ⟨0, 0, 0, 0⟩)
def B_law (c__law_draws : Nat) (c__law_time : Nat) (c__law_next : Nat) (c__law_pick : Nat) (c_is_time : Nat) (c__law_alike : Nat) (c_raised_time : Nat) (c__law_before : Nat) (c__law_plain : Nat) (c_sign_of_time : Nat) (c_time_number : Nat) (c__law_num : Nat) (c__law_against : Nat) (c__law_add : Nat) (c_beside : Nat) (c_sorted_times : Nat) (c_least_time : Nat) (c_compare_times : Nat) (c_is_same_time : Nat) (c_is_within : Nat) (c__law_between : Nat) (c_midway : Nat) (c__law_mul : Nat) (c_time_of : Nat) (c_plain_time : Nat) (c_times_in : Nat) : Ss := (.cons (.asg 1 (.dict ["draws", "at"] (.cons (.call c__law_draws (.cons (.var 0) (.cons (.int 500) .nil))) (.cons (.int 0) .nil)))) (.cons (.for_ (.nm 2) (.rng1 (.int 4)) (.cons (.asg 3 (.lc (.call c__law_time (.cons (.var 1) .nil)) (.nm 15) (.rng1 (.op .Add (.int 2) (.call c__law_next (.cons (.var 1) (.cons (.int 4) .nil))))) .none)) (.cons (.asg 3 (.op .Add (.var 3) (.ife (.cmp .Eq (.call c__law_next (.cons (.var 1) (.cons (.int 2) .nil))) (.int 0)) (.lst (.cons (.call c__law_pick (.cons (.var 1) (.cons (.var 3) .nil))) .nil)) (.lst .nil)))) (.cons (.asg 4 (.tup (.cons (.call c__law_pick (.cons (.var 1) (.cons (.lst (.cons (.tup (.cons (.int 2) (.cons (.int 1) .nil))) (.cons (.tup (.cons (.int 7) (.cons (.int 2) .nil))) .nil))) .nil))) .nil))) (.cons (.for_ (.nm 5) (.seq (.var 3)) (.cons (.asg 9 (.lst (.cons (.sl (.var 5) .none (.some (.int 2))) (.cons (.bi .list (.cons (.var 5) .nil)) (.cons .non (.cons (.int 7) (.cons (.op .Add (.sl (.var 5) .none (.some (.int 2))) (.tup (.cons (.tup (.cons (.op .Sub (.int 0) (.int 1)) (.cons (.int 2) .nil))) .nil))) (.cons (.op .Add (.sl (.var 5) .none (.some (.int 2))) (.tup (.cons (.tup (.cons (.int 1) (.cons (.int 0) .nil))) .nil))) (.cons (.op .Add (.tup (.cons (.bl true) .nil)) (.sl (.var 5) (.some (.int 1)) .none)) (.cons (.op .Add (.tup (.cons (.tup (.cons (.int 2) (.cons (.int 4) .nil))) .nil)) (.sl (.var 5) (.some (.int 1)) .none)) (.cons (.tup (.cons (.ix (.var 5) (.int 0)) (.cons (.tup (.cons (.ix (.var 5) (.int 1)) (.cons (.tup (.cons (.int 0) (.cons (.int 1) .nil))) .nil))) (.cons (.ix (.var 5) (.int 2)) .nil)))) .nil))))))))))) (.cons (.ifs (.or (.cmp .IsNot (.call c_is_time (.cons (.var 5) (.cons (.tup .nil) .nil))) (.bl true)) (.cmp .NotEq (.lc (.var 25) (.nm 25) (.seq (.var 9)) (.some (.cmp .IsNot (.call c_is_time (.cons (.var 25) (.cons (.tup .nil) .nil))) (.bl false)))) (.lst .nil))) (.cons (.ret (.bl false)) .nil) .nil) (.cons (.ifs (.or (.not (.call c__law_alike (.cons (.call c_sign_of_time (.cons (.var 5) (.cons (.tup .nil) .nil))) (.cons (.call c__law_before (.cons (.var 5) (.cons (.call c__law_plain (.cons (.tup (.cons (.int 0) (.cons (.int 1) .nil))) .nil)) .nil))) .nil)))) (.not (.call c__law_alike (.cons (.call c_raised_time (.cons (.var 5) (.cons (.tup .nil) (.cons (.var 4) .nil)))) (.cons (.bi .tuple (.cons (.lc (.tup (.cons (.var 27) (.cons (.tup (.cons (.int 0) (.cons (.int 1) .nil))) .nil))) (.nm 27) (.seq (.var 5)) .none) .nil)) .nil))))) (.cons (.ret (.bl false)) .nil) .nil) (.cons (.asg 10 (.call c_time_number (.cons (.var 5) (.cons (.tup .nil) .nil)))) (.cons (.for_ (.nm 6) (.rng1 (.int 3)) (.cons (.asg 16 (.call c__law_num (.cons (.var 1) (.cons (.int 6) .nil)))) (.cons (.ifs (.cmp .NotEq (.call c__law_against (.cons (.var 10) (.cons (.var 16) .nil))) (.call c__law_before (.cons (.var 5) (.cons (.call c__law_plain (.cons (.var 16) .nil)) .nil)))) (.cons (.ret (.bl false)) .nil) .nil) (.cons (.asg 17 (.op .Sub (.call c__law_next (.cons (.var 1) (.cons (.int 5) .nil))) (.int 2))) (.cons (.ifs (.cmp .NotEq (.call c__law_against (.cons (.call c_beside (.cons (.var 5) (.cons (.var 17) (.cons (.tup .nil) .nil)))) (.cons (.call c__law_add (.cons (.var 16) (.cons (.tup (.cons (.var 17) (.cons (.int 1) .nil))) .nil))) .nil))) (.call c__law_before (.cons (.var 5) (.cons (.call c__law_plain (.cons (.var 16) .nil)) .nil)))) (.cons (.ret (.bl false)) .nil) .nil) .nil))))) .nil)))))) (.cons (.asgT [11, 12] (.tup (.cons (.call c_sorted_times (.cons (.bi .tuple (.cons (.var 3) .nil)) (.cons (.tup .nil) .nil))) (.cons (.lst .nil) .nil)))) (.cons (.for_ (.nm 5) (.seq (.var 3)) (.cons (.asg 12 (.op .Add (.var 12) (.ife (.cmp .Eq (.lc (.var 26) (.nm 26) (.seq (.var 12)) (.some (.cmp .Eq (.call c__law_before (.cons (.var 26) (.cons (.var 5) .nil))) (.int 0)))) (.lst .nil)) (.lst (.cons (.var 5) .nil)) (.lst .nil)))) .nil)) (.cons (.ifs (.or (.cmp .NotEq (.bi .len (.cons (.var 11) .nil)) (.bi .len (.cons (.var 12) .nil))) (.or (.cmp .NotEq (.lc (.var 15) (.nm 15) (.rng1 (.op .Sub (.bi .len (.cons (.var 11) .nil)) (.int 1))) (.some (.cmp .NotEq (.call c__law_before (.cons (.ix (.var 11) (.var 15)) (.cons (.ix (.var 11) (.op .Add (.var 15) (.int 1))) .nil))) (.op .Sub (.int 0) (.int 1))))) (.lst .nil)) (.cmp .NotEq (.lc (.var 5) (.nm 5) (.seq (.var 11)) (.some (.cmp .NotIn (.var 5) (.var 3)))) (.lst .nil)))) (.cons (.ret (.bl false)) .nil) .nil) (.cons (.ifs (.or (.cmp .NotEq (.call c__law_before (.cons (.call c_least_time (.cons (.bi .tuple (.cons (.var 3) .nil)) (.cons (.tup .nil) .nil))) (.cons (.ix (.var 11) (.int 0)) .nil))) (.int 0)) (.cmp .IsNot (.call c_least_time (.cons (.tup .nil) (.cons (.tup .nil) .nil))) .non)) (.cons (.ret (.bl false)) .nil) .nil) (.cons (.for_ (.nm 6) (.rng1 (.int 6)) (.cons (.asgT [5, 18, 19] (.tup (.cons (.call c__law_pick (.cons (.var 1) (.cons (.var 3) .nil))) (.cons (.call c__law_pick (.cons (.var 1) (.cons (.var 3) .nil))) (.cons (.call c__law_pick (.cons (.var 1) (.cons (.op .Add (.var 3) (.lst (.cons .non .nil))) .nil))) .nil))))) (.cons (.asg 13 (.call c__law_before (.cons (.var 5) (.cons (.var 18) .nil)))) (.cons (.asg 10 (.tup (.cons (.call c_compare_times (.cons (.var 5) (.cons (.var 18) (.cons (.tup .nil) .nil)))) (.cons (.call c_is_same_time (.cons (.var 5) (.cons (.var 18) (.cons (.tup .nil) .nil)))) (.cons (.call c_compare_times (.cons (.call c_raised_time (.cons (.var 5) (.cons (.tup .nil) (.cons (.var 4) .nil)))) (.cons (.call c_raised_time (.cons (.var 18) (.cons (.tup .nil) (.cons (.var 4) .nil)))) (.cons (.var 4) .nil)))) .nil))))) (.cons (.ifs (.not (.call c__law_alike (.cons (.var 10) (.cons (.tup (.cons (.var 13) (.cons (.cmp .Eq (.var 13) (.int 0)) (.cons (.var 13) .nil)))) .nil)))) (.cons (.ret (.bl false)) .nil) .nil) (.cons (.asg 14 (.and (.cmp .Lt (.call c__law_before (.cons (.var 18) (.cons (.var 5) .nil))) (.int 0)) (.or (.cmp .Is (.var 19) .non) (.cmp .Lt (.call c__law_before (.cons (.var 5) (.cons (.var 19) .nil))) (.int 0))))) (.cons (.ifs (.not (.call c__law_alike (.cons (.tup (.cons (.call c_is_within (.cons (.var 5) (.cons (.var 18) (.cons (.var 19) (.cons (.tup .nil) .nil))))) (.cons (.call c_is_within (.cons (.var 5) (.cons .non (.cons .non (.cons (.tup .nil) .nil))))) .nil))) (.cons (.tup (.cons (.var 14) (.cons (.bl true) .nil))) .nil)))) (.cons (.ret (.bl false)) .nil) .nil) (.cons (.ifs (.cmp .NotEq (.var 13) (.int 0)) (.cons (.asgT [21, 22] (.ife (.cmp .Lt (.var 13) (.int 0)) (.tup (.cons (.var 5) (.cons (.var 18) .nil))) (.tup (.cons (.var 18) (.cons (.var 5) .nil))))) (.cons (.asg 16 (.call c__law_between (.cons (.var 21) (.cons (.var 22) .nil)))) (.cons (.asg 20 (.call c_midway (.cons (.var 5) (.cons (.var 18) (.cons (.tup .nil) .nil))))) (.cons (.par 23 24 (.call c__law_between (.cons .non (.cons (.var 21) .nil))) (.call c__law_between (.cons (.var 22) (.cons .non .nil)))) (.cons (.ifs (.and (.cmp .IsNot (.var 16) .non) (.or (.cmp .Lt (.call c__law_against (.cons (.var 20) (.cons (.var 23) .nil))) (.int 1)) (.cmp .Gt (.call c__law_against (.cons (.var 20) (.cons (.var 24) .nil))) (.op .Sub (.int 0) (.int 1))))) (.cons (.ret (.bl false)) .nil) .nil) (.cons (.ifs (.and (.cmp .Eq (.ix (.var 5) (.int 1)) (.tup (.cons (.int 0) (.cons (.int 1) .nil)))) (.and (.cmp .Eq (.ix (.var 18) (.int 1)) (.tup (.cons (.int 0) (.cons (.int 1) .nil)))) (.cmp .NotEq (.call c__law_against (.cons (.var 20) (.cons (.call c__law_mul (.cons (.tup (.cons (.int 1) (.cons (.int 2) .nil))) (.cons (.call c__law_add (.cons (.ix (.var 5) (.int 0)) (.cons (.ix (.var 18) (.int 0)) .nil))) .nil))) .nil))) (.int 0)))) (.cons (.ret (.bl false)) .nil) .nil) .nil)))))) .nil) .nil)))))))) (.cons (.asg 7 (.call c__law_num (.cons (.var 1) (.cons (.int 9) .nil)))) (.cons (.ifs (.not (.call c__law_alike (.cons (.tup (.cons (.call c_plain_time (.cons (.var 7) (.cons (.tup .nil) .nil))) (.cons (.call c_time_of (.cons (.var 7) (.cons (.tup (.cons (.tup .nil) (.cons (.op .Mult (.tup (.cons (.tup (.cons (.int 0) (.cons (.int 1) .nil))) .nil)) (.int 3)) (.cons (.op .Mult (.tup (.cons (.tup (.cons (.int 1) (.cons (.int 1) .nil))) .nil)) (.int 3)) .nil)))) .nil))) .nil))) (.cons (.tup (.cons (.call c__law_plain (.cons (.var 7) .nil)) (.cons (.call c__law_plain (.cons (.var 7) .nil)) .nil))) .nil)))) (.cons (.ret (.bl false)) .nil) .nil) (.cons (.asg 8 (.tup (.cons (.tup .nil) (.cons (.op .Mult (.tup (.cons (.tup (.cons (.int 0) (.cons (.int 1) .nil))) .nil)) (.int 3)) (.cons (.op .Mult (.tup (.cons (.tup (.cons (.int 1) (.cons (.int 1) .nil))) .nil)) (.int 3)) .nil))))) (.cons (.ifs (.not (.call c__law_alike (.cons (.bi .tuple (.cons (.call c_times_in (.cons (.bi .tuple (.cons (.var 3) .nil)) (.cons (.var 8) (.cons (.var 4) .nil)))) .nil)) (.cons (.bi .tuple (.cons (.lc (.bi .tuple (.cons (.lc (.tup (.cons (.var 27) (.cons (.tup (.cons (.int 0) (.cons (.int 1) .nil))) .nil))) (.nm 27) (.seq (.var 5)) .none) .nil)) (.nm 5) (.seq (.var 3)) .none) .nil)) .nil)))) (.cons (.ret (.bl false)) .nil) .nil) .nil)))))))))))))) (.cons (.ret (.bl true)) .nil)))
def d_is_whole : FD := ⟨"is_whole", top 1, ["thing"], ["thing"], B_is_whole⟩
def d_common : FD := ⟨"common", top 2, ["one", "other"], ["one", "other"], B_common⟩
def d_frac : FD := ⟨"frac", top 3, ["upper", "lower", "shared"], ["upper", "lower"], B_frac 1⟩
def d_is_frac : FD := ⟨"is_frac", top 4, ["thing", "one"], ["thing"], B_is_frac 0 1⟩
def d_plus : FD := ⟨"plus", top 5, ["one", "other"], ["one", "other"], B_plus 2⟩
def d_minus : FD := ⟨"minus", top 6, ["one", "other"], ["one", "other"], B_minus 2⟩
def d_times : FD := ⟨"times", top 7, ["one", "other"], ["one", "other"], B_times 2⟩
def d_sign_of : FD := ⟨"sign_of", top 8, ["one"], ["one"], B_sign_of⟩
def d_root_below : FD := ⟨"root_below", top 9, ["number", "found", "later"], ["number"], B_root_below⟩
def d_exact_root : FD := ⟨"exact_root", top 10, ["one", "upper", "lower"], ["one"], B_exact_root 8⟩
def d_is_of : FD := ⟨"is_of", top 12, ["thing", "tower", "part"], ["thing", "tower"], B_is_of 3 10⟩
def d_lifted : FD := ⟨"lifted", top 13, ["one", "tower", "higher", "k"], ["one", "tower", "higher"], B_lifted 12⟩
def d_nought : FD := ⟨"nought", top 14, ["tower"], ["tower"], B_nought 11⟩
def d_number : FD := ⟨"number", top 15, ["one", "tower"], ["one", "tower"], B_number 11⟩
def d_add : FD := ⟨"add", top 16, ["one", "other", "tower", "lower"], ["one", "other", "tower"], B_add 4 14⟩
def d_sub : FD := ⟨"sub", top 17, ["one", "other", "tower", "lower"], ["one", "other", "tower"], B_sub 5 15⟩
def d_mul : FD := ⟨"mul", top 18, ["one", "other", "tower", "both", "across", "lower", "root"], ["one", "other", "tower"], B_mul 6 17 16 14⟩
def d_is_nought : FD := ⟨"is_nought", top 19, ["one", "tower"], ["one", "tower"], B_is_nought 17⟩
def d_norm : FD := ⟨"norm", top 20, ["one", "tower", "lower"], ["one", "tower"], B_norm 15 16⟩
def d_sign : FD := ⟨"sign", top 21, ["one", "tower", "first", "second"], ["one", "tower"], B_sign 7 19 18⟩
def d_compare : FD := ⟨"compare", top 22, ["one", "other", "tower"], ["one", "other", "tower"], B_compare 19 15⟩
def d_with_root : FD := ⟨"with_root", top 23, ["one", "tower", "plain", "k", "higher"], ["one", "tower"], B_with_root 22 9 13 20 11 12⟩
def d_fraction_of : FD := ⟨"fraction_of", top 24, ["one", "tower", "k"], ["one", "tower"], B_fraction_of 17⟩
def d_is_time : FD := ⟨"is_time", top 26, ["thing", "tower", "one"], ["thing", "tower"], B_is_time 10 19⟩
def d_plain_time : FD := ⟨"plain_time", top 27, ["one", "tower"], ["one", "tower"], B_plain_time 12⟩
def d_time_number : FD := ⟨"time_number", top 28, ["time", "tower", "first", "second", "under", "higher", "root"], ["time", "tower"], B_time_number 17 21 14 16 11⟩
def d_raised_time : FD := ⟨"raised_time", top 29, ["time", "tower", "higher", "one"], ["time", "tower", "higher"], B_raised_time 11⟩
def d_compare_times : FD := ⟨"compare_times", top 30, ["one", "other", "tower", "higher", "first", "last", "second"], ["one", "other", "tower"], B_compare_times 25 26 19 15 11⟩
def d_sign_of_time : FD := ⟨"sign_of_time", top 31, ["time", "tower"], ["time", "tower"], B_sign_of_time 27 24 12⟩
def d_sorted_times : FD := ⟨"sorted_times", top 32, ["times", "tower", "found", "time", "at"], ["times", "tower"], B_sorted_times 27⟩
def d_midway : FD := ⟨"midway", top 33, ["one", "other", "tower", "both", "higher", "first", "last", "second"], ["one", "other", "tower"], B_midway 25 26 14 11 16 13⟩
def d_beside : FD := ⟨"beside", top 34, ["time", "step", "tower", "higher", "found"], ["time", "step", "tower"], B_beside 25 14 13⟩
def d_is_same_time : FD := ⟨"is_same_time", top 35, ["one", "other", "tower"], ["one", "other", "tower"], B_is_same_time 27⟩
def d_is_within : FD := ⟨"is_within", top 36, ["time", "one", "other", "tower"], ["time", "one", "other", "tower"], B_is_within 27⟩
def d_least_time : FD := ⟨"least_time", top 37, ["times", "tower", "found", "time"], ["times", "tower"], B_least_time 27⟩
def d_time_of : FD := ⟨"time_of", top 39, ["one", "ray"], ["one", "ray"], B_time_of 24 13⟩
def d_times_in : FD := ⟨"times_in", top 40, ["times", "ray", "higher", "time"], ["times", "ray", "higher"], B_times_in 26⟩
def d__law_draws : FD := ⟨"_law_draws", top 42, ["script", "many", "draws", "mixed", "k", "cell", "rest", "turn"], ["script", "many"], B__law_draws⟩
def d__law_next : FD := ⟨"_law_next", top 43, ["w", "many"], ["w", "many"], B__law_next⟩
def d__law_pick : FD := ⟨"_law_pick", top 44, ["w", "rows"], ["w", "rows"], B__law_pick 38⟩
def d__law_alike : FD := ⟨"_law_alike", top 45, ["given", "due", "k"], ["given", "due"], B__law_alike 40⟩
def d__law_gcd : FD := ⟨"_law_gcd", top 46, ["a", "b"], ["a", "b"], B__law_gcd⟩
def d__law_fr : FD := ⟨"_law_fr", top 47, ["n", "d", "g"], ["n", "d"], B__law_fr 41⟩
def d__law_add : FD := ⟨"_law_add", top 48, ["a", "b"], ["a", "b"], B__law_add 42⟩
def d__law_sub : FD := ⟨"_law_sub", top 49, ["a", "b"], ["a", "b"], B__law_sub 42⟩
def d__law_mul : FD := ⟨"_law_mul", top 50, ["a", "b"], ["a", "b"], B__law_mul 42⟩
def d__law_sgn : FD := ⟨"_law_sgn", top 51, ["a"], ["a"], B__law_sgn⟩
def d__law_sign_two : FD := ⟨"_law_sign_two", top 52, ["u", "v", "p", "first", "second"], ["u", "v", "p"], B__law_sign_two 46 44 45⟩
def d__law_before : FD := ⟨"_law_before", top 53, ["one", "other", "t", "square", "u", "v", "p", "q", "first", "second"], ["one", "other"], B__law_before 44 47 46 45 43⟩
def d__law_plain : FD := ⟨"_law_plain", top 54, ["time"], ["time"], B__law_plain⟩
def d__law_between : FD := ⟨"_law_between", top 55, ["one", "other", "parts", "turn", "found", "good", "low", "high", "middle"], ["one", "other"], B__law_between 48 49 42⟩
def d__law_num : FD := ⟨"_law_num", top 56, ["w", "most"], ["w", "most"], B__law_num 42 39 38⟩
def d__law_time : FD := ⟨"_law_time", top 57, ["w"], ["w"], B__law_time 42 38 39 51⟩
def d__law_against : FD := ⟨"_law_against", top 58, ["told", "fraction", "tower", "one"], ["told", "fraction"], B__law_against 19 15 13⟩
def d_law : FD := ⟨"law", top 59, ["script", "w", "turn", "rows", "high", "one", "look", "plain", "ray", "bad", "told", "order", "times_v", "due", "within", "k", "fraction", "step", "other", "third", "middle", "first", "last", "low", "top", "thing", "own", "part"], ["script"], B_law 37 52 38 39 23 40 26 48 49 28 25 51 53 43 31 29 34 27 32 33 50 30 45 35 24 36⟩
def defs : List FD := [d_is_whole, d_common, d_frac, d_is_frac, d_plus, d_minus, d_times, d_sign_of, d_root_below, d_exact_root, d_is_of, d_lifted, d_nought, d_number, d_add, d_sub, d_mul, d_is_nought, d_norm, d_sign, d_compare, d_with_root, d_fraction_of, d_is_time, d_plain_time, d_time_number, d_raised_time, d_compare_times, d_sign_of_time, d_sorted_times, d_midway, d_beside, d_is_same_time, d_is_within, d_least_time, d_time_of, d_times_in, d__law_draws, d__law_next, d__law_pick, d__law_alike, d__law_gcd, d__law_fr, d__law_add, d__law_sub, d__law_mul, d__law_sgn, d__law_sign_two, d__law_before, d__law_plain, d__law_between, d__law_num, d__law_time, d__law_against, d_law]
/-- the law: its number, its place in the top -/
def lawNo : Nat := 54
def lawAt : Nat := 59
def fs : List Str := defs.map FD.name
theorem chk_all : (defs.all fun d => d.chk fs) = true := by decide +kernel
end K15

set_option Elab.async false
set_option linter.all false
set_option maxRecDepth 100000
set_option maxHeartbeats 4000000
namespace K15
open FM
open PySem (Str sizeLine)
abbrev T (n : Nat) : Fs := call (tabOf defs) W n
theorem common_at (n : Nat) : CommonC (T (n + 1)) 1 := fun a b μ h => (call_at (d := d_common) rfl _ _).trans (common_ok a b h μ)
theorem frac_at (n : Nat) : FracC (T (n + 2)) 2 := fun a b μ h => (call_at (d := d_frac) rfl _ _).trans (frac_ok (common_at n) a b μ h)
theorem whole_at (n : Nat) (i : Int) (μ : Cells) : T (n + 1) 0 [.int i] μ = some (.bl true, μ) := (call_at (d := d_is_whole) rfl _ _).trans (is_whole_int i μ)
theorem isfrac_at (n : Nat) (x : Int × Int) (μ : Cells) (h : Sm 4000 x.2) : T (n + 2) 3 [fD x] μ = some (.bl (decide (0 < x.2) && decide ((Int.gcd x.1 x.2 : Int) = 1)), μ) := (call_at (d := d_is_frac) rfl _ _).trans (is_frac_ok (whole_at n) (common_at n) x h μ)
theorem gcd_at (n : Nat) (a b : Int) (μ : Cells) (h : Gp a b) : T (n + 1) 41 [.int a, .int b] μ = some (.int (Int.gcd a b), μ) := (call_at (d := d__law_gcd) rfl _ _).trans (gcd_ok a b h μ)
theorem lfr_at (n : Nat) : LFracC (T (n + 2)) 42 := fun a b μ ha h => (call_at (d := d__law_fr) rfl _ _).trans (law_fr_ok (gcd_at n) a b μ ha h)
theorem root_at (n : Nat) : RootC (T (n + 1)) 8 := fun m μ h g => by
  obtain ⟨r, h1, h2⟩ := root_below_ok (F := T n) m μ h g
  exact ⟨r, (call_at (d := d_root_below) rfl _ _).trans h1, h2⟩
/-- the towers' defs, at every level -/
abbrev G (m : Nat) : Fs := T (m + 5)
def ids : Ids := ⟨4, 5, 6, 7, 14, 15, 16, 17, 18, 19, 20⟩
def ids2 : Ids2 := ⟨12, 11, 13, 22, 9, 21⟩
def ids3 : Ids3 := ⟨25, 26, 27⟩
def ids4 : Ids4 := ⟨53, 31, 30⟩
theorem tf : TF G ids where
  plus := fun m x y μ hx hy => (call_at (d := d_plus) rfl _ _).trans (plus_ok hx hy μ (frac_at (m + 2)))
  minus := fun m x y μ hx hy => (call_at (d := d_minus) rfl _ _).trans (minus_ok hx hy μ (frac_at (m + 2)))
  times := fun m x y μ hx hy => (call_at (d := d_times) rfl _ _).trans (times_ok hx hy μ (frac_at (m + 2)))
  sgn := fun m x μ => (call_at (d := d_sign_of) rfl _ _).trans (sign_of_ok x μ)
  add := fun m ds μ => call_at (d := d_add) rfl _ _
  sub := fun m ds μ => call_at (d := d_sub) rfl _ _
  isn := fun m ds μ => call_at (d := d_is_nought) rfl _ _
  mul := fun m ds μ => call_at (d := d_mul) rfl _ _
  norm := fun m ds μ => call_at (d := d_norm) rfl _ _
  sign := fun m ds μ => call_at (d := d_sign) rfl _ _
  cmp := fun m ds μ => call_at (d := d_compare) rfl _ _
theorem tf2 : TF2 G ids ids2 where
  t := tf
  nought := fun m ds μ => call_at (d := d_nought) rfl _ _
  lifted := fun m ds μ => call_at (d := d_lifted) rfl _ _
  number := fun m ds μ => call_at (d := d_number) rfl _ _
  fracof := fun m ds μ => call_at (d := d_fraction_of) rfl _ _
  exact := fun m x μ hx => by
    have z := exact_root_ok (F := T (m + 4)) (f := 8) (root_at (m + 3)) hx μ
    split at z
    · rename_i h
      rw [if_pos h]
      exact (call_at (d := d_exact_root) rfl _ _).trans z
    · rename_i h
      rw [if_neg h]
      obtain ⟨r, s, h1, h2, h3⟩ := z
      exact ⟨r, s, h1, h2, (call_at (d := d_exact_root) rfl _ _).trans h3⟩
  wroot := fun m ds μ => call_at (d := d_with_root) rfl _ _
theorem tf3 : TF3 G ids ids2 ids3 where
  t := tf2
  tnum := fun m ds μ => call_at (d := d_time_number) rfl _ _
  raised := fun m ds μ => call_at (d := d_raised_time) rfl _ _
  ctimes := fun m ds μ => call_at (d := d_compare_times) rfl _ _
theorem tf4 : TF4 G ids ids2 ids3 ids4 where
  t := tf3
  against := fun m ds μ => call_at (d := d__law_against) rfl _ _
  beside := fun m ds μ => call_at (d := d_beside) rfl _ _
  midway := fun m ds μ => call_at (d := d_midway) rfl _ _
theorem lawF (n : Nat) : LawF (T (n + 3)) 44 45 43 46 42 where
  sub := fun x y μ hx hy => (call_at (d := d__law_sub) rfl _ _).trans (law_sub_ok hx hy μ (lfr_at n))
  mul := fun x y μ hx hy => (call_at (d := d__law_mul) rfl _ _).trans (law_mul_ok hx hy μ (lfr_at n))
  add := fun x y μ hx hy => (call_at (d := d__law_add) rfl _ _).trans (law_add_ok hx hy μ (lfr_at n))
  sgn := fun x μ => (call_at (d := d__law_sgn) rfl _ _).trans (law_sgn_ok x μ)
theorem sign_two_at (n : Nat) {u v p : Int × Int} {ku kv kp : Nat} (μ : Cells) (hu : Fq ku u) (hv : Fq kv v) (hp : Fq kp p) (l1 : ku + ku ≤ 1800) (l2 : kv + kv + kp ≤ 1800) : T (n + 4) 47 [fD u, fD v, fD p] μ = some (.int (sgTwo u v p), μ) :=
  (call_at (d := d__law_sign_two) rfl _ _).trans (sign_two_ok (lawF n) hu hv hp l1 l2 μ)
theorem before_at (n : Nat) {a b p a' b' q : Int × Int} {ka ka' : Nat} (ha : Fq ka a) (hb : Fq 8 b) (hp : Fq 8 p) (ha' : Fq ka' a') (hb' : Fq 8 b') (hq : Fq 8 q) (l : ka + ka' ≤ 415) (μ : Cells) : T (n + 5) 48 [t3 a b p, t3 a' b' q] μ = some (.int (befF a b p a' b' q), μ) :=
  (call_at (d := d__law_before) rfl _ _).trans (before_ok (lawF (n + 1)) (fun μ hu hv hp l1 l2 => sign_two_at n μ hu hv hp l1 l2) ha hb hp ha' hb' hq l μ)
theorem btF (n : Nat) : BtF (T (n + 5)) 48 49 42 where
  bp := fun f x μ hf => before_at n hf (fq01' 6) (fq01' 6) x.fa x.fb x.fp (by decide) μ
  pb := fun f x μ hf => before_at n x.fa x.fb x.fp hf (fq01' 6) (fq01' 6) (by decide) μ
  pl := fun f μ => (call_at (d := d__law_plain) rfl _ _).trans law_plain_ok
  fr := lfr_at (n + 3)
theorem next_at (n : Nat) : NextC (T (n + 1)) 38 := fun is k many h hk => by
  obtain ⟨r, h1, h2, h3⟩ := next_ok (F := T n) is k many h hk []
  exact ⟨r, k + 1, h1, h2, by omega, (call_at (d := d__law_next) rfl _ _).trans h3⟩
theorem pick_at (n : Nat) : PickC (T (n + 2)) 39 := fun is k ds hk hd => by
  obtain ⟨d, k1, h1, h2, h3⟩ := pick_ok (next_at n) is k ds hk hd
  exact ⟨d, k1, h1, h2, (call_at (d := d__law_pick) rfl _ _).trans h3⟩
theorem num_at (n : Nat) : NumC (T (n + 3)) 51 := fun is k most hk h0 h1 => by
  obtain ⟨x, k1, e1, e2, e3⟩ := num_ok (lfr_at n) (pick_at n) (next_at (n + 1)) is k most hk h0 h1
  exact ⟨x, k1, e1, e2, (call_at (d := d__law_num) rfl _ _).trans e3⟩
theorem time_at (n : Nat) (is : List Int) (k : Int) (hk : 0 ≤ k) : ∃ (a b u : Int × Int) (k1 : Int), TimeR a b u ∧ 0 ≤ k1 ∧ T (n + 4) 52 [.cell 0] [cw is k] = some (t3 a b u, [cw is k1]) := by
  obtain ⟨a, b, u, k1, e1, e2, e3⟩ := time_ok (lfr_at (n + 1)) (pick_at (n + 1)) (next_at (n + 2)) (num_at n) is k hk
  exact ⟨a, b, u, k1, e1, e2, (call_at (d := d__law_time) rfl _ _).trans e3⟩
theorem draws_at (n : Nat) (ns : List Int) (h : ns.length ≤ 63) (μ : Cells) : ∃ is : List Int, T (n + 1) 37 [.lst (ns.map D.int), .int 500] μ = some (.lst (is.map D.int), μ) := by
  obtain ⟨is, e⟩ := draws_ok (F := T n) ns h 500 (by decide) μ
  exact ⟨is, (call_at (d := d__law_draws) rfl _ _).trans e⟩
theorem like_at (d : D) (h : dep 50 d = true) : LikeC (T 99) 40 d := (like_dep (f := 40) (G := fun n => T (n + 48)) (fun n ds μ => call_at (d := d__law_alike) rfl _ _) 50 d h : LikeC (T 99) 40 d)
/-! ### sizes -/
theorem lim0 : Lim 1 3 0 := ⟨⟨by decide, trivial⟩, ⟨by decide, by decide, trivial⟩, by decide⟩
theorem lim1 : Lim 1 3 1 := ⟨⟨by decide, by decide, trivial⟩, ⟨by decide, by decide, by decide, trivial⟩, by decide⟩
end K15

set_option Elab.async false
set_option linter.all false
set_option maxRecDepth 100000
set_option maxHeartbeats 4000000
/-! the order of drawn times at the program's numbers -/
namespace K15
open FM
open OF (sgn Hom rat)
open PySem (Str sizeLine)
/-- a time that may come up -/
structure Ro (x : Tm) : Prop where
  t : TimeR x.a x.b x.u
theorem u_num {u : Int × Int} (h : ∃ n d : Int, 0 ≤ n ∧ n ≤ 8 ∧ 1 ≤ d ∧ d ≤ 3 ∧ u = fr n d) : NumR 8 u := by
  obtain ⟨n, d, h1, h2, h3, h4, h5⟩ := h
  exact ⟨n, d, by omega, h2, h3, h4, h5⟩
theorem u_nn {u : Int × Int} (h : ∃ n d : Int, 0 ≤ n ∧ n ≤ 8 ∧ 1 ≤ d ∧ d ≤ 3 ∧ u = fr n d) : 0 ≤ u.1 := by
  obtain ⟨n, d, h1, h2, h3, h4, rfl⟩ := h
  obtain ⟨e1, e2, e3, e4⟩ := fr_spec n (b := d) (by omega)
  have g0 : 0 < gs n d := by
    have := gcd_pos n (b := d) (by omega)
    unfold gs
    rw [if_pos (by omega)]
    omega
  rcases Int.lt_or_le (fr n d).1 0 with z | z
  · have := Int.mul_neg_of_neg_of_pos z g0
    omega
  · exact z
theorem Ro.ok {x : Tm} (h : Ro x) : x.Ok := ⟨(numR_bd h.t.a (by decide)).pd, (numR_bd h.t.b (by decide)).pd, (numR_bd (u_num h.t.u) (by decide)).pd, u_nn h.t.u⟩
theorem Ro.ba {x : Tm} (h : Ro x) : AllL (Bd 6 1 3) 0 (x.a : Nm 0) := numR_bd h.t.a (by decide)
theorem Ro.bb {x : Tm} (h : Ro x) : AllL (Bd 6 1 3) 0 (x.b : Nm 0) := numR_bd h.t.b (by decide)
theorem Ro.bu {x : Tm} (h : Ro x) : AllL (Bd 6 1 3) 0 (x.u : Nm 0) := numR_bd (u_num h.t.u) (by decide)
theorem u_pos {L : Type} [Lean.Grind.Field L] [LE L] [LT L] [Std.LawfulOrderLT L] [Std.IsLinearOrder L] [Lean.Grind.OrderedRing L] {j : Rat → L} (hj : Hom j) {x : Tm} (h : x.Ok) (z : isN 0 (x.u : Nm 0) = false) : 0 < j (rat x.u) := by
  have e : ¬ x.u.1 = 0 := of_decide_eq_false z
  exact (sgI_pos hj h.u).mp (by have := h.u0; omega)
theorem ctimesG {m : Nat} (hm : 60 ≤ m) {x y : Tm} (hx : Ro x) (hy : Ro y) (μ : Cells) : T (m + 6) 27 [x.D, y.D, .tup []] μ = some (.int (cT x y), μ) := by
  obtain ⟨s, e, sv⟩ := ctimes_c tf3 (B := 6) (er := 1) (mr := 3) (by decide) (by decide) (n := 0) (by decide) .nil trivial (x.a : Nm 0) (x.b : Nm 0) (x.u : Nm 0) (y.a : Nm 0) (y.b : Nm 0) (y.u : Nm 0) hx.ba hx.bb hx.bu hy.ba hy.bb hy.bu lim0 (m := m) (by omega) μ
  obtain ⟨L, i1, i2, i3, i4, i5, i6, j, r, hj, hr, hv⟩ := vals [x, y] (fun t ht => by simp at ht; rcases ht with rfl | rfl; exact hx.ok; exact hy.ok)
  have e1 : s = cT x y := by
    rw [hv x (by simp) y (by simp)]
    exact sv L j (fun _ => 0) (r x.u) (r y.u) hj trivial (hr x (by simp)).1 (hr x (by simp)).2 (fun z => u_pos hj hx.ok z) (hr y (by simp)).1 (hr y (by simp)).2 (fun z => u_pos hj hy.ok z)
  rw [← e1]
  exact e
theorem ctimes0 {x y : Tm} (hx : Ro x) (hy : Ro y) (μ : Cells) : T 99 27 [x.D, y.D, .tup []] μ = some (.int (cT x y), μ) := ctimesG (m := 93) (by decide) hx hy μ
theorem ctimes1 {x y : Tm} (hx : Ro x) (hy : Ro y) (μ : Cells) : T 98 27 [x.D, y.D, .tup []] μ = some (.int (cT x y), μ) := ctimesG (m := 92) (by decide) hx hy μ
theorem before0 {x y : Tm} (hx : Ro x) (hy : Ro y) (μ : Cells) : T 99 48 [x.D, y.D] μ = some (.int (cT x y), μ) :=
  before_at 94 (numR_fq hx.t.a (by decide)) (numR_fq hx.t.b (by decide)) (numR_fq (u_num hx.t.u) (by decide)) (numR_fq hy.t.a (by decide)) (numR_fq hy.t.b (by decide)) (numR_fq (u_num hy.t.u) (by decide)) (by decide) μ
/-- the two higher towers -/
def Hi (h : Int × Int) : Prop := h = (2, 1) ∨ h = (7, 2)
theorem Hi.bd {h : Int × Int} (g : Hi h) : Bd 6 1 3 h := by
  rcases g with rfl | rfl
  · exact numR_bd (most := 4) ⟨2, 1, by decide, by decide, by decide, by decide, by decide⟩ (by decide)
  · exact numR_bd (most := 8) ⟨7, 2, by decide, by decide, by decide, by decide, by decide⟩ (by decide)
theorem Hi.pos {h : Int × Int} (g : Hi h) : 0 < h.1 := by rcases g with rfl | rfl <;> decide
abbrev tH (h : Int × Int) : Tw 1 := .snoc .nil (h : Nm 0)
def upL (x : Int × Int) : Nm 1 := ((x : Nm 0), (((0, 1) : Int × Int) : Nm 0))
def upD (x : Tm) : D := tmD (n := 1) (upL x.a) (upL x.b) (upL x.u)
theorem raised0 (x : Tm) (h : Int × Int) (μ : Cells) : T 99 26 [x.D, .tup [], .tup [fD h]] μ = some (upD x, μ) :=
  raised_c tf3 (n := 0) (n' := 1) (by decide) (by decide) [] [fD h] rfl rfl (m := 93) (by decide) (fD x.a) (fD x.b) (fD x.u) μ
theorem ctimesH {x y : Tm} (hx : Ro x) (hy : Ro y) {h : Int × Int} (g : Hi h) (μ : Cells) : T 99 27 [upD x, upD y, .tup [fD h]] μ = some (.int (cT x y), μ) := by
  have up : ∀ {q : Int × Int}, AllL (Bd 6 1 3) 0 (q : Nm 0) → AllL (Bd 6 1 3) 1 (upL q) := fun h => ⟨h, bd01 _ _ _⟩
  obtain ⟨s, e, sv⟩ := ctimes_c tf3 (B := 6) (er := 1) (mr := 3) (by decide) (by decide) (n := 1) (by decide) (tH h) ⟨trivial, g.bd⟩ (upL x.a) (upL x.b) (upL x.u) (upL y.a) (upL y.b) (upL y.u) (up hx.ba) (up hx.bb) (up hx.bu) (up hy.ba) (up hy.bb) (up hy.bu) lim1 (m := 93) (by decide) μ
  let w : Tm := ⟨(0, 1), (0, 1), h⟩
  have hw : w.Ok := ⟨(show (0 : Int) < 1 by decide), (show (0 : Int) < 1 by decide), g.bd.pd, by have := g.pos; show 0 ≤ h.1; omega⟩
  obtain ⟨L, i1, i2, i3, i4, i5, i6, j, r, hj, hr, hv⟩ := vals [x, y, w] (fun t ht => by simp at ht; rcases ht with rfl | rfl | rfl; exact hx.ok; exact hy.ok; exact hw)
  have vl : ∀ q : Int × Int, val j (fun _ => r h) 1 (upL q) = j (rat q) := fun q => by
    show val j (fun _ => r h) 0 (q : Nm 0) + val j (fun _ => r h) 0 (((0, 1) : Int × Int) : Nm 0) * r h = _
    have z := val_zero (ρ := fun _ => r h) hj 0
    have z' : val j (fun _ => r h) 0 (((0, 1) : Int × Int) : Nm 0) = 0 := z
    rw [z']
    show j (rat q) + 0 * r h = _
    grind
  have rw' := hr w (by simp)
  have hp : 0 < j (rat h) := (sgI_pos hj g.bd.pd).mp g.pos
  have rp : 0 < r h := by
    have r0 : 0 ≤ r h := rw'.1
    have r1 : r h * r h = j (rat h) := rw'.2
    by_cases c : r h = 0
    · rw [c] at r1; grind
    · grind
  have iu : ∀ q : Int × Int, isN 1 (upL q) = false → isN 0 (q : Nm 0) = false := fun q z => by
    have e : isN 1 (upL q) = (isN 0 (q : Nm 0) && isN 0 (((0, 1) : Int × Int) : Nm 0)) := rfl
    rw [e] at z
    have o : isN 0 (((0, 1) : Int × Int) : Nm 0) = true := rfl
    rwa [o, Bool.and_true] at z
  have e1 : s = cT x y := by
    rw [hv x (by simp) y (by simp)]
    have := sv L j (fun _ => r h) (r x.u) (r y.u) hj ⟨trivial, rp, rw'.2⟩ (hr x (by simp)).1 (by rw [vl]; exact (hr x (by simp)).2) (fun z => by rw [vl]; exact u_pos hj hx.ok (iu _ z)) (hr y (by simp)).1 (by rw [vl]; exact (hr y (by simp)).2) (fun z => by rw [vl]; exact u_pos hj hy.ok (iu _ z))
    rw [vl, vl, vl, vl] at this
    exact this
  rw [← e1]
  exact e
end K15

set_option Elab.async false
set_option linter.all false
set_option maxRecDepth 100000
set_option maxHeartbeats 4000000
/-! which things are times -/
namespace K15
open FM
open PySem (Str sizeLine)
local macro_rules | `(tactic| walk_at "go") => `(tactic| simp [FM.execs, FM.exec, FM.ev, FM.evs, FM.evo, FM.evc, FM.evi, FM.Sl.d, FM.isiD, FM.cmpD, FM.negD, FM.bindT, FM.andThen_some', FM.onBl_bl, FM.wthD_some', FM.eqD_int, FM.ix_tup, FM.ix_lst, FM.atI_0, FM.atI_1, FM.atI_2, FM.op_add, FM.op_sub, FM.op_subBl, FM.biD_abs, FM.szle, FM.pl_get, FM.pl_set, FM.isOw_pl, FM.noOw_pl, FM.lk_pl, FM.lks_pl, FM.itlk_pl, FM.setAll_pl, FM.setAllD])
theorem isof_fq {x : Int × Int} {k : Nat} (h : Fq k x) (l : k ≤ 4000) (μ : Cells) : T 98 10 [fD x, .tup []] μ = some (.bl true, μ) := by
  have e := isfrac_at 95 x μ (h.2.1.mono l)
  rw [h.2.2.2, decide_eq_true h.2.2.1] at e
  exact (call_at (d := d_is_of) rfl _ _).trans (is_of_ok (F := T 97) (cf := 3) e)
theorem isof_bad (d : D) (μ : Cells) (h : d = .bl true ∨ d = fD (2, 4) ∨ d = fD (1, 0) ∨ ∃ b : Int × Int, d = .tup [fD b, fD (0, 1)]) : T 98 10 [d, .tup []] μ = some (.bl false, μ) := by
  have e : T 97 3 [d] μ = some (.bl false, μ) := by
    rcases h with rfl | rfl | rfl | ⟨b, rfl⟩
    · kernel_rfl
    · exact isfrac_at 95 (2, 4) μ (by unfold Sm; exact Nat.lt_of_lt_of_le (show 4 < 2 ^ 3 by decide) (Nat.pow_le_pow_right (by decide) (by decide)))
    · exact isfrac_at 95 (1, 0) μ (by unfold Sm; exact Nat.pow_pos (by decide))
    · kernel_rfl
  exact (call_at (d := d_is_of) rfl _ _).trans (is_of_ok (F := T 97) (cf := 3) e)
theorem sign0 (x : Int × Int) (μ : Cells) {E M : Nat} (h : Bd 6 E M x) : T 98 19 [fD x, .tup []] μ = some (.int (sgI x.1), μ) :=
  sign_c tf (D := 6) (er := 1) (mr := 3) (by decide) (by decide) 0 (by decide) .nil trivial 92 (by decide) (x := (x : Nm 0)) (e1 := E) (m1 := M) h trivial μ
theorem sgI_nn {n : Int} : decide (0 ≤ sgI n) = decide (0 ≤ n) := by
  unfold sgI
  rcases Int.lt_trichotomy n 0 with z | z | z
  · rw [if_neg (by omega), if_pos z, decide_eq_false (by decide), decide_eq_false (by omega)]
  · subst z; rfl
  · rw [if_pos z, decide_eq_true (by decide), decide_eq_true (by omega)]
theorem is_time_at {d1 d2 d3 : D} {x1 x2 x3 : Bool} {s : Int} {μ : Cells} (h1 : T 98 10 [d1, .tup []] μ = some (.bl x1, μ)) (h2 : T 98 10 [d2, .tup []] μ = some (.bl x2, μ)) (h3 : T 98 10 [d3, .tup []] μ = some (.bl x3, μ)) (hs : (x1 && x2 && x3) = true → T 98 19 [d3, .tup []] μ = some (.int s, μ)) :
    T 99 23 [.tup [d1, d2, d3], .tup []] μ = some (.bl (x1 && x2 && x3 && decide (0 ≤ s)), μ) := (call_at (d := d_is_time) rfl _ _).trans (is_time3_ok h1 h2 h3 hs)
theorem time_yes {x : Tm} (h : Ro x) (μ : Cells) : T 99 23 [x.D, .tup []] μ = some (.bl true, μ) := by
  have e := is_time_at (isof_fq (numR_fq h.t.a (by decide)) (by decide) μ) (isof_fq (numR_fq h.t.b (by decide)) (by decide) μ) (isof_fq (numR_fq (u_num h.t.u) (by decide)) (by decide) μ) (fun _ => sign0 x.u μ (numR_bd (u_num h.t.u) (by decide)))
  rw [sgI_nn, decide_eq_true h.ok.u0] at e
  exact e
/-- what is no time -/
def bads (x : Tm) : List D := [.tup [fD x.a, fD x.b], .lst [fD x.a, fD x.b, fD x.u], .non, .int 7, .tup [fD x.a, fD x.b, fD (-1, 2)], .tup [fD x.a, fD x.b, fD (1, 0)], .tup [.bl true, fD x.b, fD x.u], .tup [fD (2, 4), fD x.b, fD x.u], .tup [fD x.a, .tup [fD x.b, fD (0, 1)], fD x.u]]
theorem time_no {x : Tm} (h : Ro x) (μ : Cells) : ∀ d ∈ bads x, T 99 23 [d, .tup []] μ = some (.bl false, μ) := by
  have a := isof_fq (numR_fq h.t.a (by decide)) (by decide) μ
  have b := isof_fq (numR_fq h.t.b (by decide)) (by decide) μ
  have u := isof_fq (numR_fq (u_num h.t.u) (by decide)) (by decide) μ
  intro d hd
  unfold bads at hd
  simp only [List.mem_cons, List.not_mem_nil, or_false] at hd
  rcases hd with rfl | rfl | rfl | rfl | rfl | rfl | rfl | rfl | rfl
  · kernel_rfl
  · kernel_rfl
  · kernel_rfl
  · kernel_rfl
  · have m : Bd 6 1 3 (-1, 2) := numR_bd (most := 4) ⟨-1, 2, by decide, by decide, by decide, by decide, by decide⟩ (by decide)
    exact is_time_at a b (isof_fq ((m.fq (by decide) (by decide)).mono (k := 4000) (by decide)) (by decide) μ) (fun _ => sign0 (-1, 2) μ m)
  · exact is_time_at (s := 0) a b (isof_bad _ μ (.inr (.inr (.inl rfl)))) (fun z => by simp at z)
  · exact is_time_at (s := 0) (isof_bad _ μ (.inl rfl)) b u (fun z => by simp at z)
  · exact is_time_at (s := 0) (isof_bad _ μ (.inr (.inl rfl))) b u (fun z => by simp at z)
  · exact is_time_at (s := 0) a (isof_bad _ μ (.inr (.inr (.inr ⟨x.b, rfl⟩)))) u (fun z => by simp at z)
end K15

set_option Elab.async false
set_option linter.all false
set_option maxRecDepth 100000
set_option maxHeartbeats 4000000
/-! fractions between, below, above drawn times -/
namespace K15
open FM
open OF (sgn Hom rat)
open PySem (Str sizeLine)
def t8 {x : Tm} (h : Ro x) : T8 := ⟨x.a, x.b, x.u, numR_fq h.t.a (by decide), numR_fq h.t.b (by decide), numR_fq (u_num h.t.u) (by decide)⟩
def plT (f : Int × Int) : Tm := ⟨f, (0, 1), (0, 1)⟩
theorem plT_ok {f : Int × Int} (h : Pd f) : (plT f).Ok := ⟨h, (show (0 : Int) < 1 by decide), (show (0 : Int) < 1 by decide), (show (0 : Int) ≤ 0 by decide)⟩
theorem bp_eq {x : Tm} (h : Ro x) (f : Int × Int) : bp f (t8 h) = cT (plT f) x := rfl
theorem pb_eq {x : Tm} (h : Ro x) (f : Int × Int) : pb (t8 h) f = cT x (plT f) := rfl
theorem rat_frac (m : Int) {k : Int} (h : 0 < k) : rat (fr m k) = (m : Rat) / (k : Rat) := OF.rat_fr m (by omega)
/-- plain fractions are in the order of fractions -/
theorem plT_lt {m n k : Int} (k0 : 0 < k) (h : m < n) : cT (plT (fr m k)) (plT (fr n k)) < 0 := by
  have p1 : Pd (fr m k) := pd_fr m (by omega)
  have p2 : Pd (fr n k) := pd_fr n (by omega)
  obtain ⟨L, i1, i2, i3, i4, i5, i6, j, r, hj, hr, hv⟩ := vals [plT (fr m k), plT (fr n k)] (fun t ht => by simp at ht; rcases ht with rfl | rfl; exact plT_ok p1; exact plT_ok p2)
  rw [hv _ (by simp) _ (by simp)]
  have z : j (rat (0, 1)) = 0 := by
    rw [show rat (0, 1) = 0 by unfold rat; grind, hj.zero]
  show sgn ((j (rat (fr m k)) + j (rat (0, 1)) * _) - (j (rat (fr n k)) + j (rat (0, 1)) * _)) < 0
  rw [z]
  have lt : rat (fr m k) < rat (fr n k) := by
    have e1 := OF.rat_den (x := (m, k)) (by show k ≠ 0; omega)
    have e2 := OF.rat_den (x := (n, k)) (by show k ≠ 0; omega)
    rw [rat_frac m k0, rat_frac n k0]
    have kp : (0 : Rat) < (k : Rat) := by exact_mod_cast k0
    have mn : (m : Rat) < (n : Rat) := by exact_mod_cast h
    have e1' : (m : Rat) / (k : Rat) * (k : Rat) = (m : Rat) := e1
    have e2' : (n : Rat) / (k : Rat) * (k : Rat) = (n : Rat) := e2
    rcases Std.lt_trichotomy ((m : Rat) / (k : Rat)) ((n : Rat) / (k : Rat)) with c | c | c
    · exact c
    · rw [c] at e1'; grind
    · have := OF.mpos (a := (m : Rat) / (k : Rat) - (n : Rat) / (k : Rat)) (b := (k : Rat)) (by grind) kp
      grind
  have := hj.lt _ _ lt
  rw [OF.sgn_neg (by grind)]
  decide
/-- a drawn number lies within its bounds -/
theorem numR_rat {most : Int} {x : Int × Int} (h : NumR most x) (h0 : 0 ≤ most) : -(most : Rat) ≤ rat x ∧ rat x ≤ (most : Rat) := by
  obtain ⟨n, d, h1, h2, h3, h4, rfl⟩ := h
  have e := OF.rat_den (x := (n, d)) (by show d ≠ 0; omega)
  have e' : rat (fr n d) * (d : Rat) = (n : Rat) := by rw [rat_frac n (by omega)]; exact e
  have d1 : (1 : Rat) ≤ (d : Rat) := by exact_mod_cast h3
  have n1 : -(most : Rat) ≤ (n : Rat) := by exact_mod_cast h1
  have n2 : (n : Rat) ≤ (most : Rat) := by exact_mod_cast h2
  have m0 : (0 : Rat) ≤ (most : Rat) := by exact_mod_cast h0
  generalize rat (fr n d) = q at *
  generalize (d : Rat) = D at *
  generalize (n : Rat) = N at *
  generalize (most : Rat) = M at *
  constructor
  · rcases Std.lt_trichotomy q (-M) with c | c | c
    · have h1 : 0 ≤ (-M - q) * (D - 1) := by
        by_cases z : D - 1 = 0
        · rw [z]; grind
        · have := OF.mpos (a := -M - q) (b := D - 1) (by grind) (by grind)
          grind
      have h2 : 0 ≤ M * (D - 1) := by
        by_cases z : D - 1 = 0
        · rw [z]; grind
        · by_cases w : M = 0
          · rw [w]; grind
          · have := OF.mpos (a := M) (b := D - 1) (by grind) (by grind)
            grind
      grind
    · grind
    · grind
  · rcases Std.lt_trichotomy M q with c | c | c
    · have h1 : 0 ≤ (q - M) * (D - 1) := by
        by_cases z : D - 1 = 0
        · rw [z]; grind
        · have := OF.mpos (a := q - M) (b := D - 1) (by grind) (by grind)
          grind
      have h2 : 0 ≤ M * (D - 1) := by
        by_cases z : D - 1 = 0
        · rw [z]; grind
        · by_cases w : M = 0
          · rw [w]; grind
          · have := OF.mpos (a := M) (b := D - 1) (by grind) (by grind)
            grind
      grind
    · grind
    · grind
/-- a drawn time lies between -17 and 17 -/
theorem within17 {x : Tm} (h : Ro x) : cT (plT (fr (-68) 4)) x < 0 ∧ cT x (plT (fr 68 4)) < 0 := by
  have p1 : Pd (fr (-68) 4) := pd_fr _ (by decide)
  have p2 : Pd (fr 68 4) := pd_fr _ (by decide)
  obtain ⟨L, i1, i2, i3, i4, i5, i6, j, r, hj, hr, hv⟩ := vals [plT (fr (-68) 4), plT (fr 68 4), x] (fun t ht => by simp at ht; rcases ht with rfl | rfl | rfl; exact plT_ok p1; exact plT_ok p2; exact h.ok)
  have z : j (rat (0, 1)) = 0 := by
    rw [show rat (0, 1) = 0 by unfold rat; grind, hj.zero]
  have v1 := hv (plT (fr (-68) 4)) (by simp) x (by simp)
  have v2 := hv x (by simp) (plT (fr 68 4)) (by simp)
  have v1' : cT (plT (fr (-68) 4)) x = sgn ((j (rat (fr (-68) 4)) + j (rat (0, 1)) * r (0, 1)) - (j (rat x.a) + j (rat x.b) * r x.u)) := v1
  have v2' : cT x (plT (fr 68 4)) = sgn ((j (rat x.a) + j (rat x.b) * r x.u) - (j (rat (fr 68 4)) + j (rat (0, 1)) * r (0, 1))) := v2
  obtain ⟨r0, rr⟩ := hr x (by simp)
  have a := numR_rat h.t.a (by decide)
  have b := numR_rat h.t.b (by decide)
  have u := numR_rat (u_num h.t.u) (by decide)
  have e1 : rat (fr (-68) 4) = -17 := by rw [rat_frac _ (by decide)]; grind
  have e2 : rat (fr 68 4) = 17 := by rw [rat_frac _ (by decide)]; grind
  have one : j 1 = 1 := hj.one
  have nat : ∀ n : Nat, j (n : Rat) = (Lean.Grind.Semiring.natCast.natCast n : L) := fun n => by
    induction n with
    | zero =>
      have : ((0 : Nat) : Rat) = 0 := by grind
      rw [this, hj.zero]
      exact (Lean.Grind.Semiring.natCast_zero).symm
    | succ n ih =>
      have : ((n + 1 : Nat) : Rat) = (n : Rat) + 1 := by grind
      rw [this, hj.add, ih, one]
      exact (Lean.Grind.Semiring.natCast_succ n).symm
  have q : ∀ n : Nat, j ((n : Nat) : Rat) = (Lean.Grind.Semiring.natCast.natCast n : L) := nat
  have j3 : j 3 = 3 := by
    have : (3 : Rat) = 1 + 1 + 1 := by grind
    rw [this, hj.add, hj.add, one]
    grind
  have j4 : j 4 = 4 := by
    have : (4 : Rat) = 3 + 1 := by grind
    rw [this, hj.add, j3, one]
    grind
  have j8 : j 8 = 8 := by
    have : (8 : Rat) = 4 + 4 := by grind
    rw [this, hj.add, j4]
    grind
  have j17 : j 17 = 17 := by
    have : (17 : Rat) = 8 + 8 + 1 := by grind
    rw [this, hj.add, hj.add, j8, one]
    grind
  have a1 : -4 ≤ j (rat x.a) ∧ j (rat x.a) ≤ 4 := by
    have h1 := hj.le (show (-4 : Rat) ≤ rat x.a from a.1)
    have h2 := hj.le (show rat x.a ≤ (4 : Rat) from a.2)
    rw [show (-4 : Rat) = -(4 : Rat) by grind, hj.neg, j4] at h1
    rw [j4] at h2
    exact ⟨h1, h2⟩
  have b1 : -3 ≤ j (rat x.b) ∧ j (rat x.b) ≤ 3 := by
    have h1 := hj.le (show (-3 : Rat) ≤ rat x.b from b.1)
    have h2 := hj.le (show rat x.b ≤ (3 : Rat) from b.2)
    rw [show (-3 : Rat) = -(3 : Rat) by grind, hj.neg, j3] at h1
    rw [j3] at h2
    exact ⟨h1, h2⟩
  have u1 : j (rat x.u) ≤ 8 := by
    have h2 := hj.le (show rat x.u ≤ (8 : Rat) from u.2)
    rw [j8] at h2
    exact h2
  rw [v1', v2', e1, e2, z, show (-17 : Rat) = -(17 : Rat) by grind, hj.neg, j17]
  generalize j (rat x.a) = A at *
  generalize j (rat x.b) = B at *
  generalize j (rat x.u) = U at *
  generalize r x.u = R at *
  have R3 : R < 3 := OF.lt_of_sq (by grind) (by grind)
  have m1 : 0 ≤ (3 - B) * R := by
    by_cases c : 3 - B = 0
    · rw [c]; grind
    · by_cases d : R = 0
      · rw [d]; grind
      · have := OF.mpos (a := 3 - B) (b := R) (by grind) (by grind)
        grind
  have m2 : 0 ≤ (3 + B) * R := by
    by_cases c : 3 + B = 0
    · rw [c]; grind
    · by_cases d : R = 0
      · rw [d]; grind
      · have := OF.mpos (a := 3 + B) (b := R) (by grind) (by grind)
        grind
  constructor
  · rw [OF.sgn_neg (by grind)]; decide
  · rw [OF.sgn_neg (by grind)]; decide
end K15

set_option Elab.async false
set_option linter.all false
set_option maxRecDepth 100000
set_option maxHeartbeats 4000000
/-! the law's fractions between times, at the program's numbers -/
namespace K15
open FM
open OF (sgn Hom rat)
open PySem (Str sizeLine)
theorem fq_pd {k : Nat} {f : Int × Int} (h : Fq k f) : Pd f := h.2.2.1
theorem between_xy {x y : Tm} (hx : Ro x) (hy : Ro y) (μ : Cells) : ∃ res : Option (Int × Int), T 99 50 [x.D, y.D] μ = some (frR res, μ) ∧ ∀ f, res = some f → Pd f ∧ cT x (plT f) < 0 ∧ cT (plT f) y < 0 := by
  obtain ⟨res, e, h1, _⟩ := between_ok (btF 93) (some (t8 hx)) (some (t8 hy)) (.inl (by simp)) μ (fun _ _ _ => True) (fun _ _ _ _ _ _ => ⟨fun _ => trivial, fun _ => trivial⟩) (fun _ _ => trivial)
  refine ⟨res, (call_at (d := d__law_between) rfl _ _).trans e, fun f hf => ?_⟩
  obtain ⟨g1, g2⟩ := h1 f hf
  unfold gd at g2
  rw [Bool.and_eq_true] at g2
  have a : decide (pb (t8 hx) f < 0) = true := g2.1
  have b : decide (bp f (t8 hy) < 0) = true := g2.2
  rw [pb_eq, decide_eq_true_eq] at a
  rw [bp_eq, decide_eq_true_eq] at b
  exact ⟨fq_pd g1, a, b⟩
theorem low_bd {q : Nat} {m : Int} (hq : q ≤ 2) (hm : (m.natAbs : Int) ≤ 4 * 2 ^ q * 2 ^ q + 4) : Bd 6 2 7 (fr m (2 ^ q)) := by
  have h : q = 0 ∨ q = 1 ∨ q = 2 := by omega
  rcases h with rfl | rfl | rfl
  · exact Bd.of (s := m * 36) (by decide) (by have : (m.natAbs : Int) ≤ 8 := hm; show (m.natAbs : Int) ≤ 128 * 1; omega) (by show m * 36 * 1 = m * 36; omega) (by decide)
  · exact Bd.of (s := m * 18) (by decide) (by have : (m.natAbs : Int) ≤ 20 := hm; show (m.natAbs : Int) ≤ 128 * 2; omega) (by show m * 18 * 2 = m * 36; omega) (by decide)
  · exact Bd.of (s := m * 9) (by decide) (by have : (m.natAbs : Int) ≤ 68 := hm; show (m.natAbs : Int) ≤ 128 * 4; omega) (by show m * 9 * 4 = m * 36; omega) (by decide)
/-- a fraction below a time -/
theorem below {y : Tm} (hy : Ro y) (μ : Cells) : ∃ f : Int × Int, T 99 50 [.non, y.D] μ = some (fD f, μ) ∧ Bd 6 2 7 f ∧ cT (plT f) y < 0 := by
  obtain ⟨res, e, h1, h2⟩ := between_ok (btF 93) none (some (t8 hy)) (.inr (by simp)) μ (fun k l _ => l = -4 * k * k - 4 ∨ bp (fr l k) (t8 hy) < 0) (fun k l h m k0 i => by
    refine ⟨fun c => .inr ?_, fun _ => i⟩
    have c' : decide (bp (fr (m + 1) k) (t8 hy) < 0) = true := c
    rw [decide_eq_true_eq, bp_eq] at c'
    rw [bp_eq]
    have p1 : Pd (fr m k) := pd_fr m (by omega)
    have p2 : Pd (fr (m + 1) k) := pd_fr (m + 1) (by omega)
    have l := plT_lt (m := m) (n := m + 1) k0 (by omega)
    exact (cT_trans (plT_ok p1) (plT_ok p2) hy.ok).2.1 l (by omega)) (fun _ _ => .inl rfl)
  obtain ⟨q, m, q1, q2, q3⟩ := h2 (fun l h i => by
    show (gOne none _ && gOth (some (t8 hy)) (fr l 4)) = true
    show (true && decide (bp (fr l 4) (t8 hy) < 0)) = true
    rw [Bool.true_and, decide_eq_true_eq]
    rcases i with i | i
    · have e4 : l = -68 := by omega
      subst e4
      rw [bp_eq]
      exact (within17 hy).1
    · exact i)
  subst q2
  obtain ⟨g1, g2⟩ := h1 _ rfl
  have b : (true && decide (bp (fr m (2 ^ q)) (t8 hy) < 0)) = true := g2
  rw [Bool.true_and, decide_eq_true_eq, bp_eq] at b
  exact ⟨_, (call_at (d := d__law_between) rfl _ _).trans e, low_bd q1 q3, b⟩
/-- a fraction above a time -/
theorem above {x : Tm} (hx : Ro x) (μ : Cells) : ∃ f : Int × Int, T 99 50 [x.D, .non] μ = some (fD f, μ) ∧ Bd 6 2 7 f ∧ cT x (plT f) < 0 := by
  obtain ⟨res, e, h1, h2⟩ := between_ok (btF 93) (some (t8 hx)) none (.inl (by simp)) μ (fun k _ h => h = 4 * k * k + 4 ∨ pb (t8 hx) (fr h k) < 0) (fun k l h m k0 i => by
    refine ⟨fun _ => i, fun c => .inr ?_⟩
    have c' : decide (bp (fr m k) (t8 hx) ≤ 0) = false := c
    rw [decide_eq_false_iff_not, bp_eq] at c'
    rw [pb_eq]
    have p1 : Pd (fr m k) := pd_fr m (by omega)
    have := cT_anti (plT_ok p1) hx.ok
    omega) (fun _ _ => .inl rfl)
  obtain ⟨q, m, q1, q2, q3⟩ := h2 (fun l h i => by
    show (gOne (some (t8 hx)) (fr h 4) && gOth none _) = true
    show (decide (pb (t8 hx) (fr h 4) < 0) && true) = true
    rw [Bool.and_true, decide_eq_true_eq]
    rcases i with i | i
    · have e4 : h = 68 := by omega
      subst e4
      rw [pb_eq]
      exact (within17 hx).2
    · exact i)
  subst q2
  obtain ⟨g1, g2⟩ := h1 _ rfl
  have b : (decide (pb (t8 hx) (fr m (2 ^ q)) < 0) && true) = true := g2
  rw [Bool.and_true, decide_eq_true_eq, pb_eq] at b
  exact ⟨_, (call_at (d := d__law_between) rfl _ _).trans e, low_bd q1 q3, b⟩
end K15

set_option Elab.async false
set_option linter.all false
set_option maxRecDepth 100000
set_option maxHeartbeats 4000000
/-! numbers of drawn times held against fractions -/
namespace K15
open FM
open OF (sgn Hom rat)
open PySem (Str sizeLine)
theorem sl_small {n : Nat} (h : n ≤ 2) : SL 1 3 n 12 48 := by
  have : n = 0 ∨ n = 1 ∨ n = 2 := by omega
  rcases this with rfl | rfl | rfl
  · trivial
  · exact ⟨by decide, trivial⟩
  · exact ⟨by decide, by decide, trivial⟩
theorem j01 {L : Type} [Lean.Grind.Field L] [LE L] [LT L] [Std.LawfulOrderLT L] [Std.IsLinearOrder L] [Lean.Grind.OrderedRing L] {j : Rat → L} (hj : Hom j) : j (rat (0, 1)) = 0 := by
  rw [show rat (0, 1) = 0 by unfold rat; grind, hj.zero]
/-- time_number of a drawn time, held against fractions -/
theorem told_c {x : Tm} (hx : Ro x) (μ : Cells) : ∃ d : D, T 99 25 [x.D, .tup []] μ = some (d, μ) ∧ ∀ (f : Int × Int) (μ' : Cells), Bd 6 3 11 f → T 99 53 [d, fD f] μ' = some (.int (cT x (plT f)), μ') := by
  obtain ⟨res, p1, n', t', z, l1, l2, rfl, p2, p3, p4⟩ := tnum_c tf3 (B := 6) (er := 1) (mr := 3) (by decide) (by decide) (n := 0) (by decide) .nil trivial (x.a : Nm 0) (x.b : Nm 0) (x.u : Nm 0) hx.ba hx.bb hx.bu trivial (by decide) (m := 93) (by decide) μ
  refine ⟨_, p1, fun f μ' hf => ?_⟩
  obtain ⟨s, e, sv⟩ := against_c tf4 (by decide) (by decide) (by omega) t' p2 z p3 f hf (by decide) ((sl_small (by omega)).mono (by decide) (by decide)) (m := 93) (by omega) μ'
  obtain ⟨L, i1, i2, i3, i4, i5, i6, j, r, hj, hr, hv⟩ := vals [x, plT f] (fun t ht => by simp at ht; rcases ht with rfl | rfl; exact hx.ok; exact plT_ok hf.pd)
  obtain ⟨ρ', g1, g2, g3⟩ := p4 L j (fun _ => 0) (r x.u) hj trivial (hr x (by simp)).1 (hr x (by simp)).2 (fun z => u_pos hj hx.ok z)
  have g3' : val j ρ' n' z = j (rat x.a) + j (rat x.b) * r x.u := g3
  have w3 : cT x (plT f) = sgn ((j (rat x.a) + j (rat x.b) * r x.u) - (j (rat f) + j (rat (0, 1)) * r (0, 1))) := hv x (by simp) (plT f) (by simp)
  have e1 : s = cT x (plT f) := by
    rw [sv L j ρ' hj g2, g3', w3, j01 hj]
    exact congrArg sgn (by grind)
  rw [← e1]
  exact e
theorem bd_int {st : Int} (h : st.natAbs ≤ 8) : Bd 6 0 11 (st, 1) := ⟨(show (0 : Int) < 1 by decide), by show Int.gcd st 1 = 1; simp, ⟨_, (Int.one_mul _).symm⟩, by show (st.natAbs : Int) ≤ 2048 * 1; omega⟩
/-- beside, held against a fraction moved as far -/
theorem beside_told {x : Tm} (hx : Ro x) (st : Int) (hst : st.natAbs ≤ 8) (μ : Cells) : ∃ d : D, T 99 31 [x.D, .int st, .tup []] μ = some (d, μ) ∧ ∀ (f : Int × Int), Bd 6 3 11 f → T 99 53 [d, fD (addF f (st, 1))] μ = some (.int (cT x (plT f)), μ) := by
  obtain ⟨n', t', z, l1, l2, p1, p2, p3, p4⟩ := beside_c tf4 (B := 6) (er := 1) (mr := 3) (by decide) (by decide) (n := 0) (by decide) .nil trivial (x.a : Nm 0) (x.b : Nm 0) (x.u : Nm 0) hx.ba hx.bb hx.bu trivial (by decide) st (bd_int hst) (m := 93) (by decide) μ
  refine ⟨_, p1, fun f hf => ?_⟩
  have hs : Bd 6 3 11 (st, 1) := (bd_int hst).mono (by decide) (by decide)
  have hf' : Bd 6 3 12 (addF f (st, 1)) := hf.add hs (by decide)
  obtain ⟨s, e, sv⟩ := against_c tf4 (by decide) (by decide) (by omega) t' p2 z p3 (addF f (st, 1)) hf' (by decide) ((sl_small (by omega)).mono (by decide) (by decide)) (m := 93) (by omega) μ
  obtain ⟨L, i1, i2, i3, i4, i5, i6, j, r, hj, hr, hv⟩ := vals [x, plT f] (fun t ht => by simp at ht; rcases ht with rfl | rfl; exact hx.ok; exact plT_ok hf.pd)
  obtain ⟨ρ', g1, g2, g3⟩ := p4 L j (fun _ => 0) (r x.u) hj trivial (hr x (by simp)).1 (hr x (by simp)).2 (fun z => u_pos hj hx.ok z)
  have g3' : val j ρ' n' z = j (rat x.a) + j (rat x.b) * r x.u + j (rat (st, 1)) := g3
  have w3 : cT x (plT f) = sgn ((j (rat x.a) + j (rat x.b) * r x.u) - (j (rat f) + j (rat (0, 1)) * r (0, 1))) := hv x (by simp) (plT f) (by simp)
  have e1 : s = cT x (plT f) := by
    rw [sv L j ρ' hj g2, g3', w3, j01 hj, j_add hj hf.pd hs.pd]
    exact congrArg sgn (by grind)
  rw [← e1]
  exact e
/-- midway: above what both are above, below what both are below; of plain times exactly half the sum -/
theorem midway_told {x y : Tm} (hx : Ro x) (hy : Ro y) (μ : Cells) : ∃ d : D, T 99 30 [x.D, y.D, .tup []] μ = some (d, μ) ∧
    (∀ (f : Int × Int), Bd 6 3 11 f → cT (plT f) x < 0 → cT (plT f) y < 0 → T 99 53 [d, fD f] μ = some (.int 1, μ)) ∧
    (∀ (f : Int × Int), Bd 6 3 11 f → cT x (plT f) < 0 → cT y (plT f) < 0 → T 99 53 [d, fD f] μ = some (.int (-1), μ)) ∧
    (x.b = (0, 1) → y.b = (0, 1) → T 99 53 [d, fD (mulF (1, 2) (addF x.a y.a))] μ = some (.int 0, μ)) := by
  obtain ⟨n', t', z, l1, l2, p1, p2, p3, p4⟩ := midway_c tf4 (B := 6) (er := 1) (mr := 3) (by decide) ⟨3, rfl⟩ (by decide) (n := 0) (by decide) .nil trivial (x.a : Nm 0) (x.b : Nm 0) (x.u : Nm 0) (y.a : Nm 0) (y.b : Nm 0) (y.u : Nm 0) hx.ba hx.bb hx.bu hy.ba hy.bb hy.bu lim0 (by decide) (m := 93) (by decide) μ
  have key : ∀ (f : Int × Int), Bd 6 9 33 f → ∃ s : Int, T 99 53 [.tup [tD t', nD n' z], fD f] μ = some (.int s, μ) ∧ ∃ (L : Type) (_ : Lean.Grind.Field L) (_ : LE L) (_ : LT L) (_ : Std.IsLinearOrder L) (_ : Std.LawfulOrderLT L) (_ : Lean.Grind.OrderedRing L) (j : Rat → L) (r : Int × Int → L) (v : L), Hom j ∧ s = sgn (v - j (rat f)) ∧ v * (1 + 1) = (j (rat x.a) + j (rat x.b) * r x.u) + (j (rat y.a) + j (rat y.b) * r y.u) ∧
      cT (plT f) x = sgn (j (rat f) - (j (rat x.a) + j (rat x.b) * r x.u)) ∧ cT (plT f) y = sgn (j (rat f) - (j (rat y.a) + j (rat y.b) * r y.u)) ∧ cT x (plT f) = sgn ((j (rat x.a) + j (rat x.b) * r x.u) - j (rat f)) ∧ cT y (plT f) = sgn ((j (rat y.a) + j (rat y.b) * r y.u) - j (rat f)) := fun f hf => by
    obtain ⟨s, e, sv⟩ := against_c tf4 (by decide) (by decide) (by omega) t' p2 z (p3.up (e' := 9) (m' := 33) (by decide) (by decide)) f hf (by decide) ((sl_small (by omega)).mono (by decide) (by decide)) (m := 93) (by omega) μ
    obtain ⟨L, i1, i2, i3, i4, i5, i6, j, r, hj, hr, hv⟩ := vals [x, y, plT f] (fun t ht => by simp at ht; rcases ht with rfl | rfl | rfl; exact hx.ok; exact hy.ok; exact plT_ok hf.pd)
    obtain ⟨ρ', g1, g2, g3⟩ := p4 L j (fun _ => 0) (r x.u) (r y.u) hj trivial (hr x (by simp)).1 (hr x (by simp)).2 (fun z => u_pos hj hx.ok z) (hr y (by simp)).1 (hr y (by simp)).2 (fun z => u_pos hj hy.ok z)
    have w1 : cT (plT f) x = sgn ((j (rat f) + j (rat (0, 1)) * r (0, 1)) - (j (rat x.a) + j (rat x.b) * r x.u)) := hv (plT f) (by simp) x (by simp)
    have w2 : cT (plT f) y = sgn ((j (rat f) + j (rat (0, 1)) * r (0, 1)) - (j (rat y.a) + j (rat y.b) * r y.u)) := hv (plT f) (by simp) y (by simp)
    have w3 : cT x (plT f) = sgn ((j (rat x.a) + j (rat x.b) * r x.u) - (j (rat f) + j (rat (0, 1)) * r (0, 1))) := hv x (by simp) (plT f) (by simp)
    have w4 : cT y (plT f) = sgn ((j (rat y.a) + j (rat y.b) * r y.u) - (j (rat f) + j (rat (0, 1)) * r (0, 1))) := hv y (by simp) (plT f) (by simp)
    have z0 : j (rat f) + j (rat (0, 1)) * r (0, 1) = j (rat f) := by rw [j01 hj]; grind
    rw [z0] at w1 w2 w3 w4
    exact ⟨s, e, L, i1, i2, i3, i4, i5, i6, j, r, val j ρ' n' z, hj, sv L j ρ' hj g2, g3, w1, w2, w3, w4⟩
  have neg : ∀ {L : Type} [Lean.Grind.Field L] [LE L] [LT L] [Std.LawfulOrderLT L] [Std.IsLinearOrder L] [Lean.Grind.OrderedRing L] {v : L}, sgn v < 0 → v < 0 := fun {L} _ _ _ _ _ _ {v} q => by
    rcases Std.lt_trichotomy v 0 with w | w | w
    · exact w
    · rw [w, OF.sgn_zero] at q; exact absurd q (by decide)
    · rw [OF.sgn_pos w] at q; exact absurd q (by decide)
  refine ⟨_, p1, fun f hf h1 h2 => ?_, fun f hf h1 h2 => ?_, fun h1 h2 => ?_⟩
  · obtain ⟨s, e, L, i1, i2, i3, i4, i5, i6, j, r, v, hj, es, ev, w1, w2, w3, w4⟩ := key f (hf.mono (by decide) (by decide))
    rw [w1] at h1
    rw [w2] at h2
    have q1 := neg h1
    have q2 := neg h2
    rw [e, es, OF.sgn_pos (by grind)]
  · obtain ⟨s, e, L, i1, i2, i3, i4, i5, i6, j, r, v, hj, es, ev, w1, w2, w3, w4⟩ := key f (hf.mono (by decide) (by decide))
    rw [w3] at h1
    rw [w4] at h2
    have q1 := neg h1
    have q2 := neg h2
    rw [e, es, OF.sgn_neg (by grind)]
  · have ba : Bd 6 1 3 x.a := numR_bd hx.t.a (by decide)
    have bb : Bd 6 1 3 y.a := numR_bd hy.t.a (by decide)
    have h12 : Bd 6 1 0 (1, 2) := ⟨by decide, by decide, ⟨3, rfl⟩, by decide⟩
    have bs := ba.add bb (by decide)
    have bm := h12.mul bs (by decide)
    obtain ⟨s, e, L, i1, i2, i3, i4, i5, i6, j, r, v, hj, es, ev, _⟩ := key (mulF (1, 2) (addF x.a y.a)) (bm.mono (by decide) (by decide))
    rw [h1, h2, j01 hj] at ev
    have hh : j (rat (1, 2)) * (1 + 1) = 1 := by
      have e : rat (1, 2) * (1 + 1) = 1 := by unfold rat; grind
      have := congrArg j e
      rw [hj.mul, hj.add, hj.one] at this
      exact this
    rw [e, es, j_mul hj h12.pd bs.pd, j_add hj ba.pd bb.pd, show v - j (rat (1, 2)) * (j (rat x.a) + j (rat y.a)) = 0 by grind, OF.sgn_zero]
end K15

set_option Elab.async false
set_option linter.all false
set_option maxRecDepth 100000
set_option maxHeartbeats 4000000
/-! the law's statements -/
namespace K15
open FM
open PySem (Str sizeLine)
def s_0 : S := .asg 1 (.dict ["draws", "at"] (.cons (.call 37 (.cons (.var 0) (.cons (.int 500) .nil))) (.cons (.int 0) .nil)))
def s_1_0 : S := .asg 3 (.lc (.call 52 (.cons (.var 1) .nil)) (.nm 15) (.rng1 (.op .Add (.int 2) (.call 38 (.cons (.var 1) (.cons (.int 4) .nil))))) .none)
def s_1_1 : S := .asg 3 (.op .Add (.var 3) (.ife (.cmp .Eq (.call 38 (.cons (.var 1) (.cons (.int 2) .nil))) (.int 0)) (.lst (.cons (.call 39 (.cons (.var 1) (.cons (.var 3) .nil))) .nil)) (.lst .nil)))
def s_1_2 : S := .asg 4 (.tup (.cons (.call 39 (.cons (.var 1) (.cons (.lst (.cons (.tup (.cons (.int 2) (.cons (.int 1) .nil))) (.cons (.tup (.cons (.int 7) (.cons (.int 2) .nil))) .nil))) .nil))) .nil))
def s_1_3_0 : S := .asg 9 (.lst (.cons (.sl (.var 5) .none (.some (.int 2))) (.cons (.bi .list (.cons (.var 5) .nil)) (.cons .non (.cons (.int 7) (.cons (.op .Add (.sl (.var 5) .none (.some (.int 2))) (.tup (.cons (.tup (.cons (.op .Sub (.int 0) (.int 1)) (.cons (.int 2) .nil))) .nil))) (.cons (.op .Add (.sl (.var 5) .none (.some (.int 2))) (.tup (.cons (.tup (.cons (.int 1) (.cons (.int 0) .nil))) .nil))) (.cons (.op .Add (.tup (.cons (.bl true) .nil)) (.sl (.var 5) (.some (.int 1)) .none)) (.cons (.op .Add (.tup (.cons (.tup (.cons (.int 2) (.cons (.int 4) .nil))) .nil)) (.sl (.var 5) (.some (.int 1)) .none)) (.cons (.tup (.cons (.ix (.var 5) (.int 0)) (.cons (.tup (.cons (.ix (.var 5) (.int 1)) (.cons (.tup (.cons (.int 0) (.cons (.int 1) .nil))) .nil))) (.cons (.ix (.var 5) (.int 2)) .nil)))) .nil))))))))))
def s_1_3_1 : S := .ifs (.or (.cmp .IsNot (.call 23 (.cons (.var 5) (.cons (.tup .nil) .nil))) (.bl true)) (.cmp .NotEq (.lc (.var 25) (.nm 25) (.seq (.var 9)) (.some (.cmp .IsNot (.call 23 (.cons (.var 25) (.cons (.tup .nil) .nil))) (.bl false)))) (.lst .nil))) (.cons (.ret (.bl false)) .nil) .nil
def s_1_3_2 : S := .ifs (.or (.not (.call 40 (.cons (.call 28 (.cons (.var 5) (.cons (.tup .nil) .nil))) (.cons (.call 48 (.cons (.var 5) (.cons (.call 49 (.cons (.tup (.cons (.int 0) (.cons (.int 1) .nil))) .nil)) .nil))) .nil)))) (.not (.call 40 (.cons (.call 26 (.cons (.var 5) (.cons (.tup .nil) (.cons (.var 4) .nil)))) (.cons (.bi .tuple (.cons (.lc (.tup (.cons (.var 27) (.cons (.tup (.cons (.int 0) (.cons (.int 1) .nil))) .nil))) (.nm 27) (.seq (.var 5)) .none) .nil)) .nil))))) (.cons (.ret (.bl false)) .nil) .nil
def s_1_3_3 : S := .asg 10 (.call 25 (.cons (.var 5) (.cons (.tup .nil) .nil)))
def s_1_3_4_0 : S := .asg 16 (.call 51 (.cons (.var 1) (.cons (.int 6) .nil)))
def s_1_3_4_1 : S := .ifs (.cmp .NotEq (.call 53 (.cons (.var 10) (.cons (.var 16) .nil))) (.call 48 (.cons (.var 5) (.cons (.call 49 (.cons (.var 16) .nil)) .nil)))) (.cons (.ret (.bl false)) .nil) .nil
def s_1_3_4_2 : S := .asg 17 (.op .Sub (.call 38 (.cons (.var 1) (.cons (.int 5) .nil))) (.int 2))
def s_1_3_4_3 : S := .ifs (.cmp .NotEq (.call 53 (.cons (.call 31 (.cons (.var 5) (.cons (.var 17) (.cons (.tup .nil) .nil)))) (.cons (.call 43 (.cons (.var 16) (.cons (.tup (.cons (.var 17) (.cons (.int 1) .nil))) .nil))) .nil))) (.call 48 (.cons (.var 5) (.cons (.call 49 (.cons (.var 16) .nil)) .nil)))) (.cons (.ret (.bl false)) .nil) .nil
def s_1_3_4b : Ss := (.cons s_1_3_4_0 (.cons s_1_3_4_1 (.cons s_1_3_4_2 (.cons s_1_3_4_3 .nil))))
def s_1_3_4 : S := .for_ (.nm 6) (.rng1 (.int 3)) s_1_3_4b
def s_1_3b : Ss := (.cons s_1_3_0 (.cons s_1_3_1 (.cons s_1_3_2 (.cons s_1_3_3 (.cons s_1_3_4 .nil)))))
def s_1_3 : S := .for_ (.nm 5) (.seq (.var 3)) s_1_3b
def s_1_4 : S := .asgT [11, 12] (.tup (.cons (.call 29 (.cons (.bi .tuple (.cons (.var 3) .nil)) (.cons (.tup .nil) .nil))) (.cons (.lst .nil) .nil)))
def s_1_5_0 : S := .asg 12 (.op .Add (.var 12) (.ife (.cmp .Eq (.lc (.var 26) (.nm 26) (.seq (.var 12)) (.some (.cmp .Eq (.call 48 (.cons (.var 26) (.cons (.var 5) .nil))) (.int 0)))) (.lst .nil)) (.lst (.cons (.var 5) .nil)) (.lst .nil)))
def s_1_5b : Ss := (.cons s_1_5_0 .nil)
def s_1_5 : S := .for_ (.nm 5) (.seq (.var 3)) s_1_5b
def s_1_6 : S := .ifs (.or (.cmp .NotEq (.bi .len (.cons (.var 11) .nil)) (.bi .len (.cons (.var 12) .nil))) (.or (.cmp .NotEq (.lc (.var 15) (.nm 15) (.rng1 (.op .Sub (.bi .len (.cons (.var 11) .nil)) (.int 1))) (.some (.cmp .NotEq (.call 48 (.cons (.ix (.var 11) (.var 15)) (.cons (.ix (.var 11) (.op .Add (.var 15) (.int 1))) .nil))) (.op .Sub (.int 0) (.int 1))))) (.lst .nil)) (.cmp .NotEq (.lc (.var 5) (.nm 5) (.seq (.var 11)) (.some (.cmp .NotIn (.var 5) (.var 3)))) (.lst .nil)))) (.cons (.ret (.bl false)) .nil) .nil
def s_1_7 : S := .ifs (.or (.cmp .NotEq (.call 48 (.cons (.call 34 (.cons (.bi .tuple (.cons (.var 3) .nil)) (.cons (.tup .nil) .nil))) (.cons (.ix (.var 11) (.int 0)) .nil))) (.int 0)) (.cmp .IsNot (.call 34 (.cons (.tup .nil) (.cons (.tup .nil) .nil))) .non)) (.cons (.ret (.bl false)) .nil) .nil
def s_1_8_0 : S := .asgT [5, 18, 19] (.tup (.cons (.call 39 (.cons (.var 1) (.cons (.var 3) .nil))) (.cons (.call 39 (.cons (.var 1) (.cons (.var 3) .nil))) (.cons (.call 39 (.cons (.var 1) (.cons (.op .Add (.var 3) (.lst (.cons .non .nil))) .nil))) .nil))))
def s_1_8_1 : S := .asg 13 (.call 48 (.cons (.var 5) (.cons (.var 18) .nil)))
def s_1_8_2 : S := .asg 10 (.tup (.cons (.call 27 (.cons (.var 5) (.cons (.var 18) (.cons (.tup .nil) .nil)))) (.cons (.call 32 (.cons (.var 5) (.cons (.var 18) (.cons (.tup .nil) .nil)))) (.cons (.call 27 (.cons (.call 26 (.cons (.var 5) (.cons (.tup .nil) (.cons (.var 4) .nil)))) (.cons (.call 26 (.cons (.var 18) (.cons (.tup .nil) (.cons (.var 4) .nil)))) (.cons (.var 4) .nil)))) .nil))))
def s_1_8_3 : S := .ifs (.not (.call 40 (.cons (.var 10) (.cons (.tup (.cons (.var 13) (.cons (.cmp .Eq (.var 13) (.int 0)) (.cons (.var 13) .nil)))) .nil)))) (.cons (.ret (.bl false)) .nil) .nil
def s_1_8_4 : S := .asg 14 (.and (.cmp .Lt (.call 48 (.cons (.var 18) (.cons (.var 5) .nil))) (.int 0)) (.or (.cmp .Is (.var 19) .non) (.cmp .Lt (.call 48 (.cons (.var 5) (.cons (.var 19) .nil))) (.int 0))))
def s_1_8_5 : S := .ifs (.not (.call 40 (.cons (.tup (.cons (.call 33 (.cons (.var 5) (.cons (.var 18) (.cons (.var 19) (.cons (.tup .nil) .nil))))) (.cons (.call 33 (.cons (.var 5) (.cons .non (.cons .non (.cons (.tup .nil) .nil))))) .nil))) (.cons (.tup (.cons (.var 14) (.cons (.bl true) .nil))) .nil)))) (.cons (.ret (.bl false)) .nil) .nil
def s_1_8_6 : S := .ifs (.cmp .NotEq (.var 13) (.int 0)) (.cons (.asgT [21, 22] (.ife (.cmp .Lt (.var 13) (.int 0)) (.tup (.cons (.var 5) (.cons (.var 18) .nil))) (.tup (.cons (.var 18) (.cons (.var 5) .nil))))) (.cons (.asg 16 (.call 50 (.cons (.var 21) (.cons (.var 22) .nil)))) (.cons (.asg 20 (.call 30 (.cons (.var 5) (.cons (.var 18) (.cons (.tup .nil) .nil))))) (.cons (.par 23 24 (.call 50 (.cons .non (.cons (.var 21) .nil))) (.call 50 (.cons (.var 22) (.cons .non .nil)))) (.cons (.ifs (.and (.cmp .IsNot (.var 16) .non) (.or (.cmp .Lt (.call 53 (.cons (.var 20) (.cons (.var 23) .nil))) (.int 1)) (.cmp .Gt (.call 53 (.cons (.var 20) (.cons (.var 24) .nil))) (.op .Sub (.int 0) (.int 1))))) (.cons (.ret (.bl false)) .nil) .nil) (.cons (.ifs (.and (.cmp .Eq (.ix (.var 5) (.int 1)) (.tup (.cons (.int 0) (.cons (.int 1) .nil)))) (.and (.cmp .Eq (.ix (.var 18) (.int 1)) (.tup (.cons (.int 0) (.cons (.int 1) .nil)))) (.cmp .NotEq (.call 53 (.cons (.var 20) (.cons (.call 45 (.cons (.tup (.cons (.int 1) (.cons (.int 2) .nil))) (.cons (.call 43 (.cons (.ix (.var 5) (.int 0)) (.cons (.ix (.var 18) (.int 0)) .nil))) .nil))) .nil))) (.int 0)))) (.cons (.ret (.bl false)) .nil) .nil) .nil)))))) .nil
def s_1_8b : Ss := (.cons s_1_8_0 (.cons s_1_8_1 (.cons s_1_8_2 (.cons s_1_8_3 (.cons s_1_8_4 (.cons s_1_8_5 (.cons s_1_8_6 .nil)))))))
def s_1_8 : S := .for_ (.nm 6) (.rng1 (.int 6)) s_1_8b
def s_1_9 : S := .asg 7 (.call 51 (.cons (.var 1) (.cons (.int 9) .nil)))
def s_1_10 : S := .ifs (.not (.call 40 (.cons (.tup (.cons (.call 24 (.cons (.var 7) (.cons (.tup .nil) .nil))) (.cons (.call 35 (.cons (.var 7) (.cons (.tup (.cons (.tup .nil) (.cons (.op .Mult (.tup (.cons (.tup (.cons (.int 0) (.cons (.int 1) .nil))) .nil)) (.int 3)) (.cons (.op .Mult (.tup (.cons (.tup (.cons (.int 1) (.cons (.int 1) .nil))) .nil)) (.int 3)) .nil)))) .nil))) .nil))) (.cons (.tup (.cons (.call 49 (.cons (.var 7) .nil)) (.cons (.call 49 (.cons (.var 7) .nil)) .nil))) .nil)))) (.cons (.ret (.bl false)) .nil) .nil
def s_1_11 : S := .asg 8 (.tup (.cons (.tup .nil) (.cons (.op .Mult (.tup (.cons (.tup (.cons (.int 0) (.cons (.int 1) .nil))) .nil)) (.int 3)) (.cons (.op .Mult (.tup (.cons (.tup (.cons (.int 1) (.cons (.int 1) .nil))) .nil)) (.int 3)) .nil))))
def s_1_12 : S := .ifs (.not (.call 40 (.cons (.bi .tuple (.cons (.call 36 (.cons (.bi .tuple (.cons (.var 3) .nil)) (.cons (.var 8) (.cons (.var 4) .nil)))) .nil)) (.cons (.bi .tuple (.cons (.lc (.bi .tuple (.cons (.lc (.tup (.cons (.var 27) (.cons (.tup (.cons (.int 0) (.cons (.int 1) .nil))) .nil))) (.nm 27) (.seq (.var 5)) .none) .nil)) (.nm 5) (.seq (.var 3)) .none) .nil)) .nil)))) (.cons (.ret (.bl false)) .nil) .nil
def s_1b : Ss := (.cons s_1_0 (.cons s_1_1 (.cons s_1_2 (.cons s_1_3 (.cons s_1_4 (.cons s_1_5 (.cons s_1_6 (.cons s_1_7 (.cons s_1_8 (.cons s_1_9 (.cons s_1_10 (.cons s_1_11 (.cons s_1_12 .nil)))))))))))))
def s_1 : S := .for_ (.nm 2) (.rng1 (.int 4)) s_1b
def s_2 : S := .ret (.bl true)
def sb : Ss := (.cons s_0 (.cons s_1 (.cons s_2 .nil)))
theorem law_pieces : B_law 37 52 38 39 23 40 26 48 49 28 25 51 53 43 31 29 34 27 32 33 50 30 45 35 24 36 = sb := rfl
local macro_rules | `(tactic| walk_at "go") => `(tactic| simp [FM.execs, FM.exec, FM.ev, FM.evs, FM.evo, FM.evc, FM.evi, FM.Sl.d, FM.isiD, FM.cmpD, FM.negD, FM.bindT, FM.andThen_some', FM.onBl_bl, FM.wthD_some', FM.eqD_int, FM.ix_tup, FM.ix_lst, FM.atI_0, FM.atI_1, FM.atI_2, FM.op_add, FM.op_sub, FM.op_subBl, FM.biD_abs, FM.szle, FM.pl_get, FM.pl_set, FM.isOw_pl, FM.noOw_pl, FM.lk_pl, FM.lks_pl, FM.itlk_pl, FM.setAll_pl, FM.setAllD])
/-- rows of drawn times -/
def Rows (l : List Tm) : Prop := ∀ x ∈ l, Ro x
theorem lc_times (is : List Int) (ds : List (Option D)) (h1 : ds[1]? = some (some (.cell 0))) : ∀ (xs : List D) (k : Int), 0 ≤ k → ∃ (rows : List Tm) (k' : Int), Rows rows ∧ rows.length = xs.length ∧ 0 ≤ k' ∧
    lcGo (.nm 15) (fun ρ' μ' => evc (T 99) .none ρ' μ') (fun ρ' μ' => if lk ρ' (.call 52 (.cons (.var 1) .nil)) then none else ev (T 99) (.call 52 (.cons (.var 1) .nil)) ρ' μ') (pl ds) xs [cw is k] = some (rows.map Tm.D, [cw is k'])
  | [], k, hk => ⟨[], k, fun _ h => (by cases h), rfl, hk, rfl⟩
  | d :: xs, k, hk => by
    obtain ⟨a, b, u, k1, ht, k10, e⟩ := time_at 95 is k hk
    obtain ⟨rows, k2, r1, r2, r3, r4⟩ := lc_times is ds h1 xs k1 k10
    have b1 : bindT (.nm 15) d (pl ds) = some (pl (ds.set 15 (some d))) := by
      unfold bindT
      simp only [pl_set]
    have g1 : (ds.set 15 (some d))[1]? = some (some (.cell 0)) := by
      rw [List.getElem?_set_ne (by decide)]
      exact h1
    have e1 : ev (T 99) (.call 52 (.cons (.var 1) .nil)) (pl (ds.set 15 (some d))) [cw is k] = some (t3 a b u, [cw is k1]) := by
      have v : ev (T 99) (.var 1) (pl (ds.set 15 (some d))) [cw is k] = some (.cell 0, [cw is k]) := by
        unfold ev
        rw [pl_get, g1]
        rfl
      unfold ev
      rw [lks_pl, if_neg (by decide)]
      unfold evs
      rw [v]
      exact e
    refine ⟨⟨a, b, u⟩ :: rows, k2, fun x hx => ?_, by simp [r2], r3, ?_⟩
    · rcases List.mem_cons.mp hx with rfl | hx
      · exact ⟨ht⟩
      · exact r1 x hx
    · unfold lcGo
      rw [b1]
      simp only [evc, lk_pl, Bool.false_eq_true, if_false, e1]
      have r4' := r4
      simp only [evc] at r4'
      rw [r4']
      rfl
theorem st0 (is : List Int) (ds : List (Option D)) (h1 : ds[1]? = some (some (.cell 0))) (k : Int) (hk : 0 ≤ k) : ∃ (rows : List Tm) (k' : Int), Rows rows ∧ 2 ≤ rows.length ∧ rows.length ≤ 5 ∧ 0 ≤ k' ∧ exec (T 99) W s_1_0 (pl ds) [cw is k] = some (.nx (pl (ds.set 3 (some (.lst (rows.map Tm.D))))) [cw is k']) := by
  obtain ⟨r, k1, r0, r1, k10, e⟩ := next_at 98 is k 4 (by decide) hk
  have e' : T 99 38 [.cell 0, .int 4] [cw is k] = some (.int r, [cw is k1]) := e
  obtain ⟨rows, k2, q1, q2, q3, q4⟩ := lc_times is ds h1 (rngD 0 (2 + r).toNat) k1 k10
  rw [rng_len] at q2
  refine ⟨rows, k2, q1, by omega, by omega, q3, ?_⟩
  refine asg_pl (ev_lc (evi_rng (n := (2 + r).toNat) (μ1 := [cw is k1]) ?_ (by omega)) (by rw [rng_len]; omega) q4)
  have c : (((2 + r).toNat : Nat) : Int) = 2 + r := by omega
  rw [c]
  walk_at "go"
  simp [h1, e', andThen_some', wthD_some', op_add, Sl.d]
theorem st1 (is : List Int) (ds : List (Option D)) (rows : List Tm) (hr : Rows rows) (l1 : 2 ≤ rows.length) (l2 : rows.length ≤ 5) (h1 : ds[1]? = some (some (.cell 0))) (h3 : ds[3]? = some (some (.lst (rows.map Tm.D)))) (k : Int) (hk : 0 ≤ k) : ∃ (rows' : List Tm) (k' : Int), Rows rows' ∧ 2 ≤ rows'.length ∧ rows'.length ≤ 6 ∧ 0 ≤ k' ∧ exec (T 99) W s_1_1 (pl ds) [cw is k] = some (.nx (pl (ds.set 3 (some (.lst (rows'.map Tm.D))))) [cw is k']) := by
  obtain ⟨r, k1, r0, r1, k10, e⟩ := next_at 98 is k 2 (by decide) hk
  have e' : T 99 38 [.cell 0, .int 2] [cw is k] = some (.int r, [cw is k1]) := e
  have ne : rows.map Tm.D ≠ [] := fun z => by
    have := congrArg List.length z
    simp at this
    subst this
    simp at l1
  obtain ⟨d, k2, d1, d2, e2⟩ := pick_at 97 is k1 (rows.map Tm.D) k10 ne
  have e2' : T 99 39 [.cell 0, .lst (rows.map Tm.D)] [cw is k1] = some (d, [cw is k2]) := e2
  obtain ⟨x, xm, rfl⟩ := List.mem_map.mp d1
  have cat : ∀ l : List D, l.length ≤ 1 → opD .Add (.lst (rows.map Tm.D)) (.lst l) = some (.lst (rows.map Tm.D ++ l)) := fun l hl => by
    show (match opA .Add (.lst (rows.map Tm.D)) (.lst l) with | some z => some z | none => opL .Add (.lst (rows.map Tm.D)) (.lst l)) = _
    show (if (rows.map Tm.D).length + l.length ≤ sizeLine then some (D.lst (rows.map Tm.D ++ l)) else none) = _
    rw [if_pos (szle (by rw [List.length_map]; omega))]
  by_cases z : r = 0
  · refine ⟨rows ++ [x], k2, fun y hy => ?_, by simp; omega, by simp; omega, d2, ?_⟩
    · rcases List.mem_append.mp hy with hy | hy
      · exact hr y hy
      · simp at hy; subst hy; exact hr y xm
    · have c := cat [x.D] (by simp)
      rw [List.map_append]
      show exec (T 99) W s_1_1 (pl ds) [cw is k] = some (.nx (pl (ds.set 3 (some (.lst (rows.map Tm.D ++ [x.D]))))) [cw is k2])
      generalize rows.map Tm.D = R at *
      refine asg_pl ?_
      walk_at "go"
      simp [h1, h3, e', e2', z, c, andThen_some', wthD_some', onBl_bl, szle, Sl.d, eqD_int]
  · refine ⟨rows, k1, hr, l1, by omega, k10, ?_⟩
    have c := cat [] (by simp)
    rw [List.append_nil] at c
    generalize rows.map Tm.D = R at *
    refine asg_pl ?_
    walk_at "go"
    simp [h1, h3, e', z, c, andThen_some', wthD_some', onBl_bl, szle, Sl.d, eqD_int]
theorem st2 (is : List Int) (ds : List (Option D)) (h1 : ds[1]? = some (some (.cell 0))) (k : Int) (hk : 0 ≤ k) : ∃ (h : Int × Int) (k' : Int), Hi h ∧ 0 ≤ k' ∧ exec (T 99) W s_1_2 (pl ds) [cw is k] = some (.nx (pl (ds.set 4 (some (.tup [fD h])))) [cw is k']) := by
  obtain ⟨d, k2, d1, d2, e2⟩ := pick_at 97 is k [fD (2, 1), fD (7, 2)] hk (by simp)
  have e2' : T 99 39 [.cell 0, .lst [fD (2, 1), fD (7, 2)]] [cw is k] = some (d, [cw is k2]) := e2
  have hd : ∃ h, Hi h ∧ d = fD h := by
    simp only [List.mem_cons, List.not_mem_nil, or_false] at d1
    rcases d1 with rfl | rfl
    · exact ⟨_, .inl rfl, rfl⟩
    · exact ⟨_, .inr rfl, rfl⟩
  obtain ⟨h, hh, rfl⟩ := hd
  refine ⟨h, k2, hh, d2, asg_pl ?_⟩
  walk_at "go"
  simp [h1, e2', andThen_some', szle, Sl.d]
end K15

set_option Elab.async false
set_option linter.all false
set_option maxRecDepth 100000
set_option maxHeartbeats 4000000
/-! the loop over the rows -/
namespace K15
open FM
open PySem (Str sizeLine)
local macro_rules | `(tactic| walk_at "go") => `(tactic| simp [FM.execs, FM.exec, FM.ev, FM.evs, FM.evo, FM.evc, FM.evi, FM.Sl.d, FM.isiD, FM.cmpD, FM.negD, FM.bindT, FM.andThen_some', FM.onBl_bl, FM.wthD_some', FM.eqD_int, FM.ix_tup, FM.ix_lst, FM.atI_0, FM.atI_1, FM.atI_2, FM.op_add, FM.op_sub, FM.op_subBl, FM.biD_abs, FM.szle, FM.pl_get, FM.pl_set, FM.isOw_pl, FM.noOw_pl, FM.lk_pl, FM.lks_pl, FM.itlk_pl, FM.setAll_pl, FM.setAllD])
theorem st30 (ds : List (Option D)) (x : Tm) (h5 : ds[5]? = some (some x.D)) (μ : Cells) : exec (T 99) W s_1_3_0 (pl ds) μ = some (.nx (pl (ds.set 9 (some (.lst (bads x))))) μ) := by
  refine asg_pl ?_
  have s2 : slD x.D none (some 2) = some (.tup [fD x.a, fD x.b]) := rfl
  have s1 : slD x.D (some 1) none = some (.tup [fD x.b, fD x.u]) := rfl
  have i0 : ixD μ x.D (.int 0) = some (fD x.a) := rfl
  have i1 : ixD μ x.D (.int 1) = some (fD x.b) := rfl
  have i2 : ixD μ x.D (.int 2) = some (fD x.u) := rfl
  have bl : biD μ .list [x.D] = some (.lst [fD x.a, fD x.b, fD x.u]) := rfl
  have a1 : ∀ d : D, opD .Add (.tup [fD x.a, fD x.b]) (.tup [d]) = some (.tup [fD x.a, fD x.b, d]) := fun d => rfl
  have a2 : ∀ d : D, opD .Add (.tup [d]) (.tup [fD x.b, fD x.u]) = some (.tup [d, fD x.b, fD x.u]) := fun d => rfl
  generalize hX : x.D = X at *
  unfold bads
  generalize fD x.a = A at *
  generalize fD x.b = B at *
  generalize fD x.u = U at *
  walk_at "go"
  simp [h5, s1, s2, i0, i1, i2, bl, a1, a2, andThen_some', wthD_some', szle, Sl.d, op_sub]
theorem st31 (ds : List (Option D)) (x : Tm) (hx : Ro x) (h5 : ds[5]? = some (some x.D)) (h9 : ds[9]? = some (some (.lst (bads x)))) (hl : 25 < ds.length) (μ : Cells) : exec (T 99) W s_1_3_1 (pl ds) μ = some (.nx (pl ds) μ) := by
  have t := time_yes hx μ
  have lc : ev (T 99) (.lc (.var 25) (.nm 25) (.seq (.var 9)) (.some (.cmp .IsNot (.call 23 (.cons (.var 25) (.cons (.tup .nil) .nil))) (.bl false)))) (pl ds) μ = some (.lst [], μ) := by
    have v9 : evi (T 99) (.seq (.var 9)) (pl ds) μ = some (bads x, μ) := by
      unfold evi
      unfold ev
      rw [pl_get, h9]
      rfl
    have f := lc_fm (F := T 99) (i := 25) (elt := .var 25) (cond := .some (.cmp .IsNot (.call 23 (.cons (.var 25) (.cons (.tup .nil) .nil))) (.bl false))) (ds := ds) (μ := μ) (fun _ => false) (fun d => d) (bads x) (fun d hd => by
      have e := time_no hx μ d hd
      have g : (ds.set 25 (some d))[25]? = some (some d) := List.getElem?_set_self hl
      walk_at "go"
      rw [List.getElem?_set_self hl]
      simp [e, andThen_some', wthD_some', onBl_bl, Sl.d]) (fun d hd z => by cases z)
    have z : (bads x).filter (fun _ => false) = [] := by simp
    rw [z] at f
    exact ev_lc v9 (show (9 : Nat) ≤ 16777216 by decide) f
  have c1 : ev (T 99) (.cmp .IsNot (.call 23 (.cons (.var 5) (.cons (.tup .nil) .nil))) (.bl true)) (pl ds) μ = some (.bl false, μ) := by
    walk_at "go"
    simp [h5, t, andThen_some', wthD_some', Sl.d]
  have c2 : ev (T 99) (.cmp .NotEq (.lc (.var 25) (.nm 25) (.seq (.var 9)) (.some (.cmp .IsNot (.call 23 (.cons (.var 25) (.cons (.tup .nil) .nil))) (.bl false)))) (.lst .nil)) (pl ds) μ = some (.bl false, μ) := by
    refine cmp_of (x := .lst []) (y := .lst []) lc ?_ rfl
    walk_at "go"
  unfold s_1_3_1
  refine ifs_f (μ1 := μ) ?_ rfl
  unfold ev
  rw [c1, onBl_bl, if_neg (by decide), c2]
  rfl
theorem ro0 : Ro (plT (0, 1)) := ⟨⟨⟨0, 1, by decide, by decide, by decide, by decide, by decide⟩, numR_zero, 0, 1, by decide, by decide, by decide, by decide, by decide⟩⟩
theorem nought0 (m : Nat) (μ : Cells) : T (m + 7) 12 [.tup []] μ = some (fD (0, 1), μ) := nought_c tf2 0 (by decide) m (by omega) [] rfl μ
theorem plain0 (d : D) (μ : Cells) : T 98 24 [d, .tup []] μ = some (.tup [d, fD (0, 1), fD (0, 1)], μ) := (call_at (d := d_plain_time) rfl _ _).trans (plain_time_ok (nought0 90 μ))
theorem sign_time {x : Tm} (hx : Ro x) (μ : Cells) : T 99 28 [x.D, .tup []] μ = some (.int (cT x (plT (0, 1))), μ) :=
  (call_at (d := d_sign_of_time) rfl _ _).trans (sign_of_time_ok (nought0 91 μ) (plain0 (fD (0, 1)) μ) (ctimes1 hx ro0 μ))
theorem same_time {x y : Tm} (hx : Ro x) (hy : Ro y) (μ : Cells) : T 99 32 [x.D, y.D, .tup []] μ = some (.bl (decide (cT x y = 0)), μ) := (call_at (d := d_is_same_time) rfl _ _).trans (is_same_ok (ctimes1 hx hy μ))
theorem law_plain (f : Int × Int) (μ : Cells) : T 99 49 [fD f] μ = some ((plT f).D, μ) := (call_at (d := d__law_plain) rfl _ _).trans law_plain_ok
theorem within_time {x y : Tm} (hx : Ro x) (hy : Ro y) (o : Option Tm) (ho : ∀ z, o = some z → Ro z) (μ : Cells) : T 99 33 [x.D, y.D, (match o with | none => D.non | some z => z.D), .tup []] μ = some (.bl (decide (cT y x < 0) && (match o with | none => true | some z => decide (cT x z < 0))), μ) := by
  cases o with
  | none => exact (call_at (d := d_is_within) rfl _ _).trans (is_within_ok (lo := some (cT y x)) (hi := none) ⟨rfl, ctimes1 hy hx μ⟩ rfl)
  | some z => exact (call_at (d := d_is_within) rfl _ _).trans (is_within_ok (lo := some (cT y x)) (hi := some (cT x z)) ⟨rfl, ctimes1 hy hx μ⟩ ⟨rfl, ctimes1 hx (ho z rfl) μ⟩)
theorem within_none {x : Tm} (μ : Cells) : T 99 33 [x.D, .non, .non, .tup []] μ = some (.bl true, μ) := (call_at (d := d_is_within) rfl _ _).trans (is_within_ok (lo := none) (hi := none) rfl rfl)
end K15

set_option Elab.async false
set_option linter.all false
set_option maxRecDepth 100000
set_option maxHeartbeats 4000000
/-! the loop over the rows, on -/
namespace K15
open FM
open PySem (Str sizeLine)
local macro_rules | `(tactic| walk_at "go") => `(tactic| simp [FM.execs, FM.exec, FM.ev, FM.evs, FM.evo, FM.evc, FM.evi, FM.Sl.d, FM.isiD, FM.cmpD, FM.negD, FM.bindT, FM.andThen_some', FM.onBl_bl, FM.wthD_some', FM.eqD_int, FM.ix_tup, FM.ix_lst, FM.atI_0, FM.atI_1, FM.atI_2, FM.op_add, FM.op_sub, FM.op_subBl, FM.biD_abs, FM.szle, FM.pl_get, FM.pl_set, FM.isOw_pl, FM.noOw_pl, FM.lk_pl, FM.lks_pl, FM.itlk_pl, FM.setAll_pl, FM.setAllD])
theorem upD_eq (x : Tm) : upD x = .tup [.tup [fD x.a, fD (0, 1)], .tup [fD x.b, fD (0, 1)], .tup [fD x.u, fD (0, 1)]] := rfl
theorem st32 (ds : List (Option D)) (x : Tm) (hx : Ro x) {h : Int × Int} (hh : Hi h) (h5 : ds[5]? = some (some x.D)) (h4 : ds[4]? = some (some (.tup [fD h]))) (hl : 27 < ds.length) (μ : Cells) : exec (T 99) W s_1_3_2 (pl ds) μ = some (.nx (pl ds) μ) := by
  have e1 := sign_time hx μ
  have e2 := law_plain (0, 1) μ
  have e3 := before0 hx ro0 μ
  have e4 := like_at (.int (cT x (plT (0, 1)))) rfl μ
  have e5 := raised0 x h μ
  have e6 := like_at (upD x) rfl μ
  have lc : ev (T 99) (.lc (.tup (.cons (.var 27) (.cons (.tup (.cons (.int 0) (.cons (.int 1) .nil))) .nil))) (.nm 27) (.seq (.var 5)) .none) (pl ds) μ = some (.lst [.tup [fD x.a, fD (0, 1)], .tup [fD x.b, fD (0, 1)], .tup [fD x.u, fD (0, 1)]], μ) := by
    have v5 : evi (T 99) (.seq (.var 5)) (pl ds) μ = some ([fD x.a, fD x.b, fD x.u], μ) := by
      unfold evi
      unfold ev
      rw [pl_get, h5]
      rfl
    refine ev_lc v5 (show (3 : Nat) ≤ 16777216 by decide) (lc_map (fun d => .tup [d, fD (0, 1)]) [fD x.a, fD x.b, fD x.u] fun d _ => ?_)
    have g : (ds.set 27 (some d))[27]? = some (some d) := List.getElem?_set_self hl
    walk_at "go"
    rw [List.getElem?_set_self hl]
    simp [andThen_some', szle, Sl.d]
  have tu : ev (T 99) (.bi .tuple (.cons (.lc (.tup (.cons (.var 27) (.cons (.tup (.cons (.int 0) (.cons (.int 1) .nil))) .nil))) (.nm 27) (.seq (.var 5)) .none) .nil)) (pl ds) μ = some (upD x, μ) := by
    unfold ev
    unfold evs
    rw [lc]
    rfl
  have c1 : ev (T 99) (.not (.call 40 (.cons (.call 28 (.cons (.var 5) (.cons (.tup .nil) .nil))) (.cons (.call 48 (.cons (.var 5) (.cons (.call 49 (.cons (.tup (.cons (.int 0) (.cons (.int 1) .nil))) .nil)) .nil))) .nil)))) (pl ds) μ = some (.bl false, μ) := by
    generalize (plT (0, 1)).D = P at *
    generalize cT x (plT (0, 1)) = C at *
    generalize x.D = X at *
    walk_at "go"
    simp [h5, e1, e2, e3, e4, andThen_some', wthD_some', onBl_bl, szle, Sl.d]
  have c2 : ev (T 99) (.not (.call 40 (.cons (.call 26 (.cons (.var 5) (.cons (.tup .nil) (.cons (.var 4) .nil)))) (.cons (.bi .tuple (.cons (.lc (.tup (.cons (.var 27) (.cons (.tup (.cons (.int 0) (.cons (.int 1) .nil))) .nil))) (.nm 27) (.seq (.var 5)) .none) .nil)) .nil)))) (pl ds) μ = some (.bl false, μ) := by
    have a : ev (T 99) (.call 26 (.cons (.var 5) (.cons (.tup .nil) (.cons (.var 4) .nil)))) (pl ds) μ = some (upD x, μ) := by
      generalize upD x = Y at *
      generalize x.D = X at *
      walk_at "go"
      simp [h5, h4, e5, andThen_some', szle, Sl.d]
    have b : ev (T 99) (.call 40 (.cons (.call 26 (.cons (.var 5) (.cons (.tup .nil) (.cons (.var 4) .nil)))) (.cons (.bi .tuple (.cons (.lc (.tup (.cons (.var 27) (.cons (.tup (.cons (.int 0) (.cons (.int 1) .nil))) .nil))) (.nm 27) (.seq (.var 5)) .none) .nil)) .nil))) (pl ds) μ = some (.bl true, μ) := by
      unfold ev
      rw [lks_pl, if_neg (by decide)]
      unfold evs
      rw [a]
      simp only [andThen_some']
      unfold evs
      rw [tu]
      simp only [andThen_some']
      unfold evs
      simp only [andThen_some']
      exact e6
    unfold ev
    rw [b]
    rfl
  unfold s_1_3_2
  refine ifs_f (μ1 := μ) ?_ rfl
  unfold ev
  rw [c1, onBl_bl, if_neg (by decide), c2]
  rfl
/-- what time_number gives, as far as the law asks -/
def Told (x : Tm) (d : D) : Prop := ∀ (f : Int × Int) (μ : Cells), Bd 6 3 11 f → T 99 53 [d, fD f] μ = some (.int (cT x (plT f)), μ)
theorem st340 (is : List Int) (ds : List (Option D)) (h1 : ds[1]? = some (some (.cell 0))) (k : Int) (hk : 0 ≤ k) : ∃ (f : Int × Int) (k' : Int), NumR 6 f ∧ 0 ≤ k' ∧ exec (T 99) W s_1_3_4_0 (pl ds) [cw is k] = some (.nx (pl (ds.set 16 (some (fD f)))) [cw is k']) := by
  obtain ⟨f, k1, e1, e2, e3⟩ := num_at 96 is k 6 hk (by decide) (by decide)
  have e3' : T 99 51 [.cell 0, .int 6] [cw is k] = some (fD f, [cw is k1]) := e3
  refine ⟨f, k1, e1, e2, asg_pl ?_⟩
  generalize fD f = Z at *
  walk_at "go"
  simp [h1, e3', andThen_some', Sl.d]
theorem before_pl {x : Tm} (hx : Ro x) {f : Int × Int} (hf : Fq 404 f) (μ : Cells) : T 99 48 [x.D, (plT f).D] μ = some (.int (cT x (plT f)), μ) :=
  before_at 94 (numR_fq hx.t.a (by decide)) (numR_fq hx.t.b (by decide)) (numR_fq (u_num hx.t.u) (by decide)) hf (fq01' 6) (fq01' 6) (by decide) μ
theorem st341 (ds : List (Option D)) (x : Tm) (hx : Ro x) (d : D) (hd : Told x d) (f : Int × Int) (hf : NumR 6 f) (h5 : ds[5]? = some (some x.D)) (h10 : ds[10]? = some (some d)) (h16 : ds[16]? = some (some (fD f))) (μ : Cells) : exec (T 99) W s_1_3_4_1 (pl ds) μ = some (.nx (pl ds) μ) := by
  have e1 := hd f μ ((numR_bd hf (by decide)).mono (by decide) (by decide))
  have e2 := law_plain f μ
  have e3 := before_pl hx ((numR_fq hf (by decide)).mono (k := 404) (by decide)) μ
  refine ifs_f (μ1 := μ) ?_ rfl
  generalize (plT f).D = P at *
  generalize cT x (plT f) = C at *
  generalize x.D = X at *
  generalize fD f = Z at *
  walk_at "go"
  simp [h5, h10, h16, e1, e2, e3, andThen_some', wthD_some', Sl.d, eqD_int]
theorem st33 (ds : List (Option D)) (x : Tm) (hx : Ro x) (h5 : ds[5]? = some (some x.D)) (μ : Cells) : ∃ d : D, Told x d ∧ exec (T 99) W s_1_3_3 (pl ds) μ = some (.nx (pl (ds.set 10 (some d))) μ) := by
  obtain ⟨d, e1, e2⟩ := told_c hx μ
  refine ⟨d, e2, asg_pl ?_⟩
  generalize x.D = X at *
  walk_at "go"
  simp [h5, e1, andThen_some', Sl.d]
theorem st342 (is : List Int) (ds : List (Option D)) (h1 : ds[1]? = some (some (.cell 0))) (k : Int) (hk : 0 ≤ k) : ∃ st k' : Int, st.natAbs ≤ 8 ∧ 0 ≤ k' ∧ exec (T 99) W s_1_3_4_2 (pl ds) [cw is k] = some (.nx (pl (ds.set 17 (some (.int st)))) [cw is k']) := by
  obtain ⟨r, k1, r0, r1, k10, e⟩ := next_at 98 is k 5 (by decide) hk
  have e' : T 99 38 [.cell 0, .int 5] [cw is k] = some (.int r, [cw is k1]) := e
  refine ⟨r - 2, k1, by omega, k10, asg_pl ?_⟩
  walk_at "go"
  simp [h1, e', andThen_some', wthD_some', op_sub, Sl.d]
theorem st343 (ds : List (Option D)) (x : Tm) (hx : Ro x) (f : Int × Int) (hf : NumR 6 f) (st : Int) (hst : st.natAbs ≤ 8) (h5 : ds[5]? = some (some x.D)) (h16 : ds[16]? = some (some (fD f))) (h17 : ds[17]? = some (some (.int st))) (μ : Cells) : exec (T 99) W s_1_3_4_3 (pl ds) μ = some (.nx (pl ds) μ) := by
  obtain ⟨d, e0, e1⟩ := beside_told hx st hst μ
  have e1 := e1 f ((numR_bd hf (by decide)).mono (by decide) (by decide))
  have e2 := law_plain f μ
  have e3 := before_pl hx ((numR_fq hf (by decide)).mono (k := 404) (by decide)) μ
  have s1 : Fq 8 (st, 1) := ⟨by unfold Sm; show st.natAbs < 2 ^ 8; omega, (show (1 : Nat) < 2 ^ 8 by decide), (show (0 : Int) < 1 by decide), by show Int.gcd st 1 = 1; simp⟩
  have e4 := (lawF 96).add f (st, 1) μ ((numR_fq hf (by decide)).mono (by decide)) (s1.mono (by decide))
  have e4' : T 99 43 [fD f, .tup [.int st, .int 1]] μ = some (fD (addF f (st, 1)), μ) := e4
  refine ifs_f (μ1 := μ) ?_ rfl
  generalize (plT f).D = P at *
  generalize cT x (plT f) = C at *
  generalize fD (addF f (st, 1)) = Q at *
  generalize x.D = X at *
  generalize fD f = Z at *
  walk_at "go"
  simp [h5, h16, h17, e0, e1, e2, e3, e4', andThen_some', wthD_some', Sl.d, eqD_int, szle]
/-- what stands while the looks go on -/
structure Kp (ds : List (Option D)) (rows : List Tm) (h : Int × Int) (x : Tm) (d : D) : Prop where
  len : ds.length = 28
  h1 : ds[1]? = some (some (.cell 0))
  h3 : ds[3]? = some (some (.lst (rows.map Tm.D)))
  h4 : ds[4]? = some (some (.tup [fD h]))
  h5 : ds[5]? = some (some x.D)
  h10 : ds[10]? = some (some d)
theorem Kp.set {ds : List (Option D)} {rows : List Tm} {h : Int × Int} {x : Tm} {d : D} (K : Kp ds rows h x d) {i : Nat} (o : Option D) (n1 : i ≠ 1) (n3 : i ≠ 3) (n4 : i ≠ 4) (n5 : i ≠ 5) (n10 : i ≠ 10) : Kp (ds.set i o) rows h x d :=
  ⟨by rw [List.length_set]; exact K.len, by rw [List.getElem?_set_ne n1]; exact K.h1, by rw [List.getElem?_set_ne n3]; exact K.h3, by rw [List.getElem?_set_ne n4]; exact K.h4, by rw [List.getElem?_set_ne n5]; exact K.h5, by rw [List.getElem?_set_ne n10]; exact K.h10⟩
theorem look {rows : List Tm} {h : Int × Int} {x : Tm} {d : D} (hx : Ro x) (hd : Told x d) (is : List Int) (ds : List (Option D)) (K : Kp ds rows h x d) (k : Int) (hk : 0 ≤ k) : ∃ (ds' : List (Option D)) (k' : Int), Kp ds' rows h x d ∧ 0 ≤ k' ∧ execs (T 99) W s_1_3_4b (pl ds) [cw is k] = some (.nx (pl ds') [cw is k']) := by
  obtain ⟨f, k1, f1, k10, e0⟩ := st340 is ds K.h1 k hk
  have K1 := K.set (i := 16) (some (fD f)) (by decide) (by decide) (by decide) (by decide) (by decide)
  have g16 : (ds.set 16 (some (fD f)))[16]? = some (some (fD f)) := List.getElem?_set_self (by rw [K.len]; decide)
  have e1 := st341 (ds.set 16 (some (fD f))) x hx d hd f f1 K1.h5 K1.h10 g16 [cw is k1]
  obtain ⟨st, k2, s1, k20, e2⟩ := st342 is (ds.set 16 (some (fD f))) K1.h1 k1 k10
  have K2 := K1.set (i := 17) (some (.int st)) (by decide) (by decide) (by decide) (by decide) (by decide)
  have g17 : ((ds.set 16 (some (fD f))).set 17 (some (.int st)))[17]? = some (some (.int st)) := List.getElem?_set_self (by rw [K1.len]; decide)
  have g16' : ((ds.set 16 (some (fD f))).set 17 (some (.int st)))[16]? = some (some (fD f)) := by
    rw [List.getElem?_set_ne (by decide)]
    exact g16
  have e3 := st343 _ x hx f f1 st s1 K2.h5 g16' g17 [cw is k2]
  exact ⟨_, k2, K2, k20, seq_nx e0 (seq_nx e1 (seq_nx e2 (seq_nx e3 rfl)))⟩
theorem looks {rows : List Tm} {h : Int × Int} {x : Tm} {d : D} (hx : Ro x) (hd : Told x d) (is : List Int) (ds : List (Option D)) (K : Kp ds rows h x d) (k : Int) (hk : 0 ≤ k) : ∃ (ds' : List (Option D)) (k' : Int), Kp ds' rows h x d ∧ 0 ≤ k' ∧ exec (T 99) W s_1_3_4 (pl ds) [cw is k] = some (.nx (pl ds') [cw is k']) := by
  obtain ⟨ρ', μ', e1, ds', k', K', k0, rfl, rfl⟩ := forF_inv (fun _ ρ μ => ∃ (ds : List (Option D)) (k : Int), Kp ds rows h x d ∧ 0 ≤ k ∧ ρ = pl ds ∧ μ = [cw is k]) (tg := .nm 6) (b := fun ρ' μ' => execs (T 99) W s_1_3_4b ρ' μ') (fun y ys ρ μ hh => by
    obtain ⟨ds1, k1, K1, k10, rfl, rfl⟩ := hh
    obtain ⟨ds2, k2, K2, k20, e⟩ := look hx hd is (ds1.set 6 (some y)) (K1.set (i := 6) (some y) (by decide) (by decide) (by decide) (by decide) (by decide)) k1 k10
    refine ⟨pl (ds1.set 6 (some y)), pl ds2, [cw is k2], ?_, e, ds2, k2, K2, k20, rfl, rfl⟩
    unfold bindT
    simp only [pl_set]) (rngD 0 3) (pl ds) [cw is k] ⟨ds, k, K, hk, rfl, rfl⟩
  exact ⟨ds', k', K', k0, for_of (evi_rng (n := 3) rfl (by decide)) (itlk_pl _ _) e1⟩
/-- what stands while the rows go by -/
structure Kq (ds : List (Option D)) (rows : List Tm) (h : Int × Int) : Prop where
  len : ds.length = 28
  h1 : ds[1]? = some (some (.cell 0))
  h3 : ds[3]? = some (some (.lst (rows.map Tm.D)))
  h4 : ds[4]? = some (some (.tup [fD h]))
theorem Kp.q {ds : List (Option D)} {rows : List Tm} {h : Int × Int} {x : Tm} {d : D} (K : Kp ds rows h x d) : Kq ds rows h := ⟨K.len, K.h1, K.h3, K.h4⟩
theorem Kq.set {ds : List (Option D)} {rows : List Tm} {h : Int × Int} (K : Kq ds rows h) {i : Nat} (o : Option D) (n1 : i ≠ 1) (n3 : i ≠ 3) (n4 : i ≠ 4) : Kq (ds.set i o) rows h :=
  ⟨by rw [List.length_set]; exact K.len, by rw [List.getElem?_set_ne n1]; exact K.h1, by rw [List.getElem?_set_ne n3]; exact K.h3, by rw [List.getElem?_set_ne n4]; exact K.h4⟩
theorem row {rows : List Tm} {h : Int × Int} (hh : Hi h) {x : Tm} (hx : Ro x) (is : List Int) (ds : List (Option D)) (K : Kq ds rows h) (h5 : ds[5]? = some (some x.D)) (k : Int) (hk : 0 ≤ k) : ∃ (ds' : List (Option D)) (k' : Int), Kq ds' rows h ∧ 0 ≤ k' ∧ execs (T 99) W s_1_3b (pl ds) [cw is k] = some (.nx (pl ds') [cw is k']) := by
  have e0 := st30 ds x h5 [cw is k]
  have K1 := K.set (i := 9) (some (.lst (bads x))) (by decide) (by decide) (by decide)
  have g9 : (ds.set 9 (some (.lst (bads x))))[9]? = some (some (.lst (bads x))) := List.getElem?_set_self (by rw [K.len]; decide)
  have g5 : (ds.set 9 (some (.lst (bads x))))[5]? = some (some x.D) := by
    rw [List.getElem?_set_ne (by decide)]
    exact h5
  have e1 := st31 _ x hx g5 g9 (by rw [K1.len]; decide) [cw is k]
  have e2 := st32 _ x hx hh g5 K1.h4 (by rw [K1.len]; decide) [cw is k]
  obtain ⟨d, hd, e3⟩ := st33 _ x hx g5 [cw is k]
  have K2 := K1.set (i := 10) (some d) (by decide) (by decide) (by decide)
  have Kd : Kp ((ds.set 9 (some (.lst (bads x)))).set 10 (some d)) rows h x d := ⟨K2.len, K2.h1, K2.h3, K2.h4, by rw [List.getElem?_set_ne (by decide)]; exact g5, List.getElem?_set_self (by rw [K1.len]; decide)⟩
  obtain ⟨ds', k', K', k0, e4⟩ := looks hx hd is _ Kd k hk
  exact ⟨ds', k', K'.q, k0, seq_nx e0 (seq_nx e1 (seq_nx e2 (seq_nx e3 (seq_nx e4 rfl))))⟩
theorem st3 {rows : List Tm} (hr : Rows rows) {h : Int × Int} (hh : Hi h) (is : List Int) (ds : List (Option D)) (K : Kq ds rows h) (k : Int) (hk : 0 ≤ k) : ∃ (ds' : List (Option D)) (k' : Int), Kq ds' rows h ∧ 0 ≤ k' ∧ exec (T 99) W s_1_3 (pl ds) [cw is k] = some (.nx (pl ds') [cw is k']) := by
  obtain ⟨ρ', μ', e1, _, ds', k', K', k0, rfl, rfl⟩ := forF_inv (fun ys ρ μ => (∀ y ∈ ys, ∃ x : Tm, Ro x ∧ y = x.D) ∧ ∃ (ds : List (Option D)) (k : Int), Kq ds rows h ∧ 0 ≤ k ∧ ρ = pl ds ∧ μ = [cw is k]) (tg := .nm 5) (b := fun ρ' μ' => execs (T 99) W s_1_3b ρ' μ') (fun y ys ρ μ hh' => by
    obtain ⟨hy, ds1, k1, K1, k10, rfl, rfl⟩ := hh'
    obtain ⟨x, hx, rfl⟩ := hy y (List.mem_cons_self ..)
    obtain ⟨ds2, k2, K2, k20, e⟩ := row hh hx is (ds1.set 5 (some x.D)) (K1.set (i := 5) (some x.D) (by decide) (by decide) (by decide)) (List.getElem?_set_self (by rw [K1.len]; decide)) k1 k10
    refine ⟨pl (ds1.set 5 (some x.D)), pl ds2, [cw is k2], ?_, e, fun z hz => hy z (List.mem_cons_of_mem _ hz), ds2, k2, K2, k20, rfl, rfl⟩
    unfold bindT
    simp only [pl_set]) (rows.map Tm.D) (pl ds) [cw is k] ⟨fun y hy => by
      obtain ⟨x, hx, rfl⟩ := List.mem_map.mp hy
      exact ⟨x, hr x hx, rfl⟩, ds, k, K, hk, rfl, rfl⟩
  refine ⟨ds', k', K', k0, for_of ?_ (itlk_pl _ _) e1⟩
  unfold evi
  unfold ev
  rw [pl_get, K.h3]
  rfl
end K15

set_option Elab.async false
set_option linter.all false
set_option maxRecDepth 100000
set_option maxHeartbeats 4000000
/-! the sorted rows -/
namespace K15
open FM
open PySem (Str sizeLine)
local macro_rules | `(tactic| walk_at "go") => `(tactic| simp [FM.execs, FM.exec, FM.ev, FM.evs, FM.evo, FM.evc, FM.evi, FM.Sl.d, FM.isiD, FM.cmpD, FM.negD, FM.bindT, FM.andThen_some', FM.onBl_bl, FM.wthD_some', FM.eqD_int, FM.ix_tup, FM.ix_lst, FM.atI_0, FM.atI_1, FM.atI_2, FM.op_add, FM.op_sub, FM.op_subBl, FM.biD_abs, FM.szle, FM.pl_get, FM.pl_set, FM.isOw_pl, FM.noOw_pl, FM.lk_pl, FM.lks_pl, FM.itlk_pl, FM.setAll_pl, FM.setAllD])
def unT : D → Tm
  | .tup [.tup [.int a, .int a'], .tup [.int b, .int b'], .tup [.int u, .int u']] => ⟨(a, a'), (b, b'), (u, u')⟩
  | _ => ⟨(0, 1), (0, 1), (0, 1)⟩
theorem unT_D (x : Tm) : unT x.D = x := rfl
def cD (y x : D) : Int := cT (unT y) (unT x)
theorem insS_map (x : Tm) : ∀ l : List Tm, insS cD x.D (l.map Tm.D) = (insS cT x l).map Tm.D
  | [] => rfl
  | y :: ys => by
    show (if cT y x < 0 then y.D :: insS cD x.D (ys.map Tm.D) else if cT y x = 0 then y.D :: ys.map Tm.D else x.D :: y.D :: ys.map Tm.D) = (if cT y x < 0 then y :: insS cT x ys else if cT y x = 0 then y :: ys else x :: y :: ys).map Tm.D
    rw [insS_map x ys]
    split
    · rfl
    · split <;> rfl
theorem foldl_map (l : List Tm) : ∀ (acc : List Tm), (l.map Tm.D).foldl (fun l x => insS cD x l) (acc.map Tm.D) = (l.foldl (fun l x => insS cT x l) acc).map Tm.D := by
  induction l with
  | nil => exact fun acc => rfl
  | cons x xs ih =>
    intro acc
    rw [List.map_cons, List.foldl_cons, List.foldl_cons, insS_map]
    exact ih _
def srt (rows : List Tm) : List Tm := rows.foldl (fun l x => insS cT x l) []
theorem sorted_rows {rows : List Tm} (hr : Rows rows) (hl : rows.length ≤ 10) (μ : Cells) : T 99 29 [.tup (rows.map Tm.D), .tup []] μ = some (.tup ((srt rows).map Tm.D), μ) := by
  have h := sorted_ok (F := T 98) (cc := 27) cD (tw := .tup []) (μ := μ) (rows.map Tm.D) (by rw [List.length_map]; omega) (fun y hy x hx => by
    obtain ⟨y', hy', rfl⟩ := List.mem_map.mp hy
    obtain ⟨x', hx', rfl⟩ := List.mem_map.mp hx
    exact ctimes1 (hr y' hy') (hr x' hx') μ)
  have f := foldl_map rows []
  have f' : (rows.map Tm.D).foldl (fun l x => insS cD x l) [] = (srt rows).map Tm.D := f
  rw [f'] at h
  exact (call_at (d := d_sorted_times) rfl _ _).trans h
theorem st4 {rows : List Tm} (hr : Rows rows) (hl : rows.length ≤ 10) (ds : List (Option D)) (h3 : ds[3]? = some (some (.lst (rows.map Tm.D)))) (μ : Cells) : exec (T 99) W s_1_4 (pl ds) μ = some (.nx (pl ((ds.set 11 (some (.tup ((srt rows).map Tm.D)))).set 12 (some (.lst [])))) μ) := by
  have e := sorted_rows hr hl μ
  have b : biD μ .tuple [.lst (rows.map Tm.D)] = some (.tup (rows.map Tm.D)) := rfl
  generalize (srt rows).map Tm.D = R at *
  generalize rows.map Tm.D = Q at *
  unfold s_1_4
  walk_at "go"
  simp [h3, b, e, andThen_some', wthD_some', szle, Sl.d, setAll_pl, setAllD]
end K15

set_option Elab.async false
set_option linter.all false
set_option maxRecDepth 100000
set_option maxHeartbeats 4000000
/-! sorting, told in plain lists -/
namespace K15
open FM
def Srt (l : List Tm) : Prop := l.Pairwise fun a b => cT a b < 0
theorem ins_mem {x : Tm} : ∀ (l : List Tm) (y : Tm), y ∈ insS cT x l → y = x ∨ y ∈ l
  | [], y, h => .inl (by simpa [insS] using h)
  | z :: zs, y, h => by
    unfold insS at h
    split at h
    · rcases List.mem_cons.mp h with rfl | h
      · exact .inr (List.mem_cons_self ..)
      · rcases ins_mem zs y h with h | h
        · exact .inl h
        · exact .inr (List.mem_cons_of_mem _ h)
    · split at h
      · exact .inr h
      · rcases List.mem_cons.mp h with rfl | h
        · exact .inl rfl
        · exact .inr h
theorem ins_keep {x : Tm} : ∀ (l : List Tm) (y : Tm), y ∈ l → y ∈ insS cT x l
  | z :: zs, y, h => by
    unfold insS
    split
    · rcases List.mem_cons.mp h with rfl | h
      · exact List.mem_cons_self ..
      · exact List.mem_cons_of_mem _ (ins_keep zs y h)
    · split
      · exact h
      · exact List.mem_cons_of_mem _ h
theorem ins_srt {x : Tm} (hx : x.Ok) : ∀ (l : List Tm), (∀ y ∈ l, y.Ok) → Srt l → Srt (insS cT x l) ∧ (if ∃ y ∈ l, cT y x = 0 then insS cT x l = l else (insS cT x l).length = l.length + 1 ∧ x ∈ insS cT x l)
  | [], _, _ => by
    refine ⟨List.pairwise_singleton _ _, ?_⟩
    rw [if_neg (by simp)]
    exact ⟨rfl, by simp [insS]⟩
  | z :: zs, ho, hs => by
    have hz := ho z (List.mem_cons_self ..)
    obtain ⟨s1, s2⟩ := List.pairwise_cons.mp hs
    obtain ⟨i1, i2⟩ := ins_srt hx zs (fun y hy => ho y (List.mem_cons_of_mem _ hy)) s2
    by_cases c1 : cT z x < 0
    · have e : insS cT x (z :: zs) = z :: insS cT x zs := if_pos c1
      rw [e]
      refine ⟨List.pairwise_cons.mpr ⟨fun y hy => ?_, i1⟩, ?_⟩
      · rcases ins_mem zs y hy with rfl | hy
        · exact c1
        · exact s1 y hy
      · by_cases q : ∃ y ∈ zs, cT y x = 0
        · rw [if_pos q] at i2
          rw [if_pos (by obtain ⟨y, y1, y2⟩ := q; exact ⟨y, List.mem_cons_of_mem _ y1, y2⟩), i2]
        · rw [if_neg q] at i2
          rw [if_neg (by
            rintro ⟨y, y1, y2⟩
            rcases List.mem_cons.mp y1 with rfl | y1
            · omega
            · exact q ⟨y, y1, y2⟩)]
          exact ⟨by rw [List.length_cons, i2.1, List.length_cons], List.mem_cons_of_mem _ i2.2⟩
    · by_cases c2 : cT z x = 0
      · have e : insS cT x (z :: zs) = z :: zs := by
          show (if cT z x < 0 then _ else if cT z x = 0 then _ else _) = _
          rw [if_neg c1, if_pos c2]
        rw [e, if_pos ⟨z, List.mem_cons_self .., c2⟩]
        exact ⟨hs, rfl⟩
      · have e : insS cT x (z :: zs) = x :: z :: zs := by
          show (if cT z x < 0 then _ else if cT z x = 0 then _ else _) = _
          rw [if_neg c1, if_neg c2]
        have xz : cT x z < 0 := by have := cT_anti hz hx; omega
        have xy : ∀ y ∈ zs, cT x y < 0 := fun y hy => (cT_trans hx hz (ho y (List.mem_cons_of_mem _ hy))).2.1 xz (by have := s1 y hy; omega)
        rw [e]
        refine ⟨List.pairwise_cons.mpr ⟨fun y hy => ?_, hs⟩, ?_⟩
        · rcases List.mem_cons.mp hy with rfl | hy
          · exact xz
          · exact xy y hy
        · rw [if_neg (by
            rintro ⟨y, y1, y2⟩
            rcases List.mem_cons.mp y1 with rfl | y1
            · exact c2 y2
            · have := cT_anti hx (ho y (List.mem_cons_of_mem _ y1))
              have := xy y y1
              omega)]
          exact ⟨rfl, List.mem_cons_self ..⟩
/-- the law's own list of different times -/
def tvS (acc : List Tm) (x : Tm) : List Tm := if (acc.filter fun o => decide (cT o x = 0)) = [] then acc ++ [x] else acc
theorem tv_has {acc : List Tm} {x : Tm} : (acc.filter fun o => decide (cT o x = 0)) = [] ↔ ¬ ∃ y ∈ acc, cT y x = 0 := by
  rw [List.filter_eq_nil_iff]
  constructor
  · rintro h ⟨y, y1, y2⟩
    have := h y y1
    rw [decide_eq_true y2] at this
    exact this rfl
  · intro h y hy z
    exact h ⟨y, hy, of_decide_eq_true z⟩
/-- as many, the same values -/
theorem both {rows : List Tm} (hr : ∀ x ∈ rows, x.Ok) : ∀ (S V : List Tm), (∀ x ∈ S, x.Ok) → (∀ x ∈ V, x.Ok) → Srt S → S.length = V.length → (∀ x : Tm, x.Ok → ((∃ y ∈ S, cT y x = 0) ↔ ∃ y ∈ V, cT y x = 0)) →
    Srt (rows.foldl (fun l x => insS cT x l) S) ∧ (rows.foldl (fun l x => insS cT x l) S).length = (rows.foldl tvS V).length := by
  induction rows with
  | nil => exact fun S V _ _ h1 h2 _ => ⟨h1, h2⟩
  | cons x xs ih =>
    intro S V oS oV h1 h2 h3
    have hx := hr x (List.mem_cons_self ..)
    obtain ⟨i1, i2⟩ := ins_srt hx S oS h1
    rw [List.foldl_cons, List.foldl_cons]
    have oS' : ∀ y ∈ insS cT x S, y.Ok := fun y hy => by
      rcases ins_mem S y hy with rfl | hy
      · exact hx
      · exact oS y hy
    by_cases q : ∃ y ∈ S, cT y x = 0
    · rw [if_pos q] at i2
      have v : tvS V x = V := if_neg (fun z => tv_has.mp z ((h3 x hx).mp q))
      rw [i2, v]
      exact ih (fun y hy => hr y (List.mem_cons_of_mem _ hy)) S V oS oV h1 h2 h3
    · rw [if_neg q] at i2
      have v : tvS V x = V ++ [x] := if_pos (tv_has.mpr fun z => q ((h3 x hx).mpr z))
      rw [v]
      refine ih (fun y hy => hr y (List.mem_cons_of_mem _ hy)) (insS cT x S) (V ++ [x]) oS' (fun y hy => ?_) i1 (by rw [i2.1, List.length_append, h2]; rfl) (fun z hz => ?_)
      · rcases List.mem_append.mp hy with hy | hy
        · exact oV y hy
        · simp at hy; subst hy; exact hx
      · constructor
        · rintro ⟨y, y1, y2⟩
          rcases ins_mem S y y1 with rfl | y1
          · exact ⟨y, by simp, y2⟩
          · obtain ⟨w, w1, w2⟩ := (h3 z hz).mp ⟨y, y1, y2⟩
            exact ⟨w, List.mem_append_left _ w1, w2⟩
        · rintro ⟨y, y1, y2⟩
          rcases List.mem_append.mp y1 with y1 | y1
          · obtain ⟨w, w1, w2⟩ := (h3 z hz).mpr ⟨y, y1, y2⟩
            exact ⟨w, ins_keep S w w1, w2⟩
          · simp at y1
            subst y1
            exact ⟨y, i2.2, y2⟩
theorem srt_ok {rows : List Tm} (hr : Rows rows) : Srt (srt rows) ∧ (srt rows).length = (rows.foldl tvS []).length :=
  both (fun x hx => (hr x hx).ok) [] [] (fun _ h => (by cases h)) (fun _ h => (by cases h)) List.Pairwise.nil rfl fun x _ => Iff.rfl
end K15

set_option Elab.async false
set_option linter.all false
set_option maxRecDepth 100000
set_option maxHeartbeats 4000000
/-! the law's own list of different times -/
namespace K15
open FM
open PySem (Str sizeLine)
local macro_rules | `(tactic| walk_at "go") => `(tactic| simp [FM.execs, FM.exec, FM.ev, FM.evs, FM.evo, FM.evc, FM.evi, FM.Sl.d, FM.isiD, FM.cmpD, FM.negD, FM.bindT, FM.andThen_some', FM.onBl_bl, FM.wthD_some', FM.eqD_int, FM.ix_tup, FM.ix_lst, FM.atI_0, FM.atI_1, FM.atI_2, FM.op_add, FM.op_sub, FM.op_subBl, FM.biD_abs, FM.szle, FM.pl_get, FM.pl_set, FM.isOw_pl, FM.noOw_pl, FM.lk_pl, FM.lks_pl, FM.itlk_pl, FM.setAll_pl, FM.setAllD])
theorem lst_add (a b : List D) (h : a.length + b.length ≤ 1000) : opD .Add (.lst a) (.lst b) = some (.lst (a ++ b)) := by
  show (if a.length + b.length ≤ sizeLine then some (D.lst (a ++ b)) else none) = _
  rw [if_pos (szle h)]
theorem sh_lst {k : Nat} {ds : List D} (h : ShL k ds) : Sh (k + 1) (.lst ds) := by
  obtain ⟨h1, h2, h3⟩ := h
  refine ⟨?_, ?_, ?_⟩
  · unfold D.noCell; exact h1
  · unfold D.py PySem.PyData.canLay0; exact h2
  · unfold D.py PySem.PyData.depth; omega
theorem sh_tm (x : Tm) : Sh 2 x.D := .tup (.cons (sh_nD 0 (x.a : Nm 0)) (.cons (sh_nD 0 (x.b : Nm 0)) (.cons (sh_nD 0 (x.u : Nm 0)) (.nil _))))
theorem shL_tm : ∀ l : List Tm, ShL 2 (l.map Tm.D)
  | [] => .nil _
  | x :: xs => .cons (sh_tm x) (shL_tm xs)
theorem ne_nil (l : List Tm) (h : l ≠ []) : cmpD .Eq (.lst (l.map Tm.D)) (.lst []) = some false := by
  have s1 := (sh_lst (shL_tm l)).ok (by decide)
  have s2 : shOk (.lst []) = true := (sh_lst (ShL.nil 0)).ok (by decide)
  have s0 : scalOk (.lst (l.map Tm.D)) (.lst []) = false := rfl
  show eqD _ _ = _
  unfold eqD
  rw [s0, if_neg (by decide), s1, s2, Bool.and_self, if_pos rfl]
  cases l with
  | nil => exact absurd rfl h
  | cons x xs => rfl
theorem tv_len (acc : List Tm) (x : Tm) : (tvS acc x).length ≤ acc.length + 1 := by
  unfold tvS
  split
  · simp
  · omega
theorem st50 (ds : List (Option D)) (x : Tm) (hx : Ro x) (V : List Tm) (hV : Rows V) (hl : V.length ≤ 100) (h5 : ds[5]? = some (some x.D)) (h12 : ds[12]? = some (some (.lst (V.map Tm.D)))) (hd : 26 < ds.length) (μ : Cells) : exec (T 99) W s_1_5_0 (pl ds) μ = some (.nx (pl (ds.set 12 (some (.lst ((tvS V x).map Tm.D))))) μ) := by
  have lc : ev (T 99) (.lc (.var 26) (.nm 26) (.seq (.var 12)) (.some (.cmp .Eq (.call 48 (.cons (.var 26) (.cons (.var 5) .nil))) (.int 0)))) (pl ds) μ = some (.lst ((V.filter fun o => decide (cT o x = 0)).map Tm.D), μ) := by
    have v12 : evi (T 99) (.seq (.var 12)) (pl ds) μ = some (V.map Tm.D, μ) := by
      unfold evi
      unfold ev
      rw [pl_get, h12]
      rfl
    have f := lc_fm (F := T 99) (i := 26) (elt := .var 26) (cond := .some (.cmp .Eq (.call 48 (.cons (.var 26) (.cons (.var 5) .nil))) (.int 0))) (ds := ds) (μ := μ) (fun d => decide (cD d x.D = 0)) (fun d => d) (V.map Tm.D) (fun d hm => by
      obtain ⟨o, ho, rfl⟩ := List.mem_map.mp hm
      have e := before0 (hV o ho) hx μ
      have g : (ds.set 26 (some o.D))[26]? = some (some o.D) := List.getElem?_set_self hd
      have g5 : (ds.set 26 (some o.D))[5]? = some (some x.D) := by
        rw [List.getElem?_set_ne (by decide)]
        exact h5
      show evc (T 99) _ _ μ = some (decide (cT o x = 0), μ)
      generalize cT o x = C at *
      generalize ds.set 26 (some o.D) = es at *
      generalize o.D = O at *
      generalize x.D = X at *
      walk_at "go"
      simp [g, g5, e, andThen_some', wthD_some', onBl_bl, Sl.d, eqD_int]) (fun d hm _ => by
      have g : (ds.set 26 (some d))[26]? = some (some d) := List.getElem?_set_self hd
      generalize ds.set 26 (some d) = es at *
      walk_at "go"
      simp [g, Sl.d])
    rw [List.map_id'] at f
    have fe : (V.map Tm.D).filter (fun d => decide (cD d x.D = 0)) = (V.filter fun o => decide (cT o x = 0)).map Tm.D := by
      rw [List.filter_map]
      rfl
    rw [fe] at f
    exact ev_lc v12 (by rw [List.length_map]; omega) f
  by_cases z : (V.filter fun o => decide (cT o x = 0)) = []
  · have t : tvS V x = V ++ [x] := if_pos z
    rw [z] at lc
    have c : ev (T 99) (.cmp .Eq (.lc (.var 26) (.nm 26) (.seq (.var 12)) (.some (.cmp .Eq (.call 48 (.cons (.var 26) (.cons (.var 5) .nil))) (.int 0)))) (.lst .nil)) (pl ds) μ = some (.bl true, μ) := by
      refine cmp_of (x := .lst []) (y := .lst []) lc ?_ rfl
      walk_at "go"
    have a := lst_add (V.map Tm.D) [x.D] (by rw [List.length_map]; simp; omega)
    rw [t, List.map_append]
    refine asg_pl ?_
    show ev (T 99) _ (pl ds) μ = some (.lst (V.map Tm.D ++ [x.D]), μ)
    generalize V.map Tm.D = Q at *
    generalize x.D = X at *
    unfold ev
    have v : ev (T 99) (.var 12) (pl ds) μ = some (.lst Q, μ) := by
      unfold ev
      rw [pl_get, h12]
      rfl
    have i : ev (T 99) (.ife (.cmp .Eq (.lc (.var 26) (.nm 26) (.seq (.var 12)) (.some (.cmp .Eq (.call 48 (.cons (.var 26) (.cons (.var 5) .nil))) (.int 0)))) (.lst .nil)) (.lst (.cons (.var 5) .nil)) (.lst .nil)) (pl ds) μ = some (.lst [X], μ) := by
      unfold ev
      rw [c, onBl_bl, if_pos rfl]
      walk_at "go"
      simp [h5, Sl.d, andThen_some', szle]
    rw [v, andThen_some', i, andThen_some', a]
    rfl
  · have t : tvS V x = V := if_neg z
    have c : ev (T 99) (.cmp .Eq (.lc (.var 26) (.nm 26) (.seq (.var 12)) (.some (.cmp .Eq (.call 48 (.cons (.var 26) (.cons (.var 5) .nil))) (.int 0)))) (.lst .nil)) (pl ds) μ = some (.bl false, μ) := by
      refine cmp_of (x := .lst ((V.filter fun o => decide (cT o x = 0)).map Tm.D)) (y := .lst []) lc ?_ (ne_nil _ z)
      walk_at "go"
    have a := lst_add (V.map Tm.D) [] (by rw [List.length_map]; simp; omega)
    rw [List.append_nil] at a
    rw [t]
    refine asg_pl ?_
    generalize V.map Tm.D = Q at *
    unfold ev
    have v : ev (T 99) (.var 12) (pl ds) μ = some (.lst Q, μ) := by
      unfold ev
      rw [pl_get, h12]
      rfl
    have i : ev (T 99) (.ife (.cmp .Eq (.lc (.var 26) (.nm 26) (.seq (.var 12)) (.some (.cmp .Eq (.call 48 (.cons (.var 26) (.cons (.var 5) .nil))) (.int 0)))) (.lst .nil)) (.lst (.cons (.var 5) .nil)) (.lst .nil)) (pl ds) μ = some (.lst [], μ) := by
      unfold ev
      rw [c, onBl_bl, if_neg (by decide)]
      walk_at "go"
    rw [v, andThen_some', i, andThen_some', a]
    rfl
theorem tv_rows {acc : List Tm} (h : Rows acc) {x : Tm} (hx : Ro x) : Rows (tvS acc x) := fun y hy => by
  unfold tvS at hy
  split at hy
  · rcases List.mem_append.mp hy with hy | hy
    · exact h y hy
    · simp at hy; subst hy; exact hx
  · exact h y hy
theorem st5 {rows : List Tm} (hr : Rows rows) (hl : rows.length ≤ 10) {h : Int × Int} (ds : List (Option D)) (K : Kq ds rows h) (S : D) (h11 : ds[11]? = some (some S)) (h12 : ds[12]? = some (some (.lst []))) (μ : Cells) : ∃ ds' : List (Option D), Kq ds' rows h ∧ ds'[11]? = some (some S) ∧ ds'[12]? = some (some (.lst ((rows.foldl tvS []).map Tm.D))) ∧ exec (T 99) W s_1_5 (pl ds) μ = some (.nx (pl ds') μ) := by
  have loop : ∀ (ys V : List Tm) (ds : List (Option D)), Kq ds rows h → Rows ys → Rows V → V.length + ys.length ≤ 10 → ds[11]? = some (some S) → ds[12]? = some (some (.lst (V.map Tm.D))) → ∃ ds' : List (Option D), Kq ds' rows h ∧ ds'[11]? = some (some S) ∧ ds'[12]? = some (some (.lst ((ys.foldl tvS V).map Tm.D))) ∧ forF (.nm 5) (fun ρ' μ' => execs (T 99) W s_1_5b ρ' μ') (ys.map Tm.D) (pl ds) μ = some (.nx (pl ds') μ) := by
    intro ys
    induction ys with
    | nil => exact fun V ds K _ _ _ g1 g2 => ⟨ds, K, g1, g2, rfl⟩
    | cons x xs ih =>
      intro V ds K hy hV hn g1 g2
      rw [List.length_cons] at hn
      have hx := hy x (List.mem_cons_self ..)
      have K1 := K.set (i := 5) (some x.D) (by decide) (by decide) (by decide)
      have e := st50 (ds.set 5 (some x.D)) x hx V hV (by omega) (List.getElem?_set_self (by rw [K.len]; decide)) (by rw [List.getElem?_set_ne (by decide)]; exact g2) (by rw [K1.len]; decide) μ
      have K2 := K1.set (i := 12) (some (.lst ((tvS V x).map Tm.D))) (by decide) (by decide) (by decide)
      obtain ⟨ds', q1, q2, q3, q4⟩ := ih (tvS V x) _ K2 (fun y hy' => hy y (List.mem_cons_of_mem _ hy')) (tv_rows hV hx) (by have := tv_len V x; omega) (by rw [List.getElem?_set_ne (by decide), List.getElem?_set_ne (by decide)]; exact g1) (List.getElem?_set_self (by rw [K1.len]; decide))
      refine ⟨ds', q1, q2, q3, ?_⟩
      rw [List.map_cons]
      have b : bindT (.nm 5) x.D (pl ds) = some (pl (ds.set 5 (some x.D))) := by
        unfold bindT
        simp only [pl_set]
      exact (forF_nx b (seq_nx e rfl)).trans q4
  obtain ⟨ds', q1, q2, q3, q4⟩ := loop rows [] ds K hr (fun _ h => by cases h) (by simpa using hl) h11 h12
  refine ⟨ds', q1, q2, q3, for_of ?_ (itlk_pl _ _) q4⟩
  unfold evi
  unfold ev
  rw [pl_get, K.h3]
  rfl
end K15

set_option Elab.async false
set_option linter.all false
set_option maxRecDepth 100000
set_option maxHeartbeats 4000000
/-! the least -/
namespace K15
open FM
open PySem (Str sizeLine)
local macro_rules | `(tactic| walk_at "go") => `(tactic| simp [FM.execs, FM.exec, FM.ev, FM.evs, FM.evo, FM.evc, FM.evi, FM.Sl.d, FM.isiD, FM.cmpD, FM.negD, FM.bindT, FM.andThen_some', FM.onBl_bl, FM.wthD_some', FM.eqD_int, FM.ix_tup, FM.ix_lst, FM.atI_0, FM.atI_1, FM.atI_2, FM.op_add, FM.op_sub, FM.op_subBl, FM.biD_abs, FM.szle, FM.pl_get, FM.pl_set, FM.isOw_pl, FM.noOw_pl, FM.lk_pl, FM.lks_pl, FM.itlk_pl, FM.setAll_pl, FM.setAllD])
def lst' : Tm → List Tm → Tm
  | f, [] => f
  | f, x :: xs => lst' (if cT x f < 0 then x else f) xs
theorem leastS_map : ∀ (xs : List Tm) (f : Tm), leastS cD f.D (xs.map Tm.D) = (lst' f xs).D
  | [], f => rfl
  | x :: xs, f => by
    show leastS cD (if cT x f < 0 then x.D else f.D) (xs.map Tm.D) = (lst' (if cT x f < 0 then x else f) xs).D
    rw [← leastS_map xs]
    split <;> rfl
theorem lst'_mem : ∀ (xs : List Tm) (f : Tm), lst' f xs = f ∨ lst' f xs ∈ xs
  | [], f => .inl rfl
  | x :: xs, f => by
    show lst' (if cT x f < 0 then x else f) xs = f ∨ lst' (if cT x f < 0 then x else f) xs ∈ x :: xs
    rcases lst'_mem xs (if cT x f < 0 then x else f) with h | h
    · rw [h]
      split
      · exact .inr (List.mem_cons_self ..)
      · exact .inl rfl
    · exact .inr (List.mem_cons_of_mem _ h)
theorem lst'_le : ∀ (xs : List Tm) (f : Tm), f.Ok → (∀ x ∈ xs, x.Ok) → cT (lst' f xs) f ≤ 0 ∧ ∀ x ∈ xs, cT (lst' f xs) x ≤ 0
  | [], f, hf, _ => ⟨by show cT f f ≤ 0; rw [cT_self hf]; decide, fun x h => by cases h⟩
  | x :: xs, f, hf, hx => by
    have ox := hx x (List.mem_cons_self ..)
    have og : (if cT x f < 0 then x else f).Ok := by split <;> assumption
    obtain ⟨h1, h2⟩ := lst'_le xs (if cT x f < 0 then x else f) og (fun y hy => hx y (List.mem_cons_of_mem _ hy))
    have ol : (lst' (if cT x f < 0 then x else f) xs).Ok := by
      rcases lst'_mem xs (if cT x f < 0 then x else f) with h | h
      · rw [h]; exact og
      · exact hx _ (List.mem_cons_of_mem _ h)
    show cT (lst' (if cT x f < 0 then x else f) xs) f ≤ 0 ∧ ∀ y ∈ x :: xs, cT (lst' (if cT x f < 0 then x else f) xs) y ≤ 0
    have gf : cT (if cT x f < 0 then x else f) f ≤ 0 := by
      split
      · omega
      · rw [cT_self hf]; decide
    have gx : cT (if cT x f < 0 then x else f) x ≤ 0 := by
      split
      · rw [cT_self ox]; decide
      · have := cT_anti ox hf; omega
    refine ⟨(cT_trans ol og hf).1 h1 gf, fun y hy => ?_⟩
    rcases List.mem_cons.mp hy with rfl | hy
    · exact (cT_trans ol og ox).1 h1 gx
    · exact h2 y hy
theorem least_rows {x : Tm} {xs : List Tm} (hr : Rows (x :: xs)) (μ : Cells) : T 99 34 [.tup ((x :: xs).map Tm.D), .tup []] μ = some ((lst' x xs).D, μ) := by
  have h := least_times_ok (F := T 98) (cc := 27) cD (tw := .tup []) (μ := μ) x.D (xs.map Tm.D) (fun y hy => by
    rw [← List.map_cons (f := Tm.D)] at hy
    obtain ⟨y', hy', rfl⟩ := List.mem_map.mp hy
    rfl) (fun y hy z hz => by
    rw [← List.map_cons (f := Tm.D)] at hy hz
    obtain ⟨y', hy', rfl⟩ := List.mem_map.mp hy
    obtain ⟨z', hz', rfl⟩ := List.mem_map.mp hz
    exact ctimes1 (hr y' hy') (hr z' hz') μ)
  rw [leastS_map] at h
  exact (call_at (d := d_least_time) rfl _ _).trans h
theorem least_none (μ : Cells) : T 99 34 [.tup [], .tup []] μ = some (.non, μ) := (call_at (d := d_least_time) rfl _ _).trans least_nil
end K15

set_option Elab.async false
set_option linter.all false
set_option maxRecDepth 100000
set_option maxHeartbeats 4000000
/-! order and least held against each other -/
namespace K15
open FM
open PySem (Str sizeLine)
local macro_rules | `(tactic| walk_at "go") => `(tactic| simp [FM.execs, FM.exec, FM.ev, FM.evs, FM.evo, FM.evc, FM.evi, FM.Sl.d, FM.isiD, FM.cmpD, FM.negD, FM.bindT, FM.andThen_some', FM.onBl_bl, FM.wthD_some', FM.eqD_int, FM.ix_tup, FM.ix_lst, FM.atI_0, FM.atI_1, FM.atI_2, FM.op_add, FM.op_sub, FM.op_subBl, FM.biD_abs, FM.szle, FM.pl_get, FM.pl_set, FM.isOw_pl, FM.noOw_pl, FM.lk_pl, FM.lks_pl, FM.itlk_pl, FM.setAll_pl, FM.setAllD])
theorem srt_mem {rows : List Tm} : ∀ y ∈ srt rows, y ∈ rows := by
  have g : ∀ (l acc : List Tm) (y : Tm), y ∈ l.foldl (fun l x => insS cT x l) acc → y ∈ acc ∨ y ∈ l := by
    intro l
    induction l with
    | nil => exact fun acc y h => .inl h
    | cons x xs ih =>
      intro acc y h
      rw [List.foldl_cons] at h
      rcases ih _ y h with h | h
      · rcases ins_mem acc y h with rfl | h
        · exact .inr (List.mem_cons_self ..)
        · exact .inl h
      · exact .inr (List.mem_cons_of_mem _ h)
  intro y hy
  rcases g rows [] y hy with h | h
  · cases h
  · exact h
/-- every row has one of the order that is the same -/
theorem srt_has {rows : List Tm} (hr : Rows rows) : ∀ x ∈ rows, ∃ y ∈ srt rows, cT y x = 0 := by
  have g : ∀ (l acc : List Tm), (∀ x ∈ l, x.Ok) → (∀ x ∈ acc, x.Ok) → Srt acc → (∀ y ∈ acc, y ∈ l.foldl (fun l x => insS cT x l) acc) ∧ ∀ x ∈ l, ∃ y ∈ l.foldl (fun l x => insS cT x l) acc, cT y x = 0 := by
    intro l
    induction l with
    | nil => exact fun acc _ _ _ => ⟨fun y h => h, fun x h => by cases h⟩
    | cons x xs ih =>
      intro acc ol oa sa
      have ox := ol x (List.mem_cons_self ..)
      obtain ⟨i1, i2⟩ := ins_srt ox acc oa sa
      have oa' : ∀ y ∈ insS cT x acc, y.Ok := fun y hy => by
        rcases ins_mem acc y hy with rfl | hy
        · exact ox
        · exact oa y hy
      obtain ⟨j1, j2⟩ := ih (insS cT x acc) (fun y hy => ol y (List.mem_cons_of_mem _ hy)) oa' i1
      rw [List.foldl_cons]
      refine ⟨fun y hy => j1 y (ins_keep acc y hy), fun z hz => ?_⟩
      rcases List.mem_cons.mp hz with rfl | hz
      · by_cases q : ∃ y ∈ acc, cT y z = 0
        · obtain ⟨y, y1, y2⟩ := q
          exact ⟨y, j1 y (ins_keep acc y y1), y2⟩
        · rw [if_neg q] at i2
          exact ⟨z, j1 z i2.2, cT_self ox⟩
      · exact j2 z hz
  exact (g rows [] (fun x hx => (hr x hx).ok) (fun _ h => by cases h) List.Pairwise.nil).2
/-- the least of the rows is the order's first -/
theorem least_first {x : Tm} {xs : List Tm} (hr : Rows (x :: xs)) {f : Tm} {fs : List Tm} (e : srt (x :: xs) = f :: fs) : cT (lst' x xs) f = 0 := by
  have ok : ∀ y ∈ x :: xs, y.Ok := fun y hy => (hr y hy).ok
  obtain ⟨l1, l2⟩ := lst'_le xs x (ok x (List.mem_cons_self ..)) (fun y hy => ok y (List.mem_cons_of_mem _ hy))
  have lm : lst' x xs ∈ x :: xs := by
    rcases lst'_mem xs x with h | h
    · rw [h]; exact List.mem_cons_self ..
    · exact List.mem_cons_of_mem _ h
  have fm : f ∈ x :: xs := srt_mem f (by rw [e]; exact List.mem_cons_self ..)
  have a : cT (lst' x xs) f ≤ 0 := by
    rcases List.mem_cons.mp fm with rfl | h
    · exact l1
    · exact l2 f h
  obtain ⟨y, y1, y2⟩ := srt_has hr _ lm
  rw [e] at y1
  have oy : y.Ok := ok y (srt_mem y (by rw [e]; exact y1))
  have ol := ok _ lm
  have of' := ok f fm
  have fy : cT f y ≤ 0 := by
    rcases List.mem_cons.mp y1 with rfl | h
    · rw [cT_self oy]; decide
    · have s := (srt_ok hr).1
      rw [e] at s
      have := (List.pairwise_cons.mp s).1 y h
      omega
  have fl : cT f (lst' x xs) ≤ 0 := (cT_trans of' oy ol).1 fy (by omega)
  have := cT_anti ol of'
  omega
end K15

set_option Elab.async false
set_option linter.all false
set_option maxRecDepth 100000
set_option maxHeartbeats 4000000
/-! st7 -/
namespace K15
open FM
open PySem (Str sizeLine)
local macro_rules | `(tactic| walk_at "go") => `(tactic| simp [FM.execs, FM.exec, FM.ev, FM.evs, FM.evo, FM.evc, FM.evi, FM.Sl.d, FM.isiD, FM.cmpD, FM.negD, FM.bindT, FM.andThen_some', FM.onBl_bl, FM.wthD_some', FM.eqD_int, FM.ix_tup, FM.ix_lst, FM.atI_0, FM.atI_1, FM.atI_2, FM.op_add, FM.op_sub, FM.op_subBl, FM.biD_abs, FM.szle, FM.pl_get, FM.pl_set, FM.isOw_pl, FM.noOw_pl, FM.lk_pl, FM.lks_pl, FM.itlk_pl, FM.setAll_pl, FM.setAllD])
theorem st7 {rows : List Tm} (hr : Rows rows) (l1 : 2 ≤ rows.length) (ds : List (Option D)) (h3 : ds[3]? = some (some (.lst (rows.map Tm.D)))) (h11 : ds[11]? = some (some (.tup ((srt rows).map Tm.D)))) (μ : Cells) : exec (T 99) W s_1_7 (pl ds) μ = some (.nx (pl ds) μ) := by
  cases rows with
  | nil => simp at l1
  | cons x xs =>
    obtain ⟨y, y1, _⟩ := srt_has hr x (List.mem_cons_self ..)
    cases e : srt (x :: xs) with
    | nil => rw [e] at y1; cases y1
    | cons f fs =>
      rw [e] at h11
      have lm : Ro (lst' x xs) := by
        rcases lst'_mem xs x with h | h
        · rw [h]; exact hr x (List.mem_cons_self ..)
        · exact hr _ (List.mem_cons_of_mem _ h)
      have fm : Ro f := hr f (srt_mem f (by rw [e]; exact List.mem_cons_self ..))
      have e1 := least_rows hr μ
      have e2 := before0 lm fm μ
      rw [least_first hr e] at e2
      have e3 := least_none μ
      have b : biD μ .tuple [.lst ((x :: xs).map Tm.D)] = some (.tup ((x :: xs).map Tm.D)) := rfl
      have i : ixD μ (.tup ((f :: fs).map Tm.D)) (.int 0) = some f.D := by
        rw [List.map_cons]
        exact atI_0 _ _
      generalize (x :: xs).map Tm.D = Q at *
      generalize (f :: fs).map Tm.D = R at *
      generalize (lst' x xs).D = Z at *
      generalize f.D = Y at *
      have c1 : ev (T 99) (.cmp .NotEq (.call 48 (.cons (.call 34 (.cons (.bi .tuple (.cons (.var 3) .nil)) (.cons (.tup .nil) .nil))) (.cons (.ix (.var 11) (.int 0)) .nil))) (.int 0)) (pl ds) μ = some (.bl false, μ) := by
        have a : ev (T 99) (.call 48 (.cons (.call 34 (.cons (.bi .tuple (.cons (.var 3) .nil)) (.cons (.tup .nil) .nil))) (.cons (.ix (.var 11) (.int 0)) .nil))) (pl ds) μ = some (.int 0, μ) := by
          have v : ev (T 99) (.ix (.var 11) (.int 0)) (pl ds) μ = some (Y, μ) := by
            refine ev_ix (x := .tup R) (μ1 := μ) (y := .int 0) (μ2 := μ) ?_ rfl i
            unfold ev
            rw [pl_get, h11]
            rfl
          have w : ev (T 99) (.call 34 (.cons (.bi .tuple (.cons (.var 3) .nil)) (.cons (.tup .nil) .nil))) (pl ds) μ = some (Z, μ) := by
            walk_at "go"
            simp [h3, b, e1, andThen_some', wthD_some', szle, Sl.d]
          unfold ev
          rw [lks_pl, if_neg (by decide)]
          unfold evs
          rw [w]
          simp only [andThen_some']
          unfold evs
          rw [v]
          simp only [andThen_some']
          unfold evs
          simp only [andThen_some']
          exact e2
        exact cmp_of a rfl rfl
      have c2 : ev (T 99) (.cmp .IsNot (.call 34 (.cons (.tup .nil) (.cons (.tup .nil) .nil))) .non) (pl ds) μ = some (.bl false, μ) := by
        refine isnot_of (x := .non) (μ1 := μ) ?_
        walk_at "go"
        exact e3
      unfold s_1_7
      refine ifs_f (μ1 := μ) ?_ rfl
      unfold ev
      rw [c1, onBl_bl, if_neg (by decide), c2]
      rfl
end K15

set_option Elab.async false
set_option linter.all false
set_option maxRecDepth 100000
set_option maxHeartbeats 4000000
/-! st6 -/
namespace K15
open FM
open L2 (atI)
open PySem (Str sizeLine)
local macro_rules | `(tactic| walk_at "go") => `(tactic| simp [FM.execs, FM.exec, FM.ev, FM.evs, FM.evo, FM.evc, FM.evi, FM.Sl.d, FM.isiD, FM.cmpD, FM.negD, FM.bindT, FM.andThen_some', FM.onBl_bl, FM.wthD_some', FM.eqD_int, FM.ix_tup, FM.ix_lst, FM.atI_0, FM.atI_1, FM.atI_2, FM.op_add, FM.op_sub, FM.op_subBl, FM.biD_abs, FM.szle, FM.pl_get, FM.pl_set, FM.isOw_pl, FM.noOw_pl, FM.lk_pl, FM.lks_pl, FM.itlk_pl, FM.setAll_pl, FM.setAllD])
theorem eqv_tm (x : Tm) : PySem.PyData.eqv x.D.py x.D.py = true := by
  obtain ⟨⟨a, a'⟩, ⟨b, b'⟩, ⟨u, u'⟩⟩ := x
  simp [Tm.D, t3, fD, D.py, pyAll, PySem.PyData.eqv, PySem.PyData.eqvAll]
theorem in_rows {rows : List Tm} {x : Tm} (h : x ∈ rows) : inX x.D (rows.map Tm.D) = some true := by
  have n : inD x.D (rows.map Tm.D) = none := by
    cases rows with
    | nil => cases h
    | cons y ys => rfl
  have s1 : shOk x.D = true := (sh_tm x).ok (by decide)
  have s2 : shOk (.lst (rows.map Tm.D)) = true := (sh_lst (shL_tm rows)).ok (by decide)
  have a : ((pyAll (rows.map Tm.D)).any fun z => PySem.PyData.eqv z x.D.py) = true := by
    clear n s2
    induction rows with
    | nil => cases h
    | cons y ys ih =>
      show (PySem.PyData.eqv y.D.py x.D.py || ((pyAll (ys.map Tm.D)).any fun z => PySem.PyData.eqv z x.D.py)) = true
      rcases List.mem_cons.mp h with rfl | h
      · rw [eqv_tm, Bool.true_or]
      · rw [ih h, Bool.or_true]
  unfold inX
  rw [n, s1, s2, a]
  rfl
theorem lc_nil {F : Fs} {ds : List (Option D)} {i : Nat} {elt : E} {it : It} {c : E} {μ : Cells} {xs : List D} (hl : xs.length ≤ 16777216) (h : evi F it (pl ds) μ = some (xs, μ)) (hc : ∀ d ∈ xs, evc F (.some c) (pl (ds.set i (some d))) μ = some (false, μ)) : ev F (.cmp .NotEq (.lc elt (.nm i) it (.some c)) (.lst .nil)) (pl ds) μ = some (.bl false, μ) := by
  have g := lc_fm (F := F) (i := i) (elt := elt) (cond := .some c) (ds := ds) (μ := μ) (fun _ => false) (fun d => d) xs hc (fun _ _ h => by cases h)
  have f : xs.filter (fun _ => false) = [] := List.filter_eq_nil_iff.mpr (fun _ _ h => by cases h)
  rw [f] at g
  refine cmp_of (x := .lst []) (y := .lst []) (ev_lc h hl g) ?_ rfl
  walk_at "go"
theorem ne_int (i j : Int) : cmpD .NotEq (.int i) (.int j) = some (!decide (i = j)) := by
  simp [cmpD, eqD_int]
theorem st6 {rows : List Tm} (hr : Rows rows) (l1 : 2 ≤ rows.length) (hl : rows.length ≤ 10) (ds : List (Option D)) (hd : 26 < ds.length) (h3 : ds[3]? = some (some (.lst (rows.map Tm.D)))) (h11 : ds[11]? = some (some (.tup ((srt rows).map Tm.D)))) (h12 : ds[12]? = some (some (.lst ((rows.foldl tvS []).map Tm.D)))) (μ : Cells) : exec (T 99) W s_1_6 (pl ds) μ = some (.nx (pl ds) μ) := by
  obtain ⟨q1, q2⟩ := srt_ok hr
  have len11 : ev (T 99) (.bi .len (.cons (.var 11) .nil)) (pl ds) μ = some (.int (srt rows).length, μ) := by
    have b : biD μ .len [.tup ((srt rows).map Tm.D)] = some (.int (srt rows).length) := by
      show some (D.int (((srt rows).map Tm.D).length : Int)) = _
      rw [List.length_map]
    generalize (srt rows).map Tm.D = R at *
    walk_at "go"
    simp [h11, b, andThen_some', wthD_some', Sl.d]
  have len12 : ev (T 99) (.bi .len (.cons (.var 12) .nil)) (pl ds) μ = some (.int (srt rows).length, μ) := by
    have b : biD μ .len [.lst ((rows.foldl tvS []).map Tm.D)] = some (.int (srt rows).length) := by
      show some (D.int (((rows.foldl tvS []).map Tm.D).length : Int)) = _
      rw [List.length_map, q2]
    generalize (rows.foldl tvS []).map Tm.D = R at *
    walk_at "go"
    simp [h12, b, andThen_some', wthD_some', Sl.d]
  have sl : (srt rows).length ≤ 10 ∧ 1 ≤ (srt rows).length := by
    refine ⟨?_, ?_⟩
    · rw [q2]
      have : ∀ (xs V : List Tm), (xs.foldl tvS V).length ≤ V.length + xs.length := by
        intro xs
        induction xs with
        | nil => exact fun V => by simp
        | cons x xs ih =>
          intro V
          rw [List.foldl_cons, List.length_cons]
          have := ih (tvS V x)
          have := tv_len V x
          omega
      have := this rows []
      simp at this
      omega
    · cases rows with
      | nil => simp at l1
      | cons x xs =>
        obtain ⟨y, y1, _⟩ := srt_has hr x (List.mem_cons_self ..)
        have := List.length_pos_of_mem y1
        omega
  have c1 : ev (T 99) (.cmp .NotEq (.bi .len (.cons (.var 11) .nil)) (.bi .len (.cons (.var 12) .nil))) (pl ds) μ = some (.bl false, μ) := by
    refine cmp_of len11 len12 ?_
    rw [ne_int]
    simp
  have c2 : ev (T 99) (.cmp .NotEq (.lc (.var 15) (.nm 15) (.rng1 (.op .Sub (.bi .len (.cons (.var 11) .nil)) (.int 1))) (.some (.cmp .NotEq (.call 48 (.cons (.ix (.var 11) (.var 15)) (.cons (.ix (.var 11) (.op .Add (.var 15) (.int 1))) .nil))) (.op .Sub (.int 0) (.int 1))))) (.lst .nil)) (pl ds) μ = some (.bl false, μ) := by
    refine lc_nil (xs := rngD 0 ((srt rows).length - 1)) (by rw [rng_len]; omega) (evi_rng ?_ (by omega)) (fun d hm => ?_)
    · have c : (((srt rows).length - 1 : Nat) : Int) = ((srt rows).length : Int) - 1 := by omega
      rw [c]
      unfold ev
      rw [len11, andThen_some']
      rfl
    · obtain ⟨i, hi⟩ := List.getElem?_of_mem hm
      obtain ⟨i1, rfl⟩ := rngD_get hi
      rw [Int.zero_add]
      have lt : i + 1 < (srt rows).length := by omega
      have g15 : (ds.set 15 (some (.int (i : Int))))[15]? = some (some (.int i)) := List.getElem?_set_self (by omega)
      have g11 : (ds.set 15 (some (.int (i : Int))))[11]? = some (some (.tup ((srt rows).map Tm.D))) := by
        rw [List.getElem?_set_ne (by decide)]
        exact h11
      have i0 : ixD μ (.tup ((srt rows).map Tm.D)) (.int i) = some ((srt rows)[i]'(by omega)).D := by
        show atI _ _ = _
        rw [atI_nat (by rw [List.length_map]; omega), List.getElem_map]
      have i2 : ixD μ (.tup ((srt rows).map Tm.D)) (.int ((i : Int) + 1)) = some ((srt rows)[i + 1]'lt).D := by
        show atI _ ((i + 1 : Nat) : Int) = _
        rw [atI_nat (by rw [List.length_map]; omega), List.getElem_map]
      have b := before0 (hr _ (srt_mem _ (List.getElem_mem (by omega : i < (srt rows).length)))) (hr _ (srt_mem _ (List.getElem_mem lt))) μ
      have lt0 : cT ((srt rows)[i]'(by omega)) ((srt rows)[i + 1]'lt) < 0 := List.pairwise_iff_getElem.mp q1 i (i + 1) (by omega) lt (by omega)
      have m1 : cT ((srt rows)[i]'(by omega)) ((srt rows)[i + 1]'lt) = -1 := by
        rcases cT_three (x := (srt rows)[i]'(by omega)) (y := (srt rows)[i + 1]'lt) (hr _ (srt_mem _ (List.getElem_mem (by omega : i < (srt rows).length)))).ok (hr _ (srt_mem _ (List.getElem_mem lt))).ok with h | h | h <;> omega
      rw [m1] at b
      generalize ds.set 15 (some (.int (i : Int))) = es at *
      generalize (srt rows).map Tm.D = R at *
      generalize ((srt rows)[i]'(by omega)).D = X at *
      generalize ((srt rows)[i + 1]'lt).D = Y at *
      walk_at "go"
      simp [g15, g11, i0, i2, b, andThen_some', wthD_some', onBl_bl, Sl.d, eqD_int, op_add, op_sub]
  have c3 : ev (T 99) (.cmp .NotEq (.lc (.var 5) (.nm 5) (.seq (.var 11)) (.some (.cmp .NotIn (.var 5) (.var 3)))) (.lst .nil)) (pl ds) μ = some (.bl false, μ) := by
    refine lc_nil (xs := (srt rows).map Tm.D) (by rw [List.length_map]; omega) ?_ (fun d hm => ?_)
    · unfold evi
      unfold ev
      rw [pl_get, h11]
      rfl
    · obtain ⟨y, ym, rfl⟩ := List.mem_map.mp hm
      have i := in_rows (srt_mem y ym)
      have g5 : (ds.set 5 (some y.D))[5]? = some (some y.D) := List.getElem?_set_self (by omega)
      have g3 : (ds.set 5 (some y.D))[3]? = some (some (.lst (rows.map Tm.D))) := by
        rw [List.getElem?_set_ne (by decide)]
        exact h3
      have c : cmpD .NotIn y.D (.lst (rows.map Tm.D)) = some false := by
        show (inX _ _).map not = _
        rw [i]
        rfl
      have e : ev (T 99) (.cmp .NotIn (.var 5) (.var 3)) (pl (ds.set 5 (some y.D))) μ = some (.bl false, μ) := by
        refine cmp_of (x := y.D) (y := .lst (rows.map Tm.D)) (μ1 := μ) ?_ ?_ c
        · unfold ev
          rw [pl_get, g5]
          rfl
        · unfold ev
          rw [pl_get, g3]
          rfl
      unfold evc
      rw [e]
      rfl
  unfold s_1_6
  refine ifs_f (μ1 := μ) ?_ rfl
  unfold ev
  rw [c1, onBl_bl, if_neg (by decide)]
  unfold ev
  rw [c2, onBl_bl, if_neg (by decide), c3]
  rfl
end K15

set_option Elab.async false
set_option linter.all false
set_option maxRecDepth 100000
set_option maxHeartbeats 4000000
/-! the six looks: the first statements -/
namespace K15
open FM
open L2 (atI)
open PySem (Str sizeLine)
local macro_rules | `(tactic| walk_at "go") => `(tactic| simp [FM.execs, FM.exec, FM.ev, FM.evs, FM.evo, FM.evc, FM.evi, FM.Sl.d, FM.isiD, FM.cmpD, FM.negD, FM.bindT, FM.andThen_some', FM.onBl_bl, FM.wthD_some', FM.eqD_int, FM.ix_tup, FM.ix_lst, FM.atI_0, FM.atI_1, FM.atI_2, FM.op_add, FM.op_sub, FM.op_subBl, FM.biD_abs, FM.szle, FM.pl_get, FM.pl_set, FM.isOw_pl, FM.noOw_pl, FM.lk_pl, FM.lks_pl, FM.itlk_pl, FM.setAll_pl, FM.setAllD])
def oD (o : Option Tm) : D := match o with
  | none => D.non
  | some z => z.D
def within (x y : Tm) (o : Option Tm) : Bool := decide (cT y x < 0) && (match o with | none => true | some z => decide (cT x z < 0))
theorem st80 {rows : List Tm} (hr : Rows rows) (l1 : 2 ≤ rows.length) (l2 : rows.length ≤ 10) (is : List Int) (ds : List (Option D)) (h1 : ds[1]? = some (some (.cell 0))) (h3 : ds[3]? = some (some (.lst (rows.map Tm.D)))) (k : Int) (hk : 0 ≤ k) :
    ∃ (x y : Tm) (o : Option Tm) (k' : Int), Ro x ∧ Ro y ∧ (∀ z, o = some z → Ro z) ∧ 0 ≤ k' ∧ exec (T 99) W s_1_8_0 (pl ds) [cw is k] = some (.nx (pl (((ds.set 5 (some x.D)).set 18 (some y.D)).set 19 (some (oD o)))) [cw is k']) := by
  have ne : rows.map Tm.D ≠ [] := fun z => by
    have := congrArg List.length z
    simp at this
    subst this
    simp at l1
  obtain ⟨d1, k1, a1, a2, a3⟩ := pick_at 97 is k (rows.map Tm.D) hk ne
  obtain ⟨d2, k2, b1, b2, b3⟩ := pick_at 97 is k1 (rows.map Tm.D) a2 ne
  obtain ⟨d3, k3, c1, c2, c3⟩ := pick_at 97 is k2 (rows.map Tm.D ++ [.non]) b2 (by simp)
  have a3' : T 99 39 [.cell 0, .lst (rows.map Tm.D)] [cw is k] = some (d1, [cw is k1]) := a3
  have b3' : T 99 39 [.cell 0, .lst (rows.map Tm.D)] [cw is k1] = some (d2, [cw is k2]) := b3
  have c3' : T 99 39 [.cell 0, .lst (rows.map Tm.D ++ [.non])] [cw is k2] = some (d3, [cw is k3]) := c3
  obtain ⟨x, xm, rfl⟩ := List.mem_map.mp a1
  obtain ⟨y, ym, rfl⟩ := List.mem_map.mp b1
  have o : ∃ o : Option Tm, (∀ z, o = some z → Ro z) ∧ d3 = oD o := by
    rcases List.mem_append.mp c1 with h | h
    · obtain ⟨z, zm, rfl⟩ := List.mem_map.mp h
      exact ⟨some z, fun w e => by cases e; exact hr z zm, rfl⟩
    · simp at h
      exact ⟨none, (fun w e => nomatch e), h⟩
  obtain ⟨o, o1, rfl⟩ := o
  refine ⟨x, y, o, k3, hr x xm, hr y ym, o1, c2, ?_⟩
  have a := lst_add (rows.map Tm.D) [.non] (by rw [List.length_map]; simp; omega)
  generalize oD o = O at *
  generalize x.D = X at *
  generalize y.D = Y at *
  generalize rows.map Tm.D = R at *
  unfold s_1_8_0
  walk_at "go"
  simp [h1, h3, a, a3', b3', c3', andThen_some', wthD_some', szle, Sl.d, setAll_pl, setAllD]
theorem st81 (ds : List (Option D)) {x y : Tm} (hx : Ro x) (hy : Ro y) (h5 : ds[5]? = some (some x.D)) (h18 : ds[18]? = some (some y.D)) (μ : Cells) : exec (T 99) W s_1_8_1 (pl ds) μ = some (.nx (pl (ds.set 13 (some (.int (cT x y))))) μ) := by
  have e := before0 hx hy μ
  refine asg_pl ?_
  generalize cT x y = C at *
  generalize x.D = X at *
  generalize y.D = Y at *
  walk_at "go"
  simp [h5, h18, e, andThen_some', wthD_some', szle, Sl.d]
theorem st82 (ds : List (Option D)) {x y : Tm} (hx : Ro x) (hy : Ro y) {h : Int × Int} (hh : Hi h) (h4 : ds[4]? = some (some (.tup [fD h]))) (h5 : ds[5]? = some (some x.D)) (h18 : ds[18]? = some (some y.D)) (μ : Cells) : exec (T 99) W s_1_8_2 (pl ds) μ = some (.nx (pl (ds.set 10 (some (.tup [.int (cT x y), .bl (decide (cT x y = 0)), .int (cT x y)])))) μ) := by
  have e1 := ctimes0 hx hy μ
  have e2 := same_time hx hy μ
  have e3 := raised0 x h μ
  have e4 := raised0 y h μ
  have e5 := ctimesH hx hy hh μ
  refine asg_pl ?_
  generalize cT x y = C at *
  generalize upD x = X1 at *
  generalize upD y = Y1 at *
  generalize x.D = X at *
  generalize y.D = Y at *
  generalize fD h = H at *
  walk_at "go"
  simp [h4, h5, h18, e1, e2, e3, e4, e5, andThen_some', wthD_some', szle, Sl.d]
theorem st83 (ds : List (Option D)) (C : Int) (h10 : ds[10]? = some (some (.tup [.int C, .bl (decide (C = 0)), .int C]))) (h13 : ds[13]? = some (some (.int C))) (μ : Cells) : exec (T 99) W s_1_8_3 (pl ds) μ = some (.nx (pl ds) μ) := by
  have e := like_at (.tup [.int C, .bl (decide (C = 0)), .int C]) rfl μ
  refine ifs_f (μ1 := μ) ?_ rfl
  walk_at "go"
  simp [h10, h13, e, andThen_some', wthD_some', onBl_bl, szle, Sl.d, eqD_int]
theorem st84 (ds : List (Option D)) {x y : Tm} {o : Option Tm} (hx : Ro x) (hy : Ro y) (ho : ∀ z, o = some z → Ro z) (h5 : ds[5]? = some (some x.D)) (h18 : ds[18]? = some (some y.D)) (h19 : ds[19]? = some (some (oD o))) (μ : Cells) : exec (T 99) W s_1_8_4 (pl ds) μ = some (.nx (pl (ds.set 14 (some (.bl (within x y o))))) μ) := by
  have e1 := before0 hy hx μ
  refine asg_pl ?_
  cases o with
  | none =>
    have wd : within x y none = decide (cT y x < 0) := by simp [within]
    rw [wd]
    have n : oD none = .non := rfl
    rw [n] at h19
    generalize cT y x = C at *
    generalize x.D = X at *
    generalize y.D = Y at *
    by_cases z : C < 0
    · walk_at "go"
      simp [h5, h18, h19, e1, z, isNon, andThen_some', wthD_some', onBl_bl, szle, Sl.d]
    · walk_at "go"
      simp [h5, h18, h19, e1, z, isNon, andThen_some', wthD_some', onBl_bl, szle, Sl.d]
  | some z =>
    have wd : within x y (some z) = (decide (cT y x < 0) && decide (cT x z < 0)) := rfl
    rw [wd]
    have n : oD (some z) = z.D := rfl
    rw [n] at h19
    have i : isNon z.D = false := rfl
    have e2 := before0 hx (ho z rfl) μ
    generalize cT y x = C at *
    generalize cT x z = C' at *
    generalize x.D = X at *
    generalize y.D = Y at *
    generalize z.D = Z at *
    by_cases w : C < 0
    · walk_at "go"
      simp [h5, h18, h19, e1, e2, w, i, andThen_some', wthD_some', onBl_bl, szle, Sl.d]
    · walk_at "go"
      simp [h5, h18, h19, e1, e2, w, i, andThen_some', wthD_some', onBl_bl, szle, Sl.d]
theorem st85 (ds : List (Option D)) {x y : Tm} {o : Option Tm} (hx : Ro x) (hy : Ro y) (ho : ∀ z, o = some z → Ro z) (h5 : ds[5]? = some (some x.D)) (h18 : ds[18]? = some (some y.D)) (h19 : ds[19]? = some (some (oD o))) (h14 : ds[14]? = some (some (.bl (within x y o)))) (μ : Cells) : exec (T 99) W s_1_8_5 (pl ds) μ = some (.nx (pl ds) μ) := by
  have e1 : T 99 33 [x.D, y.D, oD o, .tup []] μ = some (.bl (within x y o), μ) := by
    have := within_time hx hy o ho μ
    cases o with
    | none => exact this
    | some z => exact this
  have e2 := within_none (x := x) μ
  have e := like_at (.tup [.bl (within x y o), .bl true]) rfl μ
  refine ifs_f (μ1 := μ) ?_ rfl
  generalize within x y o = B at *
  generalize oD o = O at *
  generalize x.D = X at *
  generalize y.D = Y at *
  walk_at "go"
  simp [h5, h18, h19, h14, e1, e2, e, andThen_some', wthD_some', onBl_bl, szle, Sl.d]
end K15

set_option Elab.async false
set_option linter.all false
set_option maxRecDepth 100000
set_option maxHeartbeats 4000000
/-! the six looks: between and midway -/
namespace K15
open FM
open L2 (atI)
open PySem (Str sizeLine)
local macro_rules | `(tactic| walk_at "go") => `(tactic| simp [FM.execs, FM.exec, FM.ev, FM.evs, FM.evo, FM.evc, FM.evi, FM.Sl.d, FM.isiD, FM.cmpD, FM.negD, FM.bindT, FM.andThen_some', FM.onBl_bl, FM.wthD_some', FM.eqD_int, FM.ix_tup, FM.ix_lst, FM.atI_0, FM.atI_1, FM.atI_2, FM.op_add, FM.op_sub, FM.op_subBl, FM.biD_abs, FM.szle, FM.pl_get, FM.pl_set, FM.isOw_pl, FM.noOw_pl, FM.lk_pl, FM.lks_pl, FM.itlk_pl, FM.setAll_pl, FM.setAllD])
theorem eqD_fD (a b : Int × Int) : eqD (fD a) (fD b) = some (decide (a = b)) := by
  have s : ∀ a : Int × Int, shOk (fD a) = true := fun a => (sh_nD 0 (a : Nm 0)).ok (by decide)
  have s0 : scalOk (fD a) (fD b) = false := rfl
  unfold eqD
  rw [s0, if_neg (by decide), s, s, Bool.and_self, if_pos rfl]
  congr 1
  by_cases h : a = b
  · subst h
    rw [decide_eq_true rfl]
    obtain ⟨a, a'⟩ := a
    simp [fD, D.py, pyAll, PySem.PyData.eqv, PySem.PyData.eqvAll]
  · rw [decide_eq_false h]
    cases e : PySem.PyData.eqv (fD a).py (fD b).py with
    | false => rfl
    | true => exact absurd (eqv_nD 0 (x := (a : Nm 0)) (y := (b : Nm 0)) e) h
def s6a : S := .asgT [21, 22] (.ife (.cmp .Lt (.var 13) (.int 0)) (.tup (.cons (.var 5) (.cons (.var 18) .nil))) (.tup (.cons (.var 18) (.cons (.var 5) .nil))))
def s6b : S := .asg 16 (.call 50 (.cons (.var 21) (.cons (.var 22) .nil)))
def s6c : S := .asg 20 (.call 30 (.cons (.var 5) (.cons (.var 18) (.cons (.tup .nil) .nil))))
def s6d : S := .par 23 24 (.call 50 (.cons .non (.cons (.var 21) .nil))) (.call 50 (.cons (.var 22) (.cons .non .nil)))
def s6e : S := .ifs (.and (.cmp .IsNot (.var 16) .non) (.or (.cmp .Lt (.call 53 (.cons (.var 20) (.cons (.var 23) .nil))) (.int 1)) (.cmp .Gt (.call 53 (.cons (.var 20) (.cons (.var 24) .nil))) (.op .Sub (.int 0) (.int 1))))) (.cons (.ret (.bl false)) .nil) .nil
def s6f : S := .ifs (.and (.cmp .Eq (.ix (.var 5) (.int 1)) (.tup (.cons (.int 0) (.cons (.int 1) .nil)))) (.and (.cmp .Eq (.ix (.var 18) (.int 1)) (.tup (.cons (.int 0) (.cons (.int 1) .nil)))) (.cmp .NotEq (.call 53 (.cons (.var 20) (.cons (.call 45 (.cons (.tup (.cons (.int 1) (.cons (.int 2) .nil))) (.cons (.call 43 (.cons (.ix (.var 5) (.int 0)) (.cons (.ix (.var 18) (.int 0)) .nil))) .nil))) .nil))) (.int 0)))) (.cons (.ret (.bl false)) .nil) .nil
theorem s6_eq : s_1_8_6 = .ifs (.cmp .NotEq (.var 13) (.int 0)) (.cons s6a (.cons s6b (.cons s6c (.cons s6d (.cons s6e (.cons s6f .nil)))))) .nil := rfl
theorem st6a (ds : List (Option D)) {x y : Tm} (h5 : ds[5]? = some (some x.D)) (h18 : ds[18]? = some (some y.D)) (h13 : ds[13]? = some (some (.int (cT x y)))) (μ : Cells) : exec (T 99) W s6a (pl ds) μ = some (.nx (pl ((ds.set 21 (some (if cT x y < 0 then x else y).D)).set 22 (some (if cT x y < 0 then y else x).D))) μ) := by
  by_cases c : cT x y < 0
  · rw [if_pos c, if_pos c]
    generalize cT x y = C at *
    generalize x.D = X at *
    generalize y.D = Y at *
    unfold s6a
    walk_at "go"
    simp [h5, h18, h13, c, andThen_some', wthD_some', onBl_bl, szle, Sl.d, setAll_pl, setAllD]
  · rw [if_neg c, if_neg c]
    generalize cT x y = C at *
    generalize x.D = X at *
    generalize y.D = Y at *
    unfold s6a
    walk_at "go"
    simp [h5, h18, h13, c, andThen_some', wthD_some', onBl_bl, szle, Sl.d, setAll_pl, setAllD]
theorem st6b (ds : List (Option D)) {f l : Tm} (hf : Ro f) (hl : Ro l) (h21 : ds[21]? = some (some f.D)) (h22 : ds[22]? = some (some l.D)) (μ : Cells) : ∃ d : D, exec (T 99) W s6b (pl ds) μ = some (.nx (pl (ds.set 16 (some d))) μ) := by
  obtain ⟨res, e, _⟩ := between_xy hf hl μ
  refine ⟨frR res, asg_pl ?_⟩
  generalize frR res = R at *
  generalize f.D = X at *
  generalize l.D = Y at *
  walk_at "go"
  simp [h21, h22, e, andThen_some', wthD_some', onBl_bl, szle, Sl.d]
theorem st6d (ds : List (Option D)) {f l : Tm} (h21 : ds[21]? = some (some f.D)) (h22 : ds[22]? = some (some l.D)) (μ : Cells) (lo hi : Int × Int) (e1 : T 99 50 [.non, f.D] μ = some (fD lo, μ)) (e2 : T 99 50 [l.D, .non] μ = some (fD hi, μ)) : exec (T 99) W s6d (pl ds) μ = some (.nx (pl ((ds.set 23 (some (fD lo))).set 24 (some (fD hi)))) μ) := by
  generalize fD lo = A at *
  generalize fD hi = B at *
  generalize f.D = X at *
  generalize l.D = Y at *
  unfold s6d
  walk_at "go"
  simp [h21, h22, e1, e2, andThen_some', wthD_some', onBl_bl, szle, Sl.d]
theorem st6c (ds : List (Option D)) {x y : Tm} (h5 : ds[5]? = some (some x.D)) (h18 : ds[18]? = some (some y.D)) (μ : Cells) (d : D) (e : T 99 30 [x.D, y.D, .tup []] μ = some (d, μ)) : exec (T 99) W s6c (pl ds) μ = some (.nx (pl (ds.set 20 (some d))) μ) := by
  refine asg_pl ?_
  generalize x.D = X at *
  generalize y.D = Y at *
  walk_at "go"
  simp [h5, h18, e, andThen_some', wthD_some', onBl_bl, szle, Sl.d]
theorem st6e (ds : List (Option D)) (r d a b : D) (h16 : ds[16]? = some (some r)) (h20 : ds[20]? = some (some d)) (h23 : ds[23]? = some (some a)) (h24 : ds[24]? = some (some b)) (μ : Cells) (e1 : T 99 53 [d, a] μ = some (.int 1, μ)) (e2 : T 99 53 [d, b] μ = some (.int (-1), μ)) : exec (T 99) W s6e (pl ds) μ = some (.nx (pl ds) μ) := by
  refine ifs_f (μ1 := μ) ?_ rfl
  cases n : isNon r with
  | true =>
    walk_at "go"
    simp [h16, n, andThen_some', wthD_some', onBl_bl, szle, Sl.d]
  | false =>
    walk_at "go"
    simp [h16, h20, h23, h24, e1, e2, n, andThen_some', wthD_some', onBl_bl, szle, Sl.d, op_sub]
theorem st6f (ds : List (Option D)) {x y : Tm} (hx : Ro x) (hy : Ro y) (d : D) (h5 : ds[5]? = some (some x.D)) (h18 : ds[18]? = some (some y.D)) (h20 : ds[20]? = some (some d)) (μ : Cells) (e : x.b = (0, 1) → y.b = (0, 1) → T 99 53 [d, fD (mulF (1, 2) (addF x.a y.a))] μ = some (.int 0, μ)) : exec (T 99) W s6f (pl ds) μ = some (.nx (pl ds) μ) := by
  have a1 := (lawF 96).add x.a y.a μ ((numR_fq hx.t.a (by decide)).mono (by decide)) ((numR_fq hy.t.a (by decide)).mono (by decide))
  have a2 := (lawF 96).mul (1, 2) (addF x.a y.a) μ (Fq.mono (j := 2) ⟨(show (1 : Nat) < 2 ^ 2 by decide), (show (2 : Nat) < 2 ^ 2 by decide), by decide, by decide⟩ (by decide)) (((numR_fq hx.t.a (by decide)).add (numR_fq hy.t.a (by decide))).mono (by decide))
  have a1' : T 99 43 [fD x.a, fD y.a] μ = some (fD (addF x.a y.a), μ) := a1
  have a2' : T 99 45 [.tup [.int 1, .int 2], fD (addF x.a y.a)] μ = some (fD (mulF (1, 2) (addF x.a y.a)), μ) := a2
  have i1 : ixD μ x.D (.int 1) = some (fD x.b) := rfl
  have i2 : ixD μ y.D (.int 1) = some (fD y.b) := rfl
  have i3 : ixD μ x.D (.int 0) = some (fD x.a) := rfl
  have i4 : ixD μ y.D (.int 0) = some (fD y.a) := rfl
  have q1 : eqD (fD x.b) (.tup [.int 0, .int 1]) = some (decide (x.b = (0, 1))) := eqD_fD x.b (0, 1)
  have q2 : eqD (fD y.b) (.tup [.int 0, .int 1]) = some (decide (y.b = (0, 1))) := eqD_fD y.b (0, 1)
  refine ifs_f (μ1 := μ) ?_ rfl
  generalize fD x.a = A at *
  generalize fD y.a = B at *
  generalize fD x.b = P at *
  generalize fD y.b = Q at *
  generalize fD (addF x.a y.a) = S1 at *
  generalize fD (mulF (1, 2) (addF x.a y.a)) = S2 at *
  generalize x.D = X at *
  generalize y.D = Y at *
  by_cases z1 : x.b = (0, 1)
  · by_cases z2 : y.b = (0, 1)
    · have e' := e z1 z2
      walk_at "go"
      simp [h5, h18, h20, i1, i2, i3, i4, q1, q2, z1, z2, a1', a2', e', andThen_some', wthD_some', onBl_bl, szle, Sl.d, eqD_int]
    · walk_at "go"
      simp [h5, h18, h20, i1, i2, q1, q2, z1, z2, andThen_some', wthD_some', onBl_bl, szle, Sl.d]
  · walk_at "go"
    simp [h5, h18, h20, i1, i2, q1, q2, z1, andThen_some', wthD_some', onBl_bl, szle, Sl.d]
end K15

set_option Elab.async false
set_option linter.all false
set_option maxRecDepth 100000
set_option maxHeartbeats 4000000
/-! the six looks, whole -/
namespace K15
open FM
open L2 (atI)
open PySem (Str sizeLine)
local macro_rules | `(tactic| walk_at "go") => `(tactic| simp [FM.execs, FM.exec, FM.ev, FM.evs, FM.evo, FM.evc, FM.evi, FM.Sl.d, FM.isiD, FM.cmpD, FM.negD, FM.bindT, FM.andThen_some', FM.onBl_bl, FM.wthD_some', FM.eqD_int, FM.ix_tup, FM.ix_lst, FM.atI_0, FM.atI_1, FM.atI_2, FM.op_add, FM.op_sub, FM.op_subBl, FM.biD_abs, FM.szle, FM.pl_get, FM.pl_set, FM.isOw_pl, FM.noOw_pl, FM.lk_pl, FM.lks_pl, FM.itlk_pl, FM.setAll_pl, FM.setAllD])
local macro_rules | `(tactic| walk_at "gt") => `(tactic| ((repeat rw [List.getElem?_set_ne (by decide)]); first | assumption | exact List.getElem?_set_self (by (try simp only [List.length_set]); omega)))
theorem st86 {rows : List Tm} {h : Int × Int} (ds : List (Option D)) (K : Kq ds rows h) {x y : Tm} (hx : Ro x) (hy : Ro y) (h5 : ds[5]? = some (some x.D)) (h18 : ds[18]? = some (some y.D)) (h13 : ds[13]? = some (some (.int (cT x y)))) (μ : Cells) : ∃ ds' : List (Option D), Kq ds' rows h ∧ exec (T 99) W s_1_8_6 (pl ds) μ = some (.nx (pl ds') μ) := by
  have len := K.len
  rw [s6_eq]
  have c : ev (T 99) (.cmp .NotEq (.var 13) (.int 0)) (pl ds) μ = some (.bl (!decide (cT x y = 0)), μ) := by
    refine cmp_of (x := .int (cT x y)) (y := .int 0) (μ1 := μ) ?_ rfl (ne_int _ _)
    unfold ev
    rw [pl_get, h13]
    rfl
  by_cases z : cT x y = 0
  · rw [decide_eq_true z] at c
    exact ⟨ds, K, ifs_f c rfl⟩
  · rw [decide_eq_false z] at c
    have an := cT_anti hx.ok hy.ok
    have fl : ∃ f l : Tm, f = (if cT x y < 0 then x else y) ∧ l = (if cT x y < 0 then y else x) ∧ Ro f ∧ Ro l ∧ cT f l < 0 ∧ (∀ p : Tm, p.Ok → cT p f < 0 → cT p x < 0 ∧ cT p y < 0) ∧ (∀ p : Tm, p.Ok → cT l p < 0 → cT x p < 0 ∧ cT y p < 0) := by
      by_cases n : cT x y < 0
      · rw [if_pos n, if_pos n]
        exact ⟨x, y, rfl, rfl, hx, hy, n, fun p hp q => ⟨q, (cT_trans hp hx.ok hy.ok).2.1 q (by omega)⟩, fun p hp q => ⟨(cT_trans hx.ok hy.ok hp).2.2.1 (by omega) q, q⟩⟩
      · rw [if_neg n, if_neg n]
        have m : cT y x < 0 := by omega
        exact ⟨y, x, rfl, rfl, hy, hx, m, fun p hp q => ⟨(cT_trans hp hy.ok hx.ok).2.1 q (by omega), q⟩, fun p hp q => ⟨q, (cT_trans hy.ok hx.ok hp).2.2.1 (by omega) q⟩⟩
    obtain ⟨f, l, f1, l1, hf, hl, q1, q2, q3⟩ := fl
    obtain ⟨lo, lo1, lo2, lo3⟩ := below hf μ
    obtain ⟨hi, hi1, hi2, hi3⟩ := above hl μ
    obtain ⟨d, d1, d2, d3, d4⟩ := midway_told hx hy μ
    have t1 := q2 (plT lo) (plT_ok lo2.pd) lo3
    have t2 := q3 (plT hi) (plT_ok hi2.pd) hi3
    have e1 := d2 lo (lo2.mono (by decide) (by decide)) t1.1 t1.2
    have e2 := d3 hi (hi2.mono (by decide) (by decide)) t2.1 t2.2
    have s1 := st6a ds h5 h18 h13 μ
    rw [← f1, ← l1] at s1
    have K1 := (K.set (i := 21) (some f.D) (by decide) (by decide) (by decide)).set (i := 22) (some l.D) (by decide) (by decide) (by decide)
    obtain ⟨r, s2⟩ := st6b ((ds.set 21 (some f.D)).set 22 (some l.D)) hf hl (by walk_at "gt") (by walk_at "gt") μ
    have K2 := K1.set (i := 16) (some r) (by decide) (by decide) (by decide)
    have s3 := st6c (((ds.set 21 (some f.D)).set 22 (some l.D)).set 16 (some r)) (x := x) (y := y) (by walk_at "gt") (by walk_at "gt") μ d d1
    have K3 := K2.set (i := 20) (some d) (by decide) (by decide) (by decide)
    have s4 := st6d ((((ds.set 21 (some f.D)).set 22 (some l.D)).set 16 (some r)).set 20 (some d)) (f := f) (l := l) (by walk_at "gt") (by walk_at "gt") μ lo hi lo1 hi1
    have K4 := (K3.set (i := 23) (some (fD lo)) (by decide) (by decide) (by decide)).set (i := 24) (some (fD hi)) (by decide) (by decide) (by decide)
    have s5 := st6e ((((((ds.set 21 (some f.D)).set 22 (some l.D)).set 16 (some r)).set 20 (some d)).set 23 (some (fD lo))).set 24 (some (fD hi))) r d (fD lo) (fD hi) (by walk_at "gt") (by walk_at "gt") (by walk_at "gt") (by walk_at "gt") μ e1 e2
    have s6 := st6f ((((((ds.set 21 (some f.D)).set 22 (some l.D)).set 16 (some r)).set 20 (some d)).set 23 (some (fD lo))).set 24 (some (fD hi))) hx hy d (by walk_at "gt") (by walk_at "gt") (by walk_at "gt") μ d4
    refine ⟨_, K4, ifs_t c ?_⟩
    exact seq_nx s1 (seq_nx s2 (seq_nx s3 (seq_nx s4 (seq_nx s5 (seq_nx s6 rfl)))))
theorem look8 {rows : List Tm} (hr : Rows rows) (l1 : 2 ≤ rows.length) (l2 : rows.length ≤ 10) {h : Int × Int} (hh : Hi h) (is : List Int) (ds : List (Option D)) (K : Kq ds rows h) (k : Int) (hk : 0 ≤ k) : ∃ (ds' : List (Option D)) (k' : Int), Kq ds' rows h ∧ 0 ≤ k' ∧ execs (T 99) W s_1_8b (pl ds) [cw is k] = some (.nx (pl ds') [cw is k']) := by
  have len := K.len
  obtain ⟨x, y, o, k1, hx, hy, ho, k10, s0⟩ := st80 hr l1 l2 is ds K.h1 K.h3 k hk
  have K1 := ((K.set (i := 5) (some x.D) (by decide) (by decide) (by decide)).set (i := 18) (some y.D) (by decide) (by decide) (by decide)).set (i := 19) (some (oD o)) (by decide) (by decide) (by decide)
  have g5 : (((ds.set 5 (some x.D)).set 18 (some y.D)).set 19 (some (oD o)))[5]? = some (some x.D) := by walk_at "gt"
  have g18 : (((ds.set 5 (some x.D)).set 18 (some y.D)).set 19 (some (oD o)))[18]? = some (some y.D) := by walk_at "gt"
  have g19 : (((ds.set 5 (some x.D)).set 18 (some y.D)).set 19 (some (oD o)))[19]? = some (some (oD o)) := by walk_at "gt"
  generalize ((ds.set 5 (some x.D)).set 18 (some y.D)).set 19 (some (oD o)) = d1 at *
  clear len K
  have len := K1.len
  have s1 := st81 d1 hx hy g5 g18 [cw is k1]
  have K2 := K1.set (i := 13) (some (.int (cT x y))) (by decide) (by decide) (by decide)
  have s2 := st82 (d1.set 13 (some (.int (cT x y)))) hx hy hh K2.h4 (by walk_at "gt") (by walk_at "gt") [cw is k1]
  have K3 := K2.set (i := 10) (some (.tup [.int (cT x y), .bl (decide (cT x y = 0)), .int (cT x y)])) (by decide) (by decide) (by decide)
  have s3 := st83 ((d1.set 13 (some (.int (cT x y)))).set 10 (some (.tup [.int (cT x y), .bl (decide (cT x y = 0)), .int (cT x y)]))) (cT x y) (by walk_at "gt") (by walk_at "gt") [cw is k1]
  have s4 := st84 ((d1.set 13 (some (.int (cT x y)))).set 10 (some (.tup [.int (cT x y), .bl (decide (cT x y = 0)), .int (cT x y)]))) hx hy ho (by walk_at "gt") (by walk_at "gt") (by walk_at "gt") [cw is k1]
  have K4 := K3.set (i := 14) (some (.bl (within x y o))) (by decide) (by decide) (by decide)
  have s5 := st85 (((d1.set 13 (some (.int (cT x y)))).set 10 (some (.tup [.int (cT x y), .bl (decide (cT x y = 0)), .int (cT x y)]))).set 14 (some (.bl (within x y o)))) hx hy ho (by walk_at "gt") (by walk_at "gt") (by walk_at "gt") (by walk_at "gt") [cw is k1]
  obtain ⟨ds', K', s6⟩ := st86 (((d1.set 13 (some (.int (cT x y)))).set 10 (some (.tup [.int (cT x y), .bl (decide (cT x y = 0)), .int (cT x y)]))).set 14 (some (.bl (within x y o)))) K4 hx hy (by walk_at "gt") (by walk_at "gt") (by walk_at "gt") [cw is k1]
  refine ⟨ds', k1, K', k10, ?_⟩
  exact seq_nx s0 (seq_nx s1 (seq_nx s2 (seq_nx s3 (seq_nx s4 (seq_nx s5 (seq_nx s6 rfl))))))
theorem st8 {rows : List Tm} (hr : Rows rows) (l1 : 2 ≤ rows.length) (l2 : rows.length ≤ 10) {h : Int × Int} (hh : Hi h) (is : List Int) (ds : List (Option D)) (K : Kq ds rows h) (k : Int) (hk : 0 ≤ k) : ∃ (ds' : List (Option D)) (k' : Int), Kq ds' rows h ∧ 0 ≤ k' ∧ exec (T 99) W s_1_8 (pl ds) [cw is k] = some (.nx (pl ds') [cw is k']) := by
  obtain ⟨ρ', μ', e1, ds', k', K', k0, rfl, rfl⟩ := forF_inv (fun _ ρ μ => ∃ (ds : List (Option D)) (k : Int), Kq ds rows h ∧ 0 ≤ k ∧ ρ = pl ds ∧ μ = [cw is k]) (tg := .nm 6) (b := fun ρ' μ' => execs (T 99) W s_1_8b ρ' μ') (fun y ys ρ μ hh' => by
    obtain ⟨ds1, k1, K1, k10, rfl, rfl⟩ := hh'
    obtain ⟨ds2, k2, K2, k20, e⟩ := look8 hr l1 l2 hh is (ds1.set 6 (some y)) (K1.set (i := 6) (some y) (by decide) (by decide) (by decide)) k1 k10
    refine ⟨pl (ds1.set 6 (some y)), pl ds2, [cw is k2], ?_, e, ds2, k2, K2, k20, rfl, rfl⟩
    unfold bindT
    simp only [pl_set]) (rngD 0 6) (pl ds) [cw is k] ⟨ds, k, K, hk, rfl, rfl⟩
  exact ⟨ds', k', K', k0, for_of (evi_rng (n := 6) rfl (by decide)) (itlk_pl _ _) e1⟩
end K15

set_option Elab.async false
set_option linter.all false
set_option maxRecDepth 100000
set_option maxHeartbeats 4000000
/-! plain times, times in a higher tower -/
namespace K15
open FM
open L2 (atI)
open PySem (Str sizeLine)
local macro_rules | `(tactic| walk_at "go") => `(tactic| simp [FM.execs, FM.exec, FM.ev, FM.evs, FM.evo, FM.evc, FM.evi, FM.Sl.d, FM.isiD, FM.cmpD, FM.negD, FM.bindT, FM.andThen_some', FM.onBl_bl, FM.wthD_some', FM.eqD_int, FM.ix_tup, FM.ix_lst, FM.atI_0, FM.atI_1, FM.atI_2, FM.op_add, FM.op_sub, FM.op_subBl, FM.biD_abs, FM.szle, FM.pl_get, FM.pl_set, FM.isOw_pl, FM.noOw_pl, FM.lk_pl, FM.lks_pl, FM.itlk_pl, FM.setAll_pl, FM.setAllD])
theorem plain9 (d : D) (μ : Cells) : T 99 24 [d, .tup []] μ = some (.tup [d, fD (0, 1), fD (0, 1)], μ) := (call_at (d := d_plain_time) rfl _ _).trans (plain_time_ok (nought0 91 μ))
theorem number0 (d : D) (μ : Cells) : T 98 13 [d, .tup []] μ = some (d, μ) := number_c tf2 (n := 0) (by decide) (m := 92) (by decide) d [] rfl μ
theorem time_of9 (d r1 r2 : D) (μ : Cells) : T 99 35 [d, .tup [.tup [], r1, r2]] μ = some (.tup [d, fD (0, 1), fD (0, 1)], μ) := by
  refine (call_at (d := d_time_of) rfl _ _).trans (run_pl rfl (Nat.le_of_ble_eq_true rfl) (seq_rt ?_))
  have e1 := number0 d μ
  have e2 := plain0 d μ
  generalize fD (0, 1) = Z at *
  walk_at "go"
  simp [e1, e2, andThen_some', wthD_some', szle, Sl.d]
theorem times_in9 {rows : List Tm} (hl : rows.length ≤ 10) (h : Int × Int) (r1 r2 : D) (μ : Cells) : T 99 36 [.tup (rows.map Tm.D), .tup [.tup [], r1, r2], .tup [fD h]] μ = some (.tup (rows.map upD), μ) := by
  refine (call_at (d := d_times_in) rfl _ _).trans (run_pl rfl (Nat.le_of_ble_eq_true rfl) (seq_rt (ret_of (lk_pl _ _) ?_)))
  have lc : ev (T 98) (.lc (.call 26 (.cons (.var 3) (.cons (.ix (.var 1) (.int 0)) (.cons (.var 2) .nil)))) (.nm 3) (.seq (.var 0)) .none) (pl [some (.tup (rows.map Tm.D)), some (.tup [.tup [], r1, r2]), some (.tup [fD h]), none]) μ = some (.lst ((rows.map Tm.D).map fun d => upD (unT d)), μ) := by
    refine ev_lc (xs := rows.map Tm.D) (μ1 := μ) rfl (by rw [List.length_map]; omega) (lc_map (fun d => upD (unT d)) _ fun d hd => ?_)
    obtain ⟨x, hx, rfl⟩ := List.mem_map.mp hd
    rw [unT_D]
    have e : T 98 26 [x.D, .tup [], .tup [fD h]] μ = some (upD x, μ) := raised_c tf3 (n := 0) (n' := 1) (by decide) (by decide) [] [fD h] rfl rfl (m := 92) (by decide) (fD x.a) (fD x.b) (fD x.u) μ
    show ev (T 98) _ (pl [some (.tup (rows.map Tm.D)), some (.tup [.tup [], r1, r2]), some (.tup [fD h]), some x.D]) μ = _
    generalize upD x = Y at *
    generalize x.D = X at *
    generalize fD h = H at *
    walk_at "go"
    simp [e, andThen_some', wthD_some', szle, Sl.d]
  have mm : (rows.map Tm.D).map (fun d => upD (unT d)) = rows.map upD := by
    rw [List.map_map]
    rfl
  rw [mm] at lc
  show ev (T 98) _ (pl [some (.tup (rows.map Tm.D)), some (.tup [.tup [], r1, r2]), some (.tup [fD h]), none]) μ = _
  unfold ev
  unfold evs
  rw [lc]
  rfl
def z3 : D := .tup [fD (0, 1), fD (0, 1), fD (0, 1)]
def o3 : D := .tup [fD (1, 1), fD (1, 1), fD (1, 1)]
theorem mul3 (d : D) : opD .Mult (.tup [d]) (.int 3) = some (.tup [d, d, d]) := rfl
def rayD : D := .tup [.tup [], z3, o3]
theorem st9 (is : List Int) (ds : List (Option D)) (h1 : ds[1]? = some (some (.cell 0))) (k : Int) (hk : 0 ≤ k) : ∃ (f : Int × Int) (k' : Int), 0 ≤ k' ∧ exec (T 99) W s_1_9 (pl ds) [cw is k] = some (.nx (pl (ds.set 7 (some (fD f)))) [cw is k']) := by
  obtain ⟨f, k1, e1, e2, e3⟩ := num_at 96 is k 9 hk (by decide) (by decide)
  have e3' : T 99 51 [.cell 0, .int 9] [cw is k] = some (fD f, [cw is k1]) := e3
  refine ⟨f, k1, e2, asg_pl ?_⟩
  generalize fD f = Z at *
  walk_at "go"
  simp [h1, e3', andThen_some', Sl.d]
theorem st10 (ds : List (Option D)) (f : Int × Int) (h7 : ds[7]? = some (some (fD f))) (μ : Cells) : exec (T 99) W s_1_10 (pl ds) μ = some (.nx (pl ds) μ) := by
  have e1 := plain9 (fD f) μ
  have e2 := time_of9 (fD f) z3 o3 μ
  have e3 : T 99 49 [fD f] μ = some (.tup [fD f, fD (0, 1), fD (0, 1)], μ) := law_plain f μ
  have e4 := like_at (.tup [.tup [fD f, fD (0, 1), fD (0, 1)], .tup [fD f, fD (0, 1), fD (0, 1)]]) rfl μ
  have m1 : opD .Mult (.tup [.tup [.int 0, .int 1]]) (.int 3) = some z3 := rfl
  have m2 : opD .Mult (.tup [.tup [.int 1, .int 1]]) (.int 3) = some o3 := rfl
  refine ifs_f (μ1 := μ) ?_ rfl
  generalize D.tup [fD f, fD (0, 1), fD (0, 1)] = P at *
  generalize fD f = Z at *
  generalize z3 = Z3 at *
  generalize o3 = O3 at *
  walk_at "go"
  simp [h7, m1, m2, e1, e2, e3, e4, andThen_some', wthD_some', onBl_bl, szle, Sl.d]
theorem st11 (ds : List (Option D)) (μ : Cells) : exec (T 99) W s_1_11 (pl ds) μ = some (.nx (pl (ds.set 8 (some rayD))) μ) := by
  have m1 : opD .Mult (.tup [.tup [.int 0, .int 1]]) (.int 3) = some z3 := rfl
  have m2 : opD .Mult (.tup [.tup [.int 1, .int 1]]) (.int 3) = some o3 := rfl
  refine asg_pl ?_
  unfold rayD
  generalize z3 = Z3 at *
  generalize o3 = O3 at *
  walk_at "go"
  simp [m1, m2, andThen_some', wthD_some', onBl_bl, szle, Sl.d]
theorem st12 {rows : List Tm} (hl : rows.length ≤ 10) {h : Int × Int} (ds : List (Option D)) (hd : ds.length = 28) (h3 : ds[3]? = some (some (.lst (rows.map Tm.D)))) (h4 : ds[4]? = some (some (.tup [fD h]))) (h8 : ds[8]? = some (some rayD)) (μ : Cells) : exec (T 99) W s_1_12 (pl ds) μ = some (.nx (pl ds) μ) := by
  have e1 : T 99 36 [.tup (rows.map Tm.D), rayD, .tup [fD h]] μ = some (.tup (rows.map upD), μ) := times_in9 hl h z3 o3 μ
  have dp : dep 50 (.tup (rows.map upD)) = true := by
    unfold dep
    rw [Bool.and_eq_true, decide_eq_true_eq, List.all_eq_true]
    refine ⟨by rw [List.length_map]; omega, fun d hd => ?_⟩
    obtain ⟨x, _, rfl⟩ := List.mem_map.mp hd
    rfl
  have e2 := like_at (.tup (rows.map upD)) dp μ
  have a : ev (T 99) (.bi .tuple (.cons (.call 36 (.cons (.bi .tuple (.cons (.var 3) .nil)) (.cons (.var 8) (.cons (.var 4) .nil)))) .nil)) (pl ds) μ = some (.tup (rows.map upD), μ) := by
    have b : biD μ .tuple [.lst (rows.map Tm.D)] = some (.tup (rows.map Tm.D)) := rfl
    have b' : biD μ .tuple [.tup (rows.map upD)] = some (.tup (rows.map upD)) := rfl
    generalize rows.map upD = U at *
    generalize rows.map Tm.D = R at *
    generalize rayD = Y at *
    generalize fD h = H at *
    walk_at "go"
    simp [h3, h4, h8, b, b', e1, andThen_some', wthD_some', onBl_bl, szle, Sl.d]
  have lc : ev (T 99) (.lc (.bi .tuple (.cons (.lc (.tup (.cons (.var 27) (.cons (.tup (.cons (.int 0) (.cons (.int 1) .nil))) .nil))) (.nm 27) (.seq (.var 5)) .none) .nil)) (.nm 5) (.seq (.var 3)) .none) (pl ds) μ = some (.lst ((rows.map Tm.D).map fun d => upD (unT d)), μ) := by
    have v3 : evi (T 99) (.seq (.var 3)) (pl ds) μ = some (rows.map Tm.D, μ) := by
      unfold evi
      unfold ev
      rw [pl_get, h3]
      rfl
    refine ev_lc v3 (by rw [List.length_map]; omega) (lc_map (fun d => upD (unT d)) _ fun d hdm => ?_)
    obtain ⟨x, hx, rfl⟩ := List.mem_map.mp hdm
    rw [unT_D]
    have g5 : (ds.set 5 (some x.D))[5]? = some (some x.D) := List.getElem?_set_self (by omega)
    have gl : (ds.set 5 (some x.D)).length = 28 := by rw [List.length_set]; exact hd
    generalize ds.set 5 (some x.D) = es at *
    have lc2 : ev (T 99) (.lc (.tup (.cons (.var 27) (.cons (.tup (.cons (.int 0) (.cons (.int 1) .nil))) .nil))) (.nm 27) (.seq (.var 5)) .none) (pl es) μ = some (.lst [.tup [fD x.a, fD (0, 1)], .tup [fD x.b, fD (0, 1)], .tup [fD x.u, fD (0, 1)]], μ) := by
      have v5 : evi (T 99) (.seq (.var 5)) (pl es) μ = some ([fD x.a, fD x.b, fD x.u], μ) := by
        unfold evi
        unfold ev
        rw [pl_get, g5]
        rfl
      refine ev_lc v5 (show (3 : Nat) ≤ 16777216 by decide) (lc_map (fun d => .tup [d, fD (0, 1)]) [fD x.a, fD x.b, fD x.u] fun d _ => ?_)
      have g : (es.set 27 (some d))[27]? = some (some d) := List.getElem?_set_self (by omega)
      walk_at "go"
      rw [List.getElem?_set_self (by omega)]
      simp [andThen_some', szle, Sl.d]
    unfold ev
    unfold evs
    rw [lc2]
    rfl
  have mm : (rows.map Tm.D).map (fun d => upD (unT d)) = rows.map upD := by
    rw [List.map_map]
    rfl
  rw [mm] at lc
  have b : ev (T 99) (.bi .tuple (.cons (.lc (.bi .tuple (.cons (.lc (.tup (.cons (.var 27) (.cons (.tup (.cons (.int 0) (.cons (.int 1) .nil))) .nil))) (.nm 27) (.seq (.var 5)) .none) .nil)) (.nm 5) (.seq (.var 3)) .none) .nil)) (pl ds) μ = some (.tup (rows.map upD), μ) := by
    unfold ev
    unfold evs
    rw [lc]
    rfl
  unfold s_1_12
  refine ifs_f (μ1 := μ) ?_ rfl
  unfold ev
  have c : ev (T 99) (.call 40 (.cons (.bi .tuple (.cons (.call 36 (.cons (.bi .tuple (.cons (.var 3) .nil)) (.cons (.var 8) (.cons (.var 4) .nil)))) .nil)) (.cons (.bi .tuple (.cons (.lc (.bi .tuple (.cons (.lc (.tup (.cons (.var 27) (.cons (.tup (.cons (.int 0) (.cons (.int 1) .nil))) .nil))) (.nm 27) (.seq (.var 5)) .none) .nil)) (.nm 5) (.seq (.var 3)) .none) .nil)) .nil))) (pl ds) μ = some (.bl true, μ) := by
    unfold ev
    rw [lks_pl, if_neg (by decide)]
    unfold evs
    rw [a]
    simp only [andThen_some']
    unfold evs
    rw [b]
    simp only [andThen_some']
    unfold evs
    simp only [andThen_some']
    exact e2
  rw [c]
  rfl
end K15

set_option Elab.async false
set_option linter.all false
set_option maxRecDepth 100000
set_option maxHeartbeats 4000000
/-! the law, whole -/
namespace K15
open FM
open L2 (atI)
open PySem (Str sizeLine)
structure K0 (ds : List (Option D)) : Prop where
  len : ds.length = 28
  h1 : ds[1]? = some (some (.cell 0))
theorem K0.set {ds : List (Option D)} (K : K0 ds) {i : Nat} (o : Option D) (n1 : i ≠ 1) : K0 (ds.set i o) := ⟨by rw [List.length_set]; exact K.len, by rw [List.getElem?_set_ne n1]; exact K.h1⟩
theorem Kq.z {ds : List (Option D)} {rows : List Tm} {h : Int × Int} (K : Kq ds rows h) : K0 ds := ⟨K.len, K.h1⟩
theorem turn (is : List Int) (ds : List (Option D)) (K : K0 ds) (k : Int) (hk : 0 ≤ k) : ∃ (ds' : List (Option D)) (k' : Int), K0 ds' ∧ 0 ≤ k' ∧ execs (T 99) W s_1b (pl ds) [cw is k] = some (.nx (pl ds') [cw is k']) := by
  have len := K.len
  obtain ⟨rows0, k1, a1, a2, a3, a4, e0⟩ := st0 is ds K.h1 k hk
  have K1 := K.set (i := 3) (some (.lst (rows0.map Tm.D))) (by decide)
  obtain ⟨rows, k2, b1, b2, b3, b4, e1⟩ := st1 is (ds.set 3 (some (.lst (rows0.map Tm.D)))) rows0 a1 a2 a3 K1.h1 (List.getElem?_set_self (by omega)) k1 a4
  have K2 := K1.set (i := 3) (some (.lst (rows.map Tm.D))) (by decide)
  obtain ⟨h, k3, hh, c2, e2⟩ := st2 is ((ds.set 3 (some (.lst (rows0.map Tm.D)))).set 3 (some (.lst (rows.map Tm.D)))) K2.h1 k2 b4
  have K3 := K2.set (i := 4) (some (.tup [fD h])) (by decide)
  have Q3 : Kq (((ds.set 3 (some (.lst (rows0.map Tm.D)))).set 3 (some (.lst (rows.map Tm.D)))).set 4 (some (.tup [fD h]))) rows h := ⟨K3.len, K3.h1, by rw [List.getElem?_set_ne (by decide)]; exact List.getElem?_set_self (by rw [List.length_set]; omega), List.getElem?_set_self (by rw [List.length_set, List.length_set]; omega)⟩
  obtain ⟨d4, k4, Q4, k40, e3⟩ := st3 b1 hh is _ Q3 k3 c2
  have e4 := st4 b1 (by omega) d4 Q4.h3 [cw is k4]
  have Q5 := (Q4.set (i := 11) (some (.tup ((srt rows).map Tm.D))) (by decide) (by decide) (by decide)).set (i := 12) (some (.lst [])) (by decide) (by decide) (by decide)
  have l4 := Q4.len
  obtain ⟨d6, Q6, q11, q12, e5⟩ := st5 b1 (by omega) _ Q5 (.tup ((srt rows).map Tm.D)) (by rw [List.getElem?_set_ne (by decide)]; exact List.getElem?_set_self (by omega)) (List.getElem?_set_self (by rw [List.length_set]; omega)) [cw is k4]
  have e6 := st6 b1 b2 (by omega) d6 (by rw [Q6.len]; decide) Q6.h3 q11 q12 [cw is k4]
  have e7 := st7 b1 b2 d6 Q6.h3 q11 [cw is k4]
  obtain ⟨d8, k8, Q8, k80, e8⟩ := st8 b1 b2 (by omega) hh is d6 Q6 k4 k40
  obtain ⟨f, k9, k90, e9⟩ := st9 is d8 Q8.h1 k8 k80
  have Q9 := Q8.set (i := 7) (some (fD f)) (by decide) (by decide) (by decide)
  have e10 := st10 (d8.set 7 (some (fD f))) f (List.getElem?_set_self (by rw [Q8.len]; decide)) [cw is k9]
  have e11 := st11 (d8.set 7 (some (fD f))) [cw is k9]
  have Q11 := Q9.set (i := 8) (some rayD) (by decide) (by decide) (by decide)
  have e12 := st12 (rows := rows) (by omega) ((d8.set 7 (some (fD f))).set 8 (some rayD)) Q11.len Q11.h3 Q11.h4 (List.getElem?_set_self (by rw [Q9.len]; decide)) [cw is k9]
  exact ⟨_, k9, Q11.z, k90, seq_nx e0 (seq_nx e1 (seq_nx e2 (seq_nx e3 (seq_nx e4 (seq_nx e5 (seq_nx e6 (seq_nx e7 (seq_nx e8 (seq_nx e9 (seq_nx e10 (seq_nx e11 (seq_nx e12 rfl))))))))))))⟩
theorem loop (is : List Int) (ds : List (Option D)) (K : K0 ds) : ∃ (ds' : List (Option D)) (k' : Int), exec (T 99) W s_1 (pl ds) [cw is 0] = some (.nx (pl ds') [cw is k']) := by
  obtain ⟨ρ', μ', e1, ds', k', K', k0, rfl, rfl⟩ := forF_inv (fun _ ρ μ => ∃ (ds : List (Option D)) (k : Int), K0 ds ∧ 0 ≤ k ∧ ρ = pl ds ∧ μ = [cw is k]) (tg := .nm 2) (b := fun ρ' μ' => execs (T 99) W s_1b ρ' μ') (fun y ys ρ μ hh' => by
    obtain ⟨ds1, k1, K1, k10, rfl, rfl⟩ := hh'
    obtain ⟨ds2, k2, K2, k20, e⟩ := turn is (ds1.set 2 (some y)) (K1.set (i := 2) (some y) (by decide)) k1 k10
    refine ⟨pl (ds1.set 2 (some y)), pl ds2, [cw is k2], ?_, e, ds2, k2, K2, k20, rfl, rfl⟩
    unfold bindT
    simp only [pl_set]) (rngD 0 4) (pl ds) [cw is 0] ⟨ds, 0, K, Int.le_refl _, rfl, rfl⟩
  exact ⟨ds', k', for_of (evi_rng (n := 4) rfl (by decide)) (itlk_pl _ _) e1⟩
end K15

set_option Elab.async false
set_option linter.all false
set_option maxRecDepth 100000
set_option maxHeartbeats 4000000
namespace K15
open FM
open L2 (atI)
open PySem (Str sizeLine)
def E0 (s : D) : List (Option D) := some s :: List.replicate 27 none
theorem start (is : List Int) (s : D) (hd : T 99 37 [s, .int 500] [] = some (.lst (is.map D.int), [])) : exec (T 99) W s_0 (pl (E0 s)) [] = some (.nx (pl ((E0 s).set 1 (some (.cell 0)))) [cw is 0]) := by
  have g : (E0 s)[0]? = some (some s) := rfl
  generalize E0 s = es at *
  refine asg_pl ?_
  generalize hq : is.map D.int = q at *
  unfold ev
  rw [lks_pl]
  simp [FM.ev, FM.evs, pl_get, g, hd, andThen_some', lks_pl, Sl.d]
  exact ⟨by decide, by subst hq; rfl⟩
theorem body_ok (is : List Int) (s : D) (hd : T 99 37 [s, .int 500] [] = some (.lst (is.map D.int), [])) : ∃ k' : Int, execs (T 99) W sb (pl (E0 s)) [] = some (.rt (.bl true) [cw is k']) := by
  have e0 := start is s hd
  have K : K0 ((E0 s).set 1 (some (.cell 0))) := ⟨rfl, rfl⟩
  generalize (E0 s).set 1 (some (.cell 0)) = es at *
  obtain ⟨ds', k', e1⟩ := loop is es K
  exact ⟨k', seq_nx e0 (seq_nx e1 (seq_rt (ret_of rfl rfl)))⟩
theorem run_law (is : List Int) (s : D) (hd : T 99 37 [s, .int 500] [] = some (.lst (is.map D.int), [])) : ∃ k' : Int, runFn (T 99) W d_law.fn [s] [] = some (.bl true, [cw is k']) := by
  obtain ⟨k', e⟩ := body_ok is s hd
  rw [← law_pieces] at e
  exact ⟨k', run_pl rfl (Nat.le_of_ble_eq_true rfl) e⟩
theorem law_ok (ns : List Int) (h : ns.length ≤ 63) : ∃ μ, call (tabOf defs) W 100 lawNo [.lst (ns.map D.int)] [] = some (.bl true, μ) := by
  obtain ⟨is, hd⟩ := draws_at 98 ns h []
  generalize D.lst (ns.map D.int) = s at *
  obtain ⟨k', e⟩ := run_law is s hd
  exact ⟨[cw is k'], (call_at (d := d_law) (n := 99) (f := lawNo) rfl _ _).trans e⟩
end K15

set_option Elab.async false
set_option linter.all false
set_option maxRecDepth 100000
set_option maxHeartbeats 0
namespace K15
open PySem PySem.Spec PyProof.Rows FM L2
def lv : Nat := 100
/-! ### the head -/
def dd (d : FD) : He.DefD := ⟨(d.name, none), d.name, d.name, defArgs d.st, defBody d.st, defScope d.st, [], []⟩
def fn : List He.DefD := defs.map dd
def fa : List He.Fa := (defs.map fun d => He.Fa.glo d.name) ++ bnames.map He.Fa.free
abbrev R : PySem.W.OpenRow := PySem.W.OpenLaw.row PySem.Challenge.rw_firstmet_k15_times_told
abbrev hk : PySem.W.Hook := He.hookD 4 fa fn
def ob (s : PySem.W.SharedT) : He.AlD := He.obsDG 4 fa fn (HandSHeadRun.getT s)
theorem ob_eq (s : PySem.W.SharedT) : ob s = hk.obs s.abs := He.obsDG_eq (HandSHeadRun.getT_eq s)
def loose : List Str := (defs.map FD.name).filter (· ≠ ("law" : Str)) ++ [("__name__" : Str)]
theorem run (w : World) : HandSHeadRun.RunEq R (PySem.W.view R.prog [lawAt]) hk ob 4000 loose w := by
  intro os
  kernel_rfl
theorem lawHead {w : World} {K : PySem.W.Frag} {mg : Str → Option Value} {h : Heap} (X : K.In h) (G : h.Ns mainGlobals mg) (c : He.SaysD fa fn K) :
    (∀ x ∈ bnames, mg x = none) ∧ ∀ d ∈ defs, mg d.name = some (.ref (He.fAd K (d.name, none))) ∧ ∃ fd, FunD K d.name d.name (defArgs d.st) (defBody d.st) (defScope d.st) [] [] (He.fAd K (d.name, none)) fd := by
  refine ⟨fun x hx => ?_, fun d hd => ⟨?_, ?_⟩⟩
  · have m : He.Fa.free x ∈ fa := List.mem_append_right _ (List.mem_map.mpr ⟨x, hx, rfl⟩)
    obtain ⟨i, hi⟩ := List.mem_iff_getElem?.mp m
    exact He.free_ok X G (c.fact i hi)
  · have m : He.Fa.glo d.name ∈ fa := List.mem_append_left _ (List.mem_map.mpr ⟨d, hd, rfl⟩)
    obtain ⟨i, hi⟩ := List.mem_iff_getElem?.mp m
    exact He.glo_ok X G (c.fact i hi)
  · obtain ⟨i, hi⟩ := List.mem_iff_getElem?.mp hd
    have hi' : fn[i]? = some (dd d) := by
      unfold fn
      rw [List.getElem?_map, hi]
      rfl
    exact c.def_ i hi'
end K15
open PySem PySem.W PySem.Calls PyProof.Rows
set_option maxRecDepth 100000 in
set_option maxHeartbeats 0 in
theorem PySem.Challenge.cw_firstmet_k15_times_told_holds : PySem.Challenge.rw_firstmet_k15_times_told.Holds := by
  w_on; o_law
  refine HandSHeadRun.head_any (r := OpenLaw.row PySem.Challenge.rw_firstmet_k15_times_told) (q := view (OpenLaw.row PySem.Challenge.rw_firstmet_k15_times_told).prog [K15.lawAt]) (H := K15.hk) (ob := K15.ob) (M := 4000) (loose := K15.loose) (d := HandSHeadRun.topDef (OpenLaw.row PySem.Challenge.rw_firstmet_k15_times_told).prog K15.lawAt) (kwd := []) K15.ob_eq
    (by kernel_rfl) (fun s => by kernel_rfl) K15.run (by kernel_rfl) (by kernel_rfl) (by kernel_rfl) (by rfl) (by first | assumption | decide +kernel) (by decide +kernel) ⟨rfl, rfl, rfl, rfl, rfl, by decide +kernel⟩ ?hw ?hc
  case hw => w_witness2
  case hc =>
    refine L2.walk_ofE (l := PySem.Challenge.rw_firstmet_k15_times_told) (n := 63) (k := K15.lv) (x := "script") (CX := L2.CX0) rfl (by decide) (by kernel_rfl) ⟨rfl, by decide, by decide⟩ ?F (fun _ _ _ _ z => z)
    intro w mg fa h Y G hmg0
    obtain ⟨K, KX, c⟩ := Y
    have hmg : mg ("law" : PySem.Str) = some (.ref fa) := by
      have e : (HandSHeadRun.topDef (OpenLaw.row PySem.Challenge.rw_firstmet_k15_times_told).prog K15.lawAt).name = ("law" : PySem.Str) := by kernel_rfl
      rw [← e]
      exact hmg0
    obtain ⟨bn, hd⟩ := K15.lawHead (w := w) KX G c
    have chk : ∀ d ∈ K15.defs, d.chk K15.fs = true := fun d hm => List.all_eq_true.mp K15.chk_all d hm
    have hm : K15.d_law ∈ K15.defs := List.mem_of_getElem? (i := K15.lawNo) rfl
    obtain ⟨m1, fd, m2⟩ := hd _ hm
    have e : fa = He.fAd K (("law" : PySem.Str), none) := by
      have z := hmg.symm.trans m1
      cases z
      rfl
    subst e
    refine ⟨K, fd, FM.spF K 1 (FM.runFn (FM.call (FM.tabOf K15.defs) FM.W (K15.lv - 1)) FM.W K15.d_law.fn), KX, fun s u => ?_, fun H a ns hl _ hS => ?_, fun base b1 b2 => ?_⟩
    · exact m2.bindsA (ps := [("script" : PySem.Str)]) (FM.bindsF (fs := K15.fs) (chk _ hm) m2) s [u] rfl
    · obtain ⟨μ, hμ⟩ := K15.law_ok ns hl
      exact FM.law_sp hS hμ
    · exact FM.fd_ok (n := K15.lv - 1) (chk _ hm) m2 bn (FM.all_ok rfl chk bn (fun d hd' => ⟨_, (hd d hd').2.choose, (hd d hd').1, (hd d hd').2.choose_spec⟩) (K15.lv - 1))

