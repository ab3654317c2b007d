import PyProof.Rows.All
import Wide.All
import OpenK.AllK
import Wide.FinOn
import KE.KStateDown
import HandS.ForMost
import HandS.Wide
import HandS.WideBits
import HandS.IsInst
import HandS.TupAny
import HandS.Style
import HandS.TupLe
import HandS.Defaults
import HandS.More
import HandS.WordsExc
import HandS.Head0
import HandS.Head1
import HandS.Head2
import HandS.HeadEnd
import HandS.HeadHook1
import HandS.HeadHook2
import HandS.Text
import PySem.Challenge.RW_firstmet_k00_fractions
set_option Elab.async false
set_option linter.all false
set_option maxRecDepth 100000
set_option maxHeartbeats 4000000
/-! Ev1: plain data, what stands for it in the abstract heap. -/
namespace FM
open PySem PySem.Spec PyProof.Rows L2

/-- plain data; cell k: the k-th mutable dict -/
inductive D where
  | non | bl (b : Bool) | int (i : Int) | str (s : Str) | tup (ds : List D) | lst (ds : List D) | cell (k : Nat)
  deriving Inhabited

abbrev Cell := List (Key × D)
abbrev Cells := List Cell

/-! ### what represents data -/
def TupAt (K : PySem.W.Frag) (Z : Addr → Prop) (H : Hp) (a : Addr) (xs : List V) : Prop :=
  (Rd H a (.tup xs) ∧ ¬ Z a) ∨
    ∃ (o : Obj) (its : Array Value) (n : Nat), K.lookup a = some o ∧ o.cls = .type "tuple" ∧ o.data = .seq its n ∧ its.size ≤ sizeLine ∧ Vals xs its.toList
def LstAt (K : PySem.W.Frag) (Z : Addr → Prop) (H : Hp) (a : Addr) (xs : List V) : Prop :=
  (Rd H a (.lst xs) ∧ ¬ Z a) ∨
    ∃ (o : Obj) (its : Array Value) (n : Nat), K.lookup a = some o ∧ o.cls = .type "list" ∧ o.dict = none ∧ o.data = .seq its n ∧ its.size ≤ sizeLine ∧ Vals xs its.toList
theorem TupAt.sq {K : PySem.W.Frag} {Z : Addr → Prop} {H : Hp} {a : Addr} {xs : List V} (h : TupAt K Z H a xs) : SqT K H a xs := by
  rcases h with ⟨h, _⟩ | h
  · exact .inl h
  · exact .inr h
theorem LstAt.sq {K : PySem.W.Frag} {Z : Addr → Prop} {H : Hp} {a : Addr} {xs : List V} (h : LstAt K Z H a xs) : SqL K H a xs := by
  rcases h with ⟨h, _⟩ | h
  · exact .inl h
  · exact .inr h

mutual
inductive Rep (K : PySem.W.Frag) (Z : Addr → Prop) (ads : List Addr) (H : Hp) : V → D → Prop
  | non : Rep K Z ads H .non .non
  | bl (b : Bool) : Rep K Z ads H (.bl b) (.bl b)
  | int (i : Int) : Rep K Z ads H (.int i) (.int i)
  | str (x : Str) : Rep K Z ads H (.str x) (.str x)
  | tup {a : Addr} {xs : List V} {ds : List D} : TupAt K Z H a xs → RepL K Z ads H xs ds → Rep K Z ads H (.ref a) (.tup ds)
  | lst {a : Addr} {xs : List V} {ds : List D} : LstAt K Z H a xs → RepL K Z ads H xs ds → Rep K Z ads H (.ref a) (.lst ds)
  | cell {a : Addr} {k : Nat} : ads[k]? = some a → Rep K Z ads H (.ref a) (.cell k)
inductive RepL (K : PySem.W.Frag) (Z : Addr → Prop) (ads : List Addr) (H : Hp) : List V → List D → Prop
  | nil : RepL K Z ads H [] []
  | cons {v : V} {d : D} {vs : List V} {ds : List D} : Rep K Z ads H v d → RepL K Z ads H vs ds → RepL K Z ads H (v :: vs) (d :: ds)
end

section
variable {K : PySem.W.Frag} {Z Z' : Addr → Prop} {ads ads' : List Addr} {H H' : Hp}

/-- what lets a representation stand -/
structure Stay (Z Z' : Addr → Prop) (ads ads' : List Addr) (H H' : Hp) : Prop where
  keep : ∀ b o, H b = some o → ¬ Z b → H' b = some o
  free : ∀ b o, H b = some o → ¬ Z b → ¬ Z' b
  pre : ∀ (k : Nat) (a : Addr), ads[k]? = some a → ads'[k]? = some a

theorem Rd.keep {a : Addr} {u : HO} (s : Stay Z Z' ads ads' H H') (h : Rd H a u ∧ ¬ Z a) : Rd H' a u ∧ ¬ Z' a := by
  obtain ⟨h, z⟩ := h
  rcases h with h | ⟨o, h⟩
  · exact ⟨.inl (s.keep _ _ h z), s.free _ _ h z⟩
  · exact ⟨.inr ⟨o, s.keep _ _ h z⟩, s.free _ _ h z⟩
theorem TupAt.stay {a : Addr} {xs : List V} (s : Stay Z Z' ads ads' H H') (h : TupAt K Z H a xs) : TupAt K Z' H' a xs := by
  rcases h with h | h
  · exact .inl (Rd.keep s h)
  · exact .inr h
theorem LstAt.stay {a : Addr} {xs : List V} (s : Stay Z Z' ads ads' H H') (h : LstAt K Z H a xs) : LstAt K Z' H' a xs := by
  rcases h with h | h
  · exact .inl (Rd.keep s h)
  · exact .inr h
mutual
theorem Rep.stay (s : Stay Z Z' ads ads' H H') : ∀ (d : D) (v : V), Rep K Z ads H v d → Rep K Z' ads' H' v d
  | .non, _, h => by cases h; exact .non
  | .bl b, _, h => by cases h; exact .bl b
  | .int i, _, h => by cases h; exact .int i
  | .str x, _, h => by cases h; exact .str x
  | .tup ds, _, h => by
    cases h with
    | tup h1 h2 => exact .tup (h1.stay s) (RepL.stay s ds _ h2)
  | .lst ds, _, h => by
    cases h with
    | lst h1 h2 => exact .lst (h1.stay s) (RepL.stay s ds _ h2)
  | .cell k, _, h => by
    cases h with
    | cell h1 => exact .cell (s.pre _ _ h1)
theorem RepL.stay (s : Stay Z Z' ads ads' H H') : ∀ (ds : List D) (vs : List V), RepL K Z ads H vs ds → RepL K Z' ads' H' vs ds
  | [], _, h => by cases h; exact .nil
  | d :: ds, _, h => by
    cases h with
    | cons h1 h2 => exact .cons (Rep.stay s d _ h1) (RepL.stay s ds _ h2)
end
theorem RepL.length : ∀ {vs : List V} {ds : List D}, RepL K Z ads H vs ds → vs.length = ds.length
  | _, [], h => by cases h; rfl
  | _, d :: ds, h => by
    cases h with
    | cons h1 h2 => rw [List.length_cons, List.length_cons, h2.length]
theorem RepL.get : ∀ {vs : List V} {ds : List D} {i : Nat} {d : D}, RepL K Z ads H vs ds → ds[i]? = some d → ∃ v, vs[i]? = some v ∧ Rep K Z ads H v d
  | _, [], _, _, _, e => by simp at e
  | _, x :: ds, 0, d, h, e => by
    cases h with
    | cons h1 h2 => simp at e; subst e; exact ⟨_, rfl, h1⟩
  | _, x :: ds, i + 1, d, h, e => by
    cases h with
    | cons h1 h2 =>
      obtain ⟨v, e1, r⟩ := h2.get (i := i) (d := d) (by simpa using e)
      exact ⟨v, by simpa using e1, r⟩
theorem RepL.getV : ∀ {vs : List V} {ds : List D} {i : Nat} {v : V}, RepL K Z ads H vs ds → vs[i]? = some v → ∃ d, ds[i]? = some d ∧ Rep K Z ads H v d := fun {vs ds i v} h e => by
  have hl := h.length
  have hi : i < ds.length := by
    have := (List.getElem?_eq_some_iff.mp e).1
    omega
  obtain ⟨w, e2, r⟩ := h.get (i := i) (d := ds[i]) (by simp [hi])
  rw [e] at e2; cases e2
  exact ⟨_, by simp [hi], r⟩
theorem RepL.append : ∀ {vs ws : List V} {ds es : List D}, RepL K Z ads H vs ds → RepL K Z ads H ws es → RepL K Z ads H (vs ++ ws) (ds ++ es)
  | _, _, [], _, h, k => by cases h; exact k
  | _, _, d :: ds, _, h, k => by
    cases h with
    | cons h1 h2 => exact .cons h1 (h2.append k)
theorem RepL.take : ∀ {vs : List V} {ds : List D} (n : Nat), RepL K Z ads H vs ds → RepL K Z ads H (vs.take n) (ds.take n)
  | _, _, 0, _ => .nil
  | _, [], n + 1, h => by cases h; exact .nil
  | _, d :: ds, n + 1, h => by
    cases h with
    | cons h1 h2 => exact .cons h1 (h2.take n)
theorem RepL.drop : ∀ {vs : List V} {ds : List D} (n : Nat), RepL K Z ads H vs ds → RepL K Z ads H (vs.drop n) (ds.drop n)
  | _, _, 0, h => h
  | _, [], n + 1, h => by cases h; exact .nil
  | _, d :: ds, n + 1, h => by
    cases h with
    | cons h1 h2 => exact h2.drop n
theorem RepL.ofInts : ∀ (ns : List Int), RepL K Z ads H (ns.map V.int) (ns.map D.int)
  | [] => .nil
  | n :: ns => .cons (.int n) (RepL.ofInts ns)
theorem RepL.ints : ∀ {vs : List V} {ns : List Int}, RepL K Z ads H vs (ns.map D.int) → vs = ns.map V.int
  | _, [], h => by cases h; rfl
  | _, n :: ns, h => by
    cases h with
    | cons h1 h2 => cases h1; rw [List.map_cons, h2.ints]
theorem RepL.bls : ∀ {vs : List V} {ns : List Bool}, RepL K Z ads H vs (ns.map D.bl) → vs = ns.map V.bl
  | _, [], h => by cases h; rfl
  | _, n :: ns, h => by
    cases h with
    | cons h1 h2 => cases h1; rw [List.map_cons, h2.bls]
theorem RepL.strs : ∀ {vs : List V} {ns : List Str}, RepL K Z ads H vs (ns.map D.str) → vs = ns.map V.str
  | _, [], h => by cases h; rfl
  | _, n :: ns, h => by
    cases h with
    | cons h1 h2 => cases h1; rw [List.map_cons, h2.strs]
theorem RepL.one {d : D} {vs : List V} (h : RepL K Z ads H vs [d]) : ∃ v, vs = [v] ∧ Rep K Z ads H v d := by
  cases h with
  | cons h1 h2 => cases h2; exact ⟨_, rfl, h1⟩
theorem RepL.two {d e : D} {vs : List V} (h : RepL K Z ads H vs [d, e]) : ∃ v w, vs = [v, w] ∧ Rep K Z ads H v d ∧ Rep K Z ads H w e := by
  cases h with
  | cons h1 h2 => obtain ⟨w, rfl, h3⟩ := h2.one; exact ⟨_, _, rfl, h1, h3⟩
end

/-! ### the cells -/
/-- keys alike, values represented -/
def RepKV (K : PySem.W.Frag) (Z : Addr → Prop) (ads : List Addr) (H : Hp) (kvs : List (Key × V)) (kds : Cell) : Prop :=
  kvs.map (·.1) = kds.map (·.1) ∧ RepL K Z ads H (kvs.map (·.2)) (kds.map (·.2))
/-- own: lists that no plain datum may hold; ads: the cells' addresses -/
abbrev Zo (own : Addr → Prop) (ads : List Addr) : Addr → Prop := fun b => own b ∨ b ∈ ads
structure CellsR (K : PySem.W.Frag) (own : Addr → Prop) (ads : List Addr) (H : Hp) (μ : Cells) : Prop where
  len : ads.length = μ.length
  nd : ads.Nodup
  «at» : ∀ (k : Nat) (a : Addr), ads[k]? = some a → ∃ (kvs : List (Key × V)) (kds : Cell), μ[k]? = some kds ∧ H a = some (.dK kvs) ∧ RepKV K (Zo own ads) ads H kvs kds
  dis : ∀ a ∈ ads, ¬ own a
  ownT : ∀ b, own b → ∃ o, H b = some o ∧ Mut (some o)

/-- behind an expression: all that was tracked but the cells stands; new cells are new -/
structure Ext (ads : List Addr) (H : Hp) (ads' : List Addr) (H' : Hp) : Prop where
  keep : ∀ b o, H b = some o → b ∉ ads → H' b = some o
  there : ∀ b o, H b = some o → ∃ o', H' b = some o'
  new : ∀ b ∈ ads', b ∈ ads ∨ H b = none
  pre : ∀ (k : Nat) (a : Addr), ads[k]? = some a → ads'[k]? = some a
section
variable {K : PySem.W.Frag} {own : Addr → Prop} {ads ads' ads2 : List Addr} {H H' H2 : Hp} {μ : Cells}
theorem Ext.refl : Ext ads H ads H := ⟨fun _ _ h _ => h, fun _ o h => ⟨o, h⟩, fun _ h => .inl h, fun _ _ h => h⟩
theorem Ext.mem (e : Ext ads H ads' H') {b : Addr} (h : b ∈ ads) : b ∈ ads' := by
  obtain ⟨k, hk⟩ := List.mem_iff_getElem?.mp h
  exact List.mem_iff_getElem?.mpr ⟨k, e.pre _ _ hk⟩
theorem Ext.trans (e : Ext ads H ads' H') (f : Ext ads' H' ads2 H2) : Ext ads H ads2 H2 where
  keep := fun b o h hn => f.keep b o (e.keep b o h hn) fun hm => (e.new b hm).elim hn fun z => by rw [z] at h; cases h
  there := fun b o h => let ⟨o', h'⟩ := e.there b o h; f.there b o' h'
  new := fun b hb => (f.new b hb).elim (e.new b) fun z => .inr <| by
    cases q : H b with
    | none => rfl
    | some o => obtain ⟨o', h'⟩ := e.there b o q; rw [z] at h'; cases h'
  pre := fun k a h => f.pre k a (e.pre k a h)
theorem Ext.stay (e : Ext ads H ads' H') : Stay (Zo own ads) (Zo own ads') ads ads' H H' where
  keep := fun b o h z => e.keep b o h fun m => z (.inr m)
  free := fun b o h z q => q.elim (fun q => z (.inl q)) fun q => (e.new b q).elim (fun m => z (.inr m)) fun n => by rw [n] at h; cases h
  pre := e.pre
theorem Rep.ext {v : V} {d : D} (e : Ext ads H ads' H') (h : Rep K (Zo own ads) ads H v d) : Rep K (Zo own ads') ads' H' v d := h.stay e.stay
theorem RepL.ext {v : List V} {d : List D} (e : Ext ads H ads' H') (h : RepL K (Zo own ads) ads H v d) : RepL K (Zo own ads') ads' H' v d := h.stay e.stay
/-- a new object that is no cell -/
theorem Ext.fresh {p : Addr} {o : HO} (hp : H p = none) : Ext ads H ads (upd H p o) where
  keep := fun b u h _ => by rw [upd_ne (ne_of_none h hp)]; exact h
  there := fun b u h => ⟨u, by rw [upd_ne (ne_of_none h hp)]; exact h⟩
  new := fun _ h => .inl h
  pre := fun _ _ h => h
theorem RepKV.stay {Z Z' : Addr → Prop} {kvs : List (Key × V)} {kds : Cell} (s : Stay Z Z' ads ads' H H') (h : RepKV K Z ads H kvs kds) : RepKV K Z' ads' H' kvs kds := ⟨h.1, h.2.stay s⟩
/-- the cells where none of them is changed, none is new -/
theorem CellsR.same (c : CellsR K own ads H μ) (e : Ext ads H ads H') (k : ∀ a ∈ ads, H' a = H a) : CellsR K own ads H' μ where
  len := c.len
  nd := c.nd
  «at» := fun i a h => by
    obtain ⟨kvs, kds, h1, h2, h3⟩ := c.at i a h
    exact ⟨kvs, kds, h1, by rw [k a (List.mem_of_getElem? h)]; exact h2, h3.stay e.stay⟩
  dis := c.dis
  ownT := fun b h => let ⟨o, q, m⟩ := c.ownT b h; ⟨o, e.keep b o q fun z => c.dis b z h, m⟩
theorem CellsR.tracked (c : CellsR K own ads H μ) {b : Addr} (h : Zo own ads b) : ∃ o, H b = some o := by
  rcases h with h | h
  · obtain ⟨o, q, _⟩ := c.ownT b h
    exact ⟨o, q⟩
  · obtain ⟨k, hk⟩ := List.mem_iff_getElem?.mp h
    obtain ⟨kvs, _, _, h2, _⟩ := c.at k b hk
    exact ⟨_, h2⟩
theorem CellsR.freshZ (c : CellsR K own ads H μ) {p : Addr} (hp : H p = none) : ¬ Zo own ads p := fun z => by
  obtain ⟨o, h⟩ := c.tracked z
  rw [hp] at h; cases h
theorem CellsR.fresh (c : CellsR K own ads H μ) {p : Addr} {o : HO} (hp : H p = none) : CellsR K own ads (upd H p o) μ :=
  c.same (Ext.fresh hp) fun a ha => by
    have : a ≠ p := fun z => c.freshZ hp (z ▸ .inr ha)
    rw [upd_ne this]
/-- a new tuple stands for its items -/
theorem Rep.newTup (c : CellsR K own ads H μ) {p : Addr} {xs : List V} {ds : List D} (hp : H p = none) (h : RepL K (Zo own ads) ads H xs ds) : Rep K (Zo own ads) ads (upd H p (.tup xs)) (.ref p) (.tup ds) :=
  .tup (.inl ⟨.inl upd_same, c.freshZ hp⟩) (h.ext (Ext.fresh hp))
theorem Rep.newLst (c : CellsR K own ads H μ) {p : Addr} {xs : List V} {ds : List D} (hp : H p = none) (h : RepL K (Zo own ads) ads H xs ds) : Rep K (Zo own ads) ads (upd H p (.lst xs)) (.ref p) (.lst ds) :=
  .lst (.inl ⟨.inl upd_same, c.freshZ hp⟩) (h.ext (Ext.fresh hp))
end
end FM

set_option Elab.async false
set_option linter.all false
set_option maxRecDepth 100000
set_option maxHeartbeats 4000000
/-! Ev2: the little language (slots in place of names), its evaluator, the look at the real tree. -/
namespace FM
open PySem PySem.Spec PyProof.Rows L2

/-! ### syntax -/
/-- built-ins called by name on plain values -/
inductive Bi where
  | len | tuple | list | all | any | abs | int | str | max2 | min2 | sum
  deriving DecidableEq
inductive Ty where
  | int | bool | str | tuple | list
  deriving DecidableEq
/-- methods -/
inductive Me where
  | bits | partition | join
  deriving DecidableEq
inductive Tg where
  | nm (i : Nat) | tp (is : List Nat)
  deriving DecidableEq
mutual
inductive E where
  | var (i : Nat) | int (i : Int) | bl (b : Bool) | non | str (s : Str)
  | op (o : Operator) (a b : E)
  | neg (a : E)
  | cmp (o : CmpOp) (a b : E)
  | chn (o o' : CmpOp) (a b c : E)
  | and (a b : E) | or (a b : E) | not (a : E)
  | ife (c a b : E)
  | tup (es : Es) | lst (es : Es)
  | ix (a b : E)
  | sl (a : E) (lo hi : EO)
  | call (f : Nat) (es : Es)
  | callB (f : Nat) (es : Es)
  | bi (b : Bi) (es : Es)
  | isi (a : E) (t : Ty)
  | me (m : Me) (o : E) (es : Es)
  | lc (elt : E) (tg : Tg) (it : It) (cond : EO)
  | dict (ks : List Str) (es : Es)
inductive Es where
  | nil | cons (e : E) (es : Es)
inductive EO where
  | none | some (e : E)
inductive It where
  | seq (e : E) | rng1 (a : E) | rng2 (a b : E)
end
mutual
inductive S where
  | asg (i : Nat) (e : E)
  | own (i : Nat)
  | asgT (is : List Nat) (e : E)
  | par (i j : Nat) (a b : E)
  | aug (i : Nat) (o : Operator) (e : E)
  | app (i : Nat) (e : E)
  | daug (o k : E) (op : Operator) (e : E)
  | ret (e : E)
  | ifs (c : E) (a b : Ss)
  | whl (c : E) (b : Ss)
  | for_ (tg : Tg) (it : It) (b : Ss)
  | expr (e : E)
  | pass | brk | cont
  | frz (i : Nat)
inductive Ss where
  | nil | cons (s : S) (ss : Ss)
end

/-! ### the environment -/
inductive Sl where
  | pl (d : D) | ow (ds : List D)
abbrev Env := List (Option Sl)
def Sl.d : Sl → D
  | .pl d => d
  | .ow ds => .lst ds
def Sl.isOw : Sl → Bool
  | .pl _ => false
  | .ow _ => true
def isOw (ρ : Env) (i : Nat) : Bool := match ρ[i]? with
  | some (some s) => s.isOw
  | _ => false
/-- whether an expression may hand out a list that its slot owns -/
def lk (ρ : Env) : E → Bool
  | .var i => isOw ρ i
  | .ife _ a b => lk ρ a || lk ρ b
  | _ => false
def lks (ρ : Env) : Es → Bool
  | .nil => false
  | .cons e es => lk ρ e || lks ρ es

def It.lk (ρ : Env) : It → Bool
  | .seq e => FM.lk ρ e
  | _ => false

/-! ### values -/
mutual
def D.py : D → PyData
  | .non => .none
  | .bl b => .bool b
  | .int i => .int i
  | .str s => .str s
  | .tup ds => .tuple (pyAll ds)
  | .lst ds => .list (pyAll ds)
  | .cell _ => .none
def pyAll : List D → List PyData
  | [] => []
  | d :: ds => d.py :: pyAll ds
end
mutual
def D.noCell : D → Bool
  | .tup ds => noCells ds
  | .lst ds => noCells ds
  | .cell _ => false
  | _ => true
def noCells : List D → Bool
  | [] => true
  | d :: ds => d.noCell && noCells ds
end
mutual
def D.noLst : D → Bool
  | .tup ds => noLsts ds
  | .lst _ => false
  | _ => true
def noLsts : List D → Bool
  | [] => true
  | d :: ds => d.noLst && noLsts ds
end
def D.scal : D → Bool
  | .non => true
  | .bl _ => true
  | .int _ => true
  | .str _ => true
  | _ => false
def D.flat : D → Bool
  | .int _ => true
  | .str _ => true
  | .bl _ => true
  | .non => true
  | _ => false
def eqS : D → D → Bool
  | .non, .non => true
  | .bl a, .bl b => a == b
  | .int a, .int b => a == b
  | .str a, .str b => a == b
  | _, _ => false
def scalOk : D → D → Bool
  | .bl _, .int _ => false
  | .int _, .bl _ => false
  | a, b => a.scal && b.scal
def shOk (d : D) : Bool := d.noCell && SeqAt.shaped d.py
def eqD (a b : D) : Option Bool :=
  if scalOk a b then some (eqS a b) else if shOk a && shOk b then some (PyData.eqv a.py b.py) else none
def mulOk (i j : Int) : Bool := decide (i.natAbs.log2 + j.natAbs.log2 < 1000000)
def divOk (_ j : Int) : Bool := decide (j ≠ 0 ∧ j.natAbs < 1073741824) || decide (0 < j ∧ j.natAbs.log2 < 9000)
def powOk (i j : Int) : Bool := decide (0 ≤ j ∧ j ≤ 1000000 ∧ i.natAbs < 2 ^ 64)
def opD : Operator → D → D → Option D
  | .Add, .int i, .int j => some (.int (i + j))
  | .Add, .str a, .str b => if a.length + b.length ≤ sizeLine then some (.str (a ++ b)) else none
  | .Add, .tup a, .tup b => if a.length + b.length ≤ sizeLine then some (.tup (a ++ b)) else none
  | .Sub, .int i, .int j => some (.int (i - j))
  | .Sub, .bl a, .bl b => some (.int (b2i a - b2i b))
  | .Mult, .int i, .int j => if mulOk i j then some (.int (i * j)) else none
  | .FloorDiv, .int i, .int j => if divOk i j then some (.int (i.fdiv j)) else none
  | .Mod, .int i, .int j => if j = 0 then none else some (.int (i.fmod j))
  | .Pow, .int i, .int j => if powOk i j then some (.int (i ^ j.toNat)) else none
  | .LShift, .int i, .int j => if powOk i j then some (.int (i * 2 ^ j.toNat)) else none
  | _, _, _ => none
def negD : D → Option D
  | .int i => some (.int (-i))
  | _ => none
def isNon : D → Bool
  | .non => true
  | _ => false
/-- x in xs -/
def inD (x : D) : List D → Option Bool
  | [] => if x.flat then some false else none
  | y :: ys => if scalOk y x then (if eqS y x then (if (y :: ys).all (fun z => scalOk z x) then some true else none) else inD x ys) else none
def cmpD : CmpOp → D → D → Option Bool
  | .Eq, a, b => eqD a b
  | .NotEq, a, b => (eqD a b).map not
  | .Lt, .int i, .int j => some (decide (i < j))
  | .LtE, .int i, .int j => some (decide (i ≤ j))
  | .Gt, .int i, .int j => some (decide (j < i))
  | .GtE, .int i, .int j => some (decide (j ≤ i))
  | .Is, a, .non => some (isNon a)
  | .IsNot, a, .non => some (!isNon a)
  | .Is, .bl a, .bl b => some (decide (a = b))
  | .IsNot, .bl a, .bl b => some (!decide (a = b))
  | .In, .str a, .str b => some (!(Builtin.Str.occurrences b a 0 b.length 1).isEmpty)
  | .In, a, .tup b => inD a b
  | .In, a, .lst b => inD a b
  | .NotIn, a, .tup b => (inD a b).map not
  | .NotIn, a, .lst b => (inD a b).map not
  | _, _, _ => none
def valC (c : Cell) (k : Key) : Option D := (c.find? fun kv => decide (kv.1 = k)).map (·.2)
def putC (c : Cell) (k : Key) (d : D) : Cell := if (c.any fun kv => decide (kv.1 = k)) = true then c.map (fun kv => if kv.1 = k then (kv.1, d) else kv) else c ++ [(k, d)]
def keyD : D → Option Key
  | .int i => some (.inl i)
  | .str s => some (.inr s)
  | _ => none
def ixD (μ : Cells) : D → D → Option D
  | .lst ds, .int i => atI ds i
  | .tup ds, .int i => atI ds i
  | .str s, .int i => if s.length ≤ sizeLine then (atI s.cps.toList i).map fun c => .str ⟨#[c]⟩ else none
  | .cell k, d => match μ[k]?, keyD d with
    | some c, some q => valC c q
    | _, _ => none
  | _, _ => none
def cutD {α : Type} (xs : List α) (lo hi : Option Int) : List α := (xs.drop (HT.sIx xs.length 0 lo)).take (HT.sIx xs.length xs.length hi - HT.sIx xs.length 0 lo)
def slD : D → Option Int → Option Int → Option D
  | .tup ds, lo, hi => some (.tup (cutD ds lo hi))
  | .lst ds, lo, hi => some (.lst (cutD ds lo hi))
  | .str s, lo, hi => if s.length ≤ sizeLine then some (.str ⟨(cutD s.cps.toList lo hi).toArray⟩) else none
  | _, _, _ => none
def asBls : List D → Option (List Bool)
  | [] => some []
  | .bl b :: ds => (asBls ds).map (b :: ·)
  | _ => none
def asInts : List D → Option (List Int)
  | [] => some []
  | .int b :: ds => (asInts ds).map (b :: ·)
  | _ => none
def asStrs : List D → Option (List Str)
  | [] => some []
  | .str b :: ds => (asStrs ds).map (b :: ·)
  | _ => none
def biD (μ : Cells) : Bi → List D → Option D
  | .len, [.lst ds] => some (.int ds.length)
  | .len, [.tup ds] => some (.int ds.length)
  | .len, [.str s] => if s.length ≤ sizeLine then some (.int s.length) else none
  | .tuple, [.lst ds] => some (.tup ds)
  | .tuple, [.tup ds] => some (.tup ds)
  | .list, [.lst ds] => some (.lst ds)
  | .list, [.tup ds] => some (.lst ds)
  | .all, [.lst ds] => (asBls ds).map fun bs => .bl (bs.all id)
  | .any, [.lst ds] => (asBls ds).map fun bs => .bl (bs.any id)
  | .sum, [.lst ds] => (asInts ds).map fun bs => .int bs.sum
  | .abs, [.int i] => some (.int (if i < 0 then -i else i))
  | .int, [.int i] => some (.int i)
  | .int, [.str s] => match PySem.intText? s with
    | some n => if s.length ≤ 640 then some (.int n) else none
    | none => none
  | .str, [.int i] => if i.natAbs.log2 < 1920 then some (.str (toString i)) else none
  | .max2, [.int i, .int j] => some (.int (if j > i then j else i))
  | .min2, [.int i, .int j] => some (.int (if j < i then j else i))
  | _, _ => none
def isiD : D → Ty → Option Bool
  | .int _, .int => some true
  | .bl _, .int => some true
  | .bl _, .bool => some true
  | .str _, .str => some true
  | .tup _, .tuple => some true
  | .lst _, .list => some true
  | .cell _, _ => none
  | _, _ => some false
def meD : Me → D → List D → Option D
  | .bits, .int i, [] => some (.int (Builtin.Int.intBits i : Nat))
  | .partition, .str a, [.str b] => if (b.length == 0) = false ∧ a.length ≤ sizeLine then some (.tup [.str (Txt.partition a b).1, .str (Txt.partition a b).2.1, .str (Txt.partition a b).2.2]) else none
  | .join, .str a, [.lst ds] => match asStrs ds with
    | some ys => if (ys.map (·.length)).sum + ys.length * a.length ≤ 16777216 then some (.str (Txt.join a ys)) else none
    | none => none
  | _, _, _ => none

/-! ### binding -/
def setAll : List Nat → List D → Env → Env
  | i :: is, d :: ds, ρ => setAll is ds (ρ.set i (some (.pl d)))
  | _, _, ρ => ρ
def itemsOf : D → Option (List D)
  | .tup ds => some ds
  | _ => none
def bindT (tg : Tg) (d : D) (ρ : Env) : Option Env := match tg with
  | .nm i => some (ρ.set i (some (.pl d)))
  | .tp is => match d with
    | .tup ds => if ds.length = is.length then some (setAll is ds ρ) else none
    | _ => none
def lcGo (tg : Tg) (c : Env → Cells → Option (Bool × Cells)) (f : Env → Cells → Option (D × Cells)) (ρ : Env) : List D → Cells → Option (List D × Cells)
  | [], μ => some ([], μ)
  | x :: xs, μ =>
    match bindT tg x ρ with
    | none => none
    | some ρ1 => match c ρ1 μ with
      | none => none
      | some (false, μ1) => lcGo tg c f ρ xs μ1
      | some (true, μ1) => match f ρ1 μ1 with
        | none => none
        | some (y, μ2) => match lcGo tg c f ρ xs μ2 with
          | none => none
          | some (ys, μ3) => some (y :: ys, μ3)
def rngOk (i : Int) : Bool := decide (-(2 ^ 62) ≤ i) && decide (i < 2 ^ 62)
def rngD (lo : Int) (n : Nat) : List D := (List.range n).map fun (k : Nat) => D.int (lo + k)

def signs (s : Str) : List D := s.cps.toList.map fun c => D.str ⟨#[c]⟩
/-! ### the evaluator -/
abbrev Fs := Nat → List D → Cells → Option (D × Cells)
abbrev Rs (α : Type) := Option (α × Cells)
def andThen {α β : Type} (x : Rs α) (f : α → Cells → Option β) : Option β := match x with
  | some (a, μ) => f a μ
  | none => none
def onBl {β : Type} (x : Rs D) (f : Bool → Cells → Option β) : Option β := match x with
  | some (.bl b, μ) => f b μ
  | _ => none
def wthD (z : Option D) (μ : Cells) : Rs D := z.map (·, μ)
mutual
def ev (F : Fs) : E → Env → Cells → Rs D
  | .var i, ρ, μ => match ρ[i]? with
    | some (some s) => some (s.d, μ)
    | _ => none
  | .int i, _, μ => some (.int i, μ)
  | .bl b, _, μ => some (.bl b, μ)
  | .non, _, μ => some (.non, μ)
  | .str s, _, μ => some (.str s, μ)
  | .op o a b, ρ, μ => andThen (ev F a ρ μ) fun x μ1 => andThen (ev F b ρ μ1) fun y μ2 => wthD (opD o x y) μ2
  | .neg a, ρ, μ => andThen (ev F a ρ μ) fun x μ1 => wthD (negD x) μ1
  | .cmp o a b, ρ, μ => andThen (ev F a ρ μ) fun x μ1 => andThen (ev F b ρ μ1) fun y μ2 => wthD ((cmpD o x y).map D.bl) μ2
  | .chn o o' a b c, ρ, μ => andThen (ev F a ρ μ) fun x μ1 => andThen (ev F b ρ μ1) fun y μ2 => match cmpD o x y with
    | some true => andThen (ev F c ρ μ2) fun z μ3 => wthD ((cmpD o' y z).map D.bl) μ3
    | some false => some (.bl false, μ2)
    | none => none
  | .and a b, ρ, μ => onBl (ev F a ρ μ) fun x μ1 => if x then onBl (ev F b ρ μ1) fun y μ2 => some (.bl y, μ2) else some (.bl false, μ1)
  | .or a b, ρ, μ => onBl (ev F a ρ μ) fun x μ1 => if x then some (.bl true, μ1) else onBl (ev F b ρ μ1) fun y μ2 => some (.bl y, μ2)
  | .not a, ρ, μ => onBl (ev F a ρ μ) fun x μ1 => some (.bl (!x), μ1)
  | .ife c a b, ρ, μ => onBl (ev F c ρ μ) fun x μ1 => if x then ev F a ρ μ1 else ev F b ρ μ1
  | .tup es, ρ, μ => if lks ρ es then none else andThen (evs F es ρ μ) fun xs μ1 => if xs.length ≤ sizeLine then some (.tup xs, μ1) else none
  | .lst es, ρ, μ => if lks ρ es then none else andThen (evs F es ρ μ) fun xs μ1 => if xs.length ≤ sizeLine then some (.lst xs, μ1) else none
  | .ix a b, ρ, μ => andThen (ev F a ρ μ) fun x μ1 => andThen (ev F b ρ μ1) fun y μ2 => wthD (ixD μ2 x y) μ2
  | .sl a lo hi, ρ, μ => andThen (ev F a ρ μ) fun x μ1 => andThen (evo F lo ρ μ1) fun l μ2 => andThen (evo F hi ρ μ2) fun h μ3 => wthD (slD x l h) μ3
  | .call f es, ρ, μ => if lks ρ es then none else andThen (evs F es ρ μ) fun xs μ1 => F f xs μ1
  | .callB f es, ρ, μ => andThen (evs F es ρ μ) fun xs μ1 => if noCells xs then (match F f xs [] with
    | some (d, _) => if d.noCell && d.noLst then some (d, μ1) else none
    | none => none) else none
  | .bi b es, ρ, μ => andThen (evs F es ρ μ) fun xs μ1 => wthD (biD μ1 b xs) μ1
  | .isi a t, ρ, μ => andThen (ev F a ρ μ) fun x μ1 => wthD ((isiD x t).map D.bl) μ1
  | .me m o es, ρ, μ => andThen (ev F o ρ μ) fun x μ1 => andThen (evs F es ρ μ1) fun xs μ2 => wthD (meD m x xs) μ2
  | .lc elt tg it cond, ρ, μ => andThen (evi F it ρ μ) fun xs μ1 =>
      if xs.length ≤ 16777216 then andThen (lcGo tg (fun ρ' μ' => evc F cond ρ' μ') (fun ρ' μ' => if lk ρ' elt then none else ev F elt ρ' μ') ρ xs μ1) fun ys μ2 => some (.lst ys, μ2) else none
  | .dict ks es, ρ, μ => if lks ρ es then none else andThen (evs F es ρ μ) fun xs μ1 => if xs.length = ks.length ∧ ks.length ≤ 15 ∧ ks.Nodup then some (.cell μ1.length, μ1 ++ [(ks.map Sum.inr).zip xs]) else none
def evs (F : Fs) : Es → Env → Cells → Rs (List D)
  | .nil, _, μ => some ([], μ)
  | .cons e es, ρ, μ => andThen (ev F e ρ μ) fun x μ1 => andThen (evs F es ρ μ1) fun xs μ2 => some (x :: xs, μ2)
def evo (F : Fs) : EO → Env → Cells → Rs (Option Int)
  | .none, _, μ => some (none, μ)
  | .some e, ρ, μ => andThen (ev F e ρ μ) fun x μ1 => match x with
    | .int i => some (some i, μ1)
    | _ => none
def evc (F : Fs) : EO → Env → Cells → Rs Bool
  | .none, _, μ => some (true, μ)
  | .some e, ρ, μ => onBl (ev F e ρ μ) fun x μ1 => some (x, μ1)
def evi (F : Fs) : It → Env → Cells → Rs (List D)
  | .seq e, ρ, μ => andThen (ev F e ρ μ) fun x μ1 => match x with
    | .lst ds => some (ds, μ1)
    | .tup ds => some (ds, μ1)
    | .str s => some (signs s, μ1)
    | _ => none
  | .rng1 a, ρ, μ => andThen (ev F a ρ μ) fun x μ1 => match x with
    | .int n => if rngOk n then some (rngD 0 n.toNat, μ1) else none
    | _ => none
  | .rng2 a b, ρ, μ => andThen (ev F a ρ μ) fun x μ1 => andThen (ev F b ρ μ1) fun y μ2 => match x, y with
    | .int m, .int n => if rngOk m && rngOk n then some (rngD m (n - m).toNat, μ2) else none
    | _, _ => none
end

/-! ### statements -/
inductive Res where
  | nx (ρ : Env) (μ : Cells) | bk (ρ : Env) (μ : Cells) | ct (ρ : Env) (μ : Cells) | rt (d : D) (μ : Cells)
def whileF (c : Env → Cells → Option (Bool × Cells)) (b : Env → Cells → Option Res) : Nat → Env → Cells → Option Res
  | 0, _, _ => none
  | n + 1, ρ, μ => match c ρ μ with
    | none => none
    | some (false, μ1) => some (.nx ρ μ1)
    | some (true, μ1) => match b ρ μ1 with
      | none => none
      | some (.nx ρ2 μ2) => whileF c b n ρ2 μ2
      | some (.ct ρ2 μ2) => whileF c b n ρ2 μ2
      | some (.bk ρ2 μ2) => some (.nx ρ2 μ2)
      | some (.rt d μ2) => some (.rt d μ2)
def forF (tg : Tg) (b : Env → Cells → Option Res) : List D → Env → Cells → Option Res
  | [], ρ, μ => some (.nx ρ μ)
  | x :: xs, ρ, μ => match bindT tg x ρ with
    | none => none
    | some ρ1 => match b ρ1 μ with
      | none => none
      | some (.nx ρ2 μ2) => forF tg b xs ρ2 μ2
      | some (.ct ρ2 μ2) => forF tg b xs ρ2 μ2
      | some (.bk ρ2 μ2) => some (.nx ρ2 μ2)
      | some (.rt d μ2) => some (.rt d μ2)
/-- whether no slot among these is owned -/
def noOw (ρ : Env) : List Nat → Bool
  | [] => true
  | i :: is => !isOw ρ i && noOw ρ is
mutual
def exec (F : Fs) (W : Nat) : S → Env → Cells → Option Res
  | .asg i e, ρ, μ => if lk ρ e || isOw ρ i then none else andThen (ev F e ρ μ) fun x μ1 => some (.nx (ρ.set i (some (.pl x))) μ1)
  | .own i, ρ, μ => if isOw ρ i then none else some (.nx (ρ.set i (some (.ow []))) μ)
  | .asgT is e, ρ, μ => if lk ρ e || !noOw ρ is then none else andThen (ev F e ρ μ) fun x μ1 => match x with
    | .tup ds => if ds.length = is.length then some (.nx (setAll is ds ρ) μ1) else none
    | _ => none
  | .par i j a b, ρ, μ => if lk ρ a || lk ρ b || isOw ρ i || isOw ρ j || i == j then none else andThen (ev F a ρ μ) fun x μ1 => andThen (ev F b ρ μ1) fun y μ2 => some (.nx ((ρ.set i (some (.pl x))).set j (some (.pl y))) μ2)
  | .aug i o e, ρ, μ => match ρ[i]? with
    | some (some (.pl (.int x))) => andThen (ev F e ρ μ) fun y μ1 => match o, y with
      | .Add, .int y => some (.nx (ρ.set i (some (.pl (.int (x + y))))) μ1)
      | .Sub, .int y => some (.nx (ρ.set i (some (.pl (.int (x - y))))) μ1)
      | _, _ => none
    | _ => none
  | .app i e, ρ, μ => match ρ[i]? with
    | some (some (.ow ds)) => if lk ρ e then none else andThen (ev F e ρ μ) fun x μ1 => if ds.length < sizeLine then some (.nx (ρ.set i (some (.ow (ds ++ [x])))) μ1) else none
    | _ => none
  | .daug o k op e, ρ, μ => andThen (ev F o ρ μ) fun x μ1 => andThen (ev F k ρ μ1) fun y μ2 => match x, keyD y with
    | .cell n, some q => match (μ2[n]?).bind (valC · q) with
      | some (.int i) => andThen (ev F e ρ μ2) fun z μ3 => match op, z, μ3[n]? with
        | .Add, .int j, some c => if c.length < sizeLine then some (.nx ρ (μ3.set n (putC c q (.int (i + j))))) else none
        | .Sub, .int j, some c => if c.length < sizeLine then some (.nx ρ (μ3.set n (putC c q (.int (i - j))))) else none
        | _, _, _ => none
      | _ => none
    | _, _ => none
  | .ret e, ρ, μ => if lk ρ e then none else andThen (ev F e ρ μ) fun x μ1 => some (.rt x μ1)
  | .ifs c a b, ρ, μ => onBl (ev F c ρ μ) fun x μ1 => if x then execs F W a ρ μ1 else execs F W b ρ μ1
  | .whl c b, ρ, μ => whileF (fun ρ' μ' => onBl (ev F c ρ' μ') fun x μ1 => some (x, μ1)) (fun ρ' μ' => execs F W b ρ' μ') W ρ μ
  | .for_ tg it b, ρ, μ => andThen (evi F it ρ μ) fun xs μ1 => if it.lk ρ then none else forF tg (fun ρ' μ' => execs F W b ρ' μ') xs ρ μ1
  | .expr e, ρ, μ => andThen (ev F e ρ μ) fun _ μ1 => some (.nx ρ μ1)
  | .pass, ρ, μ => some (.nx ρ μ)
  | .brk, ρ, μ => some (.bk ρ μ)
  | .cont, ρ, μ => some (.ct ρ μ)
  | .frz i, ρ, μ => match ρ[i]? with
    | some (some (.ow ds)) => some (.nx (ρ.set i (some (.pl (.lst ds)))) μ)
    | _ => none
def execs (F : Fs) (W : Nat) : Ss → Env → Cells → Option Res
  | .nil, ρ, μ => some (.nx ρ μ)
  | .cons s ss, ρ, μ => match exec F W s ρ μ with
    | some (.nx ρ1 μ1) => execs F W ss ρ1 μ1
    | r => r
end
/-- a def: how many parameters, how many slots, its body -/
structure Fn where
  ar : Nat
  sl : Nat
  body : Ss
def runFn (F : Fs) (W : Nat) (fn : Fn) (ds : List D) (μ : Cells) : Option (D × Cells) :=
  if ds.length = fn.ar ∧ fn.ar ≤ fn.sl then
    match execs F W fn.body (ds.map (fun d => some (.pl d)) ++ List.replicate (fn.sl - fn.ar) none) μ with
    | some (.rt d μ1) => some (d, μ1)
    | some (.nx _ μ1) => some (.non, μ1)
    | _ => none
  else none
def call (T : Nat → Option Fn) (W : Nat) : Nat → Fs
  | 0, _, _, _ => none
  | n + 1, f, ds, μ => match T f with
    | some fn => runFn (call T W n) W fn ds μ
    | none => none
end FM

set_option Elab.async false
set_option linter.all false
set_option maxRecDepth 100000
set_option maxHeartbeats 4000000
/-! Ev3: operators, comparisons, subscripts, slices, built-ins, methods: what the evaluator says is what the hand layer's rules give. -/
namespace FM
open PySem PySem.Spec PyProof.Rows L2

/-- a datum's representation, or (b) a list that its slot owns -/
def RepB (K : PySem.W.Frag) (own : Addr → Prop) (ads : List Addr) (H : Hp) (b : Bool) (v : V) (d : D) : Prop :=
  Rep K (Zo own ads) ads H v d ∨ (b = true ∧ ∃ a xs ds, v = .ref a ∧ d = .lst ds ∧ H a = some (.lst xs) ∧ own a ∧ RepL K (Zo own ads) ads H xs ds)
section
variable {K : PySem.W.Frag} {own : Addr → Prop} {ads ads' : List Addr} {H H' : Hp} {μ : Cells} {b : Bool} {v : V} {d : D}
theorem RepB.of (h : Rep K (Zo own ads) ads H v d) : RepB K own ads H b v d := .inl h
theorem RepB.plain (h : RepB K own ads H false v d) : Rep K (Zo own ads) ads H v d := by
  rcases h with h | ⟨h, _⟩
  · exact h
  · cases h
theorem RepB.ext (c : CellsR K own ads H μ) (e : Ext ads H ads' H') (h : RepB K own ads H b v d) : RepB K own ads' H' b v d := by
  rcases h with h | ⟨h, a, xs, ds, e1, e2, e3, e4, e5⟩
  · exact .inl (h.ext e)
  · exact .inr ⟨h, a, xs, ds, e1, e2, e.keep _ _ e3 fun m => c.dis a m e4, e4, e5.ext e⟩
theorem RepB.non (h : RepB K own ads H b v .non) : v = .non := by
  rcases h with h | ⟨_, _, _, _, _, e, _⟩
  · cases h; rfl
  · cases e
theorem RepB.int {i : Int} (h : RepB K own ads H b v (.int i)) : v = .int i := by
  rcases h with h | ⟨_, _, _, _, _, e, _⟩
  · cases h; rfl
  · cases e
theorem RepB.bl {i : Bool} (h : RepB K own ads H b v (.bl i)) : v = .bl i := by
  rcases h with h | ⟨_, _, _, _, _, e, _⟩
  · cases h; rfl
  · cases e
theorem RepB.str {i : Str} (h : RepB K own ads H b v (.str i)) : v = .str i := by
  rcases h with h | ⟨_, _, _, _, _, e, _⟩
  · cases h; rfl
  · cases e
theorem RepB.tup {ds : List D} (h : RepB K own ads H b v (.tup ds)) : ∃ a xs, v = .ref a ∧ TupAt K (Zo own ads) H a xs ∧ RepL K (Zo own ads) ads H xs ds := by
  rcases h with h | ⟨_, _, _, _, _, e, _⟩
  · cases h with
    | tup h1 h2 => exact ⟨_, _, rfl, h1, h2⟩
  · cases e
theorem RepB.lst {ds : List D} (h : RepB K own ads H b v (.lst ds)) : ∃ a xs, v = .ref a ∧ SqL K H a xs ∧ RepL K (Zo own ads) ads H xs ds := by
  rcases h with h | ⟨_, a, xs, ds', e1, e, e3, _, e5⟩
  · cases h with
    | lst h1 h2 => exact ⟨_, _, rfl, h1.sq, h2⟩
  · cases e
    exact ⟨a, xs, e1, .inl (.inl e3), e5⟩
theorem RepB.cell {k : Nat} (h : RepB K own ads H b v (.cell k)) : ∃ a, v = .ref a ∧ ads[k]? = some a := by
  rcases h with h | ⟨_, _, _, _, _, e, _⟩
  · cases h with
    | cell h1 => exact ⟨_, rfl, h1⟩
  · cases e
mutual
theorem Rep.dp {Z : Addr → Prop} : ∀ (d : D) (v : V), Rep K Z ads H v d → d.noCell = true → Dp K H v d.py
  | .non, _, h, _ => by cases h; exact .non
  | .bl b, _, h, _ => by cases h; exact .bl b
  | .int i, _, h, _ => by cases h; exact .int i
  | .str x, _, h, _ => by cases h; exact .str x
  | .tup ds, _, h, n => by
    cases h with
    | tup h1 h2 => exact .tup h1.sq (RepL.dp ds _ h2 n)
  | .lst ds, _, h, n => by
    cases h with
    | lst h1 h2 => exact .lst h1.sq (RepL.dp ds _ h2 n)
  | .cell k, _, h, n => by cases n
theorem RepL.dp {Z : Addr → Prop} : ∀ (ds : List D) (vs : List V), RepL K Z ads H vs ds → noCells ds = true → DpAll K H vs (pyAll ds)
  | [], _, h, _ => by cases h; exact .nil
  | d :: ds, _, h, n => by
    cases h with
    | cons h1 h2 =>
      have n' : (d.noCell && noCells ds) = true := n
      rw [Bool.and_eq_true] at n'
      exact .cons (Rep.dp d _ h1 n'.1) (RepL.dp ds _ h2 n'.2)
end
theorem RepB.dp (h : RepB K own ads H b v d) (n : d.noCell = true) : Dp K H v d.py := by
  rcases h with h | ⟨_, a, xs, ds, e1, e, e3, _, e5⟩
  · exact h.dp d v n
  · subst e1 e
    exact .lst (.inl (.inl e3)) (e5.dp ds xs n)
end

/-- what is wanted behind: the datum z, the cells μ' -/
abbrev Fin (K : PySem.W.Frag) (own : Addr → Prop) (ads : List Addr) (H : Hp) (b : Bool) (z : D) (μ' : Cells) (Q : VK) : Prop :=
  ∀ v H' ads', Ext ads H ads' H' → CellsR K own ads' H' μ' → RepB K own ads' H' b v z → Q v H'
section
variable {K : PySem.W.Frag} {own : Addr → Prop} {ads ads' : List Addr} {H H' : Hp} {μ : Cells} {b : Bool} {Q : VK}
theorem Fin.int {i : Int} (q : Fin K own ads H b (.int i) μ Q) (c : CellsR K own ads H μ) : Q (.int i) H := q _ _ _ .refl c (.inl (.int i))
theorem Fin.bl {i : Bool} (q : Fin K own ads H b (.bl i) μ Q) (c : CellsR K own ads H μ) : Q (.bl i) H := q _ _ _ .refl c (.inl (.bl i))
theorem Fin.str {i : Str} (q : Fin K own ads H b (.str i) μ Q) (c : CellsR K own ads H μ) : Q (.str i) H := q _ _ _ .refl c (.inl (.str i))
theorem Fin.same {v : V} {d : D} (q : Fin K own ads H b d μ Q) (c : CellsR K own ads H μ) (h : Rep K (Zo own ads) ads H v d) : Q v H := q _ _ _ .refl c (.inl h)
theorem Fin.newT {xs : List V} {ds : List D} (q : Fin K own ads H b (.tup ds) μ Q) (c : CellsR K own ads H μ) (h : RepL K (Zo own ads) ads H xs ds) : ∀ p, H p = none → Q (.ref p) (upd H p (.tup xs)) :=
  fun p hp => q _ _ _ (.fresh hp) (c.fresh hp) (.inl (Rep.newTup c hp h))
theorem Fin.newL {xs : List V} {ds : List D} (q : Fin K own ads H b (.lst ds) μ Q) (c : CellsR K own ads H μ) (h : RepL K (Zo own ads) ads H xs ds) : ∀ p, H p = none → Q (.ref p) (upd H p (.lst xs)) :=
  fun p hp => q _ _ _ (.fresh hp) (c.fresh hp) (.inl (Rep.newLst c hp h))
end

/-! ### operators -/
def rD (K : PySem.W.Frag) (o : Operator) : R2 := fun x y H Q => ∃ own ads μ b1 b2 dx dy dz, CellsR K own ads H μ ∧ RepB K own ads H b1 x dx ∧ RepB K own ads H b2 y dy ∧ opD o dx dy = some dz ∧ Fin K own ads H false dz μ Q
section
variable {X : Cx}
theorem op_subB : OpR X (binaryOp .Sub) (fun x y H Q => ∃ i j, x = .bl i ∧ y = .bl j ∧ Q (.int (b2i i - b2i j)) H) := by
  intro pins s σ H x y v u Q I rx ry h
  obtain ⟨i, j, rfl, rfl, q⟩ := h
  cases rx
  cases ry
  exact PyProof.Rows.sub_bool ⟨.int _, H, I.tok _, ⟨_, rfl⟩, q⟩
theorem op_fdivD : OpR X (binaryOp .FloorDiv) (rI (fun i j => divOk i j = true) fun i j => .int (i.fdiv j)) := by
  intro pins s σ H x y v u Q I rx ry h
  obtain ⟨i, j, e1, e2, hc, q⟩ := h
  unfold divOk at hc
  rw [Bool.or_eq_true, decide_eq_true_eq, decide_eq_true_eq] at hc
  rcases hc with hc | hc
  · exact op_fdivN pins s σ H x y v u Q I rx ry ⟨i, j, e1, e2, hc, q⟩
  · refine op_fdivW pins s σ H x y v u Q I rx ry ⟨i, j, e1, e2, hc, ?_⟩
    have e : i.fdiv j = i / j := Int.fdiv_eq_ediv_of_nonneg i (by omega)
    show Q (V.int (i / j)) H
    rw [← e]
    exact q
theorem mulOk_ok {i j : Int} (h : mulOk i j = true) : CMulW i j := by
  unfold mulOk at h
  have z := of_decide_eq_true h
  exact z
theorem powOk_ok {i j : Int} (h : powOk i j = true) : CPow i j := by
  unfold powOk at h
  have z := of_decide_eq_true h
  exact z
theorem op_D (o : Operator) : OpR X (binaryOp o) (rD X.K o) := by
  intro pins s σ H x y v u Q I rx ry h
  obtain ⟨own, ads, μ, b1, b2, dx, dy, dz, c, h1, h2, hz, q⟩ := h
  unfold opD at hz
  split at hz
  · cases hz; exact op_add pins s σ H x y v u Q I rx ry ⟨_, _, h1.int, h2.int, q.int c⟩
  · split at hz
    · cases hz; exact op_add_str pins s σ H x y v u Q I rx ry ⟨_, _, h1.str, h2.str, by assumption, q.str c⟩
    · cases hz
  · split at hz
    · rename_i hl
      cases hz
      obtain ⟨a1, xs, e1, t1, l1⟩ := h1.tup
      obtain ⟨a2, ys, e2, t2, l2⟩ := h2.tup
      refine op_catA pins s σ H x y v u Q I rx ry ⟨a1, a2, xs, ys, e1, e2, t1.sq, t2.sq, by rw [l1.length, l2.length]; exact hl, fun e => ?_, fun _ e => ?_, fun _ _ => q.newT c (l1.append l2)⟩
      · subst e
        cases l1
        exact q.same c (.tup t2 l2)
      · subst e
        cases l2
        rw [List.append_nil] at q
        exact q.same c (.tup t1 l1)
    · cases hz
  · cases hz; exact op_sub pins s σ H x y v u Q I rx ry ⟨_, _, h1.int, h2.int, q.int c⟩
  · cases hz; exact op_subB pins s σ H x y v u Q I rx ry ⟨_, _, h1.bl, h2.bl, q.int c⟩
  · split at hz
    · rename_i hm
      cases hz; exact op_mulW pins s σ H x y v u Q I rx ry ⟨_, _, h1.int, h2.int, mulOk_ok hm, q.int c⟩
    · cases hz
  · split at hz
    · cases hz; exact op_fdivD pins s σ H x y v u Q I rx ry ⟨_, _, h1.int, h2.int, by assumption, q.int c⟩
    · cases hz
  · split at hz
    · cases hz
    · cases hz; exact op_modN pins s σ H x y v u Q I rx ry ⟨_, _, h1.int, h2.int, by assumption, q.int c⟩
  · split at hz
    · rename_i hm
      cases hz; exact op_pow pins s σ H x y v u Q I rx ry ⟨_, _, h1.int, h2.int, powOk_ok hm, q.int c⟩
    · cases hz
  · split at hz
    · rename_i hm
      cases hz; exact op_shl pins s σ H x y v u Q I rx ry ⟨_, _, h1.int, h2.int, powOk_ok hm, q.int c⟩
    · cases hz
  · cases hz
def rN (K : PySem.W.Frag) : V → Hp → VK → Prop := fun x H Q => ∃ own ads μ b1 dx dz, CellsR K own ads H μ ∧ RepB K own ads H b1 x dx ∧ negD dx = some dz ∧ Fin K own ads H false dz μ Q
theorem un_D : UnR X (unaryOp .USub) (rN X.K) := by
  intro pins s σ H x v Q I rx h
  obtain ⟨own, ads, μ, b1, dx, dz, c, h1, hz, q⟩ := h
  unfold negD at hz
  split at hz
  · cases hz; exact un_neg pins s σ H x v Q I rx ⟨_, h1.int, q.int c⟩
  · cases hz
end

/-! ### comparisons -/
theorem eqS_scal {K : PySem.W.Frag} {own : Addr → Prop} {ads : List Addr} {H : Hp} {b1 b2 : Bool} {x y : V} {dx dy : D} (h1 : RepB K own ads H b1 x dx) (h2 : RepB K own ads H b2 y dy) (h : scalOk dx dy = true) :
    scal x y = true ∧ decide (x = y) = eqS dx dy := by
  cases dx <;> cases dy <;> first
    | (exfalso; revert h; decide)
    | (exfalso; revert h; simp [scalOk, D.scal]; done)
    | skip
  all_goals first | (have e1 := h1.non; subst e1) | (have e1 := h1.int; subst e1) | (have e1 := h1.bl; subst e1) | (have e1 := h1.str; subst e1)
  all_goals first | (have e2 := h2.non; subst e2) | (have e2 := h2.int; subst e2) | (have e2 := h2.bl; subst e2) | (have e2 := h2.str; subst e2)
  all_goals refine ⟨rfl, ?_⟩
  all_goals first | rfl | (simp [eqS]; done) | (simp only [eqS]; first | exact dec_int | exact dec_bl | exact dec_str)
theorem eqS_V {K : PySem.W.Frag} {own : Addr → Prop} {ads : List Addr} {H : Hp} {b1 b2 : Bool} {x y : V} {dx dy : D} (h1 : RepB K own ads H b1 x dx) (h2 : RepB K own ads H b2 y dy) (h : scalOk dx dy = true) :
    flatV x = true ∧ flatV y = true ∧ eqV x y = eqS dx dy := by
  cases dx <;> cases dy <;> first
    | (exfalso; revert h; decide)
    | (exfalso; revert h; simp [scalOk, D.scal]; done)
    | skip
  all_goals first | (have e1 := h1.non; subst e1) | (have e1 := h1.int; subst e1) | (have e1 := h1.bl; subst e1) | (have e1 := h1.str; subst e1)
  all_goals first | (have e2 := h2.non; subst e2) | (have e2 := h2.int; subst e2) | (have e2 := h2.bl; subst e2) | (have e2 := h2.str; subst e2)
  all_goals refine ⟨rfl, rfl, ?_⟩
  all_goals first | rfl | (simp [eqS, eqV]; done)
theorem inD_V {K : PySem.W.Frag} {own : Addr → Prop} {ads : List Addr} {H : Hp} {b1 : Bool} {x : V} {dx : D} (h1 : RepB K own ads H b1 x dx) : ∀ {ds : List D} {xs : List V} {r : Bool}, RepL K (Zo own ads) ads H xs ds → inD dx ds = some r → ds ≠ [] →
    flatV x = true ∧ xs.all flatV = true ∧ inV x xs = r
  | [], _, _, _, _, n => absurd rfl n
  | d :: ds, _, r, h, e, _ => by
    cases h with
    | @cons v _ vs _ hv hl =>
      unfold inD at e
      by_cases hs : scalOk d dx = true
      · rw [if_pos hs] at e
        obtain ⟨f1, f2, f3⟩ := eqS_V (RepB.of (b := false) hv) h1 hs
        by_cases he : eqS d dx = true
        · rw [if_pos he] at e
          split at e
          · rename_i ha
            cases e
            refine ⟨f2, ?_, ?_⟩
            · have all : ∀ (ds : List D) (vs : List V), RepL K (Zo own ads) ads H vs ds → ds.all (fun z => scalOk z dx) = true → vs.all flatV = true := by
                intro ds
                induction ds with
                | nil => intro vs h _; cases h; rfl
                | cons d' ds ih =>
                  intro vs h ha
                  cases h with
                  | cons g1 g2 =>
                    rw [List.all_cons, Bool.and_eq_true] at ha
                    rw [List.all_cons, Bool.and_eq_true]
                    exact ⟨(eqS_V (RepB.of (b := false) g1) h1 ha.1).1, ih _ g2 ha.2⟩
              exact all _ _ (.cons hv hl) ha
            · show (List.any (v :: vs) fun y => eqV y x) = true
              rw [List.any_cons, f3, he]
              rfl
          · cases e
        · rw [if_neg he] at e
          by_cases hn : ds = []
          · subst hn
            cases hl
            unfold inD at e
            have e : r = false := by
              split at e
              · cases e; rfl
              · cases e
            subst e
            refine ⟨f2, by simp [f1], ?_⟩
            show (List.any [v] fun y => eqV y x) = false
            rw [List.any_cons, f3]
            simpa using he
          · obtain ⟨g1, g2, g3⟩ := inD_V h1 hl e hn
            refine ⟨g1, by rw [List.all_cons, f1, g2]; rfl, ?_⟩
            show (List.any (v :: vs) fun y => eqV y x) = r
            rw [List.any_cons, f3]
            have he' : eqS d dx = false := by simpa using he
            rw [he', Bool.false_or]
            exact g3
      · rw [if_neg hs] at e
        cases e
def rCm (K : PySem.W.Frag) (o : CmpOp) : R2 := fun x y H Q => ∃ own ads μ b1 b2 dx dy r, CellsR K own ads H μ ∧ RepB K own ads H b1 x dx ∧ RepB K own ads H b2 y dy ∧ cmpD o dx dy = some r ∧ Q (.bl r) H
section
variable {X : Cx}
theorem eq_D {own : Addr → Prop} {ads : List Addr} {H : Hp} {b1 b2 : Bool} {x y : V} {dx dy : D} {r : Bool} (h1 : RepB X.K own ads H b1 x dx) (h2 : RepB X.K own ads H b2 y dy) (h : eqD dx dy = some r) {Q : VK} (q : Q (.bl r) H) :
    rEq x y H Q ∨ rEqD X.K x y H Q := by
  unfold eqD at h
  split at h
  · rename_i hs
    cases h
    obtain ⟨g1, g2⟩ := eqS_scal h1 h2 hs
    exact .inl ⟨g1, by rw [g2]; exact q⟩
  · split at h
    · rename_i hs
      cases h
      rw [Bool.and_eq_true] at hs
      obtain ⟨s1, s2⟩ := hs
      unfold shOk at s1 s2
      rw [Bool.and_eq_true] at s1 s2
      exact .inr ⟨_, _, h1.dp s1.1, h2.dp s2.1, s1.2, s2.2, q⟩
    · cases h
theorem ne_D {own : Addr → Prop} {ads : List Addr} {H : Hp} {b1 b2 : Bool} {x y : V} {dx dy : D} {r : Bool} (h1 : RepB X.K own ads H b1 x dx) (h2 : RepB X.K own ads H b2 y dy) (h : eqD dx dy = some r) {Q : VK} (q : Q (.bl (!r)) H) :
    rNe x y H Q ∨ rNeD X.K x y H Q := by
  unfold eqD at h
  split at h
  · rename_i hs
    cases h
    obtain ⟨g1, g2⟩ := eqS_scal h1 h2 hs
    exact .inl ⟨g1, by rw [g2]; exact q⟩
  · split at h
    · rename_i hs
      cases h
      rw [Bool.and_eq_true] at hs
      obtain ⟨s1, s2⟩ := hs
      unfold shOk at s1 s2
      rw [Bool.and_eq_true] at s1 s2
      exact .inr ⟨_, _, h1.dp s1.1, h2.dp s2.1, s1.2, s2.2, q⟩
    · cases h
theorem isNon_V {own : Addr → Prop} {ads : List Addr} {H : Hp} {b1 : Bool} {x : V} {dx : D} (h1 : RepB X.K own ads H b1 x dx) : decide (x = V.non) = isNon dx := by
  cases dx with
  | non => rw [h1.non]; rfl
  | bl b => rw [h1.bl]; rfl
  | int i => rw [h1.int]; rfl
  | str s => rw [h1.str]; rfl
  | tup ds => obtain ⟨a, xs, e, _⟩ := h1.tup; rw [e]; rfl
  | lst ds => obtain ⟨a, xs, e, _⟩ := h1.lst; rw [e]; rfl
  | cell k => obtain ⟨a, e, _⟩ := h1.cell; rw [e]; rfl
theorem flat_V {own : Addr → Prop} {ads : List Addr} {H : Hp} {b1 : Bool} {x : V} {dx : D} (h1 : RepB X.K own ads H b1 x dx) (h : dx.flat = true) : flatV x = true := by
  cases dx with
  | non => rw [h1.non]; rfl
  | bl b => rw [h1.bl]; rfl
  | int i => rw [h1.int]; rfl
  | str s => rw [h1.str]; rfl
  | _ => cases h
/-- x in xs, where it is said; of the empty one if x is flat -/
theorem in_D {own : Addr → Prop} {ads : List Addr} {H : Hp} {b1 : Bool} {x : V} {dx : D} {ds : List D} {xs : List V} {r : Bool} (h1 : RepB X.K own ads H b1 x dx) (l : RepL X.K (Zo own ads) ads H xs ds) (h : inD dx ds = some r) :
    flatV x = true ∧ xs.all flatV = true ∧ inV x xs = r := by
  by_cases hn : ds = []
  · subst hn
    cases l
    unfold inD at h
    split at h
    · rename_i hf
      cases h
      exact ⟨flat_V h1 hf, rfl, rfl⟩
    · cases h
  · exact inD_V h1 l h hn
theorem cm_D (hu : X.A.units + 64 < cLine) (o : CmpOp) : OpR X (compareOp o) (rCm X.K o) := by
  intro pins s σ H x y v u Q I rx ry h
  obtain ⟨own, ads, μ, b1, b2, dx, dy, r, c, h1, h2, hz, q⟩ := h
  unfold cmpD at hz
  split at hz
  · rcases eq_D h1 h2 hz q with h | h
    · exact op_eq pins s σ H x y v u Q I rx ry h
    · exact op_eqD hu pins s σ H x y v u Q I rx ry h
  · obtain ⟨r', hr, e⟩ := Option.map_eq_some_iff.mp hz
    subst e
    rcases ne_D h1 h2 hr q with h | h
    · exact op_ne pins s σ H x y v u Q I rx ry h
    · exact op_neD hu pins s σ H x y v u Q I rx ry h
  · cases hz; exact op_lt pins s σ H x y v u Q I rx ry ⟨_, _, h1.int, h2.int, q⟩
  · cases hz; exact op_le pins s σ H x y v u Q I rx ry ⟨_, _, h1.int, h2.int, q⟩
  · cases hz; exact op_gt pins s σ H x y v u Q I rx ry ⟨_, _, h1.int, h2.int, q⟩
  · cases hz; exact op_ge pins s σ H x y v u Q I rx ry ⟨_, _, h1.int, h2.int, q⟩
  · cases hz; exact op_isN pins s σ H x y v u Q I rx ry ⟨h2.non, by rw [isNon_V h1]; exact q⟩
  · cases hz; exact op_notN pins s σ H x y v u Q I rx ry ⟨h2.non, by rw [isNon_V h1]; exact q⟩
  · cases hz; exact op_is_bl pins s σ H x y v u Q I rx ry ⟨_, _, h1.bl, h2.bl, q⟩
  · cases hz; exact op_isnot_bl pins s σ H x y v u Q I rx ry ⟨_, _, h1.bl, h2.bl, q⟩
  · cases hz; exact op_in_str pins s σ H x y v u Q I rx ry ⟨_, _, h1.str, h2.str, q⟩
  · obtain ⟨a, xs, e, t, l⟩ := h2.tup
    obtain ⟨g1, g2, g3⟩ := in_D h1 l hz
    exact op_in_seq pins s σ H x y v u Q I rx ry ⟨a, xs, e, .inr t.sq, g1, g2, by rw [if_neg Bool.false_ne_true, g3]; exact q⟩
  · obtain ⟨a, xs, e, t, l⟩ := h2.lst
    obtain ⟨g1, g2, g3⟩ := in_D h1 l hz
    exact op_in_seq pins s σ H x y v u Q I rx ry ⟨a, xs, e, .inl t, g1, g2, by rw [if_neg Bool.false_ne_true, g3]; exact q⟩
  · obtain ⟨r', hr, e⟩ := Option.map_eq_some_iff.mp hz
    subst e
    obtain ⟨a, xs, e, t, l⟩ := h2.tup
    obtain ⟨g1, g2, g3⟩ := in_D h1 l hr
    exact op_notIn_seq pins s σ H x y v u Q I rx ry ⟨a, xs, e, .inr t.sq, g1, g2, by rw [if_pos rfl, g3]; exact q⟩
  · obtain ⟨r', hr, e⟩ := Option.map_eq_some_iff.mp hz
    subst e
    obtain ⟨a, xs, e, t, l⟩ := h2.lst
    obtain ⟨g1, g2, g3⟩ := in_D h1 l hr
    exact op_notIn_seq pins s σ H x y v u Q I rx ry ⟨a, xs, e, .inl t, g1, g2, by rw [if_pos rfl, g3]; exact q⟩
  · cases hz
end
end FM

set_option Elab.async false
set_option linter.all false
set_option maxRecDepth 100000
set_option maxHeartbeats 4000000
/-! Ev4: subscripts, slices, built-ins, methods. -/
namespace FM
open PySem PySem.Spec PyProof.Rows L2

/-! ### subscripts -/
theorem atI_rep {K : PySem.W.Frag} {Z : Addr → Prop} {ads : List Addr} {H : Hp} {xs : List V} {ds : List D} {i : Int} {d : D} (l : RepL K Z ads H xs ds) (h : atI ds i = some d) : ∃ v, atI xs i = some v ∧ Rep K Z ads H v d := by
  unfold atI at h ⊢
  rw [l.length]
  cases e : ixN ds.length i with
  | none => rw [e] at h; cases h
  | some j =>
    rw [e] at h
    obtain ⟨v, h1, h2⟩ := l.get (show ds[j]? = some d from h)
    exact ⟨v, h1, h2⟩
theorem valC_rep {K : PySem.W.Frag} {Z : Addr → Prop} {ads : List Addr} {H : Hp} {k : Key} : ∀ {kvs : List (Key × V)} {c : Cell} {d : D}, RepKV K Z ads H kvs c → valC c k = some d → ∃ v, valV kvs k = some v ∧ Rep K Z ads H v d
  | [], [], _, _, h => by cases h
  | [], _ :: _, _, r, _ => by cases r.1
  | _ :: _, [], _, r, _ => by cases r.1
  | (k1, v1) :: kvs, (k2, d2) :: c, d, ⟨r1, r2⟩, h => by
    have r1' : k1 :: kvs.map (·.1) = k2 :: c.map (·.1) := r1
    have r2' : RepL K Z ads H (v1 :: kvs.map (·.2)) (d2 :: c.map (·.2)) := r2
    injection r1' with e1 e2
    subst e1
    cases r2' with
    | cons g1 g2 =>
      by_cases e : k1 = k
      · refine ⟨v1, valV_pos e, ?_⟩
        have z : valC ((k1, d2) :: c) k = some d2 := by simp [valC, List.find?_cons, e]
        rw [z] at h
        cases h
        exact g1
      · have z : valC ((k1, d2) :: c) k = valC c k := by simp [valC, List.find?_cons, e]
        rw [z] at h
        rw [valV_neg (p := (k1, v1)) e]
        exact valC_rep ⟨e2, g2⟩ h
theorem keyD_V {K : PySem.W.Frag} {own : Addr → Prop} {ads : List Addr} {H : Hp} {b : Bool} {v : V} {d : D} {k : Key} (h : RepB K own ads H b v d) (e : keyD d = some k) : v = kV k := by
  cases d with
  | int i => cases e; exact h.int
  | str s => cases e; exact h.str
  | _ => cases e
def rIxD' (K : PySem.W.Frag) : R2 := fun x y H Q => ∃ own ads μ b1 b2 dx dy dz, CellsR K own ads H μ ∧ RepB K own ads H b1 x dx ∧ RepB K own ads H b2 y dy ∧ ixD μ dx dy = some dz ∧ Fin K own ads H false dz μ Q
section
variable {X : Cx}
theorem ix_dict (hu : X.A.units + 1 < cLine) : IxR X (fun x y H Q => ∃ a v, x = .ref a ∧ DGet H a y (some v) ∧ Q v H) := by
  intro value slice pins s σ H x y v u Q I rx ry h hs
  obtain ⟨a, w, rfl, g, q⟩ := h
  obtain rfl : v = Value.ref a := rx
  unfold subscriptTail
  have hT := dict_typeIs I g
  refine wpAny_bind ?_
  rw [getitemInPython_of_ne hT.not_modules]
  refine wpAny_bind (wpAny_specialOf hT PySem.F.slot_dict_getitem.lookup ?_)
  have fin : wpAny (model X.prog X.w) X.A (subscripted slice false (.ref a) u) (fun r s₃ => wpAny (model X.prog X.w) X.A (letTemporaryGo value (.ref a) r >>= fun _ => pure r) (EP X pins σ Q) X.xe s₃) X.xe s := by
    rw [hs]
    exact wpAny_operating (d_getItem hu I g ry fun w' s' I' r' => wpAny_bind (wpAny_letTemporaryGo (wpAny_pure ⟨w, H, I', r', q⟩)))
  first
    | exact wpAny_pure (wpAny_bind fin)
    | exact wpAny_bind (wpAny_pure (wpAny_bind fin))
    | exact wpAny_bind fin
theorem ix_D (hu : X.A.units + 1 < cLine) : IxR X (rIxD' X.K) := by
  intro value slice pins s σ H x y v u Q I rx ry h hs
  obtain ⟨own, ads, μ, b1, b2, dx, dy, dz, c, h1, h2, hz, q⟩ := h
  unfold ixD at hz
  split at hz
  · obtain ⟨a, xs, e, t, l⟩ := h1.lst
    obtain ⟨w, g1, g2⟩ := atI_rep l hz
    exact ix_list value slice pins s σ H x y v u Q I rx ry ⟨a, xs, _, w, e, h2.int, t, g1, q.same c g2⟩ hs
  · obtain ⟨a, xs, e, t, l⟩ := h1.tup
    obtain ⟨w, g1, g2⟩ := atI_rep l hz
    exact ix_tup value slice pins s σ H x y v u Q I rx ry ⟨a, xs, _, w, e, h2.int, t.sq, g1, q.same c g2⟩ hs
  · split at hz
    · rename_i hl
      obtain ⟨c', hc, e⟩ := Option.map_eq_some_iff.mp hz
      subst e
      exact ix_str value slice pins s σ H x y v u Q I rx ry ⟨_, _, c', h1.str, h2.int, hl, hc, q.str c⟩ hs
    · cases hz
  · split at hz
    · rename_i k _ _ cl qk e1 e2
      obtain ⟨a, e, ha⟩ := h1.cell
      obtain ⟨kvs, kds, m1, m2, m3⟩ := c.at k a ha
      rw [e1] at m1
      cases m1
      obtain ⟨w, g1, g2⟩ := valC_rep m3 hz
      refine ix_dict hu value slice pins s σ H x y v u Q I rx ry ⟨a, w, e, ?_, q.same c g2⟩ hs
      rw [keyD_V h2 e2, ← g1]
      exact DGet.k m2
    · cases hz
  · cases hz
/-! ### slices -/
theorem cutV_D {α : Type} (xs : List V) (ys : List α) (e : xs.length = ys.length) (lo hi : Option Int) : cutV xs lo hi = cutD xs lo hi := rfl
theorem RepL.cut {K : PySem.W.Frag} {Z : Addr → Prop} {ads : List Addr} {H : Hp} {xs : List V} {ds : List D} (l : RepL K Z ads H xs ds) (lo hi : Option Int) : RepL K Z ads H (cutV xs lo hi) (cutD ds lo hi) := by
  unfold cutV cutD
  rw [l.length]
  exact (l.drop _).take _
theorem cutD_whole {α : Type} (xs : List α) (lo hi : Option Int) (h : HT.sIx xs.length 0 lo = 0 ∧ HT.sIx xs.length xs.length hi = xs.length) : cutD xs lo hi = xs := by
  unfold cutD
  rw [h.1, h.2]
  simp
def rSlD (K : PySem.W.Frag) : V → Option Int → Option Int → Hp → VK → Prop := fun x lo hi H Q => ∃ own ads μ b1 dx dz, CellsR K own ads H μ ∧ RepB K own ads H b1 x dx ∧ slD dx lo hi = some dz ∧ Fin K own ads H false dz μ Q
theorem sl_D : SlR X (rSlD X.K) := by
  intro pins s σ H x v vl vu lo hi sl Q I rx hs pl pu h
  obtain ⟨own, ads, μ, b1, dx, dz, c, h1, hz, q⟩ := h
  unfold slD at hz
  split at hz
  · cases hz
    obtain ⟨a, xs, e, t, l⟩ := h1.tup
    refine sl_tupA pins s σ H x v vl vu lo hi sl Q I rx hs pl pu ⟨a, xs, e, t.sq, fun w => ?_, fun w => q.newT c (l.cut lo hi)⟩
    rw [l.length] at w
    rw [cutD_whole _ lo hi w] at q
    exact q.same c (.tup t l)
  · cases hz
    obtain ⟨a, xs, e, t, l⟩ := h1.lst
    exact sl_list pins s σ H x v vl vu lo hi sl Q I rx hs pl pu ⟨a, xs, e, t, q.newL c (l.cut lo hi)⟩
  · split at hz
    · rename_i hl
      cases hz
      exact sl_str pins s σ H x v vl vu lo hi sl Q I rx hs pl pu ⟨_, h1.str, hl, by
        have z := q.str c
        unfold cutD at z
        exact z⟩
    · cases hz
  · cases hz
end

/-! ### built-ins -/
theorem asBls_ok : ∀ {ds : List D} {bs : List Bool}, asBls ds = some bs → ds = bs.map D.bl
  | [], _, h => by cases h; rfl
  | d :: ds, bs, h => by
    cases d with
    | bl b =>
      obtain ⟨r, h1, e⟩ := Option.map_eq_some_iff.mp (show (asBls ds).map (b :: ·) = some bs from h)
      subst e
      rw [asBls_ok h1]
      rfl
    | _ => cases h
theorem asInts_ok : ∀ {ds : List D} {bs : List Int}, asInts ds = some bs → ds = bs.map D.int
  | [], _, h => by cases h; rfl
  | d :: ds, bs, h => by
    cases d with
    | int b =>
      obtain ⟨r, h1, e⟩ := Option.map_eq_some_iff.mp (show (asInts ds).map (b :: ·) = some bs from h)
      subst e
      rw [asInts_ok h1]
      rfl
    | _ => cases h
theorem asStrs_ok : ∀ {ds : List D} {bs : List Str}, asStrs ds = some bs → ds = bs.map D.str
  | [], _, h => by cases h; rfl
  | d :: ds, bs, h => by
    cases d with
    | str b =>
      obtain ⟨r, h1, e⟩ := Option.map_eq_some_iff.mp (show (asStrs ds).map (b :: ·) = some bs from h)
      subst e
      rw [asStrs_ok h1]
      rfl
    | _ => cases h
def Bi.name : Bi → Str
  | .len => "len" | .tuple => "tuple" | .list => "list" | .all => "all" | .any => "any" | .abs => "abs" | .int => "int" | .str => "str" | .max2 => "max" | .min2 => "min" | .sum => "sum"
def Bi.val : Bi → Value
  | .len => .builtin "len" | .tuple => .type "tuple" | .list => .type "list" | .all => .builtin "all" | .any => .builtin "any" | .abs => .builtin "abs" | .int => .type "int" | .str => .type "str"
  | .max2 => .builtin "max" | .min2 => .builtin "min" | .sum => .builtin "sum"
theorem Bi.boot (b : Bi) : bootBuiltins b.name = some b.val := by cases b <;> decide +kernel
/-- several values -/
def RepBL (K : PySem.W.Frag) (own : Addr → Prop) (ads : List Addr) (H : Hp) : List V → List D → Prop
  | [], [] => True
  | v :: vs, d :: ds => RepB K own ads H true v d ∧ RepBL K own ads H vs ds
  | _, _ => False
theorem RepBL.one {K : PySem.W.Frag} {own : Addr → Prop} {ads : List Addr} {H : Hp} {vs : List V} {d : D} (h : RepBL K own ads H vs [d]) : ∃ v, vs = [v] ∧ RepB K own ads H true v d := by
  cases vs with
  | nil => exact h.elim
  | cons v vs =>
    cases vs with
    | nil => exact ⟨v, rfl, h.1⟩
    | cons _ _ => exact h.2.elim
theorem RepBL.two {K : PySem.W.Frag} {own : Addr → Prop} {ads : List Addr} {H : Hp} {vs : List V} {d e : D} (h : RepBL K own ads H vs [d, e]) : ∃ v w, vs = [v, w] ∧ RepB K own ads H true v d ∧ RepB K own ads H true w e := by
  cases vs with
  | nil => exact h.elim
  | cons v vs =>
    obtain ⟨w, e, h2⟩ := RepBL.one h.2
    subst e
    exact ⟨v, w, rfl, h.1, h2⟩
theorem RepBL.ext {K : PySem.W.Frag} {own : Addr → Prop} {ads ads' : List Addr} {H H' : Hp} {μ : Cells} (c : CellsR K own ads H μ) (e : Ext ads H ads' H') : ∀ {vs : List V} {ds : List D}, RepBL K own ads H vs ds → RepBL K own ads' H' vs ds
  | [], [], _ => True.intro
  | v :: vs, d :: ds, h => ⟨h.1.ext c e, RepBL.ext c e h.2⟩
  | [], _ :: _, h => h.elim
  | _ :: _, [], h => h.elim
def rBi (K : PySem.W.Frag) (b : Bi) : List V → Hp → VK → Prop := fun xs H Q => ∃ own ads μ ds dz, CellsR K own ads H μ ∧ RepBL K own ads H xs ds ∧ biD μ b ds = some dz ∧ Fin K own ads H false dz μ Q
section
variable {X : Cx}
theorem bi_D (hc : X.calm = true) (b : Bi) : CallR X b.val (rBi X.K b) := by
  intro pins s σ H xs us Q I r h
  obtain ⟨own, ads, μ, ds, dz, c, h1, hz, q⟩ := h
  unfold biD at hz
  split at hz
  · cases hz
    obtain ⟨v, e, h2⟩ := h1.one
    obtain ⟨a, ys, e2, t, l⟩ := h2.lst
    subst e e2
    exact call_len_seq pins s σ H _ us Q I r ⟨a, ys, rfl, .inl t, by rw [l.length]; exact q.int c⟩
  · cases hz
    obtain ⟨v, e, h2⟩ := h1.one
    obtain ⟨a, ys, e2, t, l⟩ := h2.tup
    subst e e2
    exact call_len_seq pins s σ H _ us Q I r ⟨a, ys, rfl, .inr t.sq, by rw [l.length]; exact q.int c⟩
  · split at hz
    · rename_i hl
      cases hz
      obtain ⟨v, e, h2⟩ := h1.one
      have e2 := h2.str
      subst e e2
      exact call_len_str pins s σ H _ us Q I r ⟨_, rfl, hl, q.int c⟩
    · cases hz
  · cases hz
    obtain ⟨v, e, h2⟩ := h1.one
    obtain ⟨a, ys, e2, t, l⟩ := h2.lst
    subst e e2
    exact call_tuple_of pins s σ H _ us Q I r ⟨a, ys, rfl, .inl ⟨t, q.newT c l⟩⟩
  · cases hz
    obtain ⟨v, e, h2⟩ := h1.one
    obtain ⟨a, ys, e2, t, l⟩ := h2.tup
    subst e e2
    exact call_tuple_of pins s σ H _ us Q I r ⟨a, ys, rfl, .inr ⟨t.sq, q.same c (.tup t l)⟩⟩
  · cases hz
    obtain ⟨v, e, h2⟩ := h1.one
    obtain ⟨a, ys, e2, t, l⟩ := h2.lst
    subst e e2
    exact call_list_of pins s σ H _ us Q I r ⟨a, ys, rfl, .inl t, q.newL c l⟩
  · cases hz
    obtain ⟨v, e, h2⟩ := h1.one
    obtain ⟨a, ys, e2, t, l⟩ := h2.tup
    subst e e2
    exact call_list_of pins s σ H _ us Q I r ⟨a, ys, rfl, .inr t.sq, q.newL c l⟩
  · obtain ⟨bs, hb, e0⟩ := Option.map_eq_some_iff.mp hz
    subst e0
    obtain ⟨v, e, h2⟩ := h1.one
    obtain ⟨a, ys, e2, t, l⟩ := h2.lst
    subst e e2
    rw [asBls_ok hb] at l
    have e3 := l.bls
    subst e3
    exact cr_all hc pins s σ H _ us Q I r ⟨a, bs, rfl, t, q.bl c⟩
  · obtain ⟨bs, hb, e0⟩ := Option.map_eq_some_iff.mp hz
    subst e0
    obtain ⟨v, e, h2⟩ := h1.one
    obtain ⟨a, ys, e2, t, l⟩ := h2.lst
    subst e e2
    rw [asBls_ok hb] at l
    have e3 := l.bls
    subst e3
    exact cr_any hc pins s σ H _ us Q I r ⟨a, bs, rfl, t, q.bl c⟩
  · obtain ⟨bs, hb, e0⟩ := Option.map_eq_some_iff.mp hz
    subst e0
    obtain ⟨v, e, h2⟩ := h1.one
    obtain ⟨a, ys, e2, t, l⟩ := h2.lst
    subst e e2
    rw [asInts_ok hb] at l
    have e3 := l.ints
    subst e3
    exact cr_sum hc pins s σ H _ us Q I r ⟨a, bs, rfl, t, q.int c⟩
  · cases hz
    obtain ⟨v, e, h2⟩ := h1.one
    have e2 := h2.int
    subst e e2
    exact call_abs pins s σ H _ us Q I r ⟨_, rfl, q.int c⟩
  · cases hz
    obtain ⟨v, e, h2⟩ := h1.one
    have e2 := h2.int
    subst e e2
    exact call_int1 pins s σ H _ us Q I r (.inl ⟨_, rfl, q.int c⟩)
  · split at hz
    · rename_i hn
      split at hz
      · rename_i hl
        cases hz
        obtain ⟨v, e, h2⟩ := h1.one
        have e2 := h2.str
        subst e e2
        exact call_int_str pins s σ H _ us Q I r ⟨_, _, rfl, hn, hl, q.int c⟩
      · cases hz
    · cases hz
  · split at hz
    · rename_i hl
      cases hz
      obtain ⟨v, e, h2⟩ := h1.one
      have e2 := h2.int
      subst e e2
      exact call_str_int pins s σ H _ us Q I r ⟨_, rfl, hl, q.str c⟩
    · cases hz
  · cases hz
    obtain ⟨v, w, e, h2, h3⟩ := h1.two
    have e2 := h2.int
    have e3 := h3.int
    subst e e2 e3
    exact call_max2 hc pins s σ H _ us Q I r ⟨_, _, rfl, q.int c⟩
  · cases hz
    obtain ⟨v, w, e, h2, h3⟩ := h1.two
    have e2 := h2.int
    have e3 := h3.int
    subst e e2 e3
    exact call_min2 hc pins s σ H _ us Q I r ⟨_, _, rfl, q.int c⟩
  · cases hz
end

/-! ### isinstance -/
def Ty.name : Ty → String
  | .int => "int" | .bool => "bool" | .str => "str" | .tuple => "tuple" | .list => "list"
def Ty.py : Ty → Str
  | .int => "int" | .bool => "bool" | .str => "str" | .tuple => "tuple" | .list => "list"
theorem Ty.boot (t : Ty) : bootBuiltins t.py = some (.type t.name) := by cases t <;> decide +kernel
theorem isi_kit {K : PySem.W.Frag} {own : Addr → Prop} {ads : List Addr} {H : Hp} {b : Bool} {v : V} {d : D} {t : Ty} {r : Bool} (h : RepB K own ads H b v d) (e : isiD d t = some r) : ∃ u, TyX K H v u ∧ PySem.W.kitOne K u (.type t.name) = some r := by
  cases d with
  | non =>
    rw [h.non]
    refine ⟨_, .base .non, kit_ty ?_⟩
    cases t <;> (cases e; decide +kernel)
  | bl x =>
    rw [h.bl]
    refine ⟨_, .base (.bl x), kit_ty ?_⟩
    cases t <;> (cases e; decide +kernel)
  | int x =>
    rw [h.int]
    refine ⟨_, .base (.int x), kit_ty ?_⟩
    cases t <;> (cases e; decide +kernel)
  | str x =>
    rw [h.str]
    refine ⟨_, .base (.str x), kit_ty ?_⟩
    cases t <;> (cases e; decide +kernel)
  | tup ds =>
    obtain ⟨a, xs, e1, t1, l⟩ := h.tup
    rw [e1]
    have ty : TyX K H (.ref a) (.type "tuple") := by
      rcases t1 with ⟨t1 | ⟨o, t1⟩, _⟩ | ⟨o, its, n, t1, t2, _⟩
      · exact .base (.tup t1)
      · exact .fTuple t1
      · exact .kTuple t1 t2
    refine ⟨_, ty, kit_ty ?_⟩
    cases t <;> (cases e; decide +kernel)
  | lst ds =>
    obtain ⟨a, xs, e1, t1, l⟩ := h.lst
    rw [e1]
    have ty : TyX K H (.ref a) (.type "list") := by
      rcases t1 with (t1 | ⟨o, t1⟩) | ⟨o, its, n, t1, t2, _⟩
      · exact .base (.lst t1)
      · exact .base (.frz t1)
      · exact .kList t1 t2
    refine ⟨_, ty, kit_ty ?_⟩
    cases t <;> (cases e; decide +kernel)
  | cell k => cases e

/-! ### methods -/
def Me.name : Me → Str
  | .bits => "bit_length" | .partition => "partition" | .join => "join"
end FM

set_option Elab.async false
set_option linter.all false
set_option maxRecDepth 100000
set_option maxHeartbeats 4000000
/-! Ev5: the look at the real tree; expressions. -/
namespace FM
open PySem PySem.Spec PyProof.Rows L2

/-! ### the look -/
def visB (sc : Scope) (x : Str) : Bool := match sc.names.lookup x with
  | some .local => true
  | some .cell => true
  | some .free => true
  | _ => false
def gloB (sc : Scope) (x : Str) : Bool := match sc.names.lookup x with
  | some .globalImplicit => true
  | _ => false
def locB (sc : Scope) (x : Str) : Bool := match sc.names.lookup x with
  | some .local => true
  | some .cell => true
  | _ => false
def notStar : Expr → Bool
  | .Starred _ _ => false
  | _ => true
def notSlice : Expr → Bool
  | .Slice _ _ _ _ => false
  | _ => true
def notSet : Expr → Bool
  | .Set _ _ _ => false
  | _ => true
def notCall : Expr → Bool
  | .Call _ _ _ _ => false
  | _ => true
theorem starEach_cons {e : Expr} (h : notStar e = true) (es : List Expr) (env : PySem.Env) : starEach (e :: es) env = (false, eval e env) :: starEach es env := by
  cases e <;> first | rfl | cases h
theorem plainIx_of {e : Expr} (h : notSlice e = true) : PlainIx e := by
  intro o i
  cases e <;> first | rfl | cases h
theorem folded_of {e : Expr} (h : notSet e = true) (env : PySem.Env) (x : Value) : foldedSetIterable e env x = pure x := by
  cases e <;> first | rfl | cases h
theorem marks_of {e : Expr} (h : notSet e = true) (o : CmpOp) : behindInMarks o e = false := by
  cases e <;> first | rfl | cases h
/-- the base of a method's call: no super() -/
def baseOk : Expr → Bool
  | .Call (.Name _ _) [] [] _ => false
  | _ => true
theorem base_of {o : Expr} (h : baseOk o = true) (m : Str) (env : PySem.Env) : attributeBase o m env (eval o env) = eval o env := by
  unfold attributeBase
  split
  · cases h
  · rfl
def nameIs (N : List Str) (sc : Scope) (i : Nat) (x : Str) : Bool := decide (N[i]? = some x) && visB sc x && !(x == ("__debug__" : Str)) && !(x == ("__classdict__" : Str))
def ownOf (N : List Str) : List Nat → List (Str × Nat)
  | [] => []
  | i :: is => (N.getD i "", i) :: ownOf N is
def Tg.slots : Tg → List Nat
  | .nm i => [i]
  | .tp is => is
def chkTs (N : List Str) (sc : Scope) : List Nat → List Expr → Bool
  | [], [] => true
  | i :: is, .Name x _ :: es => decide (N[i]? = some x) && locB sc x && chkTs N sc is es
  | _, _ => false
def chkTg (N : List Str) (sc : Scope) : Tg → Expr → Bool
  | .nm i, .Name x _ => decide (N[i]? = some x) && locB sc x
  | .tp is, .Tuple es _ _ => chkTs N sc is es && decide is.Nodup
  | _, _ => false
def Bi.argsOk : Bi → List Expr → Bool
  | _, [] => false
  | _, _ => true
def chkKs : List Str → List (Option Expr) → Bool
  | [], [] => true
  | k :: ks, some (.Constant (.str j) _ _) :: r => decide (k = j) && chkKs ks r
  | _, _ => false
def Me.arOk : Me → List Expr → Bool
  | .bits, xs => xs.isEmpty
  | _, xs => xs.length == 1
mutual
def chkE (N fs : List Str) : E → Scope → Expr → Bool
  | .var i, sc, .Name x _ => nameIs N sc i x
  | .int i, _, .Constant (.int j) _ _ => decide (i = j)
  | .bl i, _, .Constant (.bool j) _ _ => decide (i = j)
  | .non, _, .Constant .none _ _ => true
  | .str i, _, .Constant (.str j) _ _ => decide (i = j)
  | .op o a b, sc, .BinOp x o' y _ => decide (o = o') && chkE N fs a sc x && chkE N fs b sc y
  | .neg a, sc, .UnaryOp .USub x _ => chkE N fs a sc x
  | .cmp o a b, sc, .Compare x [o'] [y] _ => decide (o = o') && notSet y && chkE N fs a sc x && chkE N fs b sc y
  | .chn o p a b c, sc, .Compare x [o', p'] [y, z] _ => decide (o = o') && decide (p = p') && notSet y && notSet z && chkE N fs a sc x && chkE N fs b sc y && chkE N fs c sc z
  | .and a b, sc, .BoolOp .And (x :: y :: r) pos => chkE N fs a sc x && (if r.isEmpty then chkE N fs b sc y else chkE N fs b sc (.BoolOp .And (y :: r) pos))
  | .or a b, sc, .BoolOp .Or (x :: y :: r) pos => chkE N fs a sc x && (if r.isEmpty then chkE N fs b sc y else chkE N fs b sc (.BoolOp .Or (y :: r) pos))
  | .not a, sc, .UnaryOp .Not x _ => chkE N fs a sc x
  | .ife c a b, sc, .IfExp z x y _ => chkE N fs c sc z && chkE N fs a sc x && chkE N fs b sc y
  | .tup es, sc, .Tuple xs _ _ => chkEs N fs es sc xs
  | .lst es, sc, .List xs _ => chkEs N fs es sc xs
  | .ix a b, sc, .Subscript x y _ => notSlice y && chkE N fs a sc x && chkE N fs b sc y
  | .sl a lo hi, sc, .Subscript x (.Slice l h none _) _ => chkE N fs a sc x && chkEO N fs lo sc l && chkEO N fs hi sc h
  | .call f es, sc, .Call (.Name g _) xs [] _ => decide (fs[f]? = some g) && gloB sc g && !(g == ("__debug__" : Str)) && chkEs N fs es sc xs
  | .callB f es, sc, .Call (.Name g _) xs [] _ => decide (fs[f]? = some g) && gloB sc g && !(g == ("__debug__" : Str)) && chkEs N fs es sc xs && !xs.isEmpty
  | .bi b es, sc, .Call (.Name g _) xs [] _ => decide (g = b.name) && gloB sc g && !xs.isEmpty && chkEs N fs es sc xs
  | .isi a t, sc, .Call (.Name g _) [x, .Name h _] [] _ => decide (g = "isinstance") && gloB sc g && decide (h = t.py) && gloB sc h && notStar x && chkE N fs a sc x
  | .me m o es, sc, .Call (.Attribute x g apos) xs [] cpos => decide (g = m.name) && (apos.endLine == cpos.line) && baseOk x && chkE N fs o sc x && m.arOk xs && chkEs N fs es sc xs
  | .lc elt tg it cond, sc, .ListComp x [⟨t, i, ifs, n⟩] scope _ => decide (n = 0) && blkC N sc scope (ownOf N tg.slots) && notSet i && chkTg N scope tg t && chkIt N fs it sc i && chkC N fs cond scope ifs && chkE N fs elt scope x
  | .dict ks es, sc, .Dict keys values _ => chkKs ks keys && decide (keys.length = values.length) && !keys.isEmpty && chkEs N fs es sc values
  | _, _, _ => false
def chkEs (N fs : List Str) : Es → Scope → List Expr → Bool
  | .nil, _, [] => true
  | .cons e es, sc, x :: xs => notStar x && chkE N fs e sc x && chkEs N fs es sc xs
  | _, _, _ => false
def chkEO (N fs : List Str) : EO → Scope → Option Expr → Bool
  | .none, _, none => true
  | .some e, sc, some x => chkE N fs e sc x
  | _, _, _ => false
def chkC (N fs : List Str) : EO → Scope → List Expr → Bool
  | .none, _, [] => true
  | .some e, sc, [x] => chkE N fs e sc x
  | _, _, _ => false
def chkIt (N fs : List Str) : It → Scope → Expr → Bool
  | .seq e, sc, x => chkE N fs e sc x
  | .rng1 a, sc, .Call (.Name g _) [x] [] _ => decide (g = "range") && gloB sc g && notStar x && chkE N fs a sc x
  | .rng2 a b, sc, .Call (.Name g _) [x, y] [] _ => decide (g = "range") && gloB sc g && notStar x && notStar y && chkE N fs a sc x && chkE N fs b sc y
  | _, _, _ => false
end

/-! ### where one stands -/
/-- a def's promise: what F says of plain arguments -/
def spF (K : PySem.W.Frag) (ar : Nat) (F : List D → Cells → Option (D × Cells)) : Sp := fun vs H Q _ => vs.length = ar ∧ ∃ own ads ds μ d μ', RepL K (Zo own ads) ads H vs ds ∧ CellsR K own ads H μ ∧ F ds μ = some (d, μ') ∧ Fin K own ads H false d μ' Q
/-- the def g of the text keeps what F says -/
def FnH (P : Program) (w : World) (K : PySem.W.Frag) (mg : Str → Option Value) (base : Heap) (n : Nat) (g : Str) (F : List D → Cells → Option (D × Cells)) : Prop :=
  ∀ ds μ d μ', F ds μ = some (d, μ') → ∃ a fd ps, mg g = some (.ref a) ∧ PySem.W.keepIn K (.ref a) = true ∧ Binds K fd ps [] ∧ ps.length = ds.length ∧ FnOk P w K mg base CX0 n a fd ps (spF K ps.length F)
/-- the built-in names -/
def bnames : List Str := ["len", "tuple", "list", "all", "any", "abs", "int", "str", "max", "min", "sum", "range", "isinstance", "bool"]
structure GX (N fs : List Str) (F : Fs) (n : Nat) (sc : Scope) (X : Cx) : Prop where
  hN : X.N = N
  nd : N.Nodup
  calm : X.calm = true
  nox : X.xe = fun _ _ => False
  room : Room n X.A
  vis : ∀ x, visB sc x = true → Vis X.env.scope x
  glo : ∀ x, gloB sc x = true → Gl X x
  loc : ∀ x, locB sc x = true → Loc X.env.scope x ∧ (X.fn x = true ∨ X.env.scope.names.lookup x = some .local)
  cap : ∀ x, (sc.names.lookup x = some .cell ∨ sc.names.lookup x = some .free) → (X.env.scope.names.lookup x = some .cell ∨ X.env.scope.names.lookup x = some .free)
  bn : ∀ x ∈ bnames, X.mg x = none
  fn : ∀ f g, fs[f]? = some g → FnH X.prog X.w X.K X.mg X.base n g (F f)

/-! ### readings -/
def SlR (K : PySem.W.Frag) (own : Addr → Prop) (ads : List Addr) (H : Hp) : Sl → V → Prop
  | .pl d, v => Rep K (Zo own ads) ads H v d
  | .ow ds, v => ∃ a xs, v = .ref a ∧ H a = some (.lst xs) ∧ own a ∧ RepL K (Zo own ads) ads H xs ds
def EnvR (K : PySem.W.Frag) (own : Addr → Prop) (ads : List Addr) (H : Hp) (σ : L2.St) (ρ : Env) : Prop :=
  ∀ (i : Nat) (s : Sl), ρ[i]? = some (some s) → ∃ v : V, σ[i]? = some (some v) ∧ SlR K own ads H s v
theorem SlR.ext {K : PySem.W.Frag} {own : Addr → Prop} {ads ads' : List Addr} {H H' : Hp} {μ : Cells} {s : Sl} {v : V} (c : CellsR K own ads H μ) (e : Ext ads H ads' H') (h : SlR K own ads H s v) : SlR K own ads' H' s v := by
  cases s with
  | pl d => exact Rep.ext e h
  | ow ds =>
    obtain ⟨a, xs, e1, e2, e3, e4⟩ := h
    exact ⟨a, xs, e1, e.keep _ _ e2 fun m => c.dis a m e3, e3, e4.ext e⟩
theorem EnvR.ext {K : PySem.W.Frag} {own : Addr → Prop} {ads ads' : List Addr} {H H' : Hp} {μ : Cells} {σ : L2.St} {ρ : Env} (c : CellsR K own ads H μ) (e : Ext ads H ads' H') (h : EnvR K own ads H σ ρ) : EnvR K own ads' H' σ ρ := fun i s q => by
  obtain ⟨v, h1, h2⟩ := h i s q
  exact ⟨v, h1, h2.ext c e⟩
/-- the whole of a state: slots, cells -/
structure Hold (K : PySem.W.Frag) (own : Addr → Prop) (ads : List Addr) (H : Hp) (σ : L2.St) (ρ : Env) (μ : Cells) : Prop where
  e : EnvR K own ads H σ ρ
  c : CellsR K own ads H μ
  len : ρ.length = σ.length
/-- behind: the datum, the cells; the environment stands -/
abbrev Fin2 (K : PySem.W.Frag) (own : Addr → Prop) (ads : List Addr) (H : Hp) (σ : L2.St) (ρ : Env) (b : Bool) (z : D) (μ' : Cells) (Q : VK) : Prop :=
  ∀ v H' ads', Ext ads H ads' H' → Hold K own ads' H' σ ρ μ' → RepB K own ads' H' b v z → Q v H'
def tE (K : PySem.W.Frag) (F : Fs) (e : E) : TE := fun σ H Q => ∃ own ads ρ μ d μ', Hold K own ads H σ ρ μ ∧ ev F e ρ μ = some (d, μ') ∧ Fin2 K own ads H σ ρ (lk ρ e) d μ' Q
def tEs (K : PySem.W.Frag) (F : Fs) (es : Es) : TA := fun σ H Q => ∃ own ads ρ μ ds μ', Hold K own ads H σ ρ μ ∧ evs F es ρ μ = some (ds, μ') ∧
  ∀ vs H' ads', Ext ads H ads' H' → Hold K own ads' H' σ ρ μ' → RepBL K own ads' H' vs ds → (lks ρ es = false → RepL K (Zo own ads') ads' H' vs ds) → Q vs H'
def tEO (K : PySem.W.Frag) (F : Fs) (e : EO) : TO := fun σ H Q => ∃ own ads ρ μ d μ', Hold K own ads H σ ρ μ ∧ evo F e ρ μ = some (d, μ') ∧ ∀ H' ads', Ext ads H ads' H' → Hold K own ads' H' σ ρ μ' → Q d H'
/-- as a test -/
def tT (K : PySem.W.Frag) (F : Fs) (e : E) : TT := fun σ H Q => ∃ own ads ρ μ b μ', Hold K own ads H σ ρ μ ∧ ev F e ρ μ = some (.bl b, μ') ∧ ∀ H' ads', Ext ads H ads' H' → Hold K own ads' H' σ ρ μ' → Q b H'
def tC' (K : PySem.W.Frag) (F : Fs) (e : EO) : TT := fun σ H Q => ∃ own ads ρ μ b μ', Hold K own ads H σ ρ μ ∧ evc F e ρ μ = some (b, μ') ∧ ∀ H' ads', Ext ads H ads' H' → Hold K own ads' H' σ ρ μ' → Q b H'
theorem PE.imp {X : Cx} {e : Expr} {t t' : TE} (h : PE X e t) (i : ∀ σ H Q, t' σ H Q → t σ H Q) : PE X e t' := ⟨fun pins s σ H Q I q => h.run pins s σ H Q I (i _ _ _ q)⟩
theorem PT.imp {X : Cx} {e : Expr} {t t' : TT} (h : PT X e t) (i : ∀ σ H Q, t' σ H Q → t σ H Q) : PT X e t' := ⟨fun pins s σ H Q I q => h.run pins s σ H Q I (i _ _ _ q)⟩
theorem PTs.imp {X : Cx} {e : List Expr} {t t' : TT} (h : PTs X e t) (i : ∀ σ H Q, t' σ H Q → t σ H Q) : PTs X e t' := ⟨fun pins s σ H Q I q => h.run pins s σ H Q I (i _ _ _ q)⟩
theorem PA.imp {X : Cx} {e : List Expr} {t t' : TA} (h : PA X e t) (i : ∀ σ H Q, t' σ H Q → t σ H Q) : PA X e t' := ⟨fun pos pins s σ H Q I q => h.run pos pins s σ H Q I (i _ _ _ q)⟩
theorem PO.imp {X : Cx} {e : Option Expr} {t t' : TO} (h : PO X e t) (i : ∀ σ H Q, t' σ H Q → t σ H Q) : PO X e t' := ⟨fun pins s σ H Q I q => h.run pins s σ H Q I (i _ _ _ q)⟩
theorem andThen_some {α β : Type} {x : Rs α} {f : α → Cells → Option β} {r : β} (h : andThen x f = some r) : ∃ a μ, x = some (a, μ) ∧ f a μ = some r := by
  unfold andThen at h
  split at h
  · exact ⟨_, _, rfl, h⟩
  · cases h
theorem onBl_some {β : Type} {x : Rs D} {f : Bool → Cells → Option β} {r : β} (h : onBl x f = some r) : ∃ b μ, x = some (.bl b, μ) ∧ f b μ = some r := by
  unfold onBl at h
  split at h
  · exact ⟨_, _, rfl, h⟩
  · cases h
theorem wthD_some {z : Option D} {μ μ' : Cells} {d : D} (h : wthD z μ = some (d, μ')) : z = some d ∧ μ' = μ := by
  unfold wthD at h
  obtain ⟨a, h1, h2⟩ := Option.map_eq_some_iff.mp h
  cases h2
  exact ⟨h1, rfl⟩
section
variable {K : PySem.W.Frag} {F : Fs} {own : Addr → Prop} {ads ads' : List Addr} {H H' : Hp} {σ : L2.St} {ρ : Env} {μ μ' : Cells} {Q : VK}
theorem Fin2.fin {b : Bool} {d : D} (h : Hold K own ads H σ ρ μ) (q : Fin2 K own ads H σ ρ b d μ' Q) (e0 : EnvR K own ads H σ ρ) : ∀ v H' ads', Ext ads H ads' H' → CellsR K own ads' H' μ' → RepB K own ads' H' b v d → Q v H' :=
  fun v H' ads' e c r => q v H' ads' e ⟨e0.ext h.c e, c, h.len⟩ r
/-- one part, then what follows -/
theorem tE.one {a : E} {x : D} (h : Hold K own ads H σ ρ μ) (ha : ev F a ρ μ = some (x, μ')) (k : ∀ v H' ads', Ext ads H ads' H' → Hold K own ads' H' σ ρ μ' → RepB K own ads' H' (lk ρ a) v x → Q v H') : tE K F a σ H Q :=
  ⟨own, ads, ρ, μ, x, μ', h, ha, k⟩
end
end FM

set_option Elab.async false
set_option linter.all false
set_option maxRecDepth 100000
set_option maxHeartbeats 4000000
/-! Ev6: one lemma a construct. -/
namespace FM
open PySem PySem.Spec PyProof.Rows L2

def plainT : Expr → Bool
  | .UnaryOp .Not _ _ => false
  | .BoolOp _ _ _ => false
  | .IfExp _ _ _ _ => false
  | .Compare _ _ _ _ => false
  | _ => true
theorem plainT_of {e : Expr} (h : plainT e = true) (env : PySem.Env) (whole : Sem Value) : isTrue e env whole = (do let v ← whole; standAt e.pos; holding [v] (truthy v)) := by
  cases e with
  | UnaryOp op x p => cases op <;> first | rfl | cases h
  | _ => first | rfl | cases h
section
variable {X : Cx} {F : Fs}
/-- as a value and as a test -/
structure Both (X : Cx) (F : Fs) (x : Expr) (e : E) : Prop where
  v : PE X x (tE X.K F e)
  t : PT X x (tT X.K F e)
theorem Both.mk' {x : Expr} {e : E} (h : PE X x (tE X.K F e)) (p : plainT x = true) : Both X F x e := by
  refine ⟨h, PT.imp (pt_val h (plainT_of p _)) fun σ H Q ⟨own, ads, ρ, μ, b, μ', h, he, q⟩ => ?_⟩
  exact ⟨own, ads, ρ, μ, _, μ', h, he, fun v H' ads' e' h' r => ⟨b, r.bl, q H' ads' e' h'⟩⟩

theorem s_var {N fs : List Str} {n : Nat} {sc : Scope} (G : GX N fs F n sc X) {i : Nat} {x : Str} {pos : Pos} (h : nameIs N sc i x = true) : Both X F (.Name x pos) (.var i) := by
  unfold nameIs at h
  rw [Bool.and_eq_true, Bool.and_eq_true, Bool.and_eq_true, decide_eq_true_eq] at h
  obtain ⟨⟨⟨h1, h2⟩, h3⟩, h4⟩ := h
  refine Both.mk' (PE.imp (pe_var (i := i) (by rw [G.hN]; exact h1) (G.vis x h2) (by simpa using h3) (by simpa using h4)) ?_) rfl
  intro σ H Q ⟨own, ads, ρ, μ, d, μ', h, he, q⟩
  unfold ev at he
  cases e : ρ[i]? with
  | none => rw [e] at he; cases he
  | some o =>
    cases o with
    | none => rw [e] at he; cases he
    | some s =>
      rw [e] at he
      cases he
      obtain ⟨v, h5, h6⟩ := h.e i s e
      refine ⟨v, h5, q v H ads .refl h ?_⟩
      cases s with
      | pl d => exact .inl h6
      | ow ds =>
        obtain ⟨a, xs, e1, e2, e3, e4⟩ := h6
        refine .inr ⟨?_, a, xs, ds, e1, rfl, e2, e3, e4⟩
        show isOw ρ i = true
        unfold isOw
        rw [e]
        rfl
theorem s_int {i : Int} {k : Nat} {pos : Pos} : Both X F (.Constant (.int i) k pos) (.int i) :=
  Both.mk' (PE.imp pe_int fun σ H Q ⟨own, ads, ρ, μ, d, μ', h, he, q⟩ => by cases he; exact q _ H ads .refl h (.inl (.int i))) rfl
theorem s_bl {i : Bool} {k : Nat} {pos : Pos} : Both X F (.Constant (.bool i) k pos) (.bl i) :=
  Both.mk' (PE.imp pe_bl fun σ H Q ⟨own, ads, ρ, μ, d, μ', h, he, q⟩ => by cases he; exact q _ H ads .refl h (.inl (.bl i))) rfl
theorem s_non {k : Nat} {pos : Pos} : Both X F (.Constant .none k pos) .non :=
  Both.mk' (PE.imp pe_non fun σ H Q ⟨own, ads, ρ, μ, d, μ', h, he, q⟩ => by cases he; exact q _ H ads .refl h (.inl .non)) rfl
theorem s_str {i : Str} {k : Nat} {pos : Pos} : Both X F (.Constant (.str i) k pos) (.str i) :=
  Both.mk' (PE.imp pe_str fun σ H Q ⟨own, ads, ρ, μ, d, μ', h, he, q⟩ => by cases he; exact q _ H ads .refl h (.inl (.str i))) rfl
/-- from Fin2 to Fin -/
theorem toFin {K : PySem.W.Frag} {own : Addr → Prop} {ads ads1 : List Addr} {H H1 : Hp} {σ : L2.St} {ρ : Env} {μ1 μ' : Cells} {b : Bool} {d : D} {Q : VK} (e1 : Ext ads H ads1 H1) (h1 : Hold K own ads1 H1 σ ρ μ1) (q : Fin2 K own ads H σ ρ b d μ' Q) : Fin K own ads1 H1 b d μ' Q :=
  fun v H' ads' e c r => q v H' ads' (e1.trans e) ⟨h1.e.ext h1.c e, c, h1.len⟩ r
theorem s_op {o : Operator} {a b : E} {x y : Expr} {pos : Pos} (ha : Both X F x a) (hb : Both X F y b) : Both X F (.BinOp x o y pos) (.op o a b) := by
  refine Both.mk' (PE.imp (pe_op (op_D o) ha.v hb.v) ?_) rfl
  intro σ H Q ⟨own, ads, ρ, μ, d, μ', h, he, q⟩
  unfold ev at he
  obtain ⟨dx, μ1, e1, he⟩ := andThen_some he
  obtain ⟨dy, μ2, e2, he⟩ := andThen_some he
  obtain ⟨hz, rfl⟩ := wthD_some he
  exact ⟨own, ads, ρ, μ, dx, μ1, h, e1, fun v H1 ads1 x1 h1 r1 => ⟨own, ads1, ρ, μ1, dy, μ', h1, e2, fun w H2 ads2 x2 h2 r2 =>
    ⟨own, ads2, μ', _, _, dx, dy, d, h2.c, r1.ext h1.c x2, r2, hz, toFin (x1.trans x2) h2 q⟩⟩⟩
theorem s_neg {a : E} {x : Expr} {pos : Pos} (ha : Both X F x a) : Both X F (.UnaryOp .USub x pos) (.neg a) := by
  refine Both.mk' (PE.imp (pe_un un_D ha.v) ?_) rfl
  intro σ H Q ⟨own, ads, ρ, μ, d, μ', h, he, q⟩
  unfold ev at he
  obtain ⟨dx, μ1, e1, he⟩ := andThen_some he
  obtain ⟨hz, rfl⟩ := wthD_some he
  exact ⟨own, ads, ρ, μ, dx, μ', h, e1, fun v H1 ads1 x1 h1 r1 => ⟨own, ads1, μ', _, dx, d, h1.c, r1, hz, toFin x1 h1 q⟩⟩
theorem s_cmp {N fs : List Str} {n : Nat} {sc : Scope} (G : GX N fs F n sc X) {o : CmpOp} {a b : E} {x y : Expr} {pos : Pos} (ha : Both X F x a) (hb : Both X F y b) (hs : notSet y = true) : Both X F (.Compare x [o] [y] pos) (.cmp o a b) := by
  refine ⟨PE.imp (pe_cmpR (cm_D G.room.units o) ha.v hb.v (marks_of hs o)) ?_, PT.imp (pt_cmpR (cm_D G.room.units o) ha.v hb.v (marks_of hs o)) ?_⟩
  · intro σ H Q ⟨own, ads, ρ, μ, d, μ', h, he, q⟩
    unfold ev at he
    obtain ⟨dx, μ1, e1, he⟩ := andThen_some he
    obtain ⟨dy, μ2, e2, he⟩ := andThen_some he
    obtain ⟨hz, rfl⟩ := wthD_some he
    obtain ⟨r, hr, e3⟩ := Option.map_eq_some_iff.mp hz
    subst e3
    exact ⟨own, ads, ρ, μ, dx, μ1, h, e1, fun v H1 ads1 x1 h1 r1 => ⟨own, ads1, ρ, μ1, dy, μ', h1, e2, fun w H2 ads2 x2 h2 r2 =>
      ⟨own, ads2, μ', _, _, dx, dy, r, h2.c, r1.ext h1.c x2, r2, hr, q _ H2 ads2 (x1.trans x2) h2 (.inl (.bl r))⟩⟩⟩
  · intro σ H Q ⟨own, ads, ρ, μ, b', μ', h, he, q⟩
    unfold ev at he
    obtain ⟨dx, μ1, e1, he⟩ := andThen_some he
    obtain ⟨dy, μ2, e2, he⟩ := andThen_some he
    obtain ⟨hz, rfl⟩ := wthD_some he
    obtain ⟨r, hr, e3⟩ := Option.map_eq_some_iff.mp hz
    cases e3
    exact ⟨own, ads, ρ, μ, dx, μ1, h, e1, fun v H1 ads1 x1 h1 r1 => ⟨own, ads1, ρ, μ1, dy, μ', h1, e2, fun w H2 ads2 x2 h2 r2 =>
      ⟨own, ads2, μ', _, _, dx, dy, b', h2.c, r1.ext h1.c x2, r2, hr, b', rfl, q H2 ads2 (x1.trans x2) h2⟩⟩⟩
theorem cmp_bl {o : CmpOp} {dx dy : D} {z : Option D} {d : D} (h : (cmpD o dx dy).map D.bl = some d) : ∃ r, cmpD o dx dy = some r ∧ d = .bl r := by
  obtain ⟨r, h1, h2⟩ := Option.map_eq_some_iff.mp h
  exact ⟨r, h1, h2.symm⟩
theorem chn_go {o o' : CmpOp} {a b c : E} {ρ : Env} {μ μ' : Cells} {d : D} (he : ev F (.chn o o' a b c) ρ μ = some (d, μ')) : ∃ dx μ1 dy μ2 r, ev F a ρ μ = some (dx, μ1) ∧ ev F b ρ μ1 = some (dy, μ2) ∧ cmpD o dx dy = some r ∧
    ((r = false ∧ d = .bl false ∧ μ' = μ2) ∨ (r = true ∧ ∃ dz r', ev F c ρ μ2 = some (dz, μ') ∧ cmpD o' dy dz = some r' ∧ d = .bl r')) := by
  unfold ev at he
  obtain ⟨dx, μ1, e1, he⟩ := andThen_some he
  obtain ⟨dy, μ2, e2, he⟩ := andThen_some he
  split at he
  · rename_i hr
    obtain ⟨dz, μ3, e3, he⟩ := andThen_some he
    obtain ⟨hz, rfl⟩ := wthD_some he
    obtain ⟨r', h1, h2⟩ := Option.map_eq_some_iff.mp hz
    exact ⟨dx, μ1, dy, μ2, true, e1, e2, hr, .inr ⟨rfl, dz, r', e3, h1, h2.symm⟩⟩
  · rename_i hr
    cases he
    exact ⟨dx, μ1, dy, _, false, e1, e2, hr, .inl ⟨rfl, rfl, rfl⟩⟩
  · cases he
end
end FM

set_option Elab.async false
set_option linter.all false
set_option maxRecDepth 100000
set_option maxHeartbeats 4000000
/-! Ev7: chains, and, or, not, conditional expressions, displays, subscripts, slices, calls. -/
namespace FM
open PySem PySem.Spec PyProof.Rows L2
section
variable {X : Cx} {F : Fs}
theorem marks2 {b c : Expr} (h : notSet c = true) (o o' : CmpOp) : lastMarks [o, o'] [b, c] = false := marks_of h o'
theorem s_chn {N fs : List Str} {n : Nat} {sc : Scope} (G : GX N fs F n sc X) {o o' : CmpOp} {a b c : E} {x y z : Expr} {pos : Pos} (ha : Both X F x a) (hb : Both X F y b) (hc : Both X F z c) (hs : notSet z = true) :
    Both X F (.Compare x [o, o'] [y, z] pos) (.chn o o' a b c) := by
  have core : ∀ (σ : L2.St) (H : Hp) (Q : VK), tE X.K F (.chn o o' a b c) σ H Q → tChain (rCm X.K o) (rCm X.K o') (tE X.K F a) (tE X.K F b) (tE X.K F c) σ H Q := by
    intro σ H Q ⟨own, ads, ρ, μ, d, μ', h, he, q⟩
    obtain ⟨dx, μ1, dy, μ2, r, e1, e2, hr, hz⟩ := chn_go he
    refine ⟨own, ads, ρ, μ, dx, μ1, h, e1, fun v H1 ads1 x1 h1 r1 => ⟨own, ads1, ρ, μ1, dy, μ2, h1, e2, fun w H2 ads2 x2 h2 r2 => ?_⟩⟩
    refine ⟨own, ads2, μ2, _, _, dx, dy, r, h2.c, r1.ext h1.c x2, r2, hr, r, rfl, ?_⟩
    rcases hz with ⟨rfl, rfl, rfl⟩ | ⟨rfl, dz, r', e3, hr', rfl⟩
    · rw [if_neg Bool.false_ne_true]
      exact q _ H2 ads2 (x1.trans x2) h2 (.inl (.bl false))
    · rw [if_pos rfl]
      exact ⟨own, ads2, ρ, μ2, dz, μ', h2, e3, fun u H3 ads3 x3 h3 r3 => ⟨own, ads3, μ', _, _, dy, dz, r', h3.c, r2.ext h2.c x3, r3, hr', q _ H3 ads3 ((x1.trans x2).trans x3) h3 (.inl (.bl r'))⟩⟩
  refine ⟨PE.imp (pe_chain (cm_D G.room.units o) (cm_D G.room.units o') ha.v hb.v hc.v (marks2 hs o o')) core, PT.imp (pt_chain (cm_D G.room.units o) (cm_D G.room.units o') ha.v hb.v hc.v (marks2 hs o o')) ?_⟩
  intro σ H Q ⟨own, ads, ρ, μ, b', μ', h, he, q⟩
  refine core σ H _ ⟨own, ads, ρ, μ, .bl b', μ', h, he, fun v H' ads' e h' r => ⟨b', r.bl, q H' ads' e h'⟩⟩
theorem pw_of {op : BoolOp} {vs : List Expr} {pos : Pos} {t : TT} (h : PT X (.BoolOp op vs pos) t) : PW X (.BoolOp op vs pos) t := ⟨fun _ pins s σ H Q I q => h.run pins s σ H Q I q⟩
theorem and_go {a b : E} {ρ : Env} {μ μ' : Cells} {d : D} (he : ev F (.and a b) ρ μ = some (d, μ')) : ∃ x μ1, ev F a ρ μ = some (.bl x, μ1) ∧ ((x = false ∧ d = .bl false ∧ μ' = μ1) ∨ (x = true ∧ ∃ y, ev F b ρ μ1 = some (.bl y, μ') ∧ d = .bl y)) := by
  unfold ev at he
  obtain ⟨x, μ1, e1, he⟩ := onBl_some he
  cases x with
  | false => cases he; exact ⟨_, _, e1, .inl ⟨rfl, rfl, rfl⟩⟩
  | true =>
    obtain ⟨y, μ2, e2, he⟩ := onBl_some he
    cases he
    exact ⟨_, _, e1, .inr ⟨rfl, _, e2, rfl⟩⟩
theorem or_go {a b : E} {ρ : Env} {μ μ' : Cells} {d : D} (he : ev F (.or a b) ρ μ = some (d, μ')) : ∃ x μ1, ev F a ρ μ = some (.bl x, μ1) ∧ ((x = true ∧ d = .bl true ∧ μ' = μ1) ∨ (x = false ∧ ∃ y, ev F b ρ μ1 = some (.bl y, μ') ∧ d = .bl y)) := by
  unfold ev at he
  obtain ⟨x, μ1, e1, he⟩ := onBl_some he
  cases x with
  | true => cases he; exact ⟨_, _, e1, .inl ⟨rfl, rfl, rfl⟩⟩
  | false =>
    obtain ⟨y, μ2, e2, he⟩ := onBl_some he
    cases he
    exact ⟨_, _, e1, .inr ⟨rfl, _, e2, rfl⟩⟩
theorem s_and {a b : E} {x y : Expr} {r : List Expr} {pos : Pos} (ha : Both X F x a) (hb : (r = [] ∧ Both X F y b) ∨ (r ≠ [] ∧ Both X F (.BoolOp .And (y :: r) pos) b)) : Both X F (.BoolOp .And (x :: y :: r) pos) (.and a b) := by
  have hv : PE X (.BoolOp .And (y :: r) pos) (tE X.K F b) := by
    rcases hb with ⟨rfl, hb⟩ | ⟨_, hb⟩
    · exact pe_one hb.v
    · exact hb.v
  have ht : PW X (.BoolOp .And (y :: r) pos) (tT X.K F b) := by
    rcases hb with ⟨rfl, hb⟩ | ⟨_, hb⟩
    · exact pw_and1 hb.t
    · exact pw_of hb.t
  refine ⟨PE.imp (pe_and ha.v hv) ?_, PT.imp (pw_and ha.t ht).pt ?_⟩
  · intro σ H Q ⟨own, ads, ρ, μ, d, μ', h, he, q⟩
    obtain ⟨k, μ1, e1, hz⟩ := and_go he
    refine ⟨own, ads, ρ, μ, _, μ1, h, e1, fun v H1 ads1 x1 h1 r1 => ⟨k, r1.bl, ?_⟩⟩
    rcases hz with ⟨rfl, rfl, rfl⟩ | ⟨rfl, j, e2, rfl⟩
    · rw [if_neg Bool.false_ne_true]
      exact q _ H1 ads1 x1 h1 (.inl (.bl false))
    · rw [if_pos rfl]
      exact ⟨own, ads1, ρ, μ1, _, μ', h1, e2, fun w H2 ads2 x2 h2 r2 => q w H2 ads2 (x1.trans x2) h2 (.inl (by rw [r2.bl]; exact .bl j))⟩
  · intro σ H Q ⟨own, ads, ρ, μ, d, μ', h, he, q⟩
    obtain ⟨k, μ1, e1, hz⟩ := and_go he
    refine ⟨own, ads, ρ, μ, _, μ1, h, e1, fun H1 ads1 x1 h1 => ?_⟩
    rcases hz with ⟨rfl, ed, rfl⟩ | ⟨rfl, j, e2, ed⟩
    · cases ed
      rw [if_neg Bool.false_ne_true]
      exact q H1 ads1 x1 h1
    · cases ed
      rw [if_pos rfl]
      exact ⟨own, ads1, ρ, μ1, _, μ', h1, e2, fun H2 ads2 x2 h2 => q H2 ads2 (x1.trans x2) h2⟩
theorem s_or {a b : E} {x y : Expr} {r : List Expr} {pos : Pos} (ha : Both X F x a) (hb : (r = [] ∧ Both X F y b) ∨ (r ≠ [] ∧ Both X F (.BoolOp .Or (y :: r) pos) b)) : Both X F (.BoolOp .Or (x :: y :: r) pos) (.or a b) := by
  have hv : PE X (.BoolOp .Or (y :: r) pos) (tE X.K F b) := by
    rcases hb with ⟨rfl, hb⟩ | ⟨_, hb⟩
    · exact pe_one hb.v
    · exact hb.v
  have ht : PW X (.BoolOp .Or (y :: r) pos) (tT X.K F b) := by
    rcases hb with ⟨rfl, hb⟩ | ⟨_, hb⟩
    · exact pw_or1 hb.t
    · exact pw_of hb.t
  refine ⟨PE.imp (pe_or ha.v hv) ?_, PT.imp (pw_or ha.t ht).pt ?_⟩
  · intro σ H Q ⟨own, ads, ρ, μ, d, μ', h, he, q⟩
    obtain ⟨k, μ1, e1, hz⟩ := or_go he
    refine ⟨own, ads, ρ, μ, _, μ1, h, e1, fun v H1 ads1 x1 h1 r1 => ⟨k, r1.bl, ?_⟩⟩
    rcases hz with ⟨rfl, rfl, rfl⟩ | ⟨rfl, j, e2, rfl⟩
    · rw [if_pos rfl]
      exact q _ H1 ads1 x1 h1 (.inl (.bl true))
    · rw [if_neg Bool.false_ne_true]
      exact ⟨own, ads1, ρ, μ1, _, μ', h1, e2, fun w H2 ads2 x2 h2 r2 => q w H2 ads2 (x1.trans x2) h2 (.inl (by rw [r2.bl]; exact .bl j))⟩
  · intro σ H Q ⟨own, ads, ρ, μ, d, μ', h, he, q⟩
    obtain ⟨k, μ1, e1, hz⟩ := or_go he
    refine ⟨own, ads, ρ, μ, _, μ1, h, e1, fun H1 ads1 x1 h1 => ?_⟩
    rcases hz with ⟨rfl, ed, rfl⟩ | ⟨rfl, j, e2, ed⟩
    · cases ed
      rw [if_pos rfl]
      exact q H1 ads1 x1 h1
    · cases ed
      rw [if_neg Bool.false_ne_true]
      exact ⟨own, ads1, ρ, μ1, _, μ', h1, e2, fun H2 ads2 x2 h2 => q H2 ads2 (x1.trans x2) h2⟩
theorem s_not {a : E} {x : Expr} {pos : Pos} (ha : Both X F x a) : Both X F (.UnaryOp .Not x pos) (.not a) := by
  refine ⟨PE.imp (pe_not ha.v) ?_, PT.imp (pt_not ha.t) ?_⟩
  · intro σ H Q ⟨own, ads, ρ, μ, d, μ', h, he, q⟩
    unfold ev at he
    obtain ⟨k, μ1, e1, he⟩ := onBl_some he
    cases he
    exact ⟨own, ads, ρ, μ, _, _, h, e1, fun v H1 ads1 x1 h1 r1 => ⟨k, r1.bl, q _ H1 ads1 x1 h1 (.inl (.bl (!k)))⟩⟩
  · intro σ H Q ⟨own, ads, ρ, μ, d, μ', h, he, q⟩
    unfold ev at he
    obtain ⟨k, μ1, e1, he⟩ := onBl_some he
    cases he
    exact ⟨own, ads, ρ, μ, _, _, h, e1, fun H1 ads1 x1 h1 => q H1 ads1 x1 h1⟩
theorem RepB.mono {K : PySem.W.Frag} {own : Addr → Prop} {ads : List Addr} {H : Hp} {b b' : Bool} {v : V} {d : D} (h : RepB K own ads H b v d) (i : b = true → b' = true) : RepB K own ads H b' v d := by
  rcases h with h | ⟨h, z⟩
  · exact .inl h
  · exact .inr ⟨i h, z⟩
theorem pt_ifExp {c x y : Expr} {tc tx ty : TT} {pos : Pos} (hc : PT X c tc) (hx : PT X x tx) (hy : PT X y ty) : PT X (.IfExp c x y pos) (fun σ H Q => tc σ H fun b H1 => if b = true then tx σ H1 Q else ty σ H1 Q) := by
  refine ⟨fun pins s σ H Q I h => ?_⟩
  refine isTrue_IfExp (thn (hc.run pins s σ H _ I h) fun d s1 ⟨H1, I1, q1⟩ => ?_)
  cases d with
  | true => exact hx.run pins s1 σ H1 Q I1 q1
  | false => exact hy.run pins s1 σ H1 Q I1 q1
theorem s_ife {c a b : E} {z x y : Expr} {pos : Pos} (hc : Both X F z c) (ha : Both X F x a) (hb : Both X F y b) : Both X F (.IfExp z x y pos) (.ife c a b) := by
  refine ⟨PE.imp (pe_ifExp hc.t ha.v hb.v) ?_, PT.imp (pt_ifExp hc.t ha.t hb.t) ?_⟩
  · intro σ H Q ⟨own, ads, ρ, μ, d, μ', h, he, q⟩
    unfold ev at he
    obtain ⟨k, μ1, e1, he⟩ := onBl_some he
    refine ⟨own, ads, ρ, μ, _, _, h, e1, fun H1 ads1 x1 h1 => ?_⟩
    cases k with
    | true =>
      rw [if_pos rfl] at he ⊢
      refine ⟨own, ads1, ρ, μ1, d, μ', h1, he, fun v H2 ads2 x2 h2 r2 => q v H2 ads2 (x1.trans x2) h2 (r2.mono fun z => ?_)⟩
      show (lk ρ a || lk ρ b) = true
      rw [z]; rfl
    | false =>
      rw [if_neg Bool.false_ne_true] at he ⊢
      refine ⟨own, ads1, ρ, μ1, d, μ', h1, he, fun v H2 ads2 x2 h2 r2 => q v H2 ads2 (x1.trans x2) h2 (r2.mono fun z => ?_)⟩
      show (lk ρ a || lk ρ b) = true
      rw [z, Bool.or_true]
  · intro σ H Q ⟨own, ads, ρ, μ, d, μ', h, he, q⟩
    unfold ev at he
    obtain ⟨k, μ1, e1, he⟩ := onBl_some he
    refine ⟨own, ads, ρ, μ, _, _, h, e1, fun H1 ads1 x1 h1 => ?_⟩
    cases k with
    | true =>
      rw [if_pos rfl] at he ⊢
      exact ⟨own, ads1, ρ, μ1, d, μ', h1, he, fun H2 ads2 x2 h2 => q H2 ads2 (x1.trans x2) h2⟩
    | false =>
      rw [if_neg Bool.false_ne_true] at he ⊢
      exact ⟨own, ads1, ρ, μ1, d, μ', h1, he, fun H2 ads2 x2 h2 => q H2 ads2 (x1.trans x2) h2⟩

/-! ### lists of expressions -/
theorem s_nil : PA X [] (tEs X.K F .nil) := PA.imp pa_nil fun σ H Q ⟨own, ads, ρ, μ, ds, μ', h, he, q⟩ => by
  cases he
  exact q [] H ads .refl h True.intro fun _ => .nil
theorem s_cons {e : E} {es : Es} {x : Expr} {xs : List Expr} (h1 : Both X F x e) (h2 : PA X xs (tEs X.K F es)) (hs : notStar x = true) : PA X (x :: xs) (tEs X.K F (.cons e es)) := by
  refine PA.imp (pa_cons h1.v h2 (starEach_cons hs _ _)) ?_
  intro σ H Q ⟨own, ads, ρ, μ, ds, μ', h, he, q⟩
  unfold evs at he
  obtain ⟨d, μ1, e1, he⟩ := andThen_some he
  obtain ⟨ds', μ2, e2, he⟩ := andThen_some he
  cases he
  refine ⟨own, ads, ρ, μ, d, μ1, h, e1, fun v H1 ads1 x1 h1 r1 => ⟨own, ads1, ρ, μ1, ds', _, h1, e2, fun vs H2 ads2 x2 h2 r2 p2 => ?_⟩⟩
  refine q (v :: vs) H2 ads2 (x1.trans x2) h2 ⟨(r1.ext h1.c x2).mono fun _ => rfl, r2⟩ fun z => ?_
  have z' : (lk ρ e || lks ρ es) = false := z
  rw [Bool.or_eq_false_iff] at z'
  rw [z'.1] at r1
  exact .cons (r1.plain.ext x2) (p2 z'.2)
theorem s_tup {es : Es} {xs : List Expr} {k : Nat} {pos : Pos} (h : PA X xs (tEs X.K F es)) : Both X F (.Tuple xs k pos) (.tup es) := by
  refine Both.mk' (PE.imp (pe_tup h) ?_) rfl
  intro σ H Q ⟨own, ads, ρ, μ, d, μ', h, he, q⟩
  unfold ev at he
  split at he
  · cases he
  · rename_i hl
    obtain ⟨ds, μ1, e1, he⟩ := andThen_some he
    split at he
    · rename_i hz
      cases he
      refine ⟨own, ads, ρ, μ, ds, _, h, e1, fun vs H1 ads1 x1 h1 r1 p1 => ?_⟩
      have l := p1 (by simpa using hl)
      exact ⟨by rw [l.length]; exact hz, (toFin x1 h1 q).newT h1.c l⟩
    · cases he
theorem s_lst {es : Es} {xs : List Expr} {pos : Pos} (h : PA X xs (tEs X.K F es)) : Both X F (.List xs pos) (.lst es) := by
  refine Both.mk' (PE.imp (pe_lst h) ?_) rfl
  intro σ H Q ⟨own, ads, ρ, μ, d, μ', h, he, q⟩
  unfold ev at he
  split at he
  · cases he
  · rename_i hl
    obtain ⟨ds, μ1, e1, he⟩ := andThen_some he
    split at he
    · rename_i hz
      cases he
      refine ⟨own, ads, ρ, μ, ds, _, h, e1, fun vs H1 ads1 x1 h1 r1 p1 => ?_⟩
      have l := p1 (by simpa using hl)
      exact ⟨by rw [l.length]; exact hz, (toFin x1 h1 q).newL h1.c l⟩
    · cases he
theorem s_ix {N fs : List Str} {n : Nat} {sc : Scope} (G : GX N fs F n sc X) {a b : E} {x y : Expr} {pos : Pos} (ha : Both X F x a) (hb : Both X F y b) (hs : notSlice y = true) : Both X F (.Subscript x y pos) (.ix a b) := by
  refine Both.mk' (PE.imp (pe_ix (ix_D (hu_of G.room)) ha.v hb.v (plainIx_of hs)) ?_) rfl
  intro σ H Q ⟨own, ads, ρ, μ, d, μ', h, he, q⟩
  unfold ev at he
  obtain ⟨dx, μ1, e1, he⟩ := andThen_some he
  obtain ⟨dy, μ2, e2, he⟩ := andThen_some he
  obtain ⟨hz, rfl⟩ := wthD_some he
  exact ⟨own, ads, ρ, μ, dx, μ1, h, e1, fun v H1 ads1 x1 h1 r1 => ⟨own, ads1, ρ, μ1, dy, μ', h1, e2, fun w H2 ads2 x2 h2 r2 =>
    ⟨own, ads2, μ', _, _, dx, dy, d, h2.c, r1.ext h1.c x2, r2, hz, toFin (x1.trans x2) h2 q⟩⟩⟩
theorem s_onone : PO X none (tEO X.K F .none) := PO.imp po_none fun σ H Q ⟨own, ads, ρ, μ, d, μ', h, he, q⟩ => by
  cases he
  exact q H ads .refl h
theorem s_osome {e : E} {x : Expr} (h : Both X F x e) : PO X (some x) (tEO X.K F (.some e)) := by
  refine PO.imp (po_some h.v) ?_
  intro σ H Q ⟨own, ads, ρ, μ, d, μ', h, he, q⟩
  unfold evo at he
  obtain ⟨dx, μ1, e1, he⟩ := andThen_some he
  split at he
  · cases he
    exact ⟨own, ads, ρ, μ, _, _, h, e1, fun v H1 ads1 x1 h1 r1 => ⟨_, r1.int, q H1 ads1 x1 h1⟩⟩
  · cases he
theorem s_sl {a : E} {lo hi : EO} {x : Expr} {l h : Option Expr} {p2 pos : Pos} (ha : Both X F x a) (hl : PO X l (tEO X.K F lo)) (hh : PO X h (tEO X.K F hi)) : Both X F (.Subscript x (.Slice l h none p2) pos) (.sl a lo hi) := by
  refine Both.mk' (PE.imp (pe_slice sl_D ha.v hl hh) ?_) rfl
  intro σ H Q ⟨own, ads, ρ, μ, d, μ', h, he, q⟩
  unfold ev at he
  obtain ⟨dx, μ1, e1, he⟩ := andThen_some he
  obtain ⟨dl, μ2, e2, he⟩ := andThen_some he
  obtain ⟨dh, μ3, e3, he⟩ := andThen_some he
  obtain ⟨hz, rfl⟩ := wthD_some he
  exact ⟨own, ads, ρ, μ, dx, μ1, h, e1, fun v H1 ads1 x1 h1 r1 => ⟨own, ads1, ρ, μ1, dl, μ2, h1, e2, fun H2 ads2 x2 h2 => ⟨own, ads2, ρ, μ2, dh, μ', h2, e3, fun H3 ads3 x3 h3 =>
    ⟨own, ads3, μ', _, dx, d, h3.c, (r1.ext h1.c x2).ext h2.c x3, hz, toFin ((x1.trans x2).trans x3) h3 q⟩⟩⟩⟩
theorem s_cnone : PTs X [] (tC' X.K F .none) := PTs.imp pts_nil fun σ H Q ⟨own, ads, ρ, μ, d, μ', h, he, q⟩ => by
  cases he
  exact q H ads .refl h
theorem s_csome {e : E} {x : Expr} (h : Both X F x e) : PTs X [x] (tC' X.K F (.some e)) := by
  refine PTs.imp (pts_one h.t) ?_
  intro σ H Q ⟨own, ads, ρ, μ, d, μ', h, he, q⟩
  unfold evc at he
  obtain ⟨k, μ1, e1, he⟩ := onBl_some he
  cases he
  exact ⟨own, ads, ρ, μ, _, _, h, e1, q⟩
/-! ### built-ins, isinstance, methods -/
theorem noStarAny : ∀ {es : List Expr} {env : PySem.Env} {pos : Pos}, (∀ x ∈ es, notStar x = true) → (backTo pos (starEach es env)).any (·.1) = false
  | [], _, _, _ => rfl
  | e :: es, env, pos, h => by
    rw [starEach_cons (h e List.mem_cons_self)]
    have ih := noStarAny (es := es) (env := env) (pos := pos) fun x hx => h x (List.mem_cons_of_mem _ hx)
    exact ih
theorem s_bi {N fs : List Str} {n : Nat} {sc : Scope} (G : GX N fs F n sc X) {b : Bi} {es : Es} {g : Str} {x : Expr} {xs : List Expr} {p pos : Pos} (hg : g = b.name) (hgl : gloB sc g = true) (hst : ∀ y ∈ x :: xs, notStar y = true) (h : PA X (x :: xs) (tEs X.K F es)) :
    Both X F (.Call (.Name g p) (x :: xs) [] pos) (.bi b es) := by
  have hn : X.mg g = none := G.bn g (by subst hg; cases b <;> decide +kernel)
  have hb : bootBuiltins g = some b.val := by rw [hg]; exact b.boot
  have core : PE X (.Call (.Name g p) (x :: xs) [] pos) (tCB (rBi X.K b) (tEs X.K F es)) := by
    have hc := bi_D (X := X) G.calm b
    have n1 : g ≠ "__name__" := by subst hg; cases b <;> decide +kernel
    have n2 : (g == ("__debug__" : Str)) = false := by subst hg; cases b <;> decide +kernel
    have n3 := starEach_cons (hst x List.mem_cons_self) xs X.env
    have n4 := noStarAny (env := X.env) (pos := pos) fun y hy => hst y (List.mem_cons_of_mem _ hy)
    cases b <;> first
      | exact pe_callB hc (G.glo g hgl) hn hb h n1 n2 n3 n4
      | exact pe_callTy hc (G.glo g hgl) hn hb h n1 n2 n3 n4
  refine Both.mk' (PE.imp core ?_) rfl
  intro σ H Q ⟨own, ads, ρ, μ, d, μ', h, he, q⟩
  unfold ev at he
  obtain ⟨ds, μ1, e1, he⟩ := andThen_some he
  obtain ⟨hz, rfl⟩ := wthD_some he
  exact ⟨own, ads, ρ, μ, ds, μ', h, e1, fun vs H1 ads1 x1 h1 r1 _ => ⟨own, ads1, μ', ds, d, h1.c, r1, hz, toFin x1 h1 q⟩⟩
theorem s_isi {N fs : List Str} {n : Nat} {sc : Scope} (G : GX N fs F n sc X) {a : E} {t : Ty} {x : Expr} {p p2 pos : Pos} (hgl : gloB sc "isinstance" = true) (hgt : gloB sc t.py = true) (hs : notStar x = true) (h : Both X F x a) :
    Both X F (.Call (.Name "isinstance" p) [x, .Name t.py p2] [] pos) (.isi a t) := by
  have hn : X.mg "isinstance" = none := G.bn _ (by decide +kernel)
  have hn2 : X.mg t.py = none := G.bn _ (by cases t <;> decide +kernel)
  have he : PE X (.Name t.py p2) (tC (.ty t.name)) := pe_bltn (G.glo _ hgt) hn2 t.boot rfl (by cases t <;> decide +kernel) (by cases t <;> decide +kernel)
  have core := pe_callB (X := X) (pos := pos) (p := p) call_isi (G.glo _ hgl) hn (by decide +kernel) (pa_cons h.v (pa_cons he pa_nil) (starEach_cons hs _ _)) (by decide +kernel) (by decide +kernel) (starEach_cons hs _ _) rfl
  refine Both.mk' (PE.imp core ?_) rfl
  intro σ H Q ⟨own, ads, ρ, μ, d, μ', h, he, q⟩
  unfold ev at he
  obtain ⟨dx, μ1, e1, he⟩ := andThen_some he
  obtain ⟨hz, rfl⟩ := wthD_some he
  obtain ⟨r, hr, e3⟩ := Option.map_eq_some_iff.mp hz
  subst e3
  refine ⟨own, ads, ρ, μ, dx, μ', h, e1, fun v H1 ads1 x1 h1 r1 => ?_⟩
  obtain ⟨u, ty, kk⟩ := isi_kit r1 hr
  exact ⟨v, .ty t.name, u, .type t.name, r, rfl, .ty _, ty, kk, q _ H1 ads1 x1 h1 (.inl (.bl r))⟩
end
end FM

set_option Elab.async false
set_option linter.all false
set_option maxRecDepth 100000
set_option maxHeartbeats 4000000
/-! Ev8: methods, calls, targets, iterators, comprehensions. -/
namespace FM
open PySem PySem.Spec PyProof.Rows L2
section
variable {X : Cx} {F : Fs}

/-! ### methods -/
theorem meD_bits {x z : D} {ds : List D} (h : meD .bits x ds = some z) : ∃ i, x = .int i ∧ z = .int (Builtin.Int.intBits i : Nat) := by
  cases x with
  | int i =>
    cases ds with
    | nil => cases h; exact ⟨i, rfl, rfl⟩
    | cons _ _ => cases h
  | _ => cases h
theorem meD_partition {x z : D} {ds : List D} (h : meD .partition x ds = some z) : ∃ a b, x = .str a ∧ ds = [.str b] ∧ (b.length == 0) = false ∧ a.length ≤ sizeLine ∧ z = .tup [.str (Txt.partition a b).1, .str (Txt.partition a b).2.1, .str (Txt.partition a b).2.2] := by
  unfold meD at h
  split at h
  · contradiction
  · split at h
    · rename_i hc
      cases h
      exact ⟨_, _, rfl, rfl, hc.1, hc.2, rfl⟩
    · cases h
  · contradiction
  · cases h
theorem meD_join {x z : D} {ds : List D} (h : meD .join x ds = some z) : ∃ a ys, x = .str a ∧ ds = [.lst (ys.map D.str)] ∧ (ys.map (·.length)).sum + ys.length * a.length ≤ 16777216 ∧ z = .str (Txt.join a ys) := by
  unfold meD at h
  split at h
  · contradiction
  · contradiction
  · split at h
    · rename_i hy
      split at h
      · rename_i hc
        cases h
        exact ⟨_, _, rfl, by rw [asStrs_ok hy], hc, rfl⟩
      · cases h
    · cases h
  · cases h
theorem me_go {m : Me} {a : E} {es : Es} {ρ : Env} {μ μ' : Cells} {d : D} (he : ev F (.me m a es) ρ μ = some (d, μ')) : ∃ x μ1 ds, ev F a ρ μ = some (x, μ1) ∧ evs F es ρ μ1 = some (ds, μ') ∧ meD m x ds = some d := by
  unfold ev at he
  obtain ⟨x, μ1, e1, he⟩ := andThen_some he
  obtain ⟨ds, μ2, e2, he⟩ := andThen_some he
  obtain ⟨hz, rfl⟩ := wthD_some he
  exact ⟨x, μ1, ds, e1, e2, hz⟩
theorem s_bits {a : E} {x : Expr} {apos pos : Pos} (ha : Both X F x a) (hb : baseOk x = true) (hl : (apos.endLine == pos.line) = true) : Both X F (.Call (.Attribute x "bit_length" apos) [] [] pos) (.me .bits a .nil) := by
  refine Both.mk' (PE.imp (pe_bits ha.v (base_of hb _ _) hl) ?_) rfl
  intro σ H Q ⟨own, ads, ρ, μ, d, μ', h, he, q⟩
  obtain ⟨dx, μ1, ds, e1, e2, hz⟩ := me_go he
  cases e2
  obtain ⟨i, rfl, rfl⟩ := meD_bits hz
  exact ⟨own, ads, ρ, μ, _, _, h, e1, fun v H1 ads1 x1 h1 r1 => ⟨_, r1.int, q _ H1 ads1 x1 h1 (.inl (.int _))⟩⟩
theorem one_arg {y : Expr} (hs : notStar y = true) (env : PySem.Env) (cpos : Pos) : ((backTo cpos (starEach [y] env)).all (fun x => !x.1) && (backToKw cpos (keywordEach [] env)).all (fun x => x.1.isSome)
      && decide (([y] : List Expr).length + ([] : List Keyword).length + (if ([] : List Keyword).isEmpty then 0 else 1) < 30)) = true := by
  rw [starEach_cons hs]
  rfl
theorem s_partition {a : E} {es : Es} {x y : Expr} {apos pos : Pos} (ha : Both X F x a) (he : PA X [y] (tEs X.K F es)) (hs : notStar y = true) (hb : baseOk x = true) (hl : (apos.endLine == pos.line) = true) :
    Both X F (.Call (.Attribute x "partition" apos) [y] [] pos) (.me .partition a es) := by
  refine Both.mk' (PE.imp (pe_bm PySem.F.plainAttrs_str PySem.F.slot_str_partition PySem.F.type_str_partition mt_partition ha.v he (base_of hb _ _) (one_arg hs _ _) hl (starEach_cons hs _ _) rfl) ?_) rfl
  intro σ H Q ⟨own, ads, ρ, μ, d, μ', h, he, q⟩
  obtain ⟨dx, μ1, ds, e1, e2, hz⟩ := me_go he
  obtain ⟨s, t, rfl, rfl, c1, c2, rfl⟩ := meD_partition hz
  refine ⟨own, ads, ρ, μ, _, _, h, e1, fun v H1 ads1 x1 h1 r1 => ?_⟩
  have ev := r1.str
  subst ev
  refine ⟨rfl, own, ads1, ρ, μ1, _, _, h1, e2, fun vs H2 ads2 x2 h2 r2 _ => ?_⟩
  obtain ⟨w, ew, r3⟩ := r2.one
  have ew2 := r3.str
  subst ew ew2
  exact ⟨_, _, rfl, rfl, c1, c2, (toFin (x1.trans x2) h2 q).newT h2.c (.cons (.str _) (.cons (.str _) (.cons (.str _) .nil)))⟩
theorem s_join {a : E} {es : Es} {x y : Expr} {apos pos : Pos} (ha : Both X F x a) (he : PA X [y] (tEs X.K F es)) (hs : notStar y = true) (hb : baseOk x = true) (hl : (apos.endLine == pos.line) = true) :
    Both X F (.Call (.Attribute x "join" apos) [y] [] pos) (.me .join a es) := by
  refine Both.mk' (PE.imp (pe_bm PySem.F.plainAttrs_str PySem.F.slot_str_join PySem.F.type_str_join mt_join ha.v he (base_of hb _ _) (one_arg hs _ _) hl (starEach_cons hs _ _) rfl) ?_) rfl
  intro σ H Q ⟨own, ads, ρ, μ, d, μ', h, he, q⟩
  obtain ⟨dx, μ1, ds, e1, e2, hz⟩ := me_go he
  obtain ⟨s, ys, rfl, rfl, c1, rfl⟩ := meD_join hz
  refine ⟨own, ads, ρ, μ, _, _, h, e1, fun v H1 ads1 x1 h1 r1 => ?_⟩
  have ev := r1.str
  subst ev
  refine ⟨rfl, own, ads1, ρ, μ1, _, _, h1, e2, fun vs H2 ads2 x2 h2 r2 _ => ?_⟩
  obtain ⟨w, ew, r3⟩ := r2.one
  obtain ⟨p, zs, ew2, t3, l3⟩ := r3.lst
  subst ew ew2
  have e3 := l3.strs
  subst e3
  exact ⟨_, _, ys, rfl, rfl, .inl t3, c1, (toFin (x1.trans x2) h2 q).str h2.c⟩

/-! ### calls of defs -/
theorem s_call {N fs : List Str} {n : Nat} {sc : Scope} (G : GX N fs F n sc X) {f : Nat} {g : Str} {es : Es} {xs : List Expr} {p pos : Pos} (hf : fs[f]? = some g) (hgl : gloB sc g = true) (hd : (g == ("__debug__" : Str)) = false) (hst : ∀ y ∈ xs, notStar y = true) (hne : xs = [] → es = .nil)
    (h : PA X xs (tEs X.K F es)) : Both X F (.Call (.Name g p) xs [] pos) (.call f es) := by
  refine Both.mk' ⟨fun pins s σ H Q I hq => ?_⟩ rfl
  obtain ⟨own, ads, ρ, μ, d, μ', h0, he, q⟩ := hq
  unfold ev at he
  split at he
  · cases he
  · rename_i hl
    obtain ⟨ds, μ1, e1, he⟩ := andThen_some he
    obtain ⟨a, fd, ps, m1, m2, m3, m4, m5⟩ := G.fn f g hf ds μ1 d μ' he
    have read : tCall (spF X.K ps.length (F f)) [] E0 (tEs X.K F es) σ H Q := by
      refine ⟨own, ads, ρ, μ, ds, μ1, h0, e1, fun vs H1 ads1 x1 h1 r1 p1 => ?_⟩
      have l := p1 (by simpa using hl)
      refine ⟨by rw [List.append_nil, l.length, m4], own, ads1, ds, μ1, d, μ', by rw [List.append_nil]; exact l, h1.c, he, ?_⟩
      exact toFin x1 h1 q
    cases xs with
    | nil =>
      have hnil : tCall (spF X.K ps.length (F f)) [] E0 tNil σ H Q := by
        obtain rfl := hne rfl
        cases e1
        exact ⟨by rw [List.append_nil, m4]; rfl, own, ads, [], _, d, μ', .nil, h0.c, he, toFin .refl h0 q⟩
      exact (pe_call0 m5 G.room (G.glo g hgl) m1 m2 m3 .nil pass0 hd).run pins s σ H Q I hnil
    | cons y ys =>
      exact (pe_call m5 G.room (G.glo g hgl) m1 m2 m3 .nil pass0 h hd (starEach_cons (hst y List.mem_cons_self) _ _) (noStarAny fun z hz => hst z (List.mem_cons_of_mem _ hz))).run pins s σ H Q I read
end
end FM

set_option Elab.async false
set_option linter.all false
set_option maxRecDepth 100000
set_option maxHeartbeats 4000000
/-! Ev9: calls that borrow, targets, iterators. -/
namespace FM
open PySem PySem.Spec PyProof.Rows L2

/-! ### calls that borrow -/
/-- the own lists and the cells, but those handed over -/
def less (own : Addr → Prop) (ads : List Addr) (vs : List V) : Addr → Prop := fun b => Zo own ads b ∧ V.ref b ∉ vs
mutual
theorem Rep.bare {K : PySem.W.Frag} {Z Z' : Addr → Prop} {ads ads' : List Addr} {H : Hp} (hz : ∀ b, Z' b → Z b) : ∀ (d : D) (v : V), Rep K Z ads H v d → d.noCell = true → Rep K Z' ads' H v d
  | .non, _, h, _ => by cases h; exact .non
  | .bl b, _, h, _ => by cases h; exact .bl b
  | .int i, _, h, _ => by cases h; exact .int i
  | .str x, _, h, _ => by cases h; exact .str x
  | .tup ds, _, h, n => by
    cases h with
    | tup h1 h2 => exact .tup (h1.elim (fun z => .inl ⟨z.1, fun q => z.2 (hz _ q)⟩) .inr) (RepL.bare hz ds _ h2 n)
  | .lst ds, _, h, n => by
    cases h with
    | lst h1 h2 => exact .lst (h1.elim (fun z => .inl ⟨z.1, fun q => z.2 (hz _ q)⟩) .inr) (RepL.bare hz ds _ h2 n)
  | .cell k, _, h, n => by cases n
theorem RepL.bare {K : PySem.W.Frag} {Z Z' : Addr → Prop} {ads ads' : List Addr} {H : Hp} (hz : ∀ b, Z' b → Z b) : ∀ (ds : List D) (vs : List V), RepL K Z ads H vs ds → noCells ds = true → RepL K Z' ads' H vs ds
  | [], _, h, _ => by cases h; exact .nil
  | d :: ds, _, h, n => by
    cases h with
    | cons h1 h2 =>
      have n' : (d.noCell && noCells ds) = true := n
      rw [Bool.and_eq_true] at n'
      exact .cons (Rep.bare hz d _ h1 n'.1) (RepL.bare hz ds _ h2 n'.2)
end
mutual
/-- data without lists and cells: whatever is owned -/
theorem Rep.deep {K : PySem.W.Frag} {Z Z' : Addr → Prop} {ads ads' : List Addr} {H : Hp} (hz : ∀ a xs, Rd H a (.tup xs) → ¬ Z' a) : ∀ (d : D) (v : V), Rep K Z ads H v d → d.noCell = true → d.noLst = true → Rep K Z' ads' H v d
  | .non, _, h, _, _ => by cases h; exact .non
  | .bl b, _, h, _, _ => by cases h; exact .bl b
  | .int i, _, h, _, _ => by cases h; exact .int i
  | .str x, _, h, _, _ => by cases h; exact .str x
  | .tup ds, _, h, n, m => by
    cases h with
    | tup h1 h2 => exact .tup (h1.elim (fun z => .inl ⟨z.1, hz _ _ z.1⟩) .inr) (RepL.deep hz ds _ h2 n m)
  | .lst ds, _, h, n, m => by cases m
  | .cell k, _, h, n, m => by cases n
theorem RepL.deep {K : PySem.W.Frag} {Z Z' : Addr → Prop} {ads ads' : List Addr} {H : Hp} (hz : ∀ a xs, Rd H a (.tup xs) → ¬ Z' a) : ∀ (ds : List D) (vs : List V), RepL K Z ads H vs ds → noCells ds = true → noLsts ds = true → RepL K Z' ads' H vs ds
  | [], _, h, _, _ => by cases h; exact .nil
  | d :: ds, _, h, n, m => by
    cases h with
    | cons h1 h2 =>
      have n' : (d.noCell && noCells ds) = true := n
      have m' : (d.noLst && noLsts ds) = true := m
      rw [Bool.and_eq_true] at n' m'
      exact .cons (Rep.deep hz d _ h1 n'.1 m'.1) (RepL.deep hz ds _ h2 n'.2 m'.2)
end
theorem RepBL.bare {K : PySem.W.Frag} {own : Addr → Prop} {ads : List Addr} {H : Hp} (ws : List V) : ∀ (vs : List V) (ds : List D), (∀ v ∈ vs, v ∈ ws) → RepBL K own ads H vs ds → noCells ds = true → RepL K (Zo (less own ads ws) []) [] H vs ds
  | [], [], _, _, _ => .nil
  | v :: vs, d :: ds, hw, h, n => by
    have n' : (d.noCell && noCells ds) = true := n
    rw [Bool.and_eq_true] at n'
    have hz : ∀ b, Zo (less own ads ws) [] b → Zo own ads b := fun b z => z.elim (fun z => z.1) fun z => nomatch z
    refine .cons ?_ (RepBL.bare ws vs ds (fun x hx => hw x (List.mem_cons_of_mem _ hx)) h.2 n'.2)
    rcases h.1 with h1 | ⟨_, a, xs, es, e1, e2, e3, e4, e5⟩
    · exact h1.bare hz d v n'.1
    · subst e1 e2
      refine .lst (.inl ⟨.inl e3, fun z => ?_⟩) (e5.bare hz es xs n'.1)
      rcases z with z | z
      · exact z.2 (hw _ List.mem_cons_self)
      · exact nomatch z
  | [], _ :: _, _, h, _ => h.elim
  | _ :: _, [], _, h, _ => h.elim
section
variable {X : Cx} {F : Fs}
theorem s_callB {N fs : List Str} {n : Nat} {sc : Scope} (G : GX N fs F n sc X) {f : Nat} {g : Str} {es : Es} {xs : List Expr} {p pos : Pos} (hf : fs[f]? = some g) (hgl : gloB sc g = true) (hd : (g == ("__debug__" : Str)) = false) (hst : ∀ y ∈ xs, notStar y = true) (hne : xs ≠ [])
    (h : PA X xs (tEs X.K F es)) : Both X F (.Call (.Name g p) xs [] pos) (.callB f es) := by
  refine Both.mk' ⟨fun pins s σ H Q I hq => ?_⟩ rfl
  obtain ⟨own, ads, ρ, μ, d, μ', h0, he, q⟩ := hq
  unfold ev at he
  obtain ⟨ds, μ1, e1, he⟩ := andThen_some he
  split at he
  · rename_i hnc
    split at he
    · rename_i d' μ2 hF
      split at he
      · rename_i hdd
        cases he
        rw [Bool.and_eq_true] at hdd
        obtain ⟨a, fd, ps, m1, m2, m3, m4, m5⟩ := G.fn f g hf ds [] d μ2 hF
        have read : tCall (spF X.K ps.length (F f)) [] E0 (tEs X.K F es) σ H Q := by
          refine ⟨own, ads, ρ, μ, ds, _, h0, e1, fun vs H1 ads1 x1 h1 r1 _ => ?_⟩
          have l := RepBL.bare vs vs ds (fun _ z => z) r1 hnc
          have c0 : CellsR X.K (less own ads1 vs) [] H1 [] := ⟨rfl, .nil, fun k a e => by simp at e, fun a z => (nomatch z), fun b z => by
            rcases z.1 with w | w
            · exact h1.c.ownT b w
            · obtain ⟨k, hk⟩ := List.mem_iff_getElem?.mp w
              obtain ⟨kvs, _, _, w2, _⟩ := h1.c.at k b hk
              exact ⟨_, w2, True.intro⟩⟩
          refine ⟨by rw [List.append_nil, l.length, m4], less own ads1 vs, [], ds, [], d, μ2, by rw [List.append_nil]; exact l, c0, hF, ?_⟩
          intro v H2 ads2 x2 c2 r2
          have keep : ∀ b o, H1 b = some o → H2 b = some o := fun b o w => x2.keep b o w (fun z => nomatch z)
          have x3 : Ext ads1 H1 ads1 H2 := ⟨fun b o w _ => keep b o w, x2.there, fun b w => .inl w, fun _ _ w => w⟩
          have c3 : CellsR X.K own ads1 H2 μ' := h1.c.same x3 fun a ha => by
            obtain ⟨k, hk⟩ := List.mem_iff_getElem?.mp ha
            obtain ⟨kvs, _, _, w2, _⟩ := h1.c.at k a hk
            rw [w2, keep _ _ w2]
          refine q v H2 ads1 (x1.trans x3) ⟨h1.e.ext h1.c x3, c3, h1.len⟩ (.inl ?_)
          refine r2.plain.deep (fun a xs t z => ?_) d v hdd.1 hdd.2
          have w : ∃ o, H1 a = some o ∧ Mut (some o) := by
            rcases z with w | w
            · exact h1.c.ownT a w
            · obtain ⟨k, hk⟩ := List.mem_iff_getElem?.mp w
              obtain ⟨kvs, _, _, w2, _⟩ := h1.c.at k a hk
              exact ⟨_, w2, True.intro⟩
          obtain ⟨o, w1, w2⟩ := w
          have w3 := keep _ _ w1
          rcases t with t | ⟨ob, t⟩
          · rw [w3] at t; cases t; exact w2
          · rw [w3] at t; cases t; exact w2
        cases xs with
        | nil => exact absurd rfl hne
        | cons y ys =>
          exact (pe_call m5 G.room (G.glo g hgl) m1 m2 m3 .nil pass0 h hd (starEach_cons (hst y List.mem_cons_self) _ _) (noStarAny fun z hz => hst z (List.mem_cons_of_mem _ hz))).run pins s σ H Q I read
      · cases he
    · cases he
  · cases he
end

/-! ### slots set and forgotten -/
theorem Hold.set {K : PySem.W.Frag} {own : Addr → Prop} {ads : List Addr} {H : Hp} {σ : L2.St} {ρ : Env} {μ : Cells} {i : Nat} {v : V} {d : D} (h : Hold K own ads H σ ρ μ) (r : Rep K (Zo own ads) ads H v d) : Hold K own ads H (σ.set i (some v)) (ρ.set i (some (.pl d))) μ := by
  refine ⟨fun j s e => ?_, h.c, by rw [List.length_set, List.length_set]; exact h.len⟩
  by_cases hj : i = j
  · subst hj
    have hl : i < ρ.length := by
      have z := (List.getElem?_eq_some_iff.mp e).1
      rw [List.length_set] at z
      exact z
    rw [List.getElem?_set_self hl] at e
    cases e
    exact ⟨v, List.getElem?_set_self (by rw [← h.len]; exact hl), r⟩
  · rw [List.getElem?_set_ne hj] at e
    obtain ⟨w, e1, e2⟩ := h.e j s e
    exact ⟨w, by rw [List.getElem?_set_ne hj]; exact e1, e2⟩
/-- the slots forgotten, in the little language -/
def wipeR (ρ : Env) : List Nat → Env
  | [] => ρ
  | v :: vs => (wipeR ρ vs).set v none
theorem wipeR_length (ρ : Env) : ∀ vs : List Nat, (wipeR ρ vs).length = ρ.length
  | [] => rfl
  | v :: vs => by unfold wipeR; rw [List.length_set, wipeR_length ρ vs]
theorem wipeR_some {ρ : Env} {i : Nat} {x : Sl} : ∀ {vs : List Nat}, (wipeR ρ vs)[i]? = some (some x) → ρ[i]? = some (some x) ∧ i ∉ vs
  | [], h => ⟨h, by simp⟩
  | v :: vs, h => by
    unfold wipeR at h
    by_cases hi : v = i
    · subst hi
      by_cases hv : v < (wipeR ρ vs).length
      · rw [List.getElem?_set_self hv] at h; cases h
      · rw [List.getElem?_eq_none (by simpa using hv)] at h; cases h
    · rw [List.getElem?_set_ne hi] at h
      obtain ⟨h1, h2⟩ := wipeR_some h
      exact ⟨h1, by simp only [List.mem_cons, not_or]; exact ⟨fun e => hi e.symm, h2⟩⟩
theorem Hold.wipe {K : PySem.W.Frag} {own : Addr → Prop} {ads : List Addr} {H : Hp} {σ : L2.St} {ρ : Env} {μ : Cells} (h : Hold K own ads H σ ρ μ) (vs : List Nat) : Hold K own ads H (L2.wipe σ vs) (wipeR ρ vs) μ := by
  refine ⟨fun j s e => ?_, h.c, by rw [wipeR_length, L2.wipe_length]; exact h.len⟩
  obtain ⟨e1, e2⟩ := wipeR_some e
  obtain ⟨w, e3, e4⟩ := h.e j s e1
  exact ⟨w, by rw [wipe_out e2]; exact e3, e4⟩
theorem wipe_set {σ : L2.St} {i : Nat} {x : Option V} : ∀ {vs : List Nat}, i ∈ vs → L2.wipe (σ.set i x) vs = L2.wipe σ vs
  | [], h => nomatch h
  | v :: vs, h => by
    unfold L2.wipe
    by_cases hi : i ∈ vs
    · rw [wipe_set hi]
    · have e : i = v := by
        rcases List.mem_cons.mp h with e | e
        · exact e
        · exact absurd e hi
      subst e
      have z : ∀ (vs : List Nat), i ∉ vs → (L2.wipe (σ.set i x) vs) = (L2.wipe σ vs).set i x := by
        intro vs
        induction vs with
        | nil => intro _; rfl
        | cons u us ih =>
          intro hn
          simp only [List.mem_cons, not_or] at hn
          unfold L2.wipe
          rw [ih hn.2, List.set_comm _ _ hn.1]
      rw [z vs hi, List.set_set]
theorem wipe_wipe {σ : L2.St} : ∀ {vs ws : List Nat}, (∀ i ∈ vs, i ∈ ws) → L2.wipe (L2.wipe σ vs) ws = L2.wipe σ ws
  | [], _, _ => rfl
  | v :: vs, ws, h => by
    have e : L2.wipe σ (v :: vs) = (L2.wipe σ vs).set v none := rfl
    rw [e, wipe_set (h v List.mem_cons_self), wipe_wipe fun i hi => h i (List.mem_cons_of_mem _ hi)]
theorem setAll_wipeR : ∀ (is : List Nat) (ds : List D) (ρ : Env), is.Nodup → ds.length = is.length → setAll is ds (wipeR ρ is) = setAll is ds ρ
  | [], [], _, _, _ => rfl
  | [], _ :: _, _, _, e => by cases e
  | _ :: _, [], _, _, e => by cases e
  | i :: is, d :: ds, ρ, nd, e => by
    have hn := List.nodup_cons.mp nd
    show setAll is ds (((wipeR ρ is).set i none).set i (some (.pl d))) = setAll is ds (ρ.set i (some (.pl d)))
    rw [List.set_set]
    have z : ∀ (vs : List Nat), i ∉ vs → wipeR (ρ.set i (some (Sl.pl d))) vs = (wipeR ρ vs).set i (some (.pl d)) := by
      intro vs
      induction vs with
      | nil => intro _; rfl
      | cons u us ih =>
        intro hn
        simp only [List.mem_cons, not_or] at hn
        unfold wipeR
        rw [ih hn.2, List.set_comm _ _ hn.1]
    rw [← z is hn.1]
    exact setAll_wipeR is ds _ hn.2 (by simpa using e)

/-! ### targets -/
def gNames : List Nat → TGs
  | [] => gNil
  | i :: is => gCons (gName i) (gNames is)
def tTg (K : PySem.W.Frag) : Tg → TG
  | .nm i => gName i
  | .tp is => gTup K is.length (gNames is)
theorem s_ts {N fs : List Str} {F : Fs} {n : Nat} {sc : Scope} {X : Cx} (G : GX N fs F n sc X) : ∀ {is : List Nat} {es : List Expr}, chkTs N sc is es = true → PGs X es (gNames is) ∧ (assignEach es X.env).length = is.length ∧ (assignEach es X.env).findIdx? (·.1) = none
  | [], [], _ => ⟨pgs_nil, rfl, rfl⟩
  | [], e :: es, h => by cases e <;> cases h
  | i :: is, [], h => by cases h
  | i :: is, e :: es, h => by
    cases e with
    | Name x pos =>
      have h' : (decide (N[i]? = some x) && locB sc x && chkTs N sc is es) = true := h
      rw [Bool.and_eq_true, Bool.and_eq_true, decide_eq_true_eq] at h'
      obtain ⟨⟨h1, h2⟩, h3⟩ := h'
      obtain ⟨g1, g2, g3⟩ := s_ts G h3
      obtain ⟨l1, l2⟩ := G.loc x h2
      refine ⟨pgs_cons (pg_name (by rw [G.hN]; exact G.nd) (by rw [G.hN]; exact h1) l1 l2) g1 rfl, ?_, ?_⟩
      · show ((false, assign (.Name x pos) X.env) :: assignEach es X.env).length = _
        rw [List.length_cons, g2]
        rfl
      · show ((false, assign (.Name x pos) X.env) :: assignEach es X.env).findIdx? (·.1) = none
        rw [List.findIdx?_cons, if_neg Bool.false_ne_true, g3]
        rfl
    | _ => cases h
theorem s_tg {N fs : List Str} {F : Fs} {n : Nat} {sc : Scope} {X : Cx} (G : GX N fs F n sc X) {tg : Tg} {e : Expr} (h : chkTg N sc tg e = true) : PG X e (tTg X.K tg) := by
  cases tg with
  | nm i =>
    cases e with
    | Name x pos =>
      have h' : (decide (N[i]? = some x) && locB sc x) = true := h
      rw [Bool.and_eq_true, decide_eq_true_eq] at h'
      obtain ⟨l1, l2⟩ := G.loc x h'.2
      exact pg_name (by rw [G.hN]; exact G.nd) (by rw [G.hN]; exact h'.1) l1 l2
    | _ => cases h
  | tp is =>
    cases e with
    | Tuple es k pos =>
      have h' : (chkTs N sc is es && decide is.Nodup) = true := h
      rw [Bool.and_eq_true] at h'
      obtain ⟨g1, g2, g3⟩ := s_ts G h'.1
      exact pg_tup G.calm g1 g2 g3
    | _ => cases h
theorem gNames_ok {K : PySem.W.Frag} {own : Addr → Prop} {ads : List Addr} {H : Hp} {μ : Cells} {Q : L2.St → Hp → Prop} {ws : List Nat} : ∀ {is : List Nat} {ds : List D} {vs : List V} {σ : L2.St} {ρ : Env}, Hold K own ads H σ ρ μ → RepL K (Zo own ads) ads H vs ds → ds.length = is.length →
    (∀ i ∈ is, i ∈ ws) → (∀ σ1, Hold K own ads H σ1 (setAll is ds ρ) μ → L2.wipe σ1 ws = L2.wipe σ ws → Q σ1 H) → gNames is vs σ H Q
  | [], [], _, σ, ρ, h, r, _, _, k => by
    cases r
    exact ⟨rfl, k σ h rfl⟩
  | [], _ :: _, _, _, _, _, _, e, _, _ => by cases e
  | _ :: _, [], _, _, _, _, _, e, _, _ => by cases e
  | i :: is, d :: ds, _, σ, ρ, h, r, e, hw, k => by
    cases r with
    | @cons v _ vs _ r1 r2 =>
      refine ⟨v, vs, rfl, ?_⟩
      show gNames is vs (σ.set i (some v)) H Q
      refine gNames_ok (h.set r1) r2 (by simpa using e) (fun j hj => hw j (List.mem_cons_of_mem _ hj)) fun σ1 h1 w1 => k σ1 h1 ?_
      rw [w1, wipe_set (hw i List.mem_cons_self)]
theorem tg_ok {K : PySem.W.Frag} {own : Addr → Prop} {ads : List Addr} {H : Hp} {σ : L2.St} {ρ ρ1 : Env} {μ : Cells} {Q : L2.St → Hp → Prop} {tg : Tg} {v : V} {d : D} (h : Hold K own ads H σ ρ μ) (r : Rep K (Zo own ads) ads H v d) (e : bindT tg d ρ = some ρ1)
    (k : ∀ σ1, Hold K own ads H σ1 ρ1 μ → L2.wipe σ1 tg.slots = L2.wipe σ tg.slots → Q σ1 H) : tTg K tg v σ H Q := by
  cases tg with
  | nm i =>
    have e' : some (ρ.set i (some (.pl d))) = some ρ1 := e
    cases e'
    exact k _ (h.set r) (wipe_set (List.mem_singleton.mpr rfl))
  | tp is =>
    cases d with
    | tup ds =>
      have e' : (if ds.length = is.length then some (setAll is ds ρ) else none) = some ρ1 := e
      split at e'
      · rename_i hl
        cases e'
        cases r with
        | tup t l =>
          exact ⟨_, _, rfl, t.sq, by rw [l.length]; exact hl, gNames_ok h l hl (fun _ z => z) k⟩
      · cases e'
    | _ => cases e

/-! ### what is walked -/
def WalksR (K : PySem.W.Frag) (own ow : Addr → Prop) (ads : List Addr) (H : Hp) (J : L2.It) (xs : List D) (b : Bool) : Prop :=
  (∃ a vs, J = Itl K a ∧ LstAt K (Zo own ads) H a vs ∧ RepL K (Zo own ads) ads H vs xs) ∨
  (b = true ∧ ∃ a vs, J = Itl K a ∧ H a = some (.lst vs) ∧ ow a ∧ RepL K (Zo own ads) ads H vs xs) ∨
  (∃ a vs, J = Itt K a ∧ TupAt K (Zo own ads) H a vs ∧ RepL K (Zo own ads) ads H vs xs) ∨
  (∃ lo n, J = Itr lo n ∧ xs = rngD lo n) ∨
  (∃ s : Str, J = Its s ∧ xs = signs s)
section
variable {K : PySem.W.Frag} {own ow : Addr → Prop} {ads ads' : List Addr} {H H' : Hp} {μ : Cells} {J : L2.It} {xs : List D} {b : Bool}
theorem WalksR.ext (hw : ∀ b, ow b → own b) (c : CellsR K own ads H μ) (e : Ext ads H ads' H') (h : WalksR K own ow ads H J xs b) : WalksR K own ow ads' H' J xs b := by
  rcases h with ⟨a, vs, h1, h2, h3⟩ | ⟨hb, a, vs, h1, h2, h3, h4⟩ | ⟨a, vs, h1, h2, h3⟩ | h
  · exact .inl ⟨a, vs, h1, h2.stay e.stay, h3.ext e⟩
  · exact .inr (.inl ⟨hb, a, vs, h1, e.keep _ _ h2 fun m => c.dis a m (hw _ h3), h3, h4.ext e⟩)
  · exact .inr (.inr (.inl ⟨a, vs, h1, h2.stay e.stay, h3.ext e⟩))
  · exact .inr (.inr (.inr h))
theorem signs_get {s : Str} {i : Nat} {d : D} (h : (signs s)[i]? = some d) : i < s.cps.size ∧ ∃ c, s.cps[i]? = some c ∧ d = .str ⟨#[c]⟩ := by
  unfold signs at h
  rw [List.getElem?_map, Array.getElem?_toList] at h
  cases e : s.cps[i]? with
  | none => rw [e] at h; cases h
  | some c => rw [e] at h; cases h; exact ⟨(Array.getElem?_eq_some_iff.mp e).1, c, rfl, rfl⟩
theorem signs_length {s : Str} : (signs s).length = s.cps.size := by unfold signs; rw [List.length_map, Array.length_toList]
theorem WalksR.seqL {a : Addr} {vs : List V} (hs : SqL K H a vs) (l : RepL K (Zo own ads) ads H vs xs) (inj : ∀ ys, SqL K H a ys → ys = vs) (i : Nat) :
    (xs.length ≤ i → (Itl K a).stop i H) ∧ (∀ d, xs[i]? = some d → (Itl K a).go i H ∧ ∀ x H', (Itl K a).yld i H x H' → H' = H ∧ Rep K (Zo own ads) ads H x d) := by
  refine ⟨fun hi => ⟨vs, hs, by rw [l.length]; exact hi⟩, fun d hd => ?_⟩
  obtain ⟨v, e1, e2⟩ := l.get hd
  refine ⟨⟨vs, v, hs, e1⟩, fun x H' y => ⟨y.1, ?_⟩⟩
  have z := y.2 vs hs
  rw [e1] at z
  cases z
  exact e2
theorem WalksR.seqT {a : Addr} {vs : List V} (hs : SqT K H a vs) (l : RepL K (Zo own ads) ads H vs xs) (i : Nat) :
    (xs.length ≤ i → (Itt K a).stop i H) ∧ (∀ d, xs[i]? = some d → (Itt K a).go i H ∧ ∀ x H', (Itt K a).yld i H x H' → H' = H ∧ Rep K (Zo own ads) ads H x d) := by
  refine ⟨fun hi => ⟨vs, hs, by rw [l.length]; exact hi⟩, fun d hd => ?_⟩
  obtain ⟨v, e1, e2⟩ := l.get hd
  refine ⟨⟨vs, v, hs, e1⟩, fun x H' y => ⟨y.1, ?_⟩⟩
  have z := y.2 vs hs
  rw [e1] at z
  cases z
  exact e2
theorem rngD_get {lo : Int} {n i : Nat} {d : D} (h : (rngD lo n)[i]? = some d) : i < n ∧ d = .int (lo + i) := by
  unfold rngD at h
  rw [List.getElem?_map] at h
  by_cases hi : i < n
  · rw [List.getElem?_range hi] at h
    cases h
    exact ⟨hi, rfl⟩
  · rw [List.getElem?_eq_none (by simpa using hi)] at h
    cases h
theorem rngD_length {lo : Int} {n : Nat} : (rngD lo n).length = n := by unfold rngD; rw [List.length_map, List.length_range]
theorem WalksR.turn (h : WalksR K own ow ads H J xs b) (i : Nat) :
    (xs.length ≤ i → J.stop i H) ∧ (∀ d, xs[i]? = some d → J.go i H ∧ ∀ x H', J.yld i H x H' → H' = H ∧ Rep K (Zo own ads) ads H x d) := by
  rcases h with ⟨a, vs, rfl, h2, h3⟩ | ⟨_, a, vs, rfl, h2, h3, h4⟩ | ⟨a, vs, rfl, h2, h3⟩ | ⟨lo, n, rfl, rfl⟩ | ⟨s, rfl, rfl⟩
  · refine ⟨fun hi => ⟨vs, h2.sq, by rw [h3.length]; exact hi⟩, fun d hd => ?_⟩
    obtain ⟨v, e1, e2⟩ := h3.get hd
    refine ⟨⟨vs, v, h2.sq, e1⟩, fun x H' y => ⟨y.1, ?_⟩⟩
    have z := y.2 vs h2.sq
    rw [e1] at z
    cases z
    exact e2
  · refine ⟨fun hi => ⟨vs, .of h2, by rw [h4.length]; exact hi⟩, fun d hd => ?_⟩
    obtain ⟨v, e1, e2⟩ := h4.get hd
    refine ⟨⟨vs, v, .of h2, e1⟩, fun x H' y => ⟨y.1, ?_⟩⟩
    have z := y.2 vs (.of h2)
    rw [e1] at z
    cases z
    exact e2
  · exact WalksR.seqT h2.sq h3 i
  · refine ⟨fun hi => ?_, fun d hd => ?_⟩
    · rw [rngD_length] at hi
      exact hi
    · obtain ⟨h1, h2⟩ := rngD_get hd
      refine ⟨h1, fun x H' y => ⟨y.1, ?_⟩⟩
      rw [h2, y.2]
      exact .int _
  · refine ⟨fun hi => ?_, fun d hd => ?_⟩
    · rw [signs_length] at hi
      exact hi
    · obtain ⟨h1, c, h2, h3⟩ := signs_get hd
      subst h3
      refine ⟨h1, fun x H' ⟨y1, c', y2, y3⟩ => ⟨y1, ?_⟩⟩
      rw [h2] at y2
      cases y2
      subst y3
      exact .str _
end
def tI (K : PySem.W.Frag) (F : Fs) (it : It) : TI := fun σ H R => ∃ own ads ρ μ xs μ', Hold K own ads H σ ρ μ ∧ evi F it ρ μ = some (xs, μ') ∧
  ∀ J H' ads', Ext ads H ads' H' → Hold K own ads' H' σ ρ μ' → WalksR K own own ads' H' J xs (it.lk ρ) → R J H'
theorem PI.imp {X : Cx} {tg e : Expr} {t t' : TI} (h : PI X tg e t) (i : ∀ σ H Q, t' σ H Q → t σ H Q) : PI X tg e t' := ⟨fun pins s σ H Q I q => h.run pins s σ H Q I (i _ _ _ q)⟩
theorem PI.or {X : Cx} {tg e : Expr} {t t' : TI} (h : PI X tg e t) (h' : PI X tg e t') : PI X tg e (fun σ H R => t σ H R ∨ t' σ H R) := ⟨fun pins s σ H Q I q => q.elim (h.run pins s σ H Q I) (h'.run pins s σ H Q I)⟩
section
variable {X : Cx} {F : Fs} {tgx : Expr}
/-- a list or a tuple, whichever it is -/
theorem pi_seq {l : Expr} {tl : TE} (hl : PE X l tl) : PI X tgx l (fun σ H R => tl σ H fun x H1 => (∃ y, x = .str y ∧ R (Its y) H1) ∨ ∃ a, x = .ref a ∧ (((∃ xs, SqL X.K H1 a xs) ∧ R (Itl X.K a) H1) ∨ ((∃ xs, SqT X.K H1 a xs) ∧ R (Itt X.K a) H1))) := by
  refine ⟨fun pins s σ H R I h => ?_⟩
  refine thn (hl.run pins s σ H _ I h) fun v s1 ⟨x, H1, I1, r1, q1⟩ => ?_
  rcases q1 with ⟨y, e, q⟩ | q1
  · subst e
    obtain ⟨t, rfl⟩ := r1
    cases ha : y.cps.all (· < 128)
    · exact wpAny_pyIter_wide ha (pi_one (tk := s1.toks) I1 _ (turn_str _ y t "str_iterator" (.inr rfl)) ⟨_, Heap.get?_push_size _ rfl, rfl, rfl⟩ q)
    · exact wpAny_pyIter_ascii ha (pi_one (tk := s1.toks) I1 _ (turn_str _ y t "str_ascii_iterator" (.inl rfl)) ⟨_, Heap.get?_push_size _ rfl, rfl, rfl⟩ q)
  obtain ⟨a, e, q1⟩ := q1
  subst e
  cases r1
  rcases q1 with ⟨⟨xs, hq⟩, q⟩ | ⟨⟨xs, hq⟩, q⟩
  · obtain ⟨its, rv, p, hz⟩ := I1.list hq
    refine wpAny_pyIter_list p.isList ?_
    refine ⟨s1.heap.objs.size, [s1.heap.objs.size], _, _, H1, rfl, I1.kept (t' := s1.toks) fun b o e => Heap.get?_push_of_some _ e, turn_list a _, ⟨_, Heap.get?_push_size _ rfl, rfl, rfl⟩, fun b hb => ?_, q⟩
    have e : b = s1.heap.objs.size := by simpa using hb
    subst e
    exact I1.fpOk (Nat.le_refl _) (I1.hok.fresh (Nat.le_refl _))
  · obtain ⟨its, rv, p, hz⟩ := I1.tuple hq
    refine wpAny_pyIter_tuple (show s1.heap.IsTuple a its.toArray from p) ?_
    refine ⟨s1.heap.objs.size, [s1.heap.objs.size], _, _, H1, rfl, I1.kept (t' := s1.toks) fun b o e => Heap.get?_push_of_some _ e, turn_tuple a _, ⟨_, Heap.get?_push_size _ rfl, rfl, rfl⟩, fun b hb => ?_, q⟩
    have e : b = s1.heap.objs.size := by simpa using hb
    subst e
    exact I1.fpOk (Nat.le_refl _) (I1.hok.fresh (Nat.le_refl _))
theorem s_iseq {e : E} {x : Expr} (h : Both X F x e) : PI X tgx x (tI X.K F (.seq e)) := by
  refine PI.imp (pi_seq h.v) ?_
  intro σ H R ⟨own, ads, ρ, μ, xs, μ', h, he, q⟩
  unfold evi at he
  obtain ⟨dx, μ1, e1, he⟩ := andThen_some he
  refine ⟨own, ads, ρ, μ, dx, μ1, h, e1, fun v H1 ads1 x1 h1 r1 => ?_⟩
  split at he
  · cases he
    rcases r1 with r1 | ⟨hb, a, vs, es, f1, f2, f3, f4, f5⟩
    · cases r1 with
      | lst t l => exact .inr ⟨_, rfl, .inl ⟨⟨_, t.sq⟩, q _ H1 ads1 x1 h1 (.inl ⟨_, _, rfl, t, l⟩)⟩⟩
    · cases f2
      exact .inr ⟨a, f1, .inl ⟨⟨vs, .of f3⟩, q _ H1 ads1 x1 h1 (.inr (.inl ⟨hb, a, vs, rfl, f3, f4, f5⟩))⟩⟩
  · cases he
    obtain ⟨a, vs, f1, f2, f3⟩ := r1.tup
    exact .inr ⟨a, f1, .inr ⟨⟨vs, f2.sq⟩, q _ H1 ads1 x1 h1 (.inr (.inr (.inl ⟨a, vs, rfl, f2, f3⟩)))⟩⟩
  · cases he
    exact .inl ⟨_, r1.str, q _ H1 ads1 x1 h1 (.inr (.inr (.inr (.inr ⟨_, rfl, rfl⟩))))⟩
  · cases he
theorem rngOk_ok {i : Int} (h : rngOk i = true) : -(2 ^ 62) ≤ i ∧ i < 2 ^ 62 := by
  unfold rngOk at h
  rw [Bool.and_eq_true, decide_eq_true_eq, decide_eq_true_eq] at h
  exact h
theorem s_rng1 {N fs : List Str} {n : Nat} {sc : Scope} (G : GX N fs F n sc X) {a : E} {x : Expr} {p pos : Pos} (hg : gloB sc "range" = true) (hs : notStar x = true) (h : Both X F x a) : PI X tgx (.Call (.Name "range" p) [x] [] pos) (tI X.K F (.rng1 a)) := by
  have hn : X.mg "range" = none := G.bn _ (by decide +kernel)
  refine PI.imp (pi_range1 (G.glo _ hg) hn (pa_cons h.v pa_nil (starEach_cons hs _ _)) (by rw [starEach_cons hs]; rfl)) ?_
  intro σ H R ⟨own, ads, ρ, μ, xs, μ', h, he, q⟩
  unfold evi at he
  obtain ⟨dx, μ1, e1, he⟩ := andThen_some he
  split at he
  · split at he
    · rename_i m hm
      cases he
      refine ⟨own, ads, ρ, μ, _, _, h, e1, fun v H1 ads1 x1 h1 r1 => ?_⟩
      have ev := r1.int
      subst ev
      exact ⟨_, rfl, (rngOk_ok hm).1, (rngOk_ok hm).2, q _ H1 ads1 x1 h1 (.inr (.inr (.inr (.inl ⟨_, _, rfl, rfl⟩))))⟩
    · cases he
  · cases he
theorem s_rng2 {N fs : List Str} {n : Nat} {sc : Scope} (G : GX N fs F n sc X) {a b : E} {x y : Expr} {p pos : Pos} (hg : gloB sc "range" = true) (hs : notStar x = true) (hs2 : notStar y = true) (h : Both X F x a) (h2 : Both X F y b) : PI X tgx (.Call (.Name "range" p) [x, y] [] pos) (tI X.K F (.rng2 a b)) := by
  have hn : X.mg "range" = none := G.bn _ (by decide +kernel)
  refine PI.imp (pi_range2 (G.glo _ hg) hn (pa_cons h.v (pa_cons h2.v pa_nil (starEach_cons hs2 _ _)) (starEach_cons hs _ _)) (by rw [starEach_cons hs, starEach_cons hs2]; rfl) (by rw [starEach_cons hs2]; rfl)) ?_
  intro σ H R ⟨own, ads, ρ, μ, xs, μ', h, he, q⟩
  unfold evi at he
  obtain ⟨dx, μ1, e1, he⟩ := andThen_some he
  obtain ⟨dy, μ2, e2, he⟩ := andThen_some he
  split at he
  · split at he
    · rename_i m k hm
      cases he
      rw [Bool.and_eq_true] at hm
      refine ⟨own, ads, ρ, μ, _, μ1, h, e1, fun v H1 ads1 x1 h1 r1 => ⟨own, ads1, ρ, μ1, _, _, h1, e2, fun w H2 ads2 x2 h2 r2 => ?_⟩⟩
      have ev := r1.int
      have ew := r2.int
      subst ev ew
      exact ⟨_, _, rfl, ⟨(rngOk_ok hm.1).1, (rngOk_ok hm.1).2, (rngOk_ok hm.2).1, (rngOk_ok hm.2).2⟩, q _ H2 ads2 (x1.trans x2) h2 (.inr (.inr (.inr (.inl ⟨_, _, rfl, rfl⟩))))⟩
    · cases he
  · cases he
end
end FM

set_option Elab.async false
set_option linter.all false
set_option maxRecDepth 100000
set_option maxHeartbeats 4000000
/-! Ev10: comprehensions, dict displays, all expressions. -/
namespace FM
open PySem PySem.Spec PyProof.Rows L2

/-! ### the block of a comprehension -/
theorem lookup_cond (c : Str → NameKind → Bool) (x : Str) : ∀ names : List (Str × NameKind), (names.map fun p => if c p.1 p.2 = true then (p.1, NameKind.cell) else (p.1, p.2)).lookup x = (names.lookup x).map fun k => if c x k = true then NameKind.cell else k
  | [] => rfl
  | (n, k) :: r => by
    have ih := lookup_cond c x r
    rw [List.map_cons]
    cases hx : x == n with
    | true =>
      have e : x = n := eq_of_beq hx
      subst e
      by_cases hc : c x k = true
      · simp only [hc, if_true, List.lookup_cons, hx, Option.map_some]
      · have hc' : c x k = false := by simpa using hc
        simp [hc', List.lookup_cons]
    | false =>
      by_cases hc : c n k = true
      · simp only [hc, if_true, List.lookup_cons, hx]
        exact ih
      · have hc' : c n k = false := by simpa using hc
        simp only [hc', Bool.false_eq_true, if_false, List.lookup_cons, hx]
        exact ih
def relC (env : PySem.Env) (n : Str) (k : NameKind) : Bool := k == NameKind.free && env.scope.kind == .function && env.kindOf n == some .cell
theorem lookup_relabel (env : PySem.Env) (x : Str) (scope : Scope) : (relabel scope env).names.lookup x = (scope.names.lookup x).map fun k => if relC env x k = true then NameKind.cell else k := lookup_cond (relC env) x scope.names
theorem relC_local (env : PySem.Env) (x : Str) : relC env x .local = false := rfl
theorem relC_cell (env : PySem.Env) (x : Str) : relC env x .cell = false := rfl
theorem relC_glo (env : PySem.Env) (x : Str) : relC env x .globalImplicit = false := rfl
theorem GX.blk {N fs : List Str} {F : Fs} {n : Nat} {sc : Scope} {X : Cx} (G : GX N fs F n sc X) {scope : Scope} {s : Shared} {H : Hp} {C : Addr} {cl : List (Str × Addr)} {fp : List Addr} :
    GX N fs F n scope (X.blk s H scope (compEnvC scope cl C X.env) fp) := by
  have look : ∀ x, (compEnvC scope cl C X.env).scope.names.lookup x = (scope.names.lookup x).map fun k => if relC X.env x k = true then NameKind.cell else k := fun x => lookup_relabel X.env x scope
  have free : ∀ x, scope.names.lookup x = some .free → (compEnvC scope cl C X.env).scope.names.lookup x = some .cell ∨ (compEnvC scope cl C X.env).scope.names.lookup x = some .free := fun x e => by
    rw [look, e, Option.map_some]
    by_cases hc : relC X.env x .free = true
    · rw [if_pos hc]; exact .inl rfl
    · rw [if_neg hc]; exact .inr rfl
  refine ⟨G.hN, G.nd, G.calm, rfl, G.room, fun x h => ?_, fun x h => ?_, fun x h => ?_, fun x h => ?_, G.bn, G.fn⟩
  · unfold visB at h
    show (compEnvC scope cl C X.env).scope.names.lookup x = some .local ∨ (compEnvC scope cl C X.env).scope.names.lookup x = some .cell ∨ (compEnvC scope cl C X.env).scope.names.lookup x = some .free
    split at h
    · rename_i e; rw [look, e]; exact .inl rfl
    · rename_i e; rw [look, e]; exact .inr (.inl rfl)
    · rename_i e; exact .inr (free x e)
    · cases h
  · unfold gloB at h
    show (compEnvC scope cl C X.env).scope.names.lookup x = some .globalImplicit
    split at h
    · rename_i e; rw [look, e]; rfl
    · cases h
  · unfold locB at h
    show ((compEnvC scope cl C X.env).scope.names.lookup x = some .local ∨ (compEnvC scope cl C X.env).scope.names.lookup x = some .cell) ∧ ((scope.names.lookup x == some .cell) = true ∨ (compEnvC scope cl C X.env).scope.names.lookup x = some .local)
    split at h
    · rename_i e; rw [look, e]; exact ⟨.inl rfl, .inr rfl⟩
    · rename_i e; rw [look, e]; exact ⟨.inr rfl, .inl rfl⟩
    · cases h
  · show (compEnvC scope cl C X.env).scope.names.lookup x = some .cell ∨ (compEnvC scope cl C X.env).scope.names.lookup x = some .free
    rcases h with e | e
    · rw [look, e]; exact .inl rfl
    · exact free x e
theorem own_slots (N : List Str) : ∀ is : List Nat, (ownOf N is).map (·.2) = is
  | [] => rfl
  | i :: is => by
    show i :: (ownOf N is).map (·.2) = i :: is
    rw [own_slots N is]
theorem GX.blkOk {N fs : List Str} {F : Fs} {n : Nat} {sc : Scope} {X : Cx} (G : GX N fs F n sc X) {scope : Scope} {is : List Nat} (h : blkC N sc scope (ownOf N is) = true) : BlkOk X.N X.env.scope scope (ownOf N is) := by
  have b := blkOk_by h
  rw [G.hN]
  exact ⟨b.kind, b.uniq, b.ix, fun y hy e => G.cap y.1 (b.free y hy e), b.own⟩

/-! ### the comprehension -/
section
variable {X : Cx} {F : Fs}
theorem lcGo_len {tg : Tg} {c : Env → Cells → Option (Bool × Cells)} {f : Env → Cells → Option (D × Cells)} {ρ : Env} : ∀ {xs : List D} {μ μ' : Cells} {ys : List D}, lcGo tg c f ρ xs μ = some (ys, μ') → ys.length ≤ xs.length
  | [], _, _, _, h => by cases h; exact Nat.le_refl _
  | x :: xs, μ, μ', ys, h => by
    unfold lcGo at h
    split at h
    · cases h
    · split at h
      · cases h
      · have := lcGo_len h
        rw [List.length_cons]; omega
      · split at h
        · cases h
        · split at h
          · cases h
          · rename_i e
            cases h
            have := lcGo_len e
            rw [List.length_cons, List.length_cons]; omega
theorem antiOwn {K : PySem.W.Frag} {own own' : Addr → Prop} {ads : List Addr} {H : Hp} (h : ∀ b, own' b → own b) : Stay (Zo own ads) (Zo own' ads) ads ads H H :=
  ⟨fun _ _ e _ => e, fun _ _ _ z q => z (q.elim (fun q => .inl (h _ q)) .inr), fun _ _ e => e⟩
theorem SlR.anti {K : PySem.W.Frag} {own own' : Addr → Prop} {ads : List Addr} {H : Hp} {s : Sl} {v : V} (h : ∀ b, own' b → own b) (k : ∀ ds, s = .ow ds → ∀ a, v = .ref a → own' a) (r : SlR K own ads H s v) : SlR K own' ads H s v := by
  cases s with
  | pl d => exact Rep.stay (antiOwn (K := K) h) d v r
  | ow ds =>
    obtain ⟨a, xs, e1, e2, e3, e4⟩ := r
    exact ⟨a, xs, e1, e2, k ds rfl a e1, RepL.stay (antiOwn (K := K) h) _ _ e4⟩
theorem CellsR.anti {K : PySem.W.Frag} {own own' : Addr → Prop} {ads : List Addr} {H : Hp} {μ : Cells} (h : ∀ b, own' b → own b) (c : CellsR K own ads H μ) : CellsR K own' ads H μ where
  len := c.len
  nd := c.nd
  «at» := fun k a e => by
    obtain ⟨kvs, kds, h1, h2, h3⟩ := c.at k a e
    exact ⟨kvs, kds, h1, h2, h3.stay (antiOwn (K := K) h)⟩
  dis := fun a ha q => c.dis a ha (h a q)
  ownT := fun b q => c.ownT b (h b q)
/-- one more own object, new -/
abbrev plusOwn (own : Addr → Prop) (p : Addr) : Addr → Prop := fun b => own b ∨ b = p
theorem stayPlus {own : Addr → Prop} {ads : List Addr} {H : Hp} {p : Addr} {o : HO} (hp : H p = none) : Stay (Zo own ads) (Zo (plusOwn own p) ads) ads ads H (upd H p o) :=
  ⟨fun b u e _ => by rw [upd_ne (ne_of_none e hp)]; exact e, fun b u e z q => z (by
    rcases q with (q | q) | q
    · exact .inl q
    · subst q; rw [hp] at e; cases e
    · exact .inr q), fun _ _ e => e⟩
theorem Hold.plus {K : PySem.W.Frag} {own : Addr → Prop} {ads : List Addr} {H : Hp} {σ : L2.St} {ρ : Env} {μ : Cells} {p : Addr} {o : HO} (hp : H p = none) (mu : Mut (some o)) (h : Hold K own ads H σ ρ μ) : Hold K (plusOwn own p) ads (upd H p o) σ ρ μ := by
  refine ⟨fun i s e => ?_, ⟨h.c.len, h.c.nd, fun k a e => ?_, fun a ha q => ?_, fun b q => ?_⟩, h.len⟩
  · obtain ⟨v, h1, h2⟩ := h.e i s e
    refine ⟨v, h1, ?_⟩
    cases s with
    | pl d => exact Rep.stay (stayPlus hp) d v h2
    | ow ds =>
      obtain ⟨a, xs, e1, e2, e3, e4⟩ := h2
      exact ⟨a, xs, e1, by rw [upd_ne (ne_of_none e2 hp)]; exact e2, .inl e3, RepL.stay (stayPlus hp) _ _ e4⟩
  · obtain ⟨kvs, kds, h1, h2, h3⟩ := h.c.at k a e
    exact ⟨kvs, kds, h1, by rw [upd_ne (ne_of_none h2 hp)]; exact h2, h3.stay (stayPlus hp)⟩
  · rcases q with q | q
    · exact h.c.dis a ha q
    · subst q
      exact h.c.freshZ hp (.inr ha)
  · rcases q with q | q
    · obtain ⟨u, h1, h2⟩ := h.c.ownT b q
      exact ⟨u, by rw [upd_ne (ne_of_none h1 hp)]; exact h1, h2⟩
    · subst q
      exact ⟨o, upd_same, mu⟩
/-- the own list at p is changed -/
theorem stayWrite {own : Addr → Prop} {ads : List Addr} {H : Hp} {p : Addr} {o : HO} (h : own p) : Stay (Zo own ads) (Zo own ads) ads ads H (upd H p o) :=
  ⟨fun b u e z => by
    have ne : b ≠ p := by rintro rfl; exact z (.inl h)
    rw [upd_ne ne]; exact e, fun _ _ _ z => z, fun _ _ e => e⟩
theorem Hold.write {K : PySem.W.Frag} {own : Addr → Prop} {ads : List Addr} {H : Hp} {σ : L2.St} {ρ : Env} {μ : Cells} {p : Addr} {o : HO} (hp : own p) (mu : Mut (some o)) (hn : ∀ (i : Nat) (ds : List D), ρ[i]? = some (some (Sl.ow ds)) → σ[i]? ≠ some (some (V.ref p))) (h : Hold K own ads H σ ρ μ) : Hold K own ads (upd H p o) σ ρ μ := by
  refine ⟨fun i s e => ?_, ⟨h.c.len, h.c.nd, fun k a e => ?_, h.c.dis, fun b q => ?_⟩, h.len⟩
  · obtain ⟨v, h1, h2⟩ := h.e i s e
    refine ⟨v, h1, ?_⟩
    cases s with
    | pl d => exact Rep.stay (stayWrite hp) d v h2
    | ow ds =>
      obtain ⟨a, xs, e1, e2, e3, e4⟩ := h2
      subst e1
      have ne : a ≠ p := fun z => hn i ds e (by rw [h1, z])
      exact ⟨a, xs, rfl, by rw [upd_ne ne]; exact e2, e3, RepL.stay (stayWrite hp) _ _ e4⟩
  · obtain ⟨kvs, kds, h1, h2, h3⟩ := h.c.at k a e
    have ne : a ≠ p := fun z => h.c.dis a (List.mem_of_getElem? e) (z ▸ hp)
    exact ⟨kvs, kds, h1, by rw [upd_ne ne]; exact h2, h3.stay (stayWrite hp)⟩
  · by_cases hb : b = p
    · subst hb
      exact ⟨o, upd_same, mu⟩
    · obtain ⟨u, h1, h2⟩ := h.c.ownT b q
      exact ⟨u, by rw [upd_ne hb]; exact h1, h2⟩
theorem lc_read {K : PySem.W.Frag} {elt : E} {tg : Tg} {it : It} {cond : EO} (hnd : ∀ is, tg = .tp is → is.Nodup) (σ : L2.St) (H : Hp) (Q : VK) (h : tE K F (.lc elt tg it cond) σ H Q) : tLc (tI K F it) (tTg K tg) (tC' K F cond) (tE K F elt) tg.slots σ H Q := by
  obtain ⟨own, ads, ρ, μ, d, μ', h, he, q⟩ := h
  unfold ev at he
  obtain ⟨xs, μ1, e1, he⟩ := andThen_some he
  split at he
  · rename_i hz
    obtain ⟨ys, μ2, e2, he⟩ := andThen_some he
    cases he
    refine ⟨own, ads, ρ, μ, xs, μ1, h, e1, fun J H1 ads1 x1 h1 w1 => ?_⟩
    intro D' hD
    let P : Nat → Hp → Prop := fun i Hi => ∃ adsi μi acc yi rest, Hold K (plusOwn own D') adsi Hi σ ρ μi ∧ Ext ads1 H1 adsi Hi ∧ WalksR K (plusOwn own D') own adsi Hi J xs (it.lk ρ) ∧ Hi D' = some (.lst acc) ∧ RepL K (Zo (plusOwn own D') adsi) adsi Hi acc yi ∧
      lcGo tg (fun ρ' μ' => evc F cond ρ' μ') (fun ρ' μ' => if lk ρ' elt then none else ev F elt ρ' μ') ρ (xs.drop i) μi = some (rest, μ') ∧ ys = yi ++ rest ∧ acc.length ≤ i
    have hP0 : P 0 (upd H1 D' (.lst [])) := by
      refine ⟨ads1, μ1, [], [], ys, h1.plus hD True.intro, .fresh hD, ?_, upd_same, .nil, e2, rfl, Nat.le_refl _⟩
      rcases w1 with ⟨a, vs, g1, g2, g3⟩ | ⟨hb, a, vs, g1, g2, g3, g4⟩ | ⟨a, vs, g1, g2, g3⟩ | g
      · exact .inl ⟨a, vs, g1, g2.stay (stayPlus hD), RepL.stay (stayPlus hD) _ _ g3⟩
      · exact .inr (.inl ⟨hb, a, vs, g1, by rw [upd_ne (ne_of_none g2 hD)]; exact g2, g3, RepL.stay (stayPlus hD) _ _ g4⟩)
      · exact .inr (.inr (.inl ⟨a, vs, g1, g2.stay (stayPlus hD), RepL.stay (stayPlus hD) _ _ g3⟩))
      · exact .inr (.inr (.inr g))
    refine ⟨fun i m Hi => m = xs.length - i ∧ i ≤ xs.length ∧ P i Hi, ⟨xs.length, by simp, Nat.zero_le _, hP0⟩, ?_⟩
    rintro i m Hi ⟨rfl, hi, adsi, μi, acc, yi, rest, hh, xe, wi, hacc, hrep, hgo, hys, hlen⟩
    obtain ⟨t1, t2⟩ := wi.turn i
    by_cases hlt : i < xs.length
    · -- a turn
      have hd : xs[i]? = some xs[i] := by simp [hlt]
      obtain ⟨go, yl⟩ := t2 _ hd
      refine .inr ⟨go, P (i + 1), fun H' p => ⟨xs.length - (i + 1), by omega, rfl, hlt, p⟩, fun x H' y => ?_⟩
      obtain ⟨e3, r3⟩ := yl x H' y
      subst e3
      have hdrop : xs.drop i = xs[i] :: xs.drop (i + 1) := by rw [List.drop_eq_getElem_cons hlt]
      rw [hdrop] at hgo
      unfold lcGo at hgo
      split at hgo
      · cases hgo
      · rename_i ρ1 hb
        have hb' : bindT tg xs[i] (wipeR ρ tg.slots) = some ρ1 := by
          cases tg with
          | nm k =>
            have z : some (ρ.set k (some (Sl.pl xs[i]))) = some ρ1 := hb
            show some ((ρ.set k none).set k (some (Sl.pl xs[i]))) = some ρ1
            rw [List.set_set]
            exact z
          | tp is =>
            have nd := hnd is rfl
            revert hb
            show bindT (.tp is) xs[i] ρ = some ρ1 → bindT (.tp is) xs[i] (wipeR ρ is) = some ρ1
            unfold bindT
            cases xs[i] with
            | tup ds =>
              show (if ds.length = is.length then some (setAll is ds ρ) else none) = some ρ1 → (if ds.length = is.length then some (setAll is ds (wipeR ρ is)) else none) = some ρ1
              split
              · rename_i hl
                rw [setAll_wipeR is ds ρ nd hl]
                exact fun z => z
              · exact fun z => z
            | _ => exact fun z => z
        refine tg_ok (hh.wipe tg.slots) r3 hb' fun σ1 h1' w1' => ⟨by rw [w1', wipe_wipe fun _ z => z], ?_⟩
        -- σ again from σ1
        have back : ∀ {adsj : List Addr} {Hj : Hp} {μj : Cells}, Ext adsi H' adsj Hj → Hold K (plusOwn own D') adsj Hj σ1 ρ1 μj → Hold K (plusOwn own D') adsj Hj σ ρ μj := fun {adsj Hj μj} x2 h2 => ⟨hh.e.ext hh.c x2, h2.c, hh.len⟩
        cases hc : evc F cond ρ1 μi with
        | none => rw [hc] at hgo; cases hgo
        | some r =>
          obtain ⟨b, μj⟩ := r
          rw [hc] at hgo
          refine ⟨plusOwn own D', adsi, ρ1, μi, b, μj, h1', hc, fun Hj adsj x2 h2 => ?_⟩
          have accD : ∀ {Hj : Hp} {adsj : List Addr}, Ext adsi H' adsj Hj → Hj D' = some (.lst acc) := fun {Hj adsj} x2 => x2.keep _ _ hacc fun z => hh.c.dis _ z (.inr rfl)
          cases b with
          | false =>
            show P (i + 1) Hj
            exact ⟨adsj, μj, acc, yi, rest, back x2 h2, xe.trans x2, wi.ext (fun _ z => .inl z) hh.c x2, accD x2, hrep.ext x2, hgo, hys, by omega⟩
          | true =>
            show tE K F elt σ1 Hj fun y H4 => ∃ acc, H4 D' = some (.lst acc) ∧ acc.length < sizeLine ∧ P (i + 1) (upd H4 D' (.lst (acc ++ [y])))
            cases hl : lk ρ1 elt with
            | true =>
              simp only [hl, if_true] at hgo
              cases hgo
            | false =>
              simp only [hl, Bool.false_eq_true, if_false] at hgo
              cases hev : ev F elt ρ1 μj with
              | none => rw [hev] at hgo; cases hgo
              | some r =>
                obtain ⟨y1, μk⟩ := r
                rw [hev] at hgo
                simp only at hgo
                cases hrest : lcGo tg (fun ρ' μ' => evc F cond ρ' μ') (fun ρ' μ' => if lk ρ' elt then none else ev F elt ρ' μ') ρ (xs.drop (i + 1)) μk with
                | none => rw [hrest] at hgo; cases hgo
                | some r =>
                  obtain ⟨rest', μl⟩ := r
                  rw [hrest] at hgo
                  cases hgo
                  refine ⟨plusOwn own D', adsj, ρ1, μj, y1, μk, h2, hev, fun v Hk adsk x3 h3 r3' => ?_⟩
                  rw [hl] at r3'
                  have x4 := x2.trans x3
                  have hk := back x4 h3
                  have dk : Hk D' = some (.lst acc) := accD x4
                  have own' : plusOwn own D' D' := .inr rfl
                  have hn : ∀ (j : Nat) ds, ρ[j]? = some (some (.ow ds)) → σ[j]? ≠ some (some (.ref D')) := fun j ds ej es => by
                    obtain ⟨w, g1, g2⟩ := h1.e j _ ej
                    rw [es] at g1
                    cases g1
                    obtain ⟨a, zs, f1, f2, _⟩ := g2
                    cases f1
                    rw [hD] at f2
                    cases f2
                  refine ⟨acc, dk, ?_, adsk, μk, acc ++ [v], yi ++ [y1], rest', hk.write own' True.intro hn, ?_, ?_, upd_same, ?_, hrest, by rw [hys, List.append_assoc]; rfl, by rw [List.length_append]; simp; omega⟩
                  · rw [sizeLine_eq]; omega
                  · refine ⟨fun b o e m => ?_, fun b o e => ?_, (xe.trans x4).new, (xe.trans x4).pre⟩
                    · have ne : b ≠ D' := ne_of_none e hD
                      rw [upd_ne ne]
                      exact (xe.trans x4).keep b o e m
                    · have ne : b ≠ D' := ne_of_none e hD
                      rw [upd_ne ne]
                      exact (xe.trans x4).there b o e
                  · rcases (wi.ext (fun _ z => .inl z) hh.c x4) with ⟨a, vs, g1, g2, g3⟩ | ⟨hb, a, vs, g1, g2, g3, g4⟩ | ⟨a, vs, g1, g2, g3⟩ | g
                    · exact .inl ⟨a, vs, g1, g2.stay (stayWrite own'), RepL.stay (stayWrite own') _ _ g3⟩
                    · have ne : a ≠ D' := by
                        rintro rfl
                        obtain ⟨o, z1, _⟩ := h1.c.ownT _ g3
                        rw [hD] at z1
                        cases z1
                      exact .inr (.inl ⟨hb, a, vs, g1, by rw [upd_ne ne]; exact g2, g3, RepL.stay (stayWrite own') _ _ g4⟩)
                    · exact .inr (.inr (.inl ⟨a, vs, g1, g2.stay (stayWrite own'), RepL.stay (stayWrite own') _ _ g3⟩))
                    · exact .inr (.inr (.inr g))
                  · exact .append (RepL.stay (stayWrite own') _ _ (hrep.ext x4)) (.cons (Rep.stay (stayWrite own') _ _ r3'.plain) .nil)
    · -- the end
      have e3 : i = xs.length := by omega
      subst e3
      rw [List.drop_length] at hgo
      unfold lcGo at hgo
      cases hgo
      rw [List.append_nil] at hys
      subst hys
      refine .inl ⟨t1 (Nat.le_refl _), ?_⟩
      have anti : ∀ b, own b → plusOwn own D' b := fun b z => .inl z
      have hD' : ¬ Zo own adsi D' := fun z => by
        rcases z with z | z
        · obtain ⟨o, z1, _⟩ := h1.c.ownT _ z
          rw [hD] at z1; cases z1
        · exact hh.c.dis _ z (.inr rfl)
      refine q (.ref D') Hi adsi (x1.trans xe) ⟨h1.e.ext h1.c xe, hh.c.anti anti, hh.len⟩ (.inl (.lst (.inl ⟨.inl hacc, hD'⟩) (RepL.stay (antiOwn (K := K) anti) _ _ hrep)))
  · cases he
end
end FM

set_option Elab.async false
set_option linter.all false
set_option maxRecDepth 100000
set_option maxHeartbeats 4000000
/-! Ev11: dict displays; all expressions. -/
namespace FM
open PySem PySem.Spec PyProof.Rows L2
section
variable {X : Cx} {F : Fs}
/-! ### dict displays -/
def trsOf (K : PySem.W.Frag) (F : Fs) : List Str → Es → List (TE × TE)
  | k :: ks, .cons e es => (tC (.str k), tE K F e) :: trsOf K F ks es
  | _, _ => []
theorem pairs_read {K : PySem.W.Frag} {σ : L2.St} {ρ : Env} {own : Addr → Prop} : ∀ {ks : List Str} {es : Es} {ads : List Addr} {H : Hp} {μ μ' : Cells} {ds : List D} {Q : List (V × V) → Hp → Prop}, Hold K own ads H σ ρ μ → evs F es ρ μ = some (ds, μ') → lks ρ es = false → ds.length = ks.length →
    (∀ vs H' ads', Ext ads H ads' H' → Hold K own ads' H' σ ρ μ' → RepL K (Zo own ads') ads' H' vs ds → Q ((ks.map V.str).zip vs) H') → tPairs (trsOf K F ks es) σ H Q
  | [], .nil, _, _, _, _, _, _, h, e, _, _, k => by
    cases e
    exact k [] _ _ .refl h .nil
  | [], .cons _ _, _, _, _, _, ds, _, h, e, _, hl, k => by
    unfold evs at e
    obtain ⟨d, μ1, e1, e⟩ := andThen_some e
    obtain ⟨ds', μ2, e2, e⟩ := andThen_some e
    cases e
    cases hl
  | _ :: _, .nil, _, _, _, _, _, _, h, e, _, hl, k => by
    cases e
    cases hl
  | s :: ks, .cons x es, ads, H, μ, μ', ds, Q, h, e, hk, hl, k => by
    unfold evs at e
    obtain ⟨d, μ1, e1, e⟩ := andThen_some e
    obtain ⟨ds', μ2, e2, e⟩ := andThen_some e
    cases e
    have hk' : (lk ρ x || lks ρ es) = false := hk
    rw [Bool.or_eq_false_iff] at hk'
    show tE K F x σ H fun y H2 => tPairs (trsOf K F ks es) σ H2 fun ps H3 => Q ((V.str s, y) :: ps) H3
    refine ⟨own, ads, ρ, μ, d, μ1, h, e1, fun v H1 ads1 x1 h1 r1 => ?_⟩
    rw [hk'.1] at r1
    exact pairs_read h1 e2 hk'.2 (by simpa using hl) fun vs H2 ads2 x2 h2 l2 => k (v :: vs) H2 ads2 (x1.trans x2) h2 (.cons (r1.plain.ext x2) l2)
theorem mergeK_new : ∀ (kvs acc : List (Key × V)), (∀ p ∈ kvs, valV acc p.1 = none) → (kvs.map (·.1)).Nodup → mergeK acc kvs = acc ++ kvs
  | [], acc, _, _ => by rw [List.append_nil]; rfl
  | p :: kvs, acc, h, nd => by
    have n := List.nodup_cons.mp (show (p.1 :: kvs.map (·.1)).Nodup from nd)
    show mergeK (putK acc p.1 p.2) kvs = acc ++ p :: kvs
    rw [putK_new _ (h p List.mem_cons_self), mergeK_new kvs _ (fun q hq => ?_) n.2, List.append_assoc]
    · rfl
    · rw [valV_snoc _ _ _ _ (h p List.mem_cons_self)]
      rw [if_neg (fun e => n.1 (List.mem_map.mpr ⟨q, hq, e⟩))]
      exact h q (List.mem_cons_of_mem _ hq)
theorem zip_keys : ∀ (ks : List Str) (vs : List V), ks.length = vs.length → ((ks.map fun s => (Sum.inr s : Key)).zip vs).map (·.1) = ks.map Sum.inr ∧ ((ks.map fun s => (Sum.inr s : Key)).zip vs).map (·.2) = vs ∧ (ks.map V.str).zip vs = ((ks.map fun s => (Sum.inr s : Key)).zip vs).map fun kv => (kV kv.1, kv.2)
  | [], [], _ => ⟨rfl, rfl, rfl⟩
  | [], _ :: _, e => by cases e
  | _ :: _, [], e => by cases e
  | k :: ks, v :: vs, e => by
    obtain ⟨h1, h2, h3⟩ := zip_keys ks vs (by simpa using e)
    refine ⟨?_, ?_, ?_⟩
    · simp only [List.map_cons, List.zip_cons_cons, h1]
    · simp only [List.map_cons, List.zip_cons_cons, h2]
    · simp only [List.map_cons, List.zip_cons_cons, h3]; rfl
theorem zip_keysD : ∀ (ks : List Str) (ds : List D), ks.length = ds.length → ((ks.map fun s => (Sum.inr s : Key)).zip ds).map (·.1) = ks.map Sum.inr ∧ ((ks.map fun s => (Sum.inr s : Key)).zip ds).map (·.2) = ds
  | [], [], _ => ⟨rfl, rfl⟩
  | [], _ :: _, e => by cases e
  | _ :: _, [], e => by cases e
  | k :: ks, v :: vs, e => by
    obtain ⟨h1, h2⟩ := zip_keysD ks vs (by simpa using e)
    refine ⟨?_, ?_⟩
    · simp only [List.map_cons, List.zip_cons_cons, h1]
    · simp only [List.map_cons, List.zip_cons_cons, h2]
theorem nodup_inr : ∀ {ks : List Str}, ks.Nodup → (ks.map fun s => (Sum.inr s : Key)).Nodup
  | [], _ => .nil
  | k :: ks, h => by
    have n := List.nodup_cons.mp h
    refine List.nodup_cons.mpr ⟨fun m => ?_, nodup_inr n.2⟩
    obtain ⟨j, h1, h2⟩ := List.mem_map.mp m
    cases h2
    exact n.1 h1
theorem dict_read {K : PySem.W.Frag} {ks : List Str} {es : Es} (σ : L2.St) (H : Hp) (Q : VK) (h : tE K F (.dict ks es) σ H Q) : tDisp (trsOf K F ks es) σ H Q := by
  obtain ⟨own, ads, ρ, μ, d, μ', h, he, q⟩ := h
  unfold ev at he
  split at he
  · cases he
  · rename_i hl
    obtain ⟨ds, μ1, e1, he⟩ := andThen_some he
    split at he
    · rename_i hk
      cases he
      obtain ⟨hk1, hk2, hk3⟩ := hk
      intro p hp
      refine pairs_read (h.plus hp True.intro) e1 (by simpa using hl) hk1 fun vs H2 ads2 x2 h2 l2 => ?_
      have hn : p ∉ ads := fun m => h.c.freshZ hp (.inr m)
      have hp2 : H2 p = some (.dK []) := x2.keep p _ upd_same hn
      have hn2 : p ∉ ads2 := fun m => h2.c.dis p m (.inr rfl)
      obtain ⟨z1, z2, z3⟩ := zip_keys ks vs (by rw [l2.length]; exact hk1.symm)
      obtain ⟨w1, w2⟩ := zip_keysD ks ds hk1.symm
      refine ⟨hp2, (ks.map fun s => (Sum.inr s : Key)).zip vs, z3, ?_, ?_⟩
      · rw [List.length_zip, List.length_map]
        omega
      · have nd : (((ks.map fun s => (Sum.inr s : Key)).zip vs).map (·.1)).Nodup := by
          rw [z1]
          exact nodup_inr hk3
        rw [mergeK_new _ [] (fun _ _ => rfl) nd, List.nil_append]
        -- the heap behind
        have anti : ∀ b, own b → plusOwn own p b := fun b z => .inl z
        have x3 : Ext ads H (ads2 ++ [p]) (upd H2 p (.dK ((ks.map fun s => (Sum.inr s : Key)).zip vs))) := by
          refine ⟨fun b o e m => ?_, fun b o e => ?_, fun b m => ?_, fun k a e => ?_⟩
          · have ne : b ≠ p := ne_of_none e hp
            rw [upd_ne ne]
            exact x2.keep b o (by rw [upd_ne ne]; exact e) m
          · have ne : b ≠ p := ne_of_none e hp
            rw [upd_ne ne]
            exact x2.there b o (by rw [upd_ne ne]; exact e)
          · rcases List.mem_append.mp m with m | m
            · rcases x2.new b m with z | z
              · exact .inl z
              · refine .inr ?_
                have ne : b ≠ p := fun q => hn2 (q ▸ m)
                rw [upd_ne ne] at z
                exact z
            · rw [List.mem_singleton.mp m]
              exact .inr hp
          · have z := x2.pre k a e
            rw [List.getElem?_append_left (List.getElem?_eq_some_iff.mp z).1]
            exact z
        have st : Stay (Zo (plusOwn own p) ads2) (Zo own (ads2 ++ [p])) ads2 (ads2 ++ [p]) H2 (upd H2 p (.dK ((ks.map fun s => (Sum.inr s : Key)).zip vs))) := by
          refine ⟨fun b o e z => ?_, fun b o e z w => z ?_, fun k a e => ?_⟩
          · have ne : b ≠ p := fun w => z (.inl (.inr w))
            rw [upd_ne ne]
            exact e
          · rcases w with w | w
            · exact .inl (.inl w)
            · rcases List.mem_append.mp w with w | w
              · exact .inr w
              · exact .inl (.inr (List.mem_singleton.mp w))
          · rw [List.getElem?_append_left (List.getElem?_eq_some_iff.mp e).1]
            exact e
        have hown : ¬ own p := fun z => by
          obtain ⟨o, z1, _⟩ := h.c.ownT p z
          rw [hp] at z1; cases z1
        have c3 : CellsR K own (ads2 ++ [p]) (upd H2 p (.dK ((ks.map fun s => (Sum.inr s : Key)).zip vs))) (μ1 ++ [(ks.map Sum.inr).zip ds]) := by
          refine ⟨by rw [List.length_append, List.length_append, h2.c.len]; rfl, ?_, fun k a e => ?_, fun a m => ?_, fun b z => ?_⟩
          · rw [List.nodup_append]
            exact ⟨h2.c.nd, List.nodup_cons.mpr ⟨by simp, .nil⟩, fun a m b m2 => by
              rw [List.mem_singleton.mp m2]
              exact fun q => hn2 (q ▸ m)⟩
          · by_cases hlt : k < ads2.length
            · rw [List.getElem?_append_left hlt] at e
              obtain ⟨kvs, kds, f1, f2, f3⟩ := h2.c.at k a e
              have ne : a ≠ p := fun w => hn2 (w ▸ List.mem_of_getElem? e)
              exact ⟨kvs, kds, by rw [List.getElem?_append_left (by rw [← h2.c.len]; exact hlt)]; exact f1, by rw [upd_ne ne]; exact f2, f3.stay st⟩
            · have hk : k = ads2.length := by
                have := (List.getElem?_eq_some_iff.mp e).1
                rw [List.length_append] at this
                simp at this
                omega
              subst hk
              rw [List.getElem?_append_right (Nat.le_refl _), Nat.sub_self] at e
              cases e
              refine ⟨_, (ks.map fun s => (Sum.inr s : Key)).zip ds, ?_, upd_same, ?_⟩
              · rw [List.getElem?_append_right (by rw [h2.c.len]; exact Nat.le_refl _), h2.c.len, Nat.sub_self]
                rfl
              · refine ⟨?_, ?_⟩
                · rw [z1]; exact w1.symm
                · rw [z2]
                  have : (((ks.map Sum.inr).zip ds).map (·.2)) = ds := w2
                  rw [this]
                  exact l2.stay st
          · rcases List.mem_append.mp m with m | m
            · exact fun w => h2.c.dis a m (.inl w)
            · rw [List.mem_singleton.mp m]
              exact hown
          · obtain ⟨o, f1, f2⟩ := h2.c.ownT b (.inl z)
            have ne : b ≠ p := fun w => hown (w ▸ z)
            exact ⟨o, by rw [upd_ne ne]; exact f1, f2⟩
        refine q (.ref p) _ (ads2 ++ [p]) x3 ⟨h.e.ext h.c x3, c3, h.len⟩ (.inl (.cell ?_))
        rw [List.getElem?_append_right (by rw [h2.c.len]; exact Nat.le_refl _), h2.c.len, Nat.sub_self]
        rfl
    · cases he
end
theorem chkKs_len : ∀ {ks : List Str} {keys : List (Option Expr)}, chkKs ks keys = true → ks.length = keys.length ∧ keys.all (·.isSome) = true
  | [], [], _ => ⟨rfl, rfl⟩
  | [], _ :: _, h => absurd h Bool.false_ne_true
  | _ :: _, [], h => absurd h Bool.false_ne_true
  | k :: ks, o :: r, h => by
    cases o with
    | none => exact absurd h Bool.false_ne_true
    | some y =>
      cases y with
      | Constant c j p =>
        cases c with
        | str z =>
          have h' : (decide (k = z) && chkKs ks r) = true := h
          rw [Bool.and_eq_true] at h'
          obtain ⟨e1, e2⟩ := chkKs_len h'.2
          exact ⟨by rw [List.length_cons, List.length_cons, e1], by rw [List.all_cons, e2]; rfl⟩
        | _ => exact absurd h Bool.false_ne_true
      | _ => exact absurd h Bool.false_ne_true
theorem s_dict {X : Cx} {F : Fs} {ks : List Str} {es : Es} {keys : List (Option Expr)} {values : List Expr} {pos : Pos} (hk : chkKs ks keys = true) (hl : keys.length = values.length) (h0 : keys ≠ []) (pp : PPs X pos keys values (trsOf X.K F ks es)) :
    Both X F (.Dict keys values pos) (.dict ks es) := by
  obtain ⟨e1, e2⟩ := chkKs_len hk
  refine Both.mk' ⟨fun pins s σ H Q I h => ?_⟩ rfl
  have h15 : keys.length ≤ 15 := by
    obtain ⟨own, ads, ρ, μ, d, μ', _, he, _⟩ := h
    unfold ev at he
    split at he
    · cases he
    · obtain ⟨ds, μ1, _, he⟩ := andThen_some he
      split at he
      · rename_i hh
        rw [← e1]
        exact hh.2.1
      · cases he
  exact (pe_disp pp e2 hl h0 h15).run pins s σ H Q I (dict_read σ H Q h)
/-! ### all expressions -/
section
variable {N fs : List Str} {F : Fs} {n : Nat}
theorem and3 {a b c : Bool} (h : (a && b && c) = true) : a = true ∧ b = true ∧ c = true := by
  rw [Bool.and_eq_true, Bool.and_eq_true] at h
  exact ⟨h.1.1, h.1.2, h.2⟩
theorem and2 {a b : Bool} (h : (a && b) = true) : a = true ∧ b = true := by
  rw [Bool.and_eq_true] at h
  exact h
theorem chkEs_star : ∀ {es : Es} {sc : Scope} {xs : List Expr}, chkEs N fs es sc xs = true → ∀ x ∈ xs, notStar x = true
  | .nil, _, [], _, _, hx => nomatch hx
  | .nil, _, _ :: _, h, _, _ => by cases h
  | .cons _ _, _, [], h, _, _ => by cases h
  | .cons e es, sc, y :: ys, h, x, hx => by
    obtain ⟨h1, h2, h3⟩ := and3 (show (notStar y && chkE N fs e sc y && chkEs N fs es sc ys) = true from h)
    rcases List.mem_cons.mp hx with rfl | hx
    · exact h1
    · exact chkEs_star h3 x hx
theorem chkEs_nil {es : Es} {sc : Scope} (h : chkEs N fs es sc [] = true) : es = .nil := by
  cases es with
  | nil => rfl
  | cons _ _ => cases h
theorem s_lc {sc scope : Scope} {X : Cx} (G : GX N fs F n sc X) {elt : E} {tg : Tg} {it : It} {cond : EO} {x t i : Expr} {ifs : List Expr} {pos : Pos} (hb : blkC N sc scope (ownOf N tg.slots) = true) (hs : notSet i = true) (ht : chkTg N scope tg t = true)
    (hi : ∀ tgx, PI X tgx i (tI X.K F it)) (hc : ∀ X', GX N fs F n scope X' → PTs X' ifs (tC' X'.K F cond)) (he : ∀ X', GX N fs F n scope X' → Both X' F x elt) : Both X F (.ListComp x [⟨t, i, ifs, 0⟩] scope pos) (.lc elt tg it cond) := by
  have nd : ∀ is, tg = .tp is → is.Nodup := fun is e => by
    subst e
    cases t with
    | Tuple es k p =>
      have h' : (chkTs N scope is es && decide is.Nodup) = true := ht
      exact of_decide_eq_true (and2 h').2
    | _ => cases ht
  have core := pe_lc (X := X) (own := ownOf N tg.slots) (g := tTg X.K tg) (tt := tC' X.K F cond) (te := tE X.K F elt) (elt := x) (tg := t) (iter := i) (ifs := ifs) (scope := scope) (pos := pos) G.calm (by rw [G.hN]; exact G.nd) (hi t) (G.blkOk hb)
    (fun s H C cl fp => s_tg G.blk ht) (fun s H C cl fp => hc _ G.blk) (fun s H C cl fp => (he _ G.blk).v) (folded_of hs _)
  rw [own_slots] at core
  exact Both.mk' (PE.imp core (lc_read nd)) rfl
mutual
theorem sE : ∀ (e : E) (sc : Scope) (x : Expr) (X : Cx), GX N fs F n sc X → chkE N fs e sc x = true → Both X F x e
  | .var i, sc, x, X, G, h => by
    cases x with
    | Name y pos => exact s_var G h
    | _ => exact absurd h Bool.false_ne_true
  | .int i, sc, x, X, G, h => by
    cases x with
    | Constant c k pos =>
      cases c with
      | int j =>
        have e : i = j := of_decide_eq_true h
        subst e
        exact s_int
      | _ => exact absurd h Bool.false_ne_true
    | _ => exact absurd h Bool.false_ne_true
  | .bl i, sc, x, X, G, h => by
    cases x with
    | Constant c k pos =>
      cases c with
      | bool j =>
        have e : i = j := of_decide_eq_true h
        subst e
        exact s_bl
      | _ => exact absurd h Bool.false_ne_true
    | _ => exact absurd h Bool.false_ne_true
  | .non, sc, x, X, G, h => by
    cases x with
    | Constant c k pos =>
      cases c with
      | none => exact s_non
      | _ => exact absurd h Bool.false_ne_true
    | _ => exact absurd h Bool.false_ne_true
  | .str i, sc, x, X, G, h => by
    cases x with
    | Constant c k pos =>
      cases c with
      | str j =>
        have e : i = j := of_decide_eq_true h
        subst e
        exact s_str
      | _ => exact absurd h Bool.false_ne_true
    | _ => exact absurd h Bool.false_ne_true
  | .op o a b, sc, x, X, G, h => by
    cases x with
    | BinOp y o' z pos =>
      obtain ⟨h1, h2, h3⟩ := and3 (show (decide (o = o') && chkE N fs a sc y && chkE N fs b sc z) = true from h)
      have e : o = o' := of_decide_eq_true h1
      subst e
      exact s_op (sE a sc y X G h2) (sE b sc z X G h3)
    | _ => exact absurd h Bool.false_ne_true
  | .neg a, sc, x, X, G, h => by
    cases x with
    | UnaryOp o y pos =>
      cases o with
      | USub => exact s_neg (sE a sc y X G h)
      | _ => exact absurd h Bool.false_ne_true
    | _ => exact absurd h Bool.false_ne_true
  | .cmp o a b, sc, x, X, G, h => by
    cases x with
    | Compare y os ys pos =>
      match os, ys, h with
      | [o'], [z], h =>
        obtain ⟨h0, h3⟩ := and2 (show (decide (o = o') && notSet z && chkE N fs a sc y && chkE N fs b sc z) = true from h)
        obtain ⟨h1, h2, h4⟩ := and3 h0
        have e : o = o' := of_decide_eq_true h1
        subst e
        exact s_cmp G (sE a sc y X G h4) (sE b sc z X G h3) h2
      | [], _, h => exact absurd h Bool.false_ne_true
      | [_], [], h => exact absurd h Bool.false_ne_true
      | [_], _ :: _ :: _, h => exact absurd h Bool.false_ne_true
      | _ :: _ :: _, _, h => exact absurd h Bool.false_ne_true
    | _ => exact absurd h Bool.false_ne_true
  | .chn o p a b c, sc, x, X, G, h => by
    cases x with
    | Compare y os ys pos =>
      match os, ys, h with
      | [o', p'], [z, w], h =>
        obtain ⟨h1, h2, h3⟩ := and3 (show (decide (o = o') && decide (p = p') && notSet z && notSet w && chkE N fs a sc y && chkE N fs b sc z && chkE N fs c sc w) = true from h)
        obtain ⟨h4, h5, h6⟩ := and3 h1
        obtain ⟨h7, h8, h9⟩ := and3 h4
        have e : o = o' := of_decide_eq_true h7
        have e2 : p = p' := of_decide_eq_true h8
        subst e e2
        exact s_chn G (sE a sc y X G h6) (sE b sc z X G h2) (sE c sc w X G h3) h5
      | [], _, h => exact absurd h Bool.false_ne_true
      | [_], _, h => exact absurd h Bool.false_ne_true
      | [_, _], [], h => exact absurd h Bool.false_ne_true
      | [_, _], [_], h => exact absurd h Bool.false_ne_true
      | [_, _], _ :: _ :: _ :: _, h => exact absurd h Bool.false_ne_true
      | _ :: _ :: _ :: _, _, h => exact absurd h Bool.false_ne_true
    | _ => exact absurd h Bool.false_ne_true
  | .and a b, sc, x, X, G, h => by
    cases x with
    | BoolOp o ys pos =>
      match o, ys, h with
      | .And, y :: z :: r, h =>
        obtain ⟨h1, h2⟩ := and2 (show (chkE N fs a sc y && (if r.isEmpty then chkE N fs b sc z else chkE N fs b sc (.BoolOp .And (z :: r) pos))) = true from h)
        cases r with
        | nil => exact s_and (sE a sc y X G h1) (.inl ⟨rfl, sE b sc z X G h2⟩)
        | cons u us => exact s_and (sE a sc y X G h1) (.inr ⟨(fun q => by cases q), sE b sc _ X G h2⟩)
      | .Or, _, h => exact absurd h Bool.false_ne_true
      | .And, [], h => exact absurd h Bool.false_ne_true
      | .And, [_], h => exact absurd h Bool.false_ne_true
    | _ => exact absurd h Bool.false_ne_true
  | .or a b, sc, x, X, G, h => by
    cases x with
    | BoolOp o ys pos =>
      match o, ys, h with
      | .Or, y :: z :: r, h =>
        obtain ⟨h1, h2⟩ := and2 (show (chkE N fs a sc y && (if r.isEmpty then chkE N fs b sc z else chkE N fs b sc (.BoolOp .Or (z :: r) pos))) = true from h)
        cases r with
        | nil => exact s_or (sE a sc y X G h1) (.inl ⟨rfl, sE b sc z X G h2⟩)
        | cons u us => exact s_or (sE a sc y X G h1) (.inr ⟨(fun q => by cases q), sE b sc _ X G h2⟩)
      | .And, _, h => exact absurd h Bool.false_ne_true
      | .Or, [], h => exact absurd h Bool.false_ne_true
      | .Or, [_], h => exact absurd h Bool.false_ne_true
    | _ => exact absurd h Bool.false_ne_true
  | .not a, sc, x, X, G, h => by
    cases x with
    | UnaryOp o y pos =>
      cases o with
      | Not => exact s_not (sE a sc y X G h)
      | _ => exact absurd h Bool.false_ne_true
    | _ => exact absurd h Bool.false_ne_true
  | .ife c a b, sc, x, X, G, h => by
    cases x with
    | IfExp z y w pos =>
      obtain ⟨h1, h2, h3⟩ := and3 (show (chkE N fs c sc z && chkE N fs a sc y && chkE N fs b sc w) = true from h)
      exact s_ife (sE c sc z X G h1) (sE a sc y X G h2) (sE b sc w X G h3)
    | _ => exact absurd h Bool.false_ne_true
  | .tup es, sc, x, X, G, h => by
    cases x with
    | Tuple ys k pos => exact s_tup (sEs es sc ys X G h)
    | _ => exact absurd h Bool.false_ne_true
  | .lst es, sc, x, X, G, h => by
    cases x with
    | List ys pos => exact s_lst (sEs es sc ys X G h)
    | _ => exact absurd h Bool.false_ne_true
  | .ix a b, sc, x, X, G, h => by
    cases x with
    | Subscript y z pos =>
      have h' : (notSlice z && chkE N fs a sc y && chkE N fs b sc z) = true := by
        cases z with
        | Slice l u st p2 =>
          exfalso
          cases st with
          | none => exact absurd h Bool.false_ne_true
          | some _ => exact absurd h Bool.false_ne_true
        | _ => exact h
      obtain ⟨h1, h2, h3⟩ := and3 h'
      exact s_ix G (sE a sc y X G h2) (sE b sc z X G h3) h1
    | _ => exact absurd h Bool.false_ne_true
  | .sl a lo hi, sc, x, X, G, h => by
    cases x with
    | Subscript y z pos =>
      cases z with
      | Slice l u st p2 =>
        cases st with
        | none =>
          obtain ⟨h1, h2, h3⟩ := and3 (show (chkE N fs a sc y && chkEO N fs lo sc l && chkEO N fs hi sc u) = true from h)
          exact s_sl (sE a sc y X G h1) (sEO lo sc l X G h2) (sEO hi sc u X G h3)
        | some _ => exact absurd h Bool.false_ne_true
      | _ => exact absurd h Bool.false_ne_true
    | _ => exact absurd h Bool.false_ne_true
  | .call f es, sc, x, X, G, h => by
    cases x with
    | Call y ys ks pos =>
      cases y with
      | Name g p =>
        cases ks with
        | nil =>
          obtain ⟨h0, h4⟩ := and2 (show (decide (fs[f]? = some g) && gloB sc g && !(g == ("__debug__" : Str)) && chkEs N fs es sc ys) = true from h)
          obtain ⟨h1, h2, h3⟩ := and3 h0
          exact s_call G (of_decide_eq_true h1) h2 (by simpa using h3) (chkEs_star h4) (fun e => by subst e; exact chkEs_nil h4) (sEs es sc ys X G h4)
        | cons _ _ => exact absurd h Bool.false_ne_true
      | _ => exact absurd h Bool.false_ne_true
    | _ => exact absurd h Bool.false_ne_true
  | .callB f es, sc, x, X, G, h => by
    cases x with
    | Call y ys ks pos =>
      cases y with
      | Name g p =>
        cases ks with
        | nil =>
          obtain ⟨h00, h5⟩ := and2 (show (decide (fs[f]? = some g) && gloB sc g && !(g == ("__debug__" : Str)) && chkEs N fs es sc ys && !ys.isEmpty) = true from h)
          obtain ⟨h0, h4⟩ := and2 h00
          obtain ⟨h1, h2, h3⟩ := and3 h0
          exact s_callB G (of_decide_eq_true h1) h2 (by simpa using h3) (chkEs_star h4) (fun e => by subst e; cases h5) (sEs es sc ys X G h4)
        | cons _ _ => exact absurd h Bool.false_ne_true
      | _ => exact absurd h Bool.false_ne_true
    | _ => exact absurd h Bool.false_ne_true
  | .bi b es, sc, x, X, G, h => by
    cases x with
    | Call y ys ks pos =>
      cases y with
      | Name g p =>
        cases ks with
        | nil =>
          obtain ⟨h0, h4⟩ := and2 (show (decide (g = b.name) && gloB sc g && !ys.isEmpty && chkEs N fs es sc ys) = true from h)
          obtain ⟨h1, h2, h3⟩ := and3 h0
          cases ys with
          | nil => cases h3
          | cons z zs => exact s_bi G (of_decide_eq_true h1) h2 (chkEs_star h4) (sEs es sc (z :: zs) X G h4)
        | cons _ _ => exact absurd h Bool.false_ne_true
      | _ => exact absurd h Bool.false_ne_true
    | _ => exact absurd h Bool.false_ne_true
  | .isi a t, sc, x, X, G, h => by
    cases x with
    | Call y ys ks pos =>
      cases y with
      | Name g p =>
        cases ks with
        | nil =>
          match ys, h with
          | [], h => exact absurd h Bool.false_ne_true
          | [_], h => exact absurd h Bool.false_ne_true
          | _ :: w :: _ :: _, h => cases w <;> exact absurd h Bool.false_ne_true
          | [z, w], h =>
            cases w with
            | Name k p2 =>
              obtain ⟨h1, h2, h3⟩ := and3 (show (decide (g = "isinstance") && gloB sc g && decide (k = t.py) && gloB sc k && notStar z && chkE N fs a sc z) = true from h)
              obtain ⟨h4, h5, h6⟩ := and3 h1
              obtain ⟨h7, h8⟩ := and2 h4
              have e : g = "isinstance" := of_decide_eq_true h7
              have e2 : k = t.py := of_decide_eq_true h5
              subst e e2
              exact s_isi G h8 h6 h2 (sE a sc z X G h3)
            | _ => exact absurd h Bool.false_ne_true
        | cons _ _ => (rcases ys with _ | ⟨a1, _ | ⟨a2, _ | ⟨a3, r⟩⟩⟩ <;> first | exact absurd h Bool.false_ne_true | (cases a2 <;> exact absurd h Bool.false_ne_true))
      | _ => exact absurd h Bool.false_ne_true
    | _ => exact absurd h Bool.false_ne_true
  | .me m o es, sc, x, X, G, h => by
    cases x with
    | Call y ys ks pos =>
      cases y with
      | Attribute z g apos =>
        cases ks with
        | nil =>
          obtain ⟨h1, h2, h3⟩ := and3 (show (decide (g = m.name) && (apos.endLine == pos.line) && baseOk z && chkE N fs o sc z && m.arOk ys && chkEs N fs es sc ys) = true from h)
          obtain ⟨h4, h5, h6⟩ := and3 h1
          obtain ⟨h7, h8⟩ := and2 h4
          have e : g = m.name := of_decide_eq_true h7
          subst e
          cases m with
          | bits =>
            cases ys with
            | nil =>
              obtain rfl := chkEs_nil h3
              exact s_bits (sE o sc z X G h6) h5 h8
            | cons _ _ => cases h2
          | partition =>
            clear h h1 h4 h7
            match ys, h2, h3 with
            | [w], h2, h3 => exact s_partition (sE o sc z X G h6) (sEs es sc [w] X G h3) (chkEs_star h3 w List.mem_cons_self) h5 h8
            | [], h2, h3 => cases h2
            | _ :: _ :: _, h2, h3 => cases h2
          | join =>
            clear h h1 h4 h7
            match ys, h2, h3 with
            | [w], h2, h3 => exact s_join (sE o sc z X G h6) (sEs es sc [w] X G h3) (chkEs_star h3 w List.mem_cons_self) h5 h8
            | [], h2, h3 => cases h2
            | _ :: _ :: _, h2, h3 => cases h2
        | cons _ _ => exact absurd h Bool.false_ne_true
      | _ => exact absurd h Bool.false_ne_true
    | _ => exact absurd h Bool.false_ne_true
  | .lc elt tg it cond, sc, x, X, G, h => by
    cases x with
    | ListComp y gs scope pos =>
      match gs, h with
      | [⟨t, i, ifs, k⟩], h =>
        obtain ⟨h1, h2, h3⟩ := and3 (show (decide (k = 0) && blkC N sc scope (ownOf N tg.slots) && notSet i && chkTg N scope tg t && chkIt N fs it sc i && chkC N fs cond scope ifs && chkE N fs elt scope y) = true from h)
        obtain ⟨h4, h5, h6⟩ := and3 h1
        obtain ⟨h7, h8, h9⟩ := and3 h4
        have e : k = 0 := of_decide_eq_true h7
        subst e
        exact s_lc G h8 h9 h5 (fun tgx => sIt it sc i X tgx G h6) (fun X' G' => sC cond scope ifs X' G' h2) (fun X' G' => sE elt scope y X' G' h3)
      | [], h => exact absurd h Bool.false_ne_true
      | ⟨_, _, _, _⟩ :: _ :: _, h => exact absurd h Bool.false_ne_true
    | _ => exact absurd h Bool.false_ne_true
  | .dict ks es, sc, x, X, G, h => by
    cases x with
    | Dict keys values pos =>
      obtain ⟨h0, h4⟩ := and2 (show (chkKs ks keys && decide (keys.length = values.length) && !keys.isEmpty && chkEs N fs es sc values) = true from h)
      obtain ⟨h1, h2, h3⟩ := and3 h0
      have hl : keys.length = values.length := of_decide_eq_true h2
      have pp := sPP es ks sc keys values X pos G h1 h4 hl
      exact s_dict h1 hl (by intro e; subst e; cases h3) pp
    | _ => exact absurd h Bool.false_ne_true
theorem sPP : ∀ (es : Es) (ks : List Str) (sc : Scope) (keys : List (Option Expr)) (values : List Expr) (X : Cx) (pos : Pos), GX N fs F n sc X → chkKs ks keys = true → chkEs N fs es sc values = true → keys.length = values.length → PPs X pos keys values (trsOf X.K F ks es)
  | es, [], sc, [], [], X, pos, _, _, _, _ => by
    cases es <;> exact pps_nil
  | _, [], _, _ :: _, _, _, _, _, h, _, _ => absurd h Bool.false_ne_true
  | _, [], _, [], _ :: _, _, _, _, _, _, h => by cases h
  | _, _ :: _, _, [], _, _, _, _, h, _, _ => absurd h Bool.false_ne_true
  | .nil, _ :: _, _, _ :: _, [], _, _, _, _, _, h => by cases h
  | .nil, _ :: _, _, _ :: _, _ :: _, _, _, _, _, h, _ => absurd h Bool.false_ne_true
  | .cons e es, _ :: _, _, _ :: _, [], _, _, _, _, _, h => by cases h
  | .cons e es, k :: ks, sc, o :: keys, v :: values, X, pos, G, h1, h2, h3 => by
    obtain ⟨g1, g2, g3⟩ := and3 (show (notStar v && chkE N fs e sc v && chkEs N fs es sc values) = true from h2)
    cases o with
    | none => exact absurd h1 Bool.false_ne_true
    | some y =>
      cases y with
      | Constant c j p =>
        cases c with
        | str z =>
          obtain ⟨m1, m2⟩ := and2 (show (decide (k = z) && chkKs ks keys) = true from h1)
          have ek : k = z := of_decide_eq_true m1
          subst ek
          exact pps_cons pe_str (sE e sc v X G g2).v (sPP es ks sc keys values X pos G m2 g3 (by simpa using h3))
        | _ => exact absurd h1 Bool.false_ne_true
      | _ => exact absurd h1 Bool.false_ne_true
theorem sEs : ∀ (es : Es) (sc : Scope) (xs : List Expr) (X : Cx), GX N fs F n sc X → chkEs N fs es sc xs = true → PA X xs (tEs X.K F es)
  | .nil, sc, [], X, G, h => s_nil
  | .nil, sc, _ :: _, X, G, h => absurd h Bool.false_ne_true
  | .cons e es, sc, [], X, G, h => absurd h Bool.false_ne_true
  | .cons e es, sc, x :: xs, X, G, h => by
    obtain ⟨h1, h2, h3⟩ := and3 (show (notStar x && chkE N fs e sc x && chkEs N fs es sc xs) = true from h)
    exact s_cons (sE e sc x X G h2) (sEs es sc xs X G h3) h1
theorem sEO : ∀ (e : EO) (sc : Scope) (x : Option Expr) (X : Cx), GX N fs F n sc X → chkEO N fs e sc x = true → PO X x (tEO X.K F e)
  | .none, sc, none, X, G, h => s_onone
  | .none, sc, some _, X, G, h => absurd h Bool.false_ne_true
  | .some e, sc, none, X, G, h => absurd h Bool.false_ne_true
  | .some e, sc, some x, X, G, h => s_osome (sE e sc x X G h)
theorem sC : ∀ (e : EO) (sc : Scope) (x : List Expr) (X : Cx), GX N fs F n sc X → chkC N fs e sc x = true → PTs X x (tC' X.K F e)
  | .none, sc, [], X, G, h => s_cnone
  | .none, sc, _ :: _, X, G, h => absurd h Bool.false_ne_true
  | .some e, sc, [], X, G, h => absurd h Bool.false_ne_true
  | .some e, sc, [x], X, G, h => s_csome (sE e sc x X G h)
  | .some e, sc, _ :: _ :: _, X, G, h => absurd h Bool.false_ne_true
theorem sIt : ∀ (it : It) (sc : Scope) (x : Expr) (X : Cx) (tgx : Expr), GX N fs F n sc X → chkIt N fs it sc x = true → PI X tgx x (tI X.K F it)
  | .seq e, sc, x, X, tgx, G, h => s_iseq (sE e sc x X G h)
  | .rng1 a, sc, x, X, tgx, G, h => by
    cases x with
    | Call y ys ks pos =>
      cases y with
      | Name g p =>
        cases ks with
        | nil =>
          match ys, h with
          | [], h => exact absurd h Bool.false_ne_true
          | _ :: _ :: _, h => exact absurd h Bool.false_ne_true
          | [z], h =>
            obtain ⟨h0, h4⟩ := and2 (show (decide (g = "range") && gloB sc g && notStar z && chkE N fs a sc z) = true from h)
            obtain ⟨h1, h2, h3⟩ := and3 h0
            have e : g = "range" := of_decide_eq_true h1
            subst e
            exact s_rng1 G h2 h3 (sE a sc z X G h4)
        | cons _ _ => (rcases ys with _ | ⟨a1, _ | ⟨a2, _ | ⟨a3, r⟩⟩⟩ <;> first | exact absurd h Bool.false_ne_true | (cases a2 <;> exact absurd h Bool.false_ne_true))
      | _ => exact absurd h Bool.false_ne_true
    | _ => exact absurd h Bool.false_ne_true
  | .rng2 a b, sc, x, X, tgx, G, h => by
    cases x with
    | Call y ys ks pos =>
      cases y with
      | Name g p =>
        cases ks with
        | nil =>
          match ys, h with
          | [], h => exact absurd h Bool.false_ne_true
          | [_], h => exact absurd h Bool.false_ne_true
          | _ :: _ :: _ :: _, h => exact absurd h Bool.false_ne_true
          | [z, w], h =>
            obtain ⟨h0, h4, h5⟩ := and3 (show (decide (g = "range") && gloB sc g && notStar z && notStar w && chkE N fs a sc z && chkE N fs b sc w) = true from h)
            obtain ⟨h6, h2, h3⟩ := and3 h0
            obtain ⟨h1, h7⟩ := and2 h6
            have e : g = "range" := of_decide_eq_true h1
            subst e
            exact s_rng2 G h7 h2 h3 (sE a sc z X G h4) (sE b sc w X G h5)
        | cons _ _ => (rcases ys with _ | ⟨a1, _ | ⟨a2, _ | ⟨a3, r⟩⟩⟩ <;> first | exact absurd h Bool.false_ne_true | (cases a2 <;> exact absurd h Bool.false_ne_true))
      | _ => exact absurd h Bool.false_ne_true
    | _ => exact absurd h Bool.false_ne_true
end
end
end FM

set_option Elab.async false
set_option linter.all false
set_option maxRecDepth 100000
set_option maxHeartbeats 4000000
/-! Ev12: statements. -/
namespace FM
open PySem PySem.Spec PyProof.Rows L2

/-! ### the frame -/
/-- what the frame's slots own, and what was own ahead of the call -/
def ownF (own0 : Addr → Prop) (σ : L2.St) (ρ : Env) : Addr → Prop := fun b => own0 b ∨ ∃ (i : Nat) (ds : List D), ρ[i]? = some (some (Sl.ow ds)) ∧ σ[i]? = some (some (V.ref b))
/-- what a def's body keeps: base: the state at its entry; pn, pa: what a loop around wants kept -/
structure Base where
  own0 : Addr → Prop
  ads0 : List Addr
  H0 : Hp
  pn : Addr → HO → Prop
  pa : List Addr
structure FI (K : PySem.W.Frag) (B : Base) (ads : List Addr) (H : Hp) (σ : L2.St) (ρ : Env) (μ : Cells) : Prop where
  hold : Hold K (ownF B.own0 σ ρ) ads H σ ρ μ
  ext : Ext B.ads0 B.H0 ads H
  dist : ∀ (i j : Nat) (ds es : List D) (b : Addr), ρ[i]? = some (some (Sl.ow ds)) → ρ[j]? = some (some (Sl.ow es)) → σ[i]? = some (some (V.ref b)) → σ[j]? = some (some (V.ref b)) → i = j
  new : ∀ (i : Nat) (ds : List D) (b : Addr), ρ[i]? = some (some (Sl.ow ds)) → σ[i]? = some (some (V.ref b)) → B.H0 b = none
  own0T : ∀ b, B.own0 b → ∃ o, B.H0 b = some o
  pin : ∀ b o, B.pn b o → H b = some o ∧ ¬ Zo (ownF B.own0 σ ρ) ads b
  pre : ∀ (k : Nat) (a : Addr), B.pa[k]? = some a → ads[k]? = some a
section
variable {K : PySem.W.Frag} {B : Base} {ads ads' : List Addr} {H H' : Hp} {σ : L2.St} {ρ : Env} {μ μ' : Cells}
/-- behind an expression -/
theorem FI.step (f : FI K B ads H σ ρ μ) (e : Ext ads H ads' H') (h : Hold K (ownF B.own0 σ ρ) ads' H' σ ρ μ') : FI K B ads' H' σ ρ μ' where
  hold := h
  ext := f.ext.trans e
  dist := f.dist
  new := f.new
  own0T := f.own0T
  pin := fun b o p => by
    obtain ⟨h1, h2⟩ := f.pin b o p
    exact ⟨e.keep b o h1 fun m => h2 (.inr m), e.stay.free b o h1 h2⟩
  pre := fun k a q => e.pre k a (f.pre k a q)
theorem ownF_set {own0 : Addr → Prop} {i : Nat} {v : Option V} {d : D} {b : Addr} (h : ownF own0 (σ.set i v) (ρ.set i (some (.pl d))) b) : ownF own0 σ ρ b := by
  rcases h with h | ⟨j, ds, h1, h2⟩
  · exact .inl h
  · by_cases hj : i = j
    · subst hj
      rw [List.getElem?_set] at h1
      simp at h1
    · rw [List.getElem?_set_ne hj] at h1 h2
      exact .inr ⟨j, ds, h1, h2⟩
theorem ownF_set' {own0 : Addr → Prop} {i : Nat} {d : D} {b : Addr} (h : ownF own0 σ (ρ.set i (some (.pl d))) b) : ownF own0 σ ρ b := by
  rcases h with h | ⟨j, ds, h1, h2⟩
  · exact .inl h
  · by_cases hj : i = j
    · subst hj
      rw [List.getElem?_set] at h1
      simp at h1
    · rw [List.getElem?_set_ne hj] at h1
      exact .inr ⟨j, ds, h1, h2⟩
theorem set_ow {i j : Nat} {d : D} {ds : List D} (h : (ρ.set i (some (Sl.pl d)))[j]? = some (some (Sl.ow ds))) : i ≠ j ∧ ρ[j]? = some (some (Sl.ow ds)) := by
  by_cases hj : i = j
  · subst hj
    rw [List.getElem?_set] at h
    simp at h
  · rw [List.getElem?_set_ne hj] at h
    exact ⟨hj, h⟩
/-- the environment, seen with fewer own lists -/
theorem Hold.anti {own own' : Addr → Prop} (h : ∀ b, own' b → own b) (k : ∀ (i : Nat) (ds : List D) (b : Addr), ρ[i]? = some (some (Sl.ow ds)) → σ[i]? = some (some (V.ref b)) → own' b) (x : Hold K own ads H σ ρ μ) : Hold K own' ads H σ ρ μ := by
  refine ⟨fun i s e => ?_, x.c.anti h, x.len⟩
  obtain ⟨v, h1, h2⟩ := x.e i s e
  refine ⟨v, h1, h2.anti h fun ds e1 a e2 => ?_⟩
  subst e1 e2
  exact k i ds a e h1
/-- a plain datum is stored -/
theorem FI.setPl {i : Nat} {v : V} {d : D} (f : FI K B ads H σ ρ μ) (r : Rep K (Zo (ownF B.own0 σ ρ) ads) ads H v d) : FI K B ads H (σ.set i (some v)) (ρ.set i (some (.pl d))) μ where
  hold := (f.hold.set r).anti (fun b h => ownF_set h) fun j ds b h1 h2 => .inr ⟨j, ds, h1, h2⟩
  ext := f.ext
  dist := fun j k ds es b h1 h2 h3 h4 => by
    obtain ⟨n1, g1⟩ := set_ow h1
    obtain ⟨n2, g2⟩ := set_ow h2
    rw [List.getElem?_set_ne n1] at h3
    rw [List.getElem?_set_ne n2] at h4
    exact f.dist j k ds es b g1 g2 h3 h4
  new := fun j ds b h1 h2 => by
    obtain ⟨n1, g1⟩ := set_ow h1
    rw [List.getElem?_set_ne n1] at h2
    exact f.new j ds b g1 h2
  own0T := f.own0T
  pin := fun b o p => by
    obtain ⟨h1, h2⟩ := f.pin b o p
    exact ⟨h1, fun z => h2 (z.elim (fun z => .inl (ownF_set z)) .inr)⟩
  pre := f.pre
/-- an owned list is let go: it is plain from now on -/
theorem FI.frz {i : Nat} {ds : List D} (f : FI K B ads H σ ρ μ) (hi : ρ[i]? = some (some (Sl.ow ds))) : FI K B ads H σ (ρ.set i (some (.pl (.lst ds)))) μ := by
  obtain ⟨v, e1, a, xs, e2, e3, e4, e5⟩ := f.hold.e i _ hi
  subst e2
  have fewer : ∀ b, ownF B.own0 σ (ρ.set i (some (.pl (.lst ds)))) b → ownF B.own0 σ ρ b := fun b h => ownF_set' h
  have na : ¬ Zo (ownF B.own0 σ (ρ.set i (some (.pl (.lst ds))))) ads a := by
    intro z
    rcases z with (z | ⟨j, es, z1, z2⟩) | z
    · obtain ⟨o, z1⟩ := f.own0T a z
      rw [f.new i ds a hi e1] at z1
      cases z1
    · obtain ⟨n1, g1⟩ := set_ow z1
      exact n1 (f.dist i j ds es a hi g1 e1 z2)
    · exact f.hold.c.dis a z e4
  refine ⟨?_, f.ext, fun j k ds es b h1 h2 h3 h4 => ?_, fun j ds b h1 h2 => ?_, f.own0T, fun b o p => ?_, f.pre⟩
  · refine ⟨fun j s e => ?_, f.hold.c.anti fewer, by rw [List.length_set]; exact f.hold.len⟩
    by_cases hj : i = j
    · subst hj
      have hl := (List.getElem?_eq_some_iff.mp hi).1
      rw [List.getElem?_set_self hl] at e
      cases e
      exact ⟨_, e1, .lst (.inl ⟨.inl e3, na⟩) (RepL.stay (antiOwn (K := K) fewer) _ _ e5)⟩
    · rw [List.getElem?_set_ne hj] at e
      obtain ⟨w, g1, g2⟩ := f.hold.e j s e
      refine ⟨w, g1, g2.anti fewer fun es e1 a e2 => ?_⟩
      subst e1 e2
      exact .inr ⟨j, es, by rw [List.getElem?_set_ne hj]; exact e, g1⟩
  · exact f.dist j k ds es b (set_ow h1).2 (set_ow h2).2 h3 h4
  · exact f.new j ds b (set_ow h1).2 h2
  · obtain ⟨h1, h2⟩ := f.pin b o p
    exact ⟨h1, fun z => h2 (z.elim (fun z => .inl (fewer _ z)) .inr)⟩
/-- a new list of one's own -/
theorem FI.own {i : Nat} {p : Addr} (f : FI K B ads H σ ρ μ) (hp : H p = none) (hi : isOw ρ i = false) : FI K B ads (upd H p (.lst [])) (σ.set i (some (.ref p))) (ρ.set i (some (.ow []))) μ := by
  have hp0 : B.H0 p = none := by
    cases q : B.H0 p with
    | none => rfl
    | some o => obtain ⟨o', q'⟩ := f.ext.there p o q; rw [hp] at q'; cases q'
  have not : ∀ (j : Nat) (ds : List D), ρ[j]? = some (some (Sl.ow ds)) → i ≠ j := fun j ds e z => by
    subst z
    unfold isOw at hi
    rw [e] at hi
    cases hi
  have notp : ∀ (j : Nat) (ds : List D), ρ[j]? = some (some (Sl.ow ds)) → σ[j]? ≠ some (some (V.ref p)) := fun j ds e z => by
    obtain ⟨v, e1, a, xs, e2, e3, _⟩ := f.hold.e j _ e
    rw [z] at e1
    cases e1
    cases e2
    rw [hp] at e3
    cases e3
  have look : ∀ {j : Nat} {ds : List D}, (ρ.set i (some (Sl.ow [])))[j]? = some (some (Sl.ow ds)) → (i = j ∧ ds = [] ∧ j < ρ.length) ∨ (i ≠ j ∧ ρ[j]? = some (some (Sl.ow ds))) := fun {j ds} e => by
    by_cases hj : i = j
    · subst hj
      have hl := (List.getElem?_eq_some_iff.mp e).1
      rw [List.length_set] at hl
      rw [List.getElem?_set_self hl] at e
      cases e
      exact .inl ⟨rfl, rfl, hl⟩
    · rw [List.getElem?_set_ne hj] at e
      exact .inr ⟨hj, e⟩
  have fewer : ∀ b, ownF B.own0 (σ.set i (some (V.ref p))) (ρ.set i (some (Sl.ow []))) b → plusOwn (ownF B.own0 σ ρ) p b := fun b h => by
    rcases h with h | ⟨j, ds, h1, h2⟩
    · exact .inl (.inl h)
    · rcases look h1 with ⟨e1, _, hl⟩ | ⟨e1, e2⟩
      · subst e1
        rw [List.getElem?_set_self (by rw [← f.hold.len]; exact hl)] at h2
        cases h2
        exact .inr rfl
      · rw [List.getElem?_set_ne e1] at h2
        exact .inl (.inr ⟨j, ds, e2, h2⟩)
  have hh := f.hold.plus (p := p) (o := .lst []) hp True.intro
  refine ⟨?_, f.ext.trans (.fresh hp), fun j k ds es b h1 h2 h3 h4 => ?_, fun j ds b h1 h2 => ?_, f.own0T, fun b o q => ?_, f.pre⟩
  · refine ⟨fun j s e => ?_, hh.c.anti fewer, by rw [List.length_set, List.length_set]; exact f.hold.len⟩
    by_cases hj : i = j
    · subst hj
      have hl := (List.getElem?_eq_some_iff.mp e).1
      rw [List.length_set] at hl
      rw [List.getElem?_set_self hl] at e
      cases e
      exact ⟨_, List.getElem?_set_self (by rw [← f.hold.len]; exact hl), p, [], rfl, upd_same, .inr ⟨i, [], List.getElem?_set_self hl, List.getElem?_set_self (by rw [← f.hold.len]; exact hl)⟩, .nil⟩
    · rw [List.getElem?_set_ne hj] at e
      obtain ⟨w, g1, g2⟩ := hh.e j s e
      refine ⟨w, by rw [List.getElem?_set_ne hj]; exact g1, g2.anti fewer fun es e1 a e2 => ?_⟩
      subst e1 e2
      exact .inr ⟨j, es, by rw [List.getElem?_set_ne hj]; exact e, by rw [List.getElem?_set_ne hj]; exact g1⟩
  · rcases look h1 with ⟨a1, _, l1⟩ | ⟨a1, a2⟩
    · subst a1
      rw [List.getElem?_set_self (by rw [← f.hold.len]; exact l1)] at h3
      cases h3
      rcases look h2 with ⟨b1, _, _⟩ | ⟨b1, b2⟩
      · exact b1
      · rw [List.getElem?_set_ne b1] at h4
        exact absurd h4 (notp k es b2)
    · rw [List.getElem?_set_ne a1] at h3
      rcases look h2 with ⟨b1, _, l2⟩ | ⟨b1, b2⟩
      · subst b1
        rw [List.getElem?_set_self (by rw [← f.hold.len]; exact l2)] at h4
        cases h4
        exact absurd h3 (notp j ds a2)
      · rw [List.getElem?_set_ne b1] at h4
        exact f.dist j k ds es b a2 b2 h3 h4
  · rcases look h1 with ⟨a1, _, l1⟩ | ⟨a1, a2⟩
    · subst a1
      rw [List.getElem?_set_self (by rw [← f.hold.len]; exact l1)] at h2
      cases h2
      exact hp0
    · rw [List.getElem?_set_ne a1] at h2
      exact f.new j ds b a2 h2
  · obtain ⟨h1, h2⟩ := f.pin b o q
    have ne : b ≠ p := ne_of_none h1 hp
    refine ⟨by rw [upd_ne ne]; exact h1, fun z => ?_⟩
    rcases z with z | z
    · rcases fewer b z with z | z
      · exact h2 (.inl z)
      · exact ne z
    · exact h2 (.inr z)
/-- an item appended to a list of one's own -/
theorem FI.app {i : Nat} {a : Addr} {ds : List D} {xs : List V} {v : V} {d : D} (f : FI K B ads H σ ρ μ) (hi : ρ[i]? = some (some (Sl.ow ds))) (hs : σ[i]? = some (some (V.ref a))) (ha : H a = some (.lst xs)) (hl : RepL K (Zo (ownF B.own0 σ ρ) ads) ads H xs ds) (r : Rep K (Zo (ownF B.own0 σ ρ) ads) ads H v d) :
    FI K B ads (upd H a (.lst (xs ++ [v]))) σ (ρ.set i (some (.ow (ds ++ [d])))) μ := by
  have own : ownF B.own0 σ ρ a := .inr ⟨i, ds, hi, hs⟩
  have hlen := (List.getElem?_eq_some_iff.mp hi).1
  have look : ∀ {j : Nat} {es : List D}, (ρ.set i (some (Sl.ow (ds ++ [d]))))[j]? = some (some (Sl.ow es)) → ∃ es', ρ[j]? = some (some (Sl.ow es')) := fun {j es} e => by
    by_cases hj : i = j
    · subst hj
      exact ⟨ds, hi⟩
    · rw [List.getElem?_set_ne hj] at e
      exact ⟨es, e⟩
  have same : ∀ b, ownF B.own0 σ (ρ.set i (some (Sl.ow (ds ++ [d])))) b → ownF B.own0 σ ρ b := fun b h => by
    rcases h with h | ⟨j, es, h1, h2⟩
    · exact .inl h
    · obtain ⟨es', e⟩ := look h1
      exact .inr ⟨j, es', e, h2⟩
  have back : ∀ (j : Nat) (es : List D) (b : Addr), ρ[j]? = some (some (Sl.ow es)) → σ[j]? = some (some (V.ref b)) → ownF B.own0 σ (ρ.set i (some (Sl.ow (ds ++ [d])))) b := fun j es b e1 e2 => by
    by_cases hj : i = j
    · subst hj
      exact .inr ⟨i, _, List.getElem?_set_self hlen, e2⟩
    · exact .inr ⟨j, es, by rw [List.getElem?_set_ne hj]; exact e1, e2⟩
  have e0 : ∀ b o, B.H0 b = some o → b ≠ a := fun b o e z => by
    subst z
    rw [f.new i ds b hi hs] at e
    cases e
  refine ⟨?_, ⟨fun b o e m => ?_, fun b o e => ?_, f.ext.new, f.ext.pre⟩, fun j k es gs b h1 h2 h3 h4 => ?_, fun j es b h1 h2 => ?_, f.own0T, fun b o q => ?_, f.pre⟩
  · refine ⟨fun j s e => ?_, ⟨f.hold.c.len, f.hold.c.nd, fun k b e => ?_, fun b m z => f.hold.c.dis b m (same _ z), fun b z => ?_⟩, by rw [List.length_set]; exact f.hold.len⟩
    · by_cases hj : i = j
      · subst hj
        rw [List.getElem?_set_self hlen] at e
        cases e
        refine ⟨_, hs, a, xs ++ [v], rfl, upd_same, back i ds a hi hs, ?_⟩
        exact RepL.stay (antiOwn (K := K) same) _ _ (.append (RepL.stay (stayWrite own) _ _ hl) (.cons (Rep.stay (stayWrite own) _ _ r) .nil))
      · rw [List.getElem?_set_ne hj] at e
        obtain ⟨w, g1, g2⟩ := f.hold.e j s e
        refine ⟨w, g1, ?_⟩
        cases s with
        | pl d' => exact Rep.stay (antiOwn (K := K) same) _ _ (Rep.stay (stayWrite own) _ _ g2)
        | ow es =>
          obtain ⟨a', zs, f1, f2, f3, f4⟩ := g2
          subst f1
          have ne : a' ≠ a := fun z => hj (f.dist i j ds es a hi e hs (z ▸ g1))
          exact ⟨a', zs, rfl, by rw [upd_ne ne]; exact f2, back j es a' e g1, RepL.stay (antiOwn (K := K) same) _ _ (RepL.stay (stayWrite own) _ _ f4)⟩
    · obtain ⟨kvs, kds, g1, g2, g3⟩ := f.hold.c.at k b e
      have ne : b ≠ a := fun z => f.hold.c.dis b (List.mem_of_getElem? e) (z ▸ own)
      exact ⟨kvs, kds, g1, by rw [upd_ne ne]; exact g2, (g3.stay (stayWrite own)).stay (antiOwn (K := K) same)⟩
    · by_cases hb : b = a
      · subst hb
        exact ⟨_, upd_same, True.intro⟩
      · obtain ⟨o, g1, g2⟩ := f.hold.c.ownT b (same _ z)
        exact ⟨o, by rw [upd_ne hb]; exact g1, g2⟩
  · rw [upd_ne (e0 b o e)]
    exact f.ext.keep b o e m
  · rw [upd_ne (e0 b o e)]
    exact f.ext.there b o e
  · obtain ⟨es', g1⟩ := look h1
    obtain ⟨gs', g2⟩ := look h2
    exact f.dist j k es' gs' b g1 g2 h3 h4
  · obtain ⟨es', g1⟩ := look h1
    exact f.new j es' b g1 h2
  · obtain ⟨h1, h2⟩ := f.pin b o q
    have ne : b ≠ a := fun z => h2 (.inl (z ▸ own))
    exact ⟨by rw [upd_ne ne]; exact h1, fun z => h2 (z.elim (fun z => .inl (same _ z)) .inr)⟩
theorem stayCell {own : Addr → Prop} {p : Addr} {o : HO} (h : p ∈ ads) : Stay (Zo own ads) (Zo own ads) ads ads H (upd H p o) :=
  ⟨fun b u e z => by
    have ne : b ≠ p := by rintro rfl; exact z (.inr h)
    rw [upd_ne ne]; exact e, fun _ _ _ z => z, fun _ _ e => e⟩
theorem ix_inj {N : List Addr} (hN : N.Nodup) {i j : Nat} {x : Addr} (a : N[i]? = some x) (b : N[j]? = some x) : i = j := by
  obtain ⟨h1, e1⟩ := List.getElem?_eq_some_iff.mp a
  obtain ⟨h2, e2⟩ := List.getElem?_eq_some_iff.mp b
  exact (List.getElem_inj hN).mp (e1.trans e2.symm)
/-- a cell is changed -/
theorem FI.cell {n : Nat} {a : Addr} {c : Cell} {kvs : List (Key × V)} (f : FI K B ads H σ ρ μ) (ha : ads[n]? = some a) (hk : RepKV K (Zo (ownF B.own0 σ ρ) ads) ads H kvs c) : FI K B ads (upd H a (.dK kvs)) σ ρ (μ.set n c) := by
  have mem := List.mem_of_getElem? ha
  obtain ⟨kv0, kd0, k1, k2, k3⟩ := f.hold.c.at n a ha
  have hn : n < μ.length := (List.getElem?_eq_some_iff.mp k1).1
  refine ⟨⟨fun i s e => ?_, ⟨by rw [List.length_set]; exact f.hold.c.len, f.hold.c.nd, fun k b e => ?_, f.hold.c.dis, fun b z => ?_⟩, f.hold.len⟩, ⟨fun b o e m => ?_, fun b o e => ?_, f.ext.new, f.ext.pre⟩, f.dist, f.new, f.own0T, fun b o q => ?_, f.pre⟩
  · obtain ⟨v, h1, h2⟩ := f.hold.e i s e
    refine ⟨v, h1, ?_⟩
    cases s with
    | pl d => exact Rep.stay (stayCell mem) _ _ h2
    | ow ds =>
      obtain ⟨b, zs, f1, f2, f3, f4⟩ := h2
      have ne : b ≠ a := fun z => f.hold.c.dis a mem (z ▸ f3)
      exact ⟨b, zs, f1, by rw [upd_ne ne]; exact f2, f3, RepL.stay (stayCell mem) _ _ f4⟩
  · by_cases hb : k = n
    · subst hb
      rw [ha] at e
      cases e
      exact ⟨kvs, c, List.getElem?_set_self hn, upd_same, hk.stay (stayCell mem)⟩
    · obtain ⟨kv, kd, g1, g2, g3⟩ := f.hold.c.at k b e
      have ne : b ≠ a := fun z => hb (ix_inj f.hold.c.nd e (z ▸ ha))
      exact ⟨kv, kd, by rw [List.getElem?_set_ne (Ne.symm hb)]; exact g1, by rw [upd_ne ne]; exact g2, g3.stay (stayCell mem)⟩
  · obtain ⟨o, g1, g2⟩ := f.hold.c.ownT b z
    have ne : b ≠ a := fun w => f.hold.c.dis a mem (w ▸ z)
    exact ⟨o, by rw [upd_ne ne]; exact g1, g2⟩
  · by_cases hb : b = a
    · subst hb
      rcases f.ext.new b mem with z | z
      · exact absurd z m
      · rw [z] at e; cases e
    · rw [upd_ne hb]
      exact f.ext.keep b o e m
  · by_cases hb : b = a
    · subst hb
      exact ⟨_, upd_same⟩
    · rw [upd_ne hb]
      exact f.ext.there b o e
  · obtain ⟨h1, h2⟩ := f.pin b o q
    have ne : b ≠ a := fun z => h2 (.inr (z ▸ mem))
    exact ⟨by rw [upd_ne ne]; exact h1, h2⟩
end
end FM

set_option Elab.async false
set_option linter.all false
set_option maxRecDepth 100000
set_option maxHeartbeats 4000000
/-! Ev13: the look at statements; every statement sound. -/
namespace FM
open PySem PySem.Spec PyProof.Rows L2

/-! ### the look -/
def isComp : Expr → Bool
  | .ListComp _ _ _ _ => true
  | .SetComp _ _ _ _ => true
  | .DictComp _ _ _ _ _ => true
  | _ => false
def isStar : Expr → Bool
  | .Starred .. => true
  | _ => false
/-- the names of a swap, as the model finds them -/
def swapNames (sc : Scope) (ts : List Expr) : List Str := ts.filterMap fun
  | .Name id pos => if sc.names.lookup id == some .local && pos.line == (ts.head?.map (·.pos.line)).getD 0 then some id else none
  | _ => none
def swapC (sc : Scope) (ts vs : List Expr) : Option (Option (List Str)) :=
  if (!(ts.length == 2 || ts.length == 3) || vs.length != ts.length) = true then some none
  else if vs.any isStar = true then some none
  else if ((swapNames sc ts).length != ts.length || (swapNames sc ts).eraseDups.length != (swapNames sc ts).length) = true then some none
  else if vs.all (foldedForSure 8) = true then some none
  else if vs.all (constantsAlone 8) = true then none
  else some (some (swapNames sc ts))
theorem swapC_ok {env : PySem.Env} {sc : Scope} (hsc : env.scope = sc) (hk : env.blockKind = .function) {ts vs : List Expr} {k k2 : Nat} {p p2 : Pos} {r : Option (List Str)} (h : swapC sc ts vs = some r) :
    swappedStores [.Tuple ts k p] (.Tuple vs k2 p2) env = pure r := by
  subst hsc
  unfold swapC at h
  unfold swappedStores
  simp only [hk]
  split at h
  · rename_i c
    cases h
    rw [if_pos]
    rw [Bool.or_eq_true]
    exact .inl c
  · rename_i c
    rw [if_neg (by rw [Bool.or_eq_true]; rintro (z | z); exact c z; cases z)]
    split at h
    · rename_i c2
      cases h
      rw [if_pos (by exact c2)]
    · rename_i c2
      rw [if_neg (by exact c2)]
      split at h
      · rename_i c3
        cases h
        exact if_pos c3
      · rename_i c3
        refine (if_neg c3).trans ?_
        split at h
        · rename_i c4
          cases h
          exact if_pos c4
        · rename_i c4
          refine (if_neg c4).trans ?_
          split at h
          · cases h
          · rename_i c5
            cases h
            exact if_neg c5

def opAS : Operator → Bool
  | .Add => true
  | .Sub => true
  | _ => false
/-- whether a stored comprehension is told to its name before its variables are let go -/
def swB (sc : Scope) (x : Str) (px : Pos) : Expr → Bool
  | .ListComp _ _ scope p => (sc.names.lookup x == some .local) && px.line == p.line && !(scope.names.any fun (n, k) => n == x && (k == .local || k == .cell))
  | _ => false
def asgOk (sc : Scope) (x : Str) (px : Pos) (v : Expr) : Bool := !isComp v || swB sc x px v
def pairB (f g : Expr → Bool) : Expr → Bool
  | .Tuple [va, vb] _ _ => f va && g vb
  | _ => false
def swapOk (sc : Scope) (ts : List Expr) : Expr → Bool
  | .Tuple vs _ _ => decide (swapC sc ts vs = some none)
  | _ => true
def parOk (N : List Str) (sc : Scope) (i j : Nat) : Expr → Expr → Bool
  | .Tuple [.Name x px, .Name y py] _ _, .Tuple [va, vb] _ _ => decide (swapC sc [.Name x px, .Name y py] [va, vb] = some (some [x, y])) && decide (N[i]? = some x) && decide (N[j]? = some y) && decide (sc.names.lookup x = some .local) && decide (sc.names.lookup y = some .local) && notStar va && notStar vb && decide (i ≠ j)
  | _, _ => false
mutual
def chkS (N fs : List Str) (sc : Scope) : S → Stmt → Bool
  | .asg i e, .Assign [.Name x px] v _ => decide (N[i]? = some x) && locB sc x && chkE N fs e sc v && asgOk sc x px v
  | .own i, .Assign [.Name x _] (.List [] _) _ => decide (N[i]? = some x) && locB sc x
  | .asgT is e, .Assign [.Tuple ts _ _] v _ => chkTs N sc is ts && !isComp v && chkE N fs e sc v && swapOk sc ts v
  | .par i j a b, .Assign [t] v _ => parOk N sc i j t v && pairB (chkE N fs a sc) (chkE N fs b sc) v
  | .aug i o e, .AugAssign (.Name x _) o' v _ => decide (o = o') && opAS o && decide (N[i]? = some x) && locB sc x && chkE N fs e sc v
  | .app i e, .Expr (.Call (.Attribute (.Name x _) g apos) [v] [] cpos) _ => decide (g = "append") && nameIs N sc i x && (apos.endLine == cpos.line) && notStar v && chkE N fs e sc v
  | .daug o k op e, .AugAssign (.Subscript a b _) op' v _ => decide (op = op') && opAS op && notSlice b && chkE N fs o sc a && chkE N fs k sc b && chkE N fs e sc v
  | .ret e, .Return (some v) _ => chkE N fs e sc v
  | .ifs c a b, .If x ys zs _ => chkE N fs c sc x && chkSs N fs sc a ys && chkSs N fs sc b zs
  | .whl c b, .While x ys [] _ => chkE N fs c sc x && chkSs N fs sc b ys
  | .for_ tg it b, .For t i ys [] _ => chkTg N sc tg t && chkIt N fs it sc i && notSet i && chkSs N fs sc b ys
  | .expr e, .Expr v _ => !isComp v && chkE N fs e sc v
  | .pass, .Pass _ => true
  | .brk, .Break _ => true
  | .cont, .Continue _ => true
  | _, _ => false
def chkSs (N fs : List Str) (sc : Scope) : Ss → List Stmt → Bool
  | .nil, [] => true
  | .cons (.frz _) ss, xs => chkSs N fs sc ss xs
  | .cons s ss, x :: xs => chkS N fs sc s x && chkSs N fs sc ss xs
  | _, _ => false
end

/-! ### readings -/
def PostR (K : PySem.W.Frag) (B : Base) (Dn : Ends) : Res → Prop
  | .nx ρ μ => ∀ σ' H' ads', FI K B ads' H' σ' ρ μ → Dn.nx σ' H'
  | .bk ρ μ => ∀ σ' H' ads', FI K B ads' H' σ' ρ μ → Dn.bk σ' H'
  | .ct ρ μ => ∀ σ' H' ads', FI K B ads' H' σ' ρ μ → Dn.ct σ' H'
  | .rt d μ => ∀ v H' ads', Ext B.ads0 B.H0 ads' H' → CellsR K B.own0 ads' H' μ → Rep K (Zo B.own0 ads') ads' H' v d → Dn.rt v H'
def tX (K : PySem.W.Frag) (run : Env → Cells → Option Res) : TS := fun Dn σ H => ∃ B ads ρ μ r, FI K B ads H σ ρ μ ∧ run ρ μ = some r ∧ PostR K B Dn r
theorem PS.imp {X : Cx} {e : Stmt} {t t' : TS} (h : PS X e t) (i : ∀ Dn σ H, t' Dn σ H → t Dn σ H) : PS X e t' := ⟨fun pins s σ H Dn I q => h.run pins s σ H Dn I (i _ _ _ q)⟩
theorem PSs.imp {X : Cx} {e : List Stmt} {t t' : TS} (h : PSs X e t) (i : ∀ Dn σ H, t' Dn σ H → t Dn σ H) : PSs X e t' := ⟨fun pins s σ H Dn I q => h.run pins s σ H Dn I (i _ _ _ q)⟩
section
variable {N fs : List Str} {F : Fs} {n : Nat} {sc : Scope} {X : Cx} {W : Nat}
/-- at a def's own level -/
structure GS (N fs : List Str) (F : Fs) (n : Nat) (sc : Scope) (X : Cx) : Prop where
  g : GX N fs F n sc X
  hsc : X.env.scope = sc
  kind : sc.kind = .function
theorem GS.block (G : GS N fs F n sc X) : X.env.blockKind = .function := by
  unfold PySem.Env.blockKind
  rw [G.hsc, G.kind]
  rfl
theorem sw_plain {v : Expr} (h : isComp v = false) (t : Option Expr) (l : Nat) (env : PySem.Env) : swapsWith v t l env = pure false := by
  cases v <;> first | rfl | cases h
theorem sw_one {v t : Expr} (h : isComp v = false) (l : Nat) (env : PySem.Env) : swapsWithSole [t] v l env = pure false := sw_plain h _ l env
theorem sw_list (G : GS N fs F n sc X) {x : Str} {px p : Pos} {elt : Expr} {gs : List Comprehension} {scope : Scope} {l : Nat} : swapsWith (.ListComp elt gs scope p) (some (.Name x px)) l X.env = pure (swB sc x px (.ListComp elt gs scope p)) := by
  unfold swapsWith
  have hk : X.env.kindOf x = sc.names.lookup x := by rw [← G.hsc]; rfl
  simp only [G.block, hk]
  rfl
theorem asg_read {e : E} {i : Nat} (Dn : Ends) (σ : L2.St) (H : Hp) (h : tX X.K (exec F W (.asg i e)) Dn σ H) : tAsg (tE X.K F e) (gName i) Dn σ H := by
  obtain ⟨B, ads, ρ, μ, r, f, he, q⟩ := h
  unfold exec at he
  split at he
  · cases he
  · rename_i hl
    obtain ⟨d, μ1, e1, he⟩ := andThen_some he
    cases he
    rw [Bool.or_eq_true, not_or] at hl
    have hl1 : lk ρ e = false := by simpa using hl.1
    refine ⟨_, ads, ρ, μ, d, μ1, f.hold, e1, fun v H1 ads1 x1 h1 r1 => ?_⟩
    rw [hl1] at r1
    exact q _ H1 ads1 ((f.step x1 h1).setPl r1.plain)
theorem s_asg (G : GS N fs F n sc X) {i : Nat} {e : E} {x : Str} {px pos : Pos} {v : Expr} (hi : N[i]? = some x) (hx : locB sc x = true) (hv : chkE N fs e sc v = true) (ho : asgOk sc x px v = true) : PS X (.Assign [.Name x px] v pos) (tX X.K (exec F W (.asg i e))) := by
  obtain ⟨l1, l2⟩ := G.g.loc x hx
  have hN : X.N.Nodup := by rw [G.g.hN]; exact G.g.nd
  have hi' : X.N[i]? = some x := by rw [G.g.hN]; exact hi
  unfold asgOk at ho
  by_cases hc : isComp v = false
  · exact PS.imp (ps_set hN hi' l1 (sE e sc v X G.g hv).v (sw_plain hc _ _ _) l2) asg_read
  · have hs : swB sc x px v = true := by
      rw [Bool.or_eq_true] at ho
      rcases ho with ho | ho
      · rw [Bool.not_eq_true'] at ho
        exact absurd ho hc
      · exact ho
    cases v with
    | ListComp y gs scope p =>
      have hs' : ((sc.names.lookup x == some .local) && px.line == p.line && !(scope.names.any fun (n, k) => n == x && (k == .local || k == .cell))) = true := hs
      obtain ⟨z1, z2, z3⟩ := and3 hs'
      have hl : X.env.scope.names.lookup x = some .local := by rw [G.hsc]; exact eq_of_beq z1
      cases e with
      | lc elt tg it cond =>
        match gs, hv, hs with
        | [⟨t, i2, ifs, k⟩], hv, hs =>
          obtain ⟨h1, h2, h3⟩ := and3 (show (decide (k = 0) && blkC N sc scope (ownOf N tg.slots) && notSet i2 && chkTg N scope tg t && chkIt N fs it sc i2 && chkC N fs cond scope ifs && chkE N fs elt scope y) = true from hv)
          obtain ⟨h4, h5, h6⟩ := and3 h1
          obtain ⟨h7, h8, h9⟩ := and3 h4
          have ek : k = 0 := of_decide_eq_true h7
          subst ek
          have nd : ∀ is, tg = .tp is → is.Nodup := fun is e => by
            subst e
            cases t with
            | Tuple es k p =>
              have h' : (chkTs N scope is es && decide is.Nodup) = true := h5
              exact of_decide_eq_true (and2 h').2
            | _ => cases h5
          have sw : swapsWith (.ListComp y [⟨t, i2, ifs, 0⟩] scope p) (some (.Name x px)) pos.line X.env = pure true := by
            rw [sw_list G, hs]
          have core := ps_setLc (X := X) (i := i) (own := ownOf N tg.slots) (g := tTg X.K tg) (tt := tC' X.K F cond) (te := tE X.K F elt) (elt := y) (tg := t) (iter := i2) (ifs := ifs) (scope := scope) (pos := p) (spos := pos) (py := px) G.g.calm hN hi' hl sw (sIt it sc i2 X t G.g h6) (G.g.blkOk h8)
            (fun s H C cl fp => s_tg G.g.blk h5) (fun s H C cl fp => sC cond scope ifs _ G.g.blk h2) (fun s H C cl fp => (sE elt scope y _ G.g.blk h3).v) (folded_of h9 _)
          rw [own_slots] at core
          refine PS.imp core fun Dn σ H h => ?_
          have z := asg_read Dn σ H h
          exact lc_read nd σ H _ z
        | [], hv, _ => exact absurd hv Bool.false_ne_true
        | ⟨_, _, _, _⟩ :: _ :: _, hv, _ => exact absurd hv Bool.false_ne_true
      | _ => exact absurd hv Bool.false_ne_true
    | _ => exact absurd hs Bool.false_ne_true
end
end FM

set_option Elab.async false
set_option linter.all false
set_option maxRecDepth 100000
set_option maxHeartbeats 4000000
/-! Ev14: the other statements. -/
namespace FM
open PySem PySem.Spec PyProof.Rows L2
section
variable {N fs : List Str} {F : Fs} {n : Nat} {sc : Scope} {X : Cx} {W : Nat}
theorem s_own (G : GS N fs F n sc X) {i : Nat} {x : Str} {px p2 pos : Pos} (hi : N[i]? = some x) (hx : locB sc x = true) : PS X (.Assign [.Name x px] (.List [] p2) pos) (tX X.K (exec F W (.own i))) := by
  obtain ⟨l1, l2⟩ := G.g.loc x hx
  refine PS.imp (ps_set (by rw [G.g.hN]; exact G.g.nd) (by rw [G.g.hN]; exact hi) l1 (pe_lst pa_nil) rfl l2) fun Dn σ H ⟨B, ads, ρ, μ, r, f, he, q⟩ => ?_
  unfold exec at he
  split at he
  · cases he
  · rename_i hl
    cases he
    exact ⟨Nat.zero_le _, fun p hp => q _ _ ads (f.own hp (by simpa using hl))⟩
/-- the targets' slots, for statements -/
theorem FI.names {K : PySem.W.Frag} {B : Base} {ads : List Addr} {H : Hp} {μ : Cells} {Q : L2.St → Hp → Prop} : ∀ {is : List Nat} {ds : List D} {vs : List V} {σ : L2.St} {ρ : Env}, FI K B ads H σ ρ μ → RepL K (Zo (ownF B.own0 σ ρ) ads) ads H vs ds → ds.length = is.length →
    (∀ σ1, FI K B ads H σ1 (setAll is ds ρ) μ → Q σ1 H) → gNames is vs σ H Q
  | [], [], _, σ, ρ, f, r, _, k => by
    cases r
    exact ⟨rfl, k σ f⟩
  | [], _ :: _, _, _, _, _, _, e, _ => by cases e
  | _ :: _, [], _, _, _, _, _, e, _ => by cases e
  | i :: is, d :: ds, _, σ, ρ, f, r, e, k => by
    cases r with
    | @cons v _ vs _ r1 r2 =>
      refine ⟨v, vs, rfl, ?_⟩
      show gNames is vs (σ.set i (some v)) H Q
      exact FI.names (f.setPl r1) (RepL.stay (antiOwn (K := K) fun b h => ownF_set h) _ _ r2) (by simpa using e) k
theorem FI.tg {K : PySem.W.Frag} {B : Base} {ads : List Addr} {H : Hp} {σ : L2.St} {ρ ρ1 : Env} {μ : Cells} {Q : L2.St → Hp → Prop} {tg : Tg} {v : V} {d : D} (f : FI K B ads H σ ρ μ) (r : Rep K (Zo (ownF B.own0 σ ρ) ads) ads H v d) (e : bindT tg d ρ = some ρ1)
    (k : ∀ σ1, FI K B ads H σ1 ρ1 μ → Q σ1 H) : tTg K tg v σ H Q := by
  cases tg with
  | nm i =>
    have e' : some (ρ.set i (some (.pl d))) = some ρ1 := e
    cases e'
    exact k _ (f.setPl r)
  | tp is =>
    cases d with
    | tup ds =>
      have e' : (if ds.length = is.length then some (setAll is ds ρ) else none) = some ρ1 := e
      split at e'
      · rename_i hl
        cases e'
        cases r with
        | tup t l => exact ⟨_, _, rfl, t.sq, by rw [l.length]; exact hl, FI.names f l hl k⟩
      · cases e'
    | _ => cases e
theorem s_asgT (G : GS N fs F n sc X) {is : List Nat} {e : E} {ts : List Expr} {k : Nat} {p pos : Pos} {v : Expr} (ht : chkTs N sc is ts = true) (hc : isComp v = false) (hv : chkE N fs e sc v = true)
    (hw : swappedStores [.Tuple ts k p] v X.env = pure none) : PS X (.Assign [.Tuple ts k p] v pos) (tX X.K (exec F W (.asgT is e))) := by
  obtain ⟨g1, g2, g3⟩ := s_ts G.g ht
  refine PS.imp (ps_asg (sE e sc v X G.g hv).v (pg_tup G.g.calm g1 g2 g3) (sw_one hc _ _) hw rfl) fun Dn σ H ⟨B, ads, ρ, μ, r, f, he, q⟩ => ?_
  unfold exec at he
  split at he
  · cases he
  · rename_i hl
    obtain ⟨d, μ1, e1, he⟩ := andThen_some he
    split at he
    · split at he
      · rename_i ds hds
        cases he
        rw [Bool.or_eq_true, not_or] at hl
        have hl1 : lk ρ e = false := by simpa using hl.1
        refine ⟨_, ads, ρ, μ, _, μ1, f.hold, e1, fun v H1 ads1 x1 h1 r1 => ?_⟩
        obtain ⟨a, xs, ev, t, l⟩ := r1.tup
        exact ⟨a, xs, ev, t.sq, by rw [l.length]; exact hds, FI.names (f.step x1 h1) l hds fun σ1 f1 => q σ1 H1 ads1 f1⟩
      · cases he
    · cases he
def augF : Operator → Int → Int → Int
  | .Sub, i, j => i - j
  | _, i, j => i + j
theorem aug_go {i : Nat} {o : Operator} {e : E} {ρ : Env} {μ : Cells} {r : Res} (he : exec F W (.aug i o e) ρ μ = some r) : ∃ a b μ1, ρ[i]? = some (some (Sl.pl (.int a))) ∧ ev F e ρ μ = some (.int b, μ1) ∧ opAS o = true ∧ r = .nx (ρ.set i (some (.pl (.int (augF o a b))))) μ1 := by
  unfold exec at he
  split at he
  · rename_i a hρ
    obtain ⟨d, μ1, e1, he⟩ := andThen_some he
    split at he
    · cases he
      exact ⟨a, _, _, hρ, e1, rfl, rfl⟩
    · cases he
      exact ⟨a, _, _, hρ, e1, rfl, rfl⟩
    · cases he
  · cases he
theorem s_aug (G : GS N fs F n sc X) {i : Nat} {o : Operator} {e : E} {x : Str} {px pos : Pos} {v : Expr} (hi : N[i]? = some x) (hx : locB sc x = true) (ho : opAS o = true) (hv : chkE N fs e sc v = true) : PS X (.AugAssign (.Name x px) o v pos) (tX X.K (exec F W (.aug i o e))) := by
  obtain ⟨l1, l2⟩ := G.g.loc x hx
  have hN : X.N.Nodup := by rw [G.g.hN]; exact G.g.nd
  have hi' : X.N[i]? = some x := by rw [G.g.hN]; exact hi
  have read : ∀ (Dn : Ends) (σ : L2.St) (H : Hp), tX X.K (exec F W (.aug i o e)) Dn σ H → tAug i (tE X.K F e) (ipI (augF o)) Dn σ H := by
    intro Dn σ H ⟨B, ads, ρ, μ, r, f, he, q⟩
    obtain ⟨a, b, μ1, hρ, e1, _, rfl⟩ := aug_go he
    obtain ⟨w, g1, g2⟩ := f.hold.e i _ hρ
    have ew : w = .int a := by
      have z : Rep X.K (Zo (ownF B.own0 σ ρ) ads) ads H w (.int a) := g2
      cases z; rfl
    subst ew
    refine ⟨_, g1, _, ads, ρ, μ, _, μ1, f.hold, e1, fun v H1 ads1 x1 h1 r1 => ⟨a, b, rfl, r1.int, ?_⟩⟩
    exact q _ H1 ads1 ((f.step x1 h1).setPl (.int _))
  cases o with
  | Add => exact PS.imp (ps_aug hN hi' l1 (sE e sc v X G.g hv).v ip_add l2) read
  | Sub => exact PS.imp (ps_aug hN hi' l1 (sE e sc v X G.g hv).v ip_sub l2) read
  | _ => cases ho
theorem s_app (G : GS N fs F n sc X) {i : Nat} {e : E} {x : Str} {px apos cpos pos : Pos} {v : Expr} (hx : nameIs N sc i x = true) (hl : (apos.endLine == cpos.line) = true) (hs : notStar v = true) (hv : chkE N fs e sc v = true) :
    PS X (.Expr (.Call (.Attribute (.Name x px) "append" apos) [v] [] cpos) pos) (tX X.K (exec F W (.app i e))) := by
  have hx' := hx
  unfold nameIs at hx'
  rw [Bool.and_eq_true, Bool.and_eq_true, Bool.and_eq_true, decide_eq_true_eq] at hx'
  obtain ⟨⟨⟨h1, h2⟩, h3⟩, h4⟩ := hx'
  have pvx : PE X (.Name x px) (tVar i) := pe_var (i := i) (by rw [G.g.hN]; exact h1) (G.g.vis x h2) (by simpa using h3) (by simpa using h4)
  have core := pe_bm (X := X) (apos := apos) (cpos := cpos) PySem.F.plainAttrs_list PySem.F.slot_list_append PySem.F.type_list_append mt_append pvx (pa_cons (sE e sc v X G.g hv).v pa_nil (starEach_cons hs _ _)) rfl (one_arg hs _ _) hl (starEach_cons hs _ _) rfl
  refine PS.imp (ps_expr core rfl) fun Dn σ H ⟨B, ads, ρ, μ, r, f, he, q⟩ => ?_
  unfold exec at he
  split at he
  · rename_i ds hρ
    split at he
    · cases he
    · rename_i hle
      obtain ⟨d, μ1, e1, he⟩ := andThen_some he
      split at he
      · rename_i hz
        cases he
        obtain ⟨w, g1, a, xs, g2, g3, g4, g5⟩ := f.hold.e i _ hρ
        subst g2
        have hle' : lk ρ e = false := by simpa using hle
        refine ⟨_, g1, .inl ⟨rfl, xs, .of g3⟩, _, ads, ρ, μ, d, μ1, f.hold, e1, fun v H1 ads1 x1 h1 r1 => ?_⟩
        rw [hle'] at r1
        have ha := x1.keep a _ g3 fun m => f.hold.c.dis a m g4
        have l := g5.ext x1
        refine ⟨a, xs, v, rfl, rfl, ha, by rw [l.length]; exact hz, ?_⟩
        exact q _ _ ads1 ((f.step x1 h1).app hρ g1 ha l r1.plain)
      · cases he
  · cases he
theorem augStore_of {b : Expr} (h : notSlice b = true) (ov iv new : Value) : augStore b ov iv new = (do holding [new, ov, iv] (setItem ov iv new); release [new, ov, iv] []; pure .next) := by
  cases b <;> first | rfl | cases h
theorem putC_rep {K : PySem.W.Frag} {Z : Addr → Prop} {ads : List Addr} {H : Hp} {k : Key} {v : V} {d : D} (r : Rep K Z ads H v d) {kvs : List (Key × V)} {c : Cell} (h : RepKV K Z ads H kvs c) : RepKV K Z ads H (putK kvs k v) (putC c k d) := by
  have any : ∀ (kvs : List (Key × V)) (c : Cell), kvs.map (·.1) = c.map (·.1) → (kvs.any fun kv => decide (kv.1 = k)) = (c.any fun kv => decide (kv.1 = k)) := by
    intro kvs
    induction kvs with
    | nil => intro c e; cases c with
      | nil => rfl
      | cons _ _ => cases e
    | cons p kvs ih => intro c e; cases c with
      | nil => cases e
      | cons q c =>
        have e' : p.1 :: kvs.map (·.1) = q.1 :: c.map (·.1) := e
        injection e' with e1 e2
        rw [List.any_cons, List.any_cons, e1, ih c e2]
  have map : ∀ (kvs : List (Key × V)) (c : Cell), RepKV K Z ads H kvs c → RepKV K Z ads H (kvs.map fun kv => if kv.1 = k then (kv.1, v) else kv) (c.map fun kv => if kv.1 = k then (kv.1, d) else kv) := by
    intro kvs
    induction kvs with
    | nil => intro c e; cases c with
      | nil => exact ⟨rfl, .nil⟩
      | cons _ _ => cases e.1
    | cons p kvs ih => intro c e; cases c with
      | nil => cases e.1
      | cons q c =>
        have e1 : p.1 :: kvs.map (·.1) = q.1 :: c.map (·.1) := e.1
        have e2 : RepL K Z ads H (p.2 :: kvs.map (·.2)) (q.2 :: c.map (·.2)) := e.2
        injection e1 with e3 e4
        cases e2 with
        | cons g1 g2 =>
          obtain ⟨i1, i2⟩ := ih c ⟨e4, g2⟩
          by_cases hk : p.1 = k
          · have hk' : q.1 = k := e3 ▸ hk
            simp only [List.map_cons, hk, hk', if_true]
            exact ⟨by simp only [List.map_cons, i1], .cons r i2⟩
          · have hk' : ¬ q.1 = k := fun z => hk (e3.trans z)
            simp only [List.map_cons, hk, hk', if_false]
            exact ⟨by simp only [List.map_cons, i1, e3], .cons g1 i2⟩
  unfold putK putC
  rw [any kvs c h.1]
  split
  · exact map kvs c h
  · refine ⟨?_, ?_⟩
    · rw [List.map_append, List.map_append, h.1]
      rfl
    · rw [List.map_append, List.map_append]
      exact h.2.append (.cons r .nil)
theorem daug_go {o k e : E} {op : Operator} {ρ : Env} {μ : Cells} {r : Res} (he : exec F W (.daug o k op e) ρ μ = some r) : ∃ m μ1 y μ2 q c i j μ3 c3, ev F o ρ μ = some (.cell m, μ1) ∧ ev F k ρ μ1 = some (y, μ2) ∧ keyD y = some q ∧ μ2[m]? = some c ∧ valC c q = some (.int i) ∧
    ev F e ρ μ2 = some (.int j, μ3) ∧ μ3[m]? = some c3 ∧ c3.length < sizeLine ∧ opAS op = true ∧ r = .nx ρ (μ3.set m (putC c3 q (.int (augF op i j)))) := by
  unfold exec at he
  obtain ⟨x, μ1, e1, he⟩ := andThen_some he
  obtain ⟨y, μ2, e2, he⟩ := andThen_some he
  cases x with
  | cell m =>
    cases hq : keyD y with
    | none => simp only [hq] at he; cases he
    | some q =>
      simp only [hq] at he
      cases hc : μ2[m]? with
      | none => simp only [hc, Option.bind_none] at he; cases he
      | some c =>
        simp only [hc, Option.bind_some] at he
        cases hv : valC c q with
        | none => simp only [hv] at he; cases he
        | some old =>
          simp only [hv] at he
          cases old with
          | int i =>
            obtain ⟨z, μ3, e3, he⟩ := andThen_some he
            split at he
            · split at he
              · rename_i hl
                cases he
                exact ⟨m, μ1, y, μ2, q, c, i, _, μ3, _, e1, e2, hq, hc, hv, e3, by assumption, hl, rfl, rfl⟩
              · cases he
            · split at he
              · rename_i hl
                cases he
                exact ⟨m, μ1, y, μ2, q, c, i, _, μ3, _, e1, e2, hq, hc, hv, e3, by assumption, hl, rfl, rfl⟩
              · cases he
            · cases he
          | _ => cases he
  | _ => cases he
theorem s_daug (G : GS N fs F n sc X) {o k e : E} {op : Operator} {a b v : Expr} {p2 pos : Pos} (hs : notSlice b = true) (ho : chkE N fs o sc a = true) (hk : chkE N fs k sc b = true) (hv : chkE N fs e sc v = true) : PS X (.AugAssign (.Subscript a b p2) op v pos) (tX X.K (exec F W (.daug o k op e))) := by
  have read : ∀ (rd : V → V → Hp → VK → Prop), (∀ i j H Q, opAS op = true → Q (.int (augF op i j)) H → rd (.int i) (.int j) H Q) → ∀ (Dn : Ends) (σ : L2.St) (H : Hp), tX X.K (exec F W (.daug o k op e)) Dn σ H → sDAug (tE X.K F o) (tE X.K F k) (tE X.K F e) rd Dn σ H := by
    intro rd hrd Dn σ H ⟨B, ads, ρ, μ, r, f, he, q⟩
    obtain ⟨m, μ1, y, μ2, qk, c, i, j, μ3, c3, e1, e2, e3, e4, e5, e6, e7, e8, e9, rfl⟩ := daug_go he
    refine ⟨_, ads, ρ, μ, _, μ1, f.hold, e1, fun v H1 ads1 x1 h1 r1 => ⟨_, ads1, ρ, μ1, y, μ2, h1, e2, fun w H2 ads2 x2 h2 r2 => ?_⟩⟩
    obtain ⟨ad, ev, ha⟩ := (r1.ext h1.c x2).cell
    obtain ⟨kvs, kds, k1, k2, k3⟩ := h2.c.at m ad ha
    rw [e4] at k1
    cases k1
    obtain ⟨old, k4, k5⟩ := valC_rep k3 e5
    have eo : old = .int i := by cases k5; rfl
    subst eo
    have ew := keyD_V r2 e3
    subst ew
    refine ⟨ad, .int i, ev, by rw [← k4]; exact DGet.k k2, _, ads2, ρ, μ2, _, μ3, h2, e6, fun u H3 ads3 x3 h3 r3 => ?_⟩
    have eu := r3.int
    subst eu
    have ha3 := x3.pre m ad ha
    obtain ⟨kvs3, kds3, m1, m2, m3⟩ := h3.c.at m ad ha3
    rw [e7] at m1
    cases m1
    have hlen : kvs3.length = c3.length := by
      have := congrArg List.length m3.1
      rw [List.length_map, List.length_map] at this
      exact this
    refine hrd i j H3 _ e9 ⟨_, DPut.k m2 (by rw [hlen]; exact e8), ?_⟩
    exact q σ _ ads3 ((f.step ((x1.trans x2).trans x3) h3).cell ha3 (putC_rep (.int _) m3))
  cases op with
  | Add => exact PS.imp (ps_daug (hu_of G.g.room) (sE o sc a X G.g ho).v (sE k sc b X G.g hk).v (sE e sc v X G.g hv).v in_add (augStore_of hs)) (read _ fun i j H Q _ q => ⟨i, j, rfl, rfl, q⟩)
  | Sub => exact PS.imp (ps_daug (hu_of G.g.room) (sE o sc a X G.g ho).v (sE k sc b X G.g hk).v (sE e sc v X G.g hv).v in_sub (augStore_of hs)) (read _ fun i j H Q _ q => ⟨i, j, rfl, rfl, q⟩)
  | _ => exact ⟨fun pins s σ H Dn I h => by
      exfalso
      obtain ⟨B, ads, ρ, μ, r, f, he, q⟩ := h
      obtain ⟨m, μ1, y, μ2, qk, c, i, j, μ3, c3, e1, e2, e3, e4, e5, e6, e7, e8, e9, _⟩ := daug_go he
      cases e9⟩
theorem s_ret (G : GS N fs F n sc X) {e : E} {v : Expr} {pos : Pos} (hv : chkE N fs e sc v = true) : PS X (.Return (some v) pos) (tX X.K (exec F W (.ret e))) := by
  refine PS.imp (ps_ret (sE e sc v X G.g hv).v) fun Dn σ H ⟨B, ads, ρ, μ, r, f, he, q⟩ => ?_
  unfold exec at he
  split at he
  · cases he
  · rename_i hl
    obtain ⟨d, μ1, e1, he⟩ := andThen_some he
    cases he
    refine ⟨_, ads, ρ, μ, d, μ1, f.hold, e1, fun v H1 ads1 x1 h1 r1 => ?_⟩
    have hl' : lk ρ e = false := by simpa using hl
    rw [hl'] at r1
    have anti : ∀ b, B.own0 b → ownF B.own0 σ ρ b := fun b z => .inl z
    exact q v H1 ads1 (f.ext.trans x1) (h1.c.anti anti) (Rep.stay (antiOwn (K := X.K) anti) _ _ r1.plain)
theorem s_ifs (G : GS N fs F n sc X) {c : E} {a b : Ss} {x : Expr} {ys zs : List Stmt} {pos : Pos} (hc : chkE N fs c sc x = true) (ha : PSs X ys (tX X.K (execs F W a))) (hb : PSs X zs (tX X.K (execs F W b))) : PS X (.If x ys zs pos) (tX X.K (exec F W (.ifs c a b))) := by
  refine PS.imp (ps_if (sE c sc x X G.g hc).t ha hb) fun Dn σ H ⟨B, ads, ρ, μ, r, f, he, q⟩ => ?_
  unfold exec at he
  obtain ⟨k, μ1, e1, he⟩ := onBl_some he
  refine ⟨_, ads, ρ, μ, k, μ1, f.hold, e1, fun H1 ads1 x1 h1 => ?_⟩
  cases k with
  | true => exact ⟨B, ads1, ρ, μ1, r, f.step x1 h1, he, q⟩
  | false => exact ⟨B, ads1, ρ, μ1, r, f.step x1 h1, he, q⟩
theorem passes (G : GS N fs F n sc X) : PassesOwn (model X.prog X.w) X.A X.env X.xe := by
  rw [G.g.nox]
  exact PassesOwn.never
theorem s_whl (G : GS N fs F n sc X) {c : E} {b : Ss} {x : Expr} {ys : List Stmt} {pos : Pos} (hc : chkE N fs c sc x = true) (hb : PSs X ys (tX X.K (execs F W b))) : PS X (.While x ys [] pos) (tX X.K (exec F W (.whl c b))) := by
  refine PS.imp (ps_while (passes G) (sE c sc x X G.g hc).t hb) fun Dn σ H ⟨B, ads, ρ, μ, r, f, he, q⟩ => ?_
  unfold exec at he
  refine ⟨fun m σ H => ∃ ads ρ μ, FI X.K B ads H σ ρ μ ∧ whileF (fun ρ' μ' => onBl (ev F c ρ' μ') fun x μ1 => some (x, μ1)) (fun ρ' μ' => execs F W b ρ' μ') m ρ μ = some r, ⟨W, ads, ρ, μ, f, he⟩, ?_⟩
  clear f he
  rintro m σ H ⟨ads, ρ, μ, f, he⟩
  cases m with
  | zero => cases he
  | succ m =>
    unfold whileF at he
    split at he
    · cases he
    · rename_i μ1 hc1
      cases he
      obtain ⟨k, μ2, e1, e2⟩ := onBl_some hc1
      cases e2
      refine ⟨_, ads, ρ, μ, false, _, f.hold, e1, fun H1 ads1 x1 h1 => ?_⟩
      exact q σ H1 ads1 (f.step x1 h1)
    · rename_i μ1 hc1
      obtain ⟨k, μ2, e1, e2⟩ := onBl_some hc1
      cases e2
      refine ⟨_, ads, ρ, μ, true, _, f.hold, e1, fun H1 ads1 x1 h1 => ?_⟩
      refine ⟨fun σ H => ∃ ads ρ μ, FI X.K B ads H σ ρ μ ∧ whileF (fun ρ' μ' => onBl (ev F c ρ' μ') fun x μ1 => some (x, μ1)) (fun ρ' μ' => execs F W b ρ' μ') m ρ μ = some r, fun σ' H' z => ⟨m, Nat.lt_succ_self m, z⟩, ?_⟩
      split at he
      · cases he
      · rename_i ρ2 μ2 hb2
        exact ⟨B, ads1, ρ, _, _, f.step x1 h1, hb2, fun σ' H' ads' f' => ⟨ads', _, _, f', he⟩⟩
      · rename_i ρ2 μ2 hb2
        exact ⟨B, ads1, ρ, _, _, f.step x1 h1, hb2, fun σ' H' ads' f' => ⟨ads', _, _, f', he⟩⟩
      · rename_i ρ2 μ2 hb2
        cases he
        exact ⟨B, ads1, ρ, _, _, f.step x1 h1, hb2, fun σ' H' ads' f' => q σ' H' ads' f'⟩
      · rename_i d μ2 hb2
        cases he
        exact ⟨B, ads1, ρ, _, _, f.step x1 h1, hb2, q⟩
theorem s_for (G : GS N fs F n sc X) {tg : Tg} {it : It} {b : Ss} {t i : Expr} {ys : List Stmt} {pos : Pos} (ht : chkTg N sc tg t = true) (hi : chkIt N fs it sc i = true) (hs : notSet i = true) (hb : PSs X ys (tX X.K (execs F W b))) : PS X (.For t i ys [] pos) (tX X.K (exec F W (.for_ tg it b))) := by
  refine PS.imp (ps_for (passes G) G.g.calm (sIt it sc i X t G.g hi) (s_tg G.g ht) hb (folded_of hs _)) fun Dn σ H ⟨B, ads, ρ, μ, r, f, he, q⟩ => ?_
  unfold exec at he
  obtain ⟨xs, μ1, e1, he⟩ := andThen_some he
  split at he
  · cases he
  · rename_i hl
    have hl' : it.lk ρ = false := by simpa using hl
    refine ⟨_, ads, ρ, μ, xs, μ1, f.hold, e1, fun J H1 ads1 x1 h1 w1 => ?_⟩
    rw [hl'] at w1
    have f1 := f.step x1 h1
    let B' : Base := { B with pn := fun b o => H1 b = some o ∧ ¬ Zo (ownF B.own0 σ ρ) ads1 b, pa := ads1 }
    have f' : FI X.K B' ads1 H1 σ ρ μ1 := ⟨f1.hold, f1.ext, f1.dist, f1.new, f1.own0T, fun b o z => z, fun k a z => z⟩
    have unpin : ∀ {ads' H' σ' ρ' μ'}, FI X.K B' ads' H' σ' ρ' μ' → FI X.K B ads' H' σ' ρ' μ' := fun {ads' H' σ' ρ' μ'} g => ⟨g.hold, g.ext, g.dist, g.new, g.own0T, fun b o z => g.pin b o (f1.pin b o z), fun k a z => g.pre k a (f1.pre k a z)⟩
    refine ⟨fun i m σ' H' => m = xs.length - i ∧ i ≤ xs.length ∧ ∃ ads' ρ' μ', FI X.K B' ads' H' σ' ρ' μ' ∧ forF tg (fun ρ' μ' => execs F W b ρ' μ') (xs.drop i) ρ' μ' = some r, ⟨xs.length, by simp, Nat.zero_le _, ads1, ρ, μ1, f', he⟩, ?_⟩
    rintro i m σ' H' ⟨rfl, hi, ads', ρ', μ', g, hgo⟩
    have st : Stay (Zo (ownF B.own0 σ ρ) ads1) (Zo (ownF B.own0 σ' ρ') ads') ads1 ads' H1 H' := ⟨fun b o z1 z2 => (g.pin b o ⟨z1, z2⟩).1, fun b o z1 z2 => (g.pin b o ⟨z1, z2⟩).2, g.pre⟩
    have w' : WalksR X.K (ownF B.own0 σ' ρ') (ownF B.own0 σ' ρ') ads' H' J xs false := by
      rcases w1 with ⟨a, vs, g1, g2, g3⟩ | ⟨hb, _⟩ | ⟨a, vs, g1, g2, g3⟩ | g1
      · exact .inl ⟨a, vs, g1, g2.stay st, RepL.stay st _ _ g3⟩
      · cases hb
      · exact .inr (.inr (.inl ⟨a, vs, g1, g2.stay st, RepL.stay st _ _ g3⟩))
      · exact .inr (.inr (.inr g1))
    obtain ⟨t1, t2⟩ := w'.turn i
    by_cases hlt : i < xs.length
    · have hd : xs[i]? = some xs[i] := by simp [hlt]
      obtain ⟨go, yl⟩ := t2 _ hd
      have hdrop : xs.drop i = xs[i] :: xs.drop (i + 1) := by rw [List.drop_eq_getElem_cons hlt]
      rw [hdrop] at hgo
      unfold forF at hgo
      refine .inr ⟨go, fun σ' H' => ∃ ads' ρ' μ', FI X.K B' ads' H' σ' ρ' μ' ∧ forF tg (fun ρ' μ' => execs F W b ρ' μ') (xs.drop (i + 1)) ρ' μ' = some r, fun σ2 H2 z => ⟨xs.length - (i + 1), by omega, rfl, hlt, z⟩, fun x H2 y => ?_⟩
      obtain ⟨e3, r3⟩ := yl x H2 y
      subst e3
      split at hgo
      · cases hgo
      · rename_i ρ1 hb1
        refine g.tg r3 hb1 fun σ1 g1 => ?_
        split at hgo
        · cases hgo
        · rename_i ρ2 μ2 hb2
          exact ⟨B', ads', ρ1, μ', _, g1, hb2, fun σ2 H2 ads2 g2 => ⟨ads2, _, _, g2, hgo⟩⟩
        · rename_i ρ2 μ2 hb2
          exact ⟨B', ads', ρ1, μ', _, g1, hb2, fun σ2 H2 ads2 g2 => ⟨ads2, _, _, g2, hgo⟩⟩
        · rename_i ρ2 μ2 hb2
          cases hgo
          exact ⟨B', ads', ρ1, μ', _, g1, hb2, fun σ2 H2 ads2 g2 => q σ2 H2 ads2 (unpin g2)⟩
        · rename_i d μ2 hb2
          cases hgo
          exact ⟨B', ads', ρ1, μ', _, g1, hb2, q⟩
    · have e3 : i = xs.length := by omega
      subst e3
      rw [List.drop_length] at hgo
      unfold forF at hgo
      cases hgo
      exact .inl ⟨t1 (Nat.le_refl _), q σ' H' ads' (unpin g)⟩
theorem s_expr (G : GS N fs F n sc X) {e : E} {v : Expr} {pos : Pos} (hc : isComp v = false) (hv : chkE N fs e sc v = true) : PS X (.Expr v pos) (tX X.K (exec F W (.expr e))) := by
  refine PS.imp (ps_expr (sE e sc v X G.g hv).v (sw_plain hc _ _ _)) fun Dn σ H ⟨B, ads, ρ, μ, r, f, he, q⟩ => ?_
  unfold exec at he
  obtain ⟨d, μ1, e1, he⟩ := andThen_some he
  cases he
  exact ⟨_, ads, ρ, μ, d, μ1, f.hold, e1, fun v H1 ads1 x1 h1 r1 => q σ H1 ads1 (f.step x1 h1)⟩
theorem s_pass {pos : Pos} : PS X (.Pass pos) (tX X.K (exec F W .pass)) := PS.imp ps_pass fun Dn σ H ⟨B, ads, ρ, μ, r, f, he, q⟩ => by
  cases he
  exact q σ H ads f
theorem s_brk {pos : Pos} : PS X (.Break pos) (tX X.K (exec F W .brk)) := PS.imp ps_break fun Dn σ H ⟨B, ads, ρ, μ, r, f, he, q⟩ => by
  cases he
  exact q σ H ads f
theorem s_cont {pos : Pos} : PS X (.Continue pos) (tX X.K (exec F W .cont)) := PS.imp ps_continue fun Dn σ H ⟨B, ads, ρ, μ, r, f, he, q⟩ => by
  cases he
  exact q σ H ads f
end
end FM

set_option Elab.async false
set_option linter.all false
set_option maxRecDepth 100000
set_option maxHeartbeats 4000000
/-! Ev15: all statements; defs; the whole program; the law. -/
namespace FM
open PySem PySem.Spec PyProof.Rows L2
/-! ### how arguments bind -/
theorem zip_look : ∀ {ps : List Str} {us : List Value}, us.length = ps.length → ∀ n ∈ ps, ((ps.zip us).lookup n).isNone = false
  | [], _, _, n, h => nomatch h
  | p :: ps, [], e, _, _ => by cases e
  | p :: ps, u :: us, e, n, h => by
    rw [List.zip_cons_cons, List.lookup_cons]
    cases hn : n == p with
    | true => rfl
    | false =>
      have : n ∈ ps := by
        rcases List.mem_cons.mp h with q | q
        · subst q; simp at hn
        · exact q
      exact zip_look (by simpa using e) n this
theorem filterMap_same {α β : Type} {f g : α → Option β} : ∀ {l : List α}, (∀ m ∈ l, f m = g m) → l.filterMap f = l.filterMap g
  | [], _ => rfl
  | a :: l, h => by
    rw [List.filterMap_cons, List.filterMap_cons, h a List.mem_cons_self, filterMap_same fun m hm => h m (List.mem_cons_of_mem _ hm)]
theorem zip_find : ∀ {ps : List Str} {us : List Value}, ps.Nodup → us.length = ps.length → (ps.filterMap fun n => ((ps.zip us).lookup n).map (n, ·)) = ps.zip us
  | [], [], _, _ => rfl
  | [], _ :: _, _, e => by cases e
  | _ :: _, [], _, e => by cases e
  | p :: ps, u :: us, nd, e => by
    have n := List.nodup_cons.mp nd
    have ih := zip_find (ps := ps) (us := us) n.2 (by simpa using e)
    have z : (ps.filterMap fun n => (((p, u) :: ps.zip us).lookup n).map (n, ·)) = ps.filterMap fun n => ((ps.zip us).lookup n).map (n, ·) := filterMap_same fun m hm => by
      have ne : (m == p) = false := by
        rw [beq_eq_false_iff_ne]
        rintro rfl
        exact n.1 hm
      rw [List.lookup_cons, ne]
    rw [List.zip_cons_cons, List.filterMap_cons]
    simp only [List.lookup_cons, beq_self_eq_true, Option.map_some]
    congr 1
    exact z.trans ih
theorem binds_gen {x qual : Str} {body : List Stmt} {scope : Scope} {kV doc pm cdv ct : Value} {an : Option Addr} (as : List Arg) (us : List Value) (nd : (as.map (·.arg)).Nodup) (hl : us.length = (as.map (·.arg)).length) :
  bindArgs (PySem.W.fnOf x qual { posonlyargs := [], args := as, vararg := none, kwonlyargs := [], kw_defaults := [], kwarg := none, defaults := [] } body scope .none kV doc pm an cdv ct) ⟨us, []⟩ = pure ((as.map (·.arg)).zip us) := by
  have hf : ((as.map (·.arg)).filter fun n => (((as.map (·.arg)).zip us).lookup n).isNone) = [] := by
    rw [List.filter_eq_nil_iff]
    intro n hn
    rw [zip_look hl n hn]
    exact Bool.false_ne_true
  have hz := zip_find nd hl
  generalize hps : as.map (·.arg) = ps at *
  have h1 : decide (us.length > ps.length) = false := by rw [decide_eq_false_iff_not]; omega
  unfold bindArgs
  simp only [hps, List.map_nil, List.nil_append, List.forIn_nil, pure_bind, seqItems?, notAStandIn, h1, Bool.false_and, Bool.false_eq_true, if_false, Option.getD_none, List.length_nil, Nat.zero_sub, List.drop_nil, Nat.sub_zero, List.take_length, hf, List.isEmpty_nil, Bool.not_true, List.drop_length, List.zip_nil_left, List.append_nil, hz]

section
variable {N fs : List Str} {F : Fs} {n : Nat} {sc : Scope} {X : Cx} {W : Nat}
/-! ### all statements -/
theorem swap_none (G : GS N fs F n sc X) {ts : List Expr} {k : Nat} {p : Pos} {v : Expr} (h : swapOk sc ts v = true) : swappedStores [.Tuple ts k p] v X.env = pure none := by
  cases v with
  | Tuple vs k2 p2 => exact swapC_ok G.hsc G.block (of_decide_eq_true h)
  | _ => rfl
theorem parOk_ok {i j : Nat} {t v : Expr} (h : parOk N sc i j t v = true) : ∃ x px y py kt pt va vb k2 pt2, t = .Tuple [.Name x px, .Name y py] kt pt ∧ v = .Tuple [va, vb] k2 pt2 ∧ swapC sc [.Name x px, .Name y py] [va, vb] = some (some [x, y]) ∧ N[i]? = some x ∧ N[j]? = some y ∧
    sc.names.lookup x = some .local ∧ sc.names.lookup y = some .local ∧ notStar va = true ∧ notStar vb = true ∧ i ≠ j := by
  unfold parOk at h
  split at h
  · simp only [Bool.and_eq_true, decide_eq_true_eq] at h
    obtain ⟨⟨⟨⟨⟨⟨⟨h1, h2⟩, h3⟩, h4⟩, h5⟩, h6⟩, h7⟩, h8⟩ := h
    exact ⟨_, _, _, _, _, _, _, _, _, _, rfl, rfl, h1, h2, h3, h4, h5, h6, h7, h8⟩
  · cases h
theorem s_par (G : GS N fs F n sc X) {i j : Nat} {a b : E} {x y : Str} {px py pt pt2 pos : Pos} {kt k2 : Nat} {va vb : Expr} (hw : swapC sc [.Name x px, .Name y py] [va, vb] = some (some [x, y])) (hi : N[i]? = some x) (hj : N[j]? = some y)
    (hx : sc.names.lookup x = some .local) (hy : sc.names.lookup y = some .local) (n1 : notStar va = true) (n2 : notStar vb = true) (hij : i ≠ j) (ha : Both X F va a) (hb : Both X F vb b) : PS X (.Assign [.Tuple [.Name x px, .Name y py] kt pt] (.Tuple [va, vb] k2 pt2) pos) (tX X.K (exec F W (.par i j a b))) := by
  have core := ps_par (X := X) (pos := pos) (px := px) (py := py) (pt := pt) (pt2 := pt2) (kt := kt) (k2 := k2) G.g.calm (by rw [G.g.hN]; exact G.g.nd) (by rw [G.g.hN]; exact hi) (by rw [G.g.hN]; exact hj) hij (by rw [G.hsc]; exact hx) (by rw [G.hsc]; exact hy)
    (pa_cons ha.v (pa_cons hb.v pa_nil (starEach_cons n2 _ _)) (starEach_cons n1 _ _)) (swapC_ok G.hsc G.block hw) rfl
  refine PS.imp core fun Dn σ H ⟨B, ads, ρ, μ, r, f, he, q⟩ => ?_
  unfold exec at he
  split at he
  · cases he
  · rename_i hl
    obtain ⟨d1, μ1, e1, he⟩ := andThen_some he
    obtain ⟨d2, μ2, e2, he⟩ := andThen_some he
    cases he
    simp only [Bool.or_eq_true, not_or, Bool.not_eq_true] at hl
    refine ⟨_, ads, ρ, μ, d1, μ1, f.hold, e1, fun v H1 ads1 x1 h1 r1 => ⟨_, ads1, ρ, μ1, d2, _, h1, e2, fun w H2 ads2 x2 h2 r2 => ⟨v, w, rfl, ?_⟩⟩⟩
    have r1' := r1.ext h1.c x2
    rw [hl.1.1.1.1] at r1'
    rw [hl.1.1.1.2] at r2
    have f2 := f.step (x1.trans x2) h2
    have f3 := f2.setPl (i := i) r1'.plain
    exact q _ H2 ads2 (f3.setPl (Rep.stay (antiOwn (K := X.K) fun b h => ownF_set h) _ _ r2.plain))
theorem frz_go {i : Nat} {ss : Ss} {ρ : Env} {μ : Cells} {r : Res} (he : execs F W (.cons (.frz i) ss) ρ μ = some r) : ∃ ds, ρ[i]? = some (some (Sl.ow ds)) ∧ execs F W ss (ρ.set i (some (.pl (.lst ds)))) μ = some r := by
  unfold execs exec at he
  cases h : ρ[i]? with
  | none => simp only [h] at he; cases he
  | some o =>
    cases o with
    | none => simp only [h] at he; cases he
    | some s =>
      cases s with
      | pl d => simp only [h] at he; cases he
      | ow ds =>
        simp only [h] at he
        exact ⟨ds, rfl, he⟩
theorem cons_go {s : S} {ss : Ss} {ρ : Env} {μ : Cells} {r : Res} (he : execs F W (.cons s ss) ρ μ = some r) : ∃ r1, exec F W s ρ μ = some r1 ∧ ((∃ ρ1 μ1, r1 = .nx ρ1 μ1 ∧ execs F W ss ρ1 μ1 = some r) ∨ ((∀ ρ1 μ1, r1 ≠ .nx ρ1 μ1) ∧ r = r1)) := by
  unfold execs at he
  cases h : exec F W s ρ μ with
  | none => rw [h] at he; cases he
  | some r1 =>
    rw [h] at he
    refine ⟨r1, rfl, ?_⟩
    cases r1 with
    | nx ρ1 μ1 => exact .inl ⟨ρ1, μ1, rfl, he⟩
    | bk ρ1 μ1 => cases he; exact .inr ⟨fun _ _ e => (by cases e), rfl⟩
    | ct ρ1 μ1 => cases he; exact .inr ⟨fun _ _ e => (by cases e), rfl⟩
    | rt d μ1 => cases he; exact .inr ⟨fun _ _ e => (by cases e), rfl⟩
theorem chkSs_cons {s : S} {ss : Ss} {sts : List Stmt} (hs : ∀ i, s ≠ .frz i) (h : chkSs N fs sc (.cons s ss) sts = true) : ∃ x xs, sts = x :: xs ∧ chkS N fs sc s x = true ∧ chkSs N fs sc ss xs = true := by
  cases sts with
  | nil =>
    exfalso
    cases s <;> first | exact absurd h Bool.false_ne_true | exact hs _ rfl
  | cons x xs =>
    have h' : (chkS N fs sc s x && chkSs N fs sc ss xs) = true := by
      cases s <;> first | exact h | exact absurd rfl (hs _)
    obtain ⟨h1, h2⟩ := and2 h'
    exact ⟨x, xs, rfl, h1, h2⟩
mutual
theorem sS : ∀ (s : S) (st : Stmt), GS N fs F n sc X → chkS N fs sc s st = true → PS X st (tX X.K (exec F W s))
  | .asg i e, st, G, h => by
    cases st with
    | Assign ts v pos =>
      match ts, h with
      | [t], h =>
        cases t with
        | Name x px =>
          obtain ⟨h1, h2, h3⟩ := and3 (show (decide (N[i]? = some x) && locB sc x && chkE N fs e sc v && asgOk sc x px v) = true from h)
          obtain ⟨h4, h5⟩ := and2 h1
          exact s_asg G (of_decide_eq_true h4) h5 h2 h3
        | _ => exact absurd h Bool.false_ne_true
      | [], h => exact absurd h Bool.false_ne_true
      | t :: _ :: _, h => cases t <;> exact absurd h Bool.false_ne_true
    | _ => exact absurd h Bool.false_ne_true
  | .own i, st, G, h => by
    cases st with
    | Assign ts v pos =>
      match ts, h with
      | [t], h =>
        cases t with
        | Name x px =>
          cases v with
          | List es p2 =>
            cases es with
            | nil =>
              obtain ⟨h4, h5⟩ := and2 (show (decide (N[i]? = some x) && locB sc x) = true from h)
              exact s_own G (of_decide_eq_true h4) h5
            | cons _ _ => exact absurd h Bool.false_ne_true
          | _ => exact absurd h Bool.false_ne_true
        | _ => exact absurd h Bool.false_ne_true
      | [], h => exact absurd h Bool.false_ne_true
      | t :: _ :: _, h => cases t <;> exact absurd h Bool.false_ne_true
    | _ => exact absurd h Bool.false_ne_true
  | .asgT is e, st, G, h => by
    cases st with
    | Assign ts v pos =>
      match ts, h with
      | [t], h =>
        cases t with
        | Tuple es k p =>
          obtain ⟨h1, h2, h3⟩ := and3 (show (chkTs N sc is es && !isComp v && chkE N fs e sc v && swapOk sc es v) = true from h)
          obtain ⟨h4, h5⟩ := and2 h1
          exact s_asgT G h4 (by simpa using h5) h2 (swap_none G h3)
        | _ => exact absurd h Bool.false_ne_true
      | [], h => exact absurd h Bool.false_ne_true
      | t :: _ :: _, h => cases t <;> exact absurd h Bool.false_ne_true
    | _ => exact absurd h Bool.false_ne_true
  | .par i j a b, st, G, h => by
    cases st with
    | Assign ts v pos =>
      match ts, h with
      | [t], h =>
        have h0 : (parOk N sc i j t v && pairB (chkE N fs a sc) (chkE N fs b sc) v) = true := h
        obtain ⟨h1, h2⟩ := and2 h0
        obtain ⟨x, px, y, py, kt, pt, va, vb, k2, pt2, e1, e2, g1, g2, g3, g4, g5, g6, g7, g8⟩ := parOk_ok h1
        subst e1 e2
        obtain ⟨h3, h4⟩ := and2 (show (chkE N fs a sc va && chkE N fs b sc vb) = true from h2)
        exact s_par G g1 g2 g3 g4 g5 g6 g7 g8 (sE a sc va X G.g h3) (sE b sc vb X G.g h4)
      | [], h => exact absurd h Bool.false_ne_true
      | t :: _ :: _, h => cases t <;> exact absurd h Bool.false_ne_true
    | _ => exact absurd h Bool.false_ne_true
  | .aug i o e, st, G, h => by
    cases st with
    | AugAssign t o' v pos =>
      cases t with
      | Name x px =>
        obtain ⟨h1, h2, h3⟩ := and3 (show (decide (o = o') && opAS o && decide (N[i]? = some x) && locB sc x && chkE N fs e sc v) = true from h)
        obtain ⟨h4, h5, h6⟩ := and3 h1
        have e1 : o = o' := of_decide_eq_true h4
        subst e1
        exact s_aug G (of_decide_eq_true h6) h2 h5 h3
      | _ => exact absurd h Bool.false_ne_true
    | _ => exact absurd h Bool.false_ne_true
  | .app i e, st, G, h => by
    cases st with
    | Expr v pos =>
      cases v with
      | Call f as ks cpos =>
        cases f with
        | Attribute b g apos =>
          cases b with
          | Name x px =>
            match as, ks, h with
            | [v], [], h =>
              obtain ⟨h1, h2, h3⟩ := and3 (show (decide (g = "append") && nameIs N sc i x && (apos.endLine == cpos.line) && notStar v && chkE N fs e sc v) = true from h)
              obtain ⟨h4, h5, h6⟩ := and3 h1
              have e1 : g = "append" := of_decide_eq_true h4
              subst e1
              exact s_app G h5 h6 h2 h3
            | [], _, h => exact absurd h Bool.false_ne_true
            | [_], _ :: _, h => exact absurd h Bool.false_ne_true
            | _ :: _ :: _, _, h => exact absurd h Bool.false_ne_true
          | _ => exact absurd h Bool.false_ne_true
        | _ => exact absurd h Bool.false_ne_true
      | _ => exact absurd h Bool.false_ne_true
    | _ => exact absurd h Bool.false_ne_true
  | .daug o k op e, st, G, h => by
    cases st with
    | AugAssign t o' v pos =>
      cases t with
      | Subscript a b p2 =>
        obtain ⟨h1, h2, h3⟩ := and3 (show (decide (op = o') && opAS op && notSlice b && chkE N fs o sc a && chkE N fs k sc b && chkE N fs e sc v) = true from h)
        obtain ⟨h4, h5, h6⟩ := and3 h1
        obtain ⟨h7, h8⟩ := and2 h4
        have e1 : op = o' := of_decide_eq_true h7
        subst e1
        exact s_daug G h5 h6 h2 h3
      | _ => exact absurd h Bool.false_ne_true
    | _ => exact absurd h Bool.false_ne_true
  | .ret e, st, G, h => by
    cases st with
    | Return v pos =>
      cases v with
      | none => exact absurd h Bool.false_ne_true
      | some v => exact s_ret G h
    | _ => exact absurd h Bool.false_ne_true
  | .ifs c a b, st, G, h => by
    cases st with
    | If x ys zs pos =>
      obtain ⟨h1, h2, h3⟩ := and3 (show (chkE N fs c sc x && chkSs N fs sc a ys && chkSs N fs sc b zs) = true from h)
      exact s_ifs G h1 (sSs a ys G h2) (sSs b zs G h3)
    | _ => exact absurd h Bool.false_ne_true
  | .whl c b, st, G, h => by
    cases st with
    | While x ys zs pos =>
      cases zs with
      | nil =>
        obtain ⟨h1, h2⟩ := and2 (show (chkE N fs c sc x && chkSs N fs sc b ys) = true from h)
        exact s_whl G h1 (sSs b ys G h2)
      | cons _ _ => exact absurd h Bool.false_ne_true
    | _ => exact absurd h Bool.false_ne_true
  | .for_ tg it b, st, G, h => by
    cases st with
    | For t i ys zs pos =>
      cases zs with
      | nil =>
        obtain ⟨h1, h2, h3⟩ := and3 (show (chkTg N sc tg t && chkIt N fs it sc i && notSet i && chkSs N fs sc b ys) = true from h)
        obtain ⟨h4, h5⟩ := and2 h1
        exact s_for G h4 h5 h2 (sSs b ys G h3)
      | cons _ _ => exact absurd h Bool.false_ne_true
    | _ => exact absurd h Bool.false_ne_true
  | .expr e, st, G, h => by
    cases st with
    | Expr v pos =>
      obtain ⟨h1, h2⟩ := and2 (show (!isComp v && chkE N fs e sc v) = true from h)
      exact s_expr G (by simpa using h1) h2
    | _ => exact absurd h Bool.false_ne_true
  | .pass, st, G, h => by
    cases st with
    | Pass pos => exact s_pass
    | _ => exact absurd h Bool.false_ne_true
  | .brk, st, G, h => by
    cases st with
    | Break pos => exact s_brk
    | _ => exact absurd h Bool.false_ne_true
  | .cont, st, G, h => by
    cases st with
    | Continue pos => exact s_cont
    | _ => exact absurd h Bool.false_ne_true
  | .frz i, st, G, h => absurd h Bool.false_ne_true
theorem sSs : ∀ (ss : Ss) (sts : List Stmt), GS N fs F n sc X → chkSs N fs sc ss sts = true → PSs X sts (tX X.K (execs F W ss))
  | .nil, [], G, h => PSs.imp pss_nil fun Dn σ H ⟨B, ads, ρ, μ, r, f, he, q⟩ => by
    cases he
    exact q σ H ads f
  | .nil, _ :: _, G, h => absurd h Bool.false_ne_true
  | .cons s ss, sts, G, h => by
    by_cases hs : ∃ i, s = .frz i
    · obtain ⟨i, rfl⟩ := hs
      refine PSs.imp (sSs ss sts G h) fun Dn σ H ⟨B, ads, ρ, μ, r, f, he, q⟩ => ?_
      obtain ⟨ds, hρ, he⟩ := frz_go he
      exact ⟨B, ads, _, μ, r, f.frz hρ, he, q⟩
    · obtain ⟨x, xs, rfl, h1, h2⟩ := chkSs_cons (fun i e => hs ⟨i, e⟩) h
      refine PSs.imp (pss_cons (sS s x G h1) (sSs ss xs G h2)) fun Dn σ H ⟨B, ads, ρ, μ, r, f, he, q⟩ => ?_
      obtain ⟨r1, e1, he⟩ := cons_go he
      rcases he with ⟨ρ1, μ1, rfl, he⟩ | ⟨hn, rfl⟩
      · exact ⟨B, ads, ρ, μ, _, f, e1, fun σ' H' ads' f' => ⟨B, ads', ρ1, μ1, r, f', he, q⟩⟩
      · refine ⟨B, ads, ρ, μ, r, f, e1, ?_⟩
        cases r with
        | nx ρ1 μ1 => exact absurd rfl (hn ρ1 μ1)
        | bk ρ1 μ1 => exact q
        | ct ρ1 μ1 => exact q
        | rt d μ1 => exact q
end
end
end FM

set_option Elab.async false
set_option linter.all false
set_option maxRecDepth 100000
set_option maxHeartbeats 4000000
/-! Ev16: defs, the whole program, the law. -/
namespace FM
open PySem PySem.Spec PyProof.Rows L2

/-! ### a def -/
/-- a def's text: its statement, its slots (parameters first), its parameters, its body in the little language -/
structure FD where
  name : Str
  st : Stmt
  N : List Str
  ps : List Str
  body : Ss
def FD.fn (d : FD) : Fn := ⟨d.ps.length, d.N.length, d.body⟩
def plainArgs : Arguments → List Str → Bool
  | ⟨[], as, none, [], [], none, []⟩, ps => decide (as.map (·.arg) = ps)
  | _, _ => false
def scopeOk (N ps : List Str) (sc : Scope) : Bool :=
  (match sc.kind with | .function => true | _ => false) && !sc.isCoroutine && !sc.isGenerator && decide N.Nodup && decide (N.take ps.length = ps) && (ps.all fun x => locB sc x) && (sc.names.all fun y => match y.2 with | .free => false | _ => true)
def FD.chk (fs : List Str) (d : FD) : Bool := scopeOk d.N d.ps (defScope d.st) && plainArgs (defArgs d.st) d.ps && chkSs d.N fs (defScope d.st) d.body (defBody d.st)
theorem scopeOk_ok {N ps : List Str} {sc : Scope} (h : scopeOk N ps sc = true) : FnScope N ps sc := by
  unfold scopeOk at h
  simp only [Bool.and_eq_true, decide_eq_true_eq, List.all_eq_true] at h
  obtain ⟨⟨⟨⟨⟨⟨h1, h2⟩, h3⟩, h4⟩, h5⟩, h6⟩, h7⟩ := h
  refine ⟨?_, by simpa using h2, by simpa using h3, h4, h5, fun x hx => ?_, fun y hy => ?_⟩
  · split at h1
    · assumption
    · cases h1
  · have z := h6 x hx
    unfold locB at z
    split at z
    · exact .inl (by assumption)
    · exact .inr (by assumption)
    · cases z
  · have z := h7 y hy
    intro e
    simp only [e] at z
    cases z
theorem plainArgs_ok {as : Arguments} {ps : List Str} (h : plainArgs as ps = true) : ∃ l, as = { posonlyargs := [], args := l, vararg := none, kwonlyargs := [], kw_defaults := [], kwarg := none, defaults := [] } ∧ l.map (·.arg) = ps := by
  unfold plainArgs at h
  split at h
  · exact ⟨_, rfl, of_decide_eq_true h⟩
  · cases h
section
variable {P : Program} {w : World} {K : PySem.W.Frag} {mg : Str → Option Value} {base : Heap} {fs : List Str} {W : Nat}
theorem env0_get {ds : List D} {m : Nat} {i : Nat} {s : Sl} (e : (ds.map (fun d => some (Sl.pl d)) ++ List.replicate m none)[i]? = some (some s)) : ∃ d, s = .pl d ∧ ds[i]? = some d := by
  by_cases hi : i < ds.length
  · rw [List.getElem?_append_left (by simpa using hi), List.getElem?_map] at e
    cases h : ds[i]? with
    | none => rw [h] at e; cases e
    | some d => rw [h] at e; cases e; exact ⟨d, rfl, rfl⟩
  · rw [List.getElem?_append_right (by simpa using hi), List.getElem?_replicate] at e
    split at e <;> cases e
theorem start_ok {d : FD} {own : Addr → Prop} {ads : List Addr} {H : Hp} {vs : List V} {ds : List D} {μ : Cells} (l : RepL K (Zo own ads) ads H vs ds) (c : CellsR K own ads H μ) (h1 : ds.length = d.fn.ar) (h2 : d.fn.ar ≤ d.fn.sl) :
    FI K ⟨own, ads, H, fun _ _ => False, []⟩ ads H (L2.start d.N vs) (ds.map (fun d => some (Sl.pl d)) ++ List.replicate (d.fn.sl - d.fn.ar) none) μ := by
  have no : ∀ (i : Nat) (es : List D), (ds.map (fun d => some (Sl.pl d)) ++ List.replicate (d.fn.sl - d.fn.ar) none)[i]? ≠ some (some (Sl.ow es)) := fun i es e => by
    obtain ⟨d, e1, _⟩ := env0_get e
    cases e1
  have fewer : ∀ b, ownF own (L2.start d.N vs) (ds.map (fun d => some (Sl.pl d)) ++ List.replicate (d.fn.sl - d.fn.ar) none) b → own b := fun b h => by
    rcases h with h | ⟨i, es, e, _⟩
    · exact h
    · exact absurd e (no i es)
  refine ⟨⟨fun i s e => ?_, c.anti fewer, ?_⟩, .refl, fun i j es gs b e _ _ _ => absurd e (no i es), fun i es b e _ => absurd e (no i es), fun b h => ?_, fun b o z => z.elim, fun k a e => by simp at e⟩
  · obtain ⟨dd, e1, e2⟩ := env0_get e
    subst e1
    obtain ⟨v, e3, e4⟩ := l.get e2
    refine ⟨v, ?_, Rep.stay (antiOwn (K := K) fewer) _ _ e4⟩
    unfold L2.start
    have hi := (List.getElem?_eq_some_iff.mp e3).1
    rw [List.getElem?_append_left (by simpa using hi), List.getElem?_map, e3]
    rfl
  · unfold L2.start
    rw [List.length_append, List.length_append, List.length_map, List.length_map, List.length_replicate, List.length_replicate, l.length, h1]
    rfl
  · obtain ⟨o, h1, _⟩ := c.ownT b h
    exact ⟨o, h1⟩
/-- a def keeps what the evaluator says of it -/
theorem fd_ok {d : FD} {F : Fs} {n : Nat} {f : Addr} {fd : FuncData} (hd : d.chk fs = true) (FDn : FunD K d.name d.name (defArgs d.st) (defBody d.st) (defScope d.st) [] [] f fd) (bn : ∀ x ∈ bnames, mg x = none)
    (hF : ∀ f g, fs[f]? = some g → FnH P w K mg base n g (F f)) : FnOk P w K mg base CX0 (n + 1) f fd d.ps (spF K d.ps.length (runFn F W d.fn)) := by
  unfold FD.chk at hd
  obtain ⟨h1, h2, h3⟩ := and3 hd
  have S := scopeOk_ok h1
  refine FDn.ok S (fun vs H Q E h => h.1) (fun cdv A outer s H vs Q E hr h => ?_)
  have G : GS d.N fs F n (defScope d.st) (cxOf CX0 P w K mg base d.N d.name (defScope d.st) f cdv A outer s H E).nox := by
    refine ⟨⟨rfl, S.nd, rfl, rfl, hr, fun x h => ?_, fun x h => ?_, fun x h => ?_, fun x h => h, bn, hF⟩, rfl, S.kind⟩
    · unfold visB at h
      split at h
      · exact .inl (by assumption)
      · exact .inr (.inl (by assumption))
      · exact .inr (.inr (by assumption))
      · cases h
    · unfold gloB at h
      split at h
      · assumption
      · cases h
    · unfold locB at h
      split at h
      · exact ⟨.inl (by assumption), .inl rfl⟩
      · exact ⟨.inr (by assumption), .inl rfl⟩
      · cases h
  refine ⟨_, PSs.nox (sSs (W := W) d.body (defBody d.st) G h3), ?_⟩
  obtain ⟨hl, own, ads, ds, μ, dd, μ', l, c, he, q⟩ := h
  unfold runFn at he
  split at he
  · rename_i hn
    split at he
    · rename_i dr μr hx
      cases he
      refine ⟨⟨own, ads, H, fun _ _ => False, []⟩, ads, _, μ, _, ?_, hx, ?_⟩
      · exact start_ok l c hn.1 hn.2
      · exact fun v H' ads' e c' r => q v H' ads' e c' (.inl r)
    · rename_i ρr μr hx
      cases he
      refine ⟨⟨own, ads, H, fun _ _ => False, []⟩, ads, _, μ, _, ?_, hx, ?_⟩
      · exact start_ok l c hn.1 hn.2
      · intro σ' H' ads' f'
        have anti : ∀ b, own b → ownF own σ' ρr b := fun b z => .inl z
        exact q .non H' ads' f'.ext (f'.hold.c.anti anti) (.inl .non)
    · cases he
  · cases he
/-! ### the whole program -/
/-- the defs by their numbers -/
def tabOf (l : List FD) : Nat → Option Fn := fun f => (l[f]?).map FD.fn
theorem bindsF {d : FD} {f : Addr} {fd : FuncData} (hd : d.chk fs = true) (FDn : FunD K d.name d.name (defArgs d.st) (defBody d.st) (defScope d.st) [] [] f fd) :
    (∀ (kV doc pm : Value) (an : Option Addr) (cdv ct : Value) (us : List Value), us.length = d.ps.length → bindArgs (PySem.W.fnOf d.name d.name (defArgs d.st) (defBody d.st) (defScope d.st) .none kV doc pm an cdv ct) ⟨us, []⟩ = pure (d.ps.zip us)) := by
  unfold FD.chk at hd
  obtain ⟨h1, h2, h3⟩ := and3 hd
  have S := scopeOk_ok h1
  obtain ⟨l, e1, e2⟩ := plainArgs_ok h2
  have nd : d.ps.Nodup := by rw [← S.pre]; exact S.nd.sublist (List.take_sublist _ _)
  intro kV doc pm an cdv ct us hl
  rw [e1]
  have z := binds_gen (x := d.name) (qual := d.name) (body := defBody d.st) (scope := defScope d.st) (kV := kV) (doc := doc) (pm := pm) (an := an) (cdv := cdv) (ct := ct) l us (by rw [e2]; exact nd) (by rw [e2]; exact hl)
  rw [e2] at z
  exact z
theorem all_ok {l : List FD} (hfs : fs = l.map FD.name) (hd : ∀ d ∈ l, d.chk fs = true) (bn : ∀ x ∈ bnames, mg x = none)
    (hK : ∀ d ∈ l, ∃ a fd, mg d.name = some (.ref a) ∧ FunD K d.name d.name (defArgs d.st) (defBody d.st) (defScope d.st) [] [] a fd) :
    ∀ n f g, fs[f]? = some g → FnH P w K mg base n g (call (tabOf l) W n f)
  | 0, f, g, _ => fun ds μ d μ' e => by cases e
  | n + 1, f, g, hg => fun ds μ dd μ' e => by
    have ih := all_ok hfs hd bn hK n
    have hl : ∃ d, l[f]? = some d ∧ d.name = g := by
      rw [hfs, List.getElem?_map] at hg
      cases q : l[f]? with
      | none => rw [q] at hg; cases hg
      | some d => rw [q] at hg; cases hg; exact ⟨d, rfl, rfl⟩
    obtain ⟨d, q, rfl⟩ := hl
    have mem := List.mem_of_getElem? q
    have hT : tabOf l f = some d.fn := by unfold tabOf; rw [q]; rfl
    have hcall : call (tabOf l) W (n + 1) f = runFn (call (tabOf l) W n) W d.fn := by
      funext ds μ
      show (match tabOf l f with | some fn => runFn (call (tabOf l) W n) W fn ds μ | none => none) = _
      rw [hT]
    obtain ⟨a, fd, m1, m2⟩ := hK d mem
    have hdm := hd d mem
    refine ⟨a, fd, d.ps, m1, m2.kp, m2.bindsN (bindsF hdm m2), ?_, ?_⟩
    · rw [hcall] at e
      unfold runFn at e
      split at e
      · rename_i hh
        exact hh.1.symm
      · cases e
    · rw [hcall]
      exact fd_ok hdm m2 bn ih
/-- the law's promise from the evaluator's answer -/
theorem law_sp {F : List D → Cells → Option (D × Cells)} {H : Hp} {a : Addr} {ns : List Int} {μ' : Cells} (hS : SqL K H a (ns.map V.int)) (h : F [.lst (ns.map D.int)] [] = some (.bl true, μ')) :
    spF K 1 F [.ref a] H (fun v _ => v = .bl true) fun _ _ _ => False := by
  refine ⟨rfl, fun _ => False, [], [.lst (ns.map D.int)], [], .bl true, μ', .cons (.lst ?_ (RepL.ofInts ns)) .nil, ⟨rfl, .nil, fun k a e => by simp at e, fun a z => (nomatch z), fun b z => z.elim⟩, h, fun v H' ads' e c r => r.bl⟩
  rcases hS with hS | hS
  · exact .inl ⟨hS, fun z => z.elim (fun z => z) fun z => (nomatch z)⟩
  · exact .inr hS
end
end FM

set_option Elab.async false
set_option linter.all false
set_option maxRecDepth 100000
namespace FM
def B_is_whole : Ss := (.cons (.ret (.and (.isi (.var 0) .int) (.not (.isi (.var 0) .bool)))) .nil)
def B_common : Ss := (.cons (.whl (.cmp .NotEq (.var 1) (.int 0)) (.cons (.par 0 1 (.var 1) (.op .Mod (.var 0) (.var 1))) .nil)) (.cons (.ret (.bi .abs (.cons (.var 0) .nil))) .nil))
def B_frac (c_common : Nat) : Ss := (.cons (.asg 2 (.call c_common (.cons (.var 0) (.cons (.var 1) .nil)))) (.cons (.ifs (.cmp .Lt (.var 1) (.int 0)) (.cons (.asg 2 (.neg (.var 2))) .nil) .nil) (.cons (.ret (.tup (.cons (.op .FloorDiv (.var 0) (.var 2)) (.cons (.op .FloorDiv (.var 1) (.var 2)) .nil)))) .nil)))
def B_is_frac (c_is_whole : Nat) (c_common : Nat) : Ss := (.cons (.ifs (.or (.not (.isi (.var 0) .tuple)) (.or (.cmp .NotEq (.bi .len (.cons (.var 0) .nil)) (.int 2)) (.not (.bi .all (.cons (.lc (.call c_is_whole (.cons (.var 1) .nil)) (.nm 1) (.seq (.var 0)) .none) .nil))))) (.cons (.ret (.bl false)) .nil) .nil) (.cons (.ret (.and (.cmp .Gt (.ix (.var 0) (.int 1)) (.int 0)) (.cmp .Eq (.call c_common (.cons (.ix (.var 0) (.int 0)) (.cons (.ix (.var 0) (.int 1)) .nil))) (.int 1)))) .nil))
def B_whole : Ss := (.cons (.ret (.tup (.cons (.var 0) (.cons (.int 1) .nil)))) .nil)
def B_plus (c_frac : Nat) : Ss := (.cons (.ret (.call c_frac (.cons (.op .Add (.op .Mult (.ix (.var 0) (.int 0)) (.ix (.var 1) (.int 1))) (.op .Mult (.ix (.var 1) (.int 0)) (.ix (.var 0) (.int 1)))) (.cons (.op .Mult (.ix (.var 0) (.int 1)) (.ix (.var 1) (.int 1))) .nil)))) .nil)
def B_minus (c_frac : Nat) : Ss := (.cons (.ret (.call c_frac (.cons (.op .Sub (.op .Mult (.ix (.var 0) (.int 0)) (.ix (.var 1) (.int 1))) (.op .Mult (.ix (.var 1) (.int 0)) (.ix (.var 0) (.int 1)))) (.cons (.op .Mult (.ix (.var 0) (.int 1)) (.ix (.var 1) (.int 1))) .nil)))) .nil)
def B_times (c_frac : Nat) : Ss := (.cons (.ret (.call c_frac (.cons (.op .Mult (.ix (.var 0) (.int 0)) (.ix (.var 1) (.int 0))) (.cons (.op .Mult (.ix (.var 0) (.int 1)) (.ix (.var 1) (.int 1))) .nil)))) .nil)
def B_over (c_frac : Nat) : Ss := (.cons (.ret (.call c_frac (.cons (.op .Mult (.ix (.var 0) (.int 0)) (.ix (.var 1) (.int 1))) (.cons (.op .Mult (.ix (.var 0) (.int 1)) (.ix (.var 1) (.int 0))) .nil)))) .nil)
def B_sign_of : Ss := (.cons (.ret (.op .Sub (.cmp .Gt (.ix (.var 0) (.int 0)) (.int 0)) (.cmp .Lt (.ix (.var 0) (.int 0)) (.int 0)))) .nil)
def B_less : Ss := (.cons (.ret (.cmp .Lt (.op .Mult (.ix (.var 0) (.int 0)) (.ix (.var 1) (.int 1))) (.op .Mult (.ix (.var 1) (.int 0)) (.ix (.var 0) (.int 1))))) .nil)
def B_least (c_less : Nat) : Ss := (.cons (.ret (.ife (.call c_less (.cons (.var 0) (.cons (.var 1) .nil))) (.var 0) (.var 1))) .nil)
def B_most (c_less : Nat) : Ss := (.cons (.ret (.ife (.call c_less (.cons (.var 0) (.cons (.var 1) .nil))) (.var 1) (.var 0))) .nil)
def B_floor_of : Ss := (.cons (.ret (.op .FloorDiv (.ix (.var 0) (.int 0)) (.ix (.var 0) (.int 1)))) .nil)
def B_root_below : Ss := (.cons (.ifs (.cmp .Eq (.var 0) (.int 0)) (.cons (.ret (.int 0)) .nil) .nil) (.cons (.asg 1 (.op .LShift (.int 1) (.op .FloorDiv (.op .Add (.me .bits (.var 0) .nil) (.int 1)) (.int 2)))) (.cons (.whl (.bl true) (.cons (.asg 2 (.op .FloorDiv (.op .Add (.var 1) (.op .FloorDiv (.var 0) (.var 1))) (.int 2))) (.cons (.ifs (.cmp .GtE (.var 2) (.var 1)) (.cons (.ret (.var 1)) .nil) .nil) (.cons (.asg 1 (.var 2)) .nil)))) .nil)))
def B_exact_root (c_root_below : Nat) : Ss := (.cons (.ifs (.cmp .Lt (.ix (.var 0) (.int 0)) (.int 0)) (.cons (.ret .non) .nil) .nil) (.cons (.par 1 2 (.call c_root_below (.cons (.ix (.var 0) (.int 0)) .nil)) (.call c_root_below (.cons (.ix (.var 0) (.int 1)) .nil))) (.cons (.ret (.ife (.and (.cmp .Eq (.op .Mult (.var 1) (.var 1)) (.ix (.var 0) (.int 0))) (.cmp .Eq (.op .Mult (.var 2) (.var 2)) (.ix (.var 0) (.int 1)))) (.tup (.cons (.var 1) (.cons (.var 2) .nil))) .non)) .nil)))
def B_root_above (c_root_below : Nat) (c_frac : Nat) : Ss := (.cons (.asg 2 (.op .Mult (.op .Mult (.ix (.var 0) (.int 0)) (.var 1)) (.var 1))) (.cons (.asg 3 (.call c_root_below (.cons (.op .FloorDiv (.var 2) (.ix (.var 0) (.int 1))) .nil))) (.cons (.whl (.cmp .Lt (.op .Mult (.op .Mult (.var 3) (.var 3)) (.ix (.var 0) (.int 1))) (.var 2)) (.cons (.aug 3 .Add (.int 1)) .nil)) (.cons (.ret (.call c_frac (.cons (.var 3) (.cons (.var 1) .nil)))) .nil))))
def B_text_of : Ss := (.cons (.ret (.op .Add (.bi .str (.cons (.ix (.var 0) (.int 0)) .nil)) (.ife (.cmp .Gt (.ix (.var 0) (.int 1)) (.int 1)) (.op .Add (.str "/") (.bi .str (.cons (.ix (.var 0) (.int 1)) .nil))) (.str "")))) .nil)
def B_figures_in : Ss := (.cons (.ifs (.or (.cmp .Eq (.var 0) (.str "")) (.not (.bi .all (.cons (.lc (.cmp .In (.var 1) (.str "0123456789")) (.nm 1) (.seq (.var 0)) .none) .nil)))) (.cons (.ret .non) .nil) .nil) (.cons (.ret (.ife (.or (.cmp .Eq (.var 0) (.str "0")) (.cmp .NotEq (.ix (.var 0) (.int 0)) (.str "0"))) (.bi .int (.cons (.var 0) .nil)) .non)) .nil))
def B_frac_in (c_figures_in : Nat) (c_frac : Nat) (c_text_of : Nat) : Ss := (.cons (.asgT [4, 5, 6] (.me .partition (.var 0) (.cons (.str "/") .nil))) (.cons (.asg 1 (.call c_figures_in (.cons (.ife (.cmp .Eq (.sl (.var 4) .none (.some (.int 1))) (.str "-")) (.sl (.var 4) (.some (.int 1)) .none) (.var 4)) .nil))) (.cons (.asg 2 (.ife (.cmp .NotEq (.var 5) (.str "")) (.call c_figures_in (.cons (.var 6) .nil)) (.int 1))) (.cons (.ifs (.or (.cmp .Is (.var 1) .non) (.cmp .In (.var 2) (.tup (.cons .non (.cons (.int 0) .nil))))) (.cons (.ret .non) .nil) .nil) (.cons (.asg 3 (.call c_frac (.cons (.ife (.cmp .Eq (.sl (.var 4) .none (.some (.int 1))) (.str "-")) (.neg (.var 1)) (.var 1)) (.cons (.var 2) .nil)))) (.cons (.ret (.ife (.cmp .Eq (.call c_text_of (.cons (.var 3) .nil)) (.var 0)) (.var 3) .non)) .nil))))))
def B_mean (c_over : Nat) (c_plus : Nat) : Ss := (.cons (.ret (.call c_over (.cons (.call c_plus (.cons (.var 0) (.cons (.var 1) .nil))) (.cons (.tup (.cons (.int 2) (.cons (.int 1) .nil))) .nil)))) .nil)
def B_sum_of (c_plus : Nat) : Ss := (.cons (.asg 1 (.tup (.cons (.int 0) (.cons (.int 1) .nil)))) (.cons (.for_ (.nm 2) (.seq (.var 0)) (.cons (.asg 1 (.call c_plus (.cons (.var 1) (.cons (.var 2) .nil)))) .nil)) (.cons (.ret (.var 1)) .nil)))
def B__law_draws : Ss := (.cons (.own 2) (.cons (.asg 3 (.int 7)) (.cons (.for_ (.nm 4) (.rng1 (.bi .len (.cons (.var 0) .nil))) (.cons (.asg 5 (.bi .abs (.cons (.bi .int (.cons (.ix (.var 0) (.var 4)) .nil)) .nil))) (.cons (.asg 3 (.op .Mod (.bi .int (.cons (.op .Add (.op .Add (.op .Mult (.var 3) (.int 48271)) (.op .Mod (.var 5) (.int 1000003))) (.var 4)) .nil)) (.int 65537))) (.cons (.asg 6 (.int 0)) (.cons (.ifs (.cmp .GtE (.var 5) (.op .Pow (.int 10) (.int 18))) (.cons (.asg 6 (.var 5)) .nil) (.cons (.app 2 (.op .Mod (.bi .int (.cons (.var 5) .nil)) (.int 997))) (.cons (.app 2 (.op .Mod (.op .Mod (.bi .int (.cons (.op .Add (.op .Mult (.var 3) (.int 69621)) (.int 5)) .nil)) (.int 65521)) (.int 997))) .nil))) (.cons (.for_ (.nm 7) (.rng1 (.int 60)) (.cons (.ifs (.cmp .Gt (.var 6) (.int 0)) (.cons (.app 2 (.op .Mod (.bi .int (.cons (.var 6) .nil)) (.int 997))) (.cons (.asg 6 (.op .FloorDiv (.var 6) (.int 997))) .nil)) .nil) .nil)) .nil)))))) (.cons (.for_ (.nm 4) (.rng1 (.var 1)) (.cons (.asg 3 (.op .Mod (.bi .int (.cons (.op .Add (.op .Add (.op .Mult (.var 3) (.int 16807)) (.var 4)) (.int 1)) .nil)) (.int 65537))) (.cons (.app 2 (.op .Mod (.bi .int (.cons (.var 3) .nil)) (.int 997))) .nil))) (.cons (.ret (.sl (.var 2) .none (.some (.var 1)))) .nil)))))
def B__law_next : Ss := (.cons (.daug (.var 0) (.str "at") .Add (.int 1)) (.cons (.ifs (.cmp .Gt (.ix (.var 0) (.str "at")) (.bi .len (.cons (.ix (.var 0) (.str "draws")) .nil))) (.cons (.ret (.int 0)) .nil) .nil) (.cons (.ret (.op .Mod (.bi .int (.cons (.ix (.ix (.var 0) (.str "draws")) (.op .Sub (.ix (.var 0) (.str "at")) (.int 1))) .nil)) (.var 1))) .nil)))
def B__law_alike (c__law_alike : Nat) : Ss := (.cons (.ifs (.isi (.var 1) .tuple) (.cons (.ifs (.or (.not (.isi (.var 0) .tuple)) (.cmp .NotEq (.bi .len (.cons (.var 0) .nil)) (.bi .len (.cons (.var 1) .nil)))) (.cons (.ret (.bl false)) .nil) .nil) (.cons (.ret (.cmp .Eq (.lc (.var 2) (.nm 2) (.rng1 (.bi .len (.cons (.var 1) .nil))) (.some (.not (.call c__law_alike (.cons (.ix (.var 0) (.var 2)) (.cons (.ix (.var 1) (.var 2)) .nil)))))) (.lst .nil))) .nil)) .nil) (.cons (.ifs (.cmp .Is (.var 1) .non) (.cons (.ret (.cmp .Is (.var 0) .non)) .nil) .nil) (.cons (.ifs (.isi (.var 1) .bool) (.cons (.ret (.and (.isi (.var 0) .bool) (.cmp .Eq (.var 0) (.var 1)))) .nil) .nil) (.cons (.ifs (.isi (.var 1) .int) (.cons (.ret (.and (.isi (.var 0) .int) (.and (.not (.isi (.var 0) .bool)) (.cmp .Eq (.var 0) (.var 1))))) .nil) .nil) (.cons (.ret (.and (.isi (.var 0) .str) (.cmp .Eq (.var 0) (.var 1)))) .nil)))))
def B__law_gcd : Ss := (.cons (.whl (.cmp .NotEq (.var 1) (.int 0)) (.cons (.par 0 1 (.var 1) (.op .Sub (.var 0) (.op .Mult (.op .FloorDiv (.var 0) (.var 1)) (.var 1)))) .nil)) (.cons (.ret (.bi .abs (.cons (.var 0) .nil))) .nil))
def B__law_fr (c__law_gcd : Nat) : Ss := (.cons (.asg 2 (.ife (.cmp .Gt (.var 1) (.int 0)) (.call c__law_gcd (.cons (.var 0) (.cons (.var 1) .nil))) (.op .Sub (.int 0) (.call c__law_gcd (.cons (.var 0) (.cons (.var 1) .nil)))))) (.cons (.ret (.tup (.cons (.op .FloorDiv (.var 0) (.var 2)) (.cons (.op .FloorDiv (.var 1) (.var 2)) .nil)))) .nil))
def B__law_add (c__law_fr : Nat) : Ss := (.cons (.ret (.call c__law_fr (.cons (.op .Add (.op .Mult (.ix (.var 0) (.int 0)) (.ix (.var 1) (.int 1))) (.op .Mult (.ix (.var 1) (.int 0)) (.ix (.var 0) (.int 1)))) (.cons (.op .Mult (.ix (.var 0) (.int 1)) (.ix (.var 1) (.int 1))) .nil)))) .nil)
def B__law_sub (c__law_fr : Nat) : Ss := (.cons (.ret (.call c__law_fr (.cons (.op .Sub (.op .Mult (.ix (.var 0) (.int 0)) (.ix (.var 1) (.int 1))) (.op .Mult (.ix (.var 1) (.int 0)) (.ix (.var 0) (.int 1)))) (.cons (.op .Mult (.ix (.var 0) (.int 1)) (.ix (.var 1) (.int 1))) .nil)))) .nil)
def B__law_mul (c__law_fr : Nat) : Ss := (.cons (.ret (.call c__law_fr (.cons (.op .Mult (.ix (.var 0) (.int 0)) (.ix (.var 1) (.int 0))) (.cons (.op .Mult (.ix (.var 0) (.int 1)) (.ix (.var 1) (.int 1))) .nil)))) .nil)
def B__law_div (c__law_fr : Nat) : Ss := (.cons (.ret (.call c__law_fr (.cons (.op .Mult (.ix (.var 0) (.int 0)) (.ix (.var 1) (.int 1))) (.cons (.op .Mult (.ix (.var 0) (.int 1)) (.ix (.var 1) (.int 0))) .nil)))) .nil)
def B__law_sgn : Ss := (.cons (.ret (.ife (.cmp .Gt (.ix (.var 0) (.int 0)) (.int 0)) (.int 1) (.ife (.cmp .Lt (.ix (.var 0) (.int 0)) (.int 0)) (.neg (.int 1)) (.int 0)))) .nil)
end FM

set_option Elab.async false
set_option linter.all false
set_option maxRecDepth 100000
set_option maxHeartbeats 0
namespace K00
open PySem FM L2
def top (i : Nat) : Stmt := PySem.Challenge.pw_firstmet_k00_fractions.main.body.getD i (.Pass ⟨0, 0, 0, 0⟩)
def B_law (c__law_draws : Nat) (c__law_next : Nat) (c__law_fr : Nat) (c_sum_of : Nat) (c_whole : Nat) (c_mean : Nat) (c_times : Nat) (c_minus : Nat) (c_plus : Nat) (c_frac : Nat) (c__law_add : Nat) (c__law_mul : Nat) (c__law_sub : Nat) (c__law_alike : Nat) (c__law_div : Nat) (c_over : Nat) (c__law_gcd : Nat) (c__law_sgn : Nat) (c_common : Nat) (c_floor_of : Nat) (c_sign_of : Nat) (c_most : Nat) (c_least : Nat) (c_less : Nat) (c_is_frac : Nat) (c_frac_in : Nat) (c_text_of : Nat) (c_exact_root : Nat) (c_root_above : Nat) (c_root_below : Nat) (c_figures_in : Nat) : Ss := (.cons (.asg 1 (.dict ["draws", "at"] (.cons (.call c__law_draws (.cons (.var 0) (.cons (.int 300) .nil))) (.cons (.int 0) .nil)))) (.cons (.for_ (.nm 2) (.rng1 (.int 12)) (.cons (.asgT [9, 10, 11, 12] (.tup (.cons (.op .Sub (.call c__law_next (.cons (.var 1) (.cons (.int 99) .nil))) (.int 49)) (.cons (.op .Add (.int 1) (.call c__law_next (.cons (.var 1) (.cons (.int 30) .nil)))) (.cons (.op .Sub (.call c__law_next (.cons (.var 1) (.cons (.int 99) .nil))) (.int 49)) (.cons (.op .Add (.int 1) (.call c__law_next (.cons (.var 1) (.cons (.int 30) .nil)))) .nil)))))) (.cons (.par 13 14 (.call c__law_fr (.cons (.var 9) (.cons (.var 10) .nil))) (.call c__law_fr (.cons (.var 11) (.cons (.var 12) .nil)))) (.cons (.asg 4 (.tup (.cons (.call c_frac (.cons (.var 9) (.cons (.var 10) .nil))) (.cons (.call c_frac (.cons (.var 9) (.cons (.op .Sub (.int 0) (.var 10)) .nil))) (.cons (.call c_plus (.cons (.var 13) (.cons (.var 14) .nil))) (.cons (.call c_minus (.cons (.var 13) (.cons (.var 14) .nil))) (.cons (.call c_times (.cons (.var 13) (.cons (.var 14) .nil))) (.cons (.call c_mean (.cons (.var 13) (.cons (.var 14) .nil))) (.cons (.call c_whole (.cons (.var 9) .nil)) (.cons (.call c_sum_of (.cons (.lst (.cons (.var 13) (.cons (.var 14) (.cons (.var 13) .nil)))) .nil)) .nil)))))))))) (.cons (.asg 5 (.tup (.cons (.var 13) (.cons (.call c__law_fr (.cons (.op .Sub (.int 0) (.var 9)) (.cons (.var 10) .nil))) (.cons (.call c__law_add (.cons (.var 13) (.cons (.var 14) .nil))) (.cons (.call c__law_sub (.cons (.var 13) (.cons (.var 14) .nil))) (.cons (.call c__law_mul (.cons (.var 13) (.cons (.var 14) .nil))) (.cons (.call c__law_mul (.cons (.tup (.cons (.int 1) (.cons (.int 2) .nil))) (.cons (.call c__law_add (.cons (.var 13) (.cons (.var 14) .nil))) .nil))) (.cons (.tup (.cons (.var 9) (.cons (.int 1) .nil))) (.cons (.call c__law_add (.cons (.call c__law_add (.cons (.var 13) (.cons (.var 14) .nil))) (.cons (.var 13) .nil))) .nil)))))))))) (.cons (.ifs (.or (.not (.call c__law_alike (.cons (.var 4) (.cons (.var 5) .nil)))) (.and (.cmp .NotEq (.ix (.var 14) (.int 0)) (.int 0)) (.not (.call c__law_alike (.cons (.call c_over (.cons (.var 13) (.cons (.var 14) .nil))) (.cons (.call c__law_div (.cons (.var 13) (.cons (.var 14) .nil))) .nil)))))) (.cons (.ret (.bl false)) .nil) .nil) (.cons (.ifs (.not (.call c__law_alike (.cons (.tup (.cons (.call c_less (.cons (.var 13) (.cons (.var 14) .nil))) (.cons (.call c_least (.cons (.var 13) (.cons (.var 14) .nil))) (.cons (.call c_most (.cons (.var 13) (.cons (.var 14) .nil))) (.cons (.call c_sign_of (.cons (.var 13) .nil)) (.cons (.call c_floor_of (.cons (.var 13) .nil)) (.cons (.call c_common (.cons (.var 9) (.cons (.var 11) .nil))) .nil))))))) (.cons (.tup (.cons (.cmp .Lt (.op .Mult (.var 9) (.var 12)) (.op .Mult (.var 11) (.var 10))) (.cons (.ife (.cmp .Lt (.op .Mult (.var 9) (.var 12)) (.op .Mult (.var 11) (.var 10))) (.var 13) (.var 14)) (.cons (.ife (.cmp .Lt (.op .Mult (.var 9) (.var 12)) (.op .Mult (.var 11) (.var 10))) (.var 14) (.var 13)) (.cons (.call c__law_sgn (.cons (.var 13) .nil)) (.cons (.op .FloorDiv (.var 9) (.var 10)) (.cons (.call c__law_gcd (.cons (.var 9) (.cons (.var 11) .nil))) .nil))))))) .nil)))) (.cons (.ret (.bl false)) .nil) .nil) (.cons (.asg 6 (.op .Add (.bi .str (.cons (.ix (.var 13) (.int 0)) .nil)) (.ife (.cmp .Gt (.ix (.var 13) (.int 1)) (.int 1)) (.op .Add (.str "/") (.bi .str (.cons (.ix (.var 13) (.int 1)) .nil))) (.str "")))) (.cons (.ifs (.not (.call c__law_alike (.cons (.tup (.cons (.call c_text_of (.cons (.var 13) .nil)) (.cons (.call c_frac_in (.cons (.var 6) .nil)) (.cons (.call c_is_frac (.cons (.var 13) .nil)) (.cons (.call c_is_frac (.cons (.tup (.cons (.op .Mult (.int 2) (.ix (.var 13) (.int 0))) (.cons (.op .Mult (.int 2) (.ix (.var 13) (.int 1))) .nil))) .nil)) .nil))))) (.cons (.tup (.cons (.var 6) (.cons (.var 13) (.cons (.bl true) (.cons (.bl false) .nil))))) .nil)))) (.cons (.ret (.bl false)) .nil) .nil) (.cons (.asgT [15, 16] (.tup (.cons (.op .Add (.op .Mult (.var 9) (.var 9)) (.var 10)) (.cons (.op .Add (.int 1) (.call c__law_next (.cons (.var 1) (.cons (.int 20) .nil)))) .nil)))) (.cons (.asg 7 (.ix (.lc (.var 17) (.nm 17) (.rng1 (.int 200)) (.some (.cmp .LtE (.op .Mult (.var 17) (.var 17)) (.var 15)))) (.neg (.int 1)))) (.cons (.asg 8 (.ix (.lc (.var 17) (.nm 17) (.rng1 (.int 5000)) (.some (.cmp .GtE (.op .Mult (.op .Mult (.var 17) (.var 17)) (.var 12)) (.op .Mult (.op .Mult (.var 15) (.var 16)) (.var 16))))) (.int 0))) (.cons (.ifs (.not (.call c__law_alike (.cons (.tup (.cons (.call c_root_below (.cons (.var 15) .nil)) (.cons (.call c_root_below (.cons (.int 0) .nil)) (.cons (.call c_root_above (.cons (.call c__law_fr (.cons (.var 15) (.cons (.var 12) .nil))) (.cons (.var 16) .nil))) (.cons (.call c_exact_root (.cons (.call c__law_fr (.cons (.op .Mult (.var 9) (.var 9)) (.cons (.op .Mult (.var 10) (.var 10)) .nil))) .nil)) (.cons (.call c_exact_root (.cons (.tup (.cons (.int 2) (.cons (.int 9) .nil))) .nil)) (.cons (.call c_exact_root (.cons (.tup (.cons (.op .Sub (.int 0) (.int 4)) (.cons (.int 1) .nil))) .nil)) .nil))))))) (.cons (.tup (.cons (.var 7) (.cons (.int 0) (.cons (.call c__law_fr (.cons (.var 8) (.cons (.var 16) .nil))) (.cons (.call c__law_fr (.cons (.bi .abs (.cons (.var 9) .nil)) (.cons (.var 10) .nil))) (.cons .non (.cons .non .nil))))))) .nil)))) (.cons (.ret (.bl false)) .nil) .nil) .nil))))))))))))) (.cons (.for_ (.tp [6, 5]) (.seq (.tup (.cons (.tup (.cons (.str "0") (.cons (.int 0) .nil))) (.cons (.tup (.cons (.str "07") (.cons .non .nil))) (.cons (.tup (.cons (.str "") (.cons .non .nil))) (.cons (.tup (.cons (.str "12") (.cons (.int 12) .nil))) (.cons (.tup (.cons (.str "1a") (.cons .non .nil))) (.cons (.tup (.cons (.str "-1") (.cons .non .nil))) .nil)))))))) (.cons (.ifs (.not (.call c__law_alike (.cons (.call c_figures_in (.cons (.var 6) .nil)) (.cons (.var 5) .nil)))) (.cons (.ret (.bl false)) .nil) .nil) .nil)) (.cons (.for_ (.nm 3) (.seq (.tup (.cons (.str "2/4") (.cons (.str "1/0") (.cons (.str "-0") (.cons (.str "1/1") (.cons (.str "01") (.cons (.str "1/-2") (.cons (.str "/2") (.cons (.str "1/") (.cons (.str "--1") (.cons (.str "1.5") (.cons (.str "") .nil))))))))))))) (.cons (.ifs (.cmp .IsNot (.call c_frac_in (.cons (.var 3) .nil)) .non) (.cons (.ret (.bl false)) .nil) .nil) .nil)) (.cons (.ret (.cmp .Eq (.lc (.var 3) (.nm 3) (.seq (.tup (.cons (.tup (.cons (.int 1) (.cons (.int 0) .nil))) (.cons (.tup (.cons (.int 2) (.cons (.int 4) .nil))) (.cons (.tup (.cons (.int 1) (.cons (.op .Sub (.int 0) (.int 2)) .nil))) (.cons (.tup (.cons (.bl true) (.cons (.int 1) .nil))) (.cons (.lst (.cons (.int 1) (.cons (.int 2) .nil))) (.cons .non (.cons (.tup (.cons (.int 1) .nil)) (.cons (.tup (.cons (.int 1) (.cons (.int 2) (.cons (.int 3) .nil)))) .nil)))))))))) (.some (.call c_is_frac (.cons (.var 3) .nil)))) (.lst .nil))) .nil)))))
def d_is_whole : FD := ⟨"is_whole", top 1, ["thing"], ["thing"], B_is_whole⟩
def d_common : FD := ⟨"common", top 2, ["one", "other"], ["one", "other"], B_common⟩
def d_frac : FD := ⟨"frac", top 3, ["upper", "lower", "shared"], ["upper", "lower"], B_frac 1⟩
def d_is_frac : FD := ⟨"is_frac", top 4, ["thing", "one"], ["thing"], B_is_frac 0 1⟩
def d_whole : FD := ⟨"whole", top 5, ["number"], ["number"], B_whole⟩
def d_plus : FD := ⟨"plus", top 6, ["one", "other"], ["one", "other"], B_plus 2⟩
def d_minus : FD := ⟨"minus", top 7, ["one", "other"], ["one", "other"], B_minus 2⟩
def d_times : FD := ⟨"times", top 8, ["one", "other"], ["one", "other"], B_times 2⟩
def d_over : FD := ⟨"over", top 9, ["one", "other"], ["one", "other"], B_over 2⟩
def d_sign_of : FD := ⟨"sign_of", top 10, ["one"], ["one"], B_sign_of⟩
def d_less : FD := ⟨"less", top 11, ["one", "other"], ["one", "other"], B_less⟩
def d_least : FD := ⟨"least", top 12, ["one", "other"], ["one", "other"], B_least 10⟩
def d_most : FD := ⟨"most", top 13, ["one", "other"], ["one", "other"], B_most 10⟩
def d_floor_of : FD := ⟨"floor_of", top 14, ["one"], ["one"], B_floor_of⟩
def d_root_below : FD := ⟨"root_below", top 15, ["number", "found", "later"], ["number"], B_root_below⟩
def d_exact_root : FD := ⟨"exact_root", top 16, ["one", "upper", "lower"], ["one"], B_exact_root 14⟩
def d_root_above : FD := ⟨"root_above", top 17, ["one", "parts", "number", "found"], ["one", "parts"], B_root_above 14 2⟩
def d_text_of : FD := ⟨"text_of", top 18, ["one"], ["one"], B_text_of⟩
def d_figures_in : FD := ⟨"figures_in", top 19, ["text", "sign"], ["text"], B_figures_in⟩
def d_frac_in : FD := ⟨"frac_in", top 20, ["text", "number", "under", "found", "head", "mark", "tail"], ["text"], B_frac_in 18 2 17⟩
def d_mean : FD := ⟨"mean", top 21, ["one", "other"], ["one", "other"], B_mean 8 5⟩
def d_sum_of : FD := ⟨"sum_of", top 22, ["fracs", "found", "one"], ["fracs"], B_sum_of 5⟩
def d__law_draws : FD := ⟨"_law_draws", top 24, ["script", "many", "draws", "mixed", "k", "cell", "rest", "turn"], ["script", "many"], B__law_draws⟩
def d__law_next : FD := ⟨"_law_next", top 25, ["w", "many"], ["w", "many"], B__law_next⟩
def d__law_alike : FD := ⟨"_law_alike", top 26, ["given", "due", "k"], ["given", "due"], B__law_alike 24⟩
def d__law_gcd : FD := ⟨"_law_gcd", top 27, ["a", "b"], ["a", "b"], B__law_gcd⟩
def d__law_fr : FD := ⟨"_law_fr", top 28, ["n", "d", "g"], ["n", "d"], B__law_fr 25⟩
def d__law_add : FD := ⟨"_law_add", top 29, ["a", "b"], ["a", "b"], B__law_add 26⟩
def d__law_sub : FD := ⟨"_law_sub", top 30, ["a", "b"], ["a", "b"], B__law_sub 26⟩
def d__law_mul : FD := ⟨"_law_mul", top 31, ["a", "b"], ["a", "b"], B__law_mul 26⟩
def d__law_div : FD := ⟨"_law_div", top 32, ["a", "b"], ["a", "b"], B__law_div 26⟩
def d__law_sgn : FD := ⟨"_law_sgn", top 33, ["a"], ["a"], B__law_sgn⟩
def d_law : FD := ⟨"law", top 34, ["script", "w", "turn", "bad", "told", "due", "text", "root", "above", "a", "b", "c", "d", "one", "other", "many", "parts", "k"], ["script"], B_law 22 23 26 21 4 20 7 6 5 2 27 29 28 24 30 8 25 31 1 13 9 12 11 10 3 19 17 15 16 14 18⟩
def defs : List FD := [d_is_whole, d_common, d_frac, d_is_frac, d_whole, d_plus, d_minus, d_times, d_over, d_sign_of, d_less, d_least, d_most, d_floor_of, d_root_below, d_exact_root, d_root_above, d_text_of, d_figures_in, d_frac_in, d_mean, d_sum_of, d__law_draws, d__law_next, d__law_alike, d__law_gcd, d__law_fr, d__law_add, d__law_sub, d__law_mul, d__law_div, d__law_sgn, d_law]
/-- the law: its number, its place in the top -/
def lawNo : Nat := 32
def lawAt : Nat := 34
def fs : List Str := defs.map FD.name
theorem chk_all : (defs.all fun d => d.chk fs) = true := by decide +kernel
end K00

set_option Elab.async false
set_option linter.all false
set_option maxRecDepth 100000
set_option maxHeartbeats 4000000
/-! L1: what the library's defs compute, each once, whatever numbers its callees have. -/
namespace FM
open PySem (Str sizeLine)
open L2 (atI ixN)
open PySem.Spec PyProof.Rows
theorem call_at {l : List FD} {W n f : Nat} {d : FD} (h : l[f]? = some d) (ds : List D) (μ : Cells) : call (tabOf l) W (n + 1) f ds μ = runFn (call (tabOf l) W n) W d.fn ds μ := by
  show (match tabOf l f with | some fn => runFn (call (tabOf l) W n) W fn ds μ | none => none) = _
  unfold tabOf
  rw [h]
  rfl
theorem andThen_some' {α β : Type} (a : α) (μ : Cells) (f : α → Cells → Option β) : andThen (some (a, μ)) f = f a μ := rfl
theorem andThen_none' {α β : Type} (f : α → Cells → Option β) : andThen (none : Rs α) f = none := rfl
theorem onBl_bl {β : Type} (b : Bool) (μ : Cells) (f : Bool → Cells → Option β) : onBl (some (.bl b, μ)) f = f b μ := rfl
theorem wthD_some' (d : D) (μ : Cells) : wthD (some d) μ = some (d, μ) := rfl
theorem eqD_int (i j : Int) : eqD (.int i) (.int j) = some (decide (i = j)) := by
  show some (i == j) = _
  rw [Bool.beq_eq_decide_eq]
theorem ix_tup (μ : Cells) (l : List D) (i : Int) : ixD μ (.tup l) (.int i) = atI l i := rfl
theorem ix_lst (μ : Cells) (l : List D) (i : Int) : ixD μ (.lst l) (.int i) = atI l i := rfl
theorem atI_0 {α : Type} (x : α) (l : List α) : atI (x :: l) 0 = some x := by
  unfold atI ixN
  simp
theorem atI_1 {α : Type} (x y : α) (l : List α) : atI (x :: y :: l) 1 = some y := by
  unfold atI ixN
  simp
  rw [if_pos (by omega)]
  rfl
theorem atI_2 {α : Type} (x y z : α) (l : List α) : atI (x :: y :: z :: l) 2 = some z := by
  unfold atI ixN
  simp
  rw [if_pos (by omega)]
  rfl
/-! ### sizes -/
def Sm (k : Nat) (i : Int) : Prop := i.natAbs < 2 ^ k
theorem Sm.mono {j k : Nat} {i : Int} (h : Sm j i) (l : j ≤ k) : Sm k i := Nat.lt_of_lt_of_le h (Nat.pow_le_pow_right (by decide) l)
theorem Sm.mul {j k : Nat} {a b : Int} (h : Sm j a) (g : Sm k b) : Sm (j + k) (a * b) := by
  unfold Sm at *
  rw [Int.natAbs_mul, Nat.pow_add]
  exact Nat.mul_lt_mul'' h g
theorem Sm.neg {k : Nat} {a : Int} (h : Sm k a) : Sm k (-a) := by
  unfold Sm at *
  rwa [Int.natAbs_neg]
theorem Sm.add {k : Nat} {a b : Int} (h : Sm k a) (g : Sm k b) : Sm (k + 1) (a + b) := by
  unfold Sm at *
  have := Int.natAbs_add_le a b
  rw [Nat.pow_succ]
  omega
theorem Sm.sub {k : Nat} {a b : Int} (h : Sm k a) (g : Sm k b) : Sm (k + 1) (a - b) := by
  rw [Int.sub_eq_add_neg]
  exact h.add g.neg
theorem log2_le' {n k : Nat} (h : n < 2 ^ k) : n.log2 ≤ k := by
  by_cases z : n = 0
  · subst z
    exact Nat.zero_le _
  · exact Nat.le_of_lt ((Nat.log2_lt z).mpr h)
theorem Sm.log {k : Nat} {a : Int} (h : Sm k a) : a.natAbs.log2 ≤ k := log2_le' h
theorem mulOk_sm {j k : Nat} {a b : Int} (h : Sm j a) (g : Sm k b) (l : j + k < 1000000) : mulOk a b = true := by
  unfold mulOk
  have := h.log
  have := g.log
  exact decide_eq_true (by omega)
theorem op_mul {j k : Nat} {a b : Int} (h : Sm j a) (g : Sm k b) (l : j + k < 1000000) : opD .Mult (.int a) (.int b) = some (.int (a * b)) := by
  show (if mulOk a b then _ else _) = _
  rw [mulOk_sm h g l]
  rfl
theorem op_mulB (B : Nat) {a b : Int} (h : Sm B a) (g : Sm B b) (l : B + B < 1000000) : opD .Mult (.int a) (.int b) = some (.int (a * b)) := op_mul h g l
theorem op_add (i j : Int) : opD .Add (.int i) (.int j) = some (.int (i + j)) := rfl
theorem op_sub (i j : Int) : opD .Sub (.int i) (.int j) = some (.int (i - j)) := rfl
theorem op_subBl (i j : Bool) : opD .Sub (.bl i) (.bl j) = some (.int (PyProof.Rows.b2i i - PyProof.Rows.b2i j)) := rfl
theorem op_mod (i : Int) {j : Int} (h : j ≠ 0) : opD .Mod (.int i) (.int j) = some (.int (i.fmod j)) := by
  show (if j = 0 then none else _) = _
  rw [if_neg h]
/-- a divisor that is allowed -/
def Dv (j : Int) : Prop := (j ≠ 0 ∧ j.natAbs < 1073741824) ∨ (0 < j ∧ j.natAbs.log2 < 9000)
theorem op_div (i : Int) {j : Int} (h : Dv j) : opD .FloorDiv (.int i) (.int j) = some (.int (i.fdiv j)) := by
  show (if divOk i j then _ else _) = _
  have : divOk i j = true := by
    unfold divOk
    rw [Bool.or_eq_true, decide_eq_true_eq, decide_eq_true_eq]
    exact h
  rw [this]
  rfl
theorem Dv.pos {k : Nat} {j : Int} (h : 0 < j) (g : Sm k j) (l : k < 9000) : Dv j := .inr ⟨h, by have := g.log; omega⟩
theorem biD_abs (μ : Cells) (i : Int) : biD μ .abs [.int i] = some (.int (i.natAbs : Int)) := by
  show some (D.int (if i < 0 then -i else i)) = _
  congr 2
  split <;> omega
theorem sizeLine_ge : 16777216 ≤ sizeLine := by decide
theorem szle {n : Nat} (h : n ≤ 1000) : n ≤ sizeLine := Nat.le_trans h (by decide)
local macro_rules | `(tactic| walk_at "go") => `(tactic| simp [FM.runFn, FM.FD.fn, FM.execs, FM.exec, FM.ev, FM.evs, FM.evo, FM.evc, FM.evi, FM.lk, FM.lks, FM.It.lk, FM.isOw, FM.noOw, FM.Sl.isOw, FM.Sl.d, FM.isiD, FM.cmpD, FM.negD, FM.setAll, FM.bindT, FM.andThen_some', FM.onBl_bl, FM.wthD_some', FM.eqD_int, FM.ix_tup, FM.ix_lst, FM.atI_0, FM.atI_1, FM.atI_2, FM.op_add, FM.op_sub, FM.op_subBl, FM.biD_abs, FM.szle])
/-- the fuel of the loops -/
def W : Nat := 2 ^ 4100
section
variable {F : Fs}
/-! ### gcd -/
theorem fmod_abs (a : Int) {b : Int} (h : b ≠ 0) : (a.fmod b).natAbs < b.natAbs := by
  rcases Int.lt_or_gt_of_ne h with h | h
  · have h1 := Int.fmod_nonneg_of_pos (-a) (b := -b) (by omega)
    have h2 := Int.fmod_lt_of_pos (-a) (b := -b) (by omega)
    rw [Int.neg_fmod_neg] at h1 h2
    omega
  · have h1 := Int.fmod_nonneg_of_pos a h
    have h2 := Int.fmod_lt_of_pos a h
    omega
theorem gcd_fmod (a b : Int) : Int.gcd b (a.fmod b) = Int.gcd a b := by
  rw [Int.fmod_def, Int.gcd_comm a b, Int.sub_eq_add_neg, ← Int.mul_neg, Int.gcd_add_mul_left_right]
theorem gcd_loop (P : Int → Int → Prop) (c : Env → Cells → Option (Bool × Cells)) (b : Env → Cells → Option Res) (μ : Cells)
    (hc : ∀ i j : Int, c [some (.pl (.int i)), some (.pl (.int j))] μ = some (decide (j ≠ 0), μ))
    (hP : ∀ i j : Int, P i j → j ≠ 0 → P j (i.fmod j))
    (hb : ∀ i j : Int, P i j → j ≠ 0 → b [some (.pl (.int i)), some (.pl (.int j))] μ = some (.nx [some (.pl (.int j)), some (.pl (.int (i.fmod j)))] μ)) :
    ∀ (n : Nat) (i j : Int), P i j → j.natAbs < n → ∃ g : Int, whileF c b n [some (.pl (.int i)), some (.pl (.int j))] μ = some (.nx [some (.pl (.int g)), some (.pl (.int 0))] μ) ∧ g.natAbs = Int.gcd i j
  | 0, i, j, p, h => by omega
  | n + 1, i, j, p, h => by
    unfold whileF
    rw [hc]
    by_cases z : j = 0
    · subst z
      exact ⟨i, by simp, by simp⟩
    · have h2 := fmod_abs i z
      obtain ⟨g, h3, h4⟩ := gcd_loop P c b μ hc hP hb n j (i.fmod j) (hP i j p z) (by omega)
      refine ⟨g, ?_, ?_⟩
      · simp only [ne_eq, z, not_false_eq_true, decide_true, hb i j p z]
        exact h3
      · rw [h4, gcd_fmod]
theorem smW {j : Int} (h : Sm 4000 j) : j.natAbs < W := Nat.lt_of_lt_of_le h (Nat.pow_le_pow_right (by decide) (by decide))
theorem run_rt {fn : Fn} {ds : List D} {μ μ1 : Cells} {d : D} (h1 : ds.length = fn.ar) (h2 : fn.ar ≤ fn.sl) (h : execs F W fn.body (ds.map (fun d => some (.pl d)) ++ List.replicate (fn.sl - fn.ar) none) μ = some (.rt d μ1)) : runFn F W fn ds μ = some (d, μ1) := by
  unfold runFn
  rw [if_pos ⟨h1, h2⟩, h]
theorem seq_nx {s : S} {ss : Ss} {ρ ρ1 : Env} {μ μ1 : Cells} {r : Option Res} (h : exec F W s ρ μ = some (.nx ρ1 μ1)) (k : execs F W ss ρ1 μ1 = r) : execs F W (.cons s ss) ρ μ = r := by
  unfold execs
  rw [h]
  exact k
theorem seq_rt {s : S} {ss : Ss} {ρ : Env} {μ μ1 : Cells} {d : D} (h : exec F W s ρ μ = some (.rt d μ1)) : execs F W (.cons s ss) ρ μ = some (.rt d μ1) := by
  unfold execs
  rw [h]
theorem whl_of {c : E} {b : Ss} {ρ : Env} {μ : Cells} {r : Option Res} (h : whileF (fun ρ' μ' => onBl (ev F c ρ' μ') fun x μ1 => some (x, μ1)) (fun ρ' μ' => execs F W b ρ' μ') W ρ μ = r) : exec F W (.whl c b) ρ μ = r := by
  unfold exec
  exact h
theorem for_of {tg : Tg} {it : It} {b : Ss} {ρ : Env} {μ μ1 : Cells} {xs : List D} {r : Option Res} (h1 : evi F it ρ μ = some (xs, μ1)) (h2 : it.lk ρ = false) (h : forF tg (fun ρ' μ' => execs F W b ρ' μ') xs ρ μ1 = r) : exec F W (.for_ tg it b) ρ μ = r := by
  unfold exec
  rw [h1]
  show (if it.lk ρ = true then none else _) = _
  rw [h2]
  exact h
theorem gcd_fin (P : Int → Int → Prop) {c : E} {b : Ss} {μ : Cells} (i j : Int) (p : P i j) (h : Sm 4000 j)
    (hc : ∀ i j : Int, onBl (ev F c [some (.pl (.int i)), some (.pl (.int j))] μ) (fun x μ1 => some (x, μ1)) = some (decide (j ≠ 0), μ))
    (hP : ∀ i j : Int, P i j → j ≠ 0 → P j (i.fmod j))
    (hb : ∀ i j : Int, P i j → j ≠ 0 → execs F W b [some (.pl (.int i)), some (.pl (.int j))] μ = some (.nx [some (.pl (.int j)), some (.pl (.int (i.fmod j)))] μ)) :
    runFn F W ⟨2, 2, .cons (.whl c b) (.cons (.ret (.bi .abs (.cons (.var 0) .nil))) .nil)⟩ [.int i, .int j] μ = some (.int (Int.gcd i j), μ) := by
  obtain ⟨g, h1, h2⟩ := gcd_loop P (fun ρ' μ' => onBl (ev F c ρ' μ') fun x μ1 => some (x, μ1)) (fun ρ' μ' => execs F W b ρ' μ') μ hc hP hb W i j p (smW h)
  refine run_rt rfl (Nat.le_refl 2) (seq_nx (whl_of h1) (seq_rt ?_))
  walk_at "go"
  exact congrArg Int.ofNat h2
theorem common_ok (i j : Int) (h : Sm 4000 j) (μ : Cells) : runFn F W ⟨2, 2, B_common⟩ [.int i, .int j] μ = some (.int (Int.gcd i j), μ) := by
  refine gcd_fin (fun _ _ => True) i j trivial h (fun i j => ?_) (fun _ _ _ _ => trivial) (fun i j _ hj => ?_)
  · walk_at "go"
  · walk_at "go"
    simp [op_mod i hj, andThen_some', wthD_some']
/-- what may be halved by turns -/
def Gp (i j : Int) : Prop := Sm 4000 i ∧ Sm 4000 j ∧ (0 ≤ j ∨ j.natAbs < 1073741824)
theorem Gp.next {i j : Int} (h : Gp i j) (z : j ≠ 0) : Gp j (i.fmod j) := by
  obtain ⟨h1, h2, h3⟩ := h
  have q := fmod_abs i z
  refine ⟨h2, Nat.lt_trans q h2, ?_⟩
  rcases h3 with h3 | h3
  · exact .inl (Int.fmod_nonneg_of_pos i (by omega))
  · exact .inr (by omega)
theorem Gp.dv {i j : Int} (h : Gp i j) (z : j ≠ 0) : Dv j := by
  obtain ⟨h1, h2, h3⟩ := h
  rcases h3 with h3 | h3
  · exact Dv.pos (by omega) h2 (by decide)
  · exact .inl ⟨z, h3⟩
theorem Sm.fdiv {k : Nat} {i : Int} (h : Sm k i) (j : Int) : Sm k (i.fdiv j) := Nat.lt_of_le_of_lt (Int.natAbs_fdiv_le_natAbs i j) h
theorem gcd_ok (i j : Int) (p : Gp i j) (μ : Cells) : runFn F W ⟨2, 2, B__law_gcd⟩ [.int i, .int j] μ = some (.int (Int.gcd i j), μ) := by
  refine gcd_fin Gp i j p p.2.1 (fun i j => ?_) (fun i j p z => p.next z) (fun i j p hj => ?_)
  · walk_at "go"
  · walk_at "go"
    simp [op_div i (p.dv hj), andThen_some', wthD_some', op_mul (p.1.fdiv j) p.2.1 (by decide), op_sub, Int.fmod_def, Int.mul_comm]
/-! ### fractions -/
/-- a denominator that may be given -/
def Dn (b : Int) : Prop := Sm 4000 b ∧ (0 < b ∨ (b ≠ 0 ∧ b.natAbs < 1073741824))
def gs (a b : Int) : Int := if 0 < b then (Int.gcd a b : Int) else -(Int.gcd a b : Int)
def fr (a b : Int) : Int × Int := (a.fdiv (gs a b), b.fdiv (gs a b))
abbrev fD (x : Int × Int) : D := .tup [.int x.1, .int x.2]
theorem Dn.ne {b : Int} (h : Dn b) : b ≠ 0 := by
  obtain ⟨_, h | h⟩ := h
  · omega
  · exact h.1
theorem gcd_pos (a : Int) {b : Int} (h : b ≠ 0) : 0 < Int.gcd a b := Int.gcd_pos_of_ne_zero_right a h
theorem gcd_le (a : Int) {b : Int} (h : b ≠ 0) : Int.gcd a b ≤ b.natAbs := Nat.gcd_le_right _ (by omega)
theorem Dn.gs (a : Int) {b : Int} (h : Dn b) : Dv (gs a b) := by
  have h1 := gcd_pos a h.ne
  have h2 := gcd_le a h.ne
  unfold FM.gs
  obtain ⟨h3, h4⟩ := h
  split
  · refine Dv.pos (k := 4000) (by omega) ?_ (by decide)
    exact Nat.lt_of_le_of_lt h2 h3
  · rcases h4 with h4 | h4
    · omega
    · exact .inl ⟨by omega, by omega⟩
def CommonC (F : Fs) (f : Nat) : Prop := ∀ (a b : Int) (μ : Cells), Sm 4000 b → F f [.int a, .int b] μ = some (.int (Int.gcd a b), μ)
def FracC (F : Fs) (f : Nat) : Prop := ∀ (a b : Int) (μ : Cells), Dn b → F f [.int a, .int b] μ = some (fD (fr a b), μ)
def LFracC (F : Fs) (f : Nat) : Prop := ∀ (a b : Int) (μ : Cells), Sm 4000 a → Dn b → F f [.int a, .int b] μ = some (fD (fr a b), μ)
theorem frac_ok {c : Nat} (hc : CommonC F c) (a b : Int) (μ : Cells) (h : Dn b) : runFn F W ⟨2, 3, B_frac c⟩ [.int a, .int b] μ = some (fD (fr a b), μ) := by
  have e : gs a b = if b < 0 then -(Int.gcd a b : Int) else (Int.gcd a b : Int) := by
    have := h.ne
    unfold gs
    split <;> split <;> omega
  have d := h.gs a
  refine run_rt rfl (Nat.le_of_ble_eq_true rfl) (seq_nx (ρ1 := [some (.pl (.int a)), some (.pl (.int b)), some (.pl (.int (Int.gcd a b)))]) (μ1 := μ) ?_ (seq_nx (ρ1 := [some (.pl (.int a)), some (.pl (.int b)), some (.pl (.int (gs a b)))]) (μ1 := μ) ?_ (seq_rt ?_)))
  · walk_at "go"
    simp [hc a b μ h.1, andThen_some']
  · rw [e]
    by_cases z : b < 0
    · walk_at "go"
      simp [z]
    · walk_at "go"
      simp [z]
  · walk_at "go"
    simp [op_div a d, op_div b d, andThen_some', wthD_some', fr, szle]
theorem law_fr_ok {c : Nat} (hc : ∀ (a b : Int) (μ : Cells), Gp a b → F c [.int a, .int b] μ = some (.int (Int.gcd a b), μ)) (a b : Int) (μ : Cells) (ha : Sm 4000 a) (h : Dn b) : runFn F W ⟨2, 3, B__law_fr c⟩ [.int a, .int b] μ = some (fD (fr a b), μ) := by
  have d := h.gs a
  have p : Gp a b := ⟨ha, h.1, h.2.elim (fun z => .inl (by omega)) fun z => .inr z.2⟩
  refine run_rt rfl (Nat.le_of_ble_eq_true rfl) (seq_nx (ρ1 := [some (.pl (.int a)), some (.pl (.int b)), some (.pl (.int (gs a b)))]) (μ1 := μ) ?_ (seq_rt ?_))
  · unfold gs
    by_cases z : 0 < b
    · walk_at "go"
      simp [z, hc a b μ p, andThen_some']
    · walk_at "go"
      simp [z, hc a b μ p, andThen_some', wthD_some', op_sub]
  · walk_at "go"
    simp [op_div a d, op_div b d, andThen_some', wthD_some', fr, szle]
end
end FM

set_option Elab.async false
set_option linter.all false
set_option maxRecDepth 100000
set_option maxHeartbeats 4000000
/-! M1: fractions in plain Lean; sums, products and the rest. -/
namespace FM
open PySem (Str sizeLine)
open L2 (atI ixN)
open PySem.Spec PyProof.Rows
theorem fr_mul {n d g : Int} (hg : g ≠ 0) (hd : 0 < d) (h : Int.gcd n d = 1) : fr (n * g) (d * g) = (n, d) := by
  have e : gs (n * g) (d * g) = g := by
    unfold gs
    rw [Int.gcd_mul_right, h, Nat.one_mul]
    rcases Int.lt_or_gt_of_ne hg with z | z
    · rw [if_neg (by have := Int.mul_neg_of_pos_of_neg hd z; omega)]
      omega
    · rw [if_pos (Int.mul_pos hd z)]
      omega
  unfold fr
  rw [e, Int.mul_fdiv_cancel _ hg, Int.mul_fdiv_cancel _ hg]
theorem gs_ne (a : Int) {b : Int} (hb : b ≠ 0) : gs a b ≠ 0 := by
  have := gcd_pos a hb
  unfold gs
  split <;> omega
theorem gs_dvd_l (a b : Int) : gs a b ∣ a := by
  unfold gs
  split
  · exact Int.gcd_dvd_left a b
  · exact Int.neg_dvd.mpr (Int.gcd_dvd_left a b)
theorem gs_dvd_r (a b : Int) : gs a b ∣ b := by
  unfold gs
  split
  · exact Int.gcd_dvd_right a b
  · exact Int.neg_dvd.mpr (Int.gcd_dvd_right a b)
theorem fr_spec (a : Int) {b : Int} (hb : b ≠ 0) : a = (fr a b).1 * gs a b ∧ b = (fr a b).2 * gs a b ∧ 0 < (fr a b).2 ∧ Int.gcd (fr a b).1 (fr a b).2 = 1 := by
  have g0 := gs_ne a hb
  have h1 : a = (fr a b).1 * gs a b := (Int.fdiv_mul_cancel (gs_dvd_l a b)).symm
  have h2 : b = (fr a b).2 * gs a b := (Int.fdiv_mul_cancel (gs_dvd_r a b)).symm
  refine ⟨h1, h2, ?_, ?_⟩
  · by_cases z : 0 < b
    · have gp : 0 < gs a b := by
        have := gcd_pos a hb
        unfold gs
        rw [if_pos z]
        omega
      rw [h2] at z
      exact Int.pos_of_mul_pos_left z (by omega) |> fun h => h
    · have gn : gs a b < 0 := by
        have := gcd_pos a hb
        unfold gs
        rw [if_neg z]
        omega
      have z2 : b < 0 := by omega
      generalize (fr a b).2 = q at *
      generalize gs a b = g at *
      by_cases c : 0 < q
      · exact c
      · have := Int.mul_nonneg_of_nonpos_of_nonpos (a := q) (b := g) (by omega) (by omega)
        omega
  · have e : Int.gcd a b = Int.gcd (fr a b).1 (fr a b).2 * (gs a b).natAbs := by
      rw [← Int.gcd_mul_right, ← h1, ← h2]
    have e2 : (gs a b).natAbs = Int.gcd a b := by
      unfold gs
      split <;> omega
    rw [e2] at e
    have p := gcd_pos a hb
    have : 1 * Int.gcd a b = Int.gcd (fr a b).1 (fr a b).2 * Int.gcd a b := by omega
    exact (Nat.eq_of_mul_eq_mul_right p this).symm
/-- a fraction that is written as it should be, not too long -/
def Fq (k : Nat) (x : Int × Int) : Prop := Sm k x.1 ∧ Sm k x.2 ∧ 0 < x.2 ∧ Int.gcd x.1 x.2 = 1
theorem fr_fq {k : Nat} {a b : Int} (ha : Sm k a) (hb : Sm k b) (z : b ≠ 0) : Fq k (fr a b) := by
  obtain ⟨h1, h2, h3, h4⟩ := fr_spec a z
  exact ⟨ha.fdiv _, hb.fdiv _, h3, h4⟩
theorem Fq.mono {j k : Nat} {x : Int × Int} (h : Fq j x) (l : j ≤ k) : Fq k x := ⟨h.1.mono l, h.2.1.mono l, h.2.2⟩
theorem Fq.fr {k : Nat} {x : Int × Int} (h : Fq k x) : fr x.1 x.2 = x := by
  have := fr_mul (g := 1) (by decide) h.2.2.1 h.2.2.2
  simpa using this
theorem fr_neg (a b : Int) (hb : b ≠ 0) : fr a (-b) = fr (-a) b := by
  obtain ⟨h1, h2, h3, h4⟩ := fr_spec (-a) hb
  have g0 := gs_ne (-a) hb
  have e1 : a = (fr (-a) b).1 * (-gs (-a) b) := by rw [Int.mul_neg]; omega
  have e2 : -b = (fr (-a) b).2 * (-gs (-a) b) := by rw [Int.mul_neg]; omega
  have z := fr_mul (g := -gs (-a) b) (by omega) h3 h4
  rw [← e1, ← e2] at z
  exact z
def addF (x y : Int × Int) : Int × Int := fr (x.1 * y.2 + y.1 * x.2) (x.2 * y.2)
def subF (x y : Int × Int) : Int × Int := fr (x.1 * y.2 - y.1 * x.2) (x.2 * y.2)
def mulF (x y : Int × Int) : Int × Int := fr (x.1 * y.1) (x.2 * y.2)
def divF (x y : Int × Int) : Int × Int := fr (x.1 * y.2) (x.2 * y.1)
theorem Fq.add {j k : Nat} {x y : Int × Int} (hx : Fq j x) (hy : Fq k y) : Fq (j + k + 1) (addF x y) := by
  refine fr_fq ?_ ((hx.2.1.mul hy.2.1).mono (by omega)) ?_
  · have h := (hx.1.mul hy.2.1).add (Sm.mono (hy.1.mul hx.2.1) (by omega))
    exact h
  · have := Int.mul_pos hx.2.2.1 hy.2.2.1
    omega
theorem Fq.sub {j k : Nat} {x y : Int × Int} (hx : Fq j x) (hy : Fq k y) : Fq (j + k + 1) (subF x y) := by
  refine fr_fq ?_ ((hx.2.1.mul hy.2.1).mono (by omega)) ?_
  · have h := (hx.1.mul hy.2.1).sub (Sm.mono (hy.1.mul hx.2.1) (by omega))
    exact h
  · have := Int.mul_pos hx.2.2.1 hy.2.2.1
    omega
theorem Fq.mul {j k : Nat} {x y : Int × Int} (hx : Fq j x) (hy : Fq k y) : Fq (j + k) (mulF x y) := by
  refine fr_fq (hx.1.mul hy.1) (hx.2.1.mul hy.2.1) ?_
  have := Int.mul_pos hx.2.2.1 hy.2.2.1
  omega
theorem addF_zero {k : Nat} {x : Int × Int} (h : Fq k x) : addF (0, 1) x = x := by
  unfold addF
  simpa using h.fr
theorem mulF_comm (x y : Int × Int) : mulF x y = mulF y x := by
  unfold mulF
  rw [Int.mul_comm x.1, Int.mul_comm x.2]
/-! ### the walks -/
section
variable {F : Fs} {j k : Nat}
local macro_rules | `(tactic| walk_at "go") => `(tactic| simp [FM.runFn, FM.FD.fn, FM.execs, FM.exec, FM.ev, FM.evs, FM.evo, FM.evc, FM.evi, FM.lk, FM.lks, FM.It.lk, FM.isOw, FM.noOw, FM.Sl.isOw, FM.Sl.d, FM.isiD, FM.cmpD, FM.negD, FM.setAll, FM.bindT, FM.andThen_some', FM.onBl_bl, FM.wthD_some', FM.eqD_int, FM.ix_tup, FM.ix_lst, FM.atI_0, FM.atI_1, FM.atI_2, FM.op_add, FM.op_sub, FM.op_subBl, FM.biD_abs, FM.szle])
theorem dn_mul {x y : Int} (hx : Sm 1800 x) (hy : Sm 1800 y) (px : 0 < x) (py : 0 < y) : Dn (x * y) := ⟨(hx.mul hy).mono (by decide), .inl (Int.mul_pos px py)⟩
section
variable {x y : Int × Int} {f : Nat} (hx : Fq 1800 x) (hy : Fq 1800 y) (μ : Cells)
include hx hy
theorem plus_ok (hf : FracC F f) : runFn F W ⟨2, 2, B_plus f⟩ [fD x, fD y] μ = some (fD (addF x y), μ) := by
  refine run_rt rfl (Nat.le_of_ble_eq_true rfl) (seq_rt ?_)
  walk_at "go"
  simp [op_mulB 1800 hx.1 hy.2.1, op_mulB 1800 hy.1 hx.2.1, op_mulB 1800 hx.2.1 hy.2.1, op_add, hf _ _ μ (dn_mul hx.2.1 hy.2.1 hx.2.2.1 hy.2.2.1), wthD_some', andThen_some', addF]
theorem minus_ok (hf : FracC F f) : runFn F W ⟨2, 2, B_minus f⟩ [fD x, fD y] μ = some (fD (subF x y), μ) := by
  refine run_rt rfl (Nat.le_of_ble_eq_true rfl) (seq_rt ?_)
  walk_at "go"
  simp [op_mulB 1800 hx.1 hy.2.1, op_mulB 1800 hy.1 hx.2.1, op_mulB 1800 hx.2.1 hy.2.1, op_sub, hf _ _ μ (dn_mul hx.2.1 hy.2.1 hx.2.2.1 hy.2.2.1), wthD_some', andThen_some', subF]
theorem times_ok (hf : FracC F f) : runFn F W ⟨2, 2, B_times f⟩ [fD x, fD y] μ = some (fD (mulF x y), μ) := by
  refine run_rt rfl (Nat.le_of_ble_eq_true rfl) (seq_rt ?_)
  walk_at "go"
  simp [op_mulB 1800 hx.1 hy.1, op_mulB 1800 hx.2.1 hy.2.1, hf _ _ μ (dn_mul hx.2.1 hy.2.1 hx.2.2.1 hy.2.2.1), wthD_some', andThen_some', mulF]
theorem over_ok (hf : FracC F f) (hd : Dn (x.2 * y.1)) : runFn F W ⟨2, 2, B_over f⟩ [fD x, fD y] μ = some (fD (divF x y), μ) := by
  refine run_rt rfl (Nat.le_of_ble_eq_true rfl) (seq_rt ?_)
  walk_at "go"
  simp [op_mulB 1800 hx.1 hy.2.1, op_mulB 1800 hx.2.1 hy.1, hf _ _ μ hd, wthD_some', andThen_some', divF]
theorem law_add_ok (hf : LFracC F f) : runFn F W ⟨2, 2, B__law_add f⟩ [fD x, fD y] μ = some (fD (addF x y), μ) := by
  refine run_rt rfl (Nat.le_of_ble_eq_true rfl) (seq_rt ?_)
  walk_at "go"
  have b : Sm 4000 (x.1 * y.2 + y.1 * x.2) := ((hx.1.mul hy.2.1).add (hy.1.mul hx.2.1)).mono (by decide)
  simp [op_mulB 1800 hx.1 hy.2.1, op_mulB 1800 hy.1 hx.2.1, op_mulB 1800 hx.2.1 hy.2.1, op_add, hf _ _ μ b (dn_mul hx.2.1 hy.2.1 hx.2.2.1 hy.2.2.1), wthD_some', andThen_some', addF]
theorem law_sub_ok (hf : LFracC F f) : runFn F W ⟨2, 2, B__law_sub f⟩ [fD x, fD y] μ = some (fD (subF x y), μ) := by
  refine run_rt rfl (Nat.le_of_ble_eq_true rfl) (seq_rt ?_)
  walk_at "go"
  have b : Sm 4000 (x.1 * y.2 - y.1 * x.2) := ((hx.1.mul hy.2.1).sub (hy.1.mul hx.2.1)).mono (by decide)
  simp [op_mulB 1800 hx.1 hy.2.1, op_mulB 1800 hy.1 hx.2.1, op_mulB 1800 hx.2.1 hy.2.1, op_sub, hf _ _ μ b (dn_mul hx.2.1 hy.2.1 hx.2.2.1 hy.2.2.1), wthD_some', andThen_some', subF]
theorem law_mul_ok (hf : LFracC F f) : runFn F W ⟨2, 2, B__law_mul f⟩ [fD x, fD y] μ = some (fD (mulF x y), μ) := by
  refine run_rt rfl (Nat.le_of_ble_eq_true rfl) (seq_rt ?_)
  walk_at "go"
  have b : Sm 4000 (x.1 * y.1) := (hx.1.mul hy.1).mono (by decide)
  simp [op_mulB 1800 hx.1 hy.1, op_mulB 1800 hx.2.1 hy.2.1, hf _ _ μ b (dn_mul hx.2.1 hy.2.1 hx.2.2.1 hy.2.2.1), wthD_some', andThen_some', mulF]
theorem law_div_ok (hf : LFracC F f) (hd : Dn (x.2 * y.1)) : runFn F W ⟨2, 2, B__law_div f⟩ [fD x, fD y] μ = some (fD (divF x y), μ) := by
  refine run_rt rfl (Nat.le_of_ble_eq_true rfl) (seq_rt ?_)
  walk_at "go"
  have b : Sm 4000 (x.1 * y.2) := (hx.1.mul hy.2.1).mono (by decide)
  simp [op_mulB 1800 hx.1 hy.2.1, op_mulB 1800 hx.2.1 hy.1, hf _ _ μ b hd, wthD_some', andThen_some', divF]
theorem less_ok : runFn F W ⟨2, 2, B_less⟩ [fD x, fD y] μ = some (.bl (decide (x.1 * y.2 < y.1 * x.2)), μ) := by
  refine run_rt rfl (Nat.le_of_ble_eq_true rfl) (seq_rt ?_)
  walk_at "go"
  simp [op_mulB 1800 hx.1 hy.2.1, op_mulB 1800 hy.1 hx.2.1, cmpD, wthD_some', andThen_some']
def lessF (x y : Int × Int) : Bool := decide (x.1 * y.2 < y.1 * x.2)
theorem least_ok (hf : F f [fD x, fD y] μ = some (.bl (lessF x y), μ)) : runFn F W ⟨2, 2, B_least f⟩ [fD x, fD y] μ = some (fD (if lessF x y then x else y), μ) := by
  refine run_rt rfl (Nat.le_of_ble_eq_true rfl) (seq_rt ?_)
  walk_at "go"
  simp [hf]
  cases lessF x y <;> simp [andThen_some', onBl_bl]
theorem most_ok (hf : F f [fD x, fD y] μ = some (.bl (lessF x y), μ)) : runFn F W ⟨2, 2, B_most f⟩ [fD x, fD y] μ = some (fD (if lessF x y then y else x), μ) := by
  refine run_rt rfl (Nat.le_of_ble_eq_true rfl) (seq_rt ?_)
  walk_at "go"
  simp [hf]
  cases lessF x y <;> simp [andThen_some', onBl_bl]
omit hx hy in
theorem mean_ok {g : Nat} {z : Int × Int} (hf : F f [fD x, fD y] μ = some (fD (addF x y), μ)) (hg : F g [fD (addF x y), fD (2, 1)] μ = some (fD z, μ)) : runFn F W ⟨2, 2, B_mean g f⟩ [fD x, fD y] μ = some (fD z, μ) := by
  refine run_rt rfl (Nat.le_of_ble_eq_true rfl) (seq_rt ?_)
  walk_at "go"
  simp [hf, hg, andThen_some', wthD_some', szle]
end
def sgI (n : Int) : Int := if 0 < n then 1 else if n < 0 then -1 else 0
theorem sign_of_ok (x : Int × Int) (μ : Cells) : runFn F W ⟨1, 1, B_sign_of⟩ [fD x] μ = some (.int (sgI x.1), μ) := by
  refine run_rt rfl (Nat.le_of_ble_eq_true rfl) (seq_rt ?_)
  walk_at "go"
  unfold sgI
  by_cases a : 0 < x.1
  · have b : ¬ x.1 < 0 := by omega
    simp [a, b, b2i]
  · by_cases b : x.1 < 0
    · simp [a, b, b2i]
    · simp [a, b, b2i]
theorem law_sgn_ok (x : Int × Int) (μ : Cells) : runFn F W ⟨1, 1, B__law_sgn⟩ [fD x] μ = some (.int (sgI x.1), μ) := by
  refine run_rt rfl (Nat.le_of_ble_eq_true rfl) (seq_rt ?_)
  walk_at "go"
  unfold sgI
  by_cases a : 0 < x.1
  · simp [a, andThen_some']
  · by_cases b : x.1 < 0
    · simp [a, b, andThen_some', onBl_bl, wthD_some']
    · simp [a, b, andThen_some', onBl_bl, wthD_some']
theorem floor_of_ok {x : Int × Int} (h : Dv x.2) (μ : Cells) : runFn F W ⟨1, 1, B_floor_of⟩ [fD x] μ = some (.int (x.1.fdiv x.2), μ) := by
  refine run_rt rfl (Nat.le_of_ble_eq_true rfl) (seq_rt ?_)
  walk_at "go"
  simp [op_div x.1 h, wthD_some', andThen_some']
theorem whole_ok (i : Int) (μ : Cells) : runFn F W ⟨1, 1, B_whole⟩ [.int i] μ = some (fD (i, 1), μ) := by
  refine run_rt rfl (Nat.le_of_ble_eq_true rfl) (seq_rt ?_)
  walk_at "go"
theorem is_whole_int (i : Int) (μ : Cells) : runFn F W ⟨1, 1, B_is_whole⟩ [.int i] μ = some (.bl true, μ) := by
  refine run_rt rfl (Nat.le_of_ble_eq_true rfl) (seq_rt ?_)
  walk_at "go"
end
end FM

set_option Elab.async false
set_option linter.all false
set_option maxRecDepth 100000
set_option maxHeartbeats 4000000
/-! M2: roots, the draws, alike. -/
namespace FM
open PySem (Str sizeLine)
open L2 (atI ixN)
open PySem.Spec PyProof.Rows
section
variable {F : Fs} {j k : Nat}
local macro_rules | `(tactic| walk_at "go") => `(tactic| simp [FM.runFn, FM.FD.fn, FM.execs, FM.exec, FM.ev, FM.evs, FM.evo, FM.evc, FM.evi, FM.lk, FM.lks, FM.It.lk, FM.isOw, FM.noOw, FM.Sl.isOw, FM.Sl.d, FM.isiD, FM.cmpD, FM.negD, FM.setAll, FM.bindT, FM.andThen_some', FM.onBl_bl, FM.wthD_some', FM.eqD_int, FM.ix_tup, FM.ix_lst, FM.atI_0, FM.atI_1, FM.atI_2, FM.op_add, FM.op_sub, FM.op_subBl, FM.biD_abs, FM.szle])
/-! ### is_frac of two whole numbers -/
theorem is_frac_ok {fw fc : Nat} (hw : ∀ (i : Int) (μ : Cells), F fw [.int i] μ = some (.bl true, μ)) (hc : CommonC F fc) (x : Int × Int) (h : Sm 4000 x.2) (μ : Cells) :
    runFn F W ⟨1, 2, B_is_frac fw fc⟩ [fD x] μ = some (.bl (decide (0 < x.2) && decide ((Int.gcd x.1 x.2 : Int) = 1)), μ) := by
  refine run_rt rfl (Nat.le_of_ble_eq_true rfl) (seq_nx (ρ1 := [some (.pl (fD x)), none]) (μ1 := μ) ?_ (seq_rt ?_))
  · walk_at "go"
    simp [biD, eqD_int, onBl_bl, wthD_some', lcGo, bindT, hw, andThen_some', asBls]
  · walk_at "go"
    by_cases z : 0 < x.2
    · simp [z, hc _ _ μ h, andThen_some', eqD_int, wthD_some', onBl_bl]
    · simp [z, onBl_bl, andThen_some']
theorem whileF_rt {c : Env → Cells → Option (Bool × Cells)} {b : Env → Cells → Option Res} {m : Nat} {ρ : Env} {μ μ1 : Cells} {d : D} (h : c ρ μ = some (true, μ)) (g : b ρ μ = some (.rt d μ1)) : whileF c b (m + 1) ρ μ = some (.rt d μ1) := by
  unfold whileF
  rw [h]
  simp only
  rw [g]
theorem whileF_nx {c : Env → Cells → Option (Bool × Cells)} {b : Env → Cells → Option Res} {m : Nat} {ρ ρ1 : Env} {μ μ1 : Cells} (h : c ρ μ = some (true, μ)) (g : b ρ μ = some (.nx ρ1 μ1)) : whileF c b (m + 1) ρ μ = whileF c b m ρ1 μ1 := by
  conv => lhs; unfold whileF
  rw [h]
  simp only
  rw [g]
theorem whileF_no {c : Env → Cells → Option (Bool × Cells)} {b : Env → Cells → Option Res} {m : Nat} {ρ : Env} {μ : Cells} (h : c ρ μ = some (false, μ)) : whileF c b (m + 1) ρ μ = some (.nx ρ μ) := by
  unfold whileF
  rw [h]
/-! ### roots -/
/-- r is the root of n, rounded down -/
def IsRt (n r : Int) : Prop := 0 ≤ r ∧ r * r ≤ n ∧ n < (r + 1) * (r + 1)
theorem IsRt.uniq {n r s : Int} (h : IsRt n r) (g : IsRt n s) : r = s := by
  obtain ⟨h1, h2, h3⟩ := h
  obtain ⟨g1, g2, g3⟩ := g
  rcases Int.lt_trichotomy r s with z | z | z
  · have : (r + 1) * (r + 1) ≤ s * s := Int.mul_le_mul (by omega) (by omega) (by omega) (by omega)
    omega
  · exact z
  · have : (s + 1) * (s + 1) ≤ r * r := Int.mul_le_mul (by omega) (by omega) (by omega) (by omega)
    omega
theorem sqn (a : Int) : 0 ≤ a * a := by
  rcases Int.le_total 0 a with h | h
  · exact Int.mul_nonneg h h
  · exact Int.mul_nonneg_of_nonpos_of_nonpos h h
theorem op_shl1 {p : Int} (h : 0 ≤ p ∧ p ≤ 1000000) : opD .LShift (.int 1) (.int p) = some (.int (2 ^ p.toNat)) := by
  show (if powOk 1 p then some (D.int (1 * 2 ^ p.toNat)) else none) = _
  have : powOk 1 p = true := by
    unfold powOk
    exact decide_eq_true ⟨h.1, h.2, by decide⟩
  rw [this, Int.one_mul]
  rfl
theorem me_bits (n : Int) : meD .bits (.int n) [] = some (.int (PySem.Builtin.Int.intBits n : Nat)) := rfl
/-- one step of the root -/
theorem newton {n f : Int} (hf : 0 < f) (hn : 0 ≤ n) :
    0 ≤ (f + n.fdiv f).fdiv 2 ∧ n < ((f + n.fdiv f).fdiv 2 + 1) * ((f + n.fdiv f).fdiv 2 + 1) ∧ (f ≤ (f + n.fdiv f).fdiv 2 → f * f ≤ n) ∧ (0 < n → 0 < (f + n.fdiv f).fdiv 2) := by
  have q1 : n.fdiv f * f ≤ n := by
    rw [Int.fdiv_eq_ediv_of_nonneg _ (by omega)]
    exact Int.ediv_mul_le n (by omega)
  have q2 : n < (n.fdiv f + 1) * f := by
    rw [Int.fdiv_eq_ediv_of_nonneg _ (by omega)]
    exact Int.lt_ediv_add_one_mul_self n hf
  have q0 : 0 ≤ n.fdiv f := Int.fdiv_nonneg hn (by omega)
  generalize n.fdiv f = q at *
  have l0 : (f + q).fdiv 2 = (f + q) / 2 := Int.fdiv_eq_ediv_of_nonneg _ (by decide)
  rw [l0]
  have l1 : (f + q) / 2 * 2 ≤ f + q := by omega
  have l2 : f + q ≤ (f + q) / 2 * 2 + 1 := by omega
  have l3 : 0 ≤ (f + q) / 2 := by omega
  refine ⟨l3, ?_, fun z => ?_, fun z => ?_⟩
  · generalize (f + q) / 2 = l at *
    have a : (f + q + 1) * (f + q + 1) ≤ (2 * (l + 1)) * (2 * (l + 1)) := Int.mul_le_mul (by omega) (by omega) (by omega) (by omega)
    have b : 0 ≤ (f - (q + 1)) * (f - (q + 1)) := sqn _
    grind
  · have a : f * f ≤ q * f := Int.mul_le_mul_of_nonneg_right (by omega) (by omega)
    omega
  · rcases Int.lt_or_le 1 f with z1 | z1
    · omega
    · have : f = 1 := by omega
      subst this
      omega
theorem root_loop {n : Int} {μ : Cells} (hn : 0 < n) (hs : Sm 3900 n) {c : Env → Cells → Option (Bool × Cells)} {b : Env → Cells → Option Res}
    (hc : ∀ ρ, c ρ μ = some (true, μ))
    (hb : ∀ (f : Int) (o : Option D), 0 < f → Sm 3900 f → b [some (.pl (.int n)), some (.pl (.int f)), o.map .pl] μ = if f ≤ (f + n.fdiv f).fdiv 2 then some (.rt (.int f) μ) else some (.nx [some (.pl (.int n)), some (.pl (.int ((f + n.fdiv f).fdiv 2))), some (.pl (.int ((f + n.fdiv f).fdiv 2)))] μ)) :
    ∀ (m : Nat) (f : Int) (o : Option D), 0 < f → f < m → Sm 3900 f → n < (f + 1) * (f + 1) → ∃ r : Int, whileF c b m [some (.pl (.int n)), some (.pl (.int f)), o.map .pl] μ = some (.rt (.int r) μ) ∧ IsRt n r
  | 0, f, o, h1, h2, h3, h4 => by omega
  | m + 1, f, o, h1, h2, h3, h4 => by
    have hb1 := hb f o h1 h3
    obtain ⟨n1, n2, n3, n4⟩ := newton (n := n) h1 (by omega)
    by_cases z : f ≤ (f + n.fdiv f).fdiv 2
    · rw [if_pos z] at hb1
      exact ⟨f, whileF_rt (hc _) hb1, by omega, n3 z, h4⟩
    · rw [if_neg z] at hb1
      rw [whileF_nx (hc _) hb1]
      refine root_loop hn hs hc hb m _ (some _) (n4 hn) (by omega) ?_ n2
      exact Nat.lt_trans (by have := n4 hn; omega) h3
theorem bits_start {n : Int} (h : 0 < n) (hs : Sm 3800 n) : let p : Nat := (PySem.Builtin.Int.intBits n + 1) / 2
    p ≤ 1901 ∧ 0 < (2 : Int) ^ p ∧ Sm 3900 (2 ^ p) ∧ n < ((2 : Int) ^ p + 1) * (2 ^ p + 1) := by
  intro p
  have e : PySem.Builtin.Int.intBits n = n.natAbs.log2 + 1 := by
    unfold PySem.Builtin.Int.intBits
    rw [if_neg (by simp; omega)]
  have l := hs.log
  have hp : p ≤ 1901 := by
    show (PySem.Builtin.Int.intBits n + 1) / 2 ≤ 1901
    omega
  have pos : 0 < (2 : Int) ^ p := Int.pow_pos (by decide)
  refine ⟨hp, pos, ?_, ?_⟩
  · unfold Sm
    rw [Int.natAbs_pow]
    exact Nat.pow_lt_pow_right (by decide) (by omega)
  · have a : n.natAbs < 2 ^ (p + p) := by
      refine Nat.lt_of_lt_of_le (Nat.lt_log2_self (n := n.natAbs)) (Nat.pow_le_pow_right (by decide) ?_)
      show n.natAbs.log2 + 1 ≤ (PySem.Builtin.Int.intBits n + 1) / 2 + (PySem.Builtin.Int.intBits n + 1) / 2
      omega
    have b : n < (2 : Int) ^ p * 2 ^ p := by
      rw [← Int.pow_add]
      have : ((2 ^ (p + p) : Nat) : Int) = (2 : Int) ^ (p + p) := by simp
      omega
    generalize (2 : Int) ^ p = q at *
    grind
def RootC (F : Fs) (f : Nat) : Prop := ∀ (n : Int) (μ : Cells), 0 ≤ n → Sm 3800 n → ∃ r, F f [.int n] μ = some (.int r, μ) ∧ IsRt n r
theorem root_fin {n f : Int} {μ : Cells} {c : E} {b : Ss} (h1 : 0 < f) (h2 : f < W) (h3 : Sm 3900 f) (h4 : n < (f + 1) * (f + 1)) (hn : 0 < n) (hs : Sm 3900 n)
    (hc : ∀ ρ, onBl (ev F c ρ μ) (fun x μ1 => some (x, μ1)) = some (true, μ))
    (hb : ∀ (f : Int) (o : Option D), 0 < f → Sm 3900 f → execs F W b [some (.pl (.int n)), some (.pl (.int f)), o.map .pl] μ = if f ≤ (f + n.fdiv f).fdiv 2 then some (.rt (.int f) μ) else some (.nx [some (.pl (.int n)), some (.pl (.int ((f + n.fdiv f).fdiv 2))), some (.pl (.int ((f + n.fdiv f).fdiv 2)))] μ)) :
    ∃ r : Int, execs F W (.cons (.whl c b) .nil) [some (.pl (.int n)), some (.pl (.int f)), none] μ = some (.rt (.int r) μ) ∧ IsRt n r := by
  obtain ⟨r, h5, h6⟩ := root_loop (c := fun ρ' μ' => onBl (ev F c ρ' μ') fun x μ1 => some (x, μ1)) (b := fun ρ' μ' => execs F W b ρ' μ') hn hs hc hb W f none h1 h2 h3 h4
  exact ⟨r, seq_rt (whl_of h5), h6⟩
theorem root_below_ok (n : Int) (μ : Cells) (hn : 0 ≤ n) (hs : Sm 3800 n) : ∃ r, runFn F W ⟨1, 3, B_root_below⟩ [.int n] μ = some (.int r, μ) ∧ IsRt n r := by
  by_cases z : n = 0
  · subst z
    refine ⟨0, run_rt rfl (Nat.le_of_ble_eq_true rfl) (seq_rt ?_), by unfold IsRt; decide⟩
    walk_at "go"
  · obtain ⟨b1, b2, b3, b4⟩ := bits_start (n := n) (by omega) hs
    have q : ∃ r : Int, _ ∧ IsRt n r := root_fin (F := F) (μ := μ) (c := .bl true) (b := (.cons (.asg 2 (.op .FloorDiv (.op .Add (.var 1) (.op .FloorDiv (.var 0) (.var 1))) (.int 2))) (.cons (.ifs (.cmp .GtE (.var 2) (.var 1)) (.cons (.ret (.var 1)) .nil) .nil) (.cons (.asg 1 (.var 2)) .nil)))) b2 (by have := smW (b3.mono (by decide)); omega) b3 b4 (by omega) (hs.mono (by decide)) (fun ρ => by walk_at "go") (fun f o hf hs => ?_)
    · obtain ⟨r, q1, q2⟩ := q
      refine ⟨r, run_rt rfl (Nat.le_of_ble_eq_true rfl) (seq_nx (ρ1 := [some (.pl (.int n)), none, none]) (μ1 := μ) ?_ (seq_nx (ρ1 := [some (.pl (.int n)), some (.pl (.int _)), none]) (μ1 := μ) ?_ q1)), q2⟩
      · walk_at "go"
        simp [z, onBl_bl]
      · have d2 : Dv 2 := .inl (by decide)
        have e : ((PySem.Builtin.Int.intBits n : Int) + 1).fdiv 2 = ((PySem.Builtin.Int.intBits n : Int) + 1) / 2 := Int.fdiv_eq_ediv_of_nonneg _ (by decide)
        have e2 : (((PySem.Builtin.Int.intBits n : Int) + 1) / 2).toNat = (PySem.Builtin.Int.intBits n + 1) / 2 := by omega
        have sh := op_shl1 (p := ((PySem.Builtin.Int.intBits n : Int) + 1) / 2) ⟨by omega, by omega⟩
        rw [e2] at sh
        walk_at "go"
        simp [me_bits, op_div _ d2, op_add, andThen_some', wthD_some', e, sh]
    · have d1 : Dv f := Dv.pos hf hs (by decide)
      have d2 : Dv 2 := .inl (by decide)
      refine seq_nx (ρ1 := [some (.pl (.int n)), some (.pl (.int f)), some (.pl (.int ((f + n.fdiv f).fdiv 2)))]) (μ1 := μ) ?_ ?_
      · cases o <;>
        · walk_at "go"
          simp [op_div _ d1, op_div _ d2, op_add, andThen_some', wthD_some']
      · split
        · rename_i z
          refine seq_rt ?_
          walk_at "go"
          simp [z]
        · rename_i z
          refine seq_nx (ρ1 := [some (.pl (.int n)), some (.pl (.int f)), some (.pl (.int ((f + n.fdiv f).fdiv 2)))]) (μ1 := μ) ?_ ?_
          · walk_at "go"
            omega
          · walk_at "go"
end
end FM

set_option Elab.async false
set_option linter.all false
set_option maxRecDepth 100000
set_option maxHeartbeats 4000000
/-! M3: roots of fractions, sums of lists, the draws, alike. -/
namespace FM
open PySem (Str sizeLine)
open L2 (atI ixN)
open PySem.Spec PyProof.Rows
section
variable {F : Fs} {j k : Nat}
local macro_rules | `(tactic| walk_at "go") => `(tactic| simp [FM.runFn, FM.FD.fn, FM.execs, FM.exec, FM.ev, FM.evs, FM.evo, FM.evc, FM.evi, FM.lk, FM.lks, FM.It.lk, FM.isOw, FM.noOw, FM.Sl.isOw, FM.Sl.d, FM.isiD, FM.cmpD, FM.negD, FM.setAll, FM.bindT, FM.andThen_some', FM.onBl_bl, FM.wthD_some', FM.eqD_int, FM.ix_tup, FM.ix_lst, FM.atI_0, FM.atI_1, FM.atI_2, FM.op_add, FM.op_sub, FM.op_subBl, FM.biD_abs, FM.szle])
theorem IsRt.sm {n r : Int} {k : Nat} (h : IsRt n r) (hs : Sm k n) : Sm k r := by
  obtain ⟨h1, h2, h3⟩ := h
  have a : r ≤ r * r := by
    rcases Int.lt_or_le 0 r with z | z
    · have := Int.mul_le_mul_of_nonneg_left (show 1 ≤ r by omega) h1
      omega
    · have : r = 0 := by omega
      subst this
      decide
  exact Nat.lt_of_le_of_lt (by omega) hs
/-- the exact root of a fraction, or none -/
theorem exact_root_ok {f : Nat} {x : Int × Int} (hr : RootC F f) (hx : Fq 1800 x) (μ : Cells) :
    if x.1 < 0 then runFn F W ⟨1, 3, B_exact_root f⟩ [fD x] μ = some (.non, μ)
    else ∃ r s, IsRt x.1 r ∧ IsRt x.2 s ∧ runFn F W ⟨1, 3, B_exact_root f⟩ [fD x] μ = some (if r * r = x.1 ∧ s * s = x.2 then fD (r, s) else .non, μ) := by
  split
  · rename_i z
    refine run_rt rfl (Nat.le_of_ble_eq_true rfl) (seq_rt ?_)
    walk_at "go"
    simp [z]
  · rename_i z
    obtain ⟨r, r1, r2⟩ := hr x.1 μ (by omega) (hx.1.mono (by decide))
    obtain ⟨s, s1, s2⟩ := hr x.2 μ (by have := hx.2.2.1; omega) (hx.2.1.mono (by decide))
    refine ⟨r, s, r2, s2, run_rt rfl (Nat.le_of_ble_eq_true rfl) (seq_nx (ρ1 := [some (.pl (fD x)), none, none]) (μ1 := μ) ?_ (seq_nx (ρ1 := [some (.pl (fD x)), some (.pl (.int r)), some (.pl (.int s))]) (μ1 := μ) ?_ (seq_rt ?_)))⟩
    · walk_at "go"
      omega
    · walk_at "go"
      simp [r1, s1, andThen_some']
    · have q1 := op_mulB 1800 (r2.sm hx.1) (r2.sm hx.1) (by decide)
      have q2 := op_mulB 1800 (s2.sm hx.2.1) (s2.sm hx.2.1) (by decide)
      walk_at "go"
      by_cases a : r * r = x.1
      · by_cases b : s * s = x.2
        · simp [q1, q2, a, b, andThen_some', wthD_some', eqD_int, onBl_bl, szle]
        · simp [q1, q2, a, b, andThen_some', wthD_some', eqD_int, onBl_bl, szle]
      · simp [q1, q2, a, andThen_some', wthD_some', eqD_int, onBl_bl, szle]
/-- s is the least that reaches -/
def IsUp (n d s : Int) : Prop := 0 ≤ s ∧ n ≤ s * s * d ∧ ∀ t, 0 ≤ t → t < s → t * t * d < n
theorem up_loop {p n d : Int} {x : D} {μ : Cells} (hd : 0 < d) {c : Env → Cells → Option (Bool × Cells)} {b : Env → Cells → Option Res}
    (hc : ∀ f : Int, 0 ≤ f → Sm 1900 f → c [some (.pl x), some (.pl (.int p)), some (.pl (.int n)), some (.pl (.int f))] μ = some (decide (f * f * d < n), μ))
    (hb : ∀ f : Int, b [some (.pl x), some (.pl (.int p)), some (.pl (.int n)), some (.pl (.int f))] μ = some (.nx [some (.pl x), some (.pl (.int p)), some (.pl (.int n)), some (.pl (.int (f + 1)))] μ)) :
    ∀ (m : Nat) (f t : Int), 0 ≤ f → f ≤ t → Sm 1900 t → n ≤ t * t * d → (t - f).toNat < m → (∀ t, 0 ≤ t → t < f → t * t * d < n) → ∃ s : Int, whileF c b m [some (.pl x), some (.pl (.int p)), some (.pl (.int n)), some (.pl (.int f))] μ = some (.nx [some (.pl x), some (.pl (.int p)), some (.pl (.int n)), some (.pl (.int s))] μ) ∧ IsUp n d s ∧ s ≤ t
  | 0, f, t, _, _, _, _, h, _ => by omega
  | m + 1, f, t, h0, h1, h2, h3, h4, h5 => by
    have c1 := hc f h0 (Nat.lt_of_le_of_lt (by omega) h2)
    by_cases z : f * f * d < n
    · rw [decide_eq_true z] at c1
      rw [whileF_nx c1 (hb f)]
      have ne : f ≠ t := fun e => by subst e; omega
      refine up_loop hd hc hb m (f + 1) t (by omega) (by omega) h2 h3 (by omega) (fun u u0 u1 => ?_)
      by_cases e : u = f
      · subst e
        exact z
      · exact h5 u u0 (by omega)
    · rw [decide_eq_false z] at c1
      exact ⟨f, whileF_no c1, ⟨h0, by omega, h5⟩, h1⟩
theorem up_fin {p n d : Int} {x : D} {μ : Cells} (hd : 0 < d) {c : E} {b : Ss}
    (hc : ∀ f : Int, 0 ≤ f → Sm 1900 f → onBl (ev F c [some (.pl x), some (.pl (.int p)), some (.pl (.int n)), some (.pl (.int f))] μ) (fun x μ1 => some (x, μ1)) = some (decide (f * f * d < n), μ))
    (hb : ∀ f : Int, execs F W b [some (.pl x), some (.pl (.int p)), some (.pl (.int n)), some (.pl (.int f))] μ = some (.nx [some (.pl x), some (.pl (.int p)), some (.pl (.int n)), some (.pl (.int (f + 1)))] μ))
    (f t : Int) (h0 : 0 ≤ f) (h1 : f ≤ t) (h2 : Sm 1900 t) (h3 : n ≤ t * t * d) (h5 : ∀ t, 0 ≤ t → t < f → t * t * d < n) : ∃ s : Int, exec F W (.whl c b) [some (.pl x), some (.pl (.int p)), some (.pl (.int n)), some (.pl (.int f))] μ = some (.nx [some (.pl x), some (.pl (.int p)), some (.pl (.int n)), some (.pl (.int s))] μ) ∧ IsUp n d s ∧ s ≤ t := by
  obtain ⟨s, e, u⟩ := up_loop (c := fun ρ' μ' => onBl (ev F c ρ' μ') fun x μ1 => some (x, μ1)) (b := fun ρ' μ' => execs F W b ρ' μ') hd hc hb W f t h0 h1 h2 h3 (by have := smW (h2.mono (k := 4000) (by decide)); omega) h5
  exact ⟨s, whl_of e, u⟩
theorem root_above_ok {f g : Nat} {x : Int × Int} {p : Int} (hr : RootC F f) (hf : FracC F g) (hx : Fq 600 x) (x0 : 0 ≤ x.1) (hp : Sm 600 p) (p0 : 0 < p) (μ : Cells) :
    ∃ s, IsUp (x.1 * p * p) x.2 s ∧ runFn F W ⟨2, 4, B_root_above f g⟩ [fD x, .int p] μ = some (fD (fr s p), μ) := by
  have s1 : Sm 1200 (x.1 * p) := hx.1.mul hp
  have s2 : Sm 1800 (x.1 * p * p) := s1.mul hp
  have n0 : 0 ≤ x.1 * p * p := Int.mul_nonneg (Int.mul_nonneg x0 (by omega)) (by omega)
  have d0 := hx.2.2.1
  have dv : Dv x.2 := Dv.pos d0 hx.2.1 (by decide)
  have q0 : 0 ≤ (x.1 * p * p).fdiv x.2 := Int.fdiv_nonneg n0 (by omega)
  obtain ⟨r, r1, r2⟩ := hr ((x.1 * p * p).fdiv x.2) μ q0 ((s2.fdiv _).mono (by decide))
  obtain ⟨r3, r4, r5⟩ := r2
  have qn : (x.1 * p * p).fdiv x.2 * x.2 ≤ x.1 * p * p := by
    rw [Int.fdiv_eq_ediv_of_nonneg _ (by omega)]
    exact Int.ediv_mul_le _ (by omega)
  have rr : r * r * x.2 ≤ x.1 * p * p := Int.le_trans (Int.mul_le_mul_of_nonneg_right r4 (by omega)) qn
  have low : ∀ t, 0 ≤ t → t < r → t * t * x.2 < x.1 * p * p := fun t t0 t1 => by
    have a : t * t < r * r := by
      have a1 : t * t ≤ t * r := Int.mul_le_mul_of_nonneg_left (by omega) t0
      have a2 : t * r < r * r := Int.mul_lt_mul_of_pos_right t1 (by omega)
      omega
    have := Int.mul_lt_mul_of_pos_right a d0
    omega
  have top : x.1 * p * p ≤ (x.1 * p * p) * (x.1 * p * p) * x.2 := by
    generalize x.1 * p * p = n at *
    rcases Int.lt_or_le 0 n with z | z
    · have a : n * 1 ≤ n * n := Int.mul_le_mul_of_nonneg_left (by omega) (by omega)
      have b : n * n * 1 ≤ n * n * x.2 := Int.mul_le_mul_of_nonneg_left (by omega) (sqn n)
      omega
    · have : n = 0 := by omega
      subst this
      simp
  have rle : r ≤ x.1 * p * p := by
    have a : r ≤ r * r := by
      rcases Int.lt_or_le 0 r with z | z
      · have := Int.mul_le_mul_of_nonneg_left (show 1 ≤ r by omega) r3
        omega
      · have : r = 0 := by omega
        subst this
        decide
    have b : r * r * 1 ≤ r * r * x.2 := Int.mul_le_mul_of_nonneg_left (by omega) (sqn r)
    omega
  obtain ⟨s, e1, e2, e3⟩ := up_fin (F := F) (μ := μ) (p := p) (n := x.1 * p * p) (x := fD x) (c := (.cmp .Lt (.op .Mult (.op .Mult (.var 3) (.var 3)) (.ix (.var 0) (.int 1))) (.var 2))) (b := .cons (.aug 3 .Add (.int 1)) .nil) d0 (fun f f0 hf => by
    walk_at "go"
    simp [op_mulB 1900 hf hf, op_mul (hf.mul hf) hx.2.1, wthD_some', andThen_some', cmpD, onBl_bl]) (fun f => by walk_at "go") r (x.1 * p * p) r3 rle (s2.mono (by decide)) top low
  refine ⟨s, e2, run_rt rfl (Nat.le_of_ble_eq_true rfl) (seq_nx (ρ1 := [some (.pl (fD x)), some (.pl (.int p)), some (.pl (.int (x.1 * p * p))), none]) (μ1 := μ) ?_ (seq_nx (ρ1 := [some (.pl (fD x)), some (.pl (.int p)), some (.pl (.int (x.1 * p * p))), some (.pl (.int r))]) (μ1 := μ) ?_ (seq_nx e1 (seq_rt ?_))))⟩
  · walk_at "go"
    simp [op_mul hx.1 hp, op_mul s1 hp, wthD_some', andThen_some']
  · walk_at "go"
    simp [op_div _ dv, wthD_some', andThen_some', r1]
  · walk_at "go"
    simp [hf s p μ ⟨hp.mono (by decide), .inl p0⟩, andThen_some']
/-! ### sums of lists -/
theorem sum3_ok {f : Nat} {x y z s1 s2 s3 : D} {μ : Cells} (h1 : F f [fD (0, 1), x] μ = some (s1, μ)) (h2 : F f [s1, y] μ = some (s2, μ)) (h3 : F f [s2, z] μ = some (s3, μ)) : runFn F W ⟨1, 3, B_sum_of f⟩ [.lst [x, y, z]] μ = some (s3, μ) := by
  refine run_rt rfl (Nat.le_of_ble_eq_true rfl) ?_
  unfold B_sum_of
  walk_at "go"
  simp [forF, bindT, h1, h2, h3, andThen_some']
end
end FM

set_option Elab.async false
set_option linter.all false
set_option maxRecDepth 100000
set_option maxHeartbeats 4000000
/-! M4: the draws, alike. -/
namespace FM
open PySem (Str sizeLine)
open L2 (atI ixN Key)
open PySem.Spec PyProof.Rows
section
variable {F : Fs} {j k : Nat}
local macro_rules | `(tactic| walk_at "go") => `(tactic| simp [FM.runFn, FM.FD.fn, FM.execs, FM.exec, FM.ev, FM.evs, FM.evo, FM.evc, FM.evi, FM.lk, FM.lks, FM.It.lk, FM.isOw, FM.noOw, FM.Sl.isOw, FM.Sl.d, FM.isiD, FM.cmpD, FM.negD, FM.setAll, FM.bindT, FM.andThen_some', FM.onBl_bl, FM.wthD_some', FM.eqD_int, FM.ix_tup, FM.ix_lst, FM.atI_0, FM.atI_1, FM.atI_2, FM.op_add, FM.op_sub, FM.op_subBl, FM.biD_abs, FM.szle])
/-- the law's cell -/
def cw (is : List Int) (k : Int) : Cell := [(.inr "draws", .lst (is.map D.int)), (.inr "at", .int k)]
theorem cw_draws (is : List Int) (k : Int) : valC (cw is k) (.inr "draws") = some (.lst (is.map D.int)) := by
  unfold valC cw
  rfl
theorem cw_at (is : List Int) (k : Int) : valC (cw is k) (.inr "at") = some (.int k) := by
  have : ((Sum.inr ("draws" : Str) : Key) = Sum.inr ("at" : Str)) = False := by simp; decide
  unfold valC cw
  simp [this]
theorem cw_put (is : List Int) (k i : Int) : putC (cw is k) (.inr "at") (.int i) = cw is i := by
  have : ((Sum.inr ("draws" : Str) : Key) = Sum.inr ("at" : Str)) = False := by simp; decide
  unfold putC cw
  simp [this]
theorem atI_int {is : List Int} {k : Int} (h0 : 0 ≤ k) (h1 : k < is.length) : ∃ i : Int, atI (is.map D.int) k = some (.int i) := by
  have e : k.toNat < is.length := by omega
  refine ⟨is[k.toNat], ?_⟩
  unfold atI ixN
  simp
  rw [if_pos h0, if_pos h1]
  simp [e]
theorem next_ok (is : List Int) (k many : Int) (h : 0 < many) (hk : 0 ≤ k) (μ : Cells) : ∃ r : Int, 0 ≤ r ∧ r < many ∧ runFn F W ⟨2, 2, B__law_next⟩ [.cell 0, .int many] (cw is k :: μ) = some (.int r, cw is (k + 1) :: μ) := by
  by_cases z : (is.length : Int) < k + 1
  · refine ⟨0, Int.le_refl _, h, run_rt rfl (Nat.le_of_ble_eq_true rfl) (seq_nx (ρ1 := [some (.pl (.cell 0)), some (.pl (.int many))]) (μ1 := cw is (k + 1) :: μ) ?_ (seq_rt ?_))⟩
    · have : (cw is k).length < sizeLine := Nat.lt_of_lt_of_le (show 2 < 16777216 by decide) (by decide)
      walk_at "go"
      simp [keyD, cw_at, cw_put, this]
    · walk_at "go"
      simp [ixD, keyD, cw_at, cw_draws, wthD_some', andThen_some', biD, cmpD, onBl_bl, z]
  · obtain ⟨i, hi⟩ := atI_int (is := is) (k := k) hk (by omega)
    refine ⟨i.fmod many, Int.fmod_nonneg_of_pos i h, Int.fmod_lt_of_pos i h, run_rt rfl (Nat.le_of_ble_eq_true rfl) (seq_nx (ρ1 := [some (.pl (.cell 0)), some (.pl (.int many))]) (μ1 := cw is (k + 1) :: μ) ?_ (seq_nx (ρ1 := [some (.pl (.cell 0)), some (.pl (.int many))]) (μ1 := cw is (k + 1) :: μ) ?_ (seq_rt ?_)))⟩
    · have : (cw is k).length < sizeLine := Nat.lt_of_lt_of_le (show 2 < 16777216 by decide) (by decide)
      walk_at "go"
      simp [keyD, cw_at, cw_put, this]
    · walk_at "go"
      simp [ixD, keyD, cw_at, cw_draws, wthD_some', andThen_some', biD, cmpD, onBl_bl, z]
    · have e : k + 1 - 1 = k := by omega
      walk_at "go"
      simp [ixD, keyD, cw_at, cw_draws, wthD_some', andThen_some', biD, cmpD, onBl_bl, op_sub, e, hi, op_mod i (show many ≠ 0 by omega)]
/-! ### alike -/
def LikeC (F : Fs) (f : Nat) (d : D) : Prop := ∀ μ, F f [d, d] μ = some (.bl true, μ)
theorem alike_scal {f : Nat} {d : D} (h : d.scal = true) (μ : Cells) : runFn F W ⟨2, 3, B__law_alike f⟩ [d, d] μ = some (.bl true, μ) := by
  refine run_rt rfl (Nat.le_of_ble_eq_true rfl) ?_
  unfold B__law_alike
  cases d <;> first
    | (cases h; done)
    | (walk_at "go"; simp [isNon, eqD, scalOk, eqS, D.scal, onBl_bl, wthD_some', andThen_some', h])
theorem alike_go {f : Nat} {ds es : List D} {μ : Cells} {ρ : Env} (n : Nat) (c : Env → Cells → Option (Bool × Cells)) (g : Env → Cells → Option (D × Cells)) (hc : ∀ k : Nat, k < n → ∃ ρ1, bindT (.nm 2) (.int k) ρ = some ρ1 ∧ c ρ1 μ = some (false, μ)) :
    ∀ (l : List Nat), (∀ k ∈ l, k < n) → lcGo (.nm 2) c g ρ (l.map fun (k : Nat) => D.int (0 + k)) μ = some ([], μ)
  | [], _ => rfl
  | k :: l, h => by
    obtain ⟨ρ1, e1, e2⟩ := hc k (h k (by simp))
    have ih := alike_go n c g hc l (fun k hk => h k (by simp [hk])) (f := f) (ds := ds) (es := es)
    show lcGo (.nm 2) c g ρ (D.int (0 + k) :: l.map fun (k : Nat) => D.int (0 + k)) μ = _
    unfold lcGo
    rw [Int.zero_add, e1]
    simp only
    rw [e2]
    exact ih
theorem ev_lc {elt : E} {tg : Tg} {it : It} {cond : EO} {ρ : Env} {μ μ1 μ2 : Cells} {xs ys : List D} (h1 : evi F it ρ μ = some (xs, μ1)) (hl : xs.length ≤ 16777216) (h2 : lcGo tg (fun ρ' μ' => evc F cond ρ' μ') (fun ρ' μ' => if lk ρ' elt then none else ev F elt ρ' μ') ρ xs μ1 = some (ys, μ2)) : ev F (.lc elt tg it cond) ρ μ = some (.lst ys, μ2) := by
  unfold ev
  rw [h1]
  show (if xs.length ≤ 16777216 then _ else _) = _
  rw [if_pos hl, h2]
  rfl
theorem ifs_t {c : E} {a b : Ss} {ρ : Env} {μ μ1 : Cells} {r : Option Res} (h : ev F c ρ μ = some (.bl true, μ1)) (g : execs F W a ρ μ1 = r) : exec F W (.ifs c a b) ρ μ = r := by
  unfold exec
  rw [h]
  exact g
theorem ifs_f {c : E} {a b : Ss} {ρ : Env} {μ μ1 : Cells} {r : Option Res} (h : ev F c ρ μ = some (.bl false, μ1)) (g : execs F W b ρ μ1 = r) : exec F W (.ifs c a b) ρ μ = r := by
  unfold exec
  rw [h]
  exact g
theorem ret_of {e : E} {ρ : Env} {μ μ1 : Cells} {d : D} (h : lk ρ e = false) (g : ev F e ρ μ = some (d, μ1)) : exec F W (.ret e) ρ μ = some (.rt d μ1) := by
  unfold exec
  rw [h, g]
  rfl
theorem cmp_of {o : PySem.CmpOp} {a b : E} {ρ : Env} {μ μ1 μ2 : Cells} {x y : D} {t : Bool} (h : ev F a ρ μ = some (x, μ1)) (g : ev F b ρ μ1 = some (y, μ2)) (e : cmpD o x y = some t) : ev F (.cmp o a b) ρ μ = some (.bl t, μ2) := by
  unfold ev
  rw [h]
  show andThen (ev F b ρ μ1) _ = _
  rw [g]
  show wthD ((cmpD o x y).map D.bl) μ2 = _
  rw [e]
  rfl
theorem len_tup (μ : Cells) (ds : List D) : biD μ .len [.tup ds] = some (.int ds.length) := rfl
theorem len_lst (μ : Cells) (ds : List D) : biD μ .len [.lst ds] = some (.int ds.length) := rfl
theorem evi_rng {ρ : Env} {e : E} {n : Nat} {μ μ1 : Cells} (h : ev F e ρ μ = some (.int n, μ1)) (hn : n ≤ 16777216) : evi F (.rng1 e) ρ μ = some (rngD 0 n, μ1) := by
  have t : rngOk n = true := by
    unfold rngOk
    rw [Bool.and_eq_true, decide_eq_true_eq, decide_eq_true_eq]
    omega
  unfold evi
  rw [h, andThen_some']
  simp only [t, if_true, Int.toNat_natCast]
theorem rng_len (lo : Int) (n : Nat) : (rngD lo n).length = n := by
  unfold rngD
  simp
theorem atI_nat {α : Type} {l : List α} {k : Nat} (h : k < l.length) : atI l (k : Int) = some l[k] := by
  unfold atI ixN
  simp [h]
theorem alike_tup {f : Nat} {ds : List D} (hl : ds.length ≤ 1000) (h : ∀ d ∈ ds, LikeC F f d) (μ : Cells) : runFn F W ⟨2, 3, B__law_alike f⟩ [.tup ds, .tup ds] μ = some (.bl true, μ) := by
  refine run_rt rfl (Nat.le_of_ble_eq_true rfl) (seq_rt (ifs_t (μ1 := μ) ?_ (seq_nx (ρ1 := [some (.pl (.tup ds)), some (.pl (.tup ds)), none]) (μ1 := μ) (ifs_f (μ1 := μ) ?_ ?_) (seq_rt (ret_of rfl (cmp_of (x := .lst []) (y := .lst []) (ev_lc (xs := rngD 0 ds.length) (μ1 := μ) (evi_rng ?_ (by omega)) (by rw [rng_len]; omega) (alike_go ds.length _ _ (fun k hk => ⟨[some (.pl (.tup ds)), some (.pl (.tup ds)), some (.pl (.int k))], rfl, ?_⟩) _ (fun k hk => List.mem_range.mp hk) (f := f) (ds := ds) (es := ds))) ?_ ?_))))))
  · walk_at "go"
  · walk_at "go"
    simp [len_tup, andThen_some', eqD_int, wthD_some', onBl_bl]
  · walk_at "go"
  · walk_at "go"
    simp [len_tup, andThen_some', eqD_int, wthD_some', onBl_bl]
  · have e := h ds[k] (List.getElem_mem hk) μ
    walk_at "go"
    simp [atI_nat hk, andThen_some', wthD_some', onBl_bl, e]
  · walk_at "go"
  · rfl
end
end FM

set_option Elab.async false
set_option linter.all false
set_option maxRecDepth 100000
set_option maxHeartbeats 4000000
/-! M5: the draws. -/
namespace FM
open PySem (Str sizeLine)
open L2 (atI ixN Key)
open PySem.Spec PyProof.Rows
section
variable {F : Fs} {j k : Nat}
local macro_rules | `(tactic| walk_at "go") => `(tactic| simp [FM.runFn, FM.FD.fn, FM.execs, FM.exec, FM.ev, FM.evs, FM.evo, FM.evc, FM.evi, FM.lk, FM.lks, FM.It.lk, FM.isOw, FM.noOw, FM.Sl.isOw, FM.Sl.d, FM.isiD, FM.cmpD, FM.negD, FM.setAll, FM.bindT, FM.andThen_some', FM.onBl_bl, FM.wthD_some', FM.eqD_int, FM.ix_tup, FM.ix_lst, FM.atI_0, FM.atI_1, FM.atI_2, FM.op_add, FM.op_sub, FM.op_subBl, FM.biD_abs, FM.szle])
theorem forF_inv (I : List D → Env → Cells → Prop) {tg : Tg} {b : Env → Cells → Option Res}
    (h : ∀ x ys ρ μ, I (x :: ys) ρ μ → ∃ ρ1 ρ2 μ2, bindT tg x ρ = some ρ1 ∧ b ρ1 μ = some (.nx ρ2 μ2) ∧ I ys ρ2 μ2) :
    ∀ (xs : List D) (ρ : Env) (μ : Cells), I xs ρ μ → ∃ ρ' μ', forF tg b xs ρ μ = some (.nx ρ' μ') ∧ I [] ρ' μ'
  | [], ρ, μ, g => ⟨ρ, μ, rfl, g⟩
  | x :: xs, ρ, μ, g => by
    obtain ⟨ρ1, ρ2, μ2, e1, e2, g2⟩ := h x xs ρ μ g
    obtain ⟨ρ', μ', e3, g3⟩ := forF_inv I h xs ρ2 μ2 g2
    refine ⟨ρ', μ', ?_, g3⟩
    unfold forF
    rw [e1]
    simp only
    rw [e2]
    exact e3
/-- whole numbers from a to b -/
def Ints (a b : Int) (xs : List D) : Prop := ∀ x ∈ xs, ∃ i : Int, x = .int i ∧ a ≤ i ∧ i < b
theorem Ints.head {a b : Int} {x : D} {xs : List D} (h : Ints a b (x :: xs)) : ∃ i : Int, x = .int i ∧ a ≤ i ∧ i < b := h x (by simp)
theorem Ints.tail {a b : Int} {x : D} {xs : List D} (h : Ints a b (x :: xs)) : Ints a b xs := fun y hy => h y (by simp [hy])
theorem ints_rng (n : Nat) : Ints 0 n (rngD 0 n) := fun x hx => by
  unfold rngD at hx
  obtain ⟨k, hk, rfl⟩ := List.mem_map.mp hx
  have := List.mem_range.mp hk
  exact ⟨_, rfl, by omega, by omega⟩
/-- a place without an owned list -/
abbrev pE (s : List D) (m : Int) (is : List Int) (mx : Int) (o4 o5 o6 o7 : Option D) : Env := [some (.pl (.lst s)), some (.pl (.int m)), some (.ow (is.map D.int)), some (.pl (.int mx)), o4.map .pl, o5.map .pl, o6.map .pl, o7.map .pl]
theorem pow1018 : opD .Pow (.int 10) (.int 18) = some (.int 1000000000000000000) := by rfl
theorem bi_int (μ : Cells) (i : Int) : biD μ .int [.int i] = some (.int i) := rfl
theorem app_ow {is : List Int} {i : Int} : is.map D.int ++ [D.int i] = (is ++ [i]).map D.int := by simp
def MxI (mx : Int) : Prop := 0 ≤ mx ∧ mx < 65537
theorem MxI.sm {mx : Int} (h : MxI mx) : Sm 17 mx := by
  unfold Sm
  obtain ⟨h1, h2⟩ := h
  have : (65537 : Nat) < 2 ^ 17 := by decide
  omega
theorem MxI.mod (i : Int) : MxI (i.fmod 65537) := ⟨Int.fmod_nonneg_of_pos i (by decide), Int.fmod_lt_of_pos i (by decide)⟩
theorem sz_lt {n : Nat} (h : n < 100000) : n < sizeLine := Nat.lt_of_lt_of_le h (by decide)
def bIn : Ss := (.cons (.ifs (.cmp .Gt (.var 6) (.int 0)) (.cons (.app 2 (.op .Mod (.bi .int (.cons (.var 6) .nil)) (.int 997))) (.cons (.asg 6 (.op .FloorDiv (.var 6) (.int 997))) .nil)) .nil) .nil)
theorem in_step {s : List D} {m mx rest i : Int} {is : List Int} {o4 o5 o7 : Option D} {μ : Cells} (hl : is.length < 100000) : ∃ is' rest', is'.length ≤ is.length + 1 ∧ execs F W bIn (pE s m is mx o4 o5 (some (.int rest)) (some (.int i))) μ = some (.nx (pE s m is' mx o4 o5 (some (.int rest')) (some (.int i))) μ) := by
  have d : Dv 997 := .inl (by decide)
  have n : (997 : Int) ≠ 0 := by decide
  by_cases z : 0 < rest
  · refine ⟨is ++ [rest.fmod 997], rest.fdiv 997, by simp, seq_nx (ifs_t (μ1 := μ) ?_ (seq_nx (ρ1 := pE s m (is ++ [rest.fmod 997]) mx o4 o5 (some (.int rest)) (some (.int i))) (μ1 := μ) ?_ (seq_nx ?_ rfl))) rfl⟩
    · walk_at "go"
      exact z
    · walk_at "go"
      simp [bi_int, op_mod _ n, andThen_some', wthD_some', sz_lt hl]
    · walk_at "go"
      simp [op_div _ d, andThen_some', wthD_some']
  · refine ⟨is, rest, by omega, seq_nx (ifs_f (μ1 := μ) ?_ rfl) rfl⟩
    walk_at "go"
    omega
def bOut : Ss := (.cons (.asg 5 (.bi .abs (.cons (.bi .int (.cons (.ix (.var 0) (.var 4)) .nil)) .nil))) (.cons (.asg 3 (.op .Mod (.bi .int (.cons (.op .Add (.op .Add (.op .Mult (.var 3) (.int 48271)) (.op .Mod (.var 5) (.int 1000003))) (.var 4)) .nil)) (.int 65537))) (.cons (.asg 6 (.int 0)) (.cons (.ifs (.cmp .GtE (.var 5) (.op .Pow (.int 10) (.int 18))) (.cons (.asg 6 (.var 5)) .nil) (.cons (.app 2 (.op .Mod (.bi .int (.cons (.var 5) .nil)) (.int 997))) (.cons (.app 2 (.op .Mod (.op .Mod (.bi .int (.cons (.op .Add (.op .Mult (.var 3) (.int 69621)) (.int 5)) .nil)) (.int 65521)) (.int 997))) .nil))) (.cons (.for_ (.nm 7) (.rng1 (.int 60)) bIn) .nil)))))
theorem in_loop {s : List D} {m mx : Int} {o4 o5 : Option D} {μ : Cells} (N : Nat) (xs : List D) (rest : Int) (is : List Int) (o7 : Option D) (hl : is.length + xs.length ≤ N) (hN : N < 100000) (hx : Ints 0 60 xs) :
    ∃ is' rest' o7', is'.length ≤ N ∧ forF (.nm 7) (fun ρ' μ' => execs F W bIn ρ' μ') xs (pE s m is mx o4 o5 (some (.int rest)) o7) μ = some (.nx (pE s m is' mx o4 o5 (some (.int rest')) o7') μ) := by
  obtain ⟨ρ', μ', e1, e2⟩ := forF_inv (fun ys ρ μ1 => μ1 = μ ∧ Ints 0 60 ys ∧ ∃ is' rest' o7', ρ = pE s m is' mx o4 o5 (some (.int rest')) o7' ∧ is'.length + ys.length ≤ N) (tg := .nm 7) (b := fun ρ' μ' => execs F W bIn ρ' μ') (fun x ys ρ μ1 h => by
    obtain ⟨rfl, h1, is', rest', o7', rfl, h2⟩ := h
    obtain ⟨i, rfl, _⟩ := h1.head
    rw [List.length_cons] at h2
    obtain ⟨is2, r2, l2, e2⟩ := in_step (F := F) (s := s) (m := m) (mx := mx) (rest := rest') (i := i) (is := is') (o4 := o4) (o5 := o5) (o7 := o7') (μ := μ1) (by omega)
    exact ⟨_, _, _, rfl, e2, rfl, h1.tail, is2, r2, _, rfl, by omega⟩) xs _ μ ⟨rfl, hx, is, rest, o7, rfl, hl⟩
  obtain ⟨rfl, _, is', rest', o7', rfl, h2⟩ := e2
  exact ⟨is', rest', o7', h2, e1⟩
theorem out_step {ns : List Int} {m mx i : Int} {is : List Int} {o5 o6 o7 : Option D} {μ : Cells} (hm : MxI mx) (hl : is.length < 90000) (hi : 0 ≤ i) (hn : i < ns.length) :
    ∃ is' mx' o5' o6' o7', is'.length ≤ is.length + 62 ∧ MxI mx' ∧ execs F W bOut (pE (ns.map D.int) m is mx (some (.int i)) o5 o6 o7) μ = some (.nx (pE (ns.map D.int) m is' mx' (some (.int i)) o5' o6' o7') μ) := by
  obtain ⟨c, hc⟩ := atI_int (is := ns) (k := i) hi hn
  have n1 : (997 : Int) ≠ 0 := by decide
  have n2 : (65537 : Int) ≠ 0 := by decide
  have n3 : (1000003 : Int) ≠ 0 := by decide
  have n4 : (65521 : Int) ≠ 0 := by decide
  have s1 : Sm 17 (48271 : Int) := by unfold Sm; decide
  have s2 : Sm 17 (69621 : Int) := by unfold Sm; decide
  have p1 := op_mul hm.sm s1 (by decide)
  let mx1 : Int := (mx * 48271 + (c.natAbs : Int).fmod 1000003 + i).fmod 65537
  have hm1 : MxI mx1 := MxI.mod _
  have p2 := op_mul hm1.sm s2 (by decide)
  have e1 : exec F W (.asg 5 (.bi .abs (.cons (.bi .int (.cons (.ix (.var 0) (.var 4)) .nil)) .nil))) (pE (ns.map D.int) m is mx (some (.int i)) o5 o6 o7) μ = some (.nx (pE (ns.map D.int) m is mx (some (.int i)) (some (.int c.natAbs)) o6 o7) μ) := by
    cases o5 <;>
    · walk_at "go"
      simp [hc, wthD_some', andThen_some', bi_int, biD_abs]
  have e2 : exec F W (.asg 3 (.op .Mod (.bi .int (.cons (.op .Add (.op .Add (.op .Mult (.var 3) (.int 48271)) (.op .Mod (.var 5) (.int 1000003))) (.var 4)) .nil)) (.int 65537))) (pE (ns.map D.int) m is mx (some (.int i)) (some (.int c.natAbs)) o6 o7) μ = some (.nx (pE (ns.map D.int) m is mx1 (some (.int i)) (some (.int c.natAbs)) o6 o7) μ) := by
    walk_at "go"
    simp [p1, op_mod _ n3, op_add, wthD_some', andThen_some', bi_int, op_mod _ n2, mx1]
  have e3 : exec F W (.asg 6 (.int 0)) (pE (ns.map D.int) m is mx1 (some (.int i)) (some (.int c.natAbs)) o6 o7) μ = some (.nx (pE (ns.map D.int) m is mx1 (some (.int i)) (some (.int c.natAbs)) (some (.int 0)) o7) μ) := by
    cases o6 <;> walk_at "go"
  have e4 : ∃ is1 r1, is1.length ≤ is.length + 2 ∧ exec F W (.ifs (.cmp .GtE (.var 5) (.op .Pow (.int 10) (.int 18))) (.cons (.asg 6 (.var 5)) .nil) (.cons (.app 2 (.op .Mod (.bi .int (.cons (.var 5) .nil)) (.int 997))) (.cons (.app 2 (.op .Mod (.op .Mod (.bi .int (.cons (.op .Add (.op .Mult (.var 3) (.int 69621)) (.int 5)) .nil)) (.int 65521)) (.int 997))) .nil))) (pE (ns.map D.int) m is mx1 (some (.int i)) (some (.int c.natAbs)) (some (.int 0)) o7) μ = some (.nx (pE (ns.map D.int) m is1 mx1 (some (.int i)) (some (.int c.natAbs)) (some (.int r1)) o7) μ) := by
    by_cases z : 1000000000000000000 ≤ (c.natAbs : Int)
    · refine ⟨is, c.natAbs, by omega, ifs_t (μ1 := μ) ?_ ?_⟩
      · walk_at "go"
        simp [pow1018, wthD_some', andThen_some', cmpD]
        omega
      · walk_at "go"
    · refine ⟨is ++ [(c.natAbs : Int).fmod 997] ++ [((mx1 * 69621 + 5).fmod 65521).fmod 997], 0, by simp, ifs_f (μ1 := μ) ?_ (seq_nx (ρ1 := pE (ns.map D.int) m (is ++ [(c.natAbs : Int).fmod 997]) mx1 (some (.int i)) (some (.int c.natAbs)) (some (.int 0)) o7) (μ1 := μ) ?_ (seq_nx ?_ rfl))⟩
      · walk_at "go"
        simp [pow1018, wthD_some', andThen_some', cmpD]
        omega
      · walk_at "go"
        simp [bi_int, op_mod _ n1, andThen_some', wthD_some', sz_lt (n := is.length) (by omega)]
      · have l : (is ++ [(c.natAbs : Int).fmod 997]).length < sizeLine := sz_lt (by simp; omega)
        simp at l
        walk_at "go"
        simp [p2, bi_int, op_mod _ n1, op_mod _ n4, op_add, andThen_some', wthD_some', l]
  obtain ⟨is1, r1, l1, e4⟩ := e4
  obtain ⟨is2, r2, o7', l2, e5⟩ := in_loop (F := F) (s := ns.map D.int) (m := m) (mx := mx1) (o4 := some (.int i)) (o5 := some (.int c.natAbs)) (μ := μ) (is.length + 62) (rngD 0 60) r1 is1 o7 (by rw [rng_len]; omega) (by omega) (ints_rng 60)
  refine ⟨is2, mx1, _, _, o7', l2, hm1, seq_nx e1 (seq_nx e2 (seq_nx e3 (seq_nx e4 (seq_nx (for_of ?_ rfl e5) rfl))))⟩
  exact evi_rng (n := 60) rfl (by decide)
def bLast : Ss := (.cons (.asg 3 (.op .Mod (.bi .int (.cons (.op .Add (.op .Add (.op .Mult (.var 3) (.int 16807)) (.var 4)) (.int 1)) .nil)) (.int 65537))) (.cons (.app 2 (.op .Mod (.bi .int (.cons (.var 3) .nil)) (.int 997))) .nil))
theorem last_step {s : List D} {m mx i : Int} {is : List Int} {o5 o6 o7 : Option D} {μ : Cells} (hm : MxI mx) (hl : is.length < 90000) :
    ∃ is' mx', is'.length ≤ is.length + 1 ∧ MxI mx' ∧ execs F W bLast (pE s m is mx (some (.int i)) o5 o6 o7) μ = some (.nx (pE s m is' mx' (some (.int i)) o5 o6 o7) μ) := by
  have n1 : (997 : Int) ≠ 0 := by decide
  have n2 : (65537 : Int) ≠ 0 := by decide
  have s1 : Sm 17 (16807 : Int) := by unfold Sm; decide
  have p1 := op_mul hm.sm s1 (by decide)
  refine ⟨is ++ [((mx * 16807 + i + 1).fmod 65537).fmod 997], (mx * 16807 + i + 1).fmod 65537, by simp, MxI.mod _, seq_nx (ρ1 := pE s m is ((mx * 16807 + i + 1).fmod 65537) (some (.int i)) o5 o6 o7) (μ1 := μ) ?_ (seq_nx ?_ rfl)⟩
  · walk_at "go"
    simp [p1, op_add, wthD_some', andThen_some', bi_int, op_mod _ n2]
  · walk_at "go"
    simp [bi_int, op_mod _ n1, andThen_some', wthD_some', sz_lt (n := is.length) (by omega)]
theorem draws_ok (ns : List Int) (hn : ns.length ≤ 63) (many : Nat) (h : many ≤ 1000) (μ : Cells) : ∃ is : List Int, runFn F W ⟨2, 8, B__law_draws⟩ [.lst (ns.map D.int), .int many] μ = some (.lst (is.map D.int), μ) := by
  obtain ⟨ρ1, μ1, e1, e2⟩ := forF_inv (fun ys ρ μ1 => μ1 = μ ∧ Ints 0 ns.length ys ∧ ∃ is mx o4 o5 o6 o7, ρ = pE (ns.map D.int) many is mx o4 o5 o6 o7 ∧ MxI mx ∧ is.length + ys.length * 62 ≤ 63 * 62) (tg := .nm 4) (b := fun ρ' μ' => execs F W bOut ρ' μ') (fun x ys ρ μ1 h => by
    obtain ⟨rfl, h1, is, mx, o4, o5, o6, o7, rfl, hm, h2⟩ := h
    obtain ⟨i, rfl, h3, h4⟩ := h1.head
    rw [List.length_cons] at h2
    obtain ⟨is', mx', o5', o6', o7', l, hm', e⟩ := out_step (F := F) (ns := ns) (m := many) (mx := mx) (i := i) (is := is) (o5 := o5) (o6 := o6) (o7 := o7) (μ := μ1) hm (by omega) h3 h4
    exact ⟨_, _, _, rfl, e, rfl, h1.tail, is', mx', _, _, _, _, rfl, hm', by omega⟩) (rngD 0 ns.length) (pE (ns.map D.int) many [] 7 none none none none) μ ⟨rfl, ints_rng _, [], 7, none, none, none, none, rfl, ⟨by decide, by decide⟩, by rw [rng_len]; simp; omega⟩
  obtain ⟨rfl, _, is, mx, o4, o5, o6, o7, rfl, hm, hl⟩ := e2
  obtain ⟨ρ2, μ2, e3, e4⟩ := forF_inv (fun ys ρ μ2 => μ2 = μ1 ∧ Ints 0 many ys ∧ ∃ is mx o4 o5 o6 o7, ρ = pE (ns.map D.int) many is mx o4 o5 o6 o7 ∧ MxI mx ∧ is.length + ys.length ≤ 63 * 62 + 1000) (tg := .nm 4) (b := fun ρ' μ' => execs F W bLast ρ' μ') (fun x ys ρ μ1 h => by
    obtain ⟨rfl, h1, is, mx, o4, o5, o6, o7, rfl, hm, h2⟩ := h
    obtain ⟨i, rfl, h3, h4⟩ := h1.head
    rw [List.length_cons] at h2
    obtain ⟨is', mx', l, hm', e⟩ := last_step (F := F) (s := ns.map D.int) (m := many) (mx := mx) (i := i) (is := is) (o5 := o5) (o6 := o6) (o7 := o7) (μ := μ1) hm (by omega)
    exact ⟨_, _, _, rfl, e, rfl, h1.tail, is', mx', _, _, _, _, rfl, hm', by omega⟩) (rngD 0 many) _ μ1 ⟨rfl, ints_rng _, is, mx, o4, o5, o6, o7, rfl, hm, by rw [rng_len]; simp at hl; omega⟩
  obtain ⟨rfl, _, is2, mx2, p4, p5, p6, p7, rfl, hm2, hl2⟩ := e4
  refine ⟨cutD is2 none (some many), run_rt rfl (Nat.le_of_ble_eq_true rfl) (seq_nx (ρ1 := [some (.pl (.lst (ns.map D.int))), some (.pl (.int many)), some (.ow []), none, none, none, none, none]) (μ1 := μ2) rfl (seq_nx (ρ1 := pE (ns.map D.int) many [] 7 none none none none) (μ1 := μ2) rfl (seq_nx (for_of (evi_rng (n := ns.length) ?_ (by omega)) rfl e1) (seq_nx (for_of (evi_rng (n := many) rfl (by omega)) rfl e3) (seq_rt ?_)))))⟩
  · walk_at "go"
    simp [len_lst, wthD_some']
  · walk_at "go"
    simp [slD, cutD, andThen_some', wthD_some', List.map_drop, List.map_take]
end
end FM

set_option Elab.async false
set_option linter.all false
set_option maxRecDepth 100000
set_option maxHeartbeats 4000000
/-! M6: places that own nothing; alike at any depth; comprehensions over ranges. -/
namespace FM
open PySem (Str sizeLine)
open L2 (atI ixN Key)
open PySem.Spec PyProof.Rows
/-- an environment that owns nothing -/
def pl (ds : List (Option D)) : Env := ds.map (Option.map Sl.pl)
theorem pl_get (ds : List (Option D)) (i : Nat) : (pl ds)[i]? = (ds[i]?).map (Option.map Sl.pl) := by
  unfold pl
  rw [List.getElem?_map]
theorem pl_set (ds : List (Option D)) (i : Nat) (d : D) : (pl ds).set i (some (.pl d)) = pl (ds.set i (some d)) := by
  unfold pl
  rw [List.map_set]
  rfl
theorem isOw_pl (ds : List (Option D)) (i : Nat) : isOw (pl ds) i = false := by
  unfold isOw
  rw [pl_get]
  cases ds[i]? with
  | none => rfl
  | some o => cases o <;> rfl
theorem noOw_pl (ds : List (Option D)) : ∀ is : List Nat, noOw (pl ds) is = true
  | [] => rfl
  | i :: is => by
    unfold noOw
    rw [isOw_pl, noOw_pl ds is]
    rfl
theorem lk_pl (ds : List (Option D)) : ∀ e : E, lk (pl ds) e = false
  | .var i => by unfold lk; exact isOw_pl ds i
  | .ife c a b => by unfold lk; rw [lk_pl ds a, lk_pl ds b]; rfl
  | .int _ | .bl _ | .non | .str _ | .op .. | .neg _ | .cmp .. | .chn .. | .and .. | .or .. | .not _ | .tup _ | .lst _ | .ix .. | .sl .. | .call .. | .callB .. | .bi .. | .isi .. | .me .. | .lc .. | .dict .. => by unfold lk; rfl
theorem lks_pl (ds : List (Option D)) : ∀ es : Es, lks (pl ds) es = false
  | .nil => rfl
  | .cons e es => by unfold lks; rw [lk_pl, lks_pl ds es]; rfl
theorem itlk_pl (ds : List (Option D)) (it : It) : it.lk (pl ds) = false := by
  cases it <;> first | rfl | (unfold It.lk; exact lk_pl ds _)
theorem start_pl (ds : List D) (n : Nat) : ds.map (fun d => some (Sl.pl d)) ++ List.replicate n none = pl (ds.map some ++ List.replicate n none) := by
  unfold pl
  simp
def setAllD : List Nat → List D → List (Option D) → List (Option D)
  | i :: is, d :: ds, ρ => setAllD is ds (ρ.set i (some d))
  | _, _, ρ => ρ
theorem setAll_pl : ∀ (is : List Nat) (xs : List D) (ds : List (Option D)), setAll is xs (pl ds) = pl (setAllD is xs ds)
  | [], xs, ds => by cases xs <;> rfl
  | i :: is, [], ds => rfl
  | i :: is, x :: xs, ds => by
    unfold setAll setAllD
    rw [pl_set]
    exact setAll_pl is xs _
/-! ### data that are alike to themselves -/
def dep : Nat → D → Bool
  | _, .non => true
  | _, .bl _ => true
  | _, .int _ => true
  | _, .str _ => true
  | n + 1, .tup ds => decide (ds.length ≤ 1000) && ds.all (dep n)
  | _, _ => false
theorem like_dep {f : Nat} {G : Nat → Fs} (hG : ∀ n ds μ, G (n + 1) f ds μ = runFn (G n) W ⟨2, 3, B__law_alike f⟩ ds μ) : ∀ (n : Nat) (d : D), dep n d = true → LikeC (G (n + 1)) f d
  | n, .non, _ => fun μ => by rw [hG]; exact alike_scal rfl μ
  | n, .bl _, _ => fun μ => by rw [hG]; exact alike_scal rfl μ
  | n, .int _, _ => fun μ => by rw [hG]; exact alike_scal rfl μ
  | n, .str _, _ => fun μ => by rw [hG]; exact alike_scal rfl μ
  | 0, .tup ds, h => by cases h
  | 0, .lst ds, h => by cases h
  | _ + 1, .lst ds, h => by cases h
  | 0, .cell _, h => by cases h
  | _ + 1, .cell _, h => by cases h
  | n + 1, .tup ds, h => fun μ => by
    unfold dep at h
    rw [Bool.and_eq_true, decide_eq_true_eq, List.all_eq_true] at h
    rw [hG]
    exact alike_tup h.1 (fun d hd => like_dep hG n d (h.2 d hd)) μ
/-! ### the filters of the law -/
theorem filter_below (r : Nat) (p : Nat → Bool) (h1 : ∀ k, k ≤ r → p k = true) (h2 : ∀ k, r < k → p k = false) : ∀ n, (List.range n).filter p = List.range (min n (r + 1))
  | 0 => rfl
  | n + 1 => by
    rw [List.range_succ, List.filter_append, filter_below r p h1 h2 n]
    by_cases z : n ≤ r
    · have e1 : min n (r + 1) = n := by omega
      have e2 : min (n + 1) (r + 1) = n + 1 := by omega
      rw [e1, e2, List.range_succ]
      simp [h1 n z]
    · have e1 : min n (r + 1) = r + 1 := by omega
      have e2 : min (n + 1) (r + 1) = r + 1 := by omega
      rw [e1, e2]
      simp [h2 n (by omega)]
theorem filter_above (s : Nat) (p : Nat → Bool) (h1 : ∀ k, k < s → p k = false) (h2 : p s = true) : ∀ n, ((List.range n).filter p).head? = if s < n then some s else none
  | 0 => rfl
  | n + 1 => by
    rw [List.range_succ, List.filter_append, List.head?_append, filter_above s p h1 h2 n]
    by_cases z : s < n
    · rw [if_pos z, if_pos (by omega)]
      rfl
    · rw [if_neg z]
      by_cases e : s = n
      · subst e
        rw [if_pos (by omega)]
        simp [h2]
      · rw [if_neg (by omega)]
        simp [h1 n (by omega)]
theorem lc_filter (N : Nat) {i : Nat} {ρ : Env} {μ : Cells} {c : Env → Cells → Option (Bool × Cells)} {g : Env → Cells → Option (D × Cells)} (p : Nat → Bool)
    (hc : ∀ k : Nat, k < N → c (ρ.set i (some (.pl (.int k)))) μ = some (p k, μ)) (hg : ∀ k : Nat, g (ρ.set i (some (.pl (.int k)))) μ = some (.int k, μ)) :
    ∀ l : List Nat, (∀ k ∈ l, k < N) → lcGo (.nm i) c g ρ (l.map fun (k : Nat) => D.int (0 + k)) μ = some ((l.filter p).map fun (k : Nat) => D.int k, μ)
  | [], _ => rfl
  | k :: l, hl => by
    have ih := lc_filter N p hc hg l fun k hk => hl k (List.mem_cons_of_mem _ hk)
    have hk := hc k (hl k (List.mem_cons_self ..))
    show lcGo (.nm i) c g ρ (D.int (0 + k) :: l.map fun (k : Nat) => D.int (0 + k)) μ = _
    unfold lcGo
    rw [Int.zero_add]
    show (match some (ρ.set i (some (.pl (.int k)))) with | none => none | some ρ1 => _) = _
    simp only [hk]
    cases e : p k with
    | false =>
      simp only [List.filter_cons, e]
      exact ih
    | true =>
      simp only [List.filter_cons, e, hg k, ih]
      rfl
/-- a comprehension over a range, filtered -/
theorem ev_lcf {F : Fs} {i : Nat} {e : E} {cond : E} {ds : List (Option D)} {μ : Cells} (N : Nat) (p : Nat → Bool) (hN : N ≤ 16777216) (hi : i < ds.length) (he : ev F e (pl ds) μ = some (.int N, μ))
    (hc : ∀ k : Nat, k < N → ev F cond (pl (ds.set i (some (.int k)))) μ = some (.bl (p k), μ)) :
    ev F (.lc (.var i) (.nm i) (.rng1 e) (.some cond)) (pl ds) μ = some (.lst (((List.range N).filter p).map fun (k : Nat) => D.int k), μ) := by
  refine ev_lc (evi_rng he hN) (by rw [rng_len]; exact hN) (lc_filter N p (fun k hk => ?_) (fun k => ?_) (List.range N) fun k hk => List.mem_range.mp hk)
  · rw [pl_set]
    show onBl (ev F cond _ μ) _ = _
    rw [hc k hk]
    rfl
  · rw [pl_set, lk_pl]
    show (if false = true then none else ev F (.var i) _ μ) = _
    rw [if_neg (by decide)]
    unfold ev
    rw [pl_get, List.getElem?_set_self (by simpa using hi)]
    rfl
theorem ev_ix {F : Fs} {a b : E} {ρ : Env} {μ μ1 μ2 : Cells} {x y d : D} (h1 : ev F a ρ μ = some (x, μ1)) (h2 : ev F b ρ μ1 = some (y, μ2)) (h3 : ixD μ2 x y = some d) : ev F (.ix a b) ρ μ = some (d, μ2) := by
  unfold ev
  rw [h1]
  show andThen (ev F b ρ μ1) _ = _
  rw [h2]
  show wthD (ixD μ2 x y) μ2 = _
  rw [h3]
  rfl
theorem asg_pl {F : Fs} {W : Nat} {i : Nat} {e : E} {ds : List (Option D)} {μ μ1 : Cells} {d : D} (h : ev F e (pl ds) μ = some (d, μ1)) : exec F W (.asg i e) (pl ds) μ = some (.nx (pl (ds.set i (some d))) μ1) := by
  unfold exec
  rw [lk_pl, isOw_pl, h]
  show some (Res.nx ((pl ds).set i _) μ1) = _
  rw [pl_set]
theorem atI_last {l : List D} {d : D} : atI (l ++ [d]) (-1) = some d := by
  unfold atI ixN
  simp
  rw [if_pos (by omega)]
  have : (-1 + ((l.length : Int) + 1)).toNat = l.length := by omega
  show (l ++ [d])[(-1 + ((l.length : Int) + 1)).toNat]? = _
  rw [this]
  simp
theorem atI_head {l : List Nat} {k : Nat} (h : l.head? = some k) : atI (l.map fun (k : Nat) => D.int k) 0 = some (.int k) := by
  cases l with
  | nil => cases h
  | cons a l => cases h; exact atI_0 _ _
end FM

set_option Elab.async false
set_option linter.all false
set_option maxRecDepth 100000
set_option maxHeartbeats 4000000
namespace K00
open FM
open PySem (Str sizeLine)
/-- what the callees of the law do -/
structure Ok (F : Fs) : Prop where
  common : CommonC F 1
  frac : FracC F 2
  isfrac : ∀ (x : Int × Int) (μ : Cells), Sm 4000 x.2 → F 3 [fD x] μ = some (.bl (decide (0 < x.2) && decide ((Int.gcd x.1 x.2 : Int) = 1)), μ)
  whole : ∀ (i : Int) (μ : Cells), F 4 [.int i] μ = some (fD (i, 1), μ)
  plus : ∀ (x y : Int × Int) (μ : Cells), Fq 1800 x → Fq 1800 y → F 5 [fD x, fD y] μ = some (fD (addF x y), μ)
  minus : ∀ (x y : Int × Int) (μ : Cells), Fq 1800 x → Fq 1800 y → F 6 [fD x, fD y] μ = some (fD (subF x y), μ)
  times : ∀ (x y : Int × Int) (μ : Cells), Fq 1800 x → Fq 1800 y → F 7 [fD x, fD y] μ = some (fD (mulF x y), μ)
  over : ∀ (x y : Int × Int) (μ : Cells), Fq 1800 x → Fq 1800 y → Dn (x.2 * y.1) → F 8 [fD x, fD y] μ = some (fD (divF x y), μ)
  sign : ∀ (x : Int × Int) (μ : Cells), F 9 [fD x] μ = some (.int (sgI x.1), μ)
  less : ∀ (x y : Int × Int) (μ : Cells), Fq 1800 x → Fq 1800 y → F 10 [fD x, fD y] μ = some (.bl (lessF x y), μ)
  least : ∀ (x y : Int × Int) (μ : Cells), Fq 1800 x → Fq 1800 y → F 11 [fD x, fD y] μ = some (fD (if lessF x y then x else y), μ)
  most : ∀ (x y : Int × Int) (μ : Cells), Fq 1800 x → Fq 1800 y → F 12 [fD x, fD y] μ = some (fD (if lessF x y then y else x), μ)
  floor : ∀ (x : Int × Int) (μ : Cells), Fq 1800 x → F 13 [fD x] μ = some (.int (x.1.fdiv x.2), μ)
  root : RootC F 14
  eroot : ∀ (x : Int × Int) (μ : Cells), Fq 1800 x → 0 ≤ x.1 → ∃ r s, IsRt x.1 r ∧ IsRt x.2 s ∧ F 15 [fD x] μ = some (if r * r = x.1 ∧ s * s = x.2 then fD (r, s) else .non, μ)
  eroot1 : ∀ μ : Cells, F 15 [fD (2, 9)] μ = some (.non, μ)
  eroot2 : ∀ μ : Cells, F 15 [fD (-4, 1)] μ = some (.non, μ)
  aroot : ∀ (x : Int × Int) (p : Int) (μ : Cells), Fq 600 x → 0 ≤ x.1 → Sm 600 p → 0 < p → ∃ s, IsUp (x.1 * p * p) x.2 s ∧ F 16 [fD x, .int p] μ = some (fD (fr s p), μ)
  mean : ∀ (x y : Int × Int) (μ : Cells), Fq 800 x → Fq 800 y → F 20 [fD x, fD y] μ = some (fD (divF (addF x y) (2, 1)), μ)
  sum : ∀ (x y z : Int × Int) (μ : Cells), Fq 300 x → Fq 300 y → Fq 300 z → F 21 [.lst [fD x, fD y, fD z]] μ = some (fD (addF (addF x y) z), μ)
  draws : ∀ (ns : List Int) (μ : Cells), ns.length ≤ 63 → ∃ is : List Int, F 22 [.lst (ns.map D.int), .int 300] μ = some (.lst (is.map D.int), μ)
  next : ∀ (is : List Int) (k many : Int), 0 < many → 0 ≤ k → ∃ r k1 : Int, 0 ≤ r ∧ r < many ∧ 0 ≤ k1 ∧ F 23 [.cell 0, .int many] [cw is k] = some (.int r, [cw is k1])
  like : ∀ d : D, dep 50 d = true → LikeC F 24 d
  gcd : ∀ (a b : Int) (μ : Cells), Gp a b → F 25 [.int a, .int b] μ = some (.int (Int.gcd a b), μ)
  lfr : LFracC F 26
  ladd : ∀ (x y : Int × Int) (μ : Cells), Fq 1800 x → Fq 1800 y → F 27 [fD x, fD y] μ = some (fD (addF x y), μ)
  lsub : ∀ (x y : Int × Int) (μ : Cells), Fq 1800 x → Fq 1800 y → F 28 [fD x, fD y] μ = some (fD (subF x y), μ)
  lmul : ∀ (x y : Int × Int) (μ : Cells), Fq 1800 x → Fq 1800 y → F 29 [fD x, fD y] μ = some (fD (mulF x y), μ)
  ldiv : ∀ (x y : Int × Int) (μ : Cells), Fq 1800 x → Fq 1800 y → Dn (x.2 * y.1) → F 30 [fD x, fD y] μ = some (fD (divF x y), μ)
  lsgn : ∀ (x : Int × Int) (μ : Cells), F 31 [fD x] μ = some (.int (sgI x.1), μ)
abbrev T (n : Nat) : Fs := call (tabOf defs) W n
theorem common_at (n : Nat) : CommonC (T (n + 1)) 1 := fun a b μ h => (call_at (d := d_common) rfl _ _).trans (common_ok a b h μ)
theorem frac_at (n : Nat) : FracC (T (n + 2)) 2 := fun a b μ h => (call_at (d := d_frac) rfl _ _).trans (frac_ok (common_at n) a b μ h)
theorem whole_at (n : Nat) (i : Int) (μ : Cells) : T (n + 1) 0 [.int i] μ = some (.bl true, μ) := (call_at (d := d_is_whole) rfl _ _).trans (is_whole_int i μ)
theorem gcd_at (n : Nat) (a b : Int) (μ : Cells) (h : Gp a b) : T (n + 1) 25 [.int a, .int b] μ = some (.int (Int.gcd a b), μ) := (call_at (d := d__law_gcd) rfl _ _).trans (gcd_ok a b h μ)
theorem lfr_at (n : Nat) : LFracC (T (n + 2)) 26 := fun a b μ ha h => (call_at (d := d__law_fr) rfl _ _).trans (law_fr_ok (gcd_at n) a b μ ha h)
theorem plus_at (n : Nat) (x y : Int × Int) (μ : Cells) (hx : Fq 1800 x) (hy : Fq 1800 y) : T (n + 3) 5 [fD x, fD y] μ = some (fD (addF x y), μ) := (call_at (d := d_plus) rfl _ _).trans (plus_ok hx hy μ (frac_at n))
theorem over_at (n : Nat) (x y : Int × Int) (μ : Cells) (hx : Fq 1800 x) (hy : Fq 1800 y) (hd : Dn (x.2 * y.1)) : T (n + 3) 8 [fD x, fD y] μ = some (fD (divF x y), μ) := (call_at (d := d_over) rfl _ _).trans (over_ok hx hy μ (frac_at n) hd)
theorem less_at (n : Nat) (x y : Int × Int) (μ : Cells) (hx : Fq 1800 x) (hy : Fq 1800 y) : T (n + 1) 10 [fD x, fD y] μ = some (.bl (lessF x y), μ) := (call_at (d := d_less) rfl _ _).trans (less_ok hx hy μ)
theorem root_at (n : Nat) : RootC (T (n + 1)) 14 := fun m μ h g => by
  obtain ⟨r, h1, h2⟩ := root_below_ok (F := T n) m μ h g
  exact ⟨r, (call_at (d := d_root_below) rfl _ _).trans h1, h2⟩
theorem fq21 : Fq 10 (2, 1) := by unfold Fq Sm; decide
theorem fq01 : Fq 10 (0, 1) := by unfold Fq Sm; decide
theorem dn_pos {k : Nat} {b : Int} (h : Sm k b) (l : k ≤ 4000) (p : 0 < b) : Dn b := ⟨h.mono l, .inl p⟩
theorem ok59 : Ok (T 59) where
  common := common_at 58
  frac := frac_at 57
  isfrac := fun x μ h => (call_at (d := d_is_frac) rfl _ _).trans (is_frac_ok (whole_at 57) (common_at 57) x h μ)
  whole := fun i μ => (call_at (d := d_whole) rfl _ _).trans (whole_ok i μ)
  plus := plus_at 56
  minus := fun x y μ hx hy => (call_at (d := d_minus) rfl _ _).trans (minus_ok hx hy μ (frac_at 56))
  times := fun x y μ hx hy => (call_at (d := d_times) rfl _ _).trans (times_ok hx hy μ (frac_at 56))
  over := over_at 56
  sign := fun x μ => (call_at (d := d_sign_of) rfl _ _).trans (sign_of_ok x μ)
  less := less_at 58
  least := fun x y μ hx hy => (call_at (d := d_least) rfl _ _).trans (least_ok hx hy μ (less_at 57 x y μ hx hy))
  most := fun x y μ hx hy => (call_at (d := d_most) rfl _ _).trans (most_ok hx hy μ (less_at 57 x y μ hx hy))
  floor := fun x μ hx => (call_at (d := d_floor_of) rfl _ _).trans (floor_of_ok (Dv.pos hx.2.2.1 hx.2.1 (by decide)) μ)
  root := root_at 58
  eroot := fun x μ hx h0 => by
    have z := exact_root_ok (F := T 58) (f := 14) (root_at 57) hx μ
    rw [if_neg (by omega)] at z
    obtain ⟨r, s, h1, h2, h3⟩ := z
    exact ⟨r, s, h1, h2, (call_at (d := d_exact_root) rfl _ _).trans h3⟩
  eroot1 := fun μ => by kernel_rfl
  eroot2 := fun μ => by kernel_rfl
  aroot := fun x p μ hx h0 hp p0 => by
    obtain ⟨s, h1, h2⟩ := root_above_ok (F := T 58) (f := 14) (g := 2) (root_at 57) (frac_at 56) hx h0 hp p0 μ
    exact ⟨s, h1, (call_at (d := d_root_above) rfl _ _).trans h2⟩
  mean := fun x y μ hx hy => (call_at (d := d_mean) rfl _ _).trans (mean_ok μ (plus_at 55 x y μ (hx.mono (by decide)) (hy.mono (by decide))) (over_at 55 _ _ μ ((hx.add hy).mono (by decide)) (fq21.mono (by decide)) (dn_pos ((hx.add hy).2.1.mul fq21.1) (by decide) (Int.mul_pos (hx.add hy).2.2.1 (by decide)))))
  sum := fun x y z μ hx hy hz => (call_at (d := d_sum_of) rfl _ _).trans (sum3_ok (s1 := fD x) ((plus_at 55 _ _ μ (fq01.mono (by decide)) (hx.mono (by decide))).trans (by rw [addF_zero hx])) (plus_at 55 _ _ μ (hx.mono (by decide)) (hy.mono (by decide))) (plus_at 55 _ _ μ ((hx.add hy).mono (by decide)) (hz.mono (by decide))))
  draws := fun ns μ h => by
    obtain ⟨is, e⟩ := draws_ok (F := T 58) ns h 300 (by decide) μ
    exact ⟨is, (call_at (d := d__law_draws) rfl _ _).trans e⟩
  next := fun is k many h hk => by
    obtain ⟨r, h1, h2, h3⟩ := next_ok (F := T 58) is k many h hk []
    exact ⟨r, k + 1, h1, h2, by omega, (call_at (d := d__law_next) rfl _ _).trans h3⟩
  like := fun d h => (like_dep (f := 24) (G := fun n => T (n + 8)) (fun n ds μ => call_at (d := d__law_alike) rfl _ _) 50 d h : LikeC (T 59) 24 d)
  gcd := gcd_at 58
  lfr := lfr_at 57
  ladd := fun x y μ hx hy => (call_at (d := d__law_add) rfl _ _).trans (law_add_ok hx hy μ (lfr_at 56))
  lsub := fun x y μ hx hy => (call_at (d := d__law_sub) rfl _ _).trans (law_sub_ok hx hy μ (lfr_at 56))
  lmul := fun x y μ hx hy => (call_at (d := d__law_mul) rfl _ _).trans (law_mul_ok hx hy μ (lfr_at 56))
  ldiv := fun x y μ hx hy hd => (call_at (d := d__law_div) rfl _ _).trans (law_div_ok hx hy μ (lfr_at 56) hd)
  lsgn := fun x μ => (call_at (d := d__law_sgn) rfl _ _).trans (law_sgn_ok x μ)
end K00

set_option Elab.async false
set_option linter.all false
set_option maxRecDepth 100000
set_option maxHeartbeats 4000000
namespace K00
open FM
open PySem (Str sizeLine)
def s_0 : S := .asg 1 (.dict ["draws", "at"] (.cons (.call 22 (.cons (.var 0) (.cons (.int 300) .nil))) (.cons (.int 0) .nil)))
def s_1_0 : S := .asgT [9, 10, 11, 12] (.tup (.cons (.op .Sub (.call 23 (.cons (.var 1) (.cons (.int 99) .nil))) (.int 49)) (.cons (.op .Add (.int 1) (.call 23 (.cons (.var 1) (.cons (.int 30) .nil)))) (.cons (.op .Sub (.call 23 (.cons (.var 1) (.cons (.int 99) .nil))) (.int 49)) (.cons (.op .Add (.int 1) (.call 23 (.cons (.var 1) (.cons (.int 30) .nil)))) .nil)))))
def s_1_1 : S := .par 13 14 (.call 26 (.cons (.var 9) (.cons (.var 10) .nil))) (.call 26 (.cons (.var 11) (.cons (.var 12) .nil)))
def s_1_2 : S := .asg 4 (.tup (.cons (.call 2 (.cons (.var 9) (.cons (.var 10) .nil))) (.cons (.call 2 (.cons (.var 9) (.cons (.op .Sub (.int 0) (.var 10)) .nil))) (.cons (.call 5 (.cons (.var 13) (.cons (.var 14) .nil))) (.cons (.call 6 (.cons (.var 13) (.cons (.var 14) .nil))) (.cons (.call 7 (.cons (.var 13) (.cons (.var 14) .nil))) (.cons (.call 20 (.cons (.var 13) (.cons (.var 14) .nil))) (.cons (.call 4 (.cons (.var 9) .nil)) (.cons (.call 21 (.cons (.lst (.cons (.var 13) (.cons (.var 14) (.cons (.var 13) .nil)))) .nil)) .nil)))))))))
def s_1_3 : S := .asg 5 (.tup (.cons (.var 13) (.cons (.call 26 (.cons (.op .Sub (.int 0) (.var 9)) (.cons (.var 10) .nil))) (.cons (.call 27 (.cons (.var 13) (.cons (.var 14) .nil))) (.cons (.call 28 (.cons (.var 13) (.cons (.var 14) .nil))) (.cons (.call 29 (.cons (.var 13) (.cons (.var 14) .nil))) (.cons (.call 29 (.cons (.tup (.cons (.int 1) (.cons (.int 2) .nil))) (.cons (.call 27 (.cons (.var 13) (.cons (.var 14) .nil))) .nil))) (.cons (.tup (.cons (.var 9) (.cons (.int 1) .nil))) (.cons (.call 27 (.cons (.call 27 (.cons (.var 13) (.cons (.var 14) .nil))) (.cons (.var 13) .nil))) .nil)))))))))
def s_1_4 : S := .ifs (.or (.not (.call 24 (.cons (.var 4) (.cons (.var 5) .nil)))) (.and (.cmp .NotEq (.ix (.var 14) (.int 0)) (.int 0)) (.not (.call 24 (.cons (.call 8 (.cons (.var 13) (.cons (.var 14) .nil))) (.cons (.call 30 (.cons (.var 13) (.cons (.var 14) .nil))) .nil)))))) (.cons (.ret (.bl false)) .nil) .nil
def s_1_5 : S := .ifs (.not (.call 24 (.cons (.tup (.cons (.call 10 (.cons (.var 13) (.cons (.var 14) .nil))) (.cons (.call 11 (.cons (.var 13) (.cons (.var 14) .nil))) (.cons (.call 12 (.cons (.var 13) (.cons (.var 14) .nil))) (.cons (.call 9 (.cons (.var 13) .nil)) (.cons (.call 13 (.cons (.var 13) .nil)) (.cons (.call 1 (.cons (.var 9) (.cons (.var 11) .nil))) .nil))))))) (.cons (.tup (.cons (.cmp .Lt (.op .Mult (.var 9) (.var 12)) (.op .Mult (.var 11) (.var 10))) (.cons (.ife (.cmp .Lt (.op .Mult (.var 9) (.var 12)) (.op .Mult (.var 11) (.var 10))) (.var 13) (.var 14)) (.cons (.ife (.cmp .Lt (.op .Mult (.var 9) (.var 12)) (.op .Mult (.var 11) (.var 10))) (.var 14) (.var 13)) (.cons (.call 31 (.cons (.var 13) .nil)) (.cons (.op .FloorDiv (.var 9) (.var 10)) (.cons (.call 25 (.cons (.var 9) (.cons (.var 11) .nil))) .nil))))))) .nil)))) (.cons (.ret (.bl false)) .nil) .nil
def s_1_6 : S := .asg 6 (.op .Add (.bi .str (.cons (.ix (.var 13) (.int 0)) .nil)) (.ife (.cmp .Gt (.ix (.var 13) (.int 1)) (.int 1)) (.op .Add (.str "/") (.bi .str (.cons (.ix (.var 13) (.int 1)) .nil))) (.str "")))
def s_1_7 : S := .ifs (.not (.call 24 (.cons (.tup (.cons (.call 17 (.cons (.var 13) .nil)) (.cons (.call 19 (.cons (.var 6) .nil)) (.cons (.call 3 (.cons (.var 13) .nil)) (.cons (.call 3 (.cons (.tup (.cons (.op .Mult (.int 2) (.ix (.var 13) (.int 0))) (.cons (.op .Mult (.int 2) (.ix (.var 13) (.int 1))) .nil))) .nil)) .nil))))) (.cons (.tup (.cons (.var 6) (.cons (.var 13) (.cons (.bl true) (.cons (.bl false) .nil))))) .nil)))) (.cons (.ret (.bl false)) .nil) .nil
def s_1_8 : S := .asgT [15, 16] (.tup (.cons (.op .Add (.op .Mult (.var 9) (.var 9)) (.var 10)) (.cons (.op .Add (.int 1) (.call 23 (.cons (.var 1) (.cons (.int 20) .nil)))) .nil)))
def s_1_9 : S := .asg 7 (.ix (.lc (.var 17) (.nm 17) (.rng1 (.int 200)) (.some (.cmp .LtE (.op .Mult (.var 17) (.var 17)) (.var 15)))) (.neg (.int 1)))
def s_1_10 : S := .asg 8 (.ix (.lc (.var 17) (.nm 17) (.rng1 (.int 5000)) (.some (.cmp .GtE (.op .Mult (.op .Mult (.var 17) (.var 17)) (.var 12)) (.op .Mult (.op .Mult (.var 15) (.var 16)) (.var 16))))) (.int 0))
def s_1_11 : S := .ifs (.not (.call 24 (.cons (.tup (.cons (.call 14 (.cons (.var 15) .nil)) (.cons (.call 14 (.cons (.int 0) .nil)) (.cons (.call 16 (.cons (.call 26 (.cons (.var 15) (.cons (.var 12) .nil))) (.cons (.var 16) .nil))) (.cons (.call 15 (.cons (.call 26 (.cons (.op .Mult (.var 9) (.var 9)) (.cons (.op .Mult (.var 10) (.var 10)) .nil))) .nil)) (.cons (.call 15 (.cons (.tup (.cons (.int 2) (.cons (.int 9) .nil))) .nil)) (.cons (.call 15 (.cons (.tup (.cons (.op .Sub (.int 0) (.int 4)) (.cons (.int 1) .nil))) .nil)) .nil))))))) (.cons (.tup (.cons (.var 7) (.cons (.int 0) (.cons (.call 26 (.cons (.var 8) (.cons (.var 16) .nil))) (.cons (.call 26 (.cons (.bi .abs (.cons (.var 9) .nil)) (.cons (.var 10) .nil))) (.cons .non (.cons .non .nil))))))) .nil)))) (.cons (.ret (.bl false)) .nil) .nil
def s_1b : Ss := (.cons s_1_0 (.cons s_1_1 (.cons s_1_2 (.cons s_1_3 (.cons s_1_4 (.cons s_1_5 (.cons s_1_6 (.cons s_1_7 (.cons s_1_8 (.cons s_1_9 (.cons s_1_10 (.cons s_1_11 .nil))))))))))))
def s_1 : S := .for_ (.nm 2) (.rng1 (.int 12)) s_1b
def s_2_0 : S := .ifs (.not (.call 24 (.cons (.call 18 (.cons (.var 6) .nil)) (.cons (.var 5) .nil)))) (.cons (.ret (.bl false)) .nil) .nil
def s_2b : Ss := (.cons s_2_0 .nil)
def s_2 : S := .for_ (.tp [6, 5]) (.seq (.tup (.cons (.tup (.cons (.str "0") (.cons (.int 0) .nil))) (.cons (.tup (.cons (.str "07") (.cons .non .nil))) (.cons (.tup (.cons (.str "") (.cons .non .nil))) (.cons (.tup (.cons (.str "12") (.cons (.int 12) .nil))) (.cons (.tup (.cons (.str "1a") (.cons .non .nil))) (.cons (.tup (.cons (.str "-1") (.cons .non .nil))) .nil)))))))) s_2b
def s_3_0 : S := .ifs (.cmp .IsNot (.call 19 (.cons (.var 3) .nil)) .non) (.cons (.ret (.bl false)) .nil) .nil
def s_3b : Ss := (.cons s_3_0 .nil)
def s_3 : S := .for_ (.nm 3) (.seq (.tup (.cons (.str "2/4") (.cons (.str "1/0") (.cons (.str "-0") (.cons (.str "1/1") (.cons (.str "01") (.cons (.str "1/-2") (.cons (.str "/2") (.cons (.str "1/") (.cons (.str "--1") (.cons (.str "1.5") (.cons (.str "") .nil))))))))))))) s_3b
def s_4 : S := .ret (.cmp .Eq (.lc (.var 3) (.nm 3) (.seq (.tup (.cons (.tup (.cons (.int 1) (.cons (.int 0) .nil))) (.cons (.tup (.cons (.int 2) (.cons (.int 4) .nil))) (.cons (.tup (.cons (.int 1) (.cons (.op .Sub (.int 0) (.int 2)) .nil))) (.cons (.tup (.cons (.bl true) (.cons (.int 1) .nil))) (.cons (.lst (.cons (.int 1) (.cons (.int 2) .nil))) (.cons .non (.cons (.tup (.cons (.int 1) .nil)) (.cons (.tup (.cons (.int 1) (.cons (.int 2) (.cons (.int 3) .nil)))) .nil)))))))))) (.some (.call 3 (.cons (.var 3) .nil)))) (.lst .nil))
def sb : Ss := (.cons s_0 (.cons s_1 (.cons s_2 (.cons s_3 (.cons s_4 .nil)))))
theorem law_pieces : B_law 22 23 26 21 4 20 7 6 5 2 27 29 28 24 30 8 25 31 1 13 9 12 11 10 3 19 17 15 16 14 18 = sb := rfl
abbrev En (s : D) (o2 o3 o4 o5 o6 o7 o8 o9 o10 o11 o12 o13 o14 o15 o16 o17 : Option D) : Env := pl [some s, some (.cell 0), o2, o3, o4, o5, o6, o7, o8, o9, o10, o11, o12, o13, o14, o15, o16, o17]
local macro_rules | `(tactic| walk_at "go") => `(tactic| simp [FM.execs, FM.exec, FM.ev, FM.evs, FM.evo, FM.evc, FM.evi, FM.Sl.d, FM.isiD, FM.cmpD, FM.negD, FM.bindT, FM.andThen_some', FM.onBl_bl, FM.wthD_some', FM.eqD_int, FM.ix_tup, FM.ix_lst, FM.atI_0, FM.atI_1, FM.atI_2, FM.op_add, FM.op_sub, FM.op_subBl, FM.biD_abs, FM.szle, FM.pl_get, FM.pl_set, FM.isOw_pl, FM.noOw_pl, FM.lk_pl, FM.lks_pl, FM.itlk_pl, FM.setAll_pl, FM.setAllD])
section
variable {F : Fs} (K : Ok F) {s : D} {o2 o3 o4 o5 o6 o7 o8 o9 o10 o11 o12 o13 o14 o15 o16 o17 : Option D}
include K
theorem st0 (is : List Int) (k : Int) (hk : 0 ≤ k) : ∃ a b c d k' : Int, (-49 ≤ a ∧ a < 50) ∧ (1 ≤ b ∧ b < 31) ∧ (-49 ≤ c ∧ c < 50) ∧ (1 ≤ d ∧ d < 31) ∧ 0 ≤ k' ∧
    exec F W s_1_0 (En s o2 o3 o4 o5 o6 o7 o8 o9 o10 o11 o12 o13 o14 o15 o16 o17) [cw is k] = some (.nx (En s o2 o3 o4 o5 o6 o7 o8 (some (.int a)) (some (.int b)) (some (.int c)) (some (.int d)) o13 o14 o15 o16 o17) [cw is k']) := by
  obtain ⟨r1, k1, a1, a2, a3, a4⟩ := K.next is k 99 (by decide) hk
  obtain ⟨r2, k2, b1, b2, b3, b4⟩ := K.next is k1 30 (by decide) a3
  obtain ⟨r3, k3, c1, c2, c3, c4⟩ := K.next is k2 99 (by decide) b3
  obtain ⟨r4, k4, d1, d2, d3, d4⟩ := K.next is k3 30 (by decide) c3
  refine ⟨r1 - 49, 1 + r2, r3 - 49, 1 + r4, k4, by omega, by omega, by omega, by omega, d3, ?_⟩
  unfold s_1_0
  walk_at "go"
  simp [a4, b4, c4, d4, andThen_some', wthD_some', op_sub, op_add, szle]
  rfl
theorem st1 (a b c d : Int) (μ : Cells) (ha : Sm 10 a) (hb : Sm 10 b) (hc : Sm 10 c) (hd : Sm 10 d) (b0 : 0 < b) (d0 : 0 < d) :
    exec F W s_1_1 (En s o2 o3 o4 o5 o6 o7 o8 (some (.int a)) (some (.int b)) (some (.int c)) (some (.int d)) o13 o14 o15 o16 o17) μ = some (.nx (En s o2 o3 o4 o5 o6 o7 o8 (some (.int a)) (some (.int b)) (some (.int c)) (some (.int d)) (some (fD (fr a b))) (some (fD (fr c d))) o15 o16 o17) μ) := by
  have h1 := K.lfr a b μ (ha.mono (by decide)) (dn_pos hb (by decide) b0)
  have h2 := K.lfr c d μ (hc.mono (by decide)) (dn_pos hd (by decide) d0)
  unfold s_1_1
  walk_at "go"
  simp [h1, h2, andThen_some', pl_set]
omit K in
theorem mean_eq (p : Int × Int) : divF p (2, 1) = mulF (1, 2) p := by
  unfold divF mulF
  rw [Int.mul_comm p.1, Int.mul_comm p.2]
def told (a b : Int) (x y : Int × Int) : D := .tup [fD x, fD (fr (-a) b), fD (addF x y), fD (subF x y), fD (mulF x y), fD (mulF (1, 2) (addF x y)), fD (a, 1), fD (addF (addF x y) x)]
/-- the numbers of a turn -/
structure Nu (a b c d : Int) (x y : Int × Int) : Prop where
  a1 : -49 ≤ a ∧ a < 50
  b1 : 1 ≤ b ∧ b < 31
  c1 : -49 ≤ c ∧ c < 50
  d1 : 1 ≤ d ∧ d < 31
  xe : fr a b = x
  ye : fr c d = y
omit K in
theorem sm_of {i : Int} (h : i.natAbs < 1024) : Sm 10 i := h
section
variable {a b c d : Int} {x y : Int × Int} (n : Nu a b c d x y)
include n
omit K in
theorem Nu.sa : Sm 10 a := sm_of (by have := n.a1; omega)
omit K in
theorem Nu.sb : Sm 10 b := sm_of (by have := n.b1; omega)
omit K in
theorem Nu.sc : Sm 10 c := sm_of (by have := n.c1; omega)
omit K in
theorem Nu.sd : Sm 10 d := sm_of (by have := n.d1; omega)
omit K in
theorem Nu.fx : Fq 10 x := n.xe ▸ fr_fq n.sa n.sb (by have := n.b1; omega)
omit K in
theorem Nu.fy : Fq 10 y := n.ye ▸ fr_fq n.sc n.sd (by have := n.d1; omega)
theorem st2 (μ : Cells) :
    exec F W s_1_2 (En s o2 o3 o4 o5 o6 o7 o8 (some (.int a)) (some (.int b)) (some (.int c)) (some (.int d)) (some (fD x)) (some (fD y)) o15 o16 o17) μ = some (.nx (En s o2 o3 (some (told a b x y)) o5 o6 o7 o8 (some (.int a)) (some (.int b)) (some (.int c)) (some (.int d)) (some (fD x)) (some (fD y)) o15 o16 o17) μ) := by
  have fx := n.fx.mono (k := 300) (by decide)
  have fy := n.fy.mono (k := 300) (by decide)
  have fx' := n.fx.mono (k := 1800) (by decide)
  have fy' := n.fy.mono (k := 1800) (by decide)
  have b1 := n.b1
  have h1 := K.frac a b μ (dn_pos n.sb (by decide) (by omega))
  rw [n.xe] at h1
  have h2 := K.frac a (-b) μ ⟨n.sb.neg.mono (by decide), .inr ⟨by omega, by omega⟩⟩
  rw [fr_neg a b (by omega)] at h2
  have h3 := K.plus x y μ fx' fy'
  have h4 := K.minus x y μ fx' fy'
  have h5 := K.times x y μ fx' fy'
  have h6 := K.mean x y μ (n.fx.mono (by decide)) (n.fy.mono (by decide))
  rw [mean_eq] at h6
  have h7 := K.whole a μ
  have h8 := K.sum x y x μ fx fy fx
  unfold s_1_2 told
  walk_at "go"
  simp [h1, h2, h3, h4, h5, h6, h7, h8, andThen_some', wthD_some', op_sub, szle, pl_set]
theorem st3 (μ : Cells) :
    exec F W s_1_3 (En s o2 o3 o4 o5 o6 o7 o8 (some (.int a)) (some (.int b)) (some (.int c)) (some (.int d)) (some (fD x)) (some (fD y)) o15 o16 o17) μ = some (.nx (En s o2 o3 o4 (some (told a b x y)) o6 o7 o8 (some (.int a)) (some (.int b)) (some (.int c)) (some (.int d)) (some (fD x)) (some (fD y)) o15 o16 o17) μ) := by
  have fx' := n.fx.mono (k := 1800) (by decide)
  have fy' := n.fy.mono (k := 1800) (by decide)
  have fp := (n.fx.add n.fy).mono (k := 1800) (by decide)
  have f12 : Fq 1800 (1, 2) := Fq.mono (j := 10) (by unfold Fq Sm; decide) (by decide)
  have b1 := n.b1
  have h2 := K.lfr (-a) b μ (n.sa.neg.mono (by decide)) (dn_pos n.sb (by decide) (by omega))
  have h3 := K.ladd x y μ fx' fy'
  have h4 := K.lsub x y μ fx' fy'
  have h5 := K.lmul x y μ fx' fy'
  have h6 := K.lmul (1, 2) (addF x y) μ f12 fp
  have h8 := K.ladd (addF x y) x μ fp fx'
  unfold s_1_3 told
  walk_at "go"
  simp [h2, h3, h4, h5, h6, h8, andThen_some', wthD_some', op_sub, szle, pl_set]
theorem st4 (t : D) (ht : dep 50 t = true) (μ : Cells) :
    exec F W s_1_4 (En s o2 o3 (some t) (some t) o6 o7 o8 (some (.int a)) (some (.int b)) (some (.int c)) (some (.int d)) (some (fD x)) (some (fD y)) o15 o16 o17) μ = some (.nx (En s o2 o3 (some t) (some t) o6 o7 o8 (some (.int a)) (some (.int b)) (some (.int c)) (some (.int d)) (some (fD x)) (some (fD y)) o15 o16 o17) μ) := by
  have fx' := n.fx.mono (k := 1800) (by decide)
  have fy' := n.fy.mono (k := 1800) (by decide)
  have h1 := K.like t ht μ
  unfold s_1_4
  walk_at "go"
  by_cases z : y.1 = 0
  · simp [h1, z, andThen_some', onBl_bl]
  · have d1 : Dn (x.2 * y.1) := by
      have s2 : Sm 20 (x.2 * y.1) := n.fx.2.1.mul n.fy.1
      refine ⟨s2.mono (by decide), .inr ⟨Int.mul_ne_zero (by have := n.fx.2.2.1; omega) z, Nat.lt_trans s2 (by decide)⟩⟩
    have h2 := K.over x y μ fx' fy' d1
    have h3 := K.ldiv x y μ fx' fy' d1
    have h4 := K.like (fD (divF x y)) rfl μ
    simp [h1, h2, h3, h4, z, andThen_some', onBl_bl]
end
/-! ### order, floors -/
section
variable {a b c d : Int} {x y : Int × Int} (n : Nu a b c d x y)
include n
omit K in
theorem Nu.gx : ∃ g : Int, 0 < g ∧ a = x.1 * g ∧ b = x.2 * g ∧ 0 < x.2 := by
  have b1 := n.b1
  obtain ⟨h1, h2, h3, _⟩ := fr_spec a (b := b) (by omega)
  rw [n.xe] at h1 h2 h3
  refine ⟨gs a b, ?_, h1, h2, h3⟩
  have := gcd_pos a (b := b) (by omega)
  unfold gs
  rw [if_pos (by omega)]
  omega
omit K in
theorem Nu.gy : ∃ g : Int, 0 < g ∧ c = y.1 * g ∧ d = y.2 * g ∧ 0 < y.2 := by
  have b1 := n.d1
  obtain ⟨h1, h2, h3, _⟩ := fr_spec c (b := d) (by omega)
  rw [n.ye] at h1 h2 h3
  refine ⟨gs c d, ?_, h1, h2, h3⟩
  have := gcd_pos c (b := d) (by omega)
  unfold gs
  rw [if_pos (by omega)]
  omega
omit K in
theorem Nu.less : decide (a * d < c * b) = lessF x y := by
  obtain ⟨g, g0, g1, g2, _⟩ := n.gx
  obtain ⟨h, h0, h1, h2, _⟩ := n.gy
  unfold lessF
  have p : 0 < g * h := Int.mul_pos g0 h0
  have e1 : a * d = x.1 * y.2 * (g * h) := by rw [g1, h2]; simp [Int.mul_assoc, Int.mul_comm, Int.mul_left_comm]
  have e2 : c * b = y.1 * x.2 * (g * h) := by rw [h1, g2]; simp [Int.mul_assoc, Int.mul_comm, Int.mul_left_comm]
  rw [e1, e2]
  exact decide_eq_decide.mpr (Int.mul_lt_mul_right p)
omit K in
theorem Nu.floor : a.fdiv b = x.1.fdiv x.2 := by
  obtain ⟨g, g0, g1, g2, g3⟩ := n.gx
  rw [g1, g2, Int.fdiv_eq_ediv_of_nonneg _ (by have := Int.mul_pos g3 g0; omega), Int.fdiv_eq_ediv_of_nonneg _ (by omega)]
  exact Int.mul_ediv_mul_of_pos_left _ _ g0
theorem st5 (t : D) (μ : Cells) :
    exec F W s_1_5 (En s o2 o3 o4 o5 o6 o7 o8 (some (.int a)) (some (.int b)) (some (.int c)) (some (.int d)) (some (fD x)) (some (fD y)) o15 o16 o17) μ = some (.nx (En s o2 o3 o4 o5 o6 o7 o8 (some (.int a)) (some (.int b)) (some (.int c)) (some (.int d)) (some (fD x)) (some (fD y)) o15 o16 o17) μ) := by
  have fx' := n.fx.mono (k := 1800) (by decide)
  have fy' := n.fy.mono (k := 1800) (by decide)
  have h1 := K.less x y μ fx' fy'
  have h2 := K.least x y μ fx' fy'
  have h3 := K.most x y μ fx' fy'
  have h4 := K.sign x μ
  have h5 := K.floor x μ fx'
  have h6 := K.common a c μ (n.sc.mono (by decide))
  have g4 := K.lsgn x μ
  have g6 := K.gcd a c μ ⟨n.sa.mono (by decide), n.sc.mono (by decide), .inr (Nat.lt_trans n.sc (by decide))⟩
  have e1 := op_mul n.sa n.sd (by decide)
  have e2 := op_mul n.sc n.sb (by decide)
  have e3 := op_div a (Dv.pos (j := b) (by have := n.b1; omega) n.sb (by decide))
  rw [n.floor] at e3
  have lt := n.less
  unfold s_1_5
  walk_at "go"
  simp only [e1, e2, h1, h2, h3, h4, h5, h6, andThen_some', wthD_some', cmpD, lt]
  cases z : lessF x y
  · have g := K.like (.tup [.bl false, fD y, fD x, .int (sgI x.1), .int (x.1.fdiv x.2), .int (Int.gcd a c)]) rfl μ
    simp [z, lt, g, g4, g6, e1, e2, e3, onBl_bl, andThen_some', wthD_some', cmpD, szle]
  · have g := K.like (.tup [.bl true, fD x, fD y, .int (sgI x.1), .int (x.1.fdiv x.2), .int (Int.gcd a c)]) rfl μ
    simp [z, lt, g, g4, g6, e1, e2, e3, onBl_bl, andThen_some', wthD_some', cmpD, szle]
end
end
end K00

set_option Elab.async false
set_option linter.all false
set_option maxRecDepth 100000
set_option maxHeartbeats 4000000
namespace K00
open FM L2 PyProof.Rows
open PySem (Str sizeLine)
local macro_rules | `(tactic| walk_at "go") => `(tactic| simp [FM.execs, FM.exec, FM.ev, FM.evs, FM.evo, FM.evc, FM.evi, FM.Sl.d, FM.isiD, FM.cmpD, FM.negD, FM.bindT, FM.andThen_some', FM.onBl_bl, FM.wthD_some', FM.eqD_int, FM.ix_tup, FM.ix_lst, FM.atI_0, FM.atI_1, FM.atI_2, FM.op_add, FM.op_sub, FM.op_subBl, FM.biD_abs, FM.szle, FM.pl_get, FM.pl_set, FM.isOw_pl, FM.noOw_pl, FM.lk_pl, FM.lks_pl, FM.itlk_pl, FM.setAll_pl, FM.setAllD])
/-! ### what is looked up one by one -/
def pairs : List (Int × Int) := (List.range 99).flatMap fun (i : Nat) => (List.range 30).map fun (j : Nat) => ((i : Int) - 49, (j : Int) + 1)
theorem mem_pairs {a b : Int} (ha : -49 ≤ a ∧ a < 50) (hb : 1 ≤ b ∧ b < 31) : (a, b) ∈ pairs := by
  unfold pairs
  rw [List.mem_flatMap]
  refine ⟨(a + 49).toNat, List.mem_range.mpr (by omega), List.mem_map.mpr ⟨(b - 1).toNat, List.mem_range.mpr (by omega), ?_⟩⟩
  rw [Int.toNat_of_nonneg (by omega), Int.toNat_of_nonneg (by omega)]
  congr 1 <;> omega
def tx (i : Int) : Str := toString i
def txt (x : Int × Int) : Str := tx x.1 ++ (if 1 < x.2 then ("/" : Str) ++ tx x.2 else "")
def nums : List Int := (List.range 99).map fun (i : Nat) => (i : Int) - 49
def dens : List Int := (List.range 30).map fun (i : Nat) => (i : Int) + 1
def f0 : S := .asgT [4, 5, 6] (.me .partition (.var 0) (.cons (.str "/") .nil))
def f1 : S := .asg 1 (.call 18 (.cons (.ife (.cmp .Eq (.sl (.var 4) .none (.some (.int 1))) (.str "-")) (.sl (.var 4) (.some (.int 1)) .none) (.var 4)) .nil))
def f2 : S := .asg 2 (.ife (.cmp .NotEq (.var 5) (.str "")) (.call 18 (.cons (.var 6) .nil)) (.int 1))
def f3 : S := .ifs (.or (.cmp .Is (.var 1) .non) (.cmp .In (.var 2) (.tup (.cons .non (.cons (.int 0) .nil))))) (.cons (.ret .non) .nil) .nil
def fneg : E := (.ife (.cmp .Eq (.sl (.var 4) .none (.some (.int 1))) (.str "-")) (.neg (.var 1)) (.var 1))
def f4 : S := .asg 3 (.call 2 (.cons fneg (.cons (.var 2) .nil)))
def f5 : S := .ret (.ife (.cmp .Eq (.call 17 (.cons (.var 3) .nil)) (.var 0)) (.var 3) .non)
theorem fin_pieces : B_frac_in 18 2 17 = (.cons f0 (.cons f1 (.cons f2 (.cons f3 (.cons f4 (.cons f5 .nil)))))) := rfl
theorem f1_all (t m l : Str) (μ : Cells) : nums.map (fun i => exec (T 58) W f1 (pl [some (.str t), none, none, none, some (.str (tx i)), some (.str m), some (.str l)]) μ) = nums.map (fun i => some (Res.nx (pl [some (.str t), some (.int i.natAbs), none, none, some (.str (tx i)), some (.str m), some (.str l)]) μ)) := by kernel_rfl
theorem f2_all (t h : Str) (n : D) (μ : Cells) : dens.map (fun d => exec (T 58) W f2 (pl [some (.str t), some n, none, none, some (.str h), some (.str "/"), some (.str (tx d))]) μ) = dens.map (fun d => some (Res.nx (pl [some (.str t), some n, some (.int d), none, some (.str h), some (.str "/"), some (.str (tx d))]) μ)) := by kernel_rfl
theorem fneg_all (F : Fs) (t m l : Str) (d : D) (μ : Cells) : nums.map (fun i => ev F fneg (pl [some (.str t), some (.int i.natAbs), some d, none, some (.str (tx i)), some (.str m), some (.str l)]) μ) = nums.map (fun i => some (.int i, μ)) := by kernel_rfl
def lenOk (i : Int) : Bool := decide ((tx i).length ≤ 10)
theorem len_all : nums.all lenOk = true := by decide +kernel
theorem sl_all : nums.all (fun i => decide (47 ∉ TL.tl (tx i)) && decide ((tx i).length ≤ 10)) = true := by decide +kernel
def sqOk (p : Int × Int) : Bool := decide (fr (p.1 * p.1) (p.2 * p.2) = ((fr p.1 p.2).1 * (fr p.1 p.2).1, (fr p.1 p.2).2 * (fr p.1 p.2).2) ∧ fr p.1.natAbs p.2 = (((fr p.1 p.2).1.natAbs : Int), (fr p.1 p.2).2))
theorem sq_all : pairs.all sqOk = true := by decide +kernel
theorem mem_nums {a : Int} (ha : -49 ≤ a ∧ a < 50) : a ∈ nums := by
  unfold nums
  refine List.mem_map.mpr ⟨(a + 49).toNat, List.mem_range.mpr (by omega), ?_⟩
  rw [Int.toNat_of_nonneg (by omega)]
  omega
theorem mem_dens {b : Int} (hb : 1 ≤ b ∧ b < 31) : b ∈ dens := by
  unfold dens
  refine List.mem_map.mpr ⟨(b - 1).toNat, List.mem_range.mpr (by omega), ?_⟩
  rw [Int.toNat_of_nonneg (by omega)]
  omega
theorem of_all {α β : Type} {l : List α} {f g : α → β} (h : l.map f = l.map g) {a : α} (m : a ∈ l) : f a = g a := List.map_inj_left.mp h a m
end K00

set_option Elab.async false
set_option linter.all false
set_option maxRecDepth 100000
set_option maxHeartbeats 4000000
namespace K00
open FM L2 PyProof.Rows
open PySem (Str sizeLine)
local macro_rules | `(tactic| walk_at "go") => `(tactic| simp [FM.execs, FM.exec, FM.ev, FM.evs, FM.evo, FM.evc, FM.evi, FM.Sl.d, FM.isiD, FM.cmpD, FM.negD, FM.bindT, FM.andThen_some', FM.onBl_bl, FM.wthD_some', FM.eqD_int, FM.ix_tup, FM.ix_lst, FM.atI_0, FM.atI_1, FM.atI_2, FM.op_add, FM.op_sub, FM.op_subBl, FM.biD_abs, FM.szle, FM.pl_get, FM.pl_set, FM.isOw_pl, FM.noOw_pl, FM.lk_pl, FM.lks_pl, FM.itlk_pl, FM.setAll_pl, FM.setAllD])
/-! ### texts -/
/-- a fraction of a turn -/
structure Sx (x : Int × Int) : Prop where
  p : -49 ≤ x.1 ∧ x.1 < 50
  q : 1 ≤ x.2 ∧ x.2 < 31
  f : Fq 10 x
theorem Nu.sx {a b c d : Int} {x y : Int × Int} (n : Nu a b c d x y) : Sx x := by
  have f := n.fx
  have a1 := n.a1
  have b1 := n.b1
  have h1 : x.1.natAbs ≤ a.natAbs := by rw [← n.xe]; exact Int.natAbs_fdiv_le_natAbs _ _
  have h2 : x.2.natAbs ≤ b.natAbs := by rw [← n.xe]; exact Int.natAbs_fdiv_le_natAbs _ _
  have h3 := f.2.2.1
  exact ⟨by omega, by omega, f⟩
theorem len_tx {i : Int} (h : -49 ≤ i ∧ i < 50) : (tx i).length ≤ 10 := by
  have := List.all_eq_true.mp len_all i (mem_nums h)
  unfold lenOk at this
  exact of_decide_eq_true this
theorem bi_str (μ : Cells) {i : Int} (h : Sm 1000 i) : biD μ .str [.int i] = some (.str (tx i)) := by
  show (if i.natAbs.log2 < 1920 then some (D.str (toString i)) else none) = _
  rw [if_pos (by have := h.log; omega)]
  rfl
theorem op_str {a b : Str} (h : a.length + b.length ≤ 1000) : opD .Add (.str a) (.str b) = some (.str (a ++ b)) := by
  show (if a.length + b.length ≤ sizeLine then _ else _) = _
  rw [if_pos (szle h)]
theorem len_app (a b : Str) : (a ++ b).length = a.length + b.length := by
  show (a.cps ++ b.cps).size = a.cps.size + b.cps.size
  simp
theorem text_ev (F : Fs) {x : Int × Int} (s : Sx x) (ds : List (Option D)) (i : Nat) (h : ds[i]? = some (some (fD x))) (μ : Cells) :
    ev F (.op .Add (.bi .str (.cons (.ix (.var i) (.int 0)) .nil)) (.ife (.cmp .Gt (.ix (.var i) (.int 1)) (.int 1)) (.op .Add (.str "/") (.bi .str (.cons (.ix (.var i) (.int 1)) .nil))) (.str ""))) (pl ds) μ = some (.str (txt x), μ) := by
  have l1 := len_tx s.p
  have l2 := len_tx (i := x.2) (by have := s.q; omega)
  have e1 : ("/" : Str).length = 1 := by decide +kernel
  have e2 : ("" : Str).length = 0 := by decide +kernel
  unfold txt
  by_cases z : 1 < x.2
  · have h1 := op_str (a := ("/" : Str)) (b := tx x.2) (by omega)
    have h2 := op_str (a := tx x.1) (b := ("/" : Str) ++ tx x.2) (by rw [len_app]; omega)
    walk_at "go"
    simp [h, z, bi_str _ (s.f.1.mono (k := 1000) (by decide)), bi_str _ (s.f.2.1.mono (k := 1000) (by decide)), andThen_some', onBl_bl, wthD_some', FM.ix_tup, atI_0, atI_1, Sl.d, cmpD, h1, h2]
  · have h2 := op_str (a := tx x.1) (b := ("" : Str)) (by omega)
    walk_at "go"
    simp [h, z, bi_str _ (s.f.1.mono (k := 1000) (by decide)), andThen_some', onBl_bl, wthD_some', FM.ix_tup, atI_0, atI_1, Sl.d, cmpD, h2]
/-- a fraction's text, cut at the bar -/
theorem par_txt {x : Int × Int} (hx : -49 ≤ x.1 ∧ x.1 < 50) : PySem.Txt.partition (txt x) "/" = if 1 < x.2 then (tx x.1, ("/" : Str), tx x.2) else (tx x.1, ("" : Str), ("" : Str)) := by
  have h := List.all_eq_true.mp sl_all x.1 (mem_nums hx)
  rw [Bool.and_eq_true, decide_eq_true_eq, decide_eq_true_eq] at h
  unfold txt
  split
  · rename_i z
    have e := TL.partition_app (y := ("/" : Str)) (s := 47) (S := []) (by decide +kernel) (a := tx x.1) (b := tx x.2) h.1
    rw [← e]
    congr 1
    exact (PySem.Str.append_assoc _ _ _).symm
  · have e := TL.partition_none (y := ("/" : Str)) (s := 47) (S := []) (by decide +kernel) (a := tx x.1) h.1
    have e2 : tx x.1 ++ ("" : Str) = tx x.1 := PySem.Str.append_empty _
    show PySem.Txt.partition (tx x.1 ++ ("" : Str)) "/" = _
    rw [e2, e]
    rfl
theorem text_of_at (n : Nat) {x : Int × Int} (s : Sx x) (μ : Cells) : T (n + 1) 17 [fD x] μ = some (.str (txt x), μ) := by
  refine (call_at (d := d_text_of) rfl _ _).trans (run_rt rfl (Nat.le_of_ble_eq_true rfl) (seq_rt (ret_of rfl ?_)))
  exact text_ev _ s [some (fD x)] 0 rfl μ
theorem eqD_str (a : Str) : eqD (.str a) (.str a) = some true := by
  simp [eqD, scalOk, eqS, D.scal]
theorem frac_in_at {x : Int × Int} (s : Sx x) (μ : Cells) : T 59 19 [.str (txt x)] μ = some (fD x, μ) := by
  refine (call_at (d := d_frac_in) rfl _ _).trans (run_rt rfl (Nat.le_of_ble_eq_true rfl) ?_)
  have hp := par_txt s.p
  have n1 := of_all (f1_all (txt x) (if 1 < x.2 then "/" else "") (if 1 < x.2 then tx x.2 else "") μ) (mem_nums s.p)
  have n2 := of_all (f2_all (txt x) (tx x.1) (.int x.1.natAbs) μ) (mem_dens s.q)
  have n3 := of_all (fneg_all (T 58) (txt x) (if 1 < x.2 then "/" else "") (if 1 < x.2 then tx x.2 else "") (.int x.2) μ) (mem_nums s.p)
  have lt : (txt x).length ≤ 1000 := by
    have l1 := len_tx s.p
    have l2 := len_tx (i := x.2) (by have := s.q; omega)
    have e1 : ("/" : Str).length = 1 := by decide +kernel
    have e2 : ("" : Str).length = 0 := by decide +kernel
    unfold txt
    rw [len_app]
    show (tx x.1).length + _ ≤ _
    split
    · rw [len_app]
      show (tx x.1).length + (_ + (tx x.2).length) ≤ _
      omega
    · omega
  show execs _ W (B_frac_in 18 2 17) (pl [some (.str (txt x)), none, none, none, none, none, none]) μ = _
  rw [fin_pieces]
  refine seq_nx (ρ1 := pl [some (.str (txt x)), none, none, none, some (.str (tx x.1)), some (.str (if 1 < x.2 then "/" else "")), some (.str (if 1 < x.2 then tx x.2 else ""))]) (μ1 := μ) ?_ (seq_nx n1 (seq_nx (ρ1 := pl [some (.str (txt x)), some (.int x.1.natAbs), some (.int x.2), none, some (.str (tx x.1)), some (.str (if 1 < x.2 then "/" else "")), some (.str (if 1 < x.2 then tx x.2 else ""))]) (μ1 := μ) ?_ (seq_nx (ρ1 := pl [some (.str (txt x)), some (.int x.1.natAbs), some (.int x.2), none, some (.str (tx x.1)), some (.str (if 1 < x.2 then "/" else "")), some (.str (if 1 < x.2 then tx x.2 else ""))]) (μ1 := μ) ?_ (seq_nx (ρ1 := pl [some (.str (txt x)), some (.int x.1.natAbs), some (.int x.2), some (fD x), some (.str (tx x.1)), some (.str (if 1 < x.2 then "/" else "")), some (.str (if 1 < x.2 then tx x.2 else ""))]) (μ1 := μ) ?_ (seq_rt ?_)))))
  · have sl : (("/" : Str).length == 0) = false := by decide +kernel
    have e : meD .partition (.str (txt x)) [.str "/"] = some (.tup [.str (tx x.1), .str (if 1 < x.2 then "/" else ""), .str (if 1 < x.2 then tx x.2 else "")]) := by
      show (if ((("/" : Str).length == 0) = false ∧ (txt x).length ≤ sizeLine) then _ else _) = _
      rw [if_pos ⟨sl, szle lt⟩, hp]
      split <;> rfl
    unfold f0
    walk_at "go"
    simp [e, andThen_some', wthD_some', setAll_pl, setAllD]
  · by_cases z : 1 < x.2
    · simp only [z, if_true]
      exact n2
    · have e : x.2 = 1 := by have := s.q; omega
      simp only [z, if_false, e]
      unfold f2
      walk_at "go"
      simp [eqD_str, onBl_bl, andThen_some', wthD_some', pl_set]
  · have q := s.q
    have z : ¬ x.2 = 0 := by omega
    have e : inD (.int x.2) [.non, .int 0] = some false := by
      simp [inD, scalOk, eqS, D.scal, D.flat]
      omega
    unfold f3
    walk_at "go"
    simp [FM.isNon, e, onBl_bl, andThen_some', wthD_some', szle]
  · have h := frac_at 56 x.1 x.2 μ (dn_pos s.f.2.1 (by decide) s.f.2.2.1)
    rw [s.f.fr] at h
    unfold f4
    walk_at "go"
    simp [n3, andThen_some', h, pl_set]
  · have h := text_of_at 57 s μ
    unfold f5
    walk_at "go"
    simp [h, andThen_some', eqD_str, onBl_bl, wthD_some']
end K00

set_option Elab.async false
set_option linter.all false
set_option maxRecDepth 100000
set_option maxHeartbeats 4000000
namespace K00
open FM
open L2 (atI)
open PySem (Str sizeLine)
local macro_rules | `(tactic| walk_at "go") => `(tactic| simp [FM.execs, FM.exec, FM.ev, FM.evs, FM.evo, FM.evc, FM.evi, FM.Sl.d, FM.isiD, FM.cmpD, FM.negD, FM.bindT, FM.andThen_some', FM.onBl_bl, FM.wthD_some', FM.eqD_int, FM.ix_tup, FM.ix_lst, FM.atI_0, FM.atI_1, FM.atI_2, FM.op_add, FM.op_sub, FM.op_subBl, FM.biD_abs, FM.szle, FM.pl_get, FM.pl_set, FM.isOw_pl, FM.noOw_pl, FM.lk_pl, FM.lks_pl, FM.itlk_pl, FM.setAll_pl, FM.setAllD])
section
variable {F : Fs} (K : Ok F) {s : D} {o2 o3 o4 o5 o6 o7 o8 o9 o10 o11 o12 o13 o14 o15 o16 o17 : Option D}
variable {a b c d : Int} {x y : Int × Int} (n : Nu a b c d x y)
include K n
omit K in
theorem st6 (μ : Cells) : exec F W s_1_6 (En s o2 o3 o4 o5 o6 o7 o8 o9 o10 o11 o12 (some (fD x)) o14 o15 o16 o17) μ = some (.nx (En s o2 o3 o4 o5 (some (.str (txt x))) o7 o8 o9 o10 o11 o12 (some (fD x)) o14 o15 o16 o17) μ) := by
  have h := text_ev F n.sx [some s, some (.cell 0), o2, o3, o4, o5, o6, o7, o8, o9, o10, o11, o12, some (fD x), o14, o15, o16, o17] 13 rfl μ
  unfold s_1_6 exec
  rw [lk_pl, isOw_pl, h]
  show some (Res.nx ((pl _).set 6 _) μ) = _
  rw [pl_set]
  rfl
theorem st7 (μ : Cells) (h1 : F 17 [fD x] μ = some (.str (txt x), μ)) (h2 : F 19 [.str (txt x)] μ = some (fD x, μ)) :
    exec F W s_1_7 (En s o2 o3 o4 o5 (some (.str (txt x))) o7 o8 o9 o10 o11 o12 (some (fD x)) o14 o15 o16 o17) μ = some (.nx (En s o2 o3 o4 o5 (some (.str (txt x))) o7 o8 o9 o10 o11 o12 (some (fD x)) o14 o15 o16 o17) μ) := by
  have fx := n.fx
  have h3 := K.isfrac x μ (fx.2.1.mono (by decide))
  have s2 : Sm 10 (2 : Int) := by unfold Sm; decide
  have h4 := K.isfrac (2 * x.1, 2 * x.2) μ ((s2.mul fx.2.1).mono (by decide))
  have g : Int.gcd (2 * x.1) (2 * x.2) = 2 := by
    rw [Int.gcd_mul_left, fx.2.2.2]
    rfl
  have e1 := op_mul s2 fx.1 (by decide)
  have e2 := op_mul s2 fx.2.1 (by decide)
  have k := K.like (.tup [.str (txt x), fD x, .bl true, .bl false]) rfl μ
  rw [fx.2.2.2] at h3
  simp only [g] at h4
  have p := fx.2.2.1
  simp [p] at h3 h4
  unfold s_1_7
  walk_at "go"
  simp [h1, h2, h3, h4, e1, e2, k, andThen_some', wthD_some', onBl_bl, szle]
omit n in
theorem st8 (n : Nu a b c d x y) (is : List Int) (k : Int) (hk : 0 ≤ k) : ∃ p k' : Int, (1 ≤ p ∧ p < 21) ∧ 0 ≤ k' ∧
    exec F W s_1_8 (En s o2 o3 o4 o5 o6 o7 o8 (some (.int a)) (some (.int b)) o11 o12 o13 o14 o15 o16 o17) [cw is k] = some (.nx (En s o2 o3 o4 o5 o6 o7 o8 (some (.int a)) (some (.int b)) o11 o12 o13 o14 (some (.int (a * a + b))) (some (.int p)) o17) [cw is k']) := by
  obtain ⟨r1, k1, a1, a2, a3, a4⟩ := K.next is k 20 (by decide) hk
  have e := op_mul n.sa n.sa (by decide)
  refine ⟨1 + r1, k1, by omega, a3, ?_⟩
  unfold s_1_8
  walk_at "go"
  simp [a4, e, andThen_some', wthD_some', op_add, szle, setAll_pl, setAllD]
omit n in
theorem st9 (m r : Int) (hr : IsRt m r) (hm : m ≤ 2500) (μ : Cells) :
    exec F W s_1_9 (En s o2 o3 o4 o5 o6 o7 o8 o9 o10 o11 o12 o13 o14 (some (.int m)) o16 o17) μ = some (.nx (En s o2 o3 o4 o5 o6 (some (.int r)) o8 o9 o10 o11 o12 o13 o14 (some (.int m)) o16 o17) μ) := by
  obtain ⟨r0, r1, r2⟩ := hr
  have rl : r < 60 := by
    rcases Int.lt_or_le r 60 with z | z
    · exact z
    · have := Int.mul_le_mul z z (by decide) (by omega)
      omega
  let p : Nat → Bool := fun k => decide ((k : Int) * k ≤ m)
  have q1 : ∀ k : Nat, k ≤ r.toNat → p k = true := fun k hk => decide_eq_true (by
    have : (k : Int) * k ≤ r * r := Int.mul_le_mul (by omega) (by omega) (by omega) (by omega)
    omega)
  have q2 : ∀ k : Nat, r.toNat < k → p k = false := fun k hk => decide_eq_false (by
    have : (r + 1) * (r + 1) ≤ (k : Int) * k := Int.mul_le_mul (by omega) (by omega) (by omega) (by omega)
    omega)
  have fl := filter_below r.toNat p q1 q2 200
  have mn : min 200 (r.toNat + 1) = r.toNat + 1 := by omega
  rw [mn] at fl
  have e := ev_lcf (F := F) (i := 17) (e := .int 200) (cond := .cmp .LtE (.op .Mult (.var 17) (.var 17)) (.var 15)) (ds := [some s, some (.cell 0), o2, o3, o4, o5, o6, o7, o8, o9, o10, o11, o12, o13, o14, some (.int m), o16, o17]) (μ := μ) 200 p (by decide) (Nat.le_of_ble_eq_true rfl) rfl (fun k hk => by
    have sk : Sm 10 (k : Int) := sm_of (by omega)
    walk_at "go"
    simp [op_mul sk sk (by decide), andThen_some', wthD_some', cmpD, p])
  rw [fl, List.range_succ, List.map_append] at e
  refine (asg_pl (ev_ix e (y := .int (-1)) (μ2 := μ) ?_ (show atI _ (-1) = some (D.int r) from ?_))).trans ?_
  · walk_at "go"
  · have : ((r.toNat : Nat) : Int) = r := by omega
    show atI (_ ++ [D.int (r.toNat : Nat)]) (-1) = _
    rw [this]
    exact atI_last
  · rfl
omit n in
theorem st10 (m p d u : Int) (hu : IsUp (m * p * p) d u) (hm : 0 ≤ m ∧ m ≤ 2500) (hp : 1 ≤ p ∧ p < 21) (hd : 1 ≤ d ∧ d < 31) (μ : Cells) :
    exec F W s_1_10 (En s o2 o3 o4 o5 o6 o7 o8 o9 o10 o11 (some (.int d)) o13 o14 (some (.int m)) (some (.int p)) o17) μ = some (.nx (En s o2 o3 o4 o5 o6 o7 (some (.int u)) o9 o10 o11 (some (.int d)) o13 o14 (some (.int m)) (some (.int p)) o17) μ) := by
  obtain ⟨u0, u1, u2⟩ := hu
  have n0 : m * p * p ≤ 2500 * 20 * 20 := Int.mul_le_mul (Int.mul_le_mul hm.2 (by omega) (by omega) (by decide)) (by omega) (by omega) (by decide)
  have ul : u < 5000 := by
    rcases Int.lt_or_le u 5000 with z | z
    · exact z
    · have h := u2 4999 (by decide) (by omega)
      have : (4999 : Int) * 4999 * 1 ≤ 4999 * 4999 * d := Int.mul_le_mul_of_nonneg_left (by omega) (by decide)
      omega
  let q : Nat → Bool := fun k => decide (m * p * p ≤ (k : Int) * k * d)
  have q1 : ∀ k : Nat, k < u.toNat → q k = false := fun k hk => decide_eq_false (by have := u2 k (by omega) (by omega); omega)
  have q2 : q u.toNat = true := decide_eq_true (by rw [Int.toNat_of_nonneg u0]; exact u1)
  have fl := filter_above u.toNat q q1 q2 5000
  rw [if_pos (by omega)] at fl
  have sm : Sm 12 m := by unfold Sm; omega
  have sp : Sm 10 p := sm_of (by omega)
  have sd : Sm 10 d := sm_of (by omega)
  have e1 := op_mul sm sp (by decide)
  have e2 := op_mul (sm.mul sp) sp (by decide)
  have e := ev_lcf (F := F) (i := 17) (e := .int 5000) (cond := .cmp .GtE (.op .Mult (.op .Mult (.var 17) (.var 17)) (.var 12)) (.op .Mult (.op .Mult (.var 15) (.var 16)) (.var 16))) (ds := [some s, some (.cell 0), o2, o3, o4, o5, o6, o7, o8, o9, o10, o11, some (.int d), o13, o14, some (.int m), some (.int p), o17]) (μ := μ) 5000 q (by decide) (Nat.le_of_ble_eq_true rfl) rfl (fun k hk => by
    have sk : Sm 13 (k : Int) := by unfold Sm; omega
    walk_at "go"
    simp [op_mul sk sk (by decide), op_mul (sk.mul sk) sd (by decide), e1, e2, andThen_some', wthD_some', cmpD, q])
  refine (asg_pl (ev_ix e (y := .int 0) (μ2 := μ) rfl (show atI _ 0 = some (D.int u) from ?_))).trans ?_
  · have : ((u.toNat : Nat) : Int) = u := by omega
    rw [atI_head fl, this]
  · rfl
omit K n in
theorem up_mul {m p d u g e1 e2 : Int} (g0 : 0 < g) (h1 : m = e1 * g) (h2 : d = e2 * g) (h : IsUp (e1 * p * p) e2 u) : IsUp (m * p * p) d u := by
  have a : m * p * p = e1 * p * p * g := by rw [h1]; simp [Int.mul_assoc, Int.mul_comm, Int.mul_left_comm]
  have b : ∀ t : Int, t * t * d = t * t * e2 * g := fun t => by rw [h2]; simp [Int.mul_assoc]
  obtain ⟨u0, u1, u2⟩ := h
  refine ⟨u0, ?_, fun t t0 t1 => ?_⟩
  · rw [a, b]
    exact Int.mul_le_mul_of_nonneg_right u1 (by omega)
  · rw [a, b]
    exact Int.mul_lt_mul_of_pos_right (u2 t t0 t1) g0
omit K n in
theorem rt0 {r : Int} (h : IsRt 0 r) : r = 0 := h.uniq ⟨by decide, by decide, by decide⟩
omit K n in
theorem rt_sq {m : Int} (h : 0 ≤ m) {r : Int} (g : IsRt (m * m) r) : r = m := g.uniq ⟨h, Int.le_refl _, by
  have : (m + 1) * (m + 1) = m * m + 2 * m + 1 := by grind
  omega⟩
omit n in
theorem roots (n : Nu a b c d x y) (p : Int) (hp : 1 ≤ p ∧ p < 21) (μ : Cells) : ∃ r u : Int, IsRt (a * a + b) r ∧ IsUp ((a * a + b) * p * p) d u ∧ F 14 [.int (a * a + b)] μ = some (.int r, μ) ∧ F 14 [.int 0] μ = some (.int 0, μ) ∧
    F 26 [.int (a * a + b), .int d] μ = some (fD (fr (a * a + b) d), μ) ∧ F 16 [fD (fr (a * a + b) d), .int p] μ = some (fD (fr u p), μ) ∧
    F 26 [.int (a * a), .int (b * b)] μ = some (fD (fr (a * a) (b * b)), μ) ∧ F 15 [fD (fr (a * a) (b * b))] μ = some (fD (fr a.natAbs b), μ) := by
  have b1 := n.b1
  have d1 := n.d1
  have sq : 0 ≤ a * a := sqn a
  have sa : Sm 21 (a * a + b) := (n.sa.mul n.sa).add (n.sb.mono (by decide))
  obtain ⟨r, r1, r2⟩ := K.root (a * a + b) μ (by omega) (sa.mono (by decide))
  obtain ⟨r', r3, r4⟩ := K.root 0 μ (by decide) (by unfold Sm; decide)
  rw [rt0 r4] at r3
  have f1 : Fq 21 (fr (a * a + b) d) := fr_fq sa (n.sd.mono (by decide)) (by omega)
  obtain ⟨z1, z2, z3, _⟩ := fr_spec (a * a + b) (b := d) (by omega)
  have g0 : 0 < gs (a * a + b) d := by
    have := gcd_pos (a * a + b) (b := d) (by omega)
    unfold gs
    rw [if_pos (by omega)]
    omega
  have p0 : 0 ≤ (fr (a * a + b) d).1 := by
    rcases Int.lt_or_le (fr (a * a + b) d).1 0 with z | z
    · have := Int.mul_neg_of_neg_of_pos z g0
      omega
    · exact z
  obtain ⟨u, u1, u2⟩ := K.aroot (fr (a * a + b) d) p μ (f1.mono (by decide)) p0 (sm_of (i := p) (by omega) |>.mono (by decide)) (by omega)
  have sqa := List.all_eq_true.mp sq_all _ (mem_pairs n.a1 n.b1)
  unfold sqOk at sqa
  rw [decide_eq_true_eq] at sqa
  simp only [n.xe] at sqa
  have fx := n.fx
  have f2 : Fq 20 (fr (a * a) (b * b)) := fr_fq (n.sa.mul n.sa) (n.sb.mul n.sb) (by have := Int.mul_pos (a := b) (b := b) (by omega) (by omega); omega)
  have q0 : 0 ≤ (fr (a * a) (b * b)).1 := by rw [sqa.1]; exact sqn _
  obtain ⟨v, w, v1, w1, e⟩ := K.eroot (fr (a * a) (b * b)) μ (f2.mono (by decide)) q0
  have ev : v = x.1.natAbs := by
    refine rt_sq (by omega) ?_
    rw [sqa.1] at v1
    rw [Int.natAbs_mul_self']
    exact v1
  have ew : w = x.2 := by
    refine rt_sq (by have := fx.2.2.1; omega) ?_
    rw [sqa.1] at w1
    exact w1
  have es : v * v = (fr (a * a) (b * b)).1 ∧ w * w = (fr (a * a) (b * b)).2 := by
    rw [sqa.1, ev, ew, Int.natAbs_mul_self']
    exact ⟨rfl, rfl⟩
  rw [if_pos es, ev, ew, ← sqa.2] at e
  refine ⟨r, u, r2, up_mul g0 z1 z2 u1, r1, r3, K.lfr _ _ μ (sa.mono (by decide)) (dn_pos n.sd (by decide) (by omega)), u2, K.lfr _ _ μ ((n.sa.mul n.sa).mono (by decide)) (dn_pos (n.sb.mul n.sb) (by decide) (Int.mul_pos (by omega) (by omega))), e⟩
omit n in
theorem st11 (n : Nu a b c d x y) (p r u : Int) (hp : 1 ≤ p ∧ p < 21) (hu : Sm 20 u) (μ : Cells) (h1 : F 14 [.int (a * a + b)] μ = some (.int r, μ)) (h2 : F 14 [.int 0] μ = some (.int 0, μ))
    (h3 : F 26 [.int (a * a + b), .int d] μ = some (fD (fr (a * a + b) d), μ)) (h4 : F 16 [fD (fr (a * a + b) d), .int p] μ = some (fD (fr u p), μ))
    (h5 : F 26 [.int (a * a), .int (b * b)] μ = some (fD (fr (a * a) (b * b)), μ)) (h6 : F 15 [fD (fr (a * a) (b * b))] μ = some (fD (fr a.natAbs b), μ)) :
    exec F W s_1_11 (En s o2 o3 o4 o5 o6 (some (.int r)) (some (.int u)) (some (.int a)) (some (.int b)) (some (.int c)) (some (.int d)) o13 o14 (some (.int (a * a + b))) (some (.int p)) o17) μ = some (.nx (En s o2 o3 o4 o5 o6 (some (.int r)) (some (.int u)) (some (.int a)) (some (.int b)) (some (.int c)) (some (.int d)) o13 o14 (some (.int (a * a + b))) (some (.int p)) o17) μ) := by
  have b1 := n.b1
  have e1 := op_mul n.sa n.sa (by decide)
  have e2 := op_mul n.sb n.sb (by decide)
  have g1 := K.lfr u p μ (hu.mono (by decide)) (dn_pos (sm_of (i := p) (by omega)) (by decide) (by omega))
  have g2 := K.lfr a.natAbs b μ (show Sm 4000 _ from (n.sa.mono (by decide) : Sm 4000 a)) (dn_pos n.sb (by decide) (by omega))
  have g3 := K.eroot1 μ
  have g4 := K.eroot2 μ
  have k := K.like (.tup [.int r, .int 0, fD (fr u p), fD (fr a.natAbs b), .non, .non]) rfl μ
  unfold s_1_11
  walk_at "go"
  simp [h1, h2, h3, h4, h5, h6, g1, g2, g3, g4, e1, e2, k, andThen_some', wthD_some', onBl_bl, szle, FM.op_sub]
end
end K00

set_option Elab.async false
set_option linter.all false
set_option maxRecDepth 100000
set_option maxHeartbeats 4000000
namespace K00
open FM
open L2 (atI)
open PySem (Str sizeLine)
theorem up_small {m p d u : Int} (hu : IsUp (m * p * p) d u) (hm : 0 ≤ m ∧ m ≤ 2500) (hp : 1 ≤ p ∧ p < 21) (hd : 1 ≤ d ∧ d < 31) : Sm 20 u := by
  obtain ⟨u0, u1, u2⟩ := hu
  have n0 : m * p * p ≤ 2500 * 20 * 20 := Int.mul_le_mul (Int.mul_le_mul hm.2 (by omega) (by omega) (by decide)) (by omega) (by omega) (by decide)
  have ul : u < 5000 := by
    rcases Int.lt_or_le u 5000 with z | z
    · exact z
    · have h := u2 4999 (by decide) (by omega)
      have : (4999 : Int) * 4999 * 1 ≤ 4999 * 4999 * d := Int.mul_le_mul_of_nonneg_left (by omega) (by decide)
      omega
  unfold Sm
  omega
theorem sq_small {a b : Int} (ha : -49 ≤ a ∧ a < 50) (hb : 1 ≤ b ∧ b < 31) : 0 ≤ a * a + b ∧ a * a + b ≤ 2500 := by
  have h1 := sqn a
  have h2 : (a.natAbs : Int) * a.natAbs ≤ 49 * 49 := Int.mul_le_mul (by omega) (by omega) (by omega) (by decide)
  rw [Int.natAbs_mul_self'] at h2
  omega
theorem turn {s : D} {o2 o3 o4 o5 o6 o7 o8 o9 o10 o11 o12 o13 o14 o15 o16 o17 : Option D} (is : List Int) (k : Int) (hk : 0 ≤ k) : ∃ (p2 p3 p4 p5 p6 p7 p8 p9 p10 p11 p12 p13 p14 p15 p16 p17 : Option D) (k' : Int), 0 ≤ k' ∧
    execs (T 59) W s_1b (En s o2 o3 o4 o5 o6 o7 o8 o9 o10 o11 o12 o13 o14 o15 o16 o17) [cw is k] = some (.nx (En s p2 p3 p4 p5 p6 p7 p8 p9 p10 p11 p12 p13 p14 p15 p16 p17) [cw is k']) := by
  have K := ok59
  obtain ⟨a, b, c, d, k1, ha, hb, hc, hd, hk1, e0⟩ := st0 K (s := s) (o2 := o2) (o3 := o3) (o4 := o4) (o5 := o5) (o6 := o6) (o7 := o7) (o8 := o8) (o9 := o9) (o10 := o10) (o11 := o11) (o12 := o12) (o13 := o13) (o14 := o14) (o15 := o15) (o16 := o16) (o17 := o17) is k hk
  have n : Nu a b c d (fr a b) (fr c d) := ⟨ha, hb, hc, hd, rfl, rfl⟩
  generalize hx : fr a b = x at n
  generalize hy : fr c d = y at n
  have e1 := st1 K (s := s) (o2 := o2) (o3 := o3) (o4 := o4) (o5 := o5) (o6 := o6) (o7 := o7) (o8 := o8) (o13 := o13) (o14 := o14) (o15 := o15) (o16 := o16) (o17 := o17) a b c d [cw is k1] n.sa n.sb n.sc n.sd (by omega) (by omega)
  rw [hx, hy] at e1
  obtain ⟨p, k2, hp, hk2, e8⟩ := st8 K (s := s) (o2 := o2) (o3 := o3) (o4 := some (told a b x y)) (o5 := some (told a b x y)) (o6 := some (.str (txt x))) (o7 := o7) (o8 := o8) (o11 := some (.int c)) (o12 := some (.int d)) (o13 := some (fD x)) (o14 := some (fD y)) (o15 := o15) (o16 := o16) (o17 := o17) n is k1 hk1
  obtain ⟨r, u, hr, hu, f1, f2, f3, f4, f5, f6⟩ := roots K n p hp [cw is k2]
  have ss := sq_small ha hb
  refine ⟨_, _, _, _, _, _, _, _, _, _, _, _, _, _, _, _, k2, hk2, seq_nx e0 (seq_nx e1 (seq_nx (st2 K n _) (seq_nx (st3 K n _) (seq_nx (st4 K n (told a b x y) rfl _) (seq_nx (st5 K n (told a b x y) _) (seq_nx (st6 n _) (seq_nx (st7 K n _ (text_of_at 58 n.sx _) (frac_in_at n.sx _)) (seq_nx e8 (seq_nx (st9 K (a * a + b) r hr ss.2 _) (seq_nx (st10 K (a * a + b) p d u hu ss hp hd _) (seq_nx (st11 K n p r u hp (up_small hu ss hp hd) _ f1 f2 f3 f4 f5 f6) rfl)))))))))))⟩
theorem tail (s : D) (o2 o3 o4 o5 o6 o7 o8 o9 o10 o11 o12 o13 o14 o15 o16 o17 : Option D) (μ : Cells) : execs (T 59) W (.cons s_2 (.cons s_3 (.cons s_4 .nil))) (En s o2 o3 o4 o5 o6 o7 o8 o9 o10 o11 o12 o13 o14 o15 o16 o17) μ = some (.rt (.bl true) μ) := by kernel_rfl
abbrev E0 (s : D) : Env := En s none none none none none none none none none none none none none none none none
theorem start (F : Fs) (K : Ok F) (ns : List Int) (h : ns.length ≤ 63) : ∃ is : List Int, exec F W s_0 (pl [some (.lst (ns.map D.int)), none, none, none, none, none, none, none, none, none, none, none, none, none, none, none, none, none]) [] = some (.nx (E0 (.lst (ns.map D.int))) [cw is 0]) := by
  obtain ⟨is, hd⟩ := K.draws ns [] h
  refine ⟨is, ?_⟩
  refine (asg_pl (μ1 := [cw is 0]) (d := .cell 0) ?_).trans rfl
  unfold ev
  rw [lks_pl]
  simp [FM.ev, FM.evs, pl_get, hd, andThen_some', lks_pl, Sl.d]
  exact ⟨by decide, rfl⟩
theorem loop (is : List Int) (s : D) : ∃ (o2 o3 o4 o5 o6 o7 o8 o9 o10 o11 o12 o13 o14 o15 o16 o17 : Option D) (k : Int), exec (T 59) W s_1 (E0 s) [cw is 0] = some (.nx (En s o2 o3 o4 o5 o6 o7 o8 o9 o10 o11 o12 o13 o14 o15 o16 o17) [cw is k]) := by
  obtain ⟨ρ', μ', e1, e2⟩ := forF_inv (fun ys ρ μ => ∃ (o2 o3 o4 o5 o6 o7 o8 o9 o10 o11 o12 o13 o14 o15 o16 o17 : Option D) (k : Int), 0 ≤ k ∧ μ = [cw is k] ∧ ρ = En s o2 o3 o4 o5 o6 o7 o8 o9 o10 o11 o12 o13 o14 o15 o16 o17) (tg := .nm 2) (b := fun ρ' μ' => execs (T 59) W s_1b ρ' μ') (fun x ys ρ μ h => by
    obtain ⟨o2, o3, o4, o5, o6, o7, o8, o9, o10, o11, o12, o13, o14, o15, o16, o17, k, hk, rfl, rfl⟩ := h
    obtain ⟨p2, p3, p4, p5, p6, p7, p8, p9, p10, p11, p12, p13, p14, p15, p16, p17, k', hk', e⟩ := turn (s := s) (o2 := some x) (o3 := o3) (o4 := o4) (o5 := o5) (o6 := o6) (o7 := o7) (o8 := o8) (o9 := o9) (o10 := o10) (o11 := o11) (o12 := o12) (o13 := o13) (o14 := o14) (o15 := o15) (o16 := o16) (o17 := o17) is k hk
    exact ⟨_, _, _, rfl, e, p2, p3, p4, p5, p6, p7, p8, p9, p10, p11, p12, p13, p14, p15, p16, p17, k', hk', rfl, rfl⟩) (rngD 0 12) (E0 s) [cw is 0] ⟨none, none, none, none, none, none, none, none, none, none, none, none, none, none, none, none, 0, Int.le_refl _, rfl, rfl⟩
  obtain ⟨o2, o3, o4, o5, o6, o7, o8, o9, o10, o11, o12, o13, o14, o15, o16, o17, k, hk, rfl, rfl⟩ := e2
  refine ⟨o2, o3, o4, o5, o6, o7, o8, o9, o10, o11, o12, o13, o14, o15, o16, o17, k, for_of (evi_rng (n := 12) ?_ (by decide)) rfl e1⟩
  unfold ev
  rfl
theorem law_ok (ns : List Int) (h : ns.length ≤ 63) : ∃ μ, call (tabOf defs) W 60 lawNo [.lst (ns.map D.int)] [] = some (.bl true, μ) := by
  obtain ⟨is, e0⟩ := start _ ok59 ns h
  obtain ⟨o2, o3, o4, o5, o6, o7, o8, o9, o10, o11, o12, o13, o14, o15, o16, o17, k, e1⟩ := loop is (.lst (ns.map D.int))
  have e2 := tail (.lst (ns.map D.int)) o2 o3 o4 o5 o6 o7 o8 o9 o10 o11 o12 o13 o14 o15 o16 o17 [cw is k]
  have e : execs (T 59) W sb (pl [some (.lst (ns.map D.int)), none, none, none, none, none, none, none, none, none, none, none, none, none, none, none, none, none]) [] = some (.rt (.bl true) [cw is k]) := seq_nx e0 (seq_nx e1 e2)
  rw [← law_pieces] at e
  refine ⟨[cw is k], (call_at (d := d_law) (n := 59) (f := lawNo) rfl _ _).trans (run_rt rfl (Nat.le_of_ble_eq_true rfl) ?_)⟩
  exact e
end K00

set_option Elab.async false
set_option linter.all false
set_option maxRecDepth 100000
set_option maxHeartbeats 0
namespace K00
open PySem PySem.Spec PyProof.Rows FM L2
def lv : Nat := 60
/-! ### the head -/
def dd (d : FD) : He.DefD := ⟨(d.name, none), d.name, d.name, defArgs d.st, defBody d.st, defScope d.st, [], []⟩
def fn : List He.DefD := defs.map dd
def fa : List He.Fa := (defs.map fun d => He.Fa.glo d.name) ++ bnames.map He.Fa.free
abbrev R : PySem.W.OpenRow := PySem.W.OpenLaw.row PySem.Challenge.rw_firstmet_k00_fractions
abbrev hk : PySem.W.Hook := He.hookD 4 fa fn
def ob (s : PySem.W.SharedT) : He.AlD := He.obsDG 4 fa fn (HandSHeadRun.getT s)
theorem ob_eq (s : PySem.W.SharedT) : ob s = hk.obs s.abs := He.obsDG_eq (HandSHeadRun.getT_eq s)
def loose : List Str := (defs.map FD.name).filter (· ≠ ("law" : Str)) ++ [("__name__" : Str)]
theorem run (w : World) : HandSHeadRun.RunEq R (PySem.W.view R.prog [lawAt]) hk ob 4000 loose w := by
  intro os
  kernel_rfl
theorem lawHead {w : World} {K : PySem.W.Frag} {mg : Str → Option Value} {h : Heap} (X : K.In h) (G : h.Ns mainGlobals mg) (c : He.SaysD fa fn K) :
    (∀ x ∈ bnames, mg x = none) ∧ ∀ d ∈ defs, mg d.name = some (.ref (He.fAd K (d.name, none))) ∧ ∃ fd, FunD K d.name d.name (defArgs d.st) (defBody d.st) (defScope d.st) [] [] (He.fAd K (d.name, none)) fd := by
  refine ⟨fun x hx => ?_, fun d hd => ⟨?_, ?_⟩⟩
  · have m : He.Fa.free x ∈ fa := List.mem_append_right _ (List.mem_map.mpr ⟨x, hx, rfl⟩)
    obtain ⟨i, hi⟩ := List.mem_iff_getElem?.mp m
    exact He.free_ok X G (c.fact i hi)
  · have m : He.Fa.glo d.name ∈ fa := List.mem_append_left _ (List.mem_map.mpr ⟨d, hd, rfl⟩)
    obtain ⟨i, hi⟩ := List.mem_iff_getElem?.mp m
    exact He.glo_ok X G (c.fact i hi)
  · obtain ⟨i, hi⟩ := List.mem_iff_getElem?.mp hd
    have hi' : fn[i]? = some (dd d) := by
      unfold fn
      rw [List.getElem?_map, hi]
      rfl
    exact c.def_ i hi'
end K00
open PySem PySem.W PySem.Calls PyProof.Rows
set_option maxRecDepth 100000 in
set_option maxHeartbeats 0 in
theorem PySem.Challenge.cw_firstmet_k00_fractions_holds : PySem.Challenge.rw_firstmet_k00_fractions.Holds := by
  w_on; o_law
  refine HandSHeadRun.head_any (r := OpenLaw.row PySem.Challenge.rw_firstmet_k00_fractions) (q := view (OpenLaw.row PySem.Challenge.rw_firstmet_k00_fractions).prog [K00.lawAt]) (H := K00.hk) (ob := K00.ob) (M := 4000) (loose := K00.loose) (d := HandSHeadRun.topDef (OpenLaw.row PySem.Challenge.rw_firstmet_k00_fractions).prog K00.lawAt) (kwd := []) K00.ob_eq
    (by kernel_rfl) (fun s => by kernel_rfl) K00.run (by kernel_rfl) (by kernel_rfl) (by kernel_rfl) (by rfl) (by first | assumption | decide +kernel) (by decide +kernel) ⟨rfl, rfl, rfl, rfl, rfl, by decide +kernel⟩ ?hw ?hc
  case hw => w_witness2
  case hc =>
    refine L2.walk_ofE (l := PySem.Challenge.rw_firstmet_k00_fractions) (n := 63) (k := K00.lv) (x := "script") (CX := L2.CX0) rfl (by decide) (by kernel_rfl) ⟨rfl, by decide, by decide⟩ ?F (fun _ _ _ _ z => z)
    intro w mg fa h Y G hmg0
    obtain ⟨K, KX, c⟩ := Y
    have hmg : mg ("law" : PySem.Str) = some (.ref fa) := by
      have e : (HandSHeadRun.topDef (OpenLaw.row PySem.Challenge.rw_firstmet_k00_fractions).prog K00.lawAt).name = ("law" : PySem.Str) := by kernel_rfl
      rw [← e]
      exact hmg0
    obtain ⟨bn, hd⟩ := K00.lawHead (w := w) KX G c
    have chk : ∀ d ∈ K00.defs, d.chk K00.fs = true := fun d hm => List.all_eq_true.mp K00.chk_all d hm
    have hm : K00.d_law ∈ K00.defs := List.mem_of_getElem? (i := K00.lawNo) rfl
    obtain ⟨m1, fd, m2⟩ := hd _ hm
    have e : fa = He.fAd K (("law" : PySem.Str), none) := by
      have z := hmg.symm.trans m1
      cases z
      rfl
    subst e
    refine ⟨K, fd, FM.spF K 1 (FM.runFn (FM.call (FM.tabOf K00.defs) FM.W (K00.lv - 1)) FM.W K00.d_law.fn), KX, fun s u => ?_, fun H a ns hl _ hS => ?_, fun base b1 b2 => ?_⟩
    · exact m2.bindsA (ps := [("script" : PySem.Str)]) (FM.bindsF (fs := K00.fs) (chk _ hm) m2) s [u] rfl
    · obtain ⟨μ, hμ⟩ := K00.law_ok ns hl
      exact FM.law_sp hS hμ
    · exact FM.fd_ok (n := K00.lv - 1) (chk _ hm) m2 bn (FM.all_ok rfl chk bn (fun d hd' => ⟨_, (hd d hd').2.choose, (hd d hd').1, (hd d hd').2.choose_spec⟩) (K00.lv - 1))

