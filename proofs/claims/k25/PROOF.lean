import PyProof.Rows.All
import Wide.All
import OpenK.AllK
import Wide.FinOn
import PySem.Challenge.RW_whosecancel_k25_texts_of_events
import KE.KStateDown
import HandS.Ends
import HandS.More
import HandS.Defaults
import HandS.Head0
import HandS.Head1
import HandS.Head2
import HandS.HeadEnd
import HandS.HeadHook1
import HandS.HeadHook2
import HandS.HeadHook3
import HandS.HeadHook4
import HandS.ForMost
import HandS.TupAny
import HandS.TupMul
import HandS.Deep
import HandS.Text
import HandS.ForDict
import HandS.IsInst
import HandS.ListItems
import HandS.HeadWalk
import HandS.MakeKwOnly
import PyProof.ReprRoads
import HandS.Iter
import HandS.Small
import HandS.DictComp
import HandS.Star
import HandS.Conv
import PyProof.CollectIter
import HandS.ExcOwn
import HandS.ExcValue
import HandS.DictEq
import HandS.DeepEq
import PyProof.P3Eq
import KE.GoesZip
import KE.GoesEnumKw
import HandS.SetBool
import HandS.SetKeys
import PyProof.SetRoads
import PyProof.AutoSeq1
import HandS.Style
import PyProof.Rows.RuleB_pow
import HandS.StrMore
import HandS.FStr
import HandS.CallLocal
set_option Elab.async false
set_option linter.all false
set_option maxRecDepth 100000
noncomputable section
/-! W1: plain data, the plain heap, how they stand in the layer's heap -/
namespace WC
open PySem L2

/-- a plain value: tuples by value; ref: a changing object by its number; scr: the script; glo: a def or class of the module -/
inductive AV where
  | non | bl (b : Bool) | int (i : Int) | str (x : Str) | tup (xs : List AV) | ref (n : Nat) | scr | glo (x : Str) | ty (n : String)
  deriving Inhabited

inductive AO where
  | lst (xs : List AV)
  | dct (kvs : List (Key × AV))
  | ins (C : Str) (fs : List (Str × AV))
  | lck (kvs : List (Key × AV))
  deriving Inhabited

/-! ### the plain heap -/
inductive Tr where
  | nil
  | node (v : Option AO) (l r : Tr)
def Tr.getI (t : Tr) (i : Nat) : Option AO := match t with
  | .nil => none
  | .node v l r => if i = 0 then v else if i % 2 = 1 then l.getI (i / 2) else r.getI (i / 2 - 1)
def Tr.get (t : Tr) (i : Nat) : Option AO :=
  Tr.rec (motive := fun _ => Nat → Option AO) (fun _ => none)
    (fun v _ _ gl gr i => cond (Nat.beq i 0) v (cond (Nat.beq (Nat.mod i 2) 1) (gl (Nat.div i 2)) (gr (Nat.sub (Nat.div i 2) 1)))) t i
def Tr.val : Tr → Option AO
  | .nil => none
  | .node v _ _ => v
def Tr.left : Tr → Tr
  | .nil => .nil
  | .node _ l _ => l
def Tr.right : Tr → Tr
  | .nil => .nil
  | .node _ _ r => r
def Tr.putI : Nat → Tr → Nat → AO → Tr
  | 0, t, _, _ => t
  | f + 1, t, i, o => if i = 0 then .node (some o) t.left t.right else if i % 2 = 1 then .node t.val (putI f t.left (i / 2) o) t.right else .node t.val t.left (putI f t.right (i / 2 - 1) o)
def Tr.putF (f : Nat) (t : Tr) (i : Nat) (o : AO) : Tr :=
  Nat.rec (motive := fun _ => Tr → Nat → Tr) (fun t _ => t)
    (fun _ ih t i => Tr.casesOn (motive := fun _ => Tr) t
      (cond (Nat.beq i 0) (.node (some o) .nil .nil) (cond (Nat.beq (Nat.mod i 2) 1) (.node none (ih .nil (Nat.div i 2)) .nil) (.node none .nil (ih .nil (Nat.sub (Nat.div i 2) 1)))))
      (fun v l r => cond (Nat.beq i 0) (.node (some o) l r) (cond (Nat.beq (Nat.mod i 2) 1) (.node v (ih l (Nat.div i 2)) r) (.node v l (ih r (Nat.sub (Nat.div i 2) 1)))))) f t i
def Tr.put (t : Tr) (i : Nat) (o : AO) : Tr := t.putF (Nat.succ i) i o
theorem Tr.val_node (v : Option AO) (l r : Tr) : (Tr.node v l r).val = v := rfl
theorem Tr.left_node (v : Option AO) (l r : Tr) : (Tr.node v l r).left = l := rfl
theorem Tr.right_node (v : Option AO) (l r : Tr) : (Tr.node v l r).right = r := rfl
theorem beq_eq (a b : Nat) : Nat.beq a b = decide (a = b) := PySem.W.BT.beq_eq a b
theorem cond_nat {α : Type} (i j : Nat) (a b : α) : cond (Nat.beq i j) a b = if i = j then a else b := by
  rw [beq_eq]
  by_cases h : i = j <;> simp [h]
theorem Tr.get_eq (t : Tr) (i : Nat) : t.get i = if i = 0 then t.val else if i % 2 = 1 then t.left.get (i / 2) else t.right.get (i / 2 - 1) := by
  cases t with
  | nil =>
    show none = _
    by_cases h : i = 0 <;> by_cases q : i % 2 = 1 <;> simp [h, q, val, left, right] <;> rfl
  | node v l r =>
    show cond (Nat.beq i 0) v (cond (Nat.beq (i % 2) 1) (l.get (i / 2)) (r.get (i / 2 - 1))) = _
    rw [cond_nat, cond_nat]
    rfl
theorem Tr.putF_eq (f : Nat) (t : Tr) (i : Nat) (o : AO) : t.putF (f + 1) i o = if i = 0 then .node (some o) t.left t.right else if i % 2 = 1 then .node t.val (t.left.putF f (i / 2) o) t.right else .node t.val t.left (t.right.putF f (i / 2 - 1) o) := by
  cases t with
  | nil =>
    show cond (Nat.beq i 0) (Tr.node (some o) .nil .nil) (cond (Nat.beq (i % 2) 1) (Tr.node none (Tr.nil.putF f (i / 2) o) .nil) (Tr.node none .nil (Tr.nil.putF f (i / 2 - 1) o))) = _
    rw [cond_nat, cond_nat]
    rfl
  | node v l r =>
    show cond (Nat.beq i 0) (Tr.node (some o) l r) (cond (Nat.beq (i % 2) 1) (Tr.node v (l.putF f (i / 2) o) r) (Tr.node v l (r.putF f (i / 2 - 1) o))) = _
    rw [cond_nat, cond_nat]
    rfl
theorem Tr.get_putF : ∀ (f : Nat) (t : Tr) (i j : Nat) (o : AO), i < f → (t.putF f i o).get j = if j = i then some o else t.get j
  | 0, _, _, _, _, h => absurd h (Nat.not_lt_zero _)
  | f + 1, t, i, j, o, h => by
    rw [putF_eq, get_eq, get_eq t j]
    by_cases hi : i = 0
    · subst hi
      rw [if_pos rfl]
      by_cases hj : j = 0 <;> simp [hj, val_node, left_node, right_node]
    · rw [if_neg hi]
      by_cases q : i % 2 = 1
      · rw [if_pos q]
        have ih := get_putF f t.left (i / 2) (j / 2) o (by omega)
        by_cases hj : j = 0
        · subst hj
          have : ¬ (0 = i) := fun e => hi e.symm
          simp [val_node, this]
        · by_cases p : j % 2 = 1
          · simp only [hj, p, if_false, if_true, left_node]
            rw [ih]
            by_cases e : j = i
            · simp [e]
            · have : ¬ j / 2 = i / 2 := by omega
              simp [e, this]
          · have : ¬ j = i := fun e => p (e ▸ q)
            simp [hj, p, this, right_node]
      · rw [if_neg q]
        have ih := get_putF f t.right (i / 2 - 1) (j / 2 - 1) o (by omega)
        by_cases hj : j = 0
        · subst hj
          have : ¬ (0 = i) := fun e => hi e.symm
          simp [val_node, this]
        · by_cases p : j % 2 = 1
          · have : ¬ j = i := fun e => q (e ▸ p)
            simp [hj, p, this, left_node]
          · simp only [hj, p, if_false, right_node]
            rw [ih]
            by_cases e : j = i
            · simp [e]
            · have : ¬ j / 2 - 1 = i / 2 - 1 := by omega
              simp [e, this]
theorem Tr.get_put (t : Tr) (i j : Nat) (o : AO) : (t.put i o).get j = if j = i then some o else t.get j := Tr.get_putF _ t i j o (Nat.lt_succ_self _)

structure AH where
  n : Nat
  t : Tr
  scr : List Int
def AH.get (h : AH) (i : Nat) : Option AO := h.t.get i
def AH.set (h : AH) (i : Nat) (o : AO) : AH := ⟨h.n, h.t.put i o, h.scr⟩
def AH.push (h : AH) (o : AO) : AH := ⟨h.n + 1, h.t.put h.n o, h.scr⟩
theorem AH.get_set (h : AH) (i j : Nat) (o : AO) : (h.set i o).get j = if j = i then some o else h.get j := Tr.get_put ..
theorem AH.get_push (h : AH) (j : Nat) (o : AO) : (h.push o).get j = if j = h.n then some o else h.get j := Tr.get_put ..

/-! ### how plain data stand -/
/-- the written part, the script's address -/
structure Wd where
  K : PySem.W.Frag
  a0 : Addr
mutual
inductive Rl (W : Wd) (μ : List Addr) (H : Hp) : AV → V → Prop where
  | non : Rl W μ H .non .non
  | bl {b} : Rl W μ H (.bl b) (.bl b)
  | int {i} : Rl W μ H (.int i) (.int i)
  | str {x} : Rl W μ H (.str x) (.str x)
  | tup {xs a ys} : SqT W.K H a ys → Rls W μ H xs ys → Rl W μ H (.tup xs) (.ref a)
  | ref {n a} : μ[n]? = some a → Rl W μ H (.ref n) (.ref a)
  | scr : Rl W μ H .scr (.ref W.a0)
  | glo {x} : Rl W μ H (.glo x) (.ref (He.ga W.K x))
  | ty {n} : Rl W μ H (.ty n) (.ty n)
inductive Rls (W : Wd) (μ : List Addr) (H : Hp) : List AV → List V → Prop where
  | nil : Rls W μ H [] []
  | cons {x y xs ys} : Rl W μ H x y → Rls W μ H xs ys → Rls W μ H (x :: xs) (y :: ys)
end
/-- what lasts -/
structure Ext (W : Wd) (μ : List Addr) (H : Hp) (μ' : List Addr) (H' : Hp) : Prop where
  pre : ∀ (n : Nat) (a : Addr), μ[n]? = some a → μ'[n]? = some a
  tup : ∀ (a : Addr) (ys : List V), SqT W.K H a ys → SqT W.K H' a ys
  frz : ∀ (a : Addr) (o : Obj) (u : HO), H a = some (.frz o u) → H' a = some (.frz o u)
  xt : ∀ (a : Addr) (φ : Heap → Prop), H a = some (.ext φ) → H' a = some (.ext φ)
theorem Ext.refl {W μ H} : Ext W μ H μ H := ⟨fun _ _ h => h, fun _ _ h => h, fun _ _ _ h => h, fun _ _ h => h⟩
theorem Ext.trans {W μ H μ1 H1 μ2 H2} (a : Ext W μ H μ1 H1) (b : Ext W μ1 H1 μ2 H2) : Ext W μ H μ2 H2 :=
  ⟨fun n x h => b.pre n x (a.pre n x h), fun x ys h => b.tup x ys (a.tup x ys h), fun x o u h => b.frz x o u (a.frz x o u h), fun x f h => b.xt x f (a.xt x f h)⟩
mutual
theorem Rl.ext {W μ H μ' H'} (e : Ext W μ H μ' H') : ∀ {v x}, Rl W μ H v x → Rl W μ' H' v x
  | _, _, .non => .non
  | _, _, .bl => .bl
  | _, _, .int => .int
  | _, _, .str => .str
  | _, _, .tup h r => .tup (e.tup _ _ h) (Rls.ext e r)
  | _, _, .ref h => .ref (e.pre _ _ h)
  | _, _, .scr => .scr
  | _, _, .glo => .glo
  | _, _, .ty => .ty
theorem Rls.ext {W μ H μ' H'} (e : Ext W μ H μ' H') : ∀ {v x}, Rls W μ H v x → Rls W μ' H' v x
  | _, _, .nil => .nil
  | _, _, .cons r t => .cons (Rl.ext e r) (Rls.ext e t)
end
mutual
theorem Rl.keep {W μ H H'} (e : ∀ a ys, SqT W.K H a ys → SqT W.K H' a ys) : ∀ {v x}, Rl W μ H v x → Rl W μ H' v x
  | _, _, .non => .non
  | _, _, .bl => .bl
  | _, _, .int => .int
  | _, _, .str => .str
  | _, _, .tup h r => .tup (e _ _ h) (Rls.keep e r)
  | _, _, .ref h => .ref h
  | _, _, .scr => .scr
  | _, _, .glo => .glo
  | _, _, .ty => .ty
theorem Rls.keep {W μ H H'} (e : ∀ a ys, SqT W.K H a ys → SqT W.K H' a ys) : ∀ {v x}, Rls W μ H v x → Rls W μ H' v x
  | _, _, .nil => .nil
  | _, _, .cons r t => .cons (Rl.keep e r) (Rls.keep e t)
end
section
variable {W : Wd} {μ : List Addr} {H : Hp}
theorem Rls.length : ∀ {xs ys}, Rls W μ H xs ys → xs.length = ys.length
  | _, _, .nil => rfl
  | _, _, .cons _ t => by simp [Rls.length t]
theorem Rls.get : ∀ {xs ys} {i : Nat} {x}, Rls W μ H xs ys → xs[i]? = some x → ∃ y, ys[i]? = some y ∧ Rl W μ H x y
  | _, _, _, _, .nil, h => by simp at h
  | _, _, 0, _, .cons r _, h => by simp at h; subst h; exact ⟨_, rfl, r⟩
  | _, _, i + 1, x, .cons _ t, h => by
    obtain ⟨y, h1, h2⟩ := Rls.get (i := i) (x := x) t (by simpa using h)
    exact ⟨y, by simpa using h1, h2⟩
theorem Rls.get' : ∀ {xs ys} {i : Nat} {y}, Rls W μ H xs ys → ys[i]? = some y → ∃ x, xs[i]? = some x ∧ Rl W μ H x y
  | _, _, _, _, .nil, h => by simp at h
  | _, _, 0, _, .cons r _, h => by simp at h; subst h; exact ⟨_, rfl, r⟩
  | _, _, i + 1, x, .cons _ t, h => by
    obtain ⟨y, h1, h2⟩ := Rls.get' (i := i) (y := x) t (by simpa using h)
    exact ⟨y, by simpa using h1, h2⟩
theorem Rls.append : ∀ {xs ys us vs}, Rls W μ H xs us → Rls W μ H ys vs → Rls W μ H (xs ++ ys) (us ++ vs)
  | _, _, _, _, .nil, s => s
  | _, _, _, _, .cons r t, s => .cons r (Rls.append t s)
theorem Rls.set : ∀ {xs ys x y} (i : Nat), Rls W μ H xs ys → Rl W μ H x y → Rls W μ H (xs.set i x) (ys.set i y)
  | _, _, _, _, _, .nil, _ => .nil
  | _, _, _, _, 0, .cons _ t, q => .cons q t
  | _, _, _, _, i + 1, .cons r t, q => .cons r (Rls.set i t q)
theorem Rls.take : ∀ {xs ys} (n : Nat), Rls W μ H xs ys → Rls W μ H (xs.take n) (ys.take n)
  | _, _, 0, _ => .nil
  | _, _, _ + 1, .nil => .nil
  | _, _, n + 1, .cons r t => .cons r (Rls.take n t)
theorem Rls.drop : ∀ {xs ys} (n : Nat), Rls W μ H xs ys → Rls W μ H (xs.drop n) (ys.drop n)
  | _, _, 0, r => r
  | _, _, _ + 1, .nil => .nil
  | _, _, n + 1, .cons _ t => Rls.drop n t
theorem Rls.ints : ∀ ns : List Int, Rls W μ H (ns.map AV.int) (ns.map V.int)
  | [] => .nil
  | _ :: r => .cons .int (Rls.ints r)
theorem Rls.strs : ∀ ns : List Str, Rls W μ H (ns.map AV.str) (ns.map V.str)
  | [] => .nil
  | _ :: r => .cons .str (Rls.strs r)
end
/-- dict entries -/
inductive Rks (W : Wd) (μ : List Addr) (H : Hp) {κ : Type} : List (κ × AV) → List (κ × V) → Prop where
  | nil : Rks W μ H [] []
  | cons {k x y xs ys} : Rl W μ H x y → Rks W μ H xs ys → Rks W μ H ((k, x) :: xs) ((k, y) :: ys)
theorem Rks.ext {W μ H μ' H'} {κ : Type} (e : Ext W μ H μ' H') : ∀ {v x}, Rks (κ := κ) W μ H v x → Rks W μ' H' v x
  | _, _, .nil => .nil
  | _, _, .cons r t => .cons (r.ext e) (Rks.ext e t)
theorem Rks.keep {W μ H H'} {κ : Type} (e : ∀ a ys, SqT W.K H a ys → SqT W.K H' a ys) : ∀ {v x}, Rks (κ := κ) W μ H v x → Rks W μ H' v x
  | _, _, .nil => .nil
  | _, _, .cons r t => .cons (r.keep e) (Rks.keep e t)
def OR (W : Wd) (μ : List Addr) (H : Hp) : AO → Addr → Prop
  | .lst xs, a => ∃ ys, H a = some (.lst ys) ∧ Rls W μ H xs ys
  | .dct kvs, a => ∃ kv', H a = some (.dK kv') ∧ Rks W μ H kvs kv'
  | .ins C fs, a => ∃ dx fs', H a = some (.ins (He.ga W.K C) dx fs') ∧ Rks W μ H fs fs'
  | .lck kvs, a => ∃ o kv', H a = some (.frz o (.dK kv')) ∧ Rks W μ H kvs kv'
theorem OR.some_ {W μ H ao a} (h : OR W μ H ao a) : ∃ o, H a = some o ∧ (∀ xs, o ≠ .tup xs) ∧ (∀ ob xs, o ≠ .frz ob (.tup xs)) := by
  cases ao with
  | lst xs => obtain ⟨ys, e, _⟩ := h; exact ⟨_, e, fun _ z => (nomatch z), fun _ _ z => (nomatch z)⟩
  | dct xs => obtain ⟨ys, e, _⟩ := h; exact ⟨_, e, fun _ z => (nomatch z), fun _ _ z => (nomatch z)⟩
  | ins C xs => obtain ⟨dx, ys, e, _⟩ := h; exact ⟨_, e, fun _ z => (nomatch z), fun _ _ z => (nomatch z)⟩
  | lck xs => obtain ⟨o, ys, e, _⟩ := h; exact ⟨_, e, fun _ z => (nomatch z), fun _ _ z => (nomatch z)⟩
theorem OR.mut {W μ H ao a} (h : OR W μ H ao a) (hm : ∀ kvs, ao ≠ .lck kvs := by intro _ z; cases z) : ∃ o, H a = some o ∧ (∀ xs, o ≠ .tup xs) ∧ (∀ ob u, o ≠ .frz ob u) ∧ (∀ f, o ≠ .ext f) := by
  cases ao with
  | lst xs => obtain ⟨ys, e, _⟩ := h; exact ⟨_, e, fun _ z => (nomatch z), fun _ _ z => (nomatch z), fun _ z => (nomatch z)⟩
  | dct xs => obtain ⟨ys, e, _⟩ := h; exact ⟨_, e, fun _ z => (nomatch z), fun _ _ z => (nomatch z), fun _ z => (nomatch z)⟩
  | ins C xs => obtain ⟨dx, ys, e, _⟩ := h; exact ⟨_, e, fun _ z => (nomatch z), fun _ _ z => (nomatch z), fun _ z => (nomatch z)⟩
  | lck xs => exact absurd rfl (hm xs)
/-- the script stands still -/
def Scr (W : Wd) (H : Hp) (ns : List Int) : Prop :=
  (∃ o, H W.a0 = some (.frz o (.lst (ns.map V.int)))) ∨
    ∃ (o : Obj) (its : Array Value) (n : Nat), W.K.lookup W.a0 = some o ∧ o.cls = .type "list" ∧ o.dict = none ∧ o.data = .seq its n ∧ its.size ≤ sizeLine ∧ Vals (ns.map V.int) its.toList
theorem Scr.sq {W H ns} (h : Scr W H ns) : SqL W.K H W.a0 (ns.map V.int) := h.elim (fun ⟨o, e⟩ => .inl (.inr ⟨o, e⟩)) .inr
structure HR (W : Wd) (μ : List Addr) (ah : AH) (H : Hp) : Prop where
  sz : ah.n = μ.length
  full : ∀ n, n < ah.n → ∃ ao, ah.get n = some ao
  nd : μ.Nodup
  obj : ∀ n ao, ah.get n = some ao → ∃ a, μ[n]? = some a ∧ OR W μ H ao a
  scr : Scr W H ah.scr
section
variable {W : Wd} {μ : List Addr} {H : Hp} {ah : AH}
theorem OR.at_new {ao a p o} (h : OR W μ H ao a) (hp : H p = none) : upd H p o a = H a := by
  obtain ⟨ob, e, _⟩ := h.some_
  exact upd_ne (ne_of_none e hp)
theorem SqT.upd {a p : Addr} {o : HO} {ys : List V} (h : SqT W.K H a ys) (hp : ∀ u, H p = some u → (∀ xs, u ≠ .tup xs) ∧ (∀ ob v, u ≠ .frz ob v)) : SqT W.K (upd H p o) a ys := by
  rcases h with h | h
  · left
    have ne : a ≠ p := by
      rintro rfl
      rcases h with h | ⟨ob, h⟩
      · exact (hp _ h).1 _ rfl
      · exact (hp _ h).2 _ _ rfl
    unfold Rd
    rw [upd_ne ne]
    exact h
  · exact .inr h
theorem Scr.upd {p : Addr} {o : HO} {ns : List Int} (h : Scr W H ns) (hp : ∀ u, H p = some u → (∀ ob v, u ≠ .frz ob v)) : Scr W (upd H p o) ns := by
  rcases h with ⟨ob, h⟩ | h
  · left
    refine ⟨ob, ?_⟩
    rw [upd_ne]
    · exact h
    · rintro rfl
      exact hp _ h _ _ rfl
  · exact .inr h
theorem Ext.upd_new {p : Addr} {o : HO} (hp : H p = none) : Ext W μ H (μ ++ [p]) (upd H p o) :=
  ⟨fun n a h => by rw [List.getElem?_append_left (List.getElem?_eq_some_iff.mp h).1]; exact h, fun a ys h => SqT.upd h fun u e => (by rw [hp] at e; cases e), fun a o u h => by rw [upd_ne (ne_of_none h hp)]; exact h, fun a f h => by rw [upd_ne (ne_of_none h hp)]; exact h⟩
/-- a new object that is no plain one (a tuple) -/
theorem Ext.upd_tup {p : Addr} {o : HO} (hp : H p = none) : Ext W μ H μ (upd H p o) :=
  ⟨fun n a h => h, fun a ys h => SqT.upd h fun u e => (by rw [hp] at e; cases e), fun a o u h => by rw [upd_ne (ne_of_none h hp)]; exact h, fun a f h => by rw [upd_ne (ne_of_none h hp)]; exact h⟩
theorem Ext.upd_mut {a : Addr} {o : HO} {ao : AO} (h : OR W μ H ao a) (hm : ∀ kvs, ao ≠ .lck kvs := by intro _ z; cases z) : Ext W μ H μ (upd H a o) := by
  obtain ⟨ob, e, h1, h2, h3⟩ := h.mut hm
  exact ⟨fun n a h => h, fun b ys hb => SqT.upd hb fun u eu => (by rw [e] at eu; cases eu; exact ⟨h1, h2⟩), fun b o' u hb => by
    rw [upd_ne]
    · exact hb
    · rintro rfl
      rw [e] at hb; cases hb
      exact h2 _ _ rfl, fun b f hb => by
    rw [upd_ne]
    · exact hb
    · rintro rfl
      rw [e] at hb; cases hb
      exact h3 _ rfl⟩
theorem OR.keep {μ' H'} {ao : AO} {a : Addr} (h : OR W μ H ao a) (e : Ext W μ H μ' H') (ha : H' a = H a) : OR W μ' H' ao a := by
  cases ao with
  | lst xs => obtain ⟨ys, e1, r⟩ := h; exact ⟨ys, ha.trans e1, r.ext e⟩
  | dct xs => obtain ⟨ys, e1, r⟩ := h; exact ⟨ys, ha.trans e1, r.ext e⟩
  | ins C xs => obtain ⟨dx, ys, e1, r⟩ := h; exact ⟨dx, ys, ha.trans e1, r.ext e⟩
  | lck xs => obtain ⟨o, ys, e1, r⟩ := h; exact ⟨o, ys, ha.trans e1, r.ext e⟩
theorem HR.addr (R : HR W μ ah H) {n : Nat} {a : Addr} (h : μ[n]? = some a) : ∃ ao, ah.get n = some ao ∧ OR W μ H ao a := by
  have hl := (List.getElem?_eq_some_iff.mp h).1
  obtain ⟨ao, e⟩ := R.full n (R.sz ▸ hl)
  obtain ⟨b, hb, o⟩ := R.obj n ao e
  rw [h] at hb; cases hb
  exact ⟨ao, e, o⟩
theorem HR.notin (R : HR W μ ah H) {p : Addr} (hp : H p = none) : p ∉ μ := fun hm => by
  obtain ⟨n, hn⟩ := List.getElem?_of_mem hm
  obtain ⟨ao, _, o⟩ := R.addr hn
  obtain ⟨ob, e, _⟩ := o.some_
  rw [hp] at e; cases e
/-- a tuple is laid -/
theorem HR.tup (R : HR W μ ah H) {p : Addr} {o : HO} (hp : H p = none) : HR W μ ah (upd H p o) :=
  ⟨R.sz, R.full, R.nd, fun n ao e => let ⟨a, h1, h2⟩ := R.obj n ao e; ⟨a, h1, h2.keep (Ext.upd_tup hp) (h2.at_new hp)⟩, R.scr.upd fun u e => by rw [hp] at e; cases e⟩
/-- a plain object is laid -/
theorem HR.push (R : HR W μ ah H) {p : Addr} {o : HO} {ao : AO} (hp : H p = none) (ho : OR W (μ ++ [p]) (upd H p o) ao p) : HR W (μ ++ [p]) (ah.push ao) (upd H p o) := by
  refine ⟨by simp [AH.push, R.sz], fun n hn => ?_, ?_, fun n ao' e => ?_, R.scr.upd fun u e => by rw [hp] at e; cases e⟩
  · rw [AH.get_push]
    by_cases h : n = ah.n
    · exact ⟨ao, by simp [h]⟩
    · rw [if_neg h]
      exact R.full n (by have : n < ah.n + 1 := hn; omega)
  · refine List.nodup_append.mpr ⟨R.nd, by simp, fun a ha b hb => ?_⟩
    rw [List.mem_singleton] at hb
    subst hb
    exact fun z => R.notin hp (z ▸ ha)
  · rw [AH.get_push] at e
    by_cases h : n = ah.n
    · rw [if_pos h] at e; cases e
      refine ⟨p, ?_, ho⟩
      rw [h, R.sz]; simp
    · rw [if_neg h] at e
      obtain ⟨a, h1, h2⟩ := R.obj n ao' e
      exact ⟨a, (Ext.upd_new (W := W) (o := o) hp).pre n a h1, h2.keep (Ext.upd_new hp) (h2.at_new hp)⟩
/-- a plain object is changed -/
theorem HR.set (R : HR W μ ah H) {n : Nat} {a : Addr} {o : HO} {ao0 ao : AO} (h0 : ah.get n = some ao0) (ha : μ[n]? = some a) (ho : OR W μ (upd H a o) ao a) (hm : ∀ kvs, ao0 ≠ .lck kvs := by intro _ z; cases z) : HR W μ (ah.set n ao) (upd H a o) := by
  obtain ⟨b, hb, o0⟩ := R.obj n ao0 h0
  rw [ha] at hb; cases hb
  refine ⟨R.sz, fun m hm => ?_, R.nd, fun m ao' e => ?_, R.scr.upd fun u e => ?_⟩
  · rw [AH.get_set]
    by_cases h : m = n
    · exact ⟨ao, by simp [h]⟩
    · rw [if_neg h]; exact R.full m hm
  · rw [AH.get_set] at e
    by_cases h : m = n
    · rw [if_pos h] at e; cases e
      exact ⟨a, h ▸ ha, ho⟩
    · rw [if_neg h] at e
      obtain ⟨c, h1, h2⟩ := R.obj m ao' e
      refine ⟨c, h1, h2.keep (Ext.upd_mut o0 hm) (upd_ne fun z => h ?_)⟩
      subst z
      have l1 := (List.getElem?_eq_some_iff.mp h1)
      have l2 := (List.getElem?_eq_some_iff.mp ha)
      exact (List.getElem_inj R.nd).mp (l1.2.trans l2.2.symm)
  · obtain ⟨ob, e1, _, h2, _⟩ := o0.mut hm
    rw [e1] at e; cases e
    exact h2
/-- a dict is locked -/
theorem HR.lock (R : HR W μ ah H) {n : Nat} {a : Addr} {kvs kv' ob} (h0 : ah.get n = some (.dct kvs)) (ha : μ[n]? = some a) (hH : H a = some (.dK kv')) (r : Rks W μ H kvs kv') :
    Ext W μ H μ (upd H a (.frz ob (.dK kv'))) ∧ HR W μ (ah.set n (.lck kvs)) (upd H a (.frz ob (.dK kv'))) := by
  have o0 : OR W μ H (.dct kvs) a := ⟨kv', hH, r⟩
  have e : Ext W μ H μ (upd H a (.frz ob (.dK kv'))) := Ext.upd_mut o0
  exact ⟨e, R.set (ao := .lck kvs) h0 ha ⟨ob, kv', upd_same, r.ext e⟩⟩
/-- .. and unlocked -/
theorem HR.unlock (R : HR W μ ah H) {n : Nat} {a : Addr} {kvs kv' ob} (h0 : ah.get n = some (.lck kvs)) (ha : μ[n]? = some a) (hH : H a = some (.frz ob (.dK kv'))) (hs : W.a0 ≠ a ∨ ∀ o xs, H W.a0 ≠ some (.frz o (.lst xs))) :
    HR W μ (ah.set n (.dct kvs)) (upd H a (.dK kv')) := by
  obtain ⟨b, hb, o0⟩ := R.obj n _ h0
  rw [ha] at hb; cases hb
  obtain ⟨ob', kv2, e2, r2⟩ := o0
  rw [hH] at e2
  have e3 : kv' = kv2 := by cases e2; rfl
  subst e3
  have keepT : ∀ c ys, SqT W.K H c ys → SqT W.K (upd H a (.dK kv')) c ys := fun c ys h => by
    rcases h with h | h
    · left
      have ne : c ≠ a := by
        rintro rfl
        rcases h with h | ⟨ob, h⟩
        · rw [hH] at h; cases h
        · rw [hH] at h; cases h
      unfold Rd
      rw [upd_ne ne]
      exact h
    · exact .inr h
  have rl : ∀ {v x}, Rl W μ H v x → Rl W μ (upd H a (.dK kv')) v x := fun r => by
    exact Rl.keep keepT r
  refine ⟨R.sz, fun m hm => ?_, R.nd, fun m ao' e => ?_, ?_⟩
  · rw [AH.get_set]
    by_cases h : m = n
    · exact ⟨_, by rw [if_pos h]⟩
    · rw [if_neg h]; exact R.full m hm
  · rw [AH.get_set] at e
    by_cases h : m = n
    · rw [if_pos h] at e; cases e
      exact ⟨a, h ▸ ha, kv', upd_same, Rks.keep keepT r2⟩
    · rw [if_neg h] at e
      obtain ⟨c, h1, h2⟩ := R.obj m ao' e
      have ne : c ≠ a := fun z => h (by
        subst z
        have l1 := (List.getElem?_eq_some_iff.mp h1)
        have l2 := (List.getElem?_eq_some_iff.mp ha)
        exact (List.getElem_inj R.nd).mp (l1.2.trans l2.2.symm))
      refine ⟨c, h1, ?_⟩
      cases ao' with
      | lst xs => obtain ⟨ys, e1, r⟩ := h2; exact ⟨ys, (upd_ne ne).trans e1, Rls.keep keepT r⟩
      | dct xs => obtain ⟨ys, e1, r⟩ := h2; exact ⟨ys, (upd_ne ne).trans e1, Rks.keep keepT r⟩
      | ins C xs => obtain ⟨dx, ys, e1, r⟩ := h2; exact ⟨dx, ys, (upd_ne ne).trans e1, Rks.keep keepT r⟩
      | lck xs => obtain ⟨o, ys, e1, r⟩ := h2; exact ⟨o, ys, (upd_ne ne).trans e1, Rks.keep keepT r⟩
  · rcases R.scr with ⟨o, h⟩ | h
    · left
      refine ⟨o, ?_⟩
      rw [upd_ne]
      · exact h
      · rcases hs with hs | hs
        · exact hs
        · exact absurd h (hs _ _)
    · exact .inr h
end
/-- a frame's names -/
inductive SR (W : Wd) (μ : List Addr) (H : Hp) : List (Option AV) → St → Prop where
  | nil : SR W μ H [] []
  | some {v x s σ} : Rl W μ H v x → SR W μ H s σ → SR W μ H (some v :: s) (some x :: σ)
  | none {s o σ} : SR W μ H s σ → SR W μ H (none :: s) (o :: σ)
section
variable {W : Wd} {μ : List Addr} {H : Hp}
theorem SR.ext {μ' H'} (e : Ext W μ H μ' H') : ∀ {s σ}, SR W μ H s σ → SR W μ' H' s σ
  | _, _, .nil => .nil
  | _, _, .some r t => .some (r.ext e) (SR.ext e t)
  | _, _, .none t => .none (SR.ext e t)
theorem SR.get : ∀ {s σ} {i : Nat} {v}, SR W μ H s σ → s[i]? = Option.some (Option.some v) → ∃ x, σ[i]? = Option.some (Option.some x) ∧ Rl W μ H v x
  | _, _, _, _, .nil, h => by simp at h
  | _, _, 0, _, .some r _, h => by simp at h; subst h; exact ⟨_, rfl, r⟩
  | _, _, 0, _, .none _, h => by simp at h
  | _, _, i + 1, v, .some _ t, h => by
    obtain ⟨y, h1, h2⟩ := SR.get (i := i) (v := v) t (by simpa using h)
    exact ⟨y, by simpa using h1, h2⟩
  | _, _, i + 1, v, .none t, h => by
    obtain ⟨y, h1, h2⟩ := SR.get (i := i) (v := v) t (by simpa using h)
    exact ⟨y, by simpa using h1, h2⟩
theorem SR.set : ∀ {s σ v x} (i : Nat), SR W μ H s σ → Rl W μ H v x → SR W μ H (s.set i (Option.some v)) (σ.set i (Option.some x))
  | _, _, _, _, _, .nil, _ => .nil
  | _, _, _, _, 0, .some _ t, q => .some q t
  | _, _, _, _, 0, .none t, q => .some q t
  | _, _, _, _, i + 1, .some r t, q => .some r (SR.set i t q)
  | _, _, _, _, i + 1, .none t, q => .none (SR.set i t q)
theorem SR.unset : ∀ {s σ o} (i : Nat), SR W μ H s σ → SR W μ H (s.set i Option.none) (σ.set i o)
  | _, _, _, _, .nil => .nil
  | _, _, _, 0, .some _ t => .none t
  | _, _, _, 0, .none t => .none t
  | _, _, _, i + 1, .some r t => .some r (SR.unset i t)
  | _, _, _, i + 1, .none t => .none (SR.unset i t)
theorem SR.length : ∀ {s σ}, SR W μ H s σ → s.length = σ.length
  | _, _, .nil => rfl
  | _, _, .some _ t => by simp [SR.length t]
  | _, _, .none t => by simp [SR.length t]
theorem SR.start : ∀ {vs xs} (n : Nat), Rls W μ H vs xs → SR W μ H (vs.map Option.some ++ List.replicate n Option.none) (xs.map Option.some ++ List.replicate n Option.none)
  | _, _, n, .nil => by
    induction n with
    | zero => exact .nil
    | succ n ih => exact .none ih
  | _, _, n, .cons r t => .some r (SR.start n t)
end
end WC
/-! W2: what a plain run gives, judgements over plain runs, the first rules -/
namespace WC
open PySem L2

inductive Ex (α : Type) where
  | ok (a : α) (h : AH)
  | stuck
def Ex.bind {α β : Type} (r : Ex α) (k : α → AH → Ex β) : Ex β := match r with
  | .ok a h => k a h
  | .stuck => .stuck
abbrev AEnv := List (Option AV)
abbrev AE := AEnv → AH → Ex AV
abbrev AT := AEnv → AH → Ex Bool
abbrev AL := AEnv → AH → Ex (List AV)
/-- how a statement ends -/
inductive Fl where
  | nx (s : AEnv) | bk (s : AEnv) | ct (s : AEnv) | rt (v : AV)
abbrev AS := AEnv → AH → Ex Fl

/-- what is wanted behind a plain run -/
def PostG {α β : Type} (W : Wd) (rel : List Addr → Hp → α → β → Prop) (μ : List Addr) (H : Hp) (r : Ex α) (Q : β → Hp → Prop) : Prop := match r with
  | .stuck => False
  | .ok a h => ∀ μ' H' b, Ext W μ H μ' H' → HR W μ' h H' → rel μ' H' a b → Q b H'
abbrev Post (W : Wd) := PostG W (Rl W)
abbrev PostL (W : Wd) := PostG W (Rls W)
def rBool (_ : List Addr) (_ : Hp) (a b : Bool) : Prop := a = b
abbrev PostB (W : Wd) := PostG W rBool
def PostS (W : Wd) (μ : List Addr) (H : Hp) (r : Ex Fl) (D : Ends) : Prop := match r with
  | .stuck => False
  | .ok (.nx s) h => ∀ μ' H' σ', Ext W μ H μ' H' → HR W μ' h H' → SR W μ' H' s σ' → D.nx σ' H'
  | .ok (.bk s) h => ∀ μ' H' σ', Ext W μ H μ' H' → HR W μ' h H' → SR W μ' H' s σ' → D.bk σ' H'
  | .ok (.ct s) h => ∀ μ' H' σ', Ext W μ H μ' H' → HR W μ' h H' → SR W μ' H' s σ' → D.ct σ' H'
  | .ok (.rt v) h => ∀ μ' H' x, Ext W μ H μ' H' → HR W μ' h H' → Rl W μ' H' v x → D.rt x H'
section
variable {α β γ δ : Type} {W : Wd} {μ μ1 : List Addr} {H H1 : Hp} {rel : List Addr → Hp → α → β → Prop} {rel' : List Addr → Hp → γ → δ → Prop}
theorem PostG.ext {r : Ex α} {Q : β → Hp → Prop} (p : PostG W rel μ H r Q) (e : Ext W μ H μ1 H1) : PostG W rel μ1 H1 r Q := by
  cases r with
  | stuck => exact p
  | ok a h => exact fun μ' H' b e' hr rl => p μ' H' b (e.trans e') hr rl
theorem PostG.mono {r : Ex α} {Q Q' : β → Hp → Prop} (p : PostG W rel μ H r Q) (h : ∀ b H', Q b H' → Q' b H') : PostG W rel μ H r Q' := by
  cases r with
  | stuck => exact p
  | ok a h0 => exact fun μ' H' b e' hr rl => h _ _ (p μ' H' b e' hr rl)
theorem PostG.ret {a : α} {b : β} {ah : AH} {Q : β → Hp → Prop} (p : PostG W rel μ H (.ok a ah) Q) (hr : HR W μ ah H) (r : rel μ H a b) : Q b H := p μ H b .refl hr r
theorem PostG.bind {r : Ex α} {k : α → AH → Ex γ} {Q : δ → Hp → Prop} (p : PostG W rel' μ H (r.bind k) Q) :
    PostG W rel μ H r (fun b H1 => ∃ μ1 a h1, Ext W μ H μ1 H1 ∧ HR W μ1 h1 H1 ∧ rel μ1 H1 a b ∧ PostG W rel' μ1 H1 (k a h1) Q) := by
  cases r with
  | stuck => exact p
  | ok a h => exact fun μ' H' b e hr rl => ⟨μ', a, h, e, hr, rl, PostG.ext (r := k a h) p e⟩
theorem PostS.ext {r : Ex Fl} {D : Ends} (p : PostS W μ H r D) (e : Ext W μ H μ1 H1) : PostS W μ1 H1 r D := by
  cases r with
  | stuck => exact p
  | ok f h => cases f <;> exact fun μ' H' b e' hr rl => p μ' H' b (e.trans e') hr rl
theorem PostS.bind {r : Ex α} {k : α → AH → Ex Fl} {D : Ends} (p : PostS W μ H (r.bind k) D) :
    PostG W rel μ H r (fun b H1 => ∃ μ1 a h1, Ext W μ H μ1 H1 ∧ HR W μ1 h1 H1 ∧ rel μ1 H1 a b ∧ PostS W μ1 H1 (k a h1) D) := by
  cases r with
  | stuck => exact p
  | ok a h => exact fun μ' H' b e hr rl => ⟨μ', a, h, e, hr, rl, PostS.ext (r := k a h) p e⟩
end
/-! ### judgements -/
def TEv (W : Wd) (f : AE) : TE := fun σ H Q => ∃ μ s ah, SR W μ H s σ ∧ HR W μ ah H ∧ Post W μ H (f s ah) Q
def TTv (W : Wd) (f : AT) : TT := fun σ H Q => ∃ μ s ah, SR W μ H s σ ∧ HR W μ ah H ∧ PostB W μ H (f s ah) Q
def TAv (W : Wd) (f : AL) : TA := fun σ H Q => ∃ μ s ah, SR W μ H s σ ∧ HR W μ ah H ∧ PostL W μ H (f s ah) Q
def TSv (W : Wd) (f : AS) : TS := fun D σ H => ∃ μ s ah, SR W μ H s σ ∧ HR W μ ah H ∧ PostS W μ H (f s ah) D
abbrev Cx.wd (X : Cx) (a0 : Addr) : Wd := ⟨X.K, a0⟩
def ME (X : Cx) (a0 : Addr) (e : Expr) (f : AE) : Prop := PE X e (TEv (Cx.wd X a0) f)
def MT (X : Cx) (a0 : Addr) (e : Expr) (f : AT) : Prop := PT X e (TTv (Cx.wd X a0) f)
def MA (X : Cx) (a0 : Addr) (es : List Expr) (f : AL) : Prop := PA X es (TAv (Cx.wd X a0) f)
def MS (X : Cx) (a0 : Addr) (st : Stmt) (f : AS) : Prop := PS X st (TSv (Cx.wd X a0) f)
def MSs (X : Cx) (a0 : Addr) (st : List Stmt) (f : AS) : Prop := PSs X st (TSv (Cx.wd X a0) f)
theorem PE.imp {X : Cx} {e : Expr} {t t' : TE} (h : PE X e t) (hi : ∀ σ H Q, t' σ H Q → t σ H Q) : PE X e t' := ⟨fun pins s σ H Q I q => h.run pins s σ H Q I (hi σ H Q q)⟩
theorem PT.imp {X : Cx} {e : Expr} {t t' : TT} (h : PT X e t) (hi : ∀ σ H Q, t' σ H Q → t σ H Q) : PT X e t' := ⟨fun pins s σ H Q I q => h.run pins s σ H Q I (hi σ H Q q)⟩
theorem PA.imp {X : Cx} {e : List Expr} {t t' : TA} (h : PA X e t) (hi : ∀ σ H Q, t' σ H Q → t σ H Q) : PA X e t' := ⟨fun pos pins s σ H Q I q => h.run pos pins s σ H Q I (hi σ H Q q)⟩
theorem PS.imp {X : Cx} {e : Stmt} {t t' : TS} (h : PS X e t) (hi : ∀ D σ H, t' D σ H → t D σ H) : PS X e t' := ⟨fun pins s σ H D I q => h.run pins s σ H D I (hi D σ H q)⟩
theorem PSs.imp {X : Cx} {e : List Stmt} {t t' : TS} (h : PSs X e t) (hi : ∀ D σ H, t' D σ H → t D σ H) : PSs X e t' := ⟨fun pins s σ H D I q => h.run pins s σ H D I (hi D σ H q)⟩

section
variable {X : Cx} {a0 : Addr} {a b c e : Expr} {es : List Expr} {pos : Pos}
theorem me_stuck {e : Expr} : ME X a0 e (fun _ _ => .stuck) := ⟨fun _ _ _ _ _ _ h => by obtain ⟨_, _, _, _, _, p⟩ := h; exact p.elim⟩
theorem mt_stuck {e : Expr} : MT X a0 e (fun _ _ => .stuck) := ⟨fun _ _ _ _ _ _ h => by obtain ⟨_, _, _, _, _, p⟩ := h; exact p.elim⟩
theorem ma_stuck {e : List Expr} : MA X a0 e (fun _ _ => .stuck) := ⟨fun _ _ _ _ _ _ _ h => by obtain ⟨_, _, _, _, _, p⟩ := h; exact p.elim⟩
theorem ms_stuck {e : Stmt} : MS X a0 e (fun _ _ => .stuck) := ⟨fun _ _ _ _ _ _ h => by obtain ⟨_, _, _, _, _, p⟩ := h; exact p.elim⟩
theorem mss_stuck {e : List Stmt} : MSs X a0 e (fun _ _ => .stuck) := ⟨fun _ _ _ _ _ _ h => by obtain ⟨_, _, _, _, _, p⟩ := h; exact p.elim⟩
/-! ### constants and names -/
theorem me_const {v : AV} {x : V} (h : PE X e (tC x)) (r : ∀ μ H, Rl (Cx.wd X a0) μ H v x) : ME X a0 e (fun _ h => .ok v h) :=
  PE.imp h fun σ H Q ⟨μ, s, ah, _, hr, p⟩ => p.ret hr (r μ H)
theorem me_int {i j} : ME X a0 (.Constant (.int i) j pos) (fun _ h => .ok (.int i) h) := me_const pe_int fun _ _ => .int
theorem me_bl {i j} : ME X a0 (.Constant (.bool i) j pos) (fun _ h => .ok (.bl i) h) := me_const pe_bl fun _ _ => .bl
theorem me_non {j} : ME X a0 (.Constant .none j pos) (fun _ h => .ok .non h) := me_const pe_non fun _ _ => .non
theorem me_str {i j} : ME X a0 (.Constant (.str i) j pos) (fun _ h => .ok (.str i) h) := me_const pe_str fun _ _ => .str
def aVar (i : Nat) : AE := fun s h => match s[i]? with
  | some (some v) => .ok v h
  | _ => .stuck
theorem me_var {i : Nat} {x : Str} (hN : X.N[i]? = some x) (hv : Vis X.env.scope x) (hd : (x == ("__debug__" : Str)) = false) (hcd : (x == ("__classdict__" : Str)) = false) : ME X a0 (.Name x pos) (aVar i) :=
  PE.imp (pe_var hN hv hd hcd) fun σ H Q ⟨μ, s, ah, hs, hr, p⟩ => by
    unfold aVar at p
    split at p
    · rename_i v e
      obtain ⟨x, e1, r⟩ := hs.get e
      exact ⟨x, e1, p.ret hr r⟩
    · exact p.elim
/-! ### two values -/
abbrev AO2 := AV → AV → AH → Ex AV
def R2of (W : Wd) (g : AO2) : R2 := fun x y H Q => ∃ μ a b ah, HR W μ ah H ∧ Rl W μ H a x ∧ Rl W μ H b y ∧ Post W μ H (g a b ah) Q
def aBin (f f' : AE) (g : AO2) : AE := fun s h => (f s h).bind fun a h1 => (f' s h1).bind fun b h2 => g a b h2
theorem tOp_of {W : Wd} {f f' : AE} {g : AO2} {σ H Q} (h : TEv W (aBin f f' g) σ H Q) : tOp (R2of W g) (TEv W f) (TEv W f') σ H Q := by
  obtain ⟨μ, s, ah, hs, hr, p⟩ := h
  refine ⟨μ, s, ah, hs, hr, (PostG.bind p).mono fun x H1 ⟨μ1, a, h1, e1, hr1, rl1, p1⟩ => ?_⟩
  refine ⟨μ1, s, h1, hs.ext e1, hr1, (PostG.bind p1).mono fun y H2 ⟨μ2, b, h2, e2, hr2, rl2, p2⟩ => ?_⟩
  exact ⟨μ2, a, b, h2, hr2, rl1.ext e2, rl2, p2⟩
theorem me_bin {op : Operator} {f f' : AE} {g : AO2} (ho : OpR X (binaryOp op) (R2of (Cx.wd X a0) g)) (ha : ME X a0 a f) (hb : ME X a0 b f') : ME X a0 (.BinOp a op b pos) (aBin f f' g) :=
  PE.imp (pe_op ho ha hb) fun _ _ _ h => tOp_of h
theorem me_cmp {op : CmpOp} {f f' : AE} {g : AO2} (ho : OpR X (compareOp op) (R2of (Cx.wd X a0) g)) (ha : ME X a0 a f) (hb : ME X a0 b f') (hm : behindInMarks op b = false) : ME X a0 (.Compare a [op] [b] pos) (aBin f f' g) :=
  PE.imp (pe_cmpR ho ha hb hm) fun _ _ _ h => tOp_of h
/-- a value as a test -/
def asB (r : Ex AV) : Ex Bool := match r with
  | .ok (.bl b) h => .ok b h
  | _ => .stuck
theorem asB_post {W μ H} {r : Ex AV} {Q : Bool → Hp → Prop} (p : PostB W μ H (asB r) Q) : Post W μ H r (fun x H' => ∃ k, x = .bl k ∧ Q k H') := by
  cases r with
  | stuck => exact p
  | ok v h =>
    cases v with
    | bl b => exact fun μ' H' x e hr rl => by cases rl; exact ⟨b, rfl, p μ' H' b e hr rfl⟩
    | _ => exact p.elim
theorem mt_cmp {op : CmpOp} {f f' : AE} {g : AO2} (ho : OpR X (compareOp op) (R2of (Cx.wd X a0) g)) (ha : ME X a0 a f) (hb : ME X a0 b f') (hm : behindInMarks op b = false) : MT X a0 (.Compare a [op] [b] pos) (fun s h => asB (aBin f f' g s h)) :=
  PT.imp (pt_cmpR ho ha hb hm) fun σ H Q ⟨μ, s, ah, hs, hr, p⟩ => tOp_of ⟨μ, s, ah, hs, hr, asB_post p⟩
/-! ### chains -/
def aChain (f1 f2 f3 : AE) (g g' : AO2) : AE := fun s h => (f1 s h).bind fun a h1 => (f2 s h1).bind fun b h2 => (asB (g a b h2)).bind fun k h3 => if k = true then (f3 s h3).bind fun c h4 => g' b c h4 else .ok (.bl false) h3
theorem tChain_of {W : Wd} {f1 f2 f3 : AE} {g g' : AO2} {σ H Q} (h : TEv W (aChain f1 f2 f3 g g') σ H Q) : tChain (R2of W g) (R2of W g') (TEv W f1) (TEv W f2) (TEv W f3) σ H Q := by
  obtain ⟨μ, s, ah, hs, hr, p⟩ := h
  refine ⟨μ, s, ah, hs, hr, (PostG.bind p).mono fun x H1 ⟨μ1, a, h1, e1, hr1, rl1, p1⟩ => ?_⟩
  refine ⟨μ1, s, h1, hs.ext e1, hr1, (PostG.bind p1).mono fun y H2 ⟨μ2, b, h2, e2, hr2, rl2, p2⟩ => ?_⟩
  refine ⟨μ2, a, b, h2, hr2, rl1.ext e2, rl2, (asB_post (PostG.bind (rel := rBool) p2)).mono fun z H3 ⟨k, hz, μ3, k', h3, e3, hr3, ek, p3⟩ => ?_⟩
  refine ⟨k, hz, ?_⟩
  have ek' : k' = k := ek
  subst ek'
  cases k' with
  | true =>
    rw [if_pos rfl] at p3 ⊢
    refine ⟨μ3, s, h3, (hs.ext e1).ext (e2.trans e3), hr3, (PostG.bind p3).mono fun z' H4 ⟨μ4, c, h4, e4, hr4, rl4, p4⟩ => ?_⟩
    exact ⟨μ4, b, c, h4, hr4, (rl2.ext e3).ext e4, rl4, p4⟩
  | false =>
    rw [if_neg Bool.false_ne_true] at p3 ⊢
    exact p3.ret hr3 .bl
theorem me_chain {op op' : CmpOp} {f1 f2 f3 : AE} {g g' : AO2} (ho : OpR X (compareOp op) (R2of (Cx.wd X a0) g)) (ho' : OpR X (compareOp op') (R2of (Cx.wd X a0) g')) (ha : ME X a0 a f1) (hb : ME X a0 b f2) (hc : ME X a0 c f3)
    (hm : lastMarks [op, op'] [b, c] = false) : ME X a0 (.Compare a [op, op'] [b, c] pos) (aChain f1 f2 f3 g g') :=
  PE.imp (pe_chain ho ho' ha hb hc hm) fun _ _ _ h => tChain_of h
theorem mt_chain {op op' : CmpOp} {f1 f2 f3 : AE} {g g' : AO2} (ho : OpR X (compareOp op) (R2of (Cx.wd X a0) g)) (ho' : OpR X (compareOp op') (R2of (Cx.wd X a0) g')) (ha : ME X a0 a f1) (hb : ME X a0 b f2) (hc : ME X a0 c f3)
    (hm : lastMarks [op, op'] [b, c] = false) : MT X a0 (.Compare a [op, op'] [b, c] pos) (fun s h => asB (aChain f1 f2 f3 g g' s h)) :=
  PT.imp (pt_chain ho ho' ha hb hc hm) fun σ H Q ⟨μ, s, ah, hs, hr, p⟩ => tChain_of ⟨μ, s, ah, hs, hr, asB_post p⟩
/-! ### lists of values -/
theorem ma_nil : MA X a0 [] (fun _ h => .ok [] h) := PA.imp pa_nil fun σ H Q ⟨μ, s, ah, _, hr, p⟩ => p.ret hr .nil
def aCons (f : AE) (g : AL) : AL := fun s h => (f s h).bind fun a h1 => (g s h1).bind fun as h2 => .ok (a :: as) h2
theorem ma_cons {f : AE} {g : AL} (ha : ME X a0 e f) (hr : MA X a0 es g) (hs : starEach (e :: es) X.env = (false, eval e X.env) :: starEach es X.env) : MA X a0 (e :: es) (aCons f g) :=
  PA.imp (pa_cons ha hr hs) fun σ H Q ⟨μ, s, ah, hs, hr, p⟩ => by
    refine ⟨μ, s, ah, hs, hr, (PostG.bind p).mono fun x H1 ⟨μ1, a, h1, e1, hr1, rl1, p1⟩ => ?_⟩
    refine ⟨μ1, s, h1, hs.ext e1, hr1, (PostG.bind p1).mono fun y H2 ⟨μ2, b, h2, e2, hr2, rl2, p2⟩ => ?_⟩
    exact p2.ret hr2 (.cons (rl1.ext e2) rl2)
/-- a tuple, a list of the values -/
def SL : Nat := sizeLine
def mkTup (xs : List AV) (h : AH) : Ex AV := if xs.length ≤ sizeLine then .ok (.tup xs) h else .stuck
def mkLst (xs : List AV) (h : AH) : Ex AV := if xs.length ≤ sizeLine then .ok (.ref h.n) (h.push (.lst xs)) else .stuck
theorem mkTup_new {W μ H} {as : List AV} {xs : List V} {ah : AH} {Q : VK} {p : Addr} (hr : HR W μ ah H) (r : Rls W μ H as xs) (q : Post W μ H (mkTup as ah) Q) (hp : H p = none) : xs.length ≤ sizeLine ∧ Q (.ref p) (upd H p (.tup xs)) := by
  unfold mkTup at q
  split at q
  · rename_i hl
    have e : Ext W μ H μ (upd H p (.tup xs)) := Ext.upd_tup hp
    exact ⟨r.length ▸ hl, q μ _ _ e (hr.tup hp) (.tup (.of upd_same) (r.ext e))⟩
  · exact q.elim
theorem mkLst_new {W μ H} {as : List AV} {xs : List V} {ah : AH} {Q : VK} {p : Addr} (hr : HR W μ ah H) (r : Rls W μ H as xs) (q : Post W μ H (mkLst as ah) Q) (hp : H p = none) : xs.length ≤ sizeLine ∧ Q (.ref p) (upd H p (.lst xs)) := by
  unfold mkLst at q
  split at q
  · rename_i hl
    have e : Ext W μ H (μ ++ [p]) (upd H p (.lst xs)) := Ext.upd_new hp
    refine ⟨r.length ▸ hl, q (μ ++ [p]) _ _ e (hr.push hp ⟨xs, upd_same, r.ext e⟩) (.ref ?_)⟩
    rw [hr.sz]; simp
  · exact q.elim
theorem mk_size {W μ H} {as : List AV} {xs : List V} (r : Rls W μ H as xs) {α : Type} {x : Ex α} {β} {rel : List Addr → Hp → α → β → Prop} {Q} (q : PostG W rel μ H (if as.length ≤ sizeLine then x else .stuck) Q) : xs.length ≤ sizeLine := by
  split at q
  · rename_i hl; exact r.length ▸ hl
  · exact q.elim
theorem me_tup {k} {g : AL} (h : MA X a0 es g) : ME X a0 (.Tuple es k pos) (fun s h => (g s h).bind mkTup) :=
  PE.imp (pe_tup h) fun σ H Q ⟨μ, s, ah, hs, hr, p⟩ => ⟨μ, s, ah, hs, hr, (PostG.bind p).mono fun xs H1 ⟨μ1, as, h1, e1, hr1, r1, p1⟩ =>
    ⟨mk_size r1 (x := Ex.ok (AV.tup as) h1) (Q := Q) p1, fun p hp => (mkTup_new hr1 r1 p1 hp).2⟩⟩
theorem me_lst {g : AL} (h : MA X a0 es g) : ME X a0 (.List es pos) (fun s h => (g s h).bind mkLst) :=
  PE.imp (pe_lst h) fun σ H Q ⟨μ, s, ah, hs, hr, p⟩ => ⟨μ, s, ah, hs, hr, (PostG.bind p).mono fun xs H1 ⟨μ1, as, h1, e1, hr1, r1, p1⟩ =>
    ⟨mk_size r1 (x := Ex.ok (AV.ref h1.n) (h1.push (AO.lst as))) (Q := Q) p1, fun p hp => (mkLst_new hr1 r1 p1 hp).2⟩⟩
end
end WC
/-! W3: operators and comparisons of plain values -/
namespace WC
open PySem L2
section
variable {X : Cx} {a0 : Addr}
theorem HR.lst {W μ ah H} (hr : HR W μ ah H) {n : Nat} {xs : List AV} {x : V} (hg : ah.get n = some (.lst xs)) (r : Rl W μ H (.ref n) x) : ∃ a ys, x = .ref a ∧ μ[n]? = some a ∧ H a = some (.lst ys) ∧ Rls W μ H xs ys := by
  obtain ⟨a, e, ys, h1, h2⟩ := hr.obj n _ hg
  cases r with
  | ref e' =>
    rw [e] at e'; cases e'
    exact ⟨a, ys, rfl, e, h1, h2⟩
theorem HR.dct {W μ ah H} (hr : HR W μ ah H) {n : Nat} {xs : List (Key × AV)} {x : V} (hg : ah.get n = some (.dct xs)) (r : Rl W μ H (.ref n) x) : ∃ a ys, x = .ref a ∧ μ[n]? = some a ∧ H a = some (.dK ys) ∧ Rks W μ H xs ys := by
  obtain ⟨a, e, ys, h1, h2⟩ := hr.obj n _ hg
  cases r with
  | ref e' =>
    rw [e] at e'; cases e'
    exact ⟨a, ys, rfl, e, h1, h2⟩
theorem HR.ins {W μ ah H} (hr : HR W μ ah H) {n : Nat} {C : Str} {xs : List (Str × AV)} {x : V} (hg : ah.get n = some (.ins C xs)) (r : Rl W μ H (.ref n) x) : ∃ a dx ys, x = .ref a ∧ μ[n]? = some a ∧ H a = some (.ins (He.ga W.K C) dx ys) ∧ Rks W μ H xs ys := by
  obtain ⟨a, e, dx, ys, h1, h2⟩ := hr.obj n _ hg
  cases r with
  | ref e' =>
    rw [e] at e'; cases e'
    exact ⟨a, dx, ys, rfl, e, h1, h2⟩

/-! ### plain data as the library's -/
mutual
def toPD : Nat → AH → AV → Option PyData
  | 0, _, _ => none
  | _ + 1, _, .non => some .none
  | _ + 1, _, .bl b => some (.bool b)
  | _ + 1, _, .int i => some (.int i)
  | _ + 1, _, .str x => some (.str x)
  | f + 1, h, .tup xs => match toPDs f h xs with
    | some ds => some (.tuple ds)
    | none => none
  | f + 1, h, .ref n => match h.get n with
    | some (.lst xs) => (match toPDs f h xs with
      | some ds => some (.list ds)
      | none => none)
    | _ => none
  | _ + 1, _, _ => none
def toPDs : Nat → AH → List AV → Option (List PyData)
  | 0, _, _ => none
  | _ + 1, _, [] => some []
  | f + 1, h, x :: xs => match toPD f h x with
    | some d => (match toPDs f h xs with
      | some ds => some (d :: ds)
      | none => none)
    | none => none
end
theorem toPD_ok {W μ ah H} (hr : HR W μ ah H) : ∀ f, (∀ v x d, Rl W μ H v x → toPD f ah v = some d → Dp W.K H x d) ∧ (∀ vs xs ds, Rls W μ H vs xs → toPDs f ah vs = some ds → DpAll W.K H xs ds)
  | 0 => ⟨fun _ _ _ _ e => by simp [toPD] at e, fun _ _ _ _ e => by simp [toPDs] at e⟩
  | f + 1 => by
    obtain ⟨ih, ihs⟩ := toPD_ok hr f
    constructor
    · intro v x d r e
      cases v with
      | non => cases r; simp [toPD] at e; subst e; exact .non
      | bl b => cases r; simp [toPD] at e; subst e; exact .bl b
      | int i => cases r; simp [toPD] at e; subst e; exact .int i
      | str z => cases r; simp [toPD] at e; subst e; exact .str z
      | tup xs =>
        cases r with
        | tup h r =>
          unfold toPD at e
          split at e
          · rename_i ds q
            cases e
            exact .tup h (ihs _ _ _ r q)
          · cases e
      | ref n =>
        unfold toPD at e
        split at e
        · rename_i xs hg
          split at e
          · rename_i ds q
            cases e
            obtain ⟨a, ys, rfl, _, h1, h2⟩ := hr.lst hg r
            exact .lst (.of h1) (ihs _ _ _ h2 q)
          · cases e
        · cases e
      | scr => simp [toPD] at e
      | glo z => simp [toPD] at e
      | ty z => simp [toPD] at e
    · intro vs xs ds r e
      cases r with
      | nil => simp [toPDs] at e; subst e; exact .nil
      | cons r t =>
        unfold toPDs at e
        split at e
        · rename_i d q
          split at e
          · rename_i ds' q'
            cases e
            exact .cons (ih _ _ _ r q) (ihs _ _ _ t q')
          · cases e
        · cases e
def pdF : Nat := 5000
/-- == of data -/
def aEqB (a b : AV) (h : AH) : Option Bool := match toPD pdF h a with
  | some d => (match toPD pdF h b with
    | some e => if SeqAt.shaped d = true then (if SeqAt.shaped e = true then some (PyData.eqv d e) else none) else none
    | none => none)
  | none => none
def aEq : AO2 := fun a b h => match aEqB a b h with
  | some k => .ok (.bl k) h
  | none => .stuck
def aNe : AO2 := fun a b h => match aEqB a b h with
  | some k => .ok (.bl (!k)) h
  | none => .stuck
theorem aEqB_ok {W μ ah H a b x y k} (hr : HR W μ ah H) (ra : Rl W μ H a x) (rb : Rl W μ H b y) (e : aEqB a b ah = some k) : ∃ d e, Dp W.K H x d ∧ Dp W.K H y e ∧ SeqAt.shaped d = true ∧ SeqAt.shaped e = true ∧ k = PyData.eqv d e := by
  unfold aEqB at e
  split at e
  · rename_i d q
    split at e
    · rename_i d' q'
      split at e
      · rename_i s1
        split at e
        · rename_i s2
          cases e
          exact ⟨d, d', (toPD_ok hr pdF).1 _ _ _ ra q, (toPD_ok hr pdF).1 _ _ _ rb q', s1, s2, rfl⟩
        · cases e
      · cases e
    · cases e
  · cases e
theorem op_aEq (hu : X.A.units + 64 < cLine) : OpR X (compareOp .Eq) (R2of (Cx.wd X a0) aEq) := by
  intro pins s σ H x y v u Q I rx ry ⟨μ, a, b, ah, hr, ra, rb, p⟩
  unfold aEq at p
  split at p
  · rename_i k e
    obtain ⟨d, d', h1, h2, h3, h4, rfl⟩ := aEqB_ok hr ra rb e
    exact op_eqD hu pins s σ H x y v u Q I rx ry ⟨d, d', h1, h2, h3, h4, p.ret hr .bl⟩
  · exact p.elim
theorem op_aNe (hu : X.A.units + 64 < cLine) : OpR X (compareOp .NotEq) (R2of (Cx.wd X a0) aNe) := by
  intro pins s σ H x y v u Q I rx ry ⟨μ, a, b, ah, hr, ra, rb, p⟩
  unfold aNe at p
  split at p
  · rename_i k e
    obtain ⟨d, d', h1, h2, h3, h4, rfl⟩ := aEqB_ok hr ra rb e
    exact op_neD hu pins s σ H x y v u Q I rx ry ⟨d, d', h1, h2, h3, h4, p.ret hr .bl⟩
  · exact p.elim
/-! ### ints -/
def aInt (C : Int → Int → Bool) (g : Int → Int → AV) : AO2 := fun a b h => match a, b with
  | .int i, .int j => if C i j = true then .ok (g i j) h else .stuck
  | _, _ => .stuck
theorem op_aInt {f : Value → Value → Sem Value} {P : Int → Int → Prop} {C : Int → Int → Bool} {g : Int → Int → AV} {gv : Int → Int → V} (ho : OpR X f (rI P gv)) (hC : ∀ i j, C i j = true → P i j) (hg : ∀ i j μ H, Rl (Cx.wd X a0) μ H (g i j) (gv i j)) :
    OpR X f (R2of (Cx.wd X a0) (aInt C g)) := by
  intro pins s σ H x y v u Q I rx ry ⟨μ, a, b, ah, hr, ra, rb, p⟩
  unfold aInt at p
  split at p
  · split at p
    · rename_i c
      cases ra; cases rb
      exact ho pins s σ H _ _ v u Q I rx ry ⟨_, _, rfl, rfl, hC _ _ c, p.ret hr (hg _ _ _ _)⟩
    · exact p.elim
  · exact p.elim
theorem rI0_rI {g : Int → Int → V} {x y : V} {H : Hp} {Q : VK} (h : rI (fun _ _ => True) g x y H Q) : rI0 g x y H Q := by
  obtain ⟨i, j, h1, h2, _, q⟩ := h
  exact ⟨i, j, h1, h2, q⟩
theorem op_w {f : Value → Value → Sem Value} {g : Int → Int → V} (h : OpR X f (rI0 g)) : OpR X f (rI (fun _ _ => True) g) := fun pins s σ H x y v u Q I rx ry q => h pins s σ H x y v u Q I rx ry (rI0_rI q)
def tt2 (_ _ : Int) : Bool := true
def aSub : AO2 := aInt tt2 fun i j => .int (i - j)
theorem op_aSub : OpR X (binaryOp .Sub) (R2of (Cx.wd X a0) aSub) := op_aInt (op_w op_sub) (fun _ _ _ => trivial) fun _ _ _ _ => .int
def aLt : AO2 := aInt tt2 fun i j => .bl (decide (i < j))
def aLe : AO2 := aInt tt2 fun i j => .bl (decide (i ≤ j))
def aGt : AO2 := aInt tt2 fun i j => .bl (decide (j < i))
def aGe : AO2 := aInt tt2 fun i j => .bl (decide (j ≤ i))
theorem op_aLt : OpR X (compareOp .Lt) (R2of (Cx.wd X a0) aLt) := op_aInt (op_w op_lt) (fun _ _ _ => trivial) fun _ _ _ _ => .bl
theorem op_aLe : OpR X (compareOp .LtE) (R2of (Cx.wd X a0) aLe) := op_aInt (op_w op_le) (fun _ _ _ => trivial) fun _ _ _ _ => .bl
theorem op_aGt : OpR X (compareOp .Gt) (R2of (Cx.wd X a0) aGt) := op_aInt (op_w op_gt) (fun _ _ _ => trivial) fun _ _ _ _ => .bl
theorem op_aGe : OpR X (compareOp .GtE) (R2of (Cx.wd X a0) aGe) := op_aInt (op_w op_ge) (fun _ _ _ => trivial) fun _ _ _ _ => .bl
def cDivN (i j : Int) : Bool := decide (j ≠ 0) && decide (j.natAbs < 1073741824)
def aFdiv : AO2 := aInt cDivN fun i j => .int (i.fdiv j)
theorem op_aFdiv : OpR X (binaryOp .FloorDiv) (R2of (Cx.wd X a0) aFdiv) := op_aInt op_fdivN (fun i j h => by
  unfold cDivN at h; rw [Bool.and_eq_true] at h; exact ⟨of_decide_eq_true h.1, of_decide_eq_true h.2⟩) fun _ _ _ _ => .int
def cNz (i j : Int) : Bool := decide (j ≠ 0)
def aMod : AO2 := aInt cNz fun i j => .int (i.fmod j)
theorem op_aMod : OpR X (binaryOp .Mod) (R2of (Cx.wd X a0) aMod) := op_aInt op_modN (fun i j h => of_decide_eq_true h) fun _ _ _ _ => .int
/-! ### + -/
def aAdd : AO2 := fun a b h => match a, b with
  | .int i, .int j => .ok (.int (i + j)) h
  | .str x, .str y => if x.length + y.length ≤ sizeLine then .ok (.str (x ++ y)) h else .stuck
  | .tup xs, .tup ys => if xs.length + ys.length ≤ sizeLine then .ok (.tup (xs ++ ys)) h else .stuck
  | .ref m, .ref n => (match h.get m, h.get n with
    | some (.lst xs), some (.lst ys) => if xs.length + ys.length ≤ sizeLine then .ok (.ref h.n) (h.push (.lst (xs ++ ys))) else .stuck
    | _, _ => .stuck)
  | _, _ => .stuck
theorem Rls.nil_iff {W μ H xs ys} (r : Rls W μ H xs ys) : ys = [] ↔ xs = [] := by
  cases r with
  | nil => simp
  | cons _ _ => simp
theorem lst_new {W μ H} {as : List AV} {xs : List V} {ah : AH} {Q : VK} {p : Addr} (hr : HR W μ ah H) (r : Rls W μ H as xs) (q : Post W μ H (.ok (.ref ah.n) (ah.push (.lst as))) Q) (hp : H p = none) : Q (.ref p) (upd H p (.lst xs)) := by
  have e : Ext W μ H (μ ++ [p]) (upd H p (.lst xs)) := Ext.upd_new hp
  refine q (μ ++ [p]) _ _ e (hr.push hp ⟨xs, upd_same, r.ext e⟩) (.ref ?_)
  rw [hr.sz]; simp
theorem tup_new {W μ H} {as : List AV} {xs : List V} {ah : AH} {Q : VK} {p : Addr} (hr : HR W μ ah H) (r : Rls W μ H as xs) (q : Post W μ H (.ok (.tup as) ah) Q) (hp : H p = none) : Q (.ref p) (upd H p (.tup xs)) := by
  have e : Ext W μ H μ (upd H p (.tup xs)) := Ext.upd_tup hp
  exact q μ _ _ e (hr.tup hp) (.tup (.of upd_same) (r.ext e))
theorem op_aAdd : OpR X (binaryOp .Add) (R2of (Cx.wd X a0) aAdd) := by
  intro pins s σ H x y v u Q I rx ry ⟨μ, a, b, ah, hr, ra, rb, p⟩
  unfold aAdd at p
  split at p
  · cases ra; cases rb
    exact op_add pins s σ H _ _ v u Q I rx ry ⟨_, _, rfl, rfl, p.ret hr .int⟩
  · split at p
    · rename_i hl
      cases ra; cases rb
      exact op_add_str pins s σ H _ _ v u Q I rx ry ⟨_, _, rfl, rfl, hl, p.ret hr .str⟩
    · exact p.elim
  · split at p
    · rename_i xs ys hl
      cases ra with
      | tup h1 r1 =>
        cases rb with
        | tup h2 r2 =>
          refine op_catA pins s σ H _ _ v u Q I rx ry ⟨_, _, _, _, rfl, rfl, h1, h2, by rw [← r1.length, ← r2.length]; exact hl, fun e => ?_, fun _ e => ?_, fun _ _ q hq => ?_⟩
          · have := r1.nil_iff.mp e
            subst this
            exact p.ret hr (.tup h2 r2)
          · have := r2.nil_iff.mp e
            subst this
            rw [List.append_nil] at p
            exact p.ret hr (.tup h1 r1)
          · exact tup_new hr (r1.append r2) p hq
    · exact p.elim
  · split at p
    · rename_i g1 g2
      split at p
      · rename_i hl
        obtain ⟨a, xs, rfl, _, h1, r1⟩ := hr.lst g1 ra
        obtain ⟨b, ys, rfl, _, h2, r2⟩ := hr.lst g2 rb
        exact op_cat pins s σ H _ _ v u Q I rx ry ⟨_, _, _, _, rfl, rfl, h1, h2, by rw [← r1.length, ← r2.length]; exact hl, fun q hq => lst_new hr (r1.append r2) p hq⟩
      · exact p.elim
    · exact p.elim
  · exact p.elim
/-! ### * -/
def aMul : AO2 := fun a b h => match a, b with
  | .int i, .int j => if (decide (-(2 ^ 64) < i) && decide (i < 2 ^ 64)) || (decide (-(2 ^ 64) < j) && decide (j < 2 ^ 64)) then .ok (.int (i * j)) h else .stuck
  | .ref m, .int k => (match h.get m with
    | some (.lst xs) => if decide (-(2 ^ 63) ≤ k) && decide (k < 2 ^ 63) && decide (xs.length * k.toNat ≤ sizeLine) then .ok (.ref h.n) (h.push (.lst (List.replicate k.toNat xs).flatten)) else .stuck
    | _ => .stuck)
  | .tup xs, .int k => if decide (xs ≠ []) && decide (2 ≤ k) && decide (k ≤ 1000) && decide (xs.length ≤ 1000) then .ok (.tup (List.replicate k.toNat xs).flatten) h else if decide (k = 1) && decide (xs ≠ []) then .stuck else .stuck
  | _, _ => .stuck
end
end WC
/-! W4: in, is None, *, subscripts, slices -/
namespace WC
open PySem L2
section
variable {X : Cx} {a0 : Addr}
/-! ### flat values -/
def toV : AV → Option V
  | .non => some .non
  | .bl b => some (.bl b)
  | .int i => some (.int i)
  | .str x => some (.str x)
  | _ => none
def toVs : List AV → Option (List V)
  | [] => some []
  | x :: xs => match toV x with
    | some v => (match toVs xs with
      | some vs => some (v :: vs)
      | none => none)
    | none => none
theorem toV_ok {W μ H v x y} (r : Rl W μ H v x) (e : toV v = some y) : x = y ∧ flatV y = true := by
  cases r <;> simp [toV] at e <;> subst e <;> exact ⟨rfl, rfl⟩
theorem toVs_ok {W μ H} : ∀ {vs xs ys}, Rls W μ H vs xs → toVs vs = some ys → xs = ys ∧ ys.all flatV = true
  | _, _, _, .nil, e => by simp [toVs] at e; subst e; exact ⟨rfl, rfl⟩
  | _, _, _, .cons r t, e => by
    unfold toVs at e
    split at e
    · rename_i v q
      split at e
      · rename_i vs q'
        cases e
        obtain ⟨rfl, f1⟩ := toV_ok r q
        obtain ⟨rfl, f2⟩ := toVs_ok t q'
        exact ⟨rfl, by simp [f1]; simpa using f2⟩
      · cases e
    · cases e
def toKey : AV → Option Key
  | .int i => some (.inl i)
  | .str x => some (.inr x)
  | _ => none
theorem toKey_ok {W μ H v x k} (r : Rl W μ H v x) (e : toKey v = some k) : x = kV k := by
  cases r <;> simp [toKey] at e <;> subst e <;> rfl
def kA : Key → AV
  | .inl i => .int i
  | .inr x => .str x
def valA {κ : Type} [DecidableEq κ] (kvs : List (κ × AV)) (k : κ) : Option AV := (kvs.find? fun kv => decide (kv.1 = k)).map (·.2)
theorem Rks.val {W μ H} {κ : Type} [DecidableEq κ] {k : κ} : ∀ {xs ys}, Rks W μ H xs ys → (valA xs k = none ∧ valV ys k = none) ∨ ∃ v x, valA xs k = some v ∧ valV ys k = some x ∧ Rl W μ H v x
  | _, _, .nil => .inl ⟨rfl, rfl⟩
  | _, _, .cons (k := k') (x := x) (y := y) r t => by
    by_cases h : k' = k
    · right
      refine ⟨x, y, ?_, ?_, r⟩ <;> simp [valA, valV, List.find?, h]
    · rcases Rks.val (k := k) t with ⟨h1, h2⟩ | ⟨v, z, h1, h2, h3⟩
      · left
        unfold valA valV at *
        simp [List.find?, h]
        simp at h1 h2
        exact ⟨h1, h2⟩
      · right
        refine ⟨v, z, ?_, ?_, h3⟩
        · unfold valA at *; simp only [List.find?, h, decide_false]; exact h1
        · unfold valV at *; simp only [List.find?, h, decide_false]; exact h2
/-- x in y -/
def aInB (a b : AV) (h : AH) : Option Bool := match b with
  | .tup ys => (match toV a, toVs ys with
    | some v, some vs => some (inV v vs)
    | _, _ => none)
  | .str z => (match a with
    | .str x => (match x.cps.toList with
      | [c] => some (decide (c ∈ z.cps.toList))
      | _ => none)
    | _ => none)
  | .ref n => (match h.get n with
    | some (.lst ys) => (match toPD pdF h a, toPDs pdF h ys with
      | some d, some ds => if SeqAt.shaped d = true then (if SeqAt.shaped (.list ds) = true then some (ds.any fun z => PyData.eqv z d) else none) else none
      | _, _ => none)
    | some (.dct kvs) => (match toKey a with
      | some k => some (valA kvs k).isSome
      | none => none)
    | _ => none)
  | _ => none
def aIn : AO2 := fun a b h => match aInB a b h with
  | some k => .ok (.bl k) h
  | none => .stuck
def aNotIn : AO2 := fun a b h => match aInB a b h with
  | some k => .ok (.bl (!k)) h
  | none => .stuck
theorem op_notIn_sign' : OpR X (compareOp .NotIn) (fun x y H Q => ∃ (c : Nat) (z : Str), x = .str ⟨#[c]⟩ ∧ y = .str z ∧ Q (.bl (!decide (c ∈ z.cps.toList))) H) := op_notIn_sign
theorem aInB_ok (hu : X.A.units + 65 < cLine) {pins s σ H} {x y : V} {v u : Value} {Q : VK} {μ a b ah k} (I : Inv X pins σ H s) (rx : RelV x v) (ry : RelV y u) (hr : HR (Cx.wd X a0) μ ah H) (ra : Rl (Cx.wd X a0) μ H a x) (rb : Rl (Cx.wd X a0) μ H b y) (e : aInB a b ah = some k) :
    (Q (.bl k) H → wpAny (model X.prog X.w) X.A (compareOp .In v u) (EP X pins σ Q) X.xe s) ∧ (Q (.bl (!k)) H → wpAny (model X.prog X.w) X.A (compareOp .NotIn v u) (EP X pins σ Q) X.xe s) := by
  unfold aInB at e
  split at e
  · rename_i ys
    split at e
    · rename_i v' vs q1 q2
      cases e
      cases rb with
      | tup h r =>
        obtain ⟨rfl, f1⟩ := toV_ok ra q1
        obtain ⟨rfl, f2⟩ := toVs_ok r q2
        exact ⟨fun q => op_in_seq pins s σ H _ _ v u Q I rx ry ⟨_, _, rfl, .inr h, f1, f2, q⟩, fun q => op_notIn_seq pins s σ H _ _ v u Q I rx ry ⟨_, _, rfl, .inr h, f1, f2, q⟩⟩
    · cases e
  · rename_i z
    split at e
    · rename_i w
      split at e
      · rename_i c hc
        cases e
        cases ra; cases rb
        have ew : w = ⟨#[c]⟩ := by
          have : w.cps = #[c] := by apply Array.ext'; exact hc
          cases w; cases this; rfl
        subst ew
        exact ⟨fun q => op_in_sign pins s σ H _ _ v u Q I rx ry ⟨c, z, rfl, rfl, q⟩, fun q => op_notIn_sign' pins s σ H _ _ v u Q I rx ry ⟨c, z, rfl, rfl, q⟩⟩
      · cases e
    · cases e
  · rename_i n
    split at e
    · rename_i ys hg
      split at e
      · rename_i d ds q1 q2
        split at e
        · rename_i s1
          split at e
          · rename_i s2
            cases e
            obtain ⟨a, xs, rfl, _, h1, r1⟩ := hr.lst hg rb
            have D1 := (toPD_ok hr pdF).1 _ _ _ ra q1
            have D2 := (toPD_ok hr pdF).2 _ _ _ r1 q2
            exact ⟨fun q => op_inD hu pins s σ H _ _ v u Q I rx ry ⟨d, ds, D1, .lst (.of h1) D2, s1, s2, q⟩, fun q => op_notInD hu pins s σ H _ _ v u Q I rx ry ⟨d, ds, D1, .lst (.of h1) D2, s1, s2, q⟩⟩
          · cases e
        · cases e
      · cases e
    · rename_i kvs hg
      split at e
      · rename_i k' q1
        cases e
        obtain ⟨a, xs, rfl, _, h1, r1⟩ := hr.dct hg rb
        have ex := toKey_ok ra q1
        subst ex
        cases ry
        have hu1 : X.A.units + 1 < cLine := by omega
        have eo : (valA kvs k').isSome = (valV xs k').isSome := by
          rcases r1.val (k := k') with ⟨z1, z2⟩ | ⟨_, _, z1, z2, _⟩ <;> rw [z1, z2] <;> rfl
        rw [eo]
        exact ⟨fun q => d_in hu1 I (DGet.k h1) rx fun s' I' => ⟨V.bl _, H, I', rfl, q⟩, fun q => d_notIn hu1 I (DGet.k h1) rx fun s' I' => ⟨V.bl _, H, I', rfl, q⟩⟩
      · cases e
    · cases e
  · cases e
theorem op_aIn (hu : X.A.units + 65 < cLine) : OpR X (compareOp .In) (R2of (Cx.wd X a0) aIn) := by
  intro pins s σ H x y v u Q I rx ry ⟨μ, a, b, ah, hr, ra, rb, p⟩
  unfold aIn at p
  split at p
  · rename_i k e
    exact (aInB_ok hu I rx ry hr ra rb e).1 (p.ret hr .bl)
  · exact p.elim
theorem op_aNotIn (hu : X.A.units + 65 < cLine) : OpR X (compareOp .NotIn) (R2of (Cx.wd X a0) aNotIn) := by
  intro pins s σ H x y v u Q I rx ry ⟨μ, a, b, ah, hr, ra, rb, p⟩
  unfold aNotIn at p
  split at p
  · rename_i k e
    exact (aInB_ok hu I rx ry hr ra rb e).2 (p.ret hr .bl)
  · exact p.elim
/-! ### is None -/
def isN : AV → Bool
  | .non => true
  | _ => false
def aIs : AO2 := fun a b h => match b with
  | .non => .ok (.bl (isN a)) h
  | _ => .stuck
def aIsNot : AO2 := fun a b h => match b with
  | .non => .ok (.bl (!isN a)) h
  | _ => .stuck
theorem isN_ok {W μ H a x} (r : Rl W μ H a x) : isN a = decide (x = .non) := by cases r <;> simp [isN]
theorem op_aIs : OpR X (compareOp .Is) (R2of (Cx.wd X a0) aIs) := by
  intro pins s σ H x y v u Q I rx ry ⟨μ, a, b, ah, hr, ra, rb, p⟩
  unfold aIs at p
  split at p
  · cases rb
    rw [isN_ok ra] at p
    exact op_isN pins s σ H _ _ v u Q I rx ry ⟨rfl, p.ret hr .bl⟩
  · exact p.elim
theorem op_aIsNot : OpR X (compareOp .IsNot) (R2of (Cx.wd X a0) aIsNot) := by
  intro pins s σ H x y v u Q I rx ry ⟨μ, a, b, ah, hr, ra, rb, p⟩
  unfold aIsNot at p
  split at p
  · cases rb
    rw [isN_ok ra] at p
    exact op_notN pins s σ H _ _ v u Q I rx ry ⟨rfl, p.ret hr .bl⟩
  · exact p.elim
/-! ### * -/
theorem Rls.rep {W μ H xs ys} (r : Rls W μ H xs ys) : ∀ n : Nat, Rls W μ H (List.replicate n xs).flatten (List.replicate n ys).flatten
  | 0 => .nil
  | n + 1 => by rw [List.replicate_succ, List.replicate_succ, List.flatten_cons, List.flatten_cons]; exact r.append (Rls.rep r n)
theorem op_aMul : OpR X (binaryOp .Mult) (R2of (Cx.wd X a0) aMul) := by
  intro pins s σ H x y v u Q I rx ry ⟨μ, a, b, ah, hr, ra, rb, p⟩
  unfold aMul at p
  split at p
  · split at p
    · rename_i c
      cases ra; cases rb
      refine op_mul pins s σ H _ _ v u Q I rx ry ⟨_, _, rfl, rfl, ?_, p.ret hr .int⟩
      rw [Bool.or_eq_true, Bool.and_eq_true, Bool.and_eq_true] at c
      rcases c with ⟨c1, c2⟩ | ⟨c1, c2⟩
      · exact .inl ⟨of_decide_eq_true c1, of_decide_eq_true c2⟩
      · exact .inr ⟨of_decide_eq_true c1, of_decide_eq_true c2⟩
    · exact p.elim
  · split at p
    · rename_i xs hg
      split at p
      · rename_i c
        rw [Bool.and_eq_true, Bool.and_eq_true] at c
        obtain ⟨⟨c1, c2⟩, c3⟩ := c
        obtain ⟨a, ys, rfl, _, h1, r1⟩ := hr.lst hg ra
        cases rb
        exact op_rep pins s σ H _ _ v u Q I rx ry ⟨_, _, _, rfl, rfl, h1, of_decide_eq_true c1, of_decide_eq_true c2, by rw [← r1.length]; exact of_decide_eq_true c3, fun q hq => lst_new hr (r1.rep _) p hq⟩
      · exact p.elim
    · exact p.elim
  · rename_i xs k
    split at p
    · rename_i c
      rw [Bool.and_eq_true, Bool.and_eq_true, Bool.and_eq_true] at c
      obtain ⟨⟨⟨c1, c2⟩, c3⟩, c4⟩ := c
      cases ra with
      | tup h r =>
        cases rb
        exact op_repT pins s σ H _ _ v u Q I rx ry ⟨_, _, _, rfl, rfl, h, fun e => (of_decide_eq_true c1) (r.nil_iff.mp e), of_decide_eq_true c2, of_decide_eq_true c3, by rw [← r.length]; exact of_decide_eq_true c4, fun q hq => tup_new hr (r.rep _) p hq⟩
    · split at p <;> exact p.elim
  · exact p.elim
/-! ### subscripts -/
def aIx : AO2 := fun a b h => match a, b with
  | .tup xs, .int i => (match atI xs i with
    | some v => .ok v h
    | none => .stuck)
  | .str z, .int i => (match atI z.cps.toList i with
    | some c => if z.length ≤ sizeLine then .ok (.str ⟨#[c]⟩) h else .stuck
    | none => .stuck)
  | .ref n, b => (match h.get n with
    | some (.lst xs) => (match b with
      | .int i => (match atI xs i with
        | some v => .ok v h
        | none => .stuck)
      | _ => .stuck)
    | some (.dct kvs) => (match toKey b with
      | some k => (match valA kvs k with
        | some v => .ok v h
        | none => .stuck)
      | none => .stuck)
    | _ => .stuck)
  | .scr, .int i => (match atI h.scr i with
    | some k => .ok (.int k) h
    | none => .stuck)
  | _, _ => .stuck
theorem atI_rl {W μ H xs ys i v} (r : Rls W μ H xs ys) (e : atI xs i = some v) : ∃ y, atI ys i = some y ∧ Rl W μ H v y := by
  unfold atI at e ⊢
  rw [r.length] at e
  cases q : ixN ys.length i with
  | none => rw [q] at e; cases e
  | some j =>
    rw [q] at e
    exact r.get e
theorem atI_map {α β : Type} (f : α → β) {xs : List α} {i v} (e : atI xs i = some v) : atI (xs.map f) i = some (f v) := by
  unfold atI at e ⊢
  rw [List.length_map]
  cases q : ixN xs.length i with
  | none => rw [q] at e; cases e
  | some j =>
    rw [q] at e
    show (xs.map f)[j]? = _
    rw [List.getElem?_map, show xs[j]? = some v from e]
    rfl
theorem ix_aIx (hu : X.A.units + 1 < cLine) : IxR X (R2of (Cx.wd X a0) aIx) := by
  intro value slice pins s σ H x y v u Q I rx ry ⟨μ, a, b, ah, hr, ra, rb, p⟩ hs
  unfold aIx at p
  split at p
  · split at p
    · rename_i w e
      cases ra with
      | tup h r =>
        cases rb
        obtain ⟨z, e', rz⟩ := atI_rl r e
        exact ix_tup value slice pins s σ H _ _ v u Q I rx ry ⟨_, _, _, z, rfl, rfl, h, e', p.ret hr rz⟩ hs
    · exact p.elim
  · split at p
    · rename_i c e
      split at p
      · rename_i hl
        cases ra; cases rb
        exact ix_str value slice pins s σ H _ _ v u Q I rx ry ⟨_, _, c, rfl, rfl, hl, e, p.ret hr .str⟩ hs
      · exact p.elim
    · exact p.elim
  · split at p
    · rename_i xs hg
      split at p
      · split at p
        · rename_i w e
          obtain ⟨a, ys, rfl, _, h1, r1⟩ := hr.lst hg ra
          cases rb
          obtain ⟨z, e', rz⟩ := atI_rl r1 e
          exact ix_list value slice pins s σ H _ _ v u Q I rx ry ⟨_, _, _, z, rfl, rfl, .of h1, e', p.ret hr rz⟩ hs
        · exact p.elim
      · exact p.elim
    · rename_i kvs hg
      split at p
      · rename_i k q1
        split at p
        · rename_i w e
          obtain ⟨a, xs, rfl, _, h1, r1⟩ := hr.dct hg ra
          have ex := toKey_ok rb q1
          subst ex
          cases rx
          rcases r1.val (k := k) with ⟨z1, _⟩ | ⟨v', z, z1, z2, rz⟩
          · rw [z1] at e; cases e
          · rw [z1] at e; cases e
            have g : DGet H a (kV k) (some z) := z2 ▸ DGet.k h1
            exact PyProof.Rows.tail_any (dict_typeIs I g) PySem.F.slot_dict_getitem.lookup (d_getItem hu I g ry fun w' s3 I3 rw' => ⟨z, H, I3, rw', p.ret hr rz⟩) hs
        · exact p.elim
      · exact p.elim
    · exact p.elim
  · split at p
    · rename_i k e
      cases ra; cases rb
      exact ix_list value slice pins s σ H _ _ v u Q I rx ry ⟨_, _, _, _, rfl, rfl, hr.scr.sq, atI_map V.int e, p.ret hr .int⟩ hs
    · exact p.elim
  · exact p.elim
theorem me_ix {a b : Expr} {pos : Pos} {f f' : AE} (hu : X.A.units + 1 < cLine) (ha : ME X a0 a f) (hb : ME X a0 b f') (hs : PlainIx b) : ME X a0 (.Subscript a b pos) (aBin f f' aIx) :=
  PE.imp (pe_ix (ix_aIx hu) ha hb hs) fun _ _ _ h => tOp_of h
end
end WC
/-! W5: built-in functions and types called with plain values -/
namespace WC
open PySem L2
abbrev AC := List AV → AH → Ex AV
def CRof (W : Wd) (g : AC) : List V → Hp → VK → Prop := fun xs H Q => ∃ μ as ah, HR W μ ah H ∧ Rls W μ H as xs ∧ Post W μ H (g as ah) Q
section
variable {X : Cx} {a0 : Addr}
theorem cr_imp {f : Value} {r r' : List V → Hp → VK → Prop} (h : CallR X f r) (hi : ∀ xs H Q, r' xs H Q → r xs H Q) : CallR X f r' := fun pins s σ H xs us Q I rv q => h pins s σ H xs us Q I rv (hi xs H Q q)
/-! ### len -/
def bLen : AC := fun as h => match as with
  | [.str x] => if x.length ≤ sizeLine then .ok (.int x.length) h else .stuck
  | [.tup xs] => .ok (.int xs.length) h
  | [.scr] => .ok (.int h.scr.length) h
  | [.ref n] => (match h.get n with
    | some (.lst xs) => .ok (.int xs.length) h
    | some (.dct kvs) => .ok (.int kvs.length) h
    | _ => .stuck)
  | _ => .stuck
theorem Rks.length {W μ H} {κ : Type} : ∀ {xs : List (κ × AV)} {ys}, Rks W μ H xs ys → xs.length = ys.length
  | _, _, .nil => rfl
  | _, _, .cons _ t => by simp [Rks.length t]
theorem cb_len : CallR X (.builtin "len") (CRof (Cx.wd X a0) bLen) := by
  intro pins s σ H xs us Q I rv ⟨μ, as, ah, hr, r, p⟩
  unfold bLen at p
  split at p
  · split at p
    · rename_i hl
      cases r with
      | cons r t =>
        cases r; cases t
        exact call_len pins s σ H _ us Q I rv ⟨_, _, rfl, ⟨hl, rfl⟩, p.ret hr .int⟩
    · exact p.elim
  · cases r with
    | cons r t =>
      cases t
      cases r with
      | tup h r =>
        rw [r.length] at p
        exact call_len pins s σ H _ us Q I rv ⟨_, _, rfl, .inr ⟨_, h, rfl⟩, p.ret hr .int⟩
  · cases r with
    | cons r t =>
      cases r; cases t
      refine call_len pins s σ H _ us Q I rv ⟨_, ah.scr.length, rfl, .inl ⟨_, hr.scr.sq, by simp⟩, p.ret hr .int⟩
  · split at p
    · rename_i ys hg
      cases r with
      | cons r t =>
        cases t
        obtain ⟨a, zs, rfl, _, h1, r1⟩ := hr.lst hg r
        rw [r1.length] at p
        exact call_len pins s σ H _ us Q I rv ⟨_, _, rfl, .inl ⟨_, .of h1, rfl⟩, p.ret hr .int⟩
    · rename_i kvs hg
      cases r with
      | cons r t =>
        cases t
        obtain ⟨a, zs, rfl, _, h1, r1⟩ := hr.dct hg r
        rw [r1.length] at p
        obtain ⟨u, rfl, ru⟩ := vals1 rv
        cases ru
        exact d_len I (.inl h1) fun t s' I' => ⟨.int _, H, I', ⟨t, rfl⟩, p.ret hr .int⟩
    · exact p.elim
  · exact p.elim
/-! ### all, any -/
def toBs : List AV → Option (List Bool)
  | [] => some []
  | .bl b :: r => (match toBs r with
    | some bs => some (b :: bs)
    | none => none)
  | _ :: _ => none
theorem toBs_ok {W μ H} : ∀ {vs xs bs}, Rls W μ H vs xs → toBs vs = some bs → xs = bs.map V.bl
  | _, _, _, .nil, e => by simp [toBs] at e; subst e; rfl
  | v :: vs, _, _, .cons r t, e => by
    cases v with
    | bl b =>
      simp only [toBs] at e
      split at e
      · rename_i bs q
        cases e
        cases r
        rw [toBs_ok t q]; rfl
      · cases e
    | _ => simp [toBs] at e
def bFold (g : List Bool → Bool) : AC := fun as h => match as with
  | [.ref n] => (match h.get n with
    | some (.lst xs) => (match toBs xs with
      | some bs => .ok (.bl (g bs)) h
      | none => .stuck)
    | _ => .stuck)
  | _ => .stuck
def bAll : AC := bFold fun bs => bs.all id
def bAny : AC := bFold fun bs => bs.any id
theorem bFold_ok {g : List Bool → Bool} {μ as ah H xs} {Q : VK} (hr : HR (Cx.wd X a0) μ ah H) (r : Rls (Cx.wd X a0) μ H as xs) (p : Post (Cx.wd X a0) μ H (bFold g as ah) Q) :
    ∃ (a : Addr) (bs : List Bool), xs = [V.ref a] ∧ SqL X.K H a (bs.map V.bl) ∧ Q (.bl (g bs)) H := by
  unfold bFold at p
  split at p
  · split at p
    · rename_i ys hg
      split at p
      · rename_i bs q
        cases r with
        | cons r t =>
          cases t
          obtain ⟨a, zs, rfl, _, h1, r1⟩ := hr.lst hg r
          have e := toBs_ok r1 q
          subst e
          exact ⟨a, bs, rfl, .of h1, p.ret hr .bl⟩
      · exact p.elim
    · exact p.elim
  · exact p.elim
theorem cb_all (hc : X.calm = true) : CallR X (.builtin "all") (CRof (Cx.wd X a0) bAll) := cr_imp (cr_all hc) fun xs H Q ⟨μ, as, ah, hr, r, p⟩ => bFold_ok hr r p
theorem cb_any (hc : X.calm = true) : CallR X (.builtin "any") (CRof (Cx.wd X a0) bAny) := cr_imp (cr_any hc) fun xs H Q ⟨μ, as, ah, hr, r, p⟩ => bFold_ok hr r p
/-! ### max, min, abs, int -/
def bMax : AC := fun as h => match as with
  | [.int i, .int j] => .ok (.int (if j > i then j else i)) h
  | _ => .stuck
def bMin : AC := fun as h => match as with
  | [.int i, .int j] => .ok (.int (if j < i then j else i)) h
  | _ => .stuck
def bAbs : AC := fun as h => match as with
  | [.int i] => .ok (.int (if i < 0 then -i else i)) h
  | _ => .stuck
def bInt : AC := fun as h => match as with
  | [.int i] => .ok (.int i) h
  | [.bl k] => .ok (.int (if k then 1 else 0)) h
  | _ => .stuck
theorem cb_max (hc : X.calm = true) : CallR X (.builtin "max") (CRof (Cx.wd X a0) bMax) := cr_imp (call_max2 hc) fun xs H Q ⟨μ, as, ah, hr, r, p⟩ => by
  unfold bMax at p
  split at p
  · cases r with
    | cons r t =>
      cases t with
      | cons r' t =>
        cases r; cases r'; cases t
        exact ⟨_, _, rfl, p.ret hr .int⟩
  · exact p.elim
theorem cb_min (hc : X.calm = true) : CallR X (.builtin "min") (CRof (Cx.wd X a0) bMin) := cr_imp (call_min2 hc) fun xs H Q ⟨μ, as, ah, hr, r, p⟩ => by
  unfold bMin at p
  split at p
  · cases r with
    | cons r t =>
      cases t with
      | cons r' t =>
        cases r; cases r'; cases t
        exact ⟨_, _, rfl, p.ret hr .int⟩
  · exact p.elim
theorem cb_abs : CallR X (.builtin "abs") (CRof (Cx.wd X a0) bAbs) := cr_imp call_abs fun xs H Q ⟨μ, as, ah, hr, r, p⟩ => by
  unfold bAbs at p
  split at p
  · cases r with
    | cons r t =>
      cases r; cases t
      exact ⟨_, rfl, p.ret hr .int⟩
  · exact p.elim
theorem cb_int : CallR X (.type "int") (CRof (Cx.wd X a0) bInt) := cr_imp call_int1 fun xs H Q ⟨μ, as, ah, hr, r, p⟩ => by
  unfold bInt at p
  split at p
  · cases r with
    | cons r t =>
      cases r; cases t
      exact .inl ⟨_, rfl, p.ret hr .int⟩
  · cases r with
    | cons r t =>
      cases r; cases t
      exact .inr ⟨_, rfl, p.ret hr .int⟩
  · exact p.elim
/-! ### list, tuple, dict of something -/
def bList : AC := fun as h => match as with
  | [.tup xs] => .ok (.ref h.n) (h.push (.lst xs))
  | [.scr] => .ok (.ref h.n) (h.push (.lst (h.scr.map AV.int)))
  | [.ref n] => (match h.get n with
    | some (.lst xs) => .ok (.ref h.n) (h.push (.lst xs))
    | _ => .stuck)
  | _ => .stuck
theorem cb_list : CallR X (.type "list") (CRof (Cx.wd X a0) bList) := cr_imp call_list_of fun xs H Q ⟨μ, as, ah, hr, r, p⟩ => by
  unfold bList at p
  split at p
  · cases r with
    | cons r t =>
      cases t
      cases r with
      | tup h r => exact ⟨_, _, rfl, .inr h, fun l hl => lst_new hr r p hl⟩
  · cases r with
    | cons r t =>
      cases r; cases t
      exact ⟨_, _, rfl, .inl hr.scr.sq, fun l hl => lst_new hr (Rls.ints _) p hl⟩
  · split at p
    · rename_i ys hg
      cases r with
      | cons r t =>
        cases t
        obtain ⟨a, zs, rfl, _, h1, r1⟩ := hr.lst hg r
        exact ⟨_, _, rfl, .inl (.of h1), fun l hl => lst_new hr r1 p hl⟩
    · exact p.elim
  · exact p.elim
def bTuple : AC := fun as h => match as with
  | [.tup xs] => .ok (.tup xs) h
  | [.ref n] => (match h.get n with
    | some (.lst xs) => .ok (.tup xs) h
    | _ => .stuck)
  | _ => .stuck
theorem cb_tuple : CallR X (.type "tuple") (CRof (Cx.wd X a0) bTuple) := cr_imp call_tuple_of fun xs H Q ⟨μ, as, ah, hr, r, p⟩ => by
  unfold bTuple at p
  split at p
  · cases r with
    | cons r t =>
      cases t
      cases r with
      | tup h r => exact ⟨_, _, rfl, .inr ⟨h, p.ret hr (.tup h r)⟩⟩
  · split at p
    · rename_i ys hg
      cases r with
      | cons r t =>
        cases t
        obtain ⟨a, zs, rfl, _, h1, r1⟩ := hr.lst hg r
        exact ⟨_, _, rfl, .inl ⟨.of h1, fun l hl => tup_new hr r1 p hl⟩⟩
    · exact p.elim
  · exact p.elim
def bDict : AC := fun as h => match as with
  | [.ref n] => (match h.get n with
    | some (.dct xs) => .ok (.ref h.n) (h.push (.dct xs))
    | _ => .stuck)
  | _ => .stuck
theorem dct_new {W μ H} {as : List (Key × AV)} {xs : List (Key × V)} {ah : AH} {Q : VK} {p : Addr} (hr : HR W μ ah H) (r : Rks W μ H as xs) (q : Post W μ H (.ok (.ref ah.n) (ah.push (.dct as))) Q) (hp : H p = none) : Q (.ref p) (upd H p (.dK xs)) := by
  have e : Ext W μ H (μ ++ [p]) (upd H p (.dK xs)) := Ext.upd_new hp
  refine q (μ ++ [p]) _ _ e (hr.push hp ⟨xs, upd_same, r.ext e⟩) (.ref ?_)
  rw [hr.sz]; simp
theorem cb_dict : CallR X (.type "dict") (CRof (Cx.wd X a0) bDict) := cr_imp call_dictD fun xs H Q ⟨μ, as, ah, hr, r, p⟩ => by
  unfold bDict at p
  split at p
  · split at p
    · rename_i ys hg
      cases r with
      | cons r t =>
        cases t
        obtain ⟨a, zs, rfl, _, h1, r1⟩ := hr.dct hg r
        exact ⟨_, _, rfl, .inl h1, fun l hl => dct_new hr r1 p hl⟩
    · exact p.elim
  · exact p.elim
/-! ### isinstance against a built-in class -/
def tyName (h : AH) : AV → Option String
  | .non => some "NoneType"
  | .bl _ => some "bool"
  | .int _ => some "int"
  | .str _ => some "str"
  | .ref n => (match h.get n with
    | some (.lst _) => some "list"
    | some (.dct _) => some "dict"
    | _ => none)
  | _ => none
def bIsi : AC := fun as h => match as with
  | [.tup _, .ty n] => (match kitB "tuple" n with
    | some b => .ok (.bl b) h
    | none => .stuck)
  | [v, .ty n] => (match tyName h v with
    | some t => (match kitB t n with
      | some b => .ok (.bl b) h
      | none => .stuck)
    | none => .stuck)
  | _ => .stuck
theorem tyName_ok {W μ ah H v x t} (hr : HR W μ ah H) (r : Rl W μ H v x) (e : tyName ah v = some t) : TyOf W.K H x (.type t) := by
  unfold tyName at e
  split at e <;> first | (cases e; cases r; exact .non) | (cases e; cases r; exact .bl _) | (cases e; cases r; exact .int _) | (cases e; cases r; exact .str _) | skip
  · split at e
    · rename_i hg
      cases e
      obtain ⟨a, zs, rfl, _, h1, r1⟩ := hr.lst hg r
      exact .lst h1
    · rename_i hg
      cases e
      obtain ⟨a, zs, rfl, _, h1, r1⟩ := hr.dct hg r
      exact .dK h1
    · cases e
  · cases e
theorem tup_ty {W : Wd} {H a ys} (h : SqT W.K H a ys) : TyX W.K H (.ref a) (.type "tuple") := by
  rcases h with (h | ⟨o, h⟩) | ⟨o, its, n, h, hc, _⟩
  · exact .base (.tup h)
  · exact .fTuple h
  · exact .kTuple h hc
theorem cb_isi : CallR X (.builtin "isinstance") (CRof (Cx.wd X a0) bIsi) := cr_imp call_isi fun xs H Q ⟨μ, as, ah, hr, r, p⟩ => by
  unfold bIsi at p
  split at p
  · split at p
    · rename_i b q
      cases r with
      | cons r t =>
        cases t with
        | cons r' t =>
          cases r'; cases t
          cases r with
          | tup h r => exact ⟨_, _, _, _, b, rfl, .ty _, tup_ty (W := Cx.wd X a0) h, kit_ty q, p.ret hr .bl⟩
    · exact p.elim
  · split at p
    · rename_i t q1
      split at p
      · rename_i b q
        cases r with
        | cons r t =>
          cases t with
          | cons r' t =>
            cases r'; cases t
            exact ⟨_, _, _, _, b, rfl, .ty _, .base (tyName_ok hr r q1), kit_ty q, p.ret hr .bl⟩
      · exact p.elim
    · exact p.elim
  · exact p.elim
/-! ### their calls by name -/
variable {e : Expr} {es : List Expr} {x : Str} {p pos : Pos} {id T : String} {g : AC} {f : AL}
theorem tCB_of {W : Wd} {σ H Q} (h : TEv W (fun s h => (f s h).bind g) σ H Q) : tCB (CRof W g) (TAv W f) σ H Q := by
  obtain ⟨μ, s, ah, hs, hr, p⟩ := h
  exact ⟨μ, s, ah, hs, hr, (PostG.bind p).mono fun xs H1 ⟨μ1, as, h1, e1, hr1, r1, p1⟩ => ⟨μ1, as, h1, hr1, r1, p1⟩⟩
theorem me_callB (hc : CallR X (.builtin id) (CRof (Cx.wd X a0) g)) (hg : Gl X x) (hm : X.mg x = none) (hv : bootBuiltins x = some (.builtin id)) (ha : MA X a0 (e :: es) f) (hn : x ≠ "__name__") (hdb : (x == ("__debug__" : Str)) = false)
    (he : starEach (e :: es) X.env = (false, eval e X.env) :: starEach es X.env) (hpl : (backTo pos (starEach es X.env)).any (·.1) = false) : ME X a0 (.Call (.Name x p) (e :: es) [] pos) (fun s h => (f s h).bind g) :=
  PE.imp (pe_callB hc hg hm hv ha hn hdb he hpl) fun _ _ _ h => tCB_of h
theorem me_callTy (hc : CallR X (.type T) (CRof (Cx.wd X a0) g)) (hg : Gl X x) (hm : X.mg x = none) (hv : bootBuiltins x = some (.type T)) (ha : MA X a0 (e :: es) f) (hn : x ≠ "__name__") (hdb : (x == ("__debug__" : Str)) = false)
    (he : starEach (e :: es) X.env = (false, eval e X.env) :: starEach es X.env) (hpl : (backTo pos (starEach es X.env)).any (·.1) = false) : ME X a0 (.Call (.Name x p) (e :: es) [] pos) (fun s h => (f s h).bind g) :=
  PE.imp (pe_callTy hc hg hm hv ha hn hdb he hpl) fun _ _ _ h => tCB_of h
end
end WC
/-! W6: what the text's forms say; attributes; methods of built-in objects; calls of own defs, methods, classes -/
namespace WC
open PySem L2
/-! ### forms of the text -/
def noStar : Expr → Bool
  | .Starred _ _ => false
  | _ => true
theorem star_cons {e : Expr} {es : List Expr} {env : Env} (h : noStar e = true) : starEach (e :: es) env = (false, eval e env) :: starEach es env := by
  cases e <;> first | rfl | (cases h)
theorem star_none {pos : Pos} {env : Env} : ∀ {es : List Expr}, es.all noStar = true → (backTo pos (starEach es env)).any (·.1) = false
  | [], _ => rfl
  | e :: es, h => by
    rw [List.all_cons, Bool.and_eq_true] at h
    rw [star_cons h.1]
    show (false || (backTo pos (starEach es env)).any (·.1)) = false
    rw [star_none h.2]; rfl
theorem star_all {pos : Pos} {env : Env} : ∀ {es : List Expr}, es.all noStar = true → (backTo pos (starEach es env)).all (fun x => !x.1) = true
  | [], _ => rfl
  | e :: es, h => by
    rw [List.all_cons, Bool.and_eq_true] at h
    rw [star_cons h.1]
    show (!false && (backTo pos (starEach es env)).all (fun x => !x.1)) = true
    rw [star_all h.2]; rfl
def kwNames : List Keyword → Option (List Str)
  | [] => some []
  | ⟨some n, _, _⟩ :: r => (match kwNames r with
    | some ns => some (n :: ns)
    | none => none)
  | ⟨none, _, _⟩ :: _ => none
theorem kw_ok {pos : Pos} {env : Env} : ∀ {kws : List Keyword} {ks}, kwNames kws = some ks →
    (backToKw pos (keywordEach kws env)).all (·.1.isSome) = true ∧ (backToKw pos (keywordEach kws env)).filterMap (·.1) = ks ∧ (backToKw pos (keywordEach kws env)).any (·.1.isNone) = false
  | [], _, h => by cases h; exact ⟨rfl, rfl, rfl⟩
  | ⟨none, _, _⟩ :: _, _, h => by cases h
  | ⟨some n, e, p⟩ :: r, _, h => by
    unfold kwNames at h
    split at h
    · rename_i ns q
      cases h
      obtain ⟨h1, h2, h3⟩ := kw_ok (pos := pos) (env := env) q
      refine ⟨?_, ?_, ?_⟩
      · show (true && (backToKw pos (keywordEach r env)).all (·.1.isSome)) = true
        rw [h1]; rfl
      · show n :: (backToKw pos (keywordEach r env)).filterMap (·.1) = n :: ns
        rw [h2]
      · show (false || (backToKw pos (keywordEach r env)).any (·.1.isNone)) = false
        rw [h3]; rfl
    · cases h
def notSuper : Expr → Bool
  | .Call (.Name id _) [] [] _ => id != "super"
  | _ => true
theorem attrBase_ok {o : Expr} {m : Str} {env : Env} {t : Sem Value} (h : notSuper o = true) : attributeBase o m env t = t := by
  unfold attributeBase
  split
  · rename_i id p1 p2
    have h' : (id != "super") = true := h
    rw [h']
    simp only [Bool.true_or, if_true]
    try rfl
  · rfl
/-- a method's call on one line -/
def lineOk (apos pos : Pos) : Bool := apos.endLine == pos.line
def fewOk (args : List Expr) (kws : List Keyword) : Bool := decide (args.length + kws.length + (if kws.isEmpty then 0 else 1) < 30)
theorem kwBack_empty {pos : Pos} {env : Env} {kws : List Keyword} : (backToKw pos (keywordEach kws env)).isEmpty = kws.isEmpty := by
  cases kws with
  | nil => rfl
  | cons k r => obtain ⟨_, _, _⟩ := k; rfl
theorem meth_form {o : Expr} {m : Str} {apos pos : Pos} {env : Env} {args : List Expr} {kws : List Keyword} {ks} (h1 : notSuper o = true) (h2 : args.all noStar = true) (h3 : kwNames kws = some ks) (h4 : fewOk args kws = true) (h5 : lineOk apos pos = true) :
    eval (.Call (.Attribute o m apos) args kws pos) env = (do
      let ov ← eval o env
      standAt apos.atName
      let (f, first) ← holding [ov] (getMethod ov m (plainOf o env))
      callWith pos f first (backTo pos (starEach args env)) (backToKw pos (keywordEach kws env))) := by
  have hf : methodCallForm (args.length + kws.length) (backTo pos (starEach args env)) (backToKw pos (keywordEach kws env)) = true := by
    unfold methodCallForm
    rw [star_all h2, (kw_ok h3).1, kwBack_empty]
    exact h4
  have e1 : eval (.Call (.Attribute o m apos) args kws pos) env = (do
    let ov ← attributeBase o m env (eval o env)
    standAt apos.atName
    methodCall o m apos pos env ov (args.length + kws.length) (backTo pos (starEach args env)) (backToKw pos (keywordEach kws env))) := by
    first | rfl | (unfold eval; rfl)
  rw [e1, attrBase_ok h1]
  refine congrArg _ (funext fun ov => congrArg _ (funext fun _ => ?_))
  exact mcall_line hf h5
def notSlice : Expr → Bool
  | .Slice .. => false
  | _ => true
theorem plainIx_ok {b : Expr} (h : notSlice b = true) : PlainIx b := by
  intro o i
  cases b <;> first | rfl | (cases h)
def notComp : Expr → Bool
  | .ListComp .. => false
  | .SetComp .. => false
  | .DictComp .. => false
  | _ => true
theorem noSwap {e : Expr} {t : Option Expr} {l : Nat} {env : Env} (h : notComp e = true) : swapsWith e t l env = pure false := by
  cases e <;> first | rfl | (cases h)
def plainTest : Expr → Bool
  | .UnaryOp .Not _ _ => false
  | .BoolOp .. => false
  | .IfExp .. => false
  | .Compare .. => false
  | _ => true
theorem plainTest_ok {e : Expr} {env : Env} (h : plainTest e = true) (whole : Sem Value) : isTrue e env whole = (do let v ← whole; standAt e.pos; holding [v] (truthy v)) := by
  cases e <;> first | rfl | (cases h; done) | skip
  rename_i op x p
  cases op <;> first | rfl | (cases h)
def notSet : Expr → Bool
  | .Set .. => false
  | _ => true
theorem noFold {e : Expr} {env : Env} (h : notSet e = true) (x : Value) : foldedSetIterable e env x = pure x := by
  cases e <;> first | rfl | (cases h)

section
variable {X : Cx} {a0 : Addr} {e o : Expr} {es : List Expr} {pos apos cpos : Pos}
/-! ### fields -/
def aFld (name : Str) (no : Str → Str → Bool) : AV → AH → Ex AV := fun v h => match v with
  | .ref n => (match h.get n with
    | some (.ins C fs) => if no C name = true then (match fs.lookup name with
      | some v => .ok v h
      | none => .stuck) else .stuck
    | _ => .stuck)
  | _ => .stuck
theorem Rks.lookup {W μ H} {k : Str} : ∀ {xs ys}, Rks W μ H xs ys → (xs.lookup k = none ∧ ys.lookup k = none) ∨ ∃ v x, xs.lookup k = some v ∧ ys.lookup k = some x ∧ Rl W μ H v x
  | _, _, .nil => .inl ⟨rfl, rfl⟩
  | _, _, .cons (k := k') (x := x) (y := y) r t => by
    cases h : k == k' with
    | true =>
      right
      exact ⟨x, y, by simp [List.lookup, h], by simp [List.lookup, h], r⟩
    | false =>
      rcases Rks.lookup (k := k) t with ⟨h1, h2⟩ | ⟨v, z, h1, h2, h3⟩
      · left
        simp [List.lookup, h, h1, h2]
      · right
        exact ⟨v, z, by simp [List.lookup, h, h1], by simp [List.lookup, h, h2], h3⟩
/-- what the written part says of an own class -/
def ClsFld (K : PySem.W.Frag) (no : Str → Str → Bool) : Prop := ∀ C f, no C f = true → Cls K (He.ga K C) ∧ NoAttr K (He.ga K C) f
theorem me_fld {no : Str → Str → Bool} {f : AE} {name : Str} (hk : ClsFld X.K no) (ha : ME X a0 e f) (hs : notSuper e = true) : ME X a0 (.Attribute e name pos) (fun s h => (f s h).bind (aFld name no)) :=
  PE.imp (pe_fld ha (attrBase_ok hs)) fun σ H Q ⟨μ, s, ah, hs, hr, p⟩ => ⟨μ, s, ah, hs, hr, (PostG.bind p).mono fun x H1 ⟨μ1, v, h1, e1, hr1, r1, p1⟩ => by
    unfold aFld at p1
    split at p1
    · split at p1
      · rename_i C fs hg
        split at p1
        · rename_i hno
          split at p1
          · rename_i w hl
            obtain ⟨a, dx, ys, rfl, _, h2, r2⟩ := hr1.ins hg r1
            rcases r2.lookup (k := name) with ⟨z1, _⟩ | ⟨v', z, z1, z2, rz⟩
            · rw [z1] at hl; cases hl
            · rw [z1] at hl; cases hl
              exact ⟨a, _, dx, ys, z, rfl, h2, (hk C name hno).1, (hk C name hno).2, z2, p1.ret hr1 rz⟩
          · exact p1.elim
        · exact p1.elim
      · exact p1.elim
    · exact p1.elim⟩
/-- o.f = v -/
def aPutF (name : Str) (v : AV) : List (Str × AV) → List (Str × AV)
  | [] => [(name, v)]
  | (g, x) :: r => if g = name then (g, v) :: r else (g, x) :: aPutF name v r
theorem Rks.putF {W μ H} {name : Str} {v x} (r : Rl W μ H v x) : ∀ {xs ys}, Rks W μ H xs ys → Rks W μ H (aPutF name v xs) (putF name x ys)
  | _, _, .nil => .cons r .nil
  | _, _, .cons (k := k') q t => by
    unfold aPutF L2.putF
    by_cases h : k' = name
    · rw [if_pos h, if_pos h]; exact .cons r t
    · rw [if_neg h, if_neg h]; exact .cons q (Rks.putF r t)
def aSetF (name : Str) (no : Str → Str → Bool) (w v : AV) (h : AH) : Ex AV := match v with
  | .ref n => (match h.get n with
    | some (.ins C fs) => if no C name = true then (if fs.length < 1000 then .ok .non (h.set n (.ins C (aPutF name w fs))) else .stuck) else .stuck
    | _ => .stuck)
  | _ => .stuck
theorem aSetF_ok {no : Str → Str → Bool} {name : Str} {K : PySem.W.Frag} (hk : ClsFld K no) {μ H ah w v y x} {Q : Unit → Hp → Prop} {D : AH → Ex Fl} {En : Ends} (hr : HR ⟨K, a0⟩ μ ah H) (rw' : Rl ⟨K, a0⟩ μ H w y) (rv : Rl ⟨K, a0⟩ μ H v x)
    (p : PostS ⟨K, a0⟩ μ H ((aSetF name no w v ah).bind fun _ h => D h) En) : ∃ a C dx fs, x = .ref a ∧ H a = some (.ins C dx fs) ∧ Cls K C ∧ NoAttr K C name ∧ fs.length < 1000 ∧
      ∃ h', Ext ⟨K, a0⟩ μ H μ (upd H a (.ins C dx (putF name y fs))) ∧ HR ⟨K, a0⟩ μ h' (upd H a (.ins C dx (putF name y fs))) ∧ PostS ⟨K, a0⟩ μ (upd H a (.ins C dx (putF name y fs))) (D h') En := by
  unfold aSetF at p
  split at p
  · split at p
    · rename_i n C fs hg
      split at p
      · rename_i hno
        split at p
        · rename_i hl
          obtain ⟨a, dx, ys, rfl, hn, h2, r2⟩ := hr.ins hg rv
          have o0 : OR ⟨K, a0⟩ μ H (.ins C fs) a := ⟨dx, ys, h2, r2⟩
          have e : Ext ⟨K, a0⟩ μ H μ (upd H a (.ins (He.ga K C) dx (putF name y ys))) := Ext.upd_mut o0
          exact ⟨a, _, dx, ys, rfl, h2, (hk C name hno).1, (hk C name hno).2, r2.length ▸ hl, _, e, hr.set (ao := .ins C (aPutF name w fs)) hg hn ⟨dx, _, upd_same, (r2.putF rw').ext e⟩, PostS.ext (r := D _) p e⟩
        · exact p.elim
      · exact p.elim
    · exact p.elim
  · exact p.elim
/-! ### methods of built-in objects -/
abbrev AM := AV → List AV → AH → Ex AV
def MRof (W : Wd) (g : AM) : V → List V → Hp → VK → Prop := fun x xs H Q => ∃ μ v as ah, HR W μ ah H ∧ Rl W μ H v x ∧ Rls W μ H as xs ∧ Post W μ H (g v as ah) Q
def isStr : AV → AH → Bool := fun v _ => match v with
  | .str _ => true
  | _ => false
def isLst : AV → AH → Bool := fun v h => match v with
  | .ref n => (match h.get n with
    | some (.lst _) => true
    | _ => false)
  | _ => false
def isDct : AV → AH → Bool := fun v h => match v with
  | .ref n => (match h.get n with
    | some (.dct _) => true
    | _ => false)
  | _ => false
def TyIs (W : Wd) (T : String) (t : AV → AH → Bool) : Prop := ∀ μ ah H v x, HR W μ ah H → Rl W μ H v x → t v ah = true → tyV W.K T x H
theorem tyIs_str {W : Wd} : TyIs W "str" isStr := by
  intro μ ah H v x hr r h
  unfold isStr at h
  split at h
  · cases r; rfl
  · cases h
theorem tyIs_lst {W : Wd} : TyIs W "list" isLst := by
  intro μ ah H v x hr r h
  unfold isLst at h
  split at h
  · split at h
    · rename_i hg
      obtain ⟨a, ys, rfl, _, h1, _⟩ := hr.lst hg r
      exact .inl ⟨rfl, _, .of h1⟩
    · cases h
  · cases h
theorem tyIs_dct {W : Wd} : TyIs W "dict" isDct := by
  intro μ ah H v x hr r h
  unfold isDct at h
  split at h
  · split at h
    · rename_i hg
      obtain ⟨a, ys, rfl, _, h1, _⟩ := hr.dct hg r
      exact .inr (.inr (.inl ⟨rfl, .inl ⟨_, h1⟩⟩))
    · cases h
  · cases h
def aBM (f : AE) (t : AV → AH → Bool) (g : AL) (m : AM) : AE := fun s h => (f s h).bind fun v h1 => if t v h1 = true then (g s h1).bind fun as h2 => m v as h2 else .stuck
theorem tBM_of {W : Wd} {T : String} {t : AV → AH → Bool} {f : AE} {g : AL} {m : AM} {σ H Q} (hT : TyIs W T t) (h : TEv W (aBM f t g m) σ H Q) : tBM W.K T (MRof W m) (TEv W f) (TAv W g) σ H Q := by
  obtain ⟨μ, s, ah, hs, hr, p⟩ := h
  refine ⟨μ, s, ah, hs, hr, (PostG.bind p).mono fun x H1 ⟨μ1, v, h1, e1, hr1, r1, p1⟩ => ?_⟩
  split at p1
  · rename_i ht
    refine ⟨hT _ _ _ _ _ hr1 r1 ht, μ1, s, h1, hs.ext e1, hr1, (PostG.bind p1).mono fun xs H2 ⟨μ2, as, h2, e2, hr2, r2, p2⟩ => ?_⟩
    exact ⟨μ2, v, as, h2, hr2, r1.ext e2, r2, p2⟩
  · exact p1.elim
theorem tBM0_of {W : Wd} {T : String} {t : AV → AH → Bool} {f : AE} {m : AM} {σ H Q} (hT : TyIs W T t) (h : TEv W (aBM f t (fun _ h => .ok [] h) m) σ H Q) : tBM0 W.K T (MRof W m) (TEv W f) σ H Q := by
  obtain ⟨μ, s, ah, hs, hr, p⟩ := h
  refine ⟨μ, s, ah, hs, hr, (PostG.bind p).mono fun x H1 ⟨μ1, v, h1, e1, hr1, r1, p1⟩ => ?_⟩
  split at p1
  · rename_i ht
    exact ⟨hT _ _ _ _ _ hr1 r1 ht, μ1, v, [], h1, hr1, r1, .nil, p1⟩
  · exact p1.elim
theorem me_bm {T id : String} {name : Str} {t : AV → AH → Bool} {f : AE} {g : AL} {m : AM} (pa : PlainAttrs T) (slot : Slot T name id) (hty : typeOf (.builtin id) = pure (.type "method_descriptor")) (hm : MtR X id (MRof (Cx.wd X a0) m)) (hT : TyIs (Cx.wd X a0) T t) (ho : ME X a0 o f) (ha : MA X a0 (e :: es) g)
    (h1 : notSuper o = true) (h2 : (e :: es).all noStar = true) (h4 : fewOk (e :: es) [] = true) (h5 : lineOk apos cpos = true) : ME X a0 (.Call (.Attribute o name apos) (e :: es) [] cpos) (aBM f t g m) := by
  have h2' := h2
  rw [List.all_cons, Bool.and_eq_true] at h2'
  exact PE.imp (pe_bm pa slot hty hm ho ha (attrBase_ok h1) (by rw [star_all h2]; exact h4) h5 (star_cons h2'.1) (star_none h2'.2)) fun _ _ _ h => tBM_of hT h
theorem me_bm0 {T id : String} {name : Str} {t : AV → AH → Bool} {f : AE} {m : AM} (pa : PlainAttrs T) (slot : Slot T name id) (hty : typeOf (.builtin id) = pure (.type "method_descriptor")) (hm : MtR X id (MRof (Cx.wd X a0) m)) (hT : TyIs (Cx.wd X a0) T t) (ho : ME X a0 o f)
    (h1 : notSuper o = true) (h5 : lineOk apos cpos = true) : ME X a0 (.Call (.Attribute o name apos) [] [] cpos) (aBM f t (fun _ h => .ok [] h) m) :=
  PE.imp (pe_bm0 pa slot hty hm ho (attrBase_ok h1) h5) fun _ _ _ h => tBM0_of hT h
/-! the methods -/
theorem mt_imp {id : String} {r r' : V → List V → Hp → VK → Prop} (h : MtR X id r) (hi : ∀ x xs H Q, r' x xs H Q → r x xs H Q) : MtR X id r' := fun pins s σ H x xs v us Q I rx rv q => h pins s σ H x xs v us Q I rx rv (hi x xs H Q q)
theorem setLst {W : Wd} {μ H ah n xs ys as ys'} {a : Addr} (hr : HR W μ ah H) (hg : ah.get n = some (.lst xs)) (hn : μ[n]? = some a) (h1 : H a = some (.lst ys)) (r1 : Rls W μ H xs ys) (r : Rls W μ H as ys') :
    Ext W μ H μ (upd H a (.lst ys')) ∧ HR W μ (ah.set n (.lst as)) (upd H a (.lst ys')) := by
  have o0 : OR W μ H (.lst xs) a := ⟨ys, h1, r1⟩
  have e : Ext W μ H μ (upd H a (.lst ys')) := Ext.upd_mut o0
  exact ⟨e, hr.set hg hn ⟨_, upd_same, r.ext e⟩⟩
theorem setDct {W : Wd} {μ H ah n xs ys as ys'} {a : Addr} (hr : HR W μ ah H) (hg : ah.get n = some (.dct xs)) (hn : μ[n]? = some a) (h1 : H a = some (.dK ys)) (r1 : Rks W μ H xs ys) (r : Rks W μ H as ys') :
    Ext W μ H μ (upd H a (.dK ys')) ∧ HR W μ (ah.set n (.dct as)) (upd H a (.dK ys')) := by
  have o0 : OR W μ H (.dct xs) a := ⟨ys, h1, r1⟩
  have e : Ext W μ H μ (upd H a (.dK ys')) := Ext.upd_mut o0
  exact ⟨e, hr.set hg hn ⟨_, upd_same, r.ext e⟩⟩
def mAppend : AM := fun v as h => match v, as with
  | .ref n, [w] => (match h.get n with
    | some (.lst xs) => if xs.length < sizeLine then .ok .non (h.set n (.lst (xs ++ [w]))) else .stuck
    | _ => .stuck)
  | _, _ => .stuck
theorem mt_aAppend : MtR X "list.append" (MRof (Cx.wd X a0) mAppend) := mt_imp mt_append fun x xs H Q ⟨μ, v, as, ah, hr, rv, ra, p⟩ => by
  unfold mAppend at p
  split at p
  · split at p
    · rename_i zs hg
      split at p
      · rename_i hl
        cases ra with
        | cons rw' t =>
          cases t
          obtain ⟨a, ys, rfl, hn, h1, r1⟩ := hr.lst hg rv
          obtain ⟨e, hr'⟩ := setLst (as := zs ++ [_]) hr hg hn h1 r1 (r1.append (.cons rw' .nil))
          exact ⟨a, ys, _, rfl, rfl, h1, r1.length ▸ hl, p _ _ _ e hr' .non⟩
      · exact p.elim
    · exact p.elim
  · exact p.elim
def mExtend : AM := fun v as h => match v, as with
  | .ref n, [.ref m] => (match h.get n, h.get m with
    | some (.lst xs), some (.lst ys) => if xs.length + ys.length ≤ sizeLine then .ok .non (h.set n (.lst (xs ++ ys))) else .stuck
    | _, _ => .stuck)
  | _, _ => .stuck
theorem mt_aExtend : MtR X "list.extend" (MRof (Cx.wd X a0) mExtend) := mt_imp mt_extend fun x xs H Q ⟨μ, v, as, ah, hr, rv, ra, p⟩ => by
  unfold mExtend at p
  split at p
  · split at p
    · rename_i g1 g2
      split at p
      · rename_i hl
        cases ra with
        | cons rw' t =>
          cases t
          obtain ⟨a, ys, rfl, hn, h1, r1⟩ := hr.lst g1 rv
          obtain ⟨b, zs, rfl, _, h2, r2⟩ := hr.lst g2 rw'
          obtain ⟨e, hr'⟩ := setLst hr g1 hn h1 r1 (r1.append r2)
          exact ⟨a, b, ys, zs, rfl, rfl, h1, h2, by rw [← r1.length, ← r2.length]; exact hl, p _ _ _ e hr' .non⟩
      · exact p.elim
    · exact p.elim
  · exact p.elim
def mPop0 : AM := fun v as h => match v, as with
  | .ref n, [] => (match h.get n with
    | some (.lst xs) => (match xs[xs.length - 1]? with
      | some w => .ok w (h.set n (.lst xs.dropLast))
      | none => .stuck)
    | _ => .stuck)
  | _, _ => .stuck
theorem Rls.dropLast {W μ H xs ys} (r : Rls W μ H xs ys) : Rls W μ H xs.dropLast ys.dropLast := by
  rw [List.dropLast_eq_take, List.dropLast_eq_take, r.length]
  exact r.take _
theorem mt_aPop0 : MtR X "list.pop" (MRof (Cx.wd X a0) mPop0) := mt_imp mt_pop fun x xs H Q ⟨μ, v, as, ah, hr, rv, ra, p⟩ => by
  unfold mPop0 at p
  split at p
  · split at p
    · rename_i zs hg
      split at p
      · rename_i w hw
        cases ra
        obtain ⟨a, ys, rfl, hn, h1, r1⟩ := hr.lst hg rv
        obtain ⟨y, hy, ry⟩ := r1.get hw
        obtain ⟨e, hr'⟩ := setLst hr hg hn h1 r1 r1.dropLast
        exact ⟨a, ys, y, rfl, rfl, h1, r1.length ▸ hy, p _ _ _ e hr' (ry.ext e)⟩
      · exact p.elim
    · exact p.elim
  · exact p.elim
def mPopAt : AM := fun v as h => match v, as with
  | .ref n, [.int i] => (match h.get n with
    | some (.lst xs) => if decide (-(2 ^ 63) ≤ i) && decide (i < 2 ^ 63) then (match seqIndex? i xs.length with
      | some k => (match xs[k]? with
        | some w => .ok w (h.set n (.lst (xs.eraseIdx k)))
        | none => .stuck)
      | none => .stuck) else .stuck
    | _ => .stuck)
  | _, _ => .stuck
theorem Rls.erase {W μ H} : ∀ {xs ys} (i : Nat), Rls W μ H xs ys → Rls W μ H (xs.eraseIdx i) (ys.eraseIdx i)
  | _, _, _, .nil => .nil
  | _, _, 0, .cons _ t => t
  | _, _, i + 1, .cons r t => .cons r (Rls.erase i t)
theorem mt_aPopAt : MtR X "list.pop" (MRof (Cx.wd X a0) mPopAt) := mt_imp mt_popAt fun x xs H Q ⟨μ, v, as, ah, hr, rv, ra, p⟩ => by
  unfold mPopAt at p
  split at p
  · split at p
    · rename_i zs hg
      split at p
      · rename_i hb
        rw [Bool.and_eq_true] at hb
        split at p
        · rename_i k hk
          split at p
          · rename_i w hw
            cases ra with
            | cons q t =>
              cases q; cases t
              obtain ⟨a, ys, rfl, hn, h1, r1⟩ := hr.lst hg rv
              obtain ⟨y, hy, ry⟩ := r1.get hw
              obtain ⟨e, hr'⟩ := setLst hr hg hn h1 r1 (r1.erase k)
              exact ⟨a, ys, _, k, y, rfl, rfl, h1, of_decide_eq_true hb.1, of_decide_eq_true hb.2, r1.length ▸ hk, hy, p _ _ _ e hr' (ry.ext e)⟩
          · exact p.elim
        · exact p.elim
      · exact p.elim
    · exact p.elim
  · exact p.elim
end
end WC
/-! W40: room with no guard running: defs, calls, the end (so that repr of lists and tuples can be told) -/
namespace WC
open PySem PySem.Spec PyProof.Rows L2
structure Rm (k : Nat) (A : Around) : Prop where
  r : Room k A
  g : A.guards = some []
theorem Rm.mono {j k : Nat} {A : Around} (h : Rm k A) (hj : j ≤ k) : Rm j A := ⟨h.r.mono hj, h.g⟩
theorem Rm.deeper {k : Nat} {A : Around} (h : Rm (k + 1) A) (env : Env) : Rm k (A.deeper env) := ⟨h.r.deeper env, h.g⟩
theorem make_guards {A : Around} {C : Addr} {us : List Value} {kw : List (Str × Value)} : (A.under (.builtin "type.__call__" ⟨.ref C :: us, kw⟩)).guards = A.guards := by
  first | rfl | simp [Around.under, Code.guards, Code.isGuard, guardIds, pushGuards]
theorem Rm.make {k : Nat} {A : Around} (h : Rm (k + 1) A) (C : Addr) (us : List Value) (kw : List (Str × Value)) : Rm k (A.under (.builtin "type.__call__" ⟨.ref C :: us, kw⟩)) :=
  ⟨h.r.make C us kw, make_guards.trans h.g⟩
theorem Rm.units0 {k : Nat} {A : Around} (h : Rm k A) : A.units < cLine := h.r.units0
/-- a def keeps its promise (where no guard runs) -/
structure FnG (P : Program) (w : World) (K : PySem.W.Frag) (mg : Str → Option Value) (base : Heap) (CX : CXT) (k : Nat) (f : Addr) (fd : FuncData) (ps : List Str) (sp : Sp) : Prop where
  len : ∀ vs H Q E, sp vs H Q E → vs.length = ps.length
  run : ∀ (A : Around) (outer : List Env) (s : Shared) (H : Hp) (args : Args) (us : List Value) (vs : List V) (Q : VK) (E : XK),
    Rm k A → Env0 P w K mg base A outer s H → BindsTo s fd args (ps.zip us) → Vals vs us → sp vs H Q E → codeAny (model P w) A (.call (.ref f) args) (CR CX outer P w H s Q E) s
section
variable {P : Program} {w : World} {K : PySem.W.Frag} {mg : Str → Option Value} {base : Heap} {CX : CXT} {k n : Nat} {f : Addr} {fd : FuncData} {ps ks N : List Str} {sp : Sp}
/-- a def by its body -/
theorem fnG_of {name qual : Str} {params : Arguments} {body : List Stmt} {scope : Scope} {dvs : List V} {kws : List (Str × V)} (F : FunD K name qual params body scope dvs kws f fd) (S : FnScope N ps scope) (len : ∀ vs H Q E, sp vs H Q E → vs.length = ps.length)
    (hb0 : ∀ (cdv : Value) (A : Around) (outer : List Env) (s : Shared) (H : Hp) (vs : List V) (Q : VK) (E : XK), Rm k (A.deeper (envOfC qual scope s.heap.objs.size f cdv)) → sp vs H Q E →
      ∃ t, PSs (cxOf CX P w K mg base N qual scope f cdv A outer s H E) body t ∧ t { nx := fun _ H' => Q .non H', rt := Q } (start N vs) H) : FnG P w K mg base CX (k + 1) f fd ps sp := by
  obtain ⟨oc, od, dV, kV, doc, pm, an, cdv, ct, osl, rfl, lk, hcd, _, _⟩ := F.ex
  constructor
  · exact len
  · intro A outer s H args us vs Q E room e0 hbind r hsp
    have nps := len _ _ _ _ hsp
    have inK : K.In s.heap := e0.mod.kin.keeps fun b o e => (e0.bs b o e).1
    have noLim : s.heap.NoLimit := e0.mod.nolimit.keeps fun b o e => (e0.bs b o e).1
    have kinds : ∀ y ∈ ps.zip us, scope.names.lookup y.1 = some .local ∨ (scope.names.lookup y.1 = some .cell ∧ ((cellsFrom (s.heap.objs.size + 1) scope.names []).lookup y.1).isSome = true) := by
      rintro ⟨nm, v⟩ hy
      rcases S.par nm (List.of_mem_zip hy).1 with q | q
      · left
        exact q
      · right
        exact ⟨q, PySem.W.cellsFrom_some _ _ _ (.inl q)⟩
    refine codeAny_call_function room.r.depth (inK _ _ lk) rfl S.co S.gen rfl (PySem.W.codeRec_of inK hcd) (hbind _ _ _ _ (wpAny_newFunctionEnv_cells S.kind kinds fun env he s1 x => ?_))
    subst he
    refine ⟨noLim.keeps x.toInCall.keep, codeAny_func ?_⟩
    obtain ⟨t, ht, hq⟩ := hb0 cdv A outer s H vs Q E (room.deeper _) hsp
    have I0 : Inv (cxOf CX P w K mg base N qual scope f cdv A outer s H E) [] (start N vs) H s1 := inv_start S room.r.hd e0 nps r x
    refine wpAny_mono (ht.run [] s1 (start N vs) H _ I0 hq) ?_ (fun e s' hs => hs)
    have close : ∀ {σ' : L2.St} {H' : Hp} {v : V} {u : Value} {s' : Shared}, Inv (cxOf CX P w K mg base N qual scope f cdv A outer s H E) [] σ' H' s' → RelV v u → Q v H' → CE outer P w H s Q u s' := by
      intro σ' H' v u s' J rv q
      exact ⟨v, H', J.os, J.bare, J.base, J.hok, rv, q⟩
    intro fl s' hs
    cases fl with
    | next =>
      obtain ⟨σ', H', J, q⟩ := hs
      exact close (v := V.non) (u := Value.none) J rfl q
    | ret u =>
      obtain ⟨v, σ', H', J, rv, q⟩ := hs
      exact close J rv q
    | brk => exact hs.elim fun _ z => z.elim fun _ z => z.2.elim
    | cont => exact hs.elim fun _ z => z.elim fun _ z => z.2.elim
end
section
variable {X : Cx} {CX : CXT} {k n : Nat} {f C : Addr} {fd : FuncData} {ps ks : List Str} {sp : Sp} {E : XK} {g : List Value → List Value → List Value} {gV : List V → List V → List V} {pins : List (Addr × Obj)} {σ : L2.St} {H : Hp} {s : Shared} {Q : VK} {us ws : List Value} {vs zs : List V}
theorem run_fnG (F : FnG X.prog X.w X.K X.mg X.base CX k f fd ps sp) (hr : Rm k X.A) (hb : KBn X.K fd ps n ks g gV) (hx : Passes CX X E) (I : Inv X pins σ H s) (r : Vals vs us) (rz : Vals zs ws) (l1 : vs.length = n) (l2 : zs.length = ks.length) (h : sp (gV vs zs) H Q E) :
    wpAny (model X.prog X.w) X.A (call (.ref f) us (ks.zip ws)) (EP X pins σ Q) X.xe s := by
  have bound := hb.to s us ws I.kIn (r.length.symm.trans l1) (rz.length.symm.trans l2)
  refine wpAny_call (codeAny_mono (F.run X.A X.stack s H _ _ _ Q E hr I.env0 bound (hb.rel r rz) h) ?_)
  rintro (e | fl) s' hq
  · exact hx pins σ H s e s' I hq
  · cases fl <;> first | exact I.after hq | exact False.elim hq
theorem run_makeG (M : Mk X.K C f) (F : FnG X.prog X.w X.K X.mg X.base CX k f fd ps sp) (hr : Rm (k + 1) X.A) (hb : KBn X.K fd ps (n + 1) ks g gV) (hx : Passes CX X E) (I : Inv X pins σ H s) (r : Vals vs us) (rz : Vals zs ws) (l1 : vs.length = n) (l2 : zs.length = ks.length)
    (h : ∀ x dx, H x = none → H dx = none → dx ≠ x → sp (gV (.ref x :: vs) zs) (upd (upd H dx (.own x)) x (.ins C dx [])) (fun v H2 => v = .non ∧ Q (.ref x) H2) E) : wpAny (model X.prog X.w) X.A (call (.ref C) us (ks.zip ws)) (EP X pins σ Q) X.xe s := by
  let p := s.heap.objs.size
  have hq := h (p + 1) p (I.hok.fresh (Nat.le_succ _)) (I.hok.fresh (Nat.le_refl _)) (Nat.ne_of_lt (Nat.lt_succ_self _))
  have J := Inv.made (C := C) I
  have r1 : Vals (V.ref (p + 1) :: vs) (Value.ref (p + 1) :: us) := .cons rfl r
  have n1 : (Value.ref (p + 1) :: us).length = n + 1 := congrArg Nat.succ (r.length.symm.trans l1)
  have bound := hb.to _ (Value.ref (p + 1) :: us) ws J.kIn n1 (rz.length.symm.trans l2)
  have inner := F.run _ X.stack _ _ _ _ _ _ E (hr.make C us (ks.zip ws)) (J.env0.make C us (ks.zip ws)) bound (hb.rel r1 rz) hq
  refine wpAny_call (make_map (f := f) I.kIn M.makes M.init (beq_iff_eq.mp M.fn) (codeAny_mono inner ?_))
  rintro (e | fl) s' hs
  · exact hx pins σ _ _ e s' J hs
  · cases fl with
    | ret u =>
      obtain ⟨v, H', I3, rv, ev, q3⟩ := J.after hs
      subst ev
      exact ⟨rv, ⟨V.ref (p + 1), H', I3, rfl, q3⟩⟩
    | _ => exact False.elim hs
end
/-- the caller of a law: no guard runs -/
theorem caller_guards : callerA.guards = some [] := rfl
theorem rm_caller {k : Nat} (h : Room k callerA) : Rm k callerA := ⟨h, caller_guards⟩
def LawEnd (s₁ : Shared) (r : Result) (s' : Shared) : Prop := r = .ok (.ret (.bool true)) ∧ OldK s₁.heap s'.heap ∧ s'.os = s₁.os ∧ AllBare s'.gens
/-- a law's def called by its caller, from an abstract heap that tracks at most the script -/
theorem lawG_at {P : Program} {w : World} {K : PySem.W.Frag} {mg mb : Str → Option Value} {CX : CXT} {k : Nat} {fa a : Addr} {fd : FuncData} {x : Str} {sp : Sp} {s₁ : Shared} {o1 : Obj} {it1 : Array Value} {nn : Nat} {H : Hp} (KX : K.In s₁.heap) (hns : s₁.heap.Ns mainGlobals mg) (hb : s₁.heap.Ns builtinsNs mb)
    (hbb : ∀ x : Str, x ≠ "__name__" → mb x = bootBuiltins x) (hlim : s₁.heap.NoLimit) (hg : s₁.gens = #[]) (ha : s₁.heap.get? a = some o1) (hd1 : o1.data = .seq it1 nn) (hr : Room k callerA) (F : ∀ base : Heap, K.In base → base.Ns mainGlobals mg → FnG P w K mg base CX k fa fd [x] sp)
    (hbind : ∀ (s : Shared) (u : Value), BindsTo s fd ⟨[u], []⟩ [(x, u)]) (hsp : sp [.ref a] H (fun v _ => v = .bl true) fun _ _ _ => False) (hCX : ∀ e s', CX [] H s₁ (fun _ _ _ => False) e s' → False) (hO : Only H) (hok : HOk P w H s₁.heap) (hA : ∀ b, H b ≠ none → b = a) (hK : H a ≠ none → K.lookup a = none) :
    codeAny (model P w) callerA (.call (.ref fa) ⟨[.ref a], []⟩) (LawEnd s₁) s₁ := by
  have up : ∀ {b : Addr} {o : Obj}, s₁.heap.get? b = some o → H b = none → (hidT s₁.heap H).get? b = some o := fun e z => hidT_get e z
  have nd : ∀ {b : Addr} {o : Obj} {es : Array DictEntry} {ep : Nat}, s₁.heap.get? b = some o → o.data = .dict es ep → H b = none := by
    intro b o es ep e d
    refine Classical.byContradiction fun q => ?_
    obtain rfl := hA b q
    rw [ha] at e
    cases e
    rw [hd1] at d
    cases d
  have ns2 : ∀ {b : Addr} {m : Str → Option Value}, s₁.heap.Ns b m → (hidT s₁.heap H).Ns b m := by
    rintro b m ⟨o, es, ep, e, d, r⟩
    exact ⟨o, es, ep, up e (nd e d), d, r⟩
  have k2 : K.In (hidT s₁.heap H) := by
    intro b o e
    refine up (KX b o e) (Classical.byContradiction fun q => ?_)
    obtain rfl := hA b q
    rw [hK q] at e
    cases e
  have md : Mod K mg (hidT s₁.heap H) := by
    refine ⟨k2, ns2 hns, ⟨mb, ns2 hb, hbb⟩, ?_⟩
    obtain ⟨mc, h1, h2⟩ := hlim
    exact ⟨mc, ns2 h1, h2⟩
  have e0 : Env0 P w K mg (hidT s₁.heap H) callerA [] s₁ H :=
    { frames := rfl, mod := md, bs := fun b o e => of_hidT e, bsz := Nat.le_of_eq (hidT_size _ _), funs := trivial, frf := fun b z => absurd z List.not_mem_nil, hok := hok, bare := .of_eq hg }
  have body := (F _ k2 (ns2 hns)).run callerA [] s₁ H ⟨[.ref a], []⟩ [.ref a] [.ref a] _ _ (rm_caller hr) e0 (hbind s₁ (.ref a)) (.cons rfl .nil) hsp
  refine codeAny_mono body ?_
  rintro (e | fl) s' h
  · exact (hCX e s' h).elim
  · cases fl with
    | ret u =>
      obtain ⟨v, H', os, bare, un, hok', r', q⟩ := h
      obtain rfl : v = .bl true := q
      obtain rfl : u = Value.bool true := r'
      refine ⟨rfl, OldK.of_keep ?_, os, bare⟩
      intro b o e
      rcases hO b with z | ⟨ob, xs, z⟩
      · exact un.keep b o e z (fun y => absurd y List.not_mem_nil) (by simp)
      · obtain ⟨e1, _⟩ := hok b _ z
        obtain ⟨e2, _⟩ := hok' b _ (un.frzs b ob _ z)
        rw [e] at e1
        cases e1
        exact e2
    | _ => exact False.elim h
theorem walk_ofG {l : PySem.W.OpenLaw} {n k : Nat} {q : Program} {loose : List Str} {XP : (Str → Option Value) → Heap → Prop} {YP : World → Heap → Prop} {d : DefRec} {CX : CXT} {x : Str} (hn : l.most = some n) (hn2 : n ≤ sizeLine) (hdf : d.params.defaults = []) (hr : Room k callerA)
    (F : ∀ (w : World) (mg : Str → Option Value) (fa : Addr) (h : Heap), YP w h → h.Ns mainGlobals mg → mg d.name = some (.ref fa) → ∃ (K : PySem.W.Frag) (fd : FuncData) (sp : Sp), K.In h ∧ (∀ (s : Shared) (u : Value), BindsTo s fd ⟨[u], []⟩ [(x, u)]) ∧
        (∀ (H : Hp) (a : Addr) (ns : List Int), ns.length ≤ n → Only H → SqL K H a (ns.map V.int) → sp [.ref a] H (fun v _ => v = .bl true) fun _ _ _ => False) ∧ ∀ base : Heap, K.In base → base.Ns mainGlobals mg → FnG l.prog w K mg base CX k fa fd [x] sp)
    (hCX : ∀ (H : Hp) (s : Shared) (e : Value) (s' : Shared), CX [] H s (fun _ _ _ => False) e s' → False) : PySem.W.WalkO q loose XP YP l.row.toRowW d [] (fun f vs => PySem.call f vs) := by
  refine Att.attach_call hn hdf ?_
  intro w s₀ s₁ mg mb fa o pm cd doc a vs ns G Y ho hd hcd hmg hobj hints hlen hg
  obtain ⟨K, fd, sp, KX, hb, hsp, hF⟩ := F w mg fa _ Y G.T.g hmg
  have rv := vals_ints hints
  have hz : ns.length ≤ sizeLine := Nat.le_trans hlen hn2
  have go : ∀ H : Hp, Only H → SqL K H a (ns.map V.int) → HOk l.prog w H s₁.heap → (∀ b, H b ≠ none → b = a) → (H a ≠ none → K.lookup a = none) → codeAny (model l.prog w) callerA (.call (.ref fa) ⟨[.ref a], []⟩) (LawEnd s₁) s₁ := fun H hO hS hok hA hK =>
    lawG_at KX G.T.g G.T.b G.T.builtins G.T.nolimit hg hobj rfl hr hF hb (hsp H a ns hlen hO hS) (fun e s' => hCX H s₁ e s') hO hok hA hK
  cases hk : K.lookup a with
  | some ob =>
    have e := KX a ob hk
    rw [hobj] at e
    cases e
    have size : vs.toArray.size ≤ sizeLine := by
      rw [List.size_toArray, hints.length]
      exact hz
    refine go (fun _ => none) (fun _ => .inl rfl) (.inr ⟨_, vs.toArray, _, hk, rfl, rfl, rfl, size, by simpa using rv⟩) ?_ (fun b z => absurd rfl z) (fun z => absurd rfl z)
    intro b u z
    cases (show (none : Option HO) = some u from z)
  | none =>
    let O : HO := .frz { cls := .type "list", data := .seq vs.toArray } (.lst (ns.map V.int))
    refine go (fun b => if b = a then some O else none) ?_ (.inl (.inr ⟨{ cls := .type "list", data := .seq vs.toArray }, if_pos rfl⟩)) ?_ ?_ (fun _ => hk)
    · intro b
      by_cases e : b = a
      · exact .inr ⟨_, _, if_pos e⟩
      · exact .inl (if_neg e)
    · intro b u z
      by_cases e : b = a
      · have y := (if_pos e).symm.trans z
        cases y
        subst e
        exact ⟨hobj, by rw [List.length_map]; exact hz, vs, _, rv, hobj⟩
      · have y := (if_neg e).symm.trans z
        cases y
    · intro b z
      exact Classical.byContradiction fun e => z (if_neg e)
end WC
/-! W41: repr of plain data -/
namespace WC
open PySem PySem.Spec PyProof.Rows L2
def reprOk (d : PyData) : Bool := d.showable && !d.hasDict && decide (d.depth ≤ 100) && decide (d.shown.length ≤ 1000000)
def bRepr : AC := fun as h => match as with
  | [v] => (match toPD pdF h v with
    | some d => if reprOk d = true then .ok (.str d.shown) h else .stuck
    | none => .stuck)
  | _ => .stuck
section
variable {X : Cx} {a0 : Addr}
theorem cb_repr (hg : X.A.guards = some []) (hu : X.A.units + 150 < cLine) : CallR X (.builtin "repr") (CRof (Cx.wd X a0) bRepr) := by
  intro pins s σ H xs us Q I rv ⟨μ, as, ah, hr, r, p⟩
  unfold bRepr at p
  split at p
  · rename_i v
    split at p
    · rename_i d hd
      split at p
      · rename_i ok
        cases r with
        | cons r t =>
          cases t
          rename_i y
          obtain ⟨u, rfl, ru⟩ := vals1 rv
          have q : Q (.str d.shown) H := p.ret hr .str
          have D := (toPD_ok hr pdF).1 _ _ _ r hd
          unfold reprOk at ok
          simp only [Bool.and_eq_true, decide_eq_true_eq, Bool.not_eq_true'] at ok
          obtain ⟨⟨⟨o1, o2⟩, o3⟩, o4⟩ := ok
          have hz : d.shown.length ≤ sizeLine := Nat.le_trans o4 (by rw [sizeLine_eq]; omega)
          have ref : ∀ a : Addr, u = .ref a → wpAny (model X.prog X.w) X.A (call (.builtin "repr") [u]) (EP X pins σ Q) X.xe s := by
            rintro a rfl
            obtain ⟨bs, R⟩ := Dp.reads I d y _ D ru
            exact repr_of_reads' R o1 (fun z => by rw [o2] at z; cases z) hg (by omega) (fun b o e => e) (fun h' u tk hk => ⟨.str d.shown, H, I.kept hk, ⟨_, rfl⟩, q⟩) hz
          cases D with
          | non =>
            obtain rfl := ru
            simp only [PyData.shown] at q
            exact PySem.P.repr_of_none ⟨.str _, H, I.tok _, ⟨_, rfl⟩, q⟩
          | bl b =>
            obtain rfl := ru
            simp only [PyData.shown] at q
            refine PySem.P.repr_of_bool ⟨.str _, H, I.tok _, ⟨_, rfl⟩, ?_⟩
            cases b <;> exact q
          | int i =>
            obtain ⟨t, rfl⟩ := ru
            simp only [PyData.shown] at q
            have o5 : i.natAbs.log2 < 1920 := by simpa [PyData.showable] using o1
            exact PySem.P.repr_of_int o5 ⟨.str _, H, I.tok _, ⟨_, rfl⟩, q⟩
          | str x =>
            obtain ⟨t, rfl⟩ := ru
            simp only [PyData.shown] at q hz
            exact PySem.P.repr_of_str ⟨.str _, H, I.tok _, ⟨_, rfl⟩, q⟩ hz
          | lst _ _ => exact ref _ ru
          | tup _ _ => exact ref _ ru
      · exact p.elim
    · exact p.elim
  · exact p.elim
end
end WC
/-! W7: own defs, methods, classes called with plain values -/
namespace WC
open PySem L2
/-- a def's promise: it does what the plain run g does (n values) -/
def SPof (W : Wd) (n : Nat) (g : AC) : Sp := fun vs H Q _ => ∃ μ as ah, as.length = n ∧ HR W μ ah H ∧ Rls W μ H as vs ∧ Post W μ H (g as ah) Q
/-- how m positional values and the keywords ks come to the parameters -/
def KBA (K : PySem.W.Frag) (a0 : Addr) (fd : FuncData) (ps : List Str) (m : Nat) (ks : List Str) (gA : List AV → List AV → List AV) : Prop :=
  ∃ (g : List Value → List Value → List Value) (gV : List V → List V → List V), KBn K fd ps m ks g gV ∧
    ∀ μ H (vs : List AV) (xs : List V) (zs : List AV) (ws : List V), Rls ⟨K, a0⟩ μ H vs xs → Rls ⟨K, a0⟩ μ H zs ws → Rls ⟨K, a0⟩ μ H (gA vs zs) (gV xs ws)
def FnAt (X : Cx) (a0 : Addr) (k : Nat) (f : Addr) (n : Nat) (g : AC) (m : Nat) (ks : List Str) (gA : List AV → List AV → List AV) : Prop :=
  ∃ fd ps, FnG X.prog X.w X.K X.mg X.base CX0 k f fd ps (SPof (Cx.wd X a0) n g) ∧ KBA X.K a0 fd ps m ks gA
/-- keywords' values -/
def MK (X : Cx) (a0 : Addr) (kws : List Keyword) (f : AL) : Prop := PK X kws (TAv (Cx.wd X a0) f)
section
variable {X : Cx} {a0 : Addr} {e o : Expr} {es : List Expr} {kws : List Keyword} {pos apos cpos p : Pos} {k n m : Nat} {ks : List Str} {gA : List AV → List AV → List AV} {g : AC} {f : Addr} {x : Str}
theorem PK.imp {t t' : TA} (h : PK X kws t) (hi : ∀ σ H Q, t' σ H Q → t σ H Q) : PK X kws t' := ⟨fun pos pins s σ H Q I q => h.run pos pins s σ H Q I (hi σ H Q q)⟩
theorem mk_nil : MK X a0 [] (fun _ h => .ok [] h) := PK.imp pk_nil fun σ H Q ⟨μ, s, ah, _, hr, p⟩ => p.ret hr .nil
theorem mk_cons {nm : Option Str} {kp : Pos} {f : AE} {g : AL} (ha : ME X a0 e f) (hr : MK X a0 kws g) : MK X a0 (⟨nm, e, kp⟩ :: kws) (aCons f g) :=
  PK.imp (pk_cons ha hr) fun σ H Q ⟨μ, s, ah, hs, hr, p⟩ => by
    refine ⟨μ, s, ah, hs, hr, (PostG.bind p).mono fun x H1 ⟨μ1, a, h1, e1, hr1, rl1, p1⟩ => ?_⟩
    refine ⟨μ1, s, h1, hs.ext e1, hr1, (PostG.bind p1).mono fun y H2 ⟨μ2, b, h2, e2, hr2, rl2, p2⟩ => ?_⟩
    exact p2.ret hr2 (.cons (rl1.ext e2) rl2)
/-- the plain call: check the numbers, bind, run -/
def aCallV (n m : Nat) (ks : List Str) (gA : List AV → List AV → List AV) (g : AC) (as zs : List AV) : AH → Ex AV := fun h =>
  if as.length = m then (if zs.length = ks.length then (if (gA as zs).length = n then g (gA as zs) h else .stuck) else .stuck) else .stuck
theorem FnAt.run (F : FnAt X a0 k f n g m ks gA) (hr : Rm k X.A) {pins : List (Addr × Obj)} {σ : St} {H : Hp} {s : Shared} {Q : VK} {us ws : List Value} {vs zs : List V} (I : Inv X pins σ H s) (r : Vals vs us) (rz : Vals zs ws)
    {μ : List Addr} {as bs : List AV} {ah : AH} (R : HR (Cx.wd X a0) μ ah H) (ra : Rls (Cx.wd X a0) μ H as vs) (rb : Rls (Cx.wd X a0) μ H bs zs) (q : Post (Cx.wd X a0) μ H (aCallV n m ks gA g as bs ah) Q) :
    wpAny (model X.prog X.w) X.A (call (.ref f) us (ks.zip ws)) (EP X pins σ Q) X.xe s := by
  obtain ⟨fd, ps, F, gv, gV, hb, hrel⟩ := F
  unfold aCallV at q
  split at q
  · rename_i l1
    split at q
    · rename_i l2
      split at q
      · rename_i l3
        exact run_fnG F hr hb pass0 I r rz (ra.length ▸ l1) (rb.length ▸ l2) ⟨μ, _, ah, l3, R, hrel _ _ _ _ _ _ ra rb, q⟩
      · exact q.elim
    · exact q.elim
  · exact q.elim
/-! ### f(..) -/
def aCallG (n m : Nat) (ks : List Str) (gA : List AV → List AV → List AV) (g : AC) (fa fk : AL) : AE := fun s h => (fa s h).bind fun as h1 => (fk s h1).bind fun zs h2 => aCallV n m ks gA g as zs h2
abbrev aNil : AL := fun _ h => .ok [] h
theorem me_call0 {fk : AL} (F : FnAt X a0 k f n g m ks gA) (hr : Rm k X.A) (hg : Gl X x) (hm : X.mg x = some (.ref f)) (hk : PySem.W.keepIn X.K (.ref f) = true) (hkw : MK X a0 kws fk) (hd : (x == ("__debug__" : Str)) = false)
    (h3 : kwNames kws = some ks) : ME X a0 (.Call (.Name x p) [] kws pos) (aCallG n m ks gA g aNil fk) := by
  refine ⟨fun pins s σ H Q I h => ?_⟩
  obtain ⟨μ, st, ah, hs, R, q⟩ := h
  refine wpAny_Call_Name_kw (ld_glob I hg hm ?_ hd)
  obtain ⟨k1, k2, k3⟩ := kw_ok (pos := pos) (env := X.env) h3
  refine PySem.W.callWith_KW0 (h₀ := X.base) I.ok.mod.kin hk k1 ?_ (by rw [k3]; rfl)
  have q' : Post (Cx.wd X a0) μ H ((fk st ah).bind fun zs h2 => aCallV n m ks gA g [] zs h2) Q := q
  refine thn (hkw.run pos pins s σ H _ I ⟨μ, st, ah, hs, R, PostG.bind q'⟩) fun ws s2 ⟨zs, H2, I2, rz, μ2, bs, h2, e2, R2, rb, q2⟩ => ⟨I2.kIn, ?_⟩
  rw [k2]
  exact F.run hr I2 .nil rz R2 .nil rb q2
theorem me_call {fa fk : AL} (F : FnAt X a0 k f n g m ks gA) (hr : Rm k X.A) (hg : Gl X x) (hm : X.mg x = some (.ref f)) (hk : PySem.W.keepIn X.K (.ref f) = true) (ha : MA X a0 (e :: es) fa) (hkw : MK X a0 kws fk) (hd : (x == ("__debug__" : Str)) = false)
    (h2 : (e :: es).all noStar = true) (h3 : kwNames kws = some ks) : ME X a0 (.Call (.Name x p) (e :: es) kws pos) (aCallG n m ks gA g fa fk) := by
  refine ⟨fun pins s σ H Q I h => ?_⟩
  obtain ⟨μ, st, ah, hs, R, q⟩ := h
  refine wpAny_Call_Name_kw (ld_glob I hg hm ?_ hd)
  obtain ⟨k1, k2, k3⟩ := kw_ok (pos := pos) (env := X.env) h3
  have h2' := h2
  rw [List.all_cons, Bool.and_eq_true] at h2'
  refine PySem.W.callWith_KW (h₀ := X.base) I.ok.mod.kin hk k1 ?_ (by rw [k3, Bool.or_false]; exact star_none h2) (star_cons h2'.1)
  refine thn (ha.run pos pins s σ H _ I ⟨μ, st, ah, hs, R, PostG.bind q⟩) fun us s1 ⟨vs, H1, I1, r, μ1, as, h1, e1, R1, ra, q1⟩ => ?_
  refine thn (hkw.run pos pins s1 σ H1 _ I1 ⟨μ1, st, h1, hs.ext e1, R1, PostG.bind q1⟩) fun ws s2 ⟨zs, H2, I2, rz, μ2, bs, h2, e2, R2, rb, q2⟩ => ⟨I2.kIn, ?_⟩
  rw [k2]
  exact F.run hr I2 r rz R2 (ra.ext e2) rb q2
/-! ### C(..): a new instance -/
def aMakeV (C : Str) (n m : Nat) (ks : List Str) (gA : List AV → List AV → List AV) (g : AC) (as zs : List AV) : AH → Ex AV := fun h =>
  (aCallV n m ks gA g (.ref h.n :: as) zs (h.push (.ins C []))).bind fun v h' => match v with
    | .non => .ok (.ref h.n) h'
    | _ => .stuck
theorem make_new {W : Wd} {μ H ah} {C : Str} {a dx : Addr} (hr : HR W μ ah H) (ha : H a = none) (hd : H dx = none) (ne : dx ≠ a) :
    Ext W μ H (μ ++ [a]) (upd (upd H dx (.own a)) a (.ins (He.ga W.K C) dx [])) ∧ HR W (μ ++ [a]) (ah.push (.ins C [])) (upd (upd H dx (.own a)) a (.ins (He.ga W.K C) dx [])) ∧ Rl W (μ ++ [a]) (upd (upd H dx (.own a)) a (.ins (He.ga W.K C) dx [])) (.ref ah.n) (.ref a) := by
  have R1 : HR W μ ah (upd H dx (.own a)) := hr.tup hd
  have ha' : upd H dx (.own a) a = none := by rw [upd_ne ne.symm]; exact ha
  have E1 : Ext W μ H μ (upd H dx (.own a)) := Ext.upd_tup hd
  have E2 : Ext W μ (upd H dx (.own a)) (μ ++ [a]) (upd (upd H dx (.own a)) a (.ins (He.ga W.K C) dx [])) := Ext.upd_new ha'
  refine ⟨E1.trans E2, R1.push ha' ⟨dx, [], upd_same, .nil⟩, .ref ?_⟩
  rw [hr.sz]; simp
def aMakeG (C : Str) (n m : Nat) (ks : List Str) (gA : List AV → List AV → List AV) (g : AC) (fa fk : AL) : AE := fun s h => (fa s h).bind fun as h1 => (fk s h1).bind fun zs h2 => aMakeV C n m ks gA g as zs h2
theorem FnAt.make {C : Str} (F : FnAt X a0 k f n g (m + 1) ks gA) (M : Mk X.K (He.ga X.K C) f) (hr : Rm (k + 1) X.A) {pins : List (Addr × Obj)} {σ : St} {H : Hp} {s : Shared} {Q : VK} {us ws : List Value} {vs zs : List V} (I : Inv X pins σ H s) (r : Vals vs us) (rz : Vals zs ws)
    {μ : List Addr} {as bs : List AV} {ah : AH} (R : HR (Cx.wd X a0) μ ah H) (ra : Rls (Cx.wd X a0) μ H as vs) (rb : Rls (Cx.wd X a0) μ H bs zs) (q : Post (Cx.wd X a0) μ H (aMakeV C n (m + 1) ks gA g as bs ah) Q) :
    wpAny (model X.prog X.w) X.A (call (.ref (He.ga X.K C)) us (ks.zip ws)) (EP X pins σ Q) X.xe s := by
  obtain ⟨fd, ps, F, gv, gV, hb, hrel⟩ := F
  unfold aMakeV aCallV at q
  split at q
  · rename_i l1
    split at q
    · rename_i l2
      split at q
      · rename_i l3
        have l1' : as.length = m := by simpa using l1
        refine run_makeG (n := m) M F hr hb pass0 I r rz (ra.length ▸ l1') (rb.length ▸ l2) fun x dx hx hdx ne => ?_
        obtain ⟨E1, R1, rx⟩ := make_new (W := Cx.wd X a0) (C := C) R hx hdx ne
        refine ⟨μ ++ [x], _, _, l3, R1, hrel _ _ _ _ _ _ (.cons rx (ra.ext E1)) (rb.ext E1), ?_⟩
        refine (PostG.bind (q.ext E1)).mono fun v H2 ⟨μ2, w, h2, e2, R2, rw', q2⟩ => ?_
        split at q2
        · cases rw'
          exact ⟨rfl, q2.ret R2 (rx.ext e2)⟩
        · exact q2.elim
      · exact q.elim
    · exact q.elim
  · exact q.elim
theorem me_make {C : Str} {fa fk : AL} (F : FnAt X a0 k f n g (m + 1) ks gA) (M : Mk X.K (He.ga X.K C) f) (hr : Rm (k + 1) X.A) (hg : Gl X C) (hm : X.mg C = some (.ref (He.ga X.K C))) (ha : MA X a0 (e :: es) fa) (hkw : MK X a0 kws fk) (hd : (C == ("__debug__" : Str)) = false)
    (h2 : (e :: es).all noStar = true) (h3 : kwNames kws = some ks) : ME X a0 (.Call (.Name C p) (e :: es) kws pos) (aMakeG C n (m + 1) ks gA g fa fk) := by
  refine ⟨fun pins s σ H Q I h => ?_⟩
  obtain ⟨μ, st, ah, hs, R, q⟩ := h
  refine wpAny_Call_Name_kw (ld_glob I hg hm ?_ hd)
  obtain ⟨k1, k2, k3⟩ := kw_ok (pos := pos) (env := X.env) h3
  have h2' := h2
  rw [List.all_cons, Bool.and_eq_true] at h2'
  refine PySem.W.callWith_KW (h₀ := X.base) I.ok.mod.kin M.kp k1 ?_ (by rw [k3, Bool.or_false]; exact star_none h2) (star_cons h2'.1)
  refine thn (ha.run pos pins s σ H _ I ⟨μ, st, ah, hs, R, PostG.bind q⟩) fun us s1 ⟨vs, H1, I1, r, μ1, as, h1, e1, R1, ra, q1⟩ => ?_
  refine thn (hkw.run pos pins s1 σ H1 _ I1 ⟨μ1, st, h1, hs.ext e1, R1, PostG.bind q1⟩) fun ws s2 ⟨zs, H2, I2, rz, μ2, bs, h2, e2, R2, rb, q2⟩ => ⟨I2.kIn, ?_⟩
  rw [k2]
  exact F.make M hr I2 r rz R2 (ra.ext e2) rb q2
theorem me_make0 {C : Str} {fk : AL} (F : FnAt X a0 k f n g (m + 1) ks gA) (M : Mk X.K (He.ga X.K C) f) (hr : Rm (k + 1) X.A) (hg : Gl X C) (hm : X.mg C = some (.ref (He.ga X.K C))) (hkw : MK X a0 kws fk) (hd : (C == ("__debug__" : Str)) = false)
    (h3 : kwNames kws = some ks) : ME X a0 (.Call (.Name C p) [] kws pos) (aMakeG C n (m + 1) ks gA g aNil fk) := by
  refine ⟨fun pins s σ H Q I h => ?_⟩
  obtain ⟨μ, st, ah, hs, R, q⟩ := h
  refine wpAny_Call_Name_kw (ld_glob I hg hm ?_ hd)
  obtain ⟨k1, k2, k3⟩ := kw_ok (pos := pos) (env := X.env) h3
  refine PySem.W.callWith_KW0 (h₀ := X.base) I.ok.mod.kin M.kp k1 ?_ (by rw [k3]; rfl)
  have q' : Post (Cx.wd X a0) μ H ((fk st ah).bind fun zs h2 => aMakeV C n (m + 1) ks gA g [] zs h2) Q := q
  refine thn (hkw.run pos pins s σ H _ I ⟨μ, st, ah, hs, R, PostG.bind q'⟩) fun ws s2 ⟨zs, H2, I2, rz, μ2, bs, h2, e2, R2, rb, q2⟩ => ⟨I2.kIn, ?_⟩
  rw [k2]
  exact F.make M hr I2 .nil rz R2 .nil rb q2
/-! ### o.m(..): the class is that of the object -/
/-- what is known of the method m of the class C -/
structure MInfo where
  n : Nat
  m : Nat
  ks : List Str
  gA : List AV → List AV → List AV
  g : AC
def aMeth (mth : Str) (tab : Str → Option MInfo) (fo : AE) (fa fk : AL) : AE := fun s h => (fo s h).bind fun v h1 => match v with
  | .ref n => (match h1.get n with
    | some (.ins C fs) => (match tab C with
      | some i => (match fs.lookup mth with
        | none => (fa s h1).bind fun as h2 => (fk s h2).bind fun zs h3 => aCallV i.n i.m i.ks i.gA i.g (.ref n :: as) zs h3
        | some _ => .stuck)
      | none => .stuck)
    | _ => .stuck)
  | _ => .stuck
def MethTab (X : Cx) (a0 : Addr) (k : Nat) (mth : Str) (ks : List Str) (tab : Str → Option MInfo) : Prop :=
  ∀ C i, tab C = some i → i.ks = ks ∧ Cls X.K (He.ga X.K C) ∧ ∃ f, Meth X.K (He.ga X.K C) mth f ∧ FnAt X a0 k f i.n i.g i.m i.ks i.gA
theorem me_meth {mth : Str} {tab : Str → Option MInfo} {fo : AE} {fa fk : AL} (T : MethTab X a0 k mth ks tab) (hr : Rm k X.A) (ho : ME X a0 o fo) (ha : MA X a0 (e :: es) fa) (hkw : MK X a0 kws fk)
    (h1 : notSuper o = true) (h2 : (e :: es).all noStar = true) (h3 : kwNames kws = some ks) (h4 : fewOk (e :: es) kws = true) (h5 : lineOk apos pos = true) : ME X a0 (.Call (.Attribute o mth apos) (e :: es) kws pos) (aMeth mth tab fo fa fk) := by
  refine ⟨fun pins s σ H Q I h => ?_⟩
  obtain ⟨μ, st, ah, hs, R, q⟩ := h
  obtain ⟨k1, k2, k3⟩ := kw_ok (pos := pos) (env := X.env) h3
  have h2' := h2
  rw [List.all_cons, Bool.and_eq_true] at h2'
  refine PySem.W.methodCall_KW (pl := plainOf o X.env) (thn (ho.run pins s σ H _ I ⟨μ, st, ah, hs, R, PostG.bind q⟩) fun u s1 ⟨x, H1, I1, rx, μ1, v, ah1, e1, R1, rv, q1⟩ => ?_) (meth_form h1 h2 h3 h4 h5)
  split at q1
  · split at q1
    · rename_i nn C fs hg
      split at q1
      · rename_i i hi
        split at q1
        · rename_i hl
          obtain ⟨hks, c, f, hM, F⟩ := T C i hi
          obtain ⟨a, dx, ys, rfl, hn, hH, r2⟩ := R1.ins hg rv
          cases rx
          have l : ys.lookup mth = none := by
            rcases r2.lookup (k := mth) with ⟨_, z⟩ | ⟨_, _, z, _, _⟩
            · exact z
            · rw [z] at hl; cases hl
          refine getmeth_ok I1 hH c hM l ?_
          refine PySem.W.callWith_KW (first := [.ref a]) (h₀ := X.base) I.ok.mod.kin hM.kp k1 ?_ (by rw [k3, Bool.or_false]; exact star_none h2) (star_cons h2'.1)
          refine thn (ha.run pos pins s1 σ H1 _ I1 ⟨μ1, st, ah1, hs.ext e1, R1, PostG.bind q1⟩) fun us s2 ⟨vs, H2, I2, r, μ2, as, h2, e2, R2, ra, q2⟩ => ?_
          refine thn (hkw.run pos pins s2 σ H2 _ I2 ⟨μ2, st, h2, (hs.ext e1).ext e2, R2, PostG.bind q2⟩) fun ws s3 ⟨zs, H3, I3, rz, μ3, bs, h3, e3, R3, rb, q3⟩ => ⟨I3.kIn, ?_⟩
          rw [k2]
          subst hks
          exact F.run (us := .ref a :: us) (vs := .ref a :: vs) hr I3 (.cons rfl r) rz R3 (.cons ((Rl.ref hn).ext (e2.trans e3)) (ra.ext e3)) rb q3
        · exact q1.elim
      · exact q1.elim
    · exact q1.elim
  · exact q1.elim
theorem me_meth0 {mth : Str} {tab : Str → Option MInfo} {fo : AE} {fk : AL} (T : MethTab X a0 k mth ks tab) (hr : Rm k X.A) (ho : ME X a0 o fo) (hkw : MK X a0 kws fk)
    (h1 : notSuper o = true) (h3 : kwNames kws = some ks) (h4 : fewOk [] kws = true) (h5 : lineOk apos pos = true) : ME X a0 (.Call (.Attribute o mth apos) [] kws pos) (aMeth mth tab fo aNil fk) := by
  refine ⟨fun pins s σ H Q I h => ?_⟩
  obtain ⟨μ, st, ah, hs, R, q⟩ := h
  obtain ⟨k1, k2, k3⟩ := kw_ok (pos := pos) (env := X.env) h3
  refine PySem.W.methodCall_KW (pl := plainOf o X.env) (thn (ho.run pins s σ H _ I ⟨μ, st, ah, hs, R, PostG.bind q⟩) fun u s1 ⟨x, H1, I1, rx, μ1, v, ah1, e1, R1, rv, q1⟩ => ?_) (meth_form h1 rfl h3 h4 h5)
  split at q1
  · rename_i n0
    split at q1
    · rename_i nn C fs hg
      split at q1
      · rename_i i hi
        split at q1
        · rename_i hl
          obtain ⟨hks, c, f, hM, F⟩ := T C i hi
          obtain ⟨a, dx, ys, rfl, hn, hH, r2⟩ := R1.ins hg rv
          cases rx
          have l : ys.lookup mth = none := by
            rcases r2.lookup (k := mth) with ⟨_, z⟩ | ⟨_, _, z, _, _⟩
            · exact z
            · rw [z] at hl; cases hl
          refine getmeth_ok I1 hH c hM l ?_
          refine PySem.W.callWith_KW0 (first := [.ref a]) (h₀ := X.base) I.ok.mod.kin hM.kp k1 ?_ (by rw [k3]; rfl)
          have q' : Post (Cx.wd X a0) μ1 H1 ((fk st ah1).bind fun zs h3 => aCallV i.n i.m i.ks i.gA i.g [.ref n0] zs h3) Q := q1
          refine thn (hkw.run pos pins s1 σ H1 _ I1 ⟨μ1, st, ah1, hs.ext e1, R1, PostG.bind q'⟩) fun ws s3 ⟨zs, H3, I3, rz, μ3, bs, h3, e3, R3, rb, q3⟩ => ⟨I3.kIn, ?_⟩
          rw [k2]
          subst hks
          exact F.run (us := [.ref a]) (vs := [.ref a]) hr I3 (.cons rfl .nil) rz R3 (.cons ((Rl.ref hn).ext e3) .nil) rb q3
        · exact q1.elim
      · exact q1.elim
    · exact q1.elim
  · exact q1.elim
end
end WC
/-! W8: tests, targets, statements, loops -/
namespace WC
open PySem L2
section
variable {X : Cx} {a0 : Addr} {a b c e o : Expr} {es rest : List Expr} {pos apos cpos p : Pos}
/-! ### tests -/
theorem mt_val {f : AE} (h : ME X a0 e f) (he : plainTest e = true) : MT X a0 e (fun s h => asB (f s h)) :=
  PT.imp (pt_val h (plainTest_ok he)) fun σ H Q ⟨μ, s, ah, hs, hr, p⟩ => ⟨μ, s, ah, hs, hr, asB_post p⟩
/-- a value's truth -/
def tru (v : AV) (h : AH) : Option Bool := match v with
  | .non => some false
  | .bl b => some b
  | .int i => some (i != 0)
  | .str y => if y.length ≤ sizeLine then some ((y.length : Int) != 0) else none
  | .tup xs => some (!xs.isEmpty)
  | .scr => some (!h.scr.isEmpty)
  | .ref n => (match h.get n with
    | some (.lst xs) => some (!xs.isEmpty)
    | some (.dct xs) => some (!xs.isEmpty)
    | _ => none)
  | _ => none
def asT (r : Ex AV) : Ex Bool := match r with
  | .ok v h => (match tru v h with
    | some b => .ok b h
    | none => .stuck)
  | .stuck => .stuck
theorem Rls.isEmpty {W μ H xs ys} (r : Rls W μ H xs ys) : xs.isEmpty = ys.isEmpty := by cases r <;> rfl
theorem Rks.isEmpty {W μ H} {κ : Type} {xs : List (κ × AV)} {ys} (r : Rks W μ H xs ys) : xs.isEmpty = ys.isEmpty := by cases r <;> rfl
theorem tru_ok {W μ ah H v x k} (hr : HR W μ ah H) (r : Rl W μ H v x) (e : tru v ah = some k) : TruV W.K x H k := by
  unfold tru at e
  split at e
  · cases e; cases r; rfl
  · cases e; cases r; rfl
  · cases e; cases r; rfl
  · split at e
    · rename_i hl
      cases e; cases r; exact ⟨hl, rfl⟩
    · cases e
  · cases e
    cases r with
    | tup h r => exact .inr (.inl ⟨_, h, by rw [r.isEmpty]⟩)
  · cases e; cases r
    refine .inl ⟨_, hr.scr.sq, ?_⟩
    cases ah.scr <;> rfl
  · split at e
    · rename_i hg
      cases e
      obtain ⟨a, ys, rfl, _, h1, r1⟩ := hr.lst hg r
      exact .inl ⟨_, .of h1, by rw [r1.isEmpty]⟩
    · rename_i hg
      cases e
      obtain ⟨a, ys, rfl, _, h1, r1⟩ := hr.dct hg r
      exact .inr (.inr ⟨_, h1, by rw [r1.isEmpty]⟩)
    · cases e
  · cases e
theorem asT_post {W μ H} {r : Ex AV} {Q : Bool → Hp → Prop} (p : PostB W μ H (asT r) Q) : Post W μ H r (fun x H' => ∃ k, TruV W.K x H' k ∧ Q k H') := by
  cases r with
  | stuck => exact p
  | ok v h =>
    unfold asT at p
    intro μ' H' x e hr' rl
    cases t : tru v h with
    | none => simp only [t] at p; exact p.elim
    | some k =>
      simp only [t] at p
      exact ⟨k, tru_ok hr' rl t, p μ' H' k e hr' rfl⟩
theorem mt_truth {f : AE} (h : ME X a0 e f) (he : plainTest e = true) : MT X a0 e (fun s h => asT (f s h)) :=
  PT.imp (pt_truth h (plainTest_ok he)) fun σ H Q ⟨μ, s, ah, hs, hr, p⟩ => ⟨μ, s, ah, hs, hr, asT_post p⟩
def aNotT (f : AT) : AT := fun s h => (f s h).bind fun b h1 => .ok (!b) h1
theorem mt_not {f : AT} (h : MT X a0 a f) : MT X a0 (.UnaryOp .Not a pos) (aNotT f) :=
  PT.imp (pt_not h) fun σ H Q ⟨μ, s, ah, hs, hr, p⟩ => ⟨μ, s, ah, hs, hr, (PostG.bind p).mono fun b H1 ⟨μ1, b', h1, e1, hr1, r1, p1⟩ => by
    have eb : b' = b := r1
    subst eb
    exact p1.ret hr1 rfl⟩
def aAndT (f g : AT) : AT := fun s h => (f s h).bind fun b h1 => if b = true then g s h1 else .ok false h1
def aOrT (f g : AT) : AT := fun s h => (f s h).bind fun b h1 => if b = true then .ok true h1 else g s h1
/-- a chain of and, or, whatever stands around it -/
def MW (X : Cx) (a0 : Addr) (e : Expr) (f : AT) : Prop := PW X e (TTv (Cx.wd X a0) f)
theorem PW.imp {e : Expr} {t t' : TT} (h : PW X e t) (hi : ∀ σ H Q, t' σ H Q → t σ H Q) : PW X e t' := ⟨fun w pins s σ H Q I q => h.run w pins s σ H Q I (hi σ H Q q)⟩
theorem MW.mt {f : AT} (h : MW X a0 e f) : MT X a0 e f := PW.pt h
theorem mw_and1 {f : AT} (h : MT X a0 a f) : MW X a0 (.BoolOp .And [a] pos) f := pw_and1 h
theorem mw_or1 {f : AT} (h : MT X a0 a f) : MW X a0 (.BoolOp .Or [a] pos) f := pw_or1 h
theorem mw_and {f g : AT} (ha : MT X a0 a f) (hb : MW X a0 (.BoolOp .And (b :: rest) pos) g) : MW X a0 (.BoolOp .And (a :: b :: rest) pos) (aAndT f g) :=
  PW.imp (pw_and ha hb) fun σ H Q ⟨μ, s, ah, hs, hr, p⟩ => ⟨μ, s, ah, hs, hr, (PostG.bind p).mono fun k H1 ⟨μ1, k', h1, e1, hr1, r1, p1⟩ => by
    have ek : k' = k := r1
    subst ek
    cases k' with
    | true => exact ⟨μ1, s, h1, hs.ext e1, hr1, p1⟩
    | false => exact PostG.ret (W := Cx.wd X a0) (rel := rBool) p1 hr1 rfl⟩
theorem mw_or {f g : AT} (ha : MT X a0 a f) (hb : MW X a0 (.BoolOp .Or (b :: rest) pos) g) : MW X a0 (.BoolOp .Or (a :: b :: rest) pos) (aOrT f g) :=
  PW.imp (pw_or ha hb) fun σ H Q ⟨μ, s, ah, hs, hr, p⟩ => ⟨μ, s, ah, hs, hr, (PostG.bind p).mono fun k H1 ⟨μ1, k', h1, e1, hr1, r1, p1⟩ => by
    have ek : k' = k := r1
    subst ek
    cases k' with
    | true => exact PostG.ret (W := Cx.wd X a0) (rel := rBool) p1 hr1 rfl
    | false => exact ⟨μ1, s, h1, hs.ext e1, hr1, p1⟩⟩
/-! as values: all but the last True or False -/
def aAndV (f g : AE) : AE := fun s h => (f s h).bind fun v h1 => match v with
  | .bl true => g s h1
  | .bl false => .ok (.bl false) h1
  | _ => .stuck
def aOrV (f g : AE) : AE := fun s h => (f s h).bind fun v h1 => match v with
  | .bl true => .ok (.bl true) h1
  | .bl false => g s h1
  | _ => .stuck
theorem me_one {op} {f : AE} (h : ME X a0 a f) : ME X a0 (.BoolOp op [a] pos) f := pe_one h
theorem me_and {f g : AE} (ha : ME X a0 a f) (hb : ME X a0 (.BoolOp .And (b :: rest) pos) g) : ME X a0 (.BoolOp .And (a :: b :: rest) pos) (aAndV f g) :=
  PE.imp (pe_and ha hb) fun σ H Q ⟨μ, s, ah, hs, hr, p⟩ => ⟨μ, s, ah, hs, hr, (PostG.bind p).mono fun x H1 ⟨μ1, v, h1, e1, hr1, r1, p1⟩ => by
    split at p1
    · cases r1; exact ⟨true, rfl, μ1, s, h1, hs.ext e1, hr1, p1⟩
    · cases r1; exact ⟨false, rfl, p1.ret hr1 .bl⟩
    · exact p1.elim⟩
theorem me_or {f g : AE} (ha : ME X a0 a f) (hb : ME X a0 (.BoolOp .Or (b :: rest) pos) g) : ME X a0 (.BoolOp .Or (a :: b :: rest) pos) (aOrV f g) :=
  PE.imp (pe_or ha hb) fun σ H Q ⟨μ, s, ah, hs, hr, p⟩ => ⟨μ, s, ah, hs, hr, (PostG.bind p).mono fun x H1 ⟨μ1, v, h1, e1, hr1, r1, p1⟩ => by
    split at p1
    · cases r1; exact ⟨true, rfl, p1.ret hr1 .bl⟩
    · cases r1; exact ⟨false, rfl, μ1, s, h1, hs.ext e1, hr1, p1⟩
    · exact p1.elim⟩
def aNotV (f : AE) : AE := fun s h => (asB (f s h)).bind fun b h1 => .ok (.bl (!b)) h1
theorem me_not {f : AE} (h : ME X a0 a f) : ME X a0 (.UnaryOp .Not a pos) (aNotV f) :=
  PE.imp (pe_not h) fun σ H Q ⟨μ, s, ah, hs, hr, p⟩ => ⟨μ, s, ah, hs, hr, (asB_post (PostG.bind (rel := rBool) p)).mono fun x H1 ⟨k, hx, μ1, k', h1, e1, hr1, r1, p1⟩ => by
    have ek : k' = k := r1
    subst ek
    exact ⟨k', hx, p1.ret hr1 .bl⟩⟩
def aIfE (c : AT) (f g : AE) : AE := fun s h => (c s h).bind fun b h1 => if b = true then f s h1 else g s h1
theorem me_if {fc : AT} {f g : AE} (hc : MT X a0 c fc) (ha : ME X a0 a f) (hb : ME X a0 b g) : ME X a0 (.IfExp c a b pos) (aIfE fc f g) :=
  PE.imp (pe_ifExp hc ha hb) fun σ H Q ⟨μ, s, ah, hs, hr, p⟩ => ⟨μ, s, ah, hs, hr, (PostG.bind p).mono fun k H1 ⟨μ1, k', h1, e1, hr1, r1, p1⟩ => by
    have ek : k' = k := r1
    subst ek
    cases k' with
    | true => exact ⟨μ1, s, h1, hs.ext e1, hr1, p1⟩
    | false => exact ⟨μ1, s, h1, hs.ext e1, hr1, p1⟩⟩
theorem pt_ifExp {tc ta tb : TT} (hc : PT X c tc) (ha : PT X a ta) (hb : PT X b tb) : PT X (.IfExp c a b pos) (fun σ H Q => tc σ H fun k H1 => if k = true then ta σ H1 Q else tb σ H1 Q) := by
  refine ⟨fun pins s σ H Q I h => ?_⟩
  show wpAny _ _ (do if ← isTrue c X.env (eval c X.env) then isTrue a X.env (eval a X.env) else isTrue b X.env (eval b X.env)) _ _ _
  refine wpAny_bind (thn (hc.run pins s σ H _ I h) fun k s1 ⟨H1, I1, q1⟩ => ?_)
  cases k with
  | true => exact ha.run pins s1 σ H1 Q I1 q1
  | false => exact hb.run pins s1 σ H1 Q I1 q1
def aIfT (c f g : AT) : AT := fun s h => (c s h).bind fun b h1 => if b = true then f s h1 else g s h1
theorem mt_if {fc f g : AT} (hc : MT X a0 c fc) (ha : MT X a0 a f) (hb : MT X a0 b g) : MT X a0 (.IfExp c a b pos) (aIfT fc f g) :=
  PT.imp (pt_ifExp hc ha hb) fun σ H Q ⟨μ, s, ah, hs, hr, p⟩ => ⟨μ, s, ah, hs, hr, (PostG.bind p).mono fun k H1 ⟨μ1, k', h1, e1, hr1, r1, p1⟩ => by
    have ek : k' = k := r1
    subst ek
    cases k' with
    | true => exact ⟨μ1, s, h1, hs.ext e1, hr1, p1⟩
    | false => exact ⟨μ1, s, h1, hs.ext e1, hr1, p1⟩⟩
/-! ### targets -/
abbrev AG := AV → AEnv → AH → Ex AEnv
def rEnv (W : Wd) (μ : List Addr) (H : Hp) (s : AEnv) (σ : St) : Prop := SR W μ H s σ
/-- only the slots in is may differ -/
def Chg (is : List Nat) (σ σ' : St) : Prop := σ'.length = σ.length ∧ ∀ j, j ∉ is → σ'[j]? = σ[j]?
theorem Chg.refl {is σ} : Chg is σ σ := ⟨rfl, fun _ _ => rfl⟩
theorem Chg.trans {is σ σ1 σ2} (a : Chg is σ σ1) (b : Chg is σ1 σ2) : Chg is σ σ2 := ⟨b.1.trans a.1, fun j hj => (b.2 j hj).trans (a.2 j hj)⟩
theorem Chg.mono {is js σ σ'} (a : Chg is σ σ') (h : ∀ i ∈ is, i ∈ js) : Chg js σ σ' := ⟨a.1, fun j hj => a.2 j fun z => hj (h j z)⟩
def rEnvC (W : Wd) (is : List Nat) (σ : St) (μ : List Addr) (H : Hp) (s : AEnv) (σ' : St) : Prop := SR W μ H s σ' ∧ Chg is σ σ'
theorem PostG.weak {α β : Type} {W : Wd} {μ H} {rel rel' : List Addr → Hp → α → β → Prop} {r : Ex α} {Q : β → Hp → Prop} (p : PostG W rel μ H r Q) (h : ∀ μ H a b, rel' μ H a b → rel μ H a b) : PostG W rel' μ H r Q := by
  cases r with
  | stuck => exact p
  | ok a h0 => exact fun μ' H' b e' hr rl => p μ' H' b e' hr (h _ _ _ _ rl)
def TGv (W : Wd) (is : List Nat) (f : AG) : TG := fun x σ H Q => ∃ μ v s ah, SR W μ H s σ ∧ HR W μ ah H ∧ Rl W μ H v x ∧ PostG W (rEnvC W is σ) μ H (f v s ah) Q
def MG (X : Cx) (a0 : Addr) (e : Expr) (is : List Nat) (f : AG) : Prop := PG X e (TGv (Cx.wd X a0) is f)
theorem PG.imp {e : Expr} {t t' : TG} (h : PG X e t) (hi : ∀ x σ H Q, t' x σ H Q → t x σ H Q) : PG X e t' := ⟨fun pins s σ H v u Q I r q => h.run pins s σ H v u Q I r (hi v σ H Q q)⟩
def gaName (i : Nat) : AG := fun v s h => .ok (s.set i (some v)) h
theorem mg_name {i : Nat} {x : Str} (hN : X.N.Nodup) (hi : X.N[i]? = some x) (hx : Loc X.env.scope x) (hf : X.fn x = true ∨ X.env.scope.names.lookup x = some .local) : MG X a0 (.Name x pos) [i] (gaName i) :=
  PG.imp (pg_name hN hi hx hf) fun x σ H Q ⟨μ, v, s, ah, hs, hr, rv, p⟩ => p.ret hr ⟨hs.set i rv, by simp, fun j hj => List.getElem?_set_ne fun z => hj (by simp [z])⟩
abbrev AGs := List AV → AEnv → AH → Ex AEnv
def TGsv (W : Wd) (is : List Nat) (f : AGs) : TGs := fun xs σ H Q => ∃ μ vs s ah, SR W μ H s σ ∧ HR W μ ah H ∧ Rls W μ H vs xs ∧ PostG W (rEnvC W is σ) μ H (f vs s ah) Q
def MGs (X : Cx) (a0 : Addr) (es : List Expr) (is : List Nat) (f : AGs) : Prop := PGs X es (TGsv (Cx.wd X a0) is f)
theorem PGs.imp {es : List Expr} {t t' : TGs} (h : PGs X es t) (hi : ∀ x σ H Q, t' x σ H Q → t x σ H Q) : PGs X es t' := ⟨fun pins s σ H v u Q I r q => h.run pins s σ H v u Q I r (hi v σ H Q q)⟩
def gaNil : AGs := fun vs s h => match vs with
  | [] => .ok s h
  | _ => .stuck
def gaCons (f : AG) (g : AGs) : AGs := fun vs s h => match vs with
  | v :: r => (f v s h).bind fun s1 h1 => g r s1 h1
  | [] => .stuck
theorem mgs_nil : MGs X a0 [] [] gaNil := PGs.imp pgs_nil fun xs σ H Q ⟨μ, vs, s, ah, hs, hr, rv, p⟩ => by
  unfold gaNil at p
  split at p
  · cases rv; exact ⟨rfl, p.ret hr ⟨hs, .refl⟩⟩
  · exact p.elim
theorem assign_cons {e : Expr} {es : List Expr} {env : Env} (h : noStar e = true) : assignEach (e :: es) env = (false, assign e env) :: assignEach es env := by
  cases e <;> first | rfl | (cases h)
theorem mgs_cons {is js : List Nat} {f : AG} {g : AGs} (ha : MG X a0 e is f) (hb : MGs X a0 es js g) (hn : noStar e = true) : MGs X a0 (e :: es) (is ++ js) (gaCons f g) :=
  PGs.imp (pgs_cons ha hb (by rw [assign_cons hn]; rfl)) fun xs σ H Q ⟨μ, vs, s, ah, hs, hr, rv, p⟩ => by
    unfold gaCons at p
    split at p
    · cases rv with
      | cons r t =>
        refine ⟨_, _, rfl, μ, _, s, ah, hs, hr, r, (PostG.bind p).mono fun σ1 H1 ⟨μ1, s1, h1, e1, hr1, r1, p1⟩ => ?_⟩
        exact ⟨μ1, _, s1, h1, r1.1, hr1, t.ext e1, p1.weak fun _ _ _ _ z => ⟨z.1, (r1.2.mono fun i hi => List.mem_append_left _ hi).trans (z.2.mono fun i hi => List.mem_append_right _ hi)⟩⟩
    · exact p.elim
def gaTup (n : Nat) (g : AGs) : AG := fun v s h => match v with
  | .tup xs => if xs.length = n then g xs s h else .stuck
  | _ => .stuck
theorem assign_len {env : Env} : ∀ {es : List Expr}, (assignEach es env).length = es.length
  | [] => rfl
  | e :: es => by
    have : ∀ e, (assignEach (e :: es) env).length = (assignEach es env).length + 1 := fun e => by cases e <;> rfl
    rw [this, assign_len]; rfl
theorem assign_star {env : Env} : ∀ {es : List Expr}, es.all noStar = true → (assignEach es env).findIdx? (·.1) = none
  | [], _ => rfl
  | e :: es, h => by
    rw [List.all_cons, Bool.and_eq_true] at h
    rw [assign_cons h.1, List.findIdx?_cons, assign_star h.2]; rfl
theorem mg_tup {k : Nat} {is : List Nat} {g : AGs} (hc : X.calm = true) (h : MGs X a0 es is g) (hs : es.all noStar = true) : MG X a0 (.Tuple es k pos) is (gaTup es.length g) :=
  PG.imp (pg_tup hc h assign_len (assign_star hs)) fun x σ H Q ⟨μ, v, s, ah, hs, hr, rv, p⟩ => by
    unfold gaTup at p
    split at p
    · split at p
      · rename_i hl
        cases rv with
        | tup h r => exact ⟨_, _, rfl, h, r.length ▸ hl, μ, _, s, ah, hs, hr, r, p⟩
      · exact p.elim
    · exact p.elim
/-! ### small statements -/
theorem ms_pass : MS X a0 (.Pass pos) (fun s h => .ok (.nx s) h) := PS.imp ps_pass fun D σ H ⟨μ, s, ah, hs, hr, p⟩ => p μ H σ .refl hr hs
theorem ms_break : MS X a0 (.Break pos) (fun s h => .ok (.bk s) h) := PS.imp ps_break fun D σ H ⟨μ, s, ah, hs, hr, p⟩ => p μ H σ .refl hr hs
theorem ms_continue : MS X a0 (.Continue pos) (fun s h => .ok (.ct s) h) := PS.imp ps_continue fun D σ H ⟨μ, s, ah, hs, hr, p⟩ => p μ H σ .refl hr hs
theorem ms_expr {f : AE} (h : ME X a0 e f) (hc : notComp e = true) : MS X a0 (.Expr e pos) (fun s h => (f s h).bind fun _ h1 => .ok (.nx s) h1) :=
  PS.imp (ps_expr h (noSwap hc)) fun D σ H ⟨μ, s, ah, hs, hr, p⟩ => ⟨μ, s, ah, hs, hr, (PostS.bind p).mono fun x H1 ⟨μ1, v, h1, e1, hr1, r1, p1⟩ => p1 μ1 H1 σ .refl hr1 (hs.ext e1)⟩
theorem ms_ret {f : AE} (h : ME X a0 e f) : MS X a0 (.Return (some e) pos) (fun s h => (f s h).bind fun v h1 => .ok (.rt v) h1) :=
  PS.imp (ps_ret h) fun D σ H ⟨μ, s, ah, hs, hr, p⟩ => ⟨μ, s, ah, hs, hr, (PostS.bind p).mono fun x H1 ⟨μ1, v, h1, e1, hr1, r1, p1⟩ => p1 μ1 H1 x .refl hr1 r1⟩
theorem ms_retN : MS X a0 (.Return none pos) (fun s h => .ok (.rt .non) h) := PS.imp ps_retN fun D σ H ⟨μ, s, ah, hs, hr, p⟩ => p μ H .non .refl hr .non
def aIfS (c : AT) (f g : AS) : AS := fun s h => (c s h).bind fun b h1 => if b = true then f s h1 else g s h1
theorem ms_if {fc : AT} {f g : AS} {xs ys : List Stmt} (hc : MT X a0 c fc) (ha : MSs X a0 xs f) (hb : MSs X a0 ys g) : MS X a0 (.If c xs ys pos) (aIfS fc f g) :=
  PS.imp (ps_if hc ha hb) fun D σ H ⟨μ, s, ah, hs, hr, p⟩ => ⟨μ, s, ah, hs, hr, (PostS.bind (rel := rBool) p).mono fun k H1 ⟨μ1, k', h1, e1, hr1, r1, p1⟩ => by
    have ek : k' = k := r1
    subst ek
    cases k' with
    | true => exact ⟨μ1, s, h1, hs.ext e1, hr1, p1⟩
    | false => exact ⟨μ1, s, h1, hs.ext e1, hr1, p1⟩⟩
theorem mss_nil : MSs X a0 [] (fun s h => .ok (.nx s) h) := PSs.imp pss_nil fun D σ H ⟨μ, s, ah, hs, hr, p⟩ => p μ H σ .refl hr hs
def aSeq (f g : AS) : AS := fun s h => (f s h).bind fun fl h1 => match fl with
  | .nx s1 => g s1 h1
  | .bk s1 => .ok (.bk s1) h1
  | .ct s1 => .ok (.ct s1) h1
  | .rt v => .ok (.rt v) h1
theorem seq_post {W μ H} {r : Ex Fl} {g : AS} {D : Ends} (p : PostS W μ H (r.bind fun fl h1 => match fl with
  | .nx s1 => g s1 h1
  | .bk s1 => .ok (.bk s1) h1
  | .ct s1 => .ok (.ct s1) h1
  | .rt v => .ok (.rt v) h1) D) : PostS W μ H r { D with nx := TSv W g D } := by
  cases r with
  | stuck => exact p
  | ok fl h =>
    cases fl with
    | nx s1 => exact fun μ' H' σ' e hr hs => ⟨μ', s1, h, hs, hr, PostS.ext (r := g s1 h) p e⟩
    | bk s1 => exact p
    | ct s1 => exact p
    | rt v => exact p
theorem mss_cons {st : Stmt} {sts : List Stmt} {f g : AS} (ha : MS X a0 st f) (hb : MSs X a0 sts g) : MSs X a0 (st :: sts) (aSeq f g) :=
  PSs.imp (pss_cons ha hb) fun D σ H ⟨μ, s, ah, hs, hr, p⟩ => ⟨μ, s, ah, hs, hr, seq_post p⟩
/-! ### target = value -/
def aAsg (f : AE) (g : AG) : AS := fun s h => (f s h).bind fun v h1 => (g v s h1).bind fun s1 h2 => .ok (.nx s1) h2
theorem nx_post {W μ H} {r : Ex AEnv} {D : Ends} (p : PostS W μ H (r.bind fun s1 h2 => .ok (.nx s1) h2) D) : PostG W (rEnv W) μ H r D.nx := by
  cases r with
  | stuck => exact p
  | ok s1 h => exact fun μ' H' σ' e hr hs => p μ' H' σ' e hr hs
/-- one target that is no pair of names beside a written tuple -/
def asgOk (tg e : Expr) : Bool := match tg, e with
  | .Tuple .., .Tuple .. => false
  | .List .., .Tuple .. => false
  | .Starred .., _ => false
  | _, _ => true
theorem asg_sw {tg e : Expr} {env : Env} (h : asgOk tg e = true) : swappedStores [tg] e env = pure none := by
  unfold swappedStores
  cases tg <;> cases e <;> first | rfl | (cases h)
theorem asg_one {tg e : Expr} {env : Env} (h : asgOk tg e = true) : (assignEach [tg] env).map (·.2) = [assign tg env] := by
  cases tg <;> first | rfl | (cases e <;> cases h)
theorem ms_asg {tg : Expr} {is : List Nat} {f : AE} {g : AG} (he : ME X a0 e f) (hg : MG X a0 tg is g) (hc : notComp e = true) (ha : asgOk tg e = true) : MS X a0 (.Assign [tg] e pos) (aAsg f g) :=
  PS.imp (ps_asg he hg (by show swapsWith e (some tg) pos.line X.env = pure false; exact noSwap hc) (asg_sw ha) (asg_one ha)) fun D σ H ⟨μ, s, ah, hs, hr, p⟩ => ⟨μ, s, ah, hs, hr, (PostS.bind p).mono fun x H1 ⟨μ1, v, h1, e1, hr1, r1, p1⟩ =>
    ⟨μ1, v, s, h1, hs.ext e1, hr1, r1, (nx_post p1).weak fun _ _ _ _ z => z.1⟩⟩
/-! ### loops -/
inductive AI where
  | lst (n : Nat)
  | scr
  | tup (xs : List AV)
  | str (x : Str)
  | rng (lo : Int) (n : Nat)
  | its (kvs : List (Key × AV))
  | vls (kvs : List (Key × AV))
  | enm (n : Nat)
  | zps (x : Str) (n : Nat)
  | zpl (n m : Nat)
def itNext (J : AI) (i : Nat) (h : AH) : Option (Option AV) := match J with
  | .lst n => (match h.get n with
    | some (.lst xs) => some xs[i]?
    | _ => none)
  | .scr => some ((h.scr[i]?).map AV.int)
  | .tup xs => some xs[i]?
  | .str x => some ((x.cps[i]?).map fun c => AV.str ⟨#[c]⟩)
  | .rng lo n => some (if i < n then some (.int (lo + i)) else none)
  | .its kvs => some ((kvs[i]?).map fun kv => .tup [kA kv.1, kv.2])
  | .vls kvs => some ((kvs[i]?).map (·.2))
  | .enm n => (match h.get n with
    | some (.lst xs) => some ((xs[i]?).map fun x => .tup [.int (i : Nat), x])
    | _ => none)
  | .zps x n => (match h.get n with
    | some (.lst xs) => (match x.cps[i]?, xs[i]? with
      | some c, some v => some (some (.tup [.str ⟨#[c]⟩, v]))
      | none, none => if xs.length = i ∧ x.cps.size = i then some none else none
      | _, _ => none)
    | _ => none)
  | .zpl n m => (match h.get n, h.get m with
    | some (.lst xs), some (.lst ys) => (match xs[i]?, ys[i]? with
      | some x, some y => some (some (.tup [x, y]))
      | _, _ => some none)
    | _, _ => none)
def RI (W : Wd) (μ0 : List Addr) (H0 : Hp) (aJ : AI) (J : It) : Prop := ∀ μ H ah i, Ext W μ0 H0 μ H → HR W μ ah H → match itNext aJ i ah with
  | none => True
  | some none => J.stop i H
  | some (some v) => J.go i H ∧ ∀ x H', J.yld i H x H' → Ext W μ H μ H' ∧ HR W μ ah H' ∧ Rl W μ H' v x
def TIv (W : Wd) (f : AEnv → AH → Ex AI) : TI := fun σ H R => ∃ μ s ah, SR W μ H s σ ∧ HR W μ ah H ∧ PostG W (RI W) μ H (f s ah) R
def MI (X : Cx) (a0 : Addr) (tg e : Expr) (f : AEnv → AH → Ex AI) : Prop := PI X tg e (TIv (Cx.wd X a0) f)
theorem PI.imp {tg e : Expr} {t t' : TI} (h : PI X tg e t) (hi : ∀ σ H R, t' σ H R → t σ H R) : PI X tg e t' := ⟨fun pins s σ H R I q => h.run pins s σ H R I (hi σ H R q)⟩
theorem PI.or {tg e : Expr} {t t' : TI} (h : PI X tg e t) (h' : PI X tg e t') : PI X tg e (fun σ H R => t σ H R ∨ t' σ H R) := ⟨fun pins s σ H R I q => q.elim (h.run pins s σ H R I) (h'.run pins s σ H R I)⟩
theorem Rls.none_of {W μ H xs ys} {i : Nat} (r : Rls W μ H xs ys) (h : xs[i]? = none) : ys.length ≤ i := by
  rw [← r.length]; exact List.getElem?_eq_none_iff.mp h
theorem ri_lst {W : Wd} {μ0 : List Addr} {H0 : Hp} {n : Nat} {a : Addr} (h : μ0[n]? = some a) : RI W μ0 H0 (.lst n) (Itl W.K a) := by
  intro μ H ah i e R
  have hn := e.pre _ _ h
  cases q : itNext (.lst n) i ah with
  | none => trivial
  | some r =>
    unfold itNext at q
    simp only at q
    split at q
    · rename_i xs hg
      obtain ⟨b, ys, hb, hn', h1, r1⟩ := R.lst hg (.ref hn)
      cases hb
      cases q
      cases z : xs[i]? with
      | none => exact ⟨ys, .of h1, r1.none_of z⟩
      | some v =>
        obtain ⟨y, hy, ry⟩ := r1.get z
        refine ⟨⟨ys, y, .of h1, hy⟩, fun x H' ⟨e', hx⟩ => ?_⟩
        subst e'
        have := hx ys (.of h1)
        rw [hy] at this; cases this
        exact ⟨.refl, R, ry⟩
    · cases q
theorem ri_scr {W : Wd} {μ0 : List Addr} {H0 : Hp} : RI W μ0 H0 .scr (Itl W.K W.a0) := by
  intro μ H ah i e R
  show match some ((ah.scr[i]?).map AV.int) with | none => True | some none => _ | some (some v) => _
  cases z : ah.scr[i]? with
  | none => exact ⟨_, R.scr.sq, by rw [List.length_map]; exact List.getElem?_eq_none_iff.mp z⟩
  | some k =>
    have hy : (ah.scr.map V.int)[i]? = some (.int k) := by rw [List.getElem?_map, z]; rfl
    refine ⟨⟨_, _, R.scr.sq, hy⟩, fun x H' ⟨e', hx⟩ => ?_⟩
    subst e'
    have := hx _ R.scr.sq
    rw [hy] at this; cases this
    exact ⟨.refl, R, .int⟩
theorem ri_tup {W : Wd} {μ0 : List Addr} {H0 : Hp} {xs : List AV} {ys : List V} {a : Addr} (h : SqT W.K H0 a ys) (r : Rls W μ0 H0 xs ys) : RI W μ0 H0 (.tup xs) (Itt W.K a) := by
  intro μ H ah i e R
  have h' := e.tup _ _ h
  have r' := r.ext e
  show match some xs[i]? with | none => True | some none => _ | some (some v) => _
  cases z : xs[i]? with
  | none => exact ⟨ys, h', r'.none_of z⟩
  | some v =>
    obtain ⟨y, hy, ry⟩ := r'.get z
    refine ⟨⟨ys, y, h', hy⟩, fun x H' ⟨e', hx⟩ => ?_⟩
    subst e'
    have := hx ys h'
    rw [hy] at this; cases this
    exact ⟨.refl, R, ry⟩
theorem ri_str {W : Wd} {μ0 : List Addr} {H0 : Hp} {x : Str} : RI W μ0 H0 (.str x) (Its x) := by
  intro μ H ah i e R
  show match some ((x.cps[i]?).map fun c => AV.str ⟨#[c]⟩) with | none => True | some none => _ | some (some v) => _
  cases z : x.cps[i]? with
  | none => exact Array.getElem?_eq_none_iff.mp z
  | some c =>
    refine ⟨(Array.getElem?_eq_some_iff.mp z).1, fun y H' ⟨e', c', hc, ey⟩ => ?_⟩
    subst e'; subst ey
    rw [z] at hc; cases hc
    exact ⟨.refl, R, .str⟩
theorem ri_rng {W : Wd} {μ0 : List Addr} {H0 : Hp} {lo : Int} {n : Nat} : RI W μ0 H0 (.rng lo n) (Itr lo n) := by
  intro μ H ah i e R
  show match some (if i < n then some (AV.int (lo + i)) else none) with | none => True | some none => _ | some (some v) => _
  by_cases h : i < n
  · rw [if_pos h]
    refine ⟨h, fun y H' ⟨e', ey⟩ => ?_⟩
    subst e'; subst ey
    exact ⟨.refl, R, .int⟩
  · rw [if_neg h]
    exact Nat.le_of_not_lt h
/-- what a value is walked as -/
def toAI (v : AV) (h : AH) : Option AI := match v with
  | .tup xs => some (.tup xs)
  | .scr => some .scr
  | .str x => some (.str x)
  | .ref n => (match h.get n with
    | some (.lst _) => some (.lst n)
    | _ => none)
  | _ => none
def aIter (f : AE) : AEnv → AH → Ex AI := fun s h => (f s h).bind fun v h1 => match toAI v h1 with
  | some J => .ok J h1
  | none => .stuck
theorem mi_val {tg : Expr} {f : AE} (h : ME X a0 e f) : MI X a0 tg e (aIter f) :=
  PI.imp (PI.or (pi_list h) (PI.or (pi_tup h) (pi_str h))) fun σ H R ⟨μ, s, ah, hs, hr, p⟩ => by
    unfold aIter at p
    cases q : f s ah with
    | stuck => rw [q] at p; exact p.elim
    | ok v h1 =>
      rw [q] at p
      have p' : PostG (Cx.wd X a0) (RI (Cx.wd X a0)) μ H (match toAI v h1 with
        | some J => .ok J h1
        | none => .stuck) R := p
      unfold toAI at p'
      split at p'
      · rename_i J hJ
        split at hJ
        · cases hJ
          refine .inr (.inl ⟨μ, s, ah, hs, hr, ?_⟩)
          rw [q]
          intro μ' H' x e R' r
          cases r with
          | tup h r => exact ⟨_, rfl, ⟨_, h⟩, p' μ' H' _ e R' (ri_tup h r)⟩
        · cases hJ
          refine .inl ⟨μ, s, ah, hs, hr, ?_⟩
          rw [q]
          intro μ' H' x e R' r
          cases r
          exact ⟨_, rfl, ⟨_, R'.scr.sq⟩, p' μ' H' _ e R' ri_scr⟩
        · cases hJ
          refine .inr (.inr ⟨μ, s, ah, hs, hr, ?_⟩)
          rw [q]
          intro μ' H' x e R' r
          cases r
          exact ⟨_, rfl, p' μ' H' _ e R' ri_str⟩
        · split at hJ
          · rename_i hg
            cases hJ
            refine .inl ⟨μ, s, ah, hs, hr, ?_⟩
            rw [q]
            intro μ' H' x e R' r
            obtain ⟨a, ys, rfl, hn, h2, r2⟩ := R'.lst hg r
            exact ⟨_, rfl, ⟨_, .of h2⟩, p' μ' H' _ e R' (ri_lst hn)⟩
          · cases hJ
        · cases hJ
      · exact p'.elim
def forL (aJ : AI) (g : AG) (body : AS) : Nat → Nat → AEnv → AH → Ex Fl
  | 0, _, _, _ => .stuck
  | f + 1, i, s, h => match itNext aJ i h with
    | none => .stuck
    | some none => .ok (.nx s) h
    | some (some v) => (g v s h).bind fun s1 h1 => (body s1 h1).bind fun fl h2 => match fl with
      | .nx s2 => forL aJ g body f (i + 1) s2 h2
      | .ct s2 => forL aJ g body f (i + 1) s2 h2
      | .bk s2 => .ok (.nx s2) h2
      | .rt v => .ok (.rt v) h2
def aFor (F : Nat) (fi : AEnv → AH → Ex AI) (g : AG) (body : AS) : AS := fun s h => (fi s h).bind fun J h1 => forL J g body F 0 s h1
theorem body_post {W : Wd} {μ H} {r : Ex Fl} {k : AEnv → AH → Ex Fl} {D : Ends} {N : St → Hp → Prop} (p : PostS W μ H (r.bind fun fl h2 => match fl with
      | .nx s2 => k s2 h2
      | .ct s2 => k s2 h2
      | .bk s2 => .ok (.nx s2) h2
      | .rt v => .ok (.rt v) h2) D) (hN : ∀ μ' H' s2 h2 σ2, Ext W μ H μ' H' → HR W μ' h2 H' → SR W μ' H' s2 σ2 → PostS W μ' H' (k s2 h2) D → N σ2 H') : PostS W μ H r { D with nx := N, ct := N, bk := D.nx } := by
  cases r with
  | stuck => exact p
  | ok fl h =>
    cases fl with
    | nx s1 => exact fun μ' H' σ' e hr hs => hN μ' H' s1 h σ' e hr hs (PostS.ext (r := k s1 h) p e)
    | ct s1 => exact fun μ' H' σ' e hr hs => hN μ' H' s1 h σ' e hr hs (PostS.ext (r := k s1 h) p e)
    | bk s1 => exact p
    | rt v => exact p
theorem ms_for {tg : Expr} {body : List Stmt} {is : List Nat} {F : Nat} {fi : AEnv → AH → Ex AI} {g : AG} {fb : AS} (hp : PassesOwn (model X.prog X.w) X.A X.env X.xe) (hc : X.calm = true) (hi : MI X a0 tg e fi) (hg : MG X a0 tg is g) (hb : MSs X a0 body fb) (hs : notSet e = true) :
    MS X a0 (.For tg e body [] pos) (aFor F fi g fb) :=
  PS.imp (ps_for hp hc hi hg hb (noFold hs)) fun D σ H ⟨μ, s, ah, hs, hr, p⟩ => ⟨μ, s, ah, hs, hr, (PostS.bind p).mono fun J H1 ⟨μ1, aJ, h1, e1, hr1, rJ, p1⟩ => by
    refine ⟨fun i m σ H => ∃ μ2 s2 h2, Ext (Cx.wd X a0) μ1 H1 μ2 H ∧ SR (Cx.wd X a0) μ2 H s2 σ ∧ HR (Cx.wd X a0) μ2 h2 H ∧ PostS (Cx.wd X a0) μ2 H (forL aJ g fb m i s2 h2) D, ⟨F, μ1, s, h1, .refl, hs.ext e1, hr1, p1⟩, ?_⟩
    rintro i m σ2 H2 ⟨μ2, s2, h2, e2, hs2, hr2, p2⟩
    cases m with
    | zero => exact p2.elim
    | succ m =>
      unfold forL at p2
      have z := rJ μ2 H2 h2 i e2 hr2
      split at p2
      · exact p2.elim
      · rename_i q
        rw [q] at z
        exact .inl ⟨z, p2 μ2 H2 σ2 .refl hr2 hs2⟩
      · rename_i v q
        rw [q] at z
        refine .inr ⟨z.1, fun σ' H' => ∃ μ3 s3 h3, Ext (Cx.wd X a0) μ1 H1 μ3 H' ∧ SR (Cx.wd X a0) μ3 H' s3 σ' ∧ HR (Cx.wd X a0) μ3 h3 H' ∧ PostS (Cx.wd X a0) μ3 H' (forL aJ g fb m (i + 1) s3 h3) D, fun σ' H' h' => ⟨m, Nat.lt_succ_self m, h'⟩, fun x H3 hy => ?_⟩
        obtain ⟨e3, hr3, rv⟩ := z.2 x H3 hy
        refine ⟨μ2, v, s2, h2, hs2.ext e3, hr3, rv, (PostS.bind (rel := rEnvC (Cx.wd X a0) is σ2) (p2.ext e3)).mono fun σ4 H4 ⟨μ4, s4, h4, e4, hr4, hs4, p4⟩ => ?_⟩
        exact ⟨μ4, s4, h4, hs4.1, hr4, body_post p4 fun μ' H' s2' h2' σ2' e5 hr5 hs5 p5 => ⟨μ', s2', h2', e2.trans (e3.trans (e4.trans e5)), hs5, hr5, p5⟩⟩⟩
def whileL (c : AT) (body : AS) : Nat → AEnv → AH → Ex Fl
  | 0, _, _ => .stuck
  | f + 1, s, h => (c s h).bind fun b h1 => if b = true then (body s h1).bind fun fl h2 => (match fl with
      | .nx s2 => whileL c body f s2 h2
      | .ct s2 => whileL c body f s2 h2
      | .bk s2 => .ok (.nx s2) h2
      | .rt v => .ok (.rt v) h2) else .ok (.nx s) h1
theorem ms_while {body : List Stmt} {F : Nat} {fc : AT} {fb : AS} (hp : PassesOwn (model X.prog X.w) X.A X.env X.xe) (hc : MT X a0 c fc) (hb : MSs X a0 body fb) : MS X a0 (.While c body [] pos) (whileL fc fb F) :=
  PS.imp (ps_while hp hc hb) fun D σ H ⟨μ, s, ah, hs, hr, p⟩ => by
    refine ⟨fun m σ H => ∃ μ2 s2 h2, SR (Cx.wd X a0) μ2 H s2 σ ∧ HR (Cx.wd X a0) μ2 h2 H ∧ PostS (Cx.wd X a0) μ2 H (whileL fc fb m s2 h2) D, ⟨F, μ, s, ah, hs, hr, p⟩, ?_⟩
    rintro m σ2 H2 ⟨μ2, s2, h2, hs2, hr2, p2⟩
    cases m with
    | zero => exact p2.elim
    | succ m =>
      unfold whileL at p2
      refine ⟨μ2, s2, h2, hs2, hr2, (PostS.bind (rel := rBool) p2).mono fun k H3 ⟨μ3, k', h3, e3, hr3, r3, p3⟩ => ?_⟩
      have ek : k' = k := r3
      subst ek
      cases k' with
      | true =>
        refine ⟨fun σ' H' => ∃ μ3 s3 h3, SR (Cx.wd X a0) μ3 H' s3 σ' ∧ HR (Cx.wd X a0) μ3 h3 H' ∧ PostS (Cx.wd X a0) μ3 H' (whileL fc fb m s3 h3) D, fun σ' H' h' => ⟨m, Nat.lt_succ_self m, h'⟩, ?_⟩
        exact ⟨μ3, s2, h3, hs2.ext e3, hr3, body_post p3 fun μ' H' s2' h2' σ2' e5 hr5 hs5 p5 => ⟨μ', s2', h2', hs5, hr5, p5⟩⟩
      | false => exact p3 μ3 H3 σ2 .refl hr3 (hs2.ext e3)
end
end WC
/-! W9: comprehensions -/
namespace WC
open PySem L2
def wipeA (s : AEnv) : List Nat → AEnv
  | [] => s
  | v :: vs => (wipeA s vs).set v none
theorem SR.wipe {W μ H s σ} (h : SR W μ H s σ) : ∀ vs, SR W μ H (wipeA s vs) (wipe σ vs)
  | [] => h
  | v :: vs => (SR.wipe h vs).unset v
theorem wipe_get (σ : St) (j : Nat) : ∀ vs : List Nat, (wipe σ vs)[j]? = if j ∈ vs then (if j < σ.length then some none else none) else σ[j]?
  | [] => by simp [L2.wipe]
  | v :: vs => by
    show ((wipe σ vs).set v none)[j]? = _
    rw [List.getElem?_set]
    have hl : (wipe σ vs).length = σ.length := wipe_length σ vs
    by_cases h : v = j
    · subst h
      simp [hl]
    · have h' : ¬ j = v := fun z => h z.symm
      simp [h, h', wipe_get σ j vs]
theorem wipe_chg {is vs : List Nat} {σ σ2 : St} (c : Chg is (wipe σ vs) σ2) (h : ∀ i ∈ is, i ∈ vs) : wipe σ2 vs = wipe σ vs := by
  apply List.ext_getElem?
  intro j
  have hl : σ2.length = σ.length := c.1.trans (wipe_length σ vs)
  rw [wipe_get, wipe_get, hl]
  by_cases hj : j ∈ vs
  · rw [if_pos hj, if_pos hj]
  · rw [if_neg hj, if_neg hj, c.2 j fun z => hj (h j z), wipe_get, if_neg hj]
section
variable {X : Cx} {a0 : Addr} {e elt tg iter : Expr} {ifs : List Expr} {scope : Scope} {own : List (Str × Nat)} {pos : Pos}
def MTs (X : Cx) (a0 : Addr) (ifs : List Expr) (f : AT) : Prop := PTs X ifs (TTv (Cx.wd X a0) f)
theorem PTs.imp {t t' : TT} (h : PTs X ifs t) (hi : ∀ σ H Q, t' σ H Q → t σ H Q) : PTs X ifs t' := ⟨fun pins s σ H Q I q => h.run pins s σ H Q I (hi σ H Q q)⟩
theorem mts_nil : MTs X a0 [] (fun _ h => .ok true h) := PTs.imp pts_nil fun σ H Q ⟨μ, s, ah, _, hr, p⟩ => PostG.ret (W := Cx.wd X a0) (rel := rBool) p hr rfl
theorem mts_one {f : AT} (h : MT X a0 e f) : MTs X a0 [e] f := pts_one h
/-- the contexts of a comprehension's block -/
def Blk (X : Cx) (scope : Scope) (P : Cx → Prop) : Prop := ∀ (s : Shared) (H : Hp) (C : Addr) (cl : List (Str × Addr)) (fp : List Addr), P (X.blk s H scope (compEnvC scope cl C X.env) fp)
def lcL (J : AI) (g : AG) (t : AT) (el : AE) (s : AEnv) (d : Nat) : Nat → Nat → AH → Ex AV
  | 0, _, _ => .stuck
  | f + 1, i, h => match itNext J i h with
    | none => .stuck
    | some none => .ok (.ref d) h
    | some (some v) => (g v s h).bind fun s1 h1 => (t s1 h1).bind fun b h2 => if b = true then (el s1 h2).bind fun y h3 => (match h3.get d with
        | some (.lst acc) => if acc.length < sizeLine then lcL J g t el s d f (i + 1) (h3.set d (.lst (acc ++ [y]))) else .stuck
        | _ => .stuck) else lcL J g t el s d f (i + 1) h2
def aLc (F : Nat) (fi : AEnv → AH → Ex AI) (g : AG) (t : AT) (el : AE) (vs : List Nat) : AE := fun s h => (fi s h).bind fun J h1 => lcL J g t el (wipeA s vs) h1.n F 0 (h1.push (.lst []))
theorem tLc_of {W : Wd} {F : Nat} {fi : AEnv → AH → Ex AI} {g : AG} {t : AT} {el : AE} {vs is : List Nat} {σ : St} {H : Hp} {Q : VK} (hv : ∀ i ∈ is, i ∈ vs) (h : TEv W (aLc F fi g t el vs) σ H Q) : tLc (TIv W fi) (TGv W is g) (TTv W t) (TEv W el) vs σ H Q := by
  obtain ⟨μ, s, ah, hs, hr, p⟩ := h
  refine ⟨μ, s, ah, hs, hr, (PostG.bind p).mono fun J H1 ⟨μ1, aJ, h1, e1, hr1, rJ, p1⟩ D hD => ?_⟩
  have E0 : Ext W μ1 H1 (μ1 ++ [D]) (upd H1 D (.lst [])) := Ext.upd_new hD
  have R0 : HR W (μ1 ++ [D]) (h1.push (.lst [])) (upd H1 D (.lst [])) := hr1.push hD ⟨[], upd_same, .nil⟩
  have hd : (μ1 ++ [D])[h1.n]? = some D := by rw [hr1.sz]; simp
  refine ⟨fun i m H => ∃ μ2 h2, Ext W (μ1 ++ [D]) (upd H1 D (.lst [])) μ2 H ∧ HR W μ2 h2 H ∧ Post W μ2 H (lcL aJ g t el (wipeA s vs) h1.n m i h2) Q, ⟨F, _, _, .refl, R0, p1.ext E0⟩, ?_⟩
  rintro i m H2 ⟨μ2, h2, e2, hr2, p2⟩
  cases m with
  | zero => exact p2.elim
  | succ m =>
    unfold lcL at p2
    have z := rJ μ2 H2 h2 i (E0.trans e2) hr2
    split at p2
    · exact p2.elim
    · rename_i q
      rw [q] at z
      exact .inl ⟨z, p2.ret hr2 (.ref (e2.pre _ _ hd))⟩
    · rename_i v q
      rw [q] at z
      refine .inr ⟨z.1, fun H' => ∃ μ3 h3, Ext W (μ1 ++ [D]) (upd H1 D (.lst [])) μ3 H' ∧ HR W μ3 h3 H' ∧ Post W μ3 H' (lcL aJ g t el (wipeA s vs) h1.n m (i + 1) h3) Q, fun H' h' => ⟨m, Nat.lt_succ_self m, h'⟩, fun x H3 hy => ?_⟩
      obtain ⟨e3, hr3, rv⟩ := z.2 x H3 hy
      have e03 := E0.trans (e2.trans e3)
      refine ⟨μ2, v, wipeA s vs, h2, ((hs.ext e1).ext e03).wipe vs, hr3, rv, (PostG.bind (p2.ext e3)).mono fun σ4 H4 ⟨μ4, s4, h4, e4, hr4, ⟨hs4, c4⟩, p4⟩ => ⟨wipe_chg c4 hv, ?_⟩⟩
      refine ⟨μ4, s4, h4, hs4, hr4, (PostG.bind p4).mono fun b H5 ⟨μ5, b', h5, e5, hr5, eb, p5⟩ => ?_⟩
      have eb' : b' = b := eb
      subst eb'
      cases b' with
      | true =>
        rw [if_pos rfl] at p5 ⊢
        refine ⟨μ5, s4, h5, hs4.ext e5, hr5, (PostG.bind p5).mono fun y H6 ⟨μ6, w, h6, e6, hr6, ry, p6⟩ => ?_⟩
        have eD := e2.trans (e3.trans (e4.trans (e5.trans e6)))
        split at p6
        · rename_i acc hg
          split at p6
          · rename_i hl
            obtain ⟨a, ys, ea, hn, hH, r2⟩ := hr6.lst hg (.ref (eD.pre _ _ hd))
            cases ea
            obtain ⟨e7, hr7⟩ := setLst hr6 hg hn hH r2 (r2.append (.cons ry .nil))
            exact ⟨ys, hH, r2.length ▸ hl, μ6, _, eD.trans e7, hr7, p6.ext e7⟩
          · exact p6.elim
        · exact p6.elim
      | false =>
        rw [if_neg Bool.false_ne_true] at p5 ⊢
        exact ⟨μ5, h5, e2.trans (e3.trans (e4.trans e5)), hr5, p5⟩
theorem me_lc {F : Nat} {fi : AEnv → AH → Ex AI} {g : AG} {t : AT} {el : AE} {is : List Nat} (hc : X.calm = true) (hN : X.N.Nodup) (hi : MI X a0 tg iter fi) (ok : BlkOk X.N X.env.scope scope own) (hv : ∀ i ∈ is, i ∈ own.map (·.2))
    (hg : Blk X scope fun Y => MG Y a0 tg is g) (ht : Blk X scope fun Y => MTs Y a0 ifs t) (he : Blk X scope fun Y => ME Y a0 elt el) (hs : notSet iter = true) :
    ME X a0 (.ListComp elt [⟨tg, iter, ifs, 0⟩] scope pos) (aLc F fi g t el (own.map (·.2))) :=
  PE.imp (pe_lc (g := TGv (Cx.wd X a0) is g) (tt := TTv (Cx.wd X a0) t) (te := TEv (Cx.wd X a0) el) hc hN hi ok (fun s H C cl fp => hg s H C cl fp) (fun s H C cl fp => ht s H C cl fp) (fun s H C cl fp => he s H C cl fp) (noFold hs)) fun _ _ _ h => tLc_of hv h
/-- name = [..] on one line -/
theorem ms_setLc {F : Nat} {fi : AEnv → AH → Ex AI} {g : AG} {t : AT} {el : AE} {is : List Nat} {i : Nat} {y : Str} {py spos : Pos} (hc : X.calm = true) (hN : X.N.Nodup) (hy : X.N[i]? = some y) (hyl : X.env.scope.names.lookup y = some .local)
    (hl : (py.line == pos.line) = true) (hk : X.env.scope.kind = .function) (ha : (scope.names.any fun (n, k) => n == y && (k == .local || k == .cell)) = false)
    (hi : MI X a0 tg iter fi) (ok : BlkOk X.N X.env.scope scope own) (hv : ∀ i ∈ is, i ∈ own.map (·.2))
    (hg : Blk X scope fun Y => MG Y a0 tg is g) (ht : Blk X scope fun Y => MTs Y a0 ifs t) (he : Blk X scope fun Y => ME Y a0 elt el) (hs : notSet iter = true) :
    MS X a0 (.Assign [.Name y py] (.ListComp elt [⟨tg, iter, ifs, 0⟩] scope pos) spos) (aAsg (aLc F fi g t el (own.map (·.2))) (gaName i)) :=
  PS.imp (ps_setLc (g := TGv (Cx.wd X a0) is g) (tt := TTv (Cx.wd X a0) t) (te := TEv (Cx.wd X a0) el) hc hN hy hyl (sw_true hk hyl hl ha) hi ok (fun s H C cl fp => hg s H C cl fp) (fun s H C cl fp => ht s H C cl fp) (fun s H C cl fp => he s H C cl fp) (noFold hs)) fun D σ H ⟨μ, s, ah, hs, hr, p⟩ => tLc_of hv ⟨μ, s, ah, hs, hr, (PostS.bind p).mono fun x H1 ⟨μ1, v, h1, e1, hr1, r1, p1⟩ =>
    p1 μ1 H1 _ .refl hr1 ((hs.ext e1).set i r1)⟩
end
end WC
/-! W10: slices, starred displays, more iterators, locked dicts, more statements -/
namespace WC
open PySem L2
section
variable {X : Cx} {a0 : Addr} {a b e o lo hi : Expr} {es : List Expr} {pos p p2 apos cpos tpos : Pos}
/-! ### slices -/
abbrev AP := AEnv → AH → Ex (Option Int)
def rOpt (_ : List Addr) (_ : Hp) (a b : Option Int) : Prop := a = b
def TOv (W : Wd) (f : AP) : TO := fun σ H Q => ∃ μ s ah, SR W μ H s σ ∧ HR W μ ah H ∧ PostG W rOpt μ H (f s ah) Q
def MP (X : Cx) (a0 : Addr) (e : Option Expr) (f : AP) : Prop := PO X e (TOv (Cx.wd X a0) f)
theorem PO.imp {e : Option Expr} {t t' : TO} (h : PO X e t) (hi : ∀ σ H Q, t' σ H Q → t σ H Q) : PO X e t' := ⟨fun pins s σ H Q I q => h.run pins s σ H Q I (hi σ H Q q)⟩
theorem mp_none : MP X a0 none (fun _ h => .ok none h) := PO.imp po_none fun σ H Q ⟨μ, s, ah, hs, hr, p⟩ => PostG.ret (W := Cx.wd X a0) (rel := rOpt) p hr rfl
def aPart (f : AE) : AP := fun s h => (f s h).bind fun v h1 => match v with
  | .int i => .ok (some i) h1
  | _ => .stuck
theorem mp_some {f : AE} (h : ME X a0 e f) : MP X a0 (some e) (aPart f) := PO.imp (po_some h) fun σ H Q ⟨μ, s, ah, hs, hr, p⟩ =>
  ⟨μ, s, ah, hs, hr, (PostG.bind p).mono fun x H1 ⟨μ1, v, h1, e1, hr1, r1, p1⟩ => by
    split at p1
    · cases r1; exact ⟨_, rfl, PostG.ret (W := Cx.wd X a0) (rel := rOpt) p1 hr1 rfl⟩
    · exact p1.elim⟩
def cutA (xs : List AV) (lo hi : Option Int) : List AV := (xs.drop (HT.sIx xs.length 0 lo)).take (HT.sIx xs.length xs.length hi - HT.sIx xs.length 0 lo)
theorem cutA_rl {W μ H xs ys lo hi} (r : Rls W μ H xs ys) : Rls W μ H (cutA xs lo hi) (cutV ys lo hi) := by
  unfold cutA cutV
  rw [r.length]
  exact (r.drop _).take _
def aSlV (v : AV) (lo hi : Option Int) (h : AH) : Ex AV := match v with
  | .tup xs => .ok (.tup (cutA xs lo hi)) h
  | .str z => if z.length ≤ sizeLine then .ok (.str (cutS z lo hi)) h else .stuck
  | .scr => .ok (.ref h.n) (h.push (.lst (cutA (h.scr.map AV.int) lo hi)))
  | .ref n => (match h.get n with
    | some (.lst xs) => .ok (.ref h.n) (h.push (.lst (cutA xs lo hi)))
    | _ => .stuck)
  | _ => .stuck
theorem cutA_all {xs : List AV} {lo hi} (h1 : HT.sIx xs.length 0 lo = 0) (h2 : HT.sIx xs.length xs.length hi = xs.length) : cutA xs lo hi = xs := by
  unfold cutA
  rw [h1, h2]
  simp
def rSl (W : Wd) : V → Option Int → Option Int → Hp → VK → Prop := fun x lo hi H Q => ∃ μ v ah, HR W μ ah H ∧ Rl W μ H v x ∧ Post W μ H (aSlV v lo hi ah) Q
theorem sl_a : SlR X (rSl (Cx.wd X a0)) := by
  intro pins s σ H x v vl vu lo hi sl Q I rx is p1 p2 ⟨μ, a, ah, hr, ra, p⟩
  unfold aSlV at p
  split at p
  · rename_i xs
    cases ra with
    | tup h r =>
      refine sl_tupA pins s σ H _ v vl vu lo hi sl Q I rx is p1 p2 ⟨_, _, rfl, h, fun c => ?_, fun _ q hq => tup_new hr (cutA_rl r) p hq⟩
      rw [← r.length] at c
      rw [cutA_all c.1 c.2] at p
      exact p.ret hr (.tup h r)
  · split at p
    · rename_i hl
      cases ra
      exact sl_str pins s σ H _ v vl vu lo hi sl Q I rx is p1 p2 ⟨_, rfl, hl, p.ret hr .str⟩
    · exact p.elim
  · cases ra
    exact sl_list pins s σ H _ v vl vu lo hi sl Q I rx is p1 p2 ⟨_, _, rfl, hr.scr.sq, fun q hq => lst_new hr (cutA_rl (Rls.ints _)) p hq⟩
  · split at p
    · rename_i xs hg
      obtain ⟨a, ys, rfl, _, h1, r1⟩ := hr.lst hg ra
      exact sl_list pins s σ H _ v vl vu lo hi sl Q I rx is p1 p2 ⟨_, _, rfl, .of h1, fun q hq => lst_new hr (cutA_rl r1) p hq⟩
    · exact p.elim
  · exact p.elim
def aSl (f : AE) (fl fh : AP) : AE := fun s h => (f s h).bind fun v h1 => (fl s h1).bind fun l h2 => (fh s h2).bind fun u h3 => aSlV v l u h3
theorem me_sl {lo hi : Option Expr} {f : AE} {fl fh : AP} (he : ME X a0 e f) (hl : MP X a0 lo fl) (hh : MP X a0 hi fh) : ME X a0 (.Subscript e (.Slice lo hi none p2) pos) (aSl f fl fh) :=
  PE.imp (pe_slice sl_a he hl hh) fun σ H Q ⟨μ, s, ah, hs, hr, p⟩ => ⟨μ, s, ah, hs, hr, (PostG.bind p).mono fun x H1 ⟨μ1, v, h1, e1, hr1, r1, p1⟩ =>
    ⟨μ1, s, h1, hs.ext e1, hr1, (PostG.bind (rel := rOpt) p1).mono fun l H2 ⟨μ2, l', h2, e2, hr2, r2, p2⟩ =>
      ⟨μ2, s, h2, (hs.ext e1).ext e2, hr2, (PostG.bind (rel := rOpt) p2).mono fun u H3 ⟨μ3, u', h3, e3, hr3, r3, p3⟩ => by
        have e2' : l' = l := r2
        have e3' : u' = u := r3
        subst e2'; subst e3'
        exact ⟨μ3, v, h3, hr3, r1.ext (e2.trans e3), p3⟩⟩⟩⟩
/-! ### *e within a display -/
def aStar (f : AE) (g : AL) : AL := fun s h => (f s h).bind fun v h1 => match v with
  | .tup xs => (g s h1).bind fun ys h2 => .ok (xs ++ ys) h2
  | .ref n => (match h1.get n with
    | some (.lst xs) => (g s h1).bind fun ys h2 => .ok (xs ++ ys) h2
    | _ => .stuck)
  | _ => .stuck
theorem ma_star {f : AE} {g : AL} (he : ME X a0 e f) (hr : MA X a0 es g) : MA X a0 (.Starred e p :: es) (aStar f g) :=
  PA.imp (StX.pa_star he hr rfl) fun σ H Q ⟨μ, s, ah, hs, hr, p⟩ => ⟨μ, s, ah, hs, hr, (PostG.bind p).mono fun x H1 ⟨μ1, v, h1, e1, hr1, r1, p1⟩ => by
    split at p1
    · cases r1 with
      | tup h r =>
        exact ⟨_, _, rfl, .inl h, μ1, s, h1, hs.ext e1, hr1, (PostG.bind p1).mono fun ys H2 ⟨μ2, as, h2, e2, hr2, r2, p2⟩ => p2.ret hr2 ((r.ext e2).append r2)⟩
    · split at p1
      · rename_i xs hg
        obtain ⟨a, zs, rfl, _, z1, r⟩ := hr1.lst hg r1
        exact ⟨_, _, rfl, .inr (.of z1), μ1, s, h1, hs.ext e1, hr1, (PostG.bind p1).mono fun ys H2 ⟨μ2, as, h2, e2, hr2, r2, p2⟩ => p2.ret hr2 ((r.ext e2).append r2)⟩
      · exact p1.elim
    · exact p1.elim⟩
end
end WC
/-! W11: more iterators, locked dicts, dict methods, dict comprehensions -/
namespace WC
open PySem L2
section
variable {X : Cx} {a0 : Addr} {a b e o lo hi : Expr} {es : List Expr} {pos p p2 apos cpos tpos : Pos}
theorem kA_rl {W μ H} (k : Key) : Rl W μ H (kA k) (kV k) := by
  cases k with
  | inl i => exact .int
  | inr x => exact .str
theorem Rks.get {W μ H} {κ : Type} : ∀ {xs ys} {i : Nat}, Rks (κ := κ) W μ H xs ys → (xs[i]? = none ∧ ys.length ≤ i) ∨ ∃ k v x, xs[i]? = some (k, v) ∧ ys[i]? = some (k, x) ∧ Rl W μ H v x
  | _, _, _, .nil => .inl ⟨by simp, by simp⟩
  | _, _, 0, .cons r _ => .inr ⟨_, _, _, rfl, rfl, r⟩
  | _, _, i + 1, .cons _ t => by
    rcases Rks.get (i := i) t with ⟨h1, h2⟩ | ⟨k, v, x, h1, h2, h3⟩
    · exact .inl ⟨by simpa using h1, by simpa using h2⟩
    · exact .inr ⟨k, v, x, by simpa using h1, by simpa using h2, h3⟩
/-- a new pair -/
theorem pair_new {W μ H ah} {T : Addr} {as : List AV} {xs : List V} (hr : HR W μ ah H) (r : Rls W μ H as xs) (hT : H T = none) : Ext W μ H μ (upd H T (.tup xs)) ∧ HR W μ ah (upd H T (.tup xs)) ∧ Rl W μ (upd H T (.tup xs)) (.tup as) (.ref T) :=
  have e : Ext W μ H μ (upd H T (.tup xs)) := Ext.upd_tup hT
  ⟨e, hr.tup hT, .tup (.of upd_same) (r.ext e)⟩
theorem ri_its {W : Wd} {μ0 : List Addr} {H0 : Hp} {d : Addr} {ob : Obj} {kvs : List (Key × AV)} {kv' : List (Key × V)} (h : H0 d = some (.frz ob (.dK kv'))) (r : Rks W μ0 H0 kvs kv') : RI W μ0 H0 (.its kvs) (Iti d ob kv') := by
  intro μ H ah i e R
  show match some ((kvs[i]?).map fun kv => AV.tup [kA kv.1, kv.2]) with | none => True | some none => _ | some (some v) => _
  have hd := e.frz _ _ _ h
  have r' := r.ext e
  rcases Rks.get (i := i) r' with ⟨h1, h2⟩ | ⟨k, v, x, h1, h2, h3⟩
  · rw [h1]; exact ⟨hd, h2⟩
  · rw [h1]
    refine ⟨⟨hd, (List.getElem?_eq_some_iff.mp h2).1⟩, fun y H' ⟨T, k', v', q, ey, hT, eH⟩ => ?_⟩
    rw [h2] at q; cases q; subst ey; subst eH
    exact pair_new R (.cons (kA_rl k) (.cons h3 .nil)) hT
theorem ri_vls {W : Wd} {μ0 : List Addr} {H0 : Hp} {d : Addr} {ob : Obj} {kvs : List (Key × AV)} {kv' : List (Key × V)} (h : H0 d = some (.frz ob (.dK kv'))) (r : Rks W μ0 H0 kvs kv') : RI W μ0 H0 (.vls kvs) (Itd d ob kv') := by
  intro μ H ah i e R
  show match some ((kvs[i]?).map (·.2)) with | none => True | some none => _ | some (some v) => _
  have hd := e.frz _ _ _ h
  have r' := r.ext e
  rcases Rks.get (i := i) r' with ⟨h1, h2⟩ | ⟨k, v, x, h1, h2, h3⟩
  · rw [h1]; exact ⟨hd, h2⟩
  · rw [h1]
    refine ⟨⟨hd, (List.getElem?_eq_some_iff.mp h2).1⟩, fun y H' ⟨eH, k', q⟩ => ?_⟩
    rw [h2] at q; cases q; subst eH
    exact ⟨.refl, R, h3⟩
theorem ri_enm {W : Wd} {μ0 : List Addr} {H0 : Hp} {n : Nat} {a : Addr} (h : μ0[n]? = some a) : RI W μ0 H0 (.enm n) (Ite W.K a) := by
  intro μ H ah i e R
  have hn := e.pre _ _ h
  cases q : itNext (.enm n) i ah with
  | none => trivial
  | some r =>
    unfold itNext at q
    simp only at q
    split at q
    · rename_i xs hg
      obtain ⟨b, ys, hb, hn', h1, r1⟩ := R.lst hg (.ref hn)
      cases hb
      cases q
      cases z : xs[i]? with
      | none => exact ⟨ys, .of h1, r1.none_of z⟩
      | some v =>
        obtain ⟨y, hy, ry⟩ := r1.get z
        refine ⟨⟨ys, y, .of h1, hy⟩, fun x H' ⟨T, w, e', hT, eH, hx⟩ => ?_⟩
        subst e'; subst eH
        have := hx ys (.of h1)
        rw [hy] at this; cases this
        exact pair_new R (.cons .int (.cons ry .nil)) hT
    · cases q
theorem ri_zpl {W : Wd} {μ0 : List Addr} {H0 : Hp} {n m : Nat} {a b : Addr} (h : μ0[n]? = some a) (h' : μ0[m]? = some b) : RI W μ0 H0 (.zpl n m) (Itz W.K a b) := by
  intro μ H ah i e R
  have hn := e.pre _ _ h
  have hm := e.pre _ _ h'
  cases q : itNext (.zpl n m) i ah with
  | none => trivial
  | some r =>
    unfold itNext at q
    simp only at q
    split at q
    · rename_i xs ys hg hg'
      obtain ⟨a', xs', ea, _, h1, r1⟩ := R.lst hg (.ref hn)
      obtain ⟨b', ys', eb, _, h2, r2⟩ := R.lst hg' (.ref hm)
      cases ea; cases eb
      cases z : xs[i]? with
      | none =>
        simp only [z] at q
        cases q
        exact ⟨xs', ys', .of h1, .of h2, .inl (r1.none_of z)⟩
      | some v =>
        cases z' : ys[i]? with
        | none =>
          simp only [z, z'] at q
          cases q
          exact ⟨xs', ys', .of h1, .of h2, .inr (r2.none_of z')⟩
        | some w =>
          simp only [z, z'] at q
          cases q
          obtain ⟨y, hy, ry⟩ := r1.get z
          obtain ⟨y2, hy2, ry2⟩ := r2.get z'
          refine ⟨⟨xs', ys', y, y2, .of h1, .of h2, hy, hy2⟩, fun x H' ⟨T, w1, w2, e', hT, eH, hx, hx2⟩ => ?_⟩
          subst e'; subst eH
          have := hx xs' (.of h1)
          rw [hy] at this; cases this
          have := hx2 ys' (.of h2)
          rw [hy2] at this; cases this
          exact pair_new R (.cons ry (.cons ry2 .nil)) hT
    · cases q
/-! ### the iterators' expressions -/
def lckOf (v : AV) (h : AH) : Option (List (Key × AV)) := match v with
  | .ref n => (match h.get n with
    | some (.lck kvs) => some kvs
    | _ => none)
  | _ => none
theorem HR.lck {W μ ah H} (hr : HR W μ ah H) {v : AV} {kvs : List (Key × AV)} {x : V} (hg : lckOf v ah = some kvs) (r : Rl W μ H v x) : ∃ d ob kv', x = .ref d ∧ H d = some (.frz ob (.dK kv')) ∧ Rks W μ H kvs kv' := by
  unfold lckOf at hg
  split at hg
  · split at hg
    · rename_i h1
      cases hg
      obtain ⟨a, e, ob, kv', h2, h3⟩ := hr.obj _ _ h1
      cases r with
      | ref e' =>
        rw [e] at e'; cases e'
        exact ⟨a, ob, kv', rfl, h2, h3⟩
    · cases hg
  · cases hg
def aItems (f : AE) : AEnv → AH → Ex AI := fun s h => (f s h).bind fun v h1 => match lckOf v h1 with
  | some kvs => .ok (.its kvs) h1
  | none => .stuck
def aVals (f : AE) : AEnv → AH → Ex AI := fun s h => (f s h).bind fun v h1 => match lckOf v h1 with
  | some kvs => .ok (.vls kvs) h1
  | none => .stuck
theorem mi_items {elts : List Expr} {kk : Nat} {f : AE} (he : ME X a0 e f) (hs : notSuper e = true) (hl : lineOk apos cpos = true) : MI X a0 (.Tuple elts kk tpos) (.Call (.Attribute e "items" apos) [] [] cpos) (aItems f) :=
  PI.imp (pi_items he (attrBase_ok hs) hl) fun σ H R ⟨μ, s, ah, hs, hr, p⟩ => ⟨μ, s, ah, hs, hr, (PostG.bind p).mono fun x H1 ⟨μ1, v, h1, e1, hr1, r1, p1⟩ => by
    split at p1
    · rename_i kvs q
      obtain ⟨d, ob, kv', rfl, h2, h3⟩ := hr1.lck q r1
      exact ⟨d, ob, kv', rfl, h2, PostG.ret (W := Cx.wd X a0) (rel := RI (Cx.wd X a0)) p1 hr1 (ri_its h2 h3)⟩
    · exact p1.elim⟩
theorem mi_vals {tg : Expr} {f : AE} (he : ME X a0 e f) (hs : notSuper e = true) (hl : lineOk apos cpos = true) : MI X a0 tg (.Call (.Attribute e "values" apos) [] [] cpos) (aVals f) :=
  PI.imp (pi_values he (attrBase_ok hs) hl) fun σ H R ⟨μ, s, ah, hs, hr, p⟩ => ⟨μ, s, ah, hs, hr, (PostG.bind p).mono fun x H1 ⟨μ1, v, h1, e1, hr1, r1, p1⟩ => by
    split at p1
    · rename_i kvs q
      obtain ⟨d, ob, kv', rfl, h2, h3⟩ := hr1.lck q r1
      exact ⟨d, ob, kv', rfl, h2, PostG.ret (W := Cx.wd X a0) (rel := RI (Cx.wd X a0)) p1 hr1 (ri_vls h2 h3)⟩
    · exact p1.elim⟩
def cI62 (i : Int) : Bool := decide (-(2 ^ 62) ≤ i) && decide (i < 2 ^ 62)
theorem cI62_ok {i : Int} (h : cI62 i = true) : -(2 ^ 62) ≤ i ∧ i < 2 ^ 62 := by
  unfold cI62 at h; rw [Bool.and_eq_true] at h; exact ⟨of_decide_eq_true h.1, of_decide_eq_true h.2⟩
def rng1 (vs : List AV) (h : AH) : Ex AI := match vs with
  | [.int j] => if cI62 j = true then .ok (.rng 0 j.toNat) h else .stuck
  | _ => .stuck
def rng2 (vs : List AV) (h : AH) : Ex AI := match vs with
  | [.int i, .int j] => if cI62 i = true then (if cI62 j = true then .ok (.rng i (j - i).toNat) h else .stuck) else .stuck
  | _ => .stuck
theorem mi_rng1 {tg : Expr} {f : AL} (hg : Gl X "range") (hm : X.mg "range" = none) (ha : MA X a0 [a] f) (hn : noStar a = true) : MI X a0 tg (.Call (.Name "range" p) [a] [] pos) (fun s h => (f s h).bind rng1) :=
  PI.imp (pi_range1 hg hm ha (star_cons hn)) fun σ H R ⟨μ, s, ah, hs, hr, p⟩ => ⟨μ, s, ah, hs, hr, (PostG.bind p).mono fun x H1 ⟨μ1, vs, h1, e1, hr1, r1, p1⟩ => by
    unfold rng1 at p1
    split at p1
    · split at p1
      · rename_i c
        cases r1 with
        | cons r t => cases r; cases t; exact ⟨_, rfl, (cI62_ok c).1, (cI62_ok c).2, PostG.ret (W := Cx.wd X a0) (rel := RI (Cx.wd X a0)) p1 hr1 ri_rng⟩
      · exact p1.elim
    · exact p1.elim⟩
theorem mi_rng2 {tg : Expr} {f : AL} (hg : Gl X "range") (hm : X.mg "range" = none) (ha : MA X a0 [a, b] f) (hn : noStar a = true) (hn2 : noStar b = true) : MI X a0 tg (.Call (.Name "range" p) [a, b] [] pos) (fun s h => (f s h).bind rng2) :=
  PI.imp (pi_range2 hg hm ha (by rw [star_cons hn, star_cons hn2]; rfl) (star_cons hn2)) fun σ H R ⟨μ, s, ah, hs, hr, p⟩ => ⟨μ, s, ah, hs, hr, (PostG.bind p).mono fun x H1 ⟨μ1, vs, h1, e1, hr1, r1, p1⟩ => by
    unfold rng2 at p1
    split at p1
    · split at p1
      · split at p1
        · rename_i c c2
          cases r1 with
          | cons r t => cases t with
            | cons r' t => cases r; cases r'; cases t; exact ⟨_, _, rfl, ⟨(cI62_ok c).1, (cI62_ok c).2, (cI62_ok c2).1, (cI62_ok c2).2⟩, PostG.ret (W := Cx.wd X a0) (rel := RI (Cx.wd X a0)) p1 hr1 ri_rng⟩
        · exact p1.elim
      · exact p1.elim
    · exact p1.elim⟩
def enm1 (vs : List AV) (h : AH) : Ex AI := match vs with
  | [.ref n] => (match h.get n with
    | some (.lst _) => .ok (.enm n) h
    | _ => .stuck)
  | _ => .stuck
theorem mi_enum {elts : List Expr} {kk : Nat} {f : AL} (hg : Gl X "enumerate") (hm : X.mg "enumerate" = none) (ha : MA X a0 [e] f) (hn : noStar e = true) : MI X a0 (.Tuple elts kk tpos) (.Call (.Name "enumerate" p) [e] [] pos) (fun s h => (f s h).bind enm1) :=
  PI.imp (pi_enum hg hm ha (star_cons hn)) fun σ H R ⟨μ, s, ah, hs, hr, p⟩ => ⟨μ, s, ah, hs, hr, (PostG.bind p).mono fun x H1 ⟨μ1, vs, h1, e1, hr1, r1, p1⟩ => by
    unfold enm1 at p1
    split at p1
    · split at p1
      · rename_i q
        cases r1 with
        | cons r t =>
          obtain ⟨d, ys, rfl, hn, z1, z2⟩ := hr1.lst q r
          cases t
          exact ⟨_, _, rfl, .of z1, PostG.ret (W := Cx.wd X a0) (rel := RI (Cx.wd X a0)) p1 hr1 (ri_enm hn)⟩
      · exact p1.elim
    · exact p1.elim⟩
def zpl2 (vs : List AV) (h : AH) : Ex AI := match vs with
  | [.ref n, .ref m] => (match h.get n, h.get m with
    | some (.lst _), some (.lst _) => .ok (.zpl n m) h
    | _, _ => .stuck)
  | _ => .stuck
theorem mi_zip {elts : List Expr} {kk : Nat} {f : AL} (hg : Gl X "zip") (hm : X.mg "zip" = none) (ha : MA X a0 [a, b] f) (hn : noStar a = true) (hn2 : noStar b = true) : MI X a0 (.Tuple elts kk tpos) (.Call (.Name "zip" p) [a, b] [] pos) (fun s h => (f s h).bind zpl2) :=
  PI.imp (pi_zip hg hm ha (star_cons hn) (star_none (by simp [hn2]))) fun σ H R ⟨μ, s, ah, hs, hr, p⟩ => ⟨μ, s, ah, hs, hr, (PostG.bind p).mono fun x H1 ⟨μ1, vs, h1, e1, hr1, r1, p1⟩ => by
    unfold zpl2 at p1
    split at p1
    · split at p1
      · rename_i q q'
        cases r1 with
        | cons r t => cases t with
          | cons r' t =>
            obtain ⟨d, ys, rfl, hn, z1, z2⟩ := hr1.lst q r
            obtain ⟨d', ys', rfl, hn', z1', z2'⟩ := hr1.lst q' r'
            cases t
            exact ⟨_, _, _, _, rfl, .of z1, .of z1', PostG.ret (W := Cx.wd X a0) (rel := RI (Cx.wd X a0)) p1 hr1 (ri_zpl hn hn')⟩
      · exact p1.elim
    · exact p1.elim⟩
/-! ### a dict locked while an expression, a statement runs -/
def unlk (n : Nat) (kvs : List (Key × AV)) (h : AH) : AH := h.set n (.dct kvs)
def isLck (h : AH) (n : Nat) : Bool := match h.get n with
  | some (.lck _) => true
  | _ => false
/-- the dict to be locked: seen by a plain look -/
def aLockE (pk : AEnv → AH → Option Nat) (f : AE) : AE := fun s h => match pk s h with
  | some n => (match h.get n with
    | some (.dct kvs) => (f s (h.set n (.lck kvs))).bind fun v h1 => if isLck h1 n = true then .ok v (unlk n kvs h1) else .stuck
    | _ => .stuck)
  | none => f s h
def aLockS (pk : AEnv → AH → Option Nat) (f : AS) : AS := fun s h => match pk s h with
  | some n => (match h.get n with
    | some (.dct kvs) => (f s (h.set n (.lck kvs))).bind fun v h1 => if isLck h1 n = true then .ok v (unlk n kvs h1) else .stuck
    | _ => .stuck)
  | none => f s h
end
end WC
/-! W12: locks, dict methods, dict comprehensions, more targets -/
namespace WC
open PySem L2
section
variable {X : Cx} {a0 : Addr} {a b e o lo hi : Expr} {es : List Expr} {pos p p2 apos cpos tpos : Pos}
/-! ### locks -/
theorem unlock_keep {W : Wd} {H : Hp} {a : Addr} {kv' ob} (hH : H a = some (.frz ob (.dK kv'))) : ∀ c ys, SqT W.K H c ys → SqT W.K (upd H a (.dK kv')) c ys := fun c ys h => by
  rcases h with h | h
  · left
    have ne : c ≠ a := by
      rintro rfl
      rcases h with h | ⟨ob, h⟩
      · rw [hH] at h; cases h
      · rw [hH] at h; cases h
    unfold Rd
    rw [upd_ne ne]
    exact h
  · exact .inr h
theorem unlock_all {W : Wd} {μ μ' : List Addr} {H H' : Hp} {ah ah' : AH} {n : Nat} {a : Addr} {kvs : List (Key × AV)} {kv' : List (Key × V)} {ob : Obj} (R : HR W μ ah H) (hn : μ[n]? = some a) (hH : H a = some (.dK kv'))
    (E : Ext W μ (upd H a (.frz ob (.dK kv'))) μ' H') (R' : HR W μ' ah' H') (hH' : H' a = some (.frz ob (.dK kv'))) (r : Rks W μ H kvs kv') (hl : isLck ah' n = true) :
    Ext W μ H μ' (upd H' a (.dK kv')) ∧ HR W μ' (unlk n kvs ah') (upd H' a (.dK kv')) := by
  have o0 : OR W μ H (.dct kvs) a := ⟨kv', hH, r⟩
  have e1 : Ext W μ H μ (upd H a (.frz ob (.dK kv'))) := Ext.upd_mut o0
  have hn' := E.pre _ _ hn
  have kp := unlock_keep (W := W) hH'
  constructor
  · refine ⟨fun m c h => E.pre m c h, fun c ys h => kp c ys (E.tup c ys (e1.tup c ys h)), fun c o u h => ?_, fun c f h => ?_⟩
    · have ne : c ≠ a := by
        rintro rfl
        rw [hH] at h; cases h
      rw [upd_ne ne]
      refine E.frz c o u ?_
      rw [upd_ne ne]; exact h
    · have ne : c ≠ a := by
        rintro rfl
        rw [hH] at h; cases h
      rw [upd_ne ne]
      refine E.xt c f ?_
      rw [upd_ne ne]; exact h
  · unfold isLck at hl
    split at hl
    · rename_i kvs2 g
      obtain ⟨b, hb, ob2, kv2, q1, q2⟩ := R'.obj n _ g
      rw [hn'] at hb; cases hb
      rw [hH'] at q1
      have e3 : kv' = kv2 := by cases q1; rfl
      subst e3
      have hs : W.a0 ≠ a ∨ ∀ o xs, H' W.a0 ≠ some (.frz o (.lst xs)) := by
        by_cases z : W.a0 = a
        · right
          intro o xs q
          rw [z, hH'] at q; cases q
        · exact .inl z
      have R2 := R'.unlock (kvs := kvs2) g hn' hH' hs
      have r2 : Rks W μ' (upd H' a (.dK kv')) kvs kv' := Rks.keep kp ((r.ext e1).ext E)
      refine ⟨R2.sz, fun m hm => ?_, R2.nd, fun m ao h => ?_, R2.scr⟩
      · unfold unlk
        rw [AH.get_set]
        by_cases h : m = n
        · exact ⟨_, by rw [if_pos h]⟩
        · rw [if_neg h]
          obtain ⟨ao, q⟩ := R2.full m hm
          rw [AH.get_set, if_neg h] at q
          exact ⟨ao, q⟩
      · unfold unlk at h
        rw [AH.get_set] at h
        by_cases z : m = n
        · rw [if_pos z] at h; cases h
          exact ⟨a, z ▸ hn', kv', upd_same, r2⟩
        · rw [if_neg z] at h
          refine R2.obj m ao ?_
          rw [AH.get_set, if_neg z]; exact h
    · cases hl
theorem me_lock {pk : AEnv → AH → Option Nat} {f : AE} (h : ME X a0 e f) : ME X a0 e (aLockE pk f) :=
  ⟨fun pins s0 σ H Q I q => by
    obtain ⟨μ, s, ah, hs, hr, p⟩ := q
    unfold aLockE at p
    split at p
    · rename_i n _
      split at p
      · rename_i kvs g
        obtain ⟨a, hn, kv', hH, r⟩ := hr.obj n _ g
        refine (pe_lock h).run pins s0 σ H Q I ⟨a, _, hH, trivial, fun od => ?_⟩
        obtain ⟨e1, R1⟩ := hr.lock (ob := od) g hn hH r
        refine ⟨μ, s, _, hs.ext e1, R1, ?_⟩
        have p' := PostG.bind (rel := Rl (Cx.wd X a0)) p
        cases q : f s (ah.set n (.lck kvs)) with
        | stuck => rw [q] at p'; exact p'.elim
        | ok v h1 =>
          rw [q] at p
          intro μ' H' x E R' rx
          have p2 : Post (Cx.wd X a0) μ H (if isLck h1 n = true then Ex.ok v (unlk n kvs h1) else .stuck) Q := p
          split at p2
          · rename_i hl
            have hH' := E.frz a od _ upd_same
            obtain ⟨E2, R2⟩ := unlock_all hr hn hH E R' hH' r hl
            exact ⟨hH', p2 μ' _ x E2 R2 (rx.keep (unlock_keep hH'))⟩
          · exact p2.elim
      · exact p.elim
    · exact h.run pins s0 σ H Q I ⟨μ, s, ah, hs, hr, p⟩⟩
theorem SR.keep {W μ H H'} (e : ∀ a ys, SqT W.K H a ys → SqT W.K H' a ys) : ∀ {s σ}, SR W μ H s σ → SR W μ H' s σ
  | _, _, .nil => .nil
  | _, _, .some r t => .some (r.keep e) (SR.keep e t)
  | _, _, .none t => .none (SR.keep e t)
theorem ms_lock {st : Stmt} {pk : AEnv → AH → Option Nat} {f : AS} (h : MS X a0 st f) : MS X a0 st (aLockS pk f) :=
  ⟨fun pins s0 σ H D I q => by
    obtain ⟨μ, s, ah, hs, hr, p⟩ := q
    unfold aLockS at p
    split at p
    · rename_i n _
      split at p
      · rename_i kvs g
        obtain ⟨a, hn, kv', hH, r⟩ := hr.obj n _ g
        refine (ps_lock h).run pins s0 σ H D I ⟨a, _, hH, trivial, fun od => ?_⟩
        obtain ⟨e1, R1⟩ := hr.lock (ob := od) g hn hH r
        refine ⟨μ, s, _, hs.ext e1, R1, ?_⟩
        cases q : f s (ah.set n (.lck kvs)) with
        | stuck => rw [q] at p; exact p.elim
        | ok fl h1 =>
          rw [q] at p
          have p2 : PostS (Cx.wd X a0) μ H (if isLck h1 n = true then Ex.ok fl (unlk n kvs h1) else .stuck) D := p
          split at p2
          · rename_i hl
            cases fl <;> (
              intro μ' H' x E R' rx
              have hH' := E.frz a od _ upd_same
              obtain ⟨E2, R2⟩ := unlock_all hr hn hH E R' hH' r hl
              exact ⟨hH', p2 μ' _ x E2 R2 (rx.keep (unlock_keep hH'))⟩)
          · exact p2.elim
      · exact p.elim
    · exact h.run pins s0 σ H D I ⟨μ, s, ah, hs, hr, p⟩⟩
/-! ### the heap grows -/
theorem Ext.grow {W : Wd} {μ : List Addr} {H H' : Hp} (h : ∀ b o, H b = some o → H' b = some o) : Ext W μ H μ H' :=
  ⟨fun _ _ z => z, fun a ys z => z.elim (fun z => .inl (z.elim (fun z => .inl (h _ _ z)) fun ⟨o, z⟩ => .inr ⟨o, h _ _ z⟩)) .inr, fun a o u z => h _ _ z, fun a f z => h _ _ z⟩
theorem OR.grow {W : Wd} {μ μ' : List Addr} {H H' : Hp} {ao : AO} {a : Addr} (z : OR W μ H ao a) (h : ∀ b o, H b = some o → H' b = some o) (e : Ext W μ H μ' H') : OR W μ' H' ao a := by
  obtain ⟨o, q, _⟩ := z.some_
  exact z.keep e ((h _ _ q).trans q.symm)
theorem HR.grow {W : Wd} {μ : List Addr} {H H' : Hp} {ah : AH} (R : HR W μ ah H) (h : ∀ b o, H b = some o → H' b = some o) : HR W μ ah H' :=
  ⟨R.sz, R.full, R.nd, fun n ao e => let ⟨a, h1, h2⟩ := R.obj n ao e; ⟨a, h1, h2.grow h (Ext.grow h)⟩, R.scr.elim (fun ⟨o, z⟩ => .inl ⟨o, h _ _ z⟩) .inr⟩
theorem HR.pushAt {W : Wd} {μ : List Addr} {H : Hp} {ah : AH} {p : Addr} {ao : AO} (R : HR W μ ah H) (hp : p ∉ μ) (ho : OR W (μ ++ [p]) H ao p) : Ext W μ H (μ ++ [p]) H ∧ HR W (μ ++ [p]) (ah.push ao) H := by
  have e0 : Ext W μ H (μ ++ [p]) H := ⟨fun n a h => by rw [List.getElem?_append_left (List.getElem?_eq_some_iff.mp h).1]; exact h, fun _ _ z => z, fun _ _ _ z => z, fun _ _ z => z⟩
  refine ⟨e0, by simp [AH.push, R.sz], fun n hn => ?_, ?_, fun n ao' e => ?_, R.scr⟩
  · rw [AH.get_push]
    by_cases h : n = ah.n
    · exact ⟨ao, by simp [h]⟩
    · rw [if_neg h]
      exact R.full n (by have : n < ah.n + 1 := hn; omega)
  · refine List.nodup_append.mpr ⟨R.nd, by simp, fun a ha b hb => ?_⟩
    rw [List.mem_singleton] at hb
    subst hb
    exact fun z => hp (z ▸ ha)
  · rw [AH.get_push] at e
    by_cases h : n = ah.n
    · rw [if_pos h] at e; cases e
      refine ⟨p, ?_, ho⟩
      rw [h, R.sz]; simp
    · rw [if_neg h] at e
      obtain ⟨a, h1, h2⟩ := R.obj n ao' e
      exact ⟨a, e0.pre n a h1, h2.keep e0 rfl⟩
theorem HR.last {W : Wd} {μ : List Addr} {H : Hp} {ah : AH} {p : Addr} (R : HR W μ ah H) : (μ ++ [p])[ah.n]? = some p := by rw [R.sz]; simp
/-! ### list(d.items()) -/
def itemsOf (kvs : List (Key × AV)) : List AV := kvs.map fun kv => .tup [kA kv.1, kv.2]
def aLI (f : AE) : AE := fun s h => (f s h).bind fun v h1 => match v with
  | .ref n => (match h1.get n with
    | some (.dct kvs) => .ok (.ref h1.n) (h1.push (.lst (itemsOf kvs)))
    | _ => .stuck)
  | _ => .stuck
theorem pairs_rl {W : Wd} {μ : List Addr} {H : Hp} : ∀ {kvs : List (Key × AV)} {kv' : List (Key × V)} {ts : List Addr}, Rks W μ H kvs kv' → Paired (fun (t : Addr) (q : Key × V) => H t = some (.tup [kV q.1, q.2])) ts kv' → Rls W μ H (itemsOf kvs) (ts.map V.ref)
  | _, _, _, .nil, h => by cases h; exact .nil
  | _, _, _, .cons r t, h => by
    cases h with
    | cons h1 h2 => exact .cons (.tup (.of h1) (.cons (kA_rl _) (.cons r .nil))) (pairs_rl t h2)
theorem me_listItems {f : AE} (hc : X.calm = true) (he : ME X a0 e f) (hg : Gl X "list") (hm : X.mg "list" = none) (hs : notSuper e = true) (hl : lineOk apos cpos = true) :
    ME X a0 (.Call (.Name "list" p) [.Call (.Attribute e "items" apos) [] [] cpos] [] pos) (aLI f) :=
  PE.imp (LiI.pe_listItems hc he hg hm rfl (attrBase_ok hs) hl rfl) fun σ H Q ⟨μ, s, ah, hs, hr, p⟩ => ⟨μ, s, ah, hs, hr, (PostG.bind p).mono fun x H1 ⟨μ1, v, h1, e1, hr1, r1, p1⟩ => by
    split at p1
    · split at p1
      · rename_i kvs g
        obtain ⟨a, ys, rfl, hn, z1, z2⟩ := hr1.dct g r1
        refine ⟨a, ys, rfl, z1, fun H' q ts keep hq hts hnot hl' hp => ?_⟩
        have E1 : Ext (Cx.wd X a0) μ1 H1 μ1 H' := Ext.grow keep
        have R1 := hr1.grow keep
        obtain ⟨E2, R2⟩ := R1.pushAt (ao := .lst (itemsOf kvs)) (hr1.notin hq) ⟨_, hl', Rls.ext ⟨fun n a h => by rw [List.getElem?_append_left (List.getElem?_eq_some_iff.mp h).1]; exact h, fun _ _ z => z, fun _ _ _ z => z, fun _ _ z => z⟩ (pairs_rl (z2.ext E1) hp)⟩
        exact p1 _ _ _ (E1.trans E2) R2 (.ref hr1.last)
      · exact p1.elim
    · exact p1.elim⟩
/-! ### methods of dicts -/
theorem m1_ok {m : Str} (h1 : notSuper o = true) (h2 : noStar e = true) (h5 : lineOk apos cpos = true) : M1 X o m apos e cpos := by
  have st : starEach [e] X.env = [(false, eval e X.env)] := star_cons h2
  exact ⟨attrBase_ok h1, by rw [st]; rfl, h5, by rw [st]; rfl⟩
theorem m2_ok {m : Str} (h1 : notSuper o = true) (h2 : noStar a = true) (h3 : noStar b = true) (h5 : lineOk apos cpos = true) : M2 X o m apos a b cpos := by
  have st : starEach [a, b] X.env = [(false, eval a X.env), (false, eval b X.env)] := by rw [star_cons h2, star_cons h3]; rfl
  exact ⟨attrBase_ok h1, by rw [st]; rfl, h5, by rw [st]; rfl⟩
def dOf (v : AV) (h : AH) : Option (Nat × List (Key × AV)) := match v with
  | .ref n => (match h.get n with
    | some (.dct kvs) => some (n, kvs)
    | _ => none)
  | _ => none
theorem HR.dOf {W μ ah H} (hr : HR W μ ah H) {v : AV} {n} {xs : List (Key × AV)} {x : V} (hg : dOf v ah = some (n, xs)) (r : Rl W μ H v x) : v = .ref n ∧ ah.get n = some (.dct xs) ∧ ∃ a ys, x = .ref a ∧ μ[n]? = some a ∧ H a = some (.dK ys) ∧ Rks W μ H xs ys := by
  unfold WC.dOf at hg
  split at hg
  · split at hg
    · rename_i g
      cases hg
      exact ⟨rfl, g, hr.dct g r⟩
    · cases hg
  · cases hg
def dropA (kvs : List (Key × AV)) (k : Key) : List (Key × AV) := kvs.filter fun kv => decide (kv.1 ≠ k)
theorem dropA_rl {W μ H} (k : Key) : ∀ {xs ys}, Rks W μ H xs ys → Rks W μ H (dropA xs k) (dropK ys k)
  | _, _, .nil => .nil
  | _, _, .cons (k := k') r t => by
    unfold dropA dropK
    by_cases h : k' = k
    · simp only [List.filter, h, ne_eq, not_true, decide_false]
      exact dropA_rl k t
    · simp only [List.filter, ne_eq, h, not_false_eq_true, decide_true]
      exact .cons r (dropA_rl k t)
def putA (kvs : List (Key × AV)) (k : Key) (v : AV) : List (Key × AV) :=
  if (kvs.any fun kv => decide (kv.1 = k)) = true then kvs.map (fun kv => if kv.1 = k then (kv.1, v) else kv) else kvs ++ [(k, v)]
theorem Rks.any {W μ H} {q : Key → Bool} : ∀ {xs ys}, Rks W μ H xs ys → (xs.any fun kv => q kv.1) = (ys.any fun kv => q kv.1)
  | _, _, .nil => rfl
  | _, _, .cons (k := k') r t => by simp only [List.any_cons, Rks.any (q := q) t]
theorem Rks.append {W μ H} : ∀ {xs ys us vs}, Rks (κ := Key) W μ H xs us → Rks W μ H ys vs → Rks W μ H (xs ++ ys) (us ++ vs)
  | _, _, _, _, .nil, s => s
  | _, _, _, _, .cons r t, s => .cons r (Rks.append t s)
theorem mapA_rl {W μ H} (k : Key) {v x} (r0 : Rl W μ H v x) : ∀ {xs ys}, Rks W μ H xs ys → Rks W μ H (xs.map fun kv => if kv.1 = k then (kv.1, v) else kv) (ys.map fun kv => if kv.1 = k then (kv.1, x) else kv)
  | _, _, .nil => .nil
  | _, _, .cons (k := k') r t => by
    simp only [List.map_cons]
    by_cases h : k' = k
    · simp only [h, if_true]; exact .cons r0 (mapA_rl k r0 t)
    · simp only [h, if_false]; exact .cons r (mapA_rl k r0 t)
theorem putA_rl {W μ H} (k : Key) {v x} {xs ys} (r0 : Rl W μ H v x) (r : Rks W μ H xs ys) : Rks W μ H (putA xs k v) (putK ys k x) := by
  unfold putA putK
  rw [r.any (q := fun z => decide (z = k))]
  split
  · exact mapA_rl k r0 r
  · exact r.append (.cons r0 .nil)
def aDPop (f g : AE) : AE := fun s h => (f s h).bind fun v h1 => match dOf v h1 with
  | some _ => (g s h1).bind fun y h2 => (match dOf v h2, toKey y with
    | some (n, kvs), some k => (match valA kvs k with
      | some w => .ok w (h2.set n (.dct (dropA kvs k)))
      | none => .stuck)
    | _, _ => .stuck)
  | none => .stuck
theorem me_dpop {f g : AE} (ho : ME X a0 o f) (he : ME X a0 e g) (h1 : notSuper o = true) (h2 : noStar e = true) (h5 : lineOk apos cpos = true) : ME X a0 (.Call (.Attribute o "pop" apos) [e] [] cpos) (aDPop f g) :=
  PE.imp (pe_dpop1 ho he (m1_ok h1 h2 h5)) fun σ H Q ⟨μ, s, ah, hs, hr, p⟩ => ⟨μ, s, ah, hs, hr, (PostG.bind p).mono fun x H1 ⟨μ1, v, h1, e1, hr1, r1, p1⟩ => by
    split at p1
    · rename_i nk q
      obtain ⟨n0, kvs0⟩ := nk
      obtain ⟨rfl, g0, a, ys, rfl, hn, z1, z2⟩ := hr1.dOf q r1
      refine ⟨a, rfl, .inl ⟨ys, .of z1⟩, μ1, s, h1, hs.ext e1, hr1, (PostG.bind p1).mono fun y H2 ⟨μ2, w, h2, e2, hr2, r2, p2⟩ => ?_⟩
      split at p2
      · rename_i n kvs k q1 q2
        split at p2
        · rename_i w' q3
          obtain ⟨en, g2, a2, ys2, ea, hn2, z3, z4⟩ := hr2.dOf q1 ((Rl.ref hn).ext e2)
          cases en; cases ea
          rcases z4.val (k := k) with ⟨y1, _⟩ | ⟨v', x', y1, y2, y3⟩
          · rw [y1] at q3; cases q3
          · rw [y1] at q3; cases q3
            obtain ⟨E, R⟩ := setDct hr2 g2 hn2 z3 z4 (dropA_rl k z4)
            exact ⟨ys2, k, x', z3, toKey_ok r2 q2, y2, p2 _ _ _ E R (y3.ext E)⟩
        · exact p2.elim
      · exact p2.elim
    · exact p1.elim⟩
def aDGet1 (f g : AE) : AE := fun s h => (f s h).bind fun v h1 => match dOf v h1 with
  | some _ => (g s h1).bind fun y h2 => (match dOf v h2, toKey y with
    | some (_, kvs), some k => .ok ((valA kvs k).getD .non) h2
    | _, _ => .stuck)
  | none => .stuck
theorem me_dget1 {f g : AE} (hu : X.A.units + 1 < cLine) (ho : ME X a0 o f) (he : ME X a0 e g) (h1 : notSuper o = true) (h2 : noStar e = true) (h5 : lineOk apos cpos = true) : ME X a0 (.Call (.Attribute o "get" apos) [e] [] cpos) (aDGet1 f g) :=
  PE.imp (pe_dget1 hu ho he (m1_ok h1 h2 h5)) fun σ H Q ⟨μ, s, ah, hs, hr, p⟩ => ⟨μ, s, ah, hs, hr, (PostG.bind p).mono fun x H1 ⟨μ1, v, h1, e1, hr1, r1, p1⟩ => by
    split at p1
    · rename_i nk q
      obtain ⟨n0, kvs0⟩ := nk
      obtain ⟨rfl, g0, a, ys, rfl, hn, z1, z2⟩ := hr1.dOf q r1
      refine ⟨a, rfl, .inl ⟨ys, .of z1⟩, μ1, s, h1, hs.ext e1, hr1, (PostG.bind p1).mono fun y H2 ⟨μ2, w, h2, e2, hr2, r2, p2⟩ => ?_⟩
      split at p2
      · rename_i n kvs k q1 q2
        obtain ⟨en, g2, a2, ys2, ea, hn2, z3, z4⟩ := hr2.dOf q1 ((Rl.ref hn).ext e2)
        cases en; cases ea
        refine ⟨_, .inl ⟨ys2, k, .of z3, toKey_ok r2 q2, rfl⟩, ?_⟩
        rcases z4.val (k := k) with ⟨y1, y2⟩ | ⟨v', x', y1, y2, y3⟩
        · rw [y1] at p2; rw [y2]; exact p2.ret hr2 .non
        · rw [y1] at p2; rw [y2]; exact p2.ret hr2 y3
      · exact p2.elim
    · exact p1.elim⟩
def aDGet2 (f g d : AE) : AE := fun s h => (f s h).bind fun v h1 => match dOf v h1 with
  | some _ => (g s h1).bind fun y h2 => (d s h2).bind fun z h3 => (match dOf v h3, toKey y with
    | some (_, kvs), some k => .ok ((valA kvs k).getD z) h3
    | _, _ => .stuck)
  | none => .stuck
theorem me_dget2 {f g d : AE} {c : Expr} (hu : X.A.units + 1 < cLine) (ho : ME X a0 o f) (he : ME X a0 e g) (hd : ME X a0 c d) (h1 : notSuper o = true) (h2 : noStar e = true) (h3 : noStar c = true) (h5 : lineOk apos cpos = true) : ME X a0 (.Call (.Attribute o "get" apos) [e, c] [] cpos) (aDGet2 f g d) :=
  PE.imp (pe_dget2 hu ho he hd (m2_ok h1 h2 h3 h5)) fun σ H Q ⟨μ, s, ah, hs, hr, p⟩ => ⟨μ, s, ah, hs, hr, (PostG.bind p).mono fun x H1 ⟨μ1, v, h1, e1, hr1, r1, p1⟩ => by
    split at p1
    · rename_i nk q
      obtain ⟨n0, kvs0⟩ := nk
      obtain ⟨rfl, g0, a, ys, rfl, hn, z1, z2⟩ := hr1.dOf q r1
      refine ⟨a, rfl, .inl ⟨ys, .of z1⟩, μ1, s, h1, hs.ext e1, hr1, (PostG.bind p1).mono fun y H2 ⟨μ2, w, h2, e2, hr2, r2, p2⟩ => ?_⟩
      refine ⟨μ2, s, h2, (hs.ext e1).ext e2, hr2, (PostG.bind p2).mono fun z H3 ⟨μ3, w3, h3, e3, hr3, r3, p3⟩ => ?_⟩
      split at p3
      · rename_i n kvs k q1 q2
        obtain ⟨en, g2, a2, ys2, ea, hn2, z3, z4⟩ := hr3.dOf q1 ((Rl.ref hn).ext (e2.trans e3))
        cases en; cases ea
        refine ⟨_, .inl ⟨ys2, k, .of z3, toKey_ok r2 q2, rfl⟩, ?_⟩
        rcases z4.val (k := k) with ⟨y1, y2⟩ | ⟨v', x', y1, y2, y3⟩
        · rw [y1] at p3; rw [y2]; exact p3.ret hr3 r3
        · rw [y1] at p3; rw [y2]; exact p3.ret hr3 y3
      · exact p3.elim
    · exact p1.elim⟩
/-! ### {} -/
theorem me_dnew : ME X a0 (.Dict [] [] pos) (fun _ h => .ok (.ref h.n) (h.push (.dct []))) :=
  PE.imp pe_dnewK fun σ H Q ⟨μ, s, ah, hs, hr, p⟩ q hq => dct_new hr .nil p hq
/-! ### the dict comprehension -/
def dcL (J : AI) (g : AG) (t : AT) (ek ev : AE) (s : AEnv) (d : Nat) : Nat → Nat → AH → Ex AV
  | 0, _, _ => .stuck
  | f + 1, i, h => match itNext J i h with
    | none => .stuck
    | some none => .ok (.ref d) h
    | some (some v) => (g v s h).bind fun s1 h1 => (t s1 h1).bind fun b h2 => if b = true then (ek s1 h2).bind fun y h3 => (ev s1 h3).bind fun z h4 => (match h4.get d with
        | some (.dct acc) => (match toKey y with
          | some k => if acc.length < sizeLine then dcL J g t ek ev s d f (i + 1) (h4.set d (.dct (putA acc k z))) else .stuck
          | none => .stuck)
        | _ => .stuck) else dcL J g t ek ev s d f (i + 1) h2
def aDc (F : Nat) (fi : AEnv → AH → Ex AI) (g : AG) (t : AT) (ek ev : AE) (vs : List Nat) : AE := fun s h => (fi s h).bind fun J h1 => dcL J g t ek ev (wipeA s vs) h1.n F 0 (h1.push (.dct []))
theorem tDc_of {W : Wd} {F : Nat} {fi : AEnv → AH → Ex AI} {g : AG} {t : AT} {ek ev : AE} {vs is : List Nat} {σ : St} {H : Hp} {Q : VK} (hv : ∀ i ∈ is, i ∈ vs) (h : TEv W (aDc F fi g t ek ev vs) σ H Q) : tDc (TIv W fi) (TGv W is g) (TTv W t) (TEv W ek) (TEv W ev) vs σ H Q := by
  obtain ⟨μ, s, ah, hs, hr, p⟩ := h
  refine ⟨μ, s, ah, hs, hr, (PostG.bind p).mono fun J H1 ⟨μ1, aJ, h1, e1, hr1, rJ, p1⟩ D hD => ?_⟩
  have E0 : Ext W μ1 H1 (μ1 ++ [D]) (upd H1 D (.dK [])) := Ext.upd_new hD
  have R0 : HR W (μ1 ++ [D]) (h1.push (.dct [])) (upd H1 D (.dK [])) := hr1.push hD ⟨[], upd_same, .nil⟩
  have hd : (μ1 ++ [D])[h1.n]? = some D := by rw [hr1.sz]; simp
  refine ⟨fun i m H => ∃ μ2 h2, Ext W (μ1 ++ [D]) (upd H1 D (.dK [])) μ2 H ∧ HR W μ2 h2 H ∧ Post W μ2 H (dcL aJ g t ek ev (wipeA s vs) h1.n m i h2) Q, ⟨F, _, _, .refl, R0, p1.ext E0⟩, ?_⟩
  rintro i m H2 ⟨μ2, h2, e2, hr2, p2⟩
  cases m with
  | zero => exact p2.elim
  | succ m =>
    unfold dcL at p2
    have z := rJ μ2 H2 h2 i (E0.trans e2) hr2
    split at p2
    · exact p2.elim
    · rename_i q
      rw [q] at z
      exact .inl ⟨z, p2.ret hr2 (.ref (e2.pre _ _ hd))⟩
    · rename_i v q
      rw [q] at z
      refine .inr ⟨z.1, fun H' => ∃ μ3 h3, Ext W (μ1 ++ [D]) (upd H1 D (.dK [])) μ3 H' ∧ HR W μ3 h3 H' ∧ Post W μ3 H' (dcL aJ g t ek ev (wipeA s vs) h1.n m (i + 1) h3) Q, fun H' h' => ⟨m, Nat.lt_succ_self m, h'⟩, fun x H3 hy => ?_⟩
      obtain ⟨e3, hr3, rv⟩ := z.2 x H3 hy
      have e03 := E0.trans (e2.trans e3)
      refine ⟨μ2, v, wipeA s vs, h2, ((hs.ext e1).ext e03).wipe vs, hr3, rv, (PostG.bind (p2.ext e3)).mono fun σ4 H4 ⟨μ4, s4, h4, e4, hr4, ⟨hs4, c4⟩, p4⟩ => ⟨wipe_chg c4 hv, ?_⟩⟩
      refine ⟨μ4, s4, h4, hs4, hr4, (PostG.bind p4).mono fun b H5 ⟨μ5, b', h5, e5, hr5, eb, p5⟩ => ?_⟩
      have eb' : b' = b := eb
      subst eb'
      cases b' with
      | true =>
        rw [if_pos rfl] at p5 ⊢
        refine ⟨μ5, s4, h5, hs4.ext e5, hr5, (PostG.bind p5).mono fun y H6 ⟨μ6, w, h6, e6, hr6, ry, p6⟩ => ?_⟩
        refine ⟨μ6, s4, h6, (hs4.ext e5).ext e6, hr6, (PostG.bind p6).mono fun y2 H7 ⟨μ7, w7, h7, e7, hr7, ry7, p7⟩ => ?_⟩
        have eD := e2.trans (e3.trans (e4.trans (e5.trans (e6.trans e7))))
        split at p7
        · rename_i acc hg
          split at p7
          · rename_i k hk
            split at p7
            · rename_i hl
              obtain ⟨a, ys, ea, hn, hH, r2⟩ := hr7.dct hg (.ref (eD.pre _ _ hd))
              cases ea
              obtain ⟨e8, hr8⟩ := setDct hr7 hg hn hH r2 (putA_rl k ry7 r2)
              exact ⟨ys, k, toKey_ok ry hk, hH, r2.length ▸ hl, μ7, _, eD.trans e8, hr8, p7.ext e8⟩
            · exact p7.elim
          · exact p7.elim
        · exact p7.elim
      | false =>
        rw [if_neg Bool.false_ne_true] at p5 ⊢
        exact ⟨μ5, h5, e2.trans (e3.trans (e4.trans e5)), hr5, p5⟩
theorem me_dc {kx vx tg iter : Expr} {ifs : List Expr} {scope : Scope} {own : List (Str × Nat)} {F : Nat} {fi : AEnv → AH → Ex AI} {g : AG} {t : AT} {ek ev : AE} {is : List Nat} (hc : X.calm = true) (hN : X.N.Nodup) (hi : MI X a0 tg iter fi) (ok : BlkOk X.N X.env.scope scope own) (hv : ∀ i ∈ is, i ∈ own.map (·.2))
    (hg : Blk X scope fun Y => MG Y a0 tg is g) (ht : Blk X scope fun Y => MTs Y a0 ifs t) (hk : Blk X scope fun Y => ME Y a0 kx ek) (he : Blk X scope fun Y => ME Y a0 vx ev) (hs : notSet iter = true) :
    ME X a0 (.DictComp kx vx [⟨tg, iter, ifs, 0⟩] scope pos) (aDc F fi g t ek ev (own.map (·.2))) :=
  PE.imp (pe_dc (g := TGv (Cx.wd X a0) is g) (tt := TTv (Cx.wd X a0) t) (tk := TEv (Cx.wd X a0) ek) (tv := TEv (Cx.wd X a0) ev) hc hN hi ok (fun s H C cl fp => hg s H C cl fp) (fun s H C cl fp => ht s H C cl fp) (fun s H C cl fp => hk s H C cl fp) (fun s H C cl fp => he s H C cl fp) (noFold hs)) fun _ _ _ h => tDc_of hv h
end
end WC
/-! W13: targets with a star, subscripts and fields as targets, op= -/
namespace WC
open PySem PySem.Spec PyProof.Rows L2
theorem WalksS.shift {prog : Program} {w : World} {A : Around} {I : Addr} {fp wr : List Addr} {G : Array GenState → Array GenState → Prop} {n : Nat} {P : Nat → Value → Prop} {St : Nat → Shared → Prop}
    (W : WalksS prog w A I fp wr G n P St) (k : Nat) (hk : k ≤ n) : WalksS prog w A I fp wr G (n - k) (fun i => P (i + k)) (fun i => St (i + k)) where
  sub := W.sub
  grefl := W.grefl
  gtrans := W.gtrans
  frame := fun i => W.frame (i + k)
  item := fun i s Q E hi st hQ => W.item (i + k) s Q E (by omega) st fun v s' hp hst m => hQ v s' hp (by rw [show i + 1 + k = i + k + 1 by omega]; exact hst) m
  done := fun s Q E st hQ => W.done s Q E (by rw [show n - k + k = n by omega] at st; exact st) hQ
  self := fun i => W.self (i + k)
section
variable {prog : Program} {w : World} {A : Around} {E : Value → Shared → Prop} {s : Shared}
theorem unpackItems_star {t : Addr} {items : Array Value} {i after : Nat} {Q : List Value → Shared → Prop} (hh : A.handled = none) (ht : IsTup s.heap t items) (hle : i + after ≤ items.size) (hz : items.size ≤ sizeLine)
    (hQ : ∀ h' tk L, (∀ b o, s.heap.get? b = some o → h'.get? b = some o) → s.heap.get? L = none → h'.get? L = some { cls := .type "list", data := .seq ((items.toList.drop i).take (items.size - i - after)).toArray } →
      Q (items.toList.take i ++ [.ref L] ++ items.toList.drop (items.size - after)) { s with heap := h', toks := tk }) : wpAny (model prog w) A (unpackItems (.ref t) (i + 1 + after) (some i)) Q E s := by
  have hlt : t ≠ s.heap.objs.size := by obtain ⟨o, ho, _⟩ := ht; exact Nat.ne_of_lt (Heap.lt_size ho)
  unfold unpackItems
  refine wpAny_bind ?_
  unfold notIterableAtAll
  refine wpAny_bind (wpAny_specialOf ht.typeIs slot_tuple_iter.lookup ?_)
  refine wpAny_pure ?_
  simp only [Bool.false_eq_true, if_false]
  refine wpAny_bind (wpAny_holding (iter_tuple ht ?_))
  refine wpAny_bind (wpAny_holding (draw_tuple hlt i 0 _ _ ⟨_, Heap.get?_push_size _ rfl, rfl, rfl⟩ (ht.push _) (by omega) fun h₁ hit₁ hs₁ => ?_))
  have ht₁ : IsTup h₁ t items := (ht.push _).extBut hs₁.extBut hlt
  have hl1 : ((items.toList.drop 0).take i).length = i := by rw [List.drop_zero, List.length_take, Array.length_toList]; omega
  rw [if_neg (by rw [hl1]; omega)]
  have hsz : s.heap.objs.size < h₁.objs.size := by obtain ⟨o, ho, _⟩ := hit₁; exact Heap.lt_size ho
  have htl : t < h₁.objs.size := by obtain ⟨o, ho, _⟩ := ht₁; exact Heap.lt_size ho
  refine wpAny_bind (wpAny_holding (wpAny_collect_iter (n := items.size - i) (.inr (.inr (.inr rfl))) (WalksS.shift (Walks.tuple (A := A.in1) hh s.heap.objs.size t hlt items).toS i (by omega)) (fun _ _ st => let ⟨o, ho, hc, _⟩ := st.1; ⟨o, ho, hc⟩)
    ⟨by rw [Nat.zero_add] at hit₁ ⊢; exact hit₁, ht₁⟩ (fun b hb => by
      have e' : b = s.heap.objs.size ∨ b = t := by simpa using hb
      rcases e' with rfl | rfl
      · exact hsz
      · exact htl) (by simp) (fun s' acc m ha => ?_) (by omega)))
  obtain ⟨ha1, ha2⟩ := ha
  have hacc : acc.toList = items.toList.drop i := by
    apply List.ext_getElem?
    intro j
    rw [List.getElem?_drop, Array.getElem?_toList, Array.getElem?_toList]
    cases q : acc[j]? with
    | some v =>
      have := ha2 j v q
      rw [show i + j = j + i by omega, this]
    | none =>
      have := Array.getElem?_eq_none_iff.mp q
      symm
      rw [Array.getElem?_eq_none_iff]
      omega
  have hl2 : acc.toList.length = items.size - i := by rw [hacc, List.length_drop, Array.length_toList]
  have eaf : i + 1 + after - 1 - i = after := by omega
  simp only [eaf]
  rw [if_neg (by rw [hl2]; omega)]
  have hm : acc.toList.length - after = items.size - i - after := by rw [hl2]
  rw [hm]
  refine wpAny_bind (wpAny_newObj_type ?_ (by show (List.take (items.size - i - after) acc.toList).toArray.size ≤ sizeLine; rw [List.size_toArray, List.length_take]; exact Nat.le_trans (Nat.min_le_right _ _) (by rw [hl2]; omega)))
  refine wpAny_pure ?_
  have es : s' = { s with heap := s'.heap, toks := s'.toks } := by
    obtain ⟨h, g, d, tk, os⟩ := s'
    obtain ⟨m1, m2, m3, m4, m5⟩ := m
    simp only at m2 m3 m4
    subst m2; subst m3; subst m4
    rfl
  have hk : ∀ b o, s.heap.get? b = some o → s'.heap.get? b = some o := fun b o e => by
    have hb : b ≠ s.heap.objs.size := Nat.ne_of_lt (Heap.lt_size e)
    exact m.heap b o (by simpa using hb) (hs₁.2 b hb |>.trans (Heap.get?_push_of_some _ e))
  have hsz' : s.heap.get? s'.heap.objs.size = none := by
    cases q : s.heap.get? s'.heap.objs.size with
    | none => rfl
    | some o => exact absurd (Heap.lt_size (hk _ _ q)) (Nat.lt_irrefl _)
  have r := hQ (s'.heap.push { cls := .type "list", data := .seq (acc.toList.take (items.size - i - after)).toArray }) s'.toks s'.heap.objs.size (fun b o e => Heap.get?_push_of_some _ (hk b o e)) hsz' (by rw [← hacc]; exact Heap.get?_push_size _ rfl)
  rw [es]
  have e1 : items.toList.drop (items.size - after) = acc.toList.drop (items.size - i - after) := by
    rw [hacc, List.drop_drop]; congr 1; omega
  rw [e1] at r
  rw [List.drop_zero]
  exact r
theorem draw_list {it t : Addr} {items : Array Value} (hne : t ≠ it) : ∀ (n i : Nat) (s : Shared) (Q : List Value → Shared → Prop), s.heap.IsListIter it t i → s.heap.IsList t items → i + n ≤ items.size →
    (∀ h', h'.IsListIter it t (i + n) → Heap.SameBut it s.heap h' → Q ((items.toList.drop i).take n) { s with heap := h' }) → wpAny (model prog w) A (draw (.ref it) n) Q E s
  | 0, i, s, Q, hit, _, _, k => wpAny_pure (by simpa using k s.heap hit (Heap.SameBut.refl ..))
  | n + 1, i, s, Q, hit, ht, hle, k => by
    have lt : i < items.size := by omega
    show wpAny _ _ (pyNext (.ref it) >>= _) Q E s
    refine wpAny_bind (wpAny_pyNext_list_item hit ht (x := items[i]) (by simp [lt]) fun h1 hit1 sb1 => wpAny_bind (wpAny_holding (draw_list hne n (i + 1) _ _ hit1 (ht.extBut sb1.extBut hne) (by omega) fun h2 hit2 sb2 => wpAny_pure ?_)))
    have q := k h2 (by rw [show i + (n + 1) = i + 1 + n by omega]; exact hit2) (sb1.trans sb2)
    rw [show items.toList.drop i = items[i] :: items.toList.drop (i + 1) by simp [List.drop_eq_getElem_cons, lt], List.take_succ_cons] at q
    exact q
theorem unpackItems_starL {t : Addr} {items : Array Value} {i after : Nat} {Q : List Value → Shared → Prop} (hh : A.handled = none) (ht : s.heap.IsList t items) (hle : i + after ≤ items.size) (hz : items.size ≤ sizeLine)
    (hQ : ∀ h' tk L, (∀ b o, s.heap.get? b = some o → h'.get? b = some o) → s.heap.get? L = none → h'.get? L = some { cls := .type "list", data := .seq ((items.toList.drop i).take (items.size - i - after)).toArray } →
      Q (items.toList.take i ++ [.ref L] ++ items.toList.drop (items.size - after)) { s with heap := h', toks := tk }) : wpAny (model prog w) A (unpackItems (.ref t) (i + 1 + after) (some i)) Q E s := by
  have hlt : t ≠ s.heap.objs.size := by obtain ⟨o, ho, _⟩ := ht; exact Nat.ne_of_lt (Heap.lt_size ho)
  unfold unpackItems
  refine wpAny_bind ?_
  unfold notIterableAtAll
  refine wpAny_bind (wpAny_specialOf ht.typeIs slot_list_iter.lookup ?_)
  refine wpAny_pure ?_
  simp only [Bool.false_eq_true, if_false]
  refine wpAny_bind (wpAny_holding (wpAny_pyIter_list ht ?_))
  refine wpAny_bind (wpAny_holding (draw_list hlt i 0 _ _ ⟨_, Heap.get?_push_size _ rfl, rfl, rfl⟩ (ht.push _) (by omega) fun h₁ hit₁ hs₁ => ?_))
  have ht₁ : h₁.IsList t items := (ht.push _).extBut hs₁.extBut hlt
  have hl1 : ((items.toList.drop 0).take i).length = i := by rw [List.drop_zero, List.length_take, Array.length_toList]; omega
  rw [if_neg (by rw [hl1]; omega)]
  have hsz : s.heap.objs.size < h₁.objs.size := by obtain ⟨o, ho, _⟩ := hit₁; exact Heap.lt_size ho
  have htl : t < h₁.objs.size := by obtain ⟨o, ho, _⟩ := ht₁; exact Heap.lt_size ho
  refine wpAny_bind (wpAny_holding (wpAny_collect_iter (n := items.size - i) (.inr (.inr (.inl rfl))) (WalksS.shift (Walks.list (A := A.in1) hh s.heap.objs.size t hlt items).toS i (by omega)) (fun _ _ st => let ⟨o, ho, hc, _⟩ := st.1; ⟨o, ho, hc⟩)
    ⟨by rw [Nat.zero_add] at hit₁ ⊢; exact hit₁, ht₁⟩ (fun b hb => by
      have e' : b = s.heap.objs.size ∨ b = t := by simpa using hb
      rcases e' with rfl | rfl
      · exact hsz
      · exact htl) (by simp) (fun s' acc m ha => ?_) (by omega)))
  obtain ⟨ha1, ha2⟩ := ha
  have hacc : acc.toList = items.toList.drop i := by
    apply List.ext_getElem?
    intro j
    rw [List.getElem?_drop, Array.getElem?_toList, Array.getElem?_toList]
    cases q : acc[j]? with
    | some v =>
      have := ha2 j v q
      rw [show i + j = j + i by omega, this]
    | none =>
      have := Array.getElem?_eq_none_iff.mp q
      symm
      rw [Array.getElem?_eq_none_iff]
      omega
  have hl2 : acc.toList.length = items.size - i := by rw [hacc, List.length_drop, Array.length_toList]
  have eaf : i + 1 + after - 1 - i = after := by omega
  simp only [eaf]
  rw [if_neg (by rw [hl2]; omega)]
  have hm : acc.toList.length - after = items.size - i - after := by rw [hl2]
  rw [hm]
  refine wpAny_bind (wpAny_newObj_type ?_ (by show (List.take (items.size - i - after) acc.toList).toArray.size ≤ sizeLine; rw [List.size_toArray, List.length_take]; exact Nat.le_trans (Nat.min_le_right _ _) (by rw [hl2]; omega)))
  refine wpAny_pure ?_
  have es : s' = { s with heap := s'.heap, toks := s'.toks } := by
    obtain ⟨h, g, d, tk, os⟩ := s'
    obtain ⟨m1, m2, m3, m4, m5⟩ := m
    simp only at m2 m3 m4
    subst m2; subst m3; subst m4
    rfl
  have hk : ∀ b o, s.heap.get? b = some o → s'.heap.get? b = some o := fun b o e => by
    have hb : b ≠ s.heap.objs.size := Nat.ne_of_lt (Heap.lt_size e)
    exact m.heap b o (by simpa using hb) (hs₁.2 b hb |>.trans (Heap.get?_push_of_some _ e))
  have hsz' : s.heap.get? s'.heap.objs.size = none := by
    cases q : s.heap.get? s'.heap.objs.size with
    | none => rfl
    | some o => exact absurd (Heap.lt_size (hk _ _ q)) (Nat.lt_irrefl _)
  have r := hQ (s'.heap.push { cls := .type "list", data := .seq (acc.toList.take (items.size - i - after)).toArray }) s'.toks s'.heap.objs.size (fun b o e => Heap.get?_push_of_some _ (hk b o e)) hsz' (by rw [← hacc]; exact Heap.get?_push_size _ rfl)
  rw [es]
  have e1 : items.toList.drop (items.size - after) = acc.toList.drop (items.size - i - after) := by
    rw [hacc, List.drop_drop]; congr 1; omega
  rw [e1] at r
  rw [List.drop_zero]
  exact r
end
section
variable {X : Cx} {a0 : Addr} {a b e o lo hi tg : Expr} {es : List Expr} {pos p p2 apos cpos tpos : Pos}
def gStar (K : PySem.W.Frag) (i after : Nat) (t : TGs) : TG := fun v σ H Q => ∃ a xs, v = .ref a ∧ (SqT K H a xs ∨ SqL K H a xs) ∧ i + after ≤ xs.length ∧
  ∀ p, H p = none → t (xs.take i ++ [.ref p] ++ xs.drop (xs.length - after)) σ (upd H p (.lst ((xs.drop i).take (xs.length - i - after)))) Q
theorem Vals.take {xs : List V} {us : List Value} (r : Vals xs us) : ∀ n, Vals (xs.take n) (us.take n) := by
  induction r with
  | nil => intro n; simp; exact .nil
  | cons r _ ih => intro n; cases n with
    | zero => exact .nil
    | succ n => exact .cons r (ih n)
theorem Vals.drop {xs : List V} {us : List Value} (r : Vals xs us) : ∀ n, Vals (xs.drop n) (us.drop n) := by
  induction r with
  | nil => intro n; simp; exact .nil
  | cons r t ih => intro n; cases n with
    | zero => exact .cons r t
    | succ n => exact ih n
theorem Vals.app {xs : List V} {us : List Value} (r : Vals xs us) {ys vs} (q : Vals ys vs) : Vals (xs ++ ys) (us ++ vs) := by
  induction r with
  | nil => exact q
  | cons r _ ih => exact .cons r ih
theorem pg_star {es : List Expr} {k : Nat} {t : TGs} {i after : Nat} (hc : X.calm = true) (h : PGs X es t) (hn : (assignEach es X.env).length = i + 1 + after) (hst : (assignEach es X.env).findIdx? (·.1) = some i) :
    PG X (.Tuple es k pos) (gStar X.K i after t) := by
  refine ⟨fun pins s σ H v u Q I r hw => ?_⟩
  obtain ⟨a, xs, e1, hq, hl, hw⟩ := hw
  subst e1
  cases r
  have fin : ∀ its : List Value, Vals xs its → xs.length ≤ sizeLine → ∀ h' tk L, (∀ b o, s.heap.get? b = some o → h'.get? b = some o) → s.heap.get? L = none → h'.get? L = some { cls := .type "list", data := .seq ((its.toArray.toList.drop i).take (its.toArray.size - i - after)).toArray } →
      wpAny (model X.prog X.w) X.A (assignInOrder ((assignEach es X.env).map (·.2)) (its.toArray.toList.take i ++ [.ref L] ++ its.toArray.toList.drop (its.toArray.size - after))) (fun _ s' => ∃ σ' H', Inv X pins σ' H' s' ∧ Q σ' H') X.xe { s with heap := h', toks := tk } := fun its rv hz h' tk L hk hL hget => by
    have hlen : xs.length = its.length := rv.length
    have hn' : H L = none := I.hok.gone hL
    have eL : its.toArray.toList = its := by simp
    rw [eL] at hget ⊢
    have es : its.toArray.size = xs.length := by simp [hlen]
    rw [es] at hget ⊢
    have I1 : Inv X pins σ (upd H L (.lst ((xs.drop i).take (xs.length - i - after)))) { s with heap := h', toks := tk } := by
      refine I.laidN hk hL hn' ⟨?_, _, 0, ((Vals.drop rv i).take (xs.length - i - after)), ?_⟩
      · rw [List.length_take]; exact Nat.le_trans (Nat.min_le_right _ _) (by rw [List.length_drop]; omega)
      · exact hget
    refine h.run pins _ σ _ _ _ Q I1 ?_ (hw L hn')
    exact Vals.app (Vals.app (Vals.take rv i) (.cons (show RelV (.ref L) (.ref L) from rfl) .nil)) (Vals.drop rv _)
  rw [assign_Tuple]
  refine wpAny_bind (wpAny_standAt ?_)
  unfold unpack
  rw [hn, hst]
  rcases hq with hq | hq
  · obtain ⟨its, rv, ht, hz⟩ := I.tuple hq
    have hlen : xs.length = its.length := rv.length
    exact wpAny_bind (wpAny_holding (unpackItems_star (I.ok.hd hc) ht (by simpa [← hlen] using hl) (by simpa [← hlen] using hz) (fin its rv hz)))
  · obtain ⟨its, rv, ht, hz⟩ := I.list hq
    have hlen : xs.length = its.length := rv.length
    exact wpAny_bind (wpAny_holding (unpackItems_starL (I.ok.hd hc) ht.isList (by simpa [← hlen] using hl) (by simpa [← hlen] using hz) (fin its rv hz)))
theorem pgs_starC {t : TG} {u : TGs} (h1 : PG X e t) (h2 : PGs X es u) : PGs X (.Starred e p :: es) (gCons t u) := by
  refine ⟨fun pins s σ H vs us Q I r h => ?_⟩
  obtain ⟨v, vr, e1, h⟩ := h
  subst e1
  cases r with
  | cons r rr =>
    have hs : (assignEach (.Starred e p :: es) X.env).map (·.2) = assign e X.env :: (assignEach es X.env).map (·.2) := rfl
    rw [hs]
    refine assignInOrder_cons (thn (h1.run pins s σ H _ _ _ I r h) fun _ s1 ⟨σ1, H1, I1, q1⟩ => ?_)
    exact h2.run pins s1 σ1 H1 _ _ Q I1 rr q1
theorem mgs_starC {is js : List Nat} {f : AG} {g : AGs} (ha : MG X a0 e is f) (hb : MGs X a0 es js g) : MGs X a0 (.Starred e p :: es) (is ++ js) (gaCons f g) :=
  PGs.imp (pgs_starC ha hb) fun xs σ H Q ⟨μ, vs, s, ah, hs, hr, rv, p⟩ => by
    unfold gaCons at p
    split at p
    · cases rv with
      | cons r t =>
        refine ⟨_, _, rfl, μ, _, s, ah, hs, hr, r, (PostG.bind p).mono fun σ1 H1 ⟨μ1, s1, h1, e1, hr1, r1, p1⟩ => ?_⟩
        exact ⟨μ1, _, s1, h1, r1.1, hr1, t.ext e1, p1.weak fun _ _ _ _ z => ⟨z.1, (r1.2.mono fun i hi => List.mem_append_left _ hi).trans (z.2.mono fun i hi => List.mem_append_right _ hi)⟩⟩
    · exact p.elim
def starIx : List Expr → Option Nat
  | [] => none
  | .Starred _ _ :: _ => some 0
  | _ :: r => (starIx r).map (· + 1)
theorem starIx_ok {env : Env} : ∀ {es : List Expr}, (assignEach es env).findIdx? (·.1) = starIx es
  | [] => rfl
  | e :: es => by
    cases q : noStar e with
    | true =>
      rw [assign_cons q, List.findIdx?_cons, starIx_ok]
      cases e <;> first | rfl | (cases q)
    | false => cases e <;> first | rfl | (cases q)
def starOf (v : AV) (h : AH) : Option (List AV) := match v with
  | .tup xs => some xs
  | .ref n => (match h.get n with
    | some (.lst xs) => some xs
    | _ => none)
  | _ => none
theorem HR.star {W μ ah H} (hr : HR W μ ah H) {v : AV} {xs : List AV} {x : V} (hg : starOf v ah = some xs) (r : Rl W μ H v x) : ∃ a ys, x = .ref a ∧ (SqT W.K H a ys ∨ SqL W.K H a ys) ∧ Rls W μ H xs ys := by
  unfold starOf at hg
  split at hg
  · cases hg
    cases r with
    | tup h r => exact ⟨_, _, rfl, .inl h, r⟩
  · split at hg
    · rename_i g
      cases hg
      obtain ⟨a, ys, rfl, _, z1, z2⟩ := hr.lst g r
      exact ⟨a, ys, rfl, .inr (.of z1), z2⟩
    · cases hg
  · cases hg
def gaStar (i after : Nat) (g : AGs) : AG := fun v s h => match starOf v h with
  | some xs => if i + after ≤ xs.length then g (xs.take i ++ [.ref h.n] ++ xs.drop (xs.length - after)) s (h.push (.lst ((xs.drop i).take (xs.length - i - after)))) else .stuck
  | none => .stuck
theorem mg_star {k : Nat} {is : List Nat} {g : AGs} {i after : Nat} (hc : X.calm = true) (h : MGs X a0 es is g) (hs : starIx es = some i) (hl : es.length = i + 1 + after) : MG X a0 (.Tuple es k pos) is (gaStar i after g) :=
  PG.imp (pg_star hc h (assign_len.trans hl) (starIx_ok.trans hs)) fun x σ H Q ⟨μ, v, s, ah, hs, hr, rv, p⟩ => by
    unfold gaStar at p
    split at p
    · rename_i xs hg
      split at p
      · rename_i hl
        obtain ⟨a, ys, rfl, hq, r⟩ := hr.star hg rv
        refine ⟨a, ys, rfl, hq, r.length ▸ hl, fun q hq => ?_⟩
        have e : Ext (Cx.wd X a0) μ H (μ ++ [q]) (upd H q (.lst ((ys.drop i).take (ys.length - i - after)))) := Ext.upd_new hq
        have el : xs.length = ys.length := r.length
        have r2 := ((r.drop i).take (ys.length - i - after))
        rw [el] at p
        have R := hr.push (o := .lst ((ys.drop i).take (ys.length - i - after))) (ao := .lst ((xs.drop i).take (ys.length - i - after))) hq ⟨_, upd_same, r2.ext e⟩
        exact ⟨_, _, s, _, hs.ext e, R, (((r.take i).ext e).append (.cons (.ref hr.last) .nil)).append ((r.drop (ys.length - after)).ext e), p.ext e⟩
      · exact p.elim
    · exact p.elim
/-! ### o[i] = v, o.f = v, name op= e -/
def aSetIx (o i v : AV) (h : AH) : Ex AV := match o with
  | .ref n => (match h.get n with
    | some (.lst xs) => (match i with
      | .int k => (match ixN xs.length k with
        | some j => .ok .non (h.set n (.lst (xs.set j v)))
        | none => .stuck)
      | _ => .stuck)
    | some (.dct kvs) => (match toKey i with
      | some k => if kvs.length < sizeLine then .ok .non (h.set n (.dct (putA kvs k v))) else .stuck
      | none => .stuck)
    | _ => .stuck)
  | _ => .stuck
def rSetA (W : Wd) : TSet := fun o i v H Q => ∃ μ o' i' v' ah, HR W μ ah H ∧ Rl W μ H o' o ∧ Rl W μ H i' i ∧ Rl W μ H v' v ∧ PostG W (fun _ _ _ _ => True) μ H (aSetIx o' i' v' ah) (fun (_ : Unit) H' => Q H')
theorem set_a (hu : X.A.units + 1 < cLine) : PSet X (rSetA (Cx.wd X a0)) := by
  intro pins s σ H o i v ov iv u Q I ro ri rv ⟨μ, o', i', v', ah, hr, r1, r2, r3, p⟩
  unfold aSetIx at p
  split at p
  · split at p
    · rename_i xs g
      split at p
      · split at p
        · rename_i k _ j e
          obtain ⟨a, ys, rfl, hn, z1, z2⟩ := hr.lst g r1
          cases r2
          obtain ⟨E, R⟩ := setLst hr g hn z1 z2 (z2.set j r3)
          exact set_list pins s σ H _ _ v ov iv u Q I ro ri rv ⟨a, ys, k, j, rfl, rfl, z1, by rw [← z2.length]; exact e, p _ _ () E R trivial⟩
        · exact p.elim
      · exact p.elim
    · rename_i kvs g
      split at p
      · rename_i k q
        split at p
        · rename_i hl
          obtain ⟨a, ys, rfl, hn, z1, z2⟩ := hr.dct g r1
          obtain ⟨E, R⟩ := setDct hr g hn z1 z2 (putA_rl k r3 z2)
          exact set_dict hu pins s σ H _ _ v ov iv u Q I ro ri rv ⟨a, _, rfl, .inl ⟨ys, k, z1, toKey_ok r2 q, z2.length ▸ hl, rfl⟩, p _ _ () E R trivial⟩
        · exact p.elim
      · exact p.elim
    · exact p.elim
  · exact p.elim
def gaSub (f g : AE) : AG := fun v s h => (f s h).bind fun o h1 => (g s h1).bind fun i h2 => (aSetIx o i v h2).bind fun _ h3 => .ok s h3
def notSlice2 : Expr → Bool
  | .Slice .. => false
  | _ => true
theorem mg_sub {f g : AE} (hu : X.A.units + 1 < cLine) (ho : ME X a0 o f) (hi : ME X a0 a g) (hs : notSlice a = true) : MG X a0 (.Subscript o a pos) [] (gaSub f g) :=
  PG.imp (pg_sub ho hi (set_a hu) (by intro v; cases a <;> first | rfl | (cases hs))) fun x σ H Q ⟨μ, v, s, ah, hs, hr, rv, p⟩ => ⟨μ, s, ah, hs, hr, (PostG.bind p).mono fun y H1 ⟨μ1, w, h1, e1, hr1, r1, p1⟩ =>
    ⟨μ1, s, h1, hs.ext e1, hr1, (PostG.bind p1).mono fun z H2 ⟨μ2, w2, h2, e2, hr2, r2, p2⟩ => by
      refine ⟨μ2, w, w2, v, h2, hr2, r1.ext e2, r2, rv.ext (e1.trans e2), ?_⟩
      cases q : aSetIx w w2 v h2 with
      | stuck => rw [q] at p2; exact p2.elim
      | ok w3 h3 =>
        rw [q] at p2
        exact fun μ' H' _ e R _ => p2 μ' H' σ e R ⟨((hs.ext e1).ext e2).ext e, .refl⟩⟩⟩
theorem pg_fld {ta : TE} {f : Str} (ha : PE X o ta) : PG X (.Attribute o f pos) (fun v σ H Q => ta σ H fun x H2 => ∃ a C dx fs, x = .ref a ∧ H2 a = some (.ins C dx fs) ∧ Cls X.K C ∧ NoAttr X.K C f ∧ fs.length < 1000 ∧ Q σ (upd H2 a (.ins C dx (putF f v fs)))) := by
  refine ⟨fun pins s σ H v u Q I r h => ?_⟩
  show wpAny _ _ (do
    let ov ← holding [u] (eval o X.env)
    standAt pos.atName
    holding [u, ov] (setAttr ov f u)
    release [u, ov] []) _ _ _
  refine wpAny_bind (wpAny_holding (thn (ha.run pins s σ H _ I h) fun ov s1 ⟨x, H1, I1, rx, a, C, dx, fs, ex, ea, c, n, l, q⟩ => ?_))
  subst ex
  obtain rfl : ov = Value.ref a := rx
  refine wpAny_bind (wpAny_standAt (wpAny_bind (wpAny_holding (setattr_ok I1 ea c n l r fun s2 I2 => ?_))))
  exact wpAny_release ⟨σ, _, I2, q⟩
def gaFld (f : AE) (name : Str) (no : Str → Str → Bool) : AG := fun v s h => (f s h).bind fun o h1 => (aSetF name no v o h1).bind fun _ h2 => .ok s h2
theorem mg_fld {f : AE} {name : Str} {no : Str → Str → Bool} (hk : ClsFld X.K no) (ho : ME X a0 o f) : MG X a0 (.Attribute o name pos) [] (gaFld f name no) :=
  PG.imp (pg_fld ho) fun x σ H Q ⟨μ, v, s, ah, hs, hr, rv, p⟩ => ⟨μ, s, ah, hs, hr, (PostG.bind p).mono fun y H1 ⟨μ1, w, h1, e1, hr1, r1, p1⟩ => by
    unfold aSetF at p1
    split at p1
    · split at p1
      · rename_i C fs g
        split at p1
        · rename_i hno
          split at p1
          · rename_i hl
            obtain ⟨a, dx, ys, rfl, hn, z1, z2⟩ := hr1.ins g r1
            have ry := rv.ext e1
            have e : Ext (Cx.wd X a0) μ1 H1 μ1 (upd H1 a (.ins (He.ga X.K C) dx (putF name x ys))) := Ext.upd_mut (ao := .ins C fs) ⟨dx, ys, z1, z2⟩
            have R := hr1.set (ao := .ins C (aPutF name v fs)) g hn (o := .ins (He.ga X.K C) dx (putF name x ys)) ⟨dx, _, upd_same, Rks.ext e (Rks.putF ry z2)⟩
            exact ⟨a, _, dx, ys, rfl, z1, (hk C name hno).1, (hk C name hno).2, z2.length ▸ hl, p1 _ _ σ e R ⟨(hs.ext e1).ext e, .refl⟩⟩
          · exact p1.elim
        · exact p1.elim
      · exact p1.elim
    · exact p1.elim⟩
end
end WC
/-! W14: == of dicts, written dicts -/
namespace WC
open PySem PySem.Spec PySem.W PyProof.Rows PyProof.V L2
/-! ### == where dicts are met -/
def dqL (g : AV → AV → Option Bool) (ls : List (Key × AV)) : List (Key × AV) → Option Bool
  | [] => some true
  | (k, v) :: r => match valA ls k with
    | none => some false
    | some y => match g v y, dqL g ls r with
      | some e, some b => some (e && b)
      | _, _ => none
def dqV : Nat → AH → AV → AV → Option Bool
  | 0, _, _, _ => none
  | f + 1, h, a, b => match a, b with
    | .ref m, .ref n => if Nat.beq m n = true then some true else (match h.get m, h.get n with
      | some (.dct ks), some (.dct ls) => if ks.length = ls.length then dqL (dqV f h) ls ks else some false
      | _, _ => aEqB a b h)
    | _, _ => aEqB a b h
def dqTop (a b : AV) (h : AH) : Option (Option Bool) := match a, b with
  | .ref m, .ref n => (match h.get m, h.get n with
    | some (.dct ks), some (.dct ls) => some (if ks.length = ls.length then dqL (dqV 20 h) ls ks else some false)
    | _, _ => none)
  | _, _ => none
/-- texts, sign by sign -/
def nlEq : List Nat → List Nat → Bool
  | [], [] => true
  | x :: xs, y :: ys => match Nat.beq x y with
    | true => nlEq xs ys
    | false => false
  | _, _ => false
theorem nlEq_iff : ∀ {xs ys : List Nat}, nlEq xs ys = decide (xs = ys)
  | [], [] => rfl
  | [], _ :: _ => by simp [nlEq]
  | _ :: _, [] => by simp [nlEq]
  | x :: xs, y :: ys => by
    unfold nlEq
    rw [PySem.W.BT.beq_eq]
    by_cases h : x = y
    · subst h
      simp only [decide_true]
      rw [nlEq_iff]
      simp
    · simp [h]
def sEq (a b : PySem.Str) : Bool := nlEq a.cps.toList b.cps.toList
theorem sEq_eq (a b : PySem.Str) : sEq a b = decide (a = b) := by
  unfold sEq
  rw [nlEq_iff, Bool.eq_iff_iff, decide_eq_true_eq, decide_eq_true_eq]
  obtain ⟨⟨a⟩⟩ := a
  obtain ⟨⟨b⟩⟩ := b
  simp
/-- == of two flat values of a kind -/
def flEq : AV → AV → Option Bool
  | .str x, .str y => some (sEq x y)
  | .int i, .int j => some (decide (i = j))
  | .bl a, .bl b => some (decide (a = b))
  | .non, .non => some true
  | .non, .int _ => some false
  | .int _, .non => some false
  | .non, .bl _ => some false
  | .bl _, .non => some false
  | .non, .str _ => some false
  | .str _, .non => some false
  | .int _, .str _ => some false
  | .str _, .int _ => some false
  | .bl _, .str _ => some false
  | .str _, .bl _ => some false
  | _, _ => none
theorem flEq_ok {W : Wd} {μ : List Addr} {H : Hp} {a b : AV} {x y : V} {k : Bool} (ra : Rl W μ H a x) (rb : Rl W μ H b y) (e : flEq a b = some k) : scal x y = true ∧ k = decide (x = y) := by
  unfold flEq at e
  split at e
  · cases ra; cases rb; cases e
    rw [sEq_eq]
    exact ⟨rfl, by rw [Bool.eq_iff_iff]; simp⟩
  · cases ra; cases rb; cases e
    exact ⟨rfl, by rw [Bool.eq_iff_iff]; simp⟩
  · cases ra; cases rb; cases e
    exact ⟨rfl, by rw [Bool.eq_iff_iff]; simp⟩
  · cases ra; cases rb; cases e
    exact ⟨rfl, rfl⟩
  all_goals first
    | (cases e; done)
    | (cases ra; cases rb; cases e; exact ⟨rfl, rfl⟩)
    | (cases ra; cases rb; cases e; exact ⟨rfl, by simp⟩)
def aEqX : AO2 := fun a b h => match flEq a b with
  | some k => .ok (.bl k) h
  | none => (match dqTop a b h with
    | some (some k) => .ok (.bl k) h
    | some none => .stuck
    | none => aEq a b h)
def aNeX : AO2 := fun a b h => match flEq a b with
  | some k => .ok (.bl (!k)) h
  | none => (match dqTop a b h with
    | some (some k) => .ok (.bl (!k)) h
    | some none => .stuck
    | none => aNe a b h)
section
variable {X : Cx} {a0 : Addr} {pins : List (Addr × Obj)} {σ : L2.St} {H : Hp} {s : Shared} {μ : List Addr} {ah : AH}
theorem eqB_at (I : Inv X pins σ H s) (R : HR (Cx.wd X a0) μ ah H) {A : Around} (hu : A.units + 64 < cLine) {a b : AV} {x y : V} {v u : Value} {k : Bool} (ra : Rl (Cx.wd X a0) μ H a x) (rb : Rl (Cx.wd X a0) μ H b y) (rx : RelV x v) (ry : RelV y u) (e : aEqB a b ah = some k) :
    SeqAt.EqP X.prog X.w A s v u k := by
  obtain ⟨d, d', h1, h2, h3, h4, rfl⟩ := aEqB_ok R ra rb e
  obtain ⟨as, r1⟩ := Dp.reads I d x v h1 rx
  obtain ⟨bs, r2⟩ := Dp.reads I d' y u h2 ry
  exact (SeqAt.eqAt_reads d d' A s v u as bs r1 r2 (SeqAt.canLay_of_shaped h3) (SeqAt.canLay_of_shaped h4) (SeqAt.room_of_shaped h3 hu)).eqP
def HitsOk (X : Cx) (s : Shared) (A : Around) (ms : List (Key × V)) (ns : List (Key × V)) (b : Bool) : Prop := ∀ {va vb : List (Key × Value)}, KV ns va → KV ms vb → PySem.W.KeqHitsP X.prog X.w A s vb va b
theorem KV.look {ms : List (Key × V)} {vb : List (Key × Value)} (r : KV ms vb) (k : Key) : (valV ms k = none ∧ valueAt vb k = none) ∨ ∃ z y, valV ms k = some z ∧ valueAt vb k = some y ∧ RelV z y := by
  have h := r.val k
  cases e : valV ms k with
  | none =>
    rw [e] at h
    cases q : valueAt vb k with
    | none => exact .inl ⟨rfl, rfl⟩
    | some y =>
      rw [q] at h
      cases h
  | some z =>
    rw [e] at h
    obtain ⟨y, h1, h2⟩ := h.some_of
    exact .inr ⟨z, y, rfl, h1, h2⟩
theorem dqL_ok {A : Around} {g : AV → AV → Option Bool} (ih : ∀ (a b : AV) (x y : V) (v u : Value) (k : Bool), Rl (Cx.wd X a0) μ H a x → Rl (Cx.wd X a0) μ H b y → RelV x v → RelV y u → g a b = some k → SeqAt.EqP X.prog X.w A s v u k) {ls : List (Key × AV)} {ns : List (Key × V)} (r1 : Rks (Cx.wd X a0) μ H ls ns) :
    ∀ {ks : List (Key × AV)} {ms : List (Key × V)} {k : Bool}, Rks (Cx.wd X a0) μ H ks ms → dqL g ls ks = some k → HitsOk X s A ns ms k
  | _, _, _, .nil, e => by
    intro wa wb
    simp only [dqL] at e
    cases e
    unfold KV at wa
    cases wa
    exact .nil
  | _, _, _, .cons (k := key) r t, e => by
    intro wa wb
    unfold KV at wa
    cases wa with
    | @cons _ pq _ qs hd tl =>
      obtain ⟨key', v⟩ := pq
      obtain ⟨hk, rv⟩ := hd
      have hk' : key = key' := hk
      subst hk'
      unfold dqL at e
      have vl := r1.val (k := key)
      split at e
      · rename_i hn
        cases e
        rcases vl with ⟨_, h2⟩ | ⟨y, z', h1, _, _⟩
        · rcases KV.look wb key with ⟨_, g2⟩ | ⟨z, y, g1, _, _⟩
          · exact .miss g2
          · rw [h2] at g1; cases g1
        · rw [hn] at h1; cases h1
      · rename_i y hy
        split at e
        · rename_i e1 b1 q1 q2
          cases e
          rcases vl with ⟨h1, _⟩ | ⟨y', z', h1, h2, h3⟩
          · rw [hy] at h1; cases h1
          · rw [hy] at h1; cases h1
            rcases KV.look wb key with ⟨g1, _⟩ | ⟨z2, y2, g1, g2, g3⟩
            · rw [h2] at g1; cases g1
            · rw [h2] at g1; cases g1
              exact .hit g2 (ih _ _ _ _ _ _ _ r h3 rv g3 q1) (dqL_ok ih r1 t q2 tl wb)
        · cases e
theorem Rks.len {W : Wd} {κ : Type} : ∀ {xs : List (κ × AV)} {ys : List (κ × V)}, Rks W μ H xs ys → xs.length = ys.length
  | _, _, .nil => rfl
  | _, _, .cons _ t => by simp [Rks.len t]
/-- both dicts' parts -/
theorem dq_dicts (I : Inv X pins σ H s) {A : Around} {g : AV → AV → Option Bool} (ih : ∀ (a b : AV) (x y : V) (v u : Value) (k : Bool), Rl (Cx.wd X a0) μ H a x → Rl (Cx.wd X a0) μ H b y → RelV x v → RelV y u → g a b = some k → SeqAt.EqP X.prog X.w A s v u k)
    {ks ls : List (Key × AV)} {ms ns : List (Key × V)} {p q : Addr} {k : Bool} (hp : H p = some (.dK ms)) (hq : H q = some (.dK ns)) (r1 : Rks (Cx.wd X a0) μ H ks ms) (r2 : Rks (Cx.wd X a0) μ H ls ns) (e : (if ks.length = ls.length then dqL g ls ks else some false) = some k) :
    ∃ ka kb r, (p == sysModules) = false ∧ (q == sysModules) = false ∧ s.heap.DictOf (mixKind X.prog X.w) p ka ∧ s.heap.DictOf (mixKind X.prog X.w) q kb ∧ (ka.length = kb.length → PySem.W.KeqHitsP X.prog X.w A s kb ka r) ∧ (ka.length == kb.length && r) = k := by
  obtain ⟨_, ya, va, wa, da⟩ := (show ObjOk X.prog X.w H s.heap p (.dK ms) from I.hok p _ hp)
  obtain ⟨_, yb, vb, wb, db⟩ := (show ObjOk X.prog X.w H s.heap q (.dK ns) from I.hok q _ hq)
  have l1 := r1.len
  have l2 := r2.len
  have la := wa.length
  have lb := wb.length
  split at e
  · rename_i hl
    have hl' : va.length = vb.length := by rw [← la, ← lb, ← l1, ← l2]; exact hl
    exact ⟨va, vb, k, ya, yb, da, db, fun _ => dqL_ok ih r2 r1 e wa wb, by rw [hl']; simp⟩
  · rename_i hl
    cases e
    have hl' : ¬ va.length = vb.length := by rw [← la, ← lb, ← l1, ← l2]; exact hl
    exact ⟨va, vb, false, ya, yb, da, db, fun h => absurd h hl', by simp⟩
theorem dqV_ok (I : Inv X pins σ H s) (R : HR (Cx.wd X a0) μ ah H) : ∀ (f : Nat) (A : Around), A.units + f + 64 < cLine → ∀ (a b : AV) (x y : V) (v u : Value) (k : Bool),
    Rl (Cx.wd X a0) μ H a x → Rl (Cx.wd X a0) μ H b y → RelV x v → RelV y u → dqV f ah a b = some k → SeqAt.EqP X.prog X.w A s v u k
  | 0, _, _, _, _, _, _, _, _, _, _, _, _, _, e => by simp [dqV] at e
  | f + 1, A, hu, a, b, x, y, v, u, k, ra, rb, rx, ry, e => by
    have flat : aEqB a b ah = some k → SeqAt.EqP X.prog X.w A s v u k := fun e => eqB_at I R (by omega) ra rb rx ry e
    unfold dqV at e
    split at e
    · rename_i m n
      split at e
      · rename_i hmn
        cases e
        have hmn' : m = n := Nat.eq_of_beq_eq_true hmn
        subst hmn'
        cases ra with
        | ref h1 =>
          cases rb with
          | ref h2 =>
            rw [h1] at h2
            cases h2
            cases (show v = Value.ref _ from rx)
            cases (show u = Value.ref _ from ry)
            exact (SeqAt.EqAt.same _).eqP
      · rename_i hmn
        split at e
        · rename_i ks ls g1 g2
          obtain ⟨p, ms, rfl, hm, hp, r1⟩ := R.dct g1 ra
          obtain ⟨q, ns, rfl, hn, hq, r2⟩ := R.dct g2 rb
          cases (show v = Value.ref _ from rx)
          cases (show u = Value.ref _ from ry)
          obtain ⟨va, vb, r, ya, yb, da, db, hits, hk⟩ := dq_dicts I (A := A.in1) (dqV_ok I R f A.in1 (by show A.units + 1 + f + 64 < cLine; omega)) hp hq r1 r2 e
          have ne : p ≠ q := by
            rintro rfl
            have l1 := List.getElem?_eq_some_iff.mp hm
            have l2 := List.getElem?_eq_some_iff.mp hn
            have := (List.getElem_inj R.nd).mp (l1.2.trans l2.2.symm)
            exact hmn (by rw [this]; exact Nat.beq_refl _)
          refine SeqAt.eqP_refs ne fun E Q hQ => ?_
          refine PySem.W.rcP_dicts (knd := mixKind X.prog X.w) (r := r) ya yb da db (by omega) hits E Q ?_
          rw [hk]
          exact hQ
        · exact flat e
    · exact flat e
end
section
variable {prog : Program} {w : World} {K : Type} [DecidableEq K] {knd : KeyKind prog w K} {A : Around} {E : Value → Shared → Prop} {s : Shared}
/-- != of dicts -/
theorem rcN_dicts {a b : Addr} {ka kb : List (K × Value)} {r : Bool} (ha : (a == sysModules) = false) (hb : (b == sysModules) = false)
    (da : s.heap.DictOf knd a ka) (db : s.heap.DictOf knd b kb) (hu : A.units < cLine) (hits : ka.length = kb.length → PySem.W.KeqHitsP prog w A.in1 s kb ka r) (Q : Value → Shared → Prop) (h : Q (.bool (!(ka.length == kb.length && r))) s) :
    wpAny (model prog w) A (compareOp .NotEq (.ref a) (.ref b)) Q E s := by
  refine wpAny_richCompare_same_room (op := .NotEq) da.typeIs db.typeIs PySem.F.slot_dict_ne
    (wpAny_call_entry PySem.F.slot_dict_ne da.typeIs PySem.F.entry_dict_ne ?_ (PySem.F.args_dict_ne_2 _ _)) hu
  show wpAny _ _ (Builtin.Dict.dictSlotArgs "__ne__" ⟨[.ref a, .ref b], []⟩ >>= _) _ _ s
  refine wpAny_bind ?_
  unfold Builtin.Dict.dictSlotArgs
  refine wpAny_bind (wpAny_notOrdered_dict da.typeIs ?_)
  show wpAny _ _ (pure (Value.ref a, Value.ref b)) _ _ s
  refine wpAny_pure ?_
  refine wpAny_bind (wpAny_isInstance (T := "dict") db.typeIs PySem.F.sub_dict_dict ?_)
  simp only [Bool.not_true, Bool.false_eq_true, if_false]
  refine wpAny_bind (wpAny_pure (wpAny_bind (wpAny_pure ?_)))
  refine wpAny_bind (PySem.W.samePairsP ha hb da db hits ?_)
  refine wpAny_pure ⟨_, rfl, ?_, ?_⟩
  · intro z
    cases z
  · simpa using h
end
section
variable {X : Cx} {a0 : Addr}
theorem dqTop_ok {pins : List (Addr × Obj)} {σ : L2.St} {H : Hp} {s : Shared} {μ : List Addr} {ah : AH} (hu : X.A.units + 100 < cLine) (I : Inv X pins σ H s) (R : HR (Cx.wd X a0) μ ah H) {a b : AV} {x y : V} {v u : Value} {k : Bool}
    (ra : Rl (Cx.wd X a0) μ H a x) (rb : Rl (Cx.wd X a0) μ H b y) (rx : RelV x v) (ry : RelV y u) (e : dqTop a b ah = some (some k)) :
    ∃ p q ka kb r, v = .ref p ∧ u = .ref q ∧ (p == sysModules) = false ∧ (q == sysModules) = false ∧ s.heap.DictOf (mixKind X.prog X.w) p ka ∧ s.heap.DictOf (mixKind X.prog X.w) q kb ∧
      (ka.length = kb.length → PySem.W.KeqHitsP X.prog X.w X.A.in1 s kb ka r) ∧ (ka.length == kb.length && r) = k := by
  unfold dqTop at e
  split at e
  · split at e
    · rename_i ks ls g1 g2
      obtain ⟨p, ms, rfl, hm, hp, r1⟩ := R.dct g1 ra
      obtain ⟨q, ns, rfl, hn, hq, r2⟩ := R.dct g2 rb
      obtain ⟨va, vb, r, h⟩ := dq_dicts I (A := X.A.in1) (dqV_ok I R 20 X.A.in1 (by show X.A.units + 1 + 20 + 64 < cLine; omega)) hp hq r1 r2 (Option.some.inj e)
      exact ⟨p, q, va, vb, r, rx, ry, h⟩
    · cases e
  · cases e
theorem op_aEqX (hu : X.A.units + 100 < cLine) : OpR X (compareOp .Eq) (R2of (Cx.wd X a0) aEqX) := by
  intro pins s σ H x y v u Q I rx ry ⟨μ, a, b, ah, hr, ra, rb, p⟩
  unfold aEqX at p
  split at p
  · rename_i k e
    obtain ⟨hs, rfl⟩ := flEq_ok ra rb e
    exact op_eq pins s σ H x y v u Q I rx ry ⟨hs, p.ret hr .bl⟩
  split at p
  · rename_i k e
    obtain ⟨pa, qa, ka, kb, r, rfl, rfl, ya, yb, da, db, hits, hk⟩ := dqTop_ok hu I hr ra rb rx ry e
    refine PySem.W.rcP_dicts (knd := mixKind X.prog X.w) (r := r) ya yb da db (by omega) hits _ _ ?_
    rw [hk]
    exact ⟨.bl k, H, I, rfl, p.ret hr .bl⟩
  · exact p.elim
  · exact op_aEq (by omega) pins s σ H x y v u Q I rx ry ⟨μ, a, b, ah, hr, ra, rb, p⟩
theorem op_aNeX (hu : X.A.units + 100 < cLine) : OpR X (compareOp .NotEq) (R2of (Cx.wd X a0) aNeX) := by
  intro pins s σ H x y v u Q I rx ry ⟨μ, a, b, ah, hr, ra, rb, p⟩
  unfold aNeX at p
  split at p
  · rename_i k e
    obtain ⟨hs, rfl⟩ := flEq_ok ra rb e
    exact op_ne pins s σ H x y v u Q I rx ry ⟨hs, p.ret hr .bl⟩
  split at p
  · rename_i k e
    obtain ⟨pa, qa, ka, kb, r, rfl, rfl, ya, yb, da, db, hits, hk⟩ := dqTop_ok hu I hr ra rb rx ry e
    refine rcN_dicts (knd := mixKind X.prog X.w) (r := r) ya yb da db (by omega) hits _ ?_
    rw [hk]
    exact ⟨.bl (!k), H, I, rfl, p.ret hr .bl⟩
  · exact p.elim
  · exact op_aNe (by omega) pins s σ H x y v u Q I rx ry ⟨μ, a, b, ah, hr, ra, rb, p⟩
end
/-! ### {k: v, ..} -/
def aPairs : List (AE × AE) → AEnv → AH → Ex (List (AV × AV))
  | [], _, h => .ok [] h
  | (k, v) :: r, s, h => (k s h).bind fun x h1 => (v s h1).bind fun y h2 => (aPairs r s h2).bind fun ps h3 => .ok ((x, y) :: ps) h3
def toKvs : List (AV × AV) → Option (List (Key × AV))
  | [] => some []
  | (k, v) :: r => match toKey k, toKvs r with
    | some x, some q => some ((x, v) :: q)
    | _, _ => none
def mergeA (kvs more : List (Key × AV)) : List (Key × AV) := more.foldl (fun acc kv => putA acc kv.1 kv.2) kvs
def isNew (h : AH) (n : Nat) : Bool := match h.get n with
  | some (.dct []) => true
  | _ => false
def aDisp (ps : List (AE × AE)) : AE := fun s h => (aPairs ps s (h.push (.dct []))).bind fun kvs h1 => match toKvs kvs with
  | some ks => if isNew h1 h.n = true ∧ ks.length ≤ 15 then .ok (.ref h.n) (h1.set h.n (.dct (mergeA [] ks))) else .stuck
  | none => .stuck
section
variable {X : Cx} {a0 : Addr} {pos : Pos}
def rPair (W : Wd) (μ : List Addr) (H : Hp) (a : AV × AV) (b : V × V) : Prop := Rl W μ H a.1 b.1 ∧ Rl W μ H a.2 b.2
inductive Rps (W : Wd) (μ : List Addr) (H : Hp) : List (AV × AV) → List (V × V) → Prop where
  | nil : Rps W μ H [] []
  | cons {a b as bs} : rPair W μ H a b → Rps W μ H as bs → Rps W μ H (a :: as) (b :: bs)
theorem Rps.ext {W μ H μ' H'} (e : Ext W μ H μ' H') : ∀ {as bs}, Rps W μ H as bs → Rps W μ' H' as bs
  | _, _, .nil => .nil
  | _, _, .cons h t => .cons ⟨h.1.ext e, h.2.ext e⟩ (Rps.ext e t)
theorem tPairs_of {W : Wd} : ∀ {ps : List (AE × AE)} {μ : List Addr} {s : AEnv} {σ : L2.St} {ah : AH} {H : Hp} {Q : List (V × V) → Hp → Prop}, SR W μ H s σ → HR W μ ah H → PostG W (Rps W) μ H (aPairs ps s ah) Q →
    tPairs (ps.map fun p => (TEv W p.1, TEv W p.2)) σ H Q
  | [], μ, s, σ, ah, H, Q, hs, R, p => p.ret R .nil
  | (k, v) :: r, μ, s, σ, ah, H, Q, hs, R, p => by
    refine ⟨μ, s, ah, hs, R, (PostG.bind p).mono fun x H1 ⟨μ1, a, h1, e1, R1, ra, p1⟩ => ?_⟩
    refine ⟨μ1, s, h1, hs.ext e1, R1, (PostG.bind p1).mono fun y H2 ⟨μ2, b, h2, e2, R2, rb, p2⟩ => ?_⟩
    refine tPairs_of ((hs.ext e1).ext e2) R2 ((PostG.bind (rel := Rps W) p2).mono fun ps H3 ⟨μ3, c, h3, e3, R3, rc, p3⟩ => ?_)
    exact p3.ret R3 (.cons ⟨(ra.ext e2).ext e3, rb.ext e3⟩ rc)
theorem toKvs_ok {W : Wd} {μ : List Addr} {H : Hp} : ∀ {as : List (AV × AV)} {bs : List (V × V)} {ks : List (Key × AV)}, Rps W μ H as bs → toKvs as = some ks → ∃ ms : List (Key × V), bs = ms.map (fun kv => (kV kv.1, kv.2)) ∧ Rks W μ H ks ms
  | _, _, ks, .nil, e => by cases e; exact ⟨[], rfl, .nil⟩
  | _, _, ks, .cons (a := (k, v)) (b := (x, y)) h t, e => by
    unfold toKvs at e
    split at e
    · rename_i k' q h1 h2
      cases e
      obtain ⟨ms, hb, r⟩ := toKvs_ok t h2
      have hk : x = kV k' := by
        have r1 : Rl W μ H k x := h.1
        cases k with
        | int i => cases h1; cases r1; rfl
        | str z => cases h1; cases r1; rfl
        | _ => cases h1
      exact ⟨(k', y) :: ms, by rw [hb, hk]; rfl, .cons h.2 r⟩
    · cases e
theorem Rks.merge {W : Wd} {μ : List Addr} {H : Hp} : ∀ {more : List (Key × AV)} {ms : List (Key × V)} {kvs : List (Key × AV)} {ns : List (Key × V)}, Rks W μ H more ms → Rks W μ H kvs ns → Rks W μ H (mergeA kvs more) (mergeK ns ms)
  | _, _, _, _, .nil, q => q
  | _, _, kvs, ns, .cons (k := k) (x := x) (y := y) (xs := xs) (ys := ys) r t, q => by
    show Rks W μ H (mergeA (putA kvs k x) xs) (mergeK (putK ns k y) ys)
    exact Rks.merge t (putA_rl k r q)
theorem me_disp {ks : List (Option Expr)} {vs : List Expr} {ps : List (AE × AE)} (h : PPs X pos ks vs (ps.map fun p => (TEv (Cx.wd X a0) p.1, TEv (Cx.wd X a0) p.2))) (h1 : ks.all (·.isSome) = true) (h2 : ks.length = vs.length) (h3 : ks ≠ []) (h4 : ks.length ≤ 15) :
    ME X a0 (.Dict ks vs pos) (aDisp ps) :=
  PE.imp (pe_disp h h1 h2 h3 h4) fun σ H Q ⟨μ, s, ah, hs, R, p⟩ => by
    intro a ha
    have E : Ext (Cx.wd X a0) μ H (μ ++ [a]) (upd H a (.dK [])) := Ext.upd_new ha
    have R1 := R.push (o := .dK []) (ao := .dct []) ha ⟨[], upd_same, .nil⟩
    refine tPairs_of (hs.ext E) R1 ((PostG.bind (rel := Rps (Cx.wd X a0)) (p.ext E)).mono fun bs H2 ⟨μ2, as, h2', e2, R2, rp, p2⟩ => ?_)
    split at p2
    · rename_i kq hk
      split at p2
      · rename_i hn0
        obtain ⟨hn, h15⟩ := hn0
        have hn' : h2'.get ah.n = some (.dct []) := by
          unfold isNew at hn
          split at hn
          · rename_i q; exact q
          · cases hn
        have ra : Rl (Cx.wd X a0) μ2 H2 (.ref ah.n) (.ref a) := (Rl.ref (by rw [R.sz]; simp : (μ ++ [a])[ah.n]? = some a)).ext e2
        obtain ⟨b, ys, hb, hm, hH, ry⟩ := R2.dct hn' ra
        cases hb
        cases ry
        obtain ⟨ms, hbs, rm⟩ := toKvs_ok rp hk
        obtain ⟨e3, R3⟩ := setDct R2 hn' hm hH .nil (Rks.merge rm .nil)
        exact ⟨hH, ms, hbs, rm.len ▸ h15, (p2.ext e3).ret R3 (ra.ext e3)⟩
      · exact p2.elim
    · exact p2.elim
end
end WC
/-! W15: zip(a text, a list, strict=True) -/
namespace PySem
open Sem (wp)
namespace F
theorem typeCall_zip_strict (a b c : Value) : checkTypeCall "zip" ⟨[a, b], [(Str.ofString "strict", c)]⟩ = pure () := by kernel_rfl
theorem newCall_zip_strict (a b c : Value) : checkBuiltinCall "zip.__new__" ⟨[.type "zip", a, b], [(Str.ofString "strict", c)]⟩ = pure () := by kernel_rfl
theorem args_object_init_strict (obj a b c : Value) : argsOk "object.__init__" ⟨[obj, a, b], [(Str.ofString "strict", c)]⟩ := by unfold argsOk; kernel_rfl
end F
/-- a strict zip's cells -/
abbrev IsZipS (h : Heap) (z TI TO : Addr) (f0 : Value) : Prop :=
  h.get? z = some { cls := .type "zip", dict := none, data := .fields #[f0, .bool false, .bool true, .ref TI, .ref TO], slots := #[] }
section
variable {prog : Program} {w : World} {A : Around} {E : Value → Shared → Prop} {s : Shared} {z TI TO i1 i2 it : Addr} {fp fp1 fp2 : List Addr} {n n1 n2 i : Nat} {P P1 P2 : Nat → Value → Prop} {St St1 St2 : Nat → Heap → Prop} {a1 a2 : Value}
theorem nextOrEnd_item {Q : Option Value → Shared → Prop} (D : Draws prog w A it fp n P St) (st : St i s.heap) (hlt : i < n)
    (hQ : ∀ x h' tk, P i x → St (i + 1) h' → Heap.SameBut it s.heap h' → Q (some x) { s with heap := h', toks := tk }) : wpAny (model prog w) A (Builtin.SmallTypes.nextOrEnd (.ref it)) Q E s := by
  unfold Builtin.SmallTypes.nextOrEnd
  exact wpAny_bind (wpAny_attempt (D.item i s _ _ hlt st fun x h' tk a b c => wpAny_pure (hQ x h' tk a b c)))
theorem nextOrEnd_end {Q : Option Value → Shared → Prop} (D : Draws prog w A it fp n P St) (st : St n s.heap)
    (hQ : ∀ h', Heap.ExtBut it s.heap h' → Q none { s with heap := h' }) : wpAny (model prog w) A (Builtin.SmallTypes.nextOrEnd (.ref it)) Q E s := by
  unfold Builtin.SmallTypes.nextOrEnd
  refine wpAny_bind (wpAny_attempt (D.done s _ _ st fun h' e x he => ?_))
  obtain ⟨o, ho, hc⟩ := he
  exact wpAny_bind (wpAny_isInstance (T := "StopIteration") (b := true) ⟨o, ho, hc⟩ isSubtype_stop (wpAny_pure (hQ _ x)))
theorem zipS_next_item {Q : Value → Shared → Prop} (S : ZipSep2 z TI TO i1 i2 fp1 fp2) (D1 : Draws prog w A i1 fp1 n1 P1 St1) (D2 : Draws prog w A i2 fp2 n2 P2 St2)
    (hz : IsZipS s.heap z TI TO .none) (hTI : IsTupOf2 s.heap TI (.ref i1) (.ref i2)) (hTO : IsTupOf2 s.heap TO a1 a2) (st1 : St1 i s.heap) (st2 : St2 i s.heap) (hlt1 : i < n1) (hlt2 : i < n2)
    (hQ : ∀ x1 x2 h' tk, P1 i x1 → P2 i x2 → IsZipS h' z TI TO (rawInt s.heap.objs.size) → IsTupOf2 h' TO x1 x2 → St1 (i + 1) h' → St2 (i + 1) h' → IsTupOf2 h' s.heap.objs.size x1 x2 → h'.objs.size = s.heap.objs.size + 1 →
      (∀ c o, c ≠ z → c ≠ TO → c ≠ i1 → c ≠ i2 → s.heap.get? c = some o → h'.get? c = some o) → Q (.ref s.heap.objs.size) { s with heap := h', toks := tk }) :
    wpAny (model prog w) A (Builtin.«zip.__next__» ⟨[.ref z], []⟩) (fun fin s' => ∃ v, fin = .done (.ret v) ∧ Q v s') E s := by
  obtain ⟨hp, g, d, tk0, os⟩ := s
  show wpAny _ _ (field (.ref z) 2 >>= _) _ _ _
  refine wpAny_bind (wpAny_field hz rfl (x := .bool true) rfl ?_)
  show wpAny _ _ (field (.ref z) 3 >>= _) _ _ _
  refine wpAny_bind (wpAny_field hz rfl (x := .ref TI) rfl ?_)
  refine wpAny_bind (wpAny_seqItems hTI rfl ?_)
  show wpAny _ _ (Builtin.SmallTypes.ownedTupleIsFree (.ref z) >>= _) _ _ _
  refine wpAny_bind ?_
  unfold Builtin.SmallTypes.ownedTupleIsFree
  refine wpAny_bind (wpAny_field hz rfl (x := .none) rfl (wpAny_pure ?_))
  simp only [if_true]
  refine wpAny_bind (wpAny_rule ?_)
  refine wpAny_bind (wpAny_field hz rfl (x := .ref TO) rfl ?_)
  refine wpAny_bind (wpAny_setField_rec hz (by simp) fun g0 hz0 hs0 => ?_)
  replace hz0 : IsZipS g0 z TI TO .ellipsis := hz0
  replace hs0 : Heap.SameBut z hp g0 := hs0
  refine wpAny_bind ?_
  simp only [List.zipIdx_cons, List.zipIdx_nil, List.forIn_cons, List.forIn_nil]
  refine wpAny_bind (wpAny_bind (wpAny_onRaise ?_))
  show wpAny _ _ (Builtin.SmallTypes.nextOrEnd (.ref i1)) _ _ ⟨g0, g, d, tk0, os⟩
  refine nextOrEnd_item D1 (D1.over st1 hs0 S.zf1) hlt1 fun x1 p1 tk1 hx1 sn1 hp1 => ?_
  replace hp1 : Heap.SameBut i1 g0 p1 := hp1
  have hU1 : IsTupOf2 p1 TO a1 a2 := hp1.extBut _ _ S.Ti1 (hs0.extBut _ _ S.TOz hTO)
  refine wpAny_bind (wpAny_seqItems (s := ⟨p1, g, d, tk1, os⟩) hU1 rfl ?_)
  refine wpAny_bind (updateSeq_IsTupOf2 (s := ⟨p1, g, d, tk1, os⟩) hU1 fun g1 hT1 hs1 => ?_)
  replace hT1 : IsTupOf2 g1 TO x1 a2 := hT1
  replace hs1 : Heap.SameBut TO p1 g1 := hs1
  refine wpAny_bind (wpAny_letGo (wpAny_pure ?_))
  refine wpAny_bind (wpAny_bind (wpAny_onRaise ?_))
  show wpAny _ _ (Builtin.SmallTypes.nextOrEnd (.ref i2)) _ _ ⟨g1, g, d, tk1, os⟩
  refine nextOrEnd_item D2 (D2.over (D2.over (D2.over st2 hs0 S.zf2) hp1 S.sep1_2) hs1 S.Tf2) hlt2 fun x2 p2 tk2 hx2 sn2 hp2 => ?_
  replace hp2 : Heap.SameBut i2 g1 p2 := hp2
  have hU2 : IsTupOf2 p2 TO x1 a2 := hp2.extBut _ _ S.Ti2 hT1
  refine wpAny_bind (wpAny_seqItems (s := ⟨p2, g, d, tk2, os⟩) hU2 rfl ?_)
  refine wpAny_bind (updateSeq_IsTupOf2 (s := ⟨p2, g, d, tk2, os⟩) hU2 fun g2 hT2 hs2 => ?_)
  replace hT2 : IsTupOf2 g2 TO x1 x2 := hT2
  replace hs2 : Heap.SameBut TO p2 g2 := hs2
  refine wpAny_bind (wpAny_letGo (wpAny_pure (wpAny_pure ?_)))
  refine wpAny_bind (wpAny_seqItems (s := ⟨g2, g, d, tk2, os⟩) hT2 rfl ?_)
  refine wpAny_bind (wpAny_newTuple ?_)
  have hsz : g2.objs.size = hp.objs.size := by rw [hs2.1, hp2.1, hs1.1, hp1.1, hs0.1]
  have hzz : IsZipS g2 z TI TO .ellipsis := (hs2.extBut _ _ S.TOz.symm (hp2.extBut _ _ S.zi2 (hs1.extBut _ _ S.TOz.symm (hp1.extBut _ _ S.zi1 hz0))))
  have hkk : ∀ c o, c ≠ z → c ≠ TO → c ≠ i1 → c ≠ i2 → hp.get? c = some o → g2.get? c = some o := fun c o cz cT c1 c2 e =>
    (hs2.extBut _ _ cT (hp2.extBut _ _ c2 (hs1.extBut _ _ cT (hp1.extBut _ _ c1 (hs0.extBut _ _ cz e)))))
  have hj1 : St1 (i + 1) g2 := (D1.over (D1.over (D1.over sn1 hs1 S.Tf1) hp2 S.sep2_1) hs2 S.Tf1)
  have hj2 : St2 (i + 1) g2 := (D2.over sn2 hs2 S.Tf2)
  have hzlt : z < g2.objs.size := Heap.lt_size hzz
  show wpAny _ _ (Builtin.SmallTypes.ownedTupleHandOut (.ref z) (.ref g2.objs.size) >>= _) _ _ ⟨g2.push { cls := .type "tuple", data := .seq #[x1, x2] }, g, d, tk2, os⟩
  refine wpAny_bind ?_
  unfold Builtin.SmallTypes.ownedTupleHandOut
  have hz₆ : IsZipS (g2.push { cls := .type "tuple", data := .seq #[x1, x2] }) z TI TO .ellipsis := Heap.get?_push_of_some _ hzz
  refine wpAny_bind (wpAny_setField_rec hz₆ (by simp) fun h₇ hz₇ hs₇ => ?_)
  replace hz₇ : IsZipS h₇ z TI TO (rawInt g2.objs.size) := hz₇
  refine wpAny_setField_rec hz₇ (by simp) fun h₈ hz₈ hs₈ => ?_
  replace hz₈ : IsZipS h₈ z TI TO (rawInt g2.objs.size) := hz₈
  replace hs₇ : Heap.SameBut z (g2.push { cls := .type "tuple", data := .seq #[x1, x2] }) h₇ := hs₇
  replace hs₈ : Heap.SameBut z h₇ h₈ := hs₈
  have up : ∀ c o, c ≠ z → g2.get? c = some o → h₈.get? c = some o := fun c o c1 e => hs₈.extBut _ _ c1 (hs₇.extBut _ _ c1 (Heap.get?_push_of_some _ e))
  have hT₈ : IsTupOf2 h₈ g2.objs.size x1 x2 := hs₈.extBut _ _ (Nat.ne_of_gt hzlt) (hs₇.extBut _ _ (Nat.ne_of_gt hzlt) (Heap.get?_push_size _ rfl))
  have hz8 : h₈.objs.size = g2.objs.size + 1 := by rw [hs₈.1, hs₇.1, Heap.size_push]
  rw [hsz] at hz₈ hT₈ hz8
  refine wpAny_pure ⟨_, rfl, ?_⟩
  show Q (.ref g2.objs.size) ⟨h₈, g, d, tk2, os⟩
  rw [hsz]
  exact hQ x1 x2 h₈ tk2 hx1 hx2 hz₈ (up _ _ S.TOz hT2) (D1.frame _ _ _ hj1 fun b hb o e => up b o (fun q => S.zf1 (q ▸ hb)) e) (D2.frame _ _ _ hj2 fun b hb o e => up b o (fun q => S.zf2 (q ▸ hb)) e) hT₈ hz8 fun c o cz cT c1 c2 e => up c o cz (hkk c o cz cT c1 c2 e)
theorem zipS_next_end {Q : Fin → Shared → Prop} (hh : A.handled = none) (S : ZipSep2 z TI TO i1 i2 fp1 fp2) (D1 : Draws prog w A i1 fp1 n P1 St1) (D2 : Draws prog w A i2 fp2 n P2 St2)
    (hz : IsZipS s.heap z TI TO .none) (hTI : IsTupOf2 s.heap TI (.ref i1) (.ref i2)) (hTO : IsTupOf2 s.heap TO a1 a2) (st1 : St1 n s.heap) (st2 : St2 n s.heap) (hi1 : ∀ c, c ∈ fp2 → c ≠ i1)
    (hE : ∀ h' e, (∀ c o, c ≠ z → c ≠ TO → c ≠ i1 → c ≠ i2 → s.heap.get? c = some o → h'.get? c = some o) → (∃ o, h'.get? e = some o ∧ o.cls = .type "StopIteration") → E (.ref e) { s with heap := h' }) :
    wpAny (model prog w) A (Builtin.«zip.__next__» ⟨[.ref z], []⟩) Q E s := by
  obtain ⟨hp, g, d, tk0, os⟩ := s
  show wpAny _ _ (field (.ref z) 2 >>= _) _ _ _
  refine wpAny_bind (wpAny_field hz rfl (x := .bool true) rfl ?_)
  show wpAny _ _ (field (.ref z) 3 >>= _) _ _ _
  refine wpAny_bind (wpAny_field hz rfl (x := .ref TI) rfl ?_)
  refine wpAny_bind (wpAny_seqItems hTI rfl ?_)
  show wpAny _ _ (Builtin.SmallTypes.ownedTupleIsFree (.ref z) >>= _) _ _ _
  refine wpAny_bind ?_
  unfold Builtin.SmallTypes.ownedTupleIsFree
  refine wpAny_bind (wpAny_field hz rfl (x := .none) rfl (wpAny_pure ?_))
  simp only [if_true]
  refine wpAny_bind (wpAny_rule ?_)
  refine wpAny_bind (wpAny_field hz rfl (x := .ref TO) rfl ?_)
  refine wpAny_bind (wpAny_setField_rec hz (by simp) fun g0 hz0 hs0 => ?_)
  replace hz0 : IsZipS g0 z TI TO .ellipsis := hz0
  replace hs0 : Heap.SameBut z hp g0 := hs0
  refine wpAny_bind ?_
  simp only [List.zipIdx_cons, List.zipIdx_nil, List.forIn_cons, List.forIn_nil]
  refine wpAny_bind (wpAny_bind (wpAny_onRaise ?_))
  show wpAny _ _ (Builtin.SmallTypes.nextOrEnd (.ref i1)) _ _ ⟨g0, g, d, tk0, os⟩
  refine nextOrEnd_end D1 (D1.over st1 hs0 S.zf1) fun q1 hq1 => ?_
  replace hq1 : Heap.ExtBut i1 g0 q1 := hq1
  have hz1 : IsZipS q1 z TI TO .ellipsis := hq1 _ _ S.zi1 hz0
  dsimp only
  refine wpAny_bind (wpAny_setField_rec (s := ⟨q1, g, d, tk0, os⟩) hz1 (by simp) fun q2 hz2 hs2 => ?_)
  replace hs2 : Heap.SameBut z q1 q2 := hs2
  have st2' : St2 n q2 := D2.frame _ _ _ st2 fun b hb o e => hs2.extBut _ _ (fun x => S.zf2 (x ▸ hb)) (hq1 _ _ (hi1 b hb) (hs0.extBut _ _ (fun x => S.zf2 (x ▸ hb)) e))
  refine wpAny_bind ?_
  wp_delta
  rw [if_neg (by decide)]
  simp only [List.drop_succ_cons, List.drop_zero, List.zipIdx_cons, List.zipIdx_nil, List.forIn_cons, List.forIn_nil]
  refine wpAny_bind (wpAny_bind (wpAny_bind (nextOrEnd_end (s := ⟨q2, g, d, tk0, os⟩) D2 st2' fun q3 hq3 => ?_)))
  replace hq3 : Heap.ExtBut i2 q2 q3 := hq3
  simp only [Option.isSome_none, Bool.false_eq_true, if_false]
  refine wpAny_pure (wpAny_pure (wpAny_bind (wpAny_rule ?_)))
  show wpAny _ _ (newExc (.type "StopIteration") [] >>= _) _ _ _
  refine wpAny_bind ?_
  simp only [newExc, newTuple]
  refine wpAny_bind (wpAny_newObj_type ?_ (by size_fits))
  refine wpAny_bind (m := firstArgMember _ _) (wpAny_of_eq (a := Value.none) (by first | rfl | (simp only [firstArgMember]; rfl)) ?_)
  refine wpAny_newObj_type ?_ (by size_fits)
  simp only [raiseNew]
  refine wpAny_bind (wpAny_handled ?_)
  rw [hh]
  refine wpAny_bind (wpAny_pure (wpAny_throw ?_))
  refine hE _ _ (fun c o cz cT c1 c2 x => ?_) ⟨_, Heap.get?_push_size _ rfl, rfl⟩
  exact Heap.get?_push_of_some _ (Heap.get?_push_of_some _ (hq3 _ _ c2 (hs2.extBut _ _ cz (hq1 _ _ c1 (hs0.extBut _ _ cz x)))))
theorem pyNext_zipS_item {Q : Option Value → Shared → Prop} (S : ZipSep2 z TI TO i1 i2 fp1 fp2) (D1 : Draws prog w A.in1 i1 fp1 n1 P1 St1) (D2 : Draws prog w A.in1 i2 fp2 n2 P2 St2)
    (hz : IsZipS s.heap z TI TO .none) (hTI : IsTupOf2 s.heap TI (.ref i1) (.ref i2)) (hTO : IsTupOf2 s.heap TO a1 a2) (st1 : St1 i s.heap) (st2 : St2 i s.heap) (hlt1 : i < n1) (hlt2 : i < n2)
    (hQ : ∀ x1 x2 h' tk, P1 i x1 → P2 i x2 → IsZipS h' z TI TO (rawInt s.heap.objs.size) → IsTupOf2 h' TO x1 x2 → St1 (i + 1) h' → St2 (i + 1) h' → IsTupOf2 h' s.heap.objs.size x1 x2 → h'.objs.size = s.heap.objs.size + 1 →
      (∀ c o, c ≠ z → c ≠ TO → c ≠ i1 → c ≠ i2 → s.heap.get? c = some o → h'.get? c = some o) → Q (some (.ref s.heap.objs.size)) { s with heap := h', toks := tk }) :
    wpAny (model prog w) A (pyNext (.ref z)) Q E s := by
  have hT : s.TypeIs (.ref z) "zip" := ⟨_, hz, rfl⟩
  unfold pyNext
  exact wpAny_bind (wpAny_attempt (wpAny_callSpecial?_slot (name := Str.ofString "__next__") hT F.slot_zip_next
    (wpAny_call_entry F.slot_zip_next hT F.entry_zip_next
      (zipS_next_item S D1 D2 hz hTI hTO st1 st2 hlt1 hlt2 fun x1 x2 h' tk y1 y2 b1 b2 d1 d2 b5 b6 b7 => wpAny_pure (hQ x1 x2 h' tk y1 y2 b1 b2 d1 d2 b5 b6 b7)) (F.args_zip_next_1 _))))
theorem pyNext_zipS_end {Q : Option Value → Shared → Prop} (hh : A.handled = none) (S : ZipSep2 z TI TO i1 i2 fp1 fp2) (D1 : Draws prog w A.in1 i1 fp1 n P1 St1) (D2 : Draws prog w A.in1 i2 fp2 n P2 St2)
    (hz : IsZipS s.heap z TI TO .none) (hTI : IsTupOf2 s.heap TI (.ref i1) (.ref i2)) (hTO : IsTupOf2 s.heap TO a1 a2) (st1 : St1 n s.heap) (st2 : St2 n s.heap) (hi1 : ∀ c, c ∈ fp2 → c ≠ i1)
    (hQ : ∀ h', (∀ c o, c ≠ z → c ≠ TO → c ≠ i1 → c ≠ i2 → s.heap.get? c = some o → h'.get? c = some o) → Q none { s with heap := h' }) : wpAny (model prog w) A (pyNext (.ref z)) Q E s := by
  have hT : s.TypeIs (.ref z) "zip" := ⟨_, hz, rfl⟩
  unfold pyNext
  refine wpAny_bind (wpAny_attempt (wpAny_callSpecial?_slot (name := Str.ofString "__next__") hT F.slot_zip_next
    (wpAny_call_entry F.slot_zip_next hT F.entry_zip_next (zipS_next_end (by first | exact hh | (show A.in1.handled = none; exact hh)) S D1 D2 hz hTI hTO st1 st2 hi1 fun h' e hk he => ?_) (F.args_zip_next_1 _))))
  obtain ⟨o, ho, hc⟩ := he
  refine wpAny_bind (wpAny_isInstance (T := "StopIteration") (b := true) ⟨o, ho, hc⟩ isSubtype_stop ?_)
  exact wpAny_pure (hQ _ hk)
theorem pyIter_zipS {f0 : Value} {Q : Value → Shared → Prop} (hz : IsZipS s.heap z TI TO f0) (h : Q (.ref z) s) : wpAny (model prog w) A (pyIter (.ref z)) Q E s := by
  have hT : s.TypeIs (.ref z) "zip" := ⟨_, hz, rfl⟩
  refine wpAny_pyIter_slot hT F.slot_zip_iter (wpAny_call_entry F.slot_zip_iter hT F.entry_zip_iter ?_ (F.args_zip_iter_1 _))
  show wpAny _ _ (ret (.ref z)) _ _ s
  exact wpAny_pure ⟨_, rfl, "zip", _, hT, F.slot_zip_next.lookup, h⟩
theorem letGo_zipS {elts : List Expr} {x1} {pos : Pos} {T : Addr} {Q : Unit → Shared → Prop} (hz : IsZipS s.heap z TI TO (rawInt T))
    (hQ : ∀ h', IsZipS h' z TI TO .none → Heap.SameBut z s.heap h' → Q () { s with heap := h' }) :
    wpAny (model prog w) A (letOwnedTupleGo (.Tuple elts x1 pos) (.ref z) (.ref T)) Q E s := by
  unfold letOwnedTupleGo
  refine wpAny_bind (wpAny_load hz ?_)
  show wpAny _ _ (if (["enumerate", "zip", "dict_itemiterator", "dict_reverseitemiterator", "odict_iterator", "itertools.zip_longest", "itertools.pairwise"].contains "zip" &&
      (#[rawInt T, .bool false, .bool true, .ref TI, .ref TO] : Array Value)[0]? == some (rawInt T)) = true then _ else _) Q E s
  rw [if_pos (by simp)]
  refine wpAny_bind (wpAny_rule ?_)
  show wpAny _ _ (setField (.ref z) 0 .none) Q E s
  exact wpAny_setField_rec hz (by simp) fun h' hz' hs' => hQ h' hz' hs'
end
/-! the call -/
abbrev zsH1 (h : Heap) (o1 : Obj) : Heap := h.push o1
abbrev zsH2 (h : Heap) (o1 : Obj) (l2 : Addr) : Heap := (zsH1 h o1).push { cls := .type "list_iterator", data := .fields #[.ref l2, .int 0 0] }
abbrev zsH3 (h : Heap) (o1 : Obj) (l2 : Addr) : Heap := (zsH2 h o1 l2).push { cls := .type "tuple", data := .seq #[.ref h.objs.size, .ref (zsH1 h o1).objs.size] }
abbrev zsH4 (h : Heap) (o1 : Obj) (l2 : Addr) : Heap := (zsH3 h o1 l2).push { cls := .type "tuple", data := .seq #[.none, .none] }
abbrev zsH5 (h : Heap) (o1 : Obj) (l2 : Addr) : Heap := (zsH4 h o1 l2).push { cls := .type "zip", data := .fields #[.none, .bool false, .bool true, .ref (zsH2 h o1 l2).objs.size, .ref (zsH3 h o1 l2).objs.size] }
def strItO (x : Str) (t : Tok) : Obj := { cls := .type (if x.cps.all (· < 128) then "str_ascii_iterator" else "str_iterator"), data := .fields #[.str x t, .int 0 0] }
theorem pyIter_strO {prog : Program} {w : World} {A : Around} {E : Value → Shared → Prop} {s : Shared} {x : Str} {t : Tok} {Q : Value → Shared → Prop} (h : Q (.ref s.heap.objs.size) { s with heap := s.heap.push (strItO x t) }) :
    wpAny (model prog w) A (pyIter (.str x t)) Q E s := by
  cases ha : x.cps.all (· < 128)
  · refine wpAny_pyIter_wide ha ?_
    unfold strItO at h
    rw [ha] at h
    exact h
  · refine wpAny_pyIter_ascii ha ?_
    unfold strItO at h
    rw [ha] at h
    exact h
set_option maxHeartbeats 1000000 in
theorem meets_zip_strict (x : Str) (t : Tok) (l2 : Addr) (ys : Array Value) :
    Meets (Builtin.«zip.__new__» ⟨[.type "zip", .str x t, .ref l2], [(Str.ofString "strict", .bool true)]⟩) (fun _ R s => s.heap.IsList l2 ys ∧
      R (.ok (.ret (.ref (zsH4 s.heap (strItO x t) l2).objs.size))) { s with heap := zsH5 s.heap (strItO x t) l2 }) :=
  .of_wp fun prog w A R s h => by
    obtain ⟨hp, g, d, tk, os⟩ := s; obtain ⟨hl2, h⟩ := h
    have hsub := sub_zip
    have hL2 : Heap.IsList (Shared.heap ⟨hp.push (strItO x t), g, d, tk, os⟩) l2 ys := Heap.IsList.push hl2 _
    have e2 : (Str.ofString "strict" != ("strict" : Str)) = false := by decide +kernel
    have q1 : ∀ {A' : Around} {E : Value → Shared → Prop} {Q : Value → Shared → Prop}, Q (.ref hp.objs.size) ⟨hp.push (strItO x t), g, d, tk, os⟩ → wpAny (model prog w) A' (pyIter (.str x t)) Q E ⟨hp, g, d, tk, os⟩ :=
      fun q => pyIter_strO (s := ⟨hp, g, d, tk, os⟩) q
    wp_walk using q1, wpAny_pyIter_list hL2
    exact ⟨_, rfl, h⟩
end PySem
/-! W16: zip(a text, a list, strict=True) as an iterator -/
namespace PySem
section
variable {prog : Program} {w : World} {A : Around} {E : Value → Shared → Prop} {s : Shared}
theorem call_zipS {x : Str} {t : Tok} {l2 : Addr} {ys : Array Value} {Q : Value → Shared → Prop} (hl2 : s.heap.IsList l2 ys)
    (h : ∀ h', IsZipS h' (s.heap.objs.size + 4) (s.heap.objs.size + 2) (s.heap.objs.size + 3) .none → IsTupOf2 h' (s.heap.objs.size + 2) (.ref s.heap.objs.size) (.ref (s.heap.objs.size + 1)) →
      IsTupOf2 h' (s.heap.objs.size + 3) .none .none → h'.get? s.heap.objs.size = some (strItO x t) → h'.IsListIter (s.heap.objs.size + 1) l2 0 → h'.objs.size = s.heap.objs.size + 5 →
      (∀ c o, s.heap.get? c = some o → h'.get? c = some o) → Q (.ref (s.heap.objs.size + 4)) { s with heap := h' }) :
    wpAny (model prog w) A (call (.type "zip") [.str x t, .ref l2] [(Str.ofString "strict", .bool true)]) Q E s := by
  refine callType_newKw F.called_zip (by decide) (F.typeCall_zip_strict _ _ _) (F.newCall_zip_strict _ _ _) (fun obj => F.args_object_init_strict obj _ _ _) F.entry_zip_new
    (meets_zip_strict x t l2 ys) ⟨hl2, ?_⟩
  generalize ho : strItO x t = o1
  have free1 : o1.isFreed = false := by rw [← ho]; rfl
  have z1 : (zsH1 s.heap o1).objs.size = s.heap.objs.size + 1 := Heap.size_push ..
  have z2 : (zsH2 s.heap o1 l2).objs.size = s.heap.objs.size + 2 := by rw [Heap.size_push, z1]
  have z3 : (zsH3 s.heap o1 l2).objs.size = s.heap.objs.size + 3 := by rw [Heap.size_push, z2]
  have z4 : (zsH4 s.heap o1 l2).objs.size = s.heap.objs.size + 4 := by rw [Heap.size_push, z3]
  have z5 : (zsH5 s.heap o1 l2).objs.size = s.heap.objs.size + 5 := by rw [Heap.size_push, z4]
  have g5 : (zsH5 s.heap o1 l2).get? (zsH4 s.heap o1 l2).objs.size = some _ := Heap.get?_push_size _ rfl
  have g4 : (zsH5 s.heap o1 l2).get? (zsH3 s.heap o1 l2).objs.size = some _ := Heap.get?_push_of_some _ (Heap.get?_push_size _ rfl)
  have g3 : (zsH5 s.heap o1 l2).get? (zsH2 s.heap o1 l2).objs.size = some _ := Heap.get?_push_of_some _ (Heap.get?_push_of_some _ (Heap.get?_push_size _ rfl))
  have g2 : (zsH5 s.heap o1 l2).get? (zsH1 s.heap o1).objs.size = some _ := Heap.get?_push_of_some _ (Heap.get?_push_of_some _ (Heap.get?_push_of_some _ (Heap.get?_push_size _ rfl)))
  have g1 : (zsH5 s.heap o1 l2).get? s.heap.objs.size = some o1 := Heap.get?_push_of_some _ (Heap.get?_push_of_some _ (Heap.get?_push_of_some _ (Heap.get?_push_of_some _ (Heap.get?_push_size _ free1))))
  show _ ∧ _
  rw [z2, z3, z4] at g5
  rw [z1, z2] at g3
  rw [z3] at g4
  rw [z1] at g2
  rw [z4]
  exact ⟨⟨_, g5, rfl⟩, h _ g5 g3 g4 (by rw [ho]; exact g1) ⟨_, g2, rfl, rfl⟩ z5 fun c o x =>
    Heap.get?_push_of_some _ (Heap.get?_push_of_some _ (Heap.get?_push_of_some _ (Heap.get?_push_of_some _ (Heap.get?_push_of_some _ x))))⟩
theorem callWith_typeKw {M : Model} {pos : Pos} {T : String} {first : List Value} {args : List (Bool × Sem Value)} {kws : List (Option Str × Sem Value)} {Q : Value → Shared → Prop}
    (hplain : args.any (·.1) = false) (hk : kws.any (·.1.isNone) = false)
    (h : wpAny M A (evalArgs (.type T) true args kws) (fun a s₁ => wpAny M A (call (.type T) (first ++ a.pos) a.kw) Q E s₁) E s) :
    wpAny M A (callWith pos (.type T) first args kws) Q E s := by
  unfold callWith
  refine wpAny_bind (wpAny_holding (wpAny_mono h (fun a s₁ h₁ => wpAny_bind (wpAny_standAt ?_)) fun _ _ x => x))
  simp only [hplain, hk, Bool.or_false]
  refine wpAny_bind (wpAny_pure ?_)
  exact wpAny_bind (wpAny_mono h₁ (fun r s₂ hr => wpAny_bind (wpAny_holding (wpAny_point (wpAny_pure hr)))) fun _ _ x => x)
end
end PySem
namespace WC
open PySem PySem.Spec PyProof.Rows L2
/-- the text x beside the list at a, item by item, of one length -/
def Izs (K : PySem.W.Frag) (x : Str) (a : Addr) : It :=
  ⟨fun i H => ∃ (xs : List V) (y : V) (c : Nat), SqL K H a xs ∧ xs[i]? = some y ∧ x.cps[i]? = some c,
    fun i H v H' => ∃ T y c, v = .ref T ∧ H T = none ∧ H' = upd H T (.tup [.str ⟨#[c]⟩, y]) ∧ x.cps[i]? = some c ∧ ∀ xs, SqL K H a xs → xs[i]? = some y,
    fun i H => ∃ xs : List V, SqL K H a xs ∧ xs.length = i ∧ x.cps.size = i⟩
theorem zipSep {z TI TO i1 i2 l : Addr} (h1 : TI ≠ z) (h2 : TO ≠ z) (h3 : TI ≠ TO) (h4 : TI ≠ i1) (h5 : i1 ≠ z) (h6 : TO ≠ i1) (h7 : TI ≠ i2) (h8 : z ≠ i2) (h9 : z ≠ l) (h10 : TO ≠ i2) (h11 : TO ≠ l) (h12 : i1 ≠ i2) (h13 : i1 ≠ l) :
    ZipSep2 z TI TO i1 i2 [i1] [i2, l] where
  TIz := h1
  TOz := h2
  TITO := h3
  TIi1 := h4
  mem1 := by simp
  zf1 := by simp [Ne.symm h5]
  Tf1 := by simp [h6]
  TIi2 := h7
  mem2 := by simp
  zf2 := by simp [h8, h9]
  Tf2 := by simp [h10, h11]
  sep1_2 := by simp [h12, h13]
  sep2_1 := by simp [Ne.symm h12]
theorem zipSepN (n l : Nat) (h : l < n) : ZipSep2 (n + 4) (n + 2) (n + 3) n (n + 1) [n] [n + 1, l] := by
  refine zipSep ?_ ?_ ?_ ?_ ?_ ?_ ?_ ?_ ?_ ?_ ?_ ?_ ?_
  · show (n + 2 : Nat) ≠ n + 4; omega
  · show (n + 3 : Nat) ≠ n + 4; omega
  · show (n + 2 : Nat) ≠ n + 3; omega
  · show (n + 2 : Nat) ≠ n; omega
  · show (n : Nat) ≠ n + 4; omega
  · show (n + 3 : Nat) ≠ n; omega
  · show (n + 2 : Nat) ≠ n + 1; omega
  · show (n + 4 : Nat) ≠ n + 1; omega
  · show (n + 4 : Nat) ≠ l; omega
  · show (n + 3 : Nat) ≠ n + 1; omega
  · show (n + 3 : Nat) ≠ l; omega
  · show (n : Nat) ≠ n + 1; omega
  · show (n : Nat) ≠ l; omega
/-- the text's iterator, of either kind -/
def StrIt (h : Heap) (i1 : Addr) (ty : String) (x : Str) (t : Tok) (i : Nat) : Prop := h.IsStrIter i1 ty x t i
theorem draws_str {prog : Program} {w : World} {A : Around} {ty : String} (hh : A.handled = none) (hty : ty = "str_ascii_iterator" ∨ ty = "str_iterator") (it : Addr) (x : Str) (t : Tok) :
    Draws prog w A it [it] x.cps.size (fun i v => ∃ c u, x.cps[i]? = some c ∧ v = .str ⟨#[c]⟩ u) (fun i h => h.IsStrIter it ty x t i) := by
  rcases hty with rfl | rfl
  · exact Draws.strAscii hh it x t
  · exact Draws.strWide hh it x t
theorem turn_zipS {P : Program} {w : World} {K : PySem.W.Frag} {elts : List Expr} {kk : Nat} {tpos : Pos} {a z TI TO i1 i2 : Addr} {x : Str} {t : Tok} {ty : String} (hty : ty = "str_ascii_iterator" ∨ ty = "str_iterator") (S : ZipSep2 z TI TO i1 i2 [i1] [i2, a]) (hne : a ≠ i2) :
    Turn P w K (.Tuple elts kk tpos) (Izs K x a) [z, TI, TO, i1, i2] z (fun i h => IsZipS h z TI TO .none ∧ IsTupOf2 h TI (.ref i1) (.ref i2) ∧ (∃ x y, IsTupOf2 h TO x y) ∧ h.IsStrIter i1 ty x t i ∧ h.IsListIter i2 a i) where
  mem := by simp
  obj := fun i h st c hc => by
    obtain ⟨hz, hTI, ⟨x, y, hTO⟩, ⟨o1, e1, _, d1⟩, ⟨o2, e2, _, d2⟩⟩ := st
    have e' : c = z ∨ c = TI ∨ c = TO ∨ c = i1 ∨ c = i2 := by simpa using hc
    rcases e' with q | q | q | q | q
    · rw [q]; exact ⟨_, hz, fun v q => nomatch q⟩
    · rw [q]; exact ⟨_, hTI, fun v q => nomatch q⟩
    · rw [q]; exact ⟨_, hTO, fun v q => nomatch q⟩
    · rw [q]; exact ⟨o1, e1, fun v q => by rw [d1] at q; cases q⟩
    · rw [q]; exact ⟨o2, e2, fun v q => by rw [d2] at q; cases q⟩
  keep := fun i h h' st k => by
    obtain ⟨hz, hTI, ⟨x, y, hTO⟩, ⟨o1, e1, r1⟩, h2⟩ := st
    exact ⟨k z (by simp) _ hz, k TI (by simp) _ hTI, ⟨x, y, k TO (by simp) _ hTO⟩, ⟨o1, k i1 (by simp) _ e1, r1⟩, h2.at fun o q => k i2 (by simp) o q⟩
  item := by
    intro X hP hw hK hc i pins s σ H E I hf st hg
    subst hP hw hK
    obtain ⟨hz, hTI, ⟨x0, y0, hTO⟩, h1, h2⟩ := st
    obtain ⟨xs, y, c, hqx, hx, hcp⟩ := hg
    obtain ⟨its, rv, p, _⟩ := I.list hqx
    obtain ⟨u, hu, ru⟩ := rv.get hx
    have hzl : z < s.heap.objs.size := Heap.lt_size hz
    have hh : X.A.in1.handled = none := I.ok.hd hc
    have l1 : i < x.cps.size := (Array.getElem?_eq_some_iff.mp hcp).1
    have l2 : i < its.toArray.size := by
      have := (List.getElem?_eq_some_iff.mp hu).1
      simpa using this
    refine pyNext_zipS_item S (draws_str hh hty i1 x t) (Draws.list hh i2 a hne its.toArray) hz hTI hTO h1 ⟨h2, p.isList⟩ l1 l2 fun x1 x2 h' tk p1 p2 z' TO' s1' s2' hT hsz hk => ?_
    obtain ⟨c', u1, hc', rfl⟩ := p1
    rw [hcp] at hc'
    cases hc'
    have p2' : its.toArray[i]? = some x2 := p2
    have e2 : x2 = u := by
      have : its[i]? = some x2 := by simpa using p2'
      rw [hu] at this
      exact (Option.some.inj this).symm
    subst e2
    refine ⟨_, rfl, letGo_zipS (s := { s with heap := h', toks := tk }) z' fun h'' z'' sb => ?_⟩
    have hT2 : h''.get? s.heap.objs.size = some { cls := .type "tuple", data := .seq #[.str ⟨#[c]⟩ u1, x2] } := (sb.2 _ (Nat.ne_of_gt hzl)).trans hT
    have new : ObjOk X.prog X.w (upd H s.heap.objs.size (.tup [.str ⟨#[c]⟩, y])) h'' s.heap.objs.size (.tup [.str ⟨#[c]⟩, y]) :=
      ⟨by show 2 ≤ sizeLine; decide, [.str ⟨#[c]⟩ u1, x2], .cons ⟨_, rfl⟩ (.cons ru .nil), ⟨_, hT2, rfl, _, rfl⟩⟩
    have I1 : Inv X pins σ (upd H s.heap.objs.size (.tup [.str ⟨#[c]⟩, y])) { s with heap := h'', toks := tk } :=
      I.turnedNew (t' := tk) (ch := [z, TI, TO, i1, i2]) (fun c o hb q => (sb.2 c (fun q' => hb (by simp [q']))).trans (hk c o (fun q' => hb (by simp [q'])) (fun q' => hb (by simp [q'])) (fun q' => hb (by simp [q'])) (fun q' => hb (by simp [q'])) q)) hf (Nat.le_refl _) new
    refine ⟨.ref s.heap.objs.size, _, I1, rfl, ⟨_, y, c, rfl, I.hok.fresh (Nat.le_refl _), rfl, hcp, fun l hl => by rw [I.list_inj hl hqx]; exact hx⟩, ⟨z'', ?_, ⟨.str ⟨#[c]⟩ u1, x2, ?_⟩, ?_, ?_⟩, fun c hcm => ?_⟩
    · exact (sb.2 _ S.TIz).trans (hk _ _ S.TIz S.TITO S.TIi1 S.TIi2 hTI)
    · exact (sb.2 _ S.TOz).trans TO'
    · obtain ⟨o1, e1, r1⟩ := s1'
      exact ⟨o1, (sb.2 _ S.zi1.symm).trans e1, r1⟩
    · exact s2'.1.at fun o q => (sb.2 _ S.zi2.symm).trans q
    · have hlt : c < s.heap.objs.size := by
        have e' : c = z ∨ c = TI ∨ c = TO ∨ c = i1 ∨ c = i2 := by simpa using hcm
        rcases e' with q | q | q | q | q
        · rw [q]; exact hzl
        · rw [q]; exact Heap.lt_size hTI
        · rw [q]; exact Heap.lt_size hTO
        · rw [q]; obtain ⟨_, e1, _⟩ := h1; exact Heap.lt_size e1
        · rw [q]; obtain ⟨_, e2, _⟩ := h2; exact Heap.lt_size e2
      rw [upd_ne (Nat.ne_of_lt hlt)]
      exact (hf c hcm).1
  done := by
    intro X hP hw hK hc i pins s σ H E I hf st hg
    subst hP hw hK
    obtain ⟨hz, hTI, ⟨x0, y0, hTO⟩, h1, h2⟩ := st
    obtain ⟨xs, hqx, e1, e2⟩ := hg
    obtain ⟨its, rv, p, _⟩ := I.list hqx
    have hh : X.A.handled = none := I.ok.hd hc
    have el : its.toArray.size = i := by rw [List.size_toArray, ← rv.length, e1]
    have D1 := draws_str (prog := X.prog) (w := X.w) (show X.A.in1.handled = none from hh) hty i1 x t
    have D2 := Draws.list (prog := X.prog) (w := X.w) (show X.A.in1.handled = none from hh) i2 a hne its.toArray
    rw [e2] at D1
    rw [el] at D2
    refine pyNext_zipS_end (n := i) hh S D1 D2 hz hTI hTO h1 ⟨h2, p.isList⟩ (fun c hc e => S.sep1_2 (e ▸ hc)) fun h' hk => ⟨rfl, ?_⟩
    exact I.turnedL (t' := s.toks) (ch := [z, TI, TO, i1, i2]) (fun c o hb q => hk c o (fun q' => hb (by simp [q'])) (fun q' => hb (by simp [q'])) (fun q' => hb (by simp [q'])) (fun q' => hb (by simp [q'])) q) hf
  self := fun A i s Q E st h => pyIter_zipS st.1 h
section
variable {X : Cx} {a0 : Addr} {e e2 : Expr} {p pos tpos cp kp : Pos} {elts : List Expr} {kk j : Nat}
def iZipS (K : PySem.W.Frag) (ta : TA) : TI := fun σ H R => ta σ H fun vs H1 => ∃ x b ys, vs = [.str x, .ref b] ∧ SqL K H1 b ys ∧ R (Izs K x b) H1
theorem pi_zipS {ta : TA} (hg : Gl X "zip") (hm : X.mg "zip" = none) (ha : PA X [e, e2] ta) (hs : noStar e = true) (hs2 : noStar e2 = true) :
    PI X (.Tuple elts kk tpos) (.Call (.Name "zip" p) [e, e2] [⟨some "strict", .Constant (.bool true) j cp, kp⟩] pos) (iZipS X.K ta) := by
  refine ⟨fun pins s σ H R I h => ?_⟩
  have hpl : (backTo pos (starEach [e, e2] X.env)).any (·.1) = false := star_none (by simp [hs, hs2])
  refine wpAny_Call_Name_kw (ld_blt I hg hm PyProof.Rows.boot_zip ?_)
  refine callWith_typeKw hpl rfl (evalArgs_kw2 rfl (thn (ha.run pos pins s σ H _ I h) fun us s1 ⟨vs, H1, I1, r1, q1⟩ => ?_) (star_cons hs))
  refine wpAny_mono (Q := fun ks s2 => ks = [.bool true] ∧ s2 = s1) ?_ (fun ks s2 hks => ?_) fun _ _ x => x
  · exact evalAll_cons (wpAny_bind (Constant_bool (wpAny_bind (wpAny_standAt (wpAny_pure (evalAll_nil (And.intro rfl rfl)))))))
  obtain ⟨rfl, rfl⟩ := hks
  obtain ⟨x, b, ys, ex, hqy, q⟩ := q1
  subst ex
  cases r1 with
  | cons r rr =>
    cases rr with
    | cons r' rr =>
      cases rr
      obtain ⟨t, rfl⟩ := r
      cases r'
      obtain ⟨its2, rv2, p2, _⟩ := I1.list hqy
      have lb : b < s2.heap.objs.size := p2.lt
      refine call_zipS p2.isList fun h' hz hTI hTO h1 h2 hsz hk => pyIter_zipS hz ?_
      have I2 : Inv X pins σ H1 { s2 with heap := h' } := I1.kept (t' := s2.toks) hk
      have S : ZipSep2 (s2.heap.objs.size + 4) (s2.heap.objs.size + 2) (s2.heap.objs.size + 3) s2.heap.objs.size (s2.heap.objs.size + 1) [s2.heap.objs.size] [s2.heap.objs.size + 1, b] :=
        zipSepN _ _ lb
      have hit : ∃ ty, (ty = "str_ascii_iterator" ∨ ty = "str_iterator") ∧ h'.IsStrIter s2.heap.objs.size ty x t 0 := by
        cases ha : x.cps.all (· < 128)
        · exact ⟨"str_iterator", .inr rfl, _, h1, by simp [strItO, ha], rfl⟩
        · exact ⟨"str_ascii_iterator", .inl rfl, _, h1, by simp [strItO, ha], rfl⟩
      obtain ⟨ty, hty, hit⟩ := hit
      refine ⟨s2.heap.objs.size + 4, [s2.heap.objs.size + 4, s2.heap.objs.size + 2, s2.heap.objs.size + 3, s2.heap.objs.size, s2.heap.objs.size + 1], _, _, H1, rfl, I2, turn_zipS hty S (by have : b < s2.heap.objs.size := lb; exact Nat.ne_of_lt (Nat.lt_succ_of_lt this)), ⟨hz, hTI, ⟨_, _, hTO⟩, hit, h2⟩, fun c hcm => ?_, q⟩
      have e' : c = s2.heap.objs.size + 4 ∨ c = s2.heap.objs.size + 2 ∨ c = s2.heap.objs.size + 3 ∨ c = s2.heap.objs.size ∨ c = s2.heap.objs.size + 1 := by simpa using hcm
      have hle : s2.heap.objs.size ≤ c := by
        rcases e' with z | z | z | z | z
        · rw [z]; exact Nat.le_add_right _ _
        · rw [z]; exact Nat.le_add_right _ _
        · rw [z]; exact Nat.le_add_right _ _
        · rw [z]; exact Nat.le_refl _
        · rw [z]; exact Nat.le_add_right _ _
      exact I1.fpOk hle (I1.hok.fresh hle)
theorem ri_zps {W : Wd} {μ0 : List Addr} {H0 : Hp} {x : Str} {n : Nat} {b : Addr} (h : μ0[n]? = some b) : RI W μ0 H0 (.zps x n) (Izs W.K x b) := by
  intro μ H ah i e R
  have hn := e.pre _ _ h
  cases q : itNext (.zps x n) i ah with
  | none => trivial
  | some r =>
    unfold itNext at q
    simp only at q
    split at q
    · rename_i xs hg
      obtain ⟨b', ys, eb, _, h1, r1⟩ := R.lst hg (.ref hn)
      cases eb
      cases zc : x.cps[i]? with
      | none =>
        cases zx : xs[i]? with
        | none =>
          simp only [zc, zx] at q
          split at q
          · rename_i hl
            cases q
            exact ⟨ys, .of h1, by rw [← r1.length]; exact hl.1, hl.2⟩
          · cases q
        | some v => simp only [zc, zx] at q; cases q
      | some c =>
        cases zx : xs[i]? with
        | none => simp only [zc, zx] at q; cases q
        | some v =>
          simp only [zc, zx] at q
          cases q
          obtain ⟨y, hy, ry⟩ := r1.get zx
          refine ⟨⟨ys, y, c, .of h1, hy, zc⟩, fun v' H' ⟨T, w1, c', e', hT, eH, hc', hx⟩ => ?_⟩
          subst e'; subst eH
          rw [zc] at hc'; cases hc'
          have := hx ys (.of h1)
          rw [hy] at this; cases this
          exact pair_new R (.cons .str (.cons ry .nil)) hT
    · cases q
def zps2 (vs : List AV) (h : AH) : Ex AI := match vs with
  | [.str x, .ref m] => (match h.get m with
    | some (.lst _) => .ok (.zps x m) h
    | _ => .stuck)
  | _ => .stuck
theorem mi_zipS {f : AL} (hg : Gl X "zip") (hm : X.mg "zip" = none) (ha : MA X a0 [e, e2] f) (hn : noStar e = true) (hn2 : noStar e2 = true) :
    MI X a0 (.Tuple elts kk tpos) (.Call (.Name "zip" p) [e, e2] [⟨some "strict", .Constant (.bool true) j cp, kp⟩] pos) (fun s h => (f s h).bind zps2) :=
  PI.imp (pi_zipS hg hm ha hn hn2) fun σ H R ⟨μ, s, ah, hs, hr, p⟩ => ⟨μ, s, ah, hs, hr, (PostG.bind p).mono fun x H1 ⟨μ1, vs, h1, e1, hr1, r1, p1⟩ => by
    unfold zps2 at p1
    split at p1
    · split at p1
      · rename_i q
        cases r1 with
        | cons r t => cases t with
          | cons r' t =>
            obtain ⟨d, ys, rfl, hn, z1, z2⟩ := hr1.lst q r'
            cases r
            cases t
            exact ⟨_, _, _, rfl, .of z1, PostG.ret (W := Cx.wd X a0) (rel := RI (Cx.wd X a0)) p1 hr1 (ri_zps hn)⟩
      · exact p1.elim
    · exact p1.elim⟩
end
end WC
/-! W18: len({.. for .. in ..}) with keys ints and texts -/
namespace WC
open PySem PySem.Spec PyProof.Rows L2
section
variable {X : Cx} {a0 : Addr}
theorem addK_ok {pins : List (Addr × Obj)} {σ : L2.St} {H : Hp} {s : Shared} {E : Value → Shared → Prop} {D : Addr} {S : Key → Bool} {n : Nat} {k : Key} {u : Value} {Q : Value → Shared → Prop} (I : Inv X pins σ H s) (hD : H D = some (SetK X.prog X.w D S n)) (room : n + 1 < scanBound) (ru : RelV (kV k) u)
    (h : ∀ s', Inv X pins σ (upd H D (SetK X.prog X.w D (fun j => S j || decide (j = k)) (if S k = true then n else n + 1))) s' → Q .none s') : wpAny (model X.prog X.w) X.A (call (.builtin "set.add") [.ref D, u]) Q E s := by
  refine call_set_add (kV_is ru) (key_scan ru) (setK_get I hD) room fun h' sb new => ?_
  have he : ∃ u, h'.get? D = some u := by
    have ⟨o, _, _, _, ho, _⟩ := new
    exact ⟨o, ho⟩
  exact h _ (I.write (e := D) (t' := s.toks + 1) (by rw [hD]; trivial) (.inl rfl) (fun b u hb hu => (sb.2 b hb).trans hu) he (setK_new new))
/-- what a set comprehension asks (keys ints, texts) -/
def tSk (P : Program) (w : World) (wi : TI) (g : TG) (tt : TT) (te : TE) (vs : List Nat) : TE := fun σ H Q => wi σ H fun J H1 => ∀ D, H1 D = none → ∃ W : Nat → Nat → Hp → Prop, (∃ m, W 0 m (upd H1 D (SetK P w D (fun _ => false) 0))) ∧ ∀ i m H, W i m H →
  (J.stop i H ∧ Q (.ref D) H) ∨ (J.go i H ∧ ∃ Nx : Hp → Prop, (∀ H', Nx H' → ∃ m', m' < m ∧ W (i + 1) m' H') ∧ ∀ x H', J.yld i H x H' → g x (wipe σ vs) H' fun σ2 H2 => wipe σ2 vs = wipe σ vs ∧ tt σ2 H2 fun b H3 =>
    if b = true then te σ2 H3 fun y H4 => ∃ (k : Key) (S : Key → Bool) (n : Nat), y = kV k ∧ H4 D = some (SetK P w D S n) ∧ n + 1 < scanBound ∧ Nx (upd H4 D (SetK P w D (fun j => S j || decide (j = k)) (if S k = true then n else n + 1))) else Nx H3)
theorem pe_sk {elt tg iter : Expr} {ifs : List Expr} {scope : Scope} {own : List (PySem.Str × Nat)} {pos : Pos} {wi : TI} {g : TG} {tt : TT} {te : TE} (hc : X.calm = true) (hN : X.N.Nodup) (hi : PI X tg iter wi) (ok : BlkOk X.N X.env.scope scope own)
    (hg : ∀ (s : Shared) (H : Hp) (C : Addr) (cl : List (PySem.Str × Addr)) (fp : List Addr), PG (X.blk s H scope (compEnvC scope cl C X.env) fp) tg g) (ht : ∀ (s : Shared) (H : Hp) (C : Addr) (cl : List (PySem.Str × Addr)) (fp : List Addr), PTs (X.blk s H scope (compEnvC scope cl C X.env) fp) ifs tt)
    (he : ∀ (s : Shared) (H : Hp) (C : Addr) (cl : List (PySem.Str × Addr)) (fp : List Addr), PE (X.blk s H scope (compEnvC scope cl C X.env) fp) elt te) (hs : ∀ x, foldedSetIterable iter X.env x = pure x) :
    PE X (.SetComp elt [⟨tg, iter, ifs, 0⟩] scope pos) (tSk X.prog X.w wi g tt te (own.map (·.2))) := by
  refine ⟨fun pins s σ H Q I h => ?_⟩
  rw [PpSet.eval_SetComp]
  have hfree : ∀ y ∈ scope.names, y.2 = .free → ∃ c, X.env.cells.lookup y.1 = some c := fun y hy e => (ok.free y hy e).elim (fun k => I.ok.has _ (.inl k)) fun k => I.ok.has _ (.inr k)
  refine wpAny_comprehension_free (use := none) rfl hs (closure_ok hfree) ok.kind (fun y hy e => by rw [ok.uniq y hy, e])
    (thn (hi.run pins s σ H _ I h) fun xv s1 hx => thn hx fun itv s2 h2 => ?_)
  obtain ⟨it, fp, tn, J, H2, rfl, I2, T, st2, f2, q⟩ := h2
  refine PpSet.newSet_ok (newEnv_comp ?_)
  have hDn : H2 s2.heap.objs.size = none := I2.hok.fresh (Nat.le_refl _)
  obtain ⟨W, ⟨m0, w0⟩, turn⟩ := q _ hDn
  generalize hs3 : ({ s2 with heap := s2.heap.push { cls := .type "set", dict := none, data := .set #[] 0 (.fresh 0 0 (!X.w.params.followText "set-order")) } } : Shared) = s3
  have h3 : s3.heap = s2.heap.push { cls := .type "set", dict := none, data := .set #[] 0 (.fresh 0 0 (!X.w.params.followText "set-order")) } := by rw [← hs3]
  have sz : ∀ b ∈ fp, b < s2.heap.objs.size := fun b hb => let ⟨o, e, _⟩ := T.obj _ _ st2 b hb; Heap.lt_size e
  have I3 : Inv X pins σ (upd H2 s2.heap.objs.size (SetK X.prog X.w s2.heap.objs.size (fun _ => false) 0)) s3 := by
    rw [← hs3]
    refine I2.laid (t' := s2.toks) (fun b o e => Heap.get?_push_of_some _ e) (Nat.le_refl _) (setK_new ?_)
    exact ⟨_, #[], 0, _, Heap.get?_push_size _ rfl, ⟨rfl, rfl, rfl⟩, rfl, (fun e he => by simp at he), (fun k => by simp), (by decide), (by rfl), rfl⟩
  generalize hD : s2.heap.objs.size = D at hDn w0 turn I3 sz
  have f3 : ∀ b ∈ fp, FpOk X pins (upd H2 D (SetK X.prog X.w D (fun _ => false) 0)) b ∧ b < s3.heap.objs.size := fun b hb => by
    have hlt := sz b hb
    refine ⟨⟨?_, (f2 b hb).2⟩, by rw [h3, Heap.size_push, hD]; exact Nat.lt_succ_of_lt hlt⟩
    rw [upd_ne (Nat.ne_of_lt hlt)]
    exact (f2 b hb).1
  have st3 : tn 0 s3.heap := T.keep _ _ _ st2 fun b _ o e => by rw [h3]; exact Heap.get?_push_of_some _ e
  have I4 := block_start I3 ok hN f3
  have nfp : ∀ b ∈ fp, (upd H2 D (SetK X.prog X.w D (fun _ => false) 0)) b = none := fun b hb => (f3 b hb).1.1
  generalize hH3 : upd H2 D (SetK X.prog X.w D (fun _ => false) 0) = H3 at I3 I4 w0 nfp f3
  generalize hcl : cellsFrom (s3.heap.objs.size + 1) scope.names (cloFrom X.env.cells scope.names []) = cl at I4
  have pg := hg s3 H3 s3.heap.objs.size cl fp
  have pt := ht s3 H3 s3.heap.objs.size cl fp
  have pe := he s3 H3 s3.heap.objs.size cl fp
  show codeAny _ _ (.compStart (.SetComp elt [⟨tg, iter, ifs, 0⟩] scope pos) 0 (.ref it) (.ref D) (compEnvC scope cl s3.heap.objs.size X.env)) (compPost (model X.prog X.w) X.A X.xe none (EP X pins σ Q) (.ref D) s3.heap.objs.size) { s3 with heap := pushCells (s3.heap.push { cls := .type "dict", data := .dict #[] }) scope.names }
  have cL : (compEnvC scope cl s3.heap.objs.size X.env).locals = s3.heap.objs.size := rfl
  generalize compEnvC scope cl s3.heap.objs.size X.env = ce at I4 pg pt pe cL ⊢
  generalize hs4 : ({ s3 with heap := pushCells (s3.heap.push { cls := .type "dict", data := .dict #[] }) scope.names } : Shared) = s4 at I4 ⊢
  have st4 : tn 0 s4.heap := T.keep _ _ _ st3 fun b _ o e => by rw [← hs4]; exact pushCells_keeps _ _ _ _ (Heap.get?_push_of_some _ e)
  have stat : ∀ {σ' : L2.St} {H' : Hp} {s' : Shared}, Inv (X.blk s3 H3 scope ce fp) [] σ' H' s' → (∀ b ∈ fp, H' b = none) → ∀ b ∈ fp, FpOk (X.blk s3 H3 scope ce fp) [] H' b := fun {σ' H' s'} I' hn b hb =>
    ⟨hn b hb, (I'.ok.exf b hb).1, I'.ok.exfs b hb, .inl hb, fun x c e => (I'.ok.exf b hb).2 x c e, fun p hp => absurd (show p ∈ ([] : List (Addr × Obj)) ++ [] from hp) (by simp)⟩
  have loop : codeAny (model X.prog X.w) X.A (.compLoop (.SetComp elt [⟨tg, iter, ifs, 0⟩] scope pos) 0 (.ref it) (.ref D) ce) (compPost (model X.prog X.w) X.A X.xe none (EP X pins σ Q) (.ref D) s3.heap.objs.size) s4 := by
    refine PpSet.compLoopS_any (fun n s' => ∃ i H', Inv (X.blk s3 H3 scope ce fp) [] (wipe σ (own.map (·.2))) H' s' ∧ tn i s'.heap ∧ (∀ b ∈ fp, H' b = none) ∧ W i n H') ?_ m0 ⟨0, H3, I4, st4, nfp, w0⟩
    rintro n s5 ⟨i, H5, I5, st5, n5, w5⟩
    rcases turn i n H5 w5 with ⟨stop, qq⟩ | ⟨go, Nx, hNx, step⟩
    · refine thnF (T.done (X.blk s3 H3 scope ce fp) rfl rfl rfl hc i [] s5 _ H5 (fun _ _ => False) I5 (stat I5 n5) st5 stop) fun r s6 ⟨hr, I6⟩ => ?_
      subst hr
      have I7 : Inv X pins σ H5 s6 := I3.call' (ch := fp) I6.os I6.base I6.hok I6.bare fun b hb => ⟨(f3 b hb).1.2.2.2.1, (f3 b hb).1.2.1, (f3 b hb).1.2.2.2.2.1, (f3 b hb).1.2.2.2.2.2⟩
      have nC : H5 s3.heap.objs.size = none := by
        have z : H5 ce.locals = none := I6.free
        rw [cL] at z
        exact z
      obtain ⟨m, hn, _⟩ := I6.loc
      have hn : s6.heap.Ns ce.locals m := hn
      rw [cL] at hn
      obtain ⟨k0, k1, k2, k3, k4, k5⟩ := I3.fpOk (Nat.le_refl _) nC
      exact ⟨m, hn, fun h'' sb => ⟨.ref D, H5, I7.turned (t' := s6.toks) (fun b o hb e => (sb.2 b hb).trans e) k0 k1 k3 k4 k5, rfl, qq⟩⟩
    · refine thnF (T.item (X.blk s3 H3 scope ce fp) rfl rfl rfl hc i [] s5 _ H5 (fun _ _ => False) I5 (stat I5 n5) st5 go) fun r s6 ⟨u, hr, h6⟩ => ?_
      subst hr
      refine thnF h6 fun _ s7 ⟨x, H7, I7, r7, y7, st7, n7⟩ => ?_
      have I7' := I7.pinned (stat I7 n7) (T.obj _ _ st7)
      refine thnF (pg.run _ s7 _ H7 x u _ I7' r7 (step x H7 y7)) fun _ s8 ⟨σ8, H8, I8, hw8, q8⟩ => ?_
      refine thnF (pt.run _ s8 σ8 H8 _ I8 q8) fun b s9 ⟨H9, I9, q9⟩ => ?_
      have fin : ∀ {s' : Shared} {H' : Hp}, Inv (X.blk s3 H3 scope ce fp) ([] ++ pinsAt fp s7.heap) σ8 H' s' → Nx H' → ∃ m, m < n ∧ ∃ i H', Inv (X.blk s3 H3 scope ce fp) [] (wipe σ (own.map (·.2))) H' s' ∧ tn i s'.heap ∧ (∀ b ∈ fp, H' b = none) ∧ W i m H' := fun {s' H'} I' nx => by
        obtain ⟨m', hm, w'⟩ := hNx H' nx
        have pin' : ∀ b ∈ fp, ∀ o, s7.heap.get? b = some o → s'.heap.get? b = some o ∧ H' b = none := fun b hb o e =>
          let z := I'.pin (b, o) (List.mem_append_right _ (List.mem_append_right _ (mem_pinsAt hb e)))
          ⟨z.1, z.2.1⟩
        have hl : (wipe σ (own.map (·.2))).length = σ8.length := by rw [← hw8, wipe_length]
        refine ⟨m', hm, i + 1, H', (I'.unpinned (pins := [])).weak hl (fun j v e => ?_), T.keep _ _ _ st7 fun b hb o e => (pin' b hb o e).1, fun b hb => ?_, w'⟩
        · rw [← hw8] at e
          exact (wipe_some e).1
        · obtain ⟨o, e, _⟩ := T.obj _ _ st7 b hb
          exact (pin' b hb o e).2
      cases b with
      | false =>
        simp only [Bool.false_eq_true, if_false] at q9 ⊢
        exact fin I9 q9
      | true =>
        simp only [if_true] at q9 ⊢
        refine thnF (pe.run _ s9 σ8 H9 _ I9 q9) fun z s10 ⟨yv, H10, I10, r10, k, S0, n0, ey, hD10, hz10, nx⟩ => ?_
        subst ey
        exact addK_ok (X := X.blk s3 H3 scope ce fp) I10 hD10 hz10 r10 fun s11 I11 => fin I11 nx
  exact PpSet.codeAny_compStart_set loop (T.self X.A 0 _ _ _ st4 loop)
/-- len of such a set -/
def rLenK (P : Program) (w : World) : List V → Hp → VK → Prop := fun xs H Q => ∃ D S n, xs = [.ref D] ∧ H D = some (SetK P w D S n) ∧ Q (.int (n : Nat)) H
theorem cr_lenK : CallR X (.builtin "len") (rLenK X.prog X.w) := by
  intro pins s σ H xs us Q I r h
  obtain ⟨D, S, n, rfl, hD, q⟩ := h
  cases r with
  | cons r t =>
    cases t
    cases r
    obtain ⟨o, es, ep, t, ho, hex, hd, _, _, hb, hf, hn⟩ := setK_get I hD
    refine call_len_set ho hex hd hf (by have h1 : ((scanBound : Nat) : Int) < 2 ^ 63 := by decide
                                         omega) ⟨.int (n : Nat), H, I.tok _, ⟨_, by rw [hn]⟩, q⟩
/-! ### the plain run -/
theorem PostG.bindX {α β γ δ : Type} {W : Wd} {μ0 μ : List Addr} {H0 H : Hp} {rel : List Addr → Hp → α → β → Prop} {rel' : List Addr → Hp → γ → δ → Prop} {r : Ex α} {k : α → AH → Ex γ} {Q : δ → Hp → Prop} (p : PostG W rel' μ0 H0 (r.bind k) Q) :
    PostG W rel μ H r (fun b H1 => ∃ μ1 a h1, Ext W μ H μ1 H1 ∧ HR W μ1 h1 H1 ∧ rel μ1 H1 a b ∧ PostG W rel' μ0 H0 (k a h1) Q) := by
  cases r with
  | stuck => exact p
  | ok a h => exact fun μ' H' b e hr rl => ⟨μ', a, h, e, hr, rl, p⟩
theorem sqT_updx {K : PySem.W.Frag} {H : Hp} {D : Addr} {φ : Heap → Prop} {o : HO} (hD : H D = some (.ext φ)) {a : Addr} {ys : List V} (h : SqT K H a ys) : SqT K (upd H D o) a ys :=
  SqT.upd (W := ⟨K, a⟩) (p := D) h fun u e => by
    rw [hD] at e; cases e
    exact ⟨fun _ z => (nomatch z), fun _ _ z => (nomatch z)⟩
theorem HR.updx {W : Wd} {μ : List Addr} {H : Hp} {ah : AH} {D : Addr} {φ : Heap → Prop} {o : HO} (R : HR W μ ah H) (hD : H D = some (.ext φ)) : HR W μ ah (upd H D o) := by
  have kp : ∀ a ys, SqT W.K H a ys → SqT W.K (upd H D o) a ys := fun a ys h => sqT_updx hD h
  refine ⟨R.sz, R.full, R.nd, fun n ao e => ?_, R.scr.upd fun u e ob v z => ?_⟩
  · obtain ⟨a, h1, h2⟩ := R.obj n ao e
    have ne : a ≠ D := by
      rintro rfl
      cases ao with
      | lst xs => obtain ⟨_, z, _⟩ := h2; rw [hD] at z; cases z
      | dct xs => obtain ⟨_, z, _⟩ := h2; rw [hD] at z; cases z
      | ins C xs => obtain ⟨_, _, z, _⟩ := h2; rw [hD] at z; cases z
      | lck xs => obtain ⟨_, _, z, _⟩ := h2; rw [hD] at z; cases z
    refine ⟨a, h1, ?_⟩
    cases ao with
    | lst xs => obtain ⟨ys, e1, r⟩ := h2; exact ⟨ys, (upd_ne ne).trans e1, Rls.keep kp r⟩
    | dct xs => obtain ⟨ys, e1, r⟩ := h2; exact ⟨ys, (upd_ne ne).trans e1, Rks.keep kp r⟩
    | ins C xs => obtain ⟨dx, ys, e1, r⟩ := h2; exact ⟨dx, ys, (upd_ne ne).trans e1, Rks.keep kp r⟩
    | lck xs => obtain ⟨ob, ys, e1, r⟩ := h2; exact ⟨ob, ys, (upd_ne ne).trans e1, Rks.keep kp r⟩
  · rw [hD] at e; cases e; cases z
def memK (k : Key) (seen : List Key) : Bool := seen.any fun j => decide (j = k)
def scL (J : AI) (g : AG) (t : AT) (el : AE) (s : AEnv) : Nat → Nat → List Key → AH → Ex AV
  | 0, _, _, _ => .stuck
  | f + 1, i, seen, h => match itNext J i h with
    | none => .stuck
    | some none => .ok (.int (seen.length : Nat)) h
    | some (some v) => (g v s h).bind fun s1 h1 => (t s1 h1).bind fun b h2 => if b = true then (el s1 h2).bind fun y h3 => (match toKey y with
        | some k => if seen.length + 1 < scanBound then scL J g t el s f (i + 1) (if memK k seen = true then seen else k :: seen) h3 else .stuck
        | none => .stuck) else scL J g t el s f (i + 1) seen h2
def aLenSet (F : Nat) (fi : AEnv → AH → Ex AI) (g : AG) (t : AT) (el : AE) (vs : List Nat) : AE := fun s h => (fi s h).bind fun J h1 => scL J g t el (wipeA s vs) F 0 [] h1
theorem tSk_of {P : Program} {w : World} {W : Wd} {F : Nat} {fi : AEnv → AH → Ex AI} {g : AG} {t : AT} {el : AE} {vs is : List Nat} {σ : L2.St} {H : Hp} {Q : VK} (hv : ∀ i ∈ is, i ∈ vs) (h : TEv W (aLenSet F fi g t el vs) σ H Q) :
    tSk P w (TIv W fi) (TGv W is g) (TTv W t) (TEv W el) vs σ H fun x H1 => rLenK P w [x] H1 Q := by
  obtain ⟨μ, s, ah, hs, hr, p⟩ := h
  refine ⟨μ, s, ah, hs, hr, (PostG.bind p).mono fun J H1 ⟨μ1, aJ, h1, e1, hr1, rJ, p1⟩ D hD => ?_⟩
  refine ⟨fun i m H => ∃ μ2 h2 seen S n, Ext W μ1 H1 μ2 H ∧ HR W μ2 h2 H ∧ H D = some (SetK P w D S n) ∧ (∀ j, S j = memK j seen) ∧ n = seen.length ∧ Post W μ1 H1 (scL aJ g t el (wipeA s vs) m i seen h2) Q,
    ⟨F, μ1, h1, [], _, 0, Ext.upd_tup hD, hr1.tup hD, upd_same, fun j => rfl, rfl, p1⟩, ?_⟩
  rintro i m H2 ⟨μ2, h2, seen, S, n, e2, hr2, hSD, hS, hn, p2⟩
  cases m with
  | zero => exact p2.elim
  | succ m =>
    unfold scL at p2
    have z := rJ μ2 H2 h2 i e2 hr2
    split at p2
    · exact p2.elim
    · rename_i q
      rw [q] at z
      exact .inl ⟨z, D, S, n, rfl, hSD, by rw [hn]; exact p2 μ2 H2 _ e2 hr2 .int⟩
    · rename_i v q
      rw [q] at z
      refine .inr ⟨z.1, fun H' => ∃ μ2 h2 seen S n, Ext W μ1 H1 μ2 H' ∧ HR W μ2 h2 H' ∧ H' D = some (SetK P w D S n) ∧ (∀ j, S j = memK j seen) ∧ n = seen.length ∧ Post W μ1 H1 (scL aJ g t el (wipeA s vs) m (i + 1) seen h2) Q, fun H' h' => ⟨m, Nat.lt_succ_self m, h'⟩, fun x H3 hy => ?_⟩
      obtain ⟨e3, hr3, rv⟩ := z.2 x H3 hy
      have e03 := e2.trans e3
      refine ⟨μ2, v, wipeA s vs, h2, ((hs.ext e1).ext e03).wipe vs, hr3, rv, (PostG.bindX p2).mono fun σ4 H4 ⟨μ4, s4, h4, e4, hr4, ⟨hs4, c4⟩, p4⟩ => ⟨wipe_chg c4 hv, ?_⟩⟩
      refine ⟨μ4, s4, h4, hs4, hr4, (PostG.bindX p4).mono fun b H5 ⟨μ5, b', h5, e5, hr5, eb, p5⟩ => ?_⟩
      have eb' : b' = b := eb
      subst eb'
      cases b' with
      | true =>
        rw [if_pos rfl] at p5 ⊢
        refine ⟨μ5, s4, h5, hs4.ext e5, hr5, (PostG.bindX p5).mono fun y H6 ⟨μ6, w6, h6, e6, hr6, ry, p6⟩ => ?_⟩
        have eD : Ext W μ2 H2 μ6 H6 := e3.trans (e4.trans (e5.trans e6))
        have hD6 := eD.xt D _ hSD
        split at p6
        · rename_i k hk
          split at p6
          · rename_i hl
            refine ⟨k, S, n, toKey_ok ry hk, hD6, by rw [hn]; exact hl, μ6, h6, _, _, _, ?_, hr6.updx hD6, upd_same, fun j => ?_, ?_, p6⟩
            · exact ⟨fun m a z => (e2.trans eD).pre m a z, fun a ys z => sqT_updx hD6 ((e2.trans eD).tup a ys z), fun a o u z => by rw [upd_ne (ne_of_none z hD)]; exact (e2.trans eD).frz a o u z,
                fun a f z => by rw [upd_ne (ne_of_none z hD)]; exact (e2.trans eD).xt a f z⟩
            · rw [hS j]
              by_cases hm : memK k seen = true
              · rw [if_pos hm]
                by_cases hj : j = k
                · subst hj; rw [hm]; rfl
                · simp [hj]
              · rw [if_neg hm]
                show (memK j seen || decide (j = k)) = (decide (k = j) || memK j seen)
                rw [Bool.or_comm]
                by_cases hj : j = k
                · subst hj; simp
                · have : ¬ k = j := fun z => hj z.symm
                  simp [hj, this]
            · rw [hS k]
              by_cases hm : memK k seen = true
              · rw [if_pos hm, if_pos hm]; exact hn
              · rw [if_neg hm, if_neg hm, hn]; rfl
          · exact p6.elim
        · exact p6.elim
      | false =>
        rw [if_neg Bool.false_ne_true] at p5 ⊢
        exact ⟨μ5, h5, seen, S, n, e2.trans (e3.trans (e4.trans e5)), hr5, (e3.trans (e4.trans e5)).xt D _ hSD, hS, hn, p5⟩
theorem me_lenSet {p pos spos : Pos} {elt tg iter : Expr} {ifs : List Expr} {scope : Scope} {own : List (PySem.Str × Nat)} {F : Nat} {fi : AEnv → AH → Ex AI} {g : AG} {t : AT} {el : AE} {is : List Nat} (hc : X.calm = true) (hN : X.N.Nodup) (hG : Gl X "len") (hm : X.mg "len" = none)
    (hi : MI X a0 tg iter fi) (ok : BlkOk X.N X.env.scope scope own) (hv : ∀ i ∈ is, i ∈ own.map (·.2))
    (hg : Blk X scope fun Y => MG Y a0 tg is g) (ht : Blk X scope fun Y => MTs Y a0 ifs t) (he : Blk X scope fun Y => ME Y a0 elt el) (hs : notSet iter = true) :
    ME X a0 (.Call (.Name "len" p) [.SetComp elt [⟨tg, iter, ifs, 0⟩] scope spos] [] pos) (aLenSet F fi g t el (own.map (·.2))) :=
  PE.imp (pe_callB cr_lenK hG hm boot_len (pa_cons (pe_sk (g := TGv (Cx.wd X a0) is g) (tt := TTv (Cx.wd X a0) t) (te := TEv (Cx.wd X a0) el) hc hN hi ok (fun s H C cl fp => hg s H C cl fp) (fun s H C cl fp => ht s H C cl fp) (fun s H C cl fp => he s H C cl fp) (noFold hs)) pa_nil) (by decide) (by decide) rfl rfl) fun _ _ _ h => tSk_of hv h
end
end WC
/-! W17: the module's constants, op=, tuples assigned, two-clause comprehensions -/
namespace WC
open PySem PySem.Spec PyProof.Rows L2
section
variable {X : Cx} {a0 : Addr} {a b e o : Expr} {es : List Expr} {pos p apos cpos tpos : Pos} {x : Str}
/-! ### constants of the module -/
def GlC (X : Cx) (a0 : Addr) (x : Str) (v : AV) : Prop := ∃ (u : Value) (y : V), X.mg x = some u ∧ RelV y u ∧ ∀ μ H, Rl (Cx.wd X a0) μ H v y
theorem me_glob {v : AV} (hg : Gl X x) (h : GlC X a0 x v) (hd : (x == ("__debug__" : Str)) = false) : ME X a0 (.Name x pos) (fun _ h => .ok v h) := by
  obtain ⟨u, y, hm, r, rl⟩ := h
  exact me_const (pe_glob hg hm r hd) rl
theorem me_bty {T : String} (hg : Gl X x) (hm : X.mg x = none) (hv : bootBuiltins x = some (.type T)) (hn : x ≠ "__name__") (hd : (x == ("__debug__" : Str)) = false) : ME X a0 (.Name x pos) (fun _ h => .ok (.ty T) h) :=
  me_const (v := .ty T) (pe_bltn (v := .ty T) hg hm hv rfl hn hd) fun _ _ => .ty
/-- the module's dicts with text keys -/
abbrev KTab := Str → Option (List (Str × AV))
def KdOk (X : Cx) (a0 : Addr) (tab : KTab) : Prop := ∀ x kvs, tab x = some kvs → ∃ es n, KDict X.K X.w (He.ga X.K x) es n ∧ ∀ k v, kvs.lookup k = some v → ∃ u y, PySem.W.nsIn X.K (He.ga X.K x) k = some (some u) ∧ RelV y u ∧ ∀ μ H, Rl (Cx.wd X a0) μ H v y
def inK (tab : KTab) (neg : Bool) (g : AO2) : AO2 := fun a b h => match b with
  | .glo x => (match tab x, a with
    | some kvs, .str k => (match kvs.lookup k with
      | some _ => .ok (.bl (!neg)) h
      | none => .stuck)
    | _, _ => .stuck)
  | _ => g a b h
theorem op_inK {tab : KTab} {g : AO2} (K : KdOk X a0 tab) (ho : OpR X (compareOp .In) (R2of (Cx.wd X a0) g)) : OpR X (compareOp .In) (R2of (Cx.wd X a0) (inK tab false g)) := by
  intro pins s σ H x y v u Q I rx ry ⟨μ, a, b, ah, hr, ra, rb, p⟩
  unfold inK at p
  split at p
  · split at p
    · rename_i kvs k ht
      split at p
      · rename_i w hk
        obtain ⟨es, n, D, hD⟩ := K _ _ ht
        obtain ⟨u0, y0, h1, _, _⟩ := hD _ _ hk
        cases ra; cases rb
        exact op_in_kd D pins s σ H _ _ v u Q I rx ry ⟨_, _, rfl, rfl, h1, p.ret hr .bl⟩
      · exact p.elim
    · exact p.elim
  · exact ho pins s σ H x y v u Q I rx ry ⟨μ, a, _, ah, hr, ra, rb, p⟩
theorem op_notInK {tab : KTab} {g : AO2} (K : KdOk X a0 tab) (ho : OpR X (compareOp .NotIn) (R2of (Cx.wd X a0) g)) : OpR X (compareOp .NotIn) (R2of (Cx.wd X a0) (inK tab true g)) := by
  intro pins s σ H x y v u Q I rx ry ⟨μ, a, b, ah, hr, ra, rb, p⟩
  unfold inK at p
  split at p
  · split at p
    · rename_i kvs k ht
      split at p
      · rename_i w hk
        obtain ⟨es, n, D, hD⟩ := K _ _ ht
        obtain ⟨u0, y0, h1, _, _⟩ := hD _ _ hk
        cases ra; cases rb
        exact op_notIn_kd D pins s σ H _ _ v u Q I rx ry ⟨_, _, rfl, rfl, h1, p.ret hr .bl⟩
      · exact p.elim
    · exact p.elim
  · exact ho pins s σ H x y v u Q I rx ry ⟨μ, a, _, ah, hr, ra, rb, p⟩
def ixK (tab : KTab) (g : AO2) : AO2 := fun a b h => match a with
  | .glo x => (match tab x, b with
    | some kvs, .str k => (match kvs.lookup k with
      | some v => .ok v h
      | none => .stuck)
    | _, _ => .stuck)
  | _ => g a b h
theorem ix_aIxK {tab : KTab} (K : KdOk X a0 tab) (hu : X.A.units + 1 < cLine) : IxR X (R2of (Cx.wd X a0) (ixK tab aIx)) := by
  intro value slice pins s σ H x y v u Q I rx ry ⟨μ, a, b, ah, hr, ra, rb, p⟩ hs
  unfold ixK at p
  split at p
  · split at p
    · rename_i kvs k ht
      split at p
      · rename_i w hk
        obtain ⟨es, n, D, hD⟩ := K _ _ ht
        obtain ⟨u0, y0, h1, h2, h3⟩ := hD _ _ hk
        cases ra; cases rb
        cases rx
        exact PyProof.Rows.tail_any (kd_type D I) PySem.F.slot_dict_getitem.lookup (op_item_kd D pins s σ H _ _ _ u Q I (show RelV (.ref _) (.ref _) from rfl) ry ⟨_, _, y0, rfl, rfl, h1, h2, p.ret hr (h3 μ H)⟩) hs
      · exact p.elim
    · exact p.elim
  · exact ix_aIx hu value slice pins s σ H x y v u Q I rx ry ⟨μ, _, b, ah, hr, ra, rb, p⟩ hs
theorem me_ixK {tab : KTab} {f f' : AE} (K : KdOk X a0 tab) (hu : X.A.units + 1 < cLine) (ha : ME X a0 a f) (hb : ME X a0 b f') (hs : PlainIx b) : ME X a0 (.Subscript a b pos) (aBin f f' (ixK tab aIx)) :=
  PE.imp (pe_ix (ix_aIxK K hu) ha hb hs) fun _ _ _ h => tOp_of h
/-! ### name += e -/
def aAugI (i : Nat) (f : AE) (g : Int → Int → Int) : AS := fun s h => match s[i]? with
  | some (some (.int k)) => (f s h).bind fun w h1 => (match w with
    | .int j => .ok (.nx (s.set i (some (.int (g k j))))) h1
    | _ => .stuck)
  | _ => .stuck
theorem ms_augAdd {i : Nat} {f : AE} {p' : Pos} (hN : X.N.Nodup) (hi : X.N[i]? = some x) (hx : Loc X.env.scope x) (hf : X.fn x = true ∨ X.env.scope.names.lookup x = some .local) (he : ME X a0 e f) : MS X a0 (.AugAssign (.Name x p') .Add e pos) (aAugI i f fun a b => a + b) :=
  PS.imp (ps_aug hN hi hx he ip_add hf) fun D σ H ⟨μ, s, ah, hs, hr, p⟩ => by
    unfold aAugI at p
    split at p
    · rename_i k q
      obtain ⟨y, hy, ry⟩ := hs.get q
      cases ry
      refine ⟨_, hy, μ, s, ah, hs, hr, (PostS.bind (rel := Rl (Cx.wd X a0)) p).mono fun z H1 ⟨μ1, w, h1, e1, hr1, r1, p1⟩ => ?_⟩
      split at p1
      · cases r1
        exact ⟨_, _, rfl, rfl, p1 μ1 H1 _ .refl hr1 ((hs.ext e1).set i .int)⟩
      · exact p1.elim
    · exact p.elim
/-! ### (a, b, ..) = (x, y, ..) -/
/-- the pair of tuples is stored as it is read -/
def swOk (sc : Scope) (ts vs : List Expr) : Bool :=
  !(ts.length == 2 || ts.length == 3) || (vs.length != ts.length) || (vs.any fun | .Starred .. => true | _ => false) || (ts.any fun | .Name x p => !(sc.names.lookup x == some .local && p.line == (ts.head?.map (·.pos.line)).getD 0) | _ => true) || vs.all (foldedForSure 8)
theorem filterMap_len {α β : Type} {f : α → Option β} : ∀ {l : List α}, (∃ a ∈ l, f a = none) → (l.filterMap f).length ≠ l.length
  | [], h => by obtain ⟨a, h, _⟩ := h; cases h
  | x :: xs, h => by
    have hle : (xs.filterMap f).length ≤ xs.length := List.length_filterMap_le f xs
    cases q : f x with
    | none =>
      rw [List.filterMap_cons_none q, List.length_cons]
      omega
    | some y =>
      rw [List.filterMap_cons_some q, List.length_cons, List.length_cons]
      obtain ⟨a, ha, hn⟩ := h
      rcases List.mem_cons.mp ha with e | ha
      · subst e; rw [q] at hn; cases hn
      · have := filterMap_len (l := xs) ⟨a, ha, hn⟩
        omega
theorem sw_none {env : Env} {ts vs : List Expr} {k1 k2 : Nat} {p1 p2 : Pos} (h : swOk env.scope ts vs = true) : swappedStores [.Tuple ts k1 p1] (.Tuple vs k2 p2) env = pure none := by
  unfold swappedStores
  unfold swOk at h
  simp only [Bool.or_eq_true, pure_bind] at h ⊢
  split
  · rfl
  · split
    · rfl
    · split
      · rfl
      · rename_i h1 h2 h3
        have hE : vs.all (foldedForSure 8) = true := by
          rcases h with ((((h | h) | h) | h) | h)
          · exact absurd (.inl (.inl h)) h1
          · exact absurd (.inl (.inr h)) h1
          · exact absurd h h2
          · refine absurd (.inl ?_) h3
            obtain ⟨t, ht, hn⟩ := List.any_eq_true.mp h
            rw [bne_iff_ne]
            refine filterMap_len ⟨t, ht, ?_⟩
            cases t with
            | Name x p =>
              refine if_neg fun z => ?_
              have hn' : (!(env.scope.names.lookup x == some .local && p.line == (ts.head?.map (·.pos.line)).getD 0)) = true := hn
              rw [show (env.scope.names.lookup x == some .local && p.line == (ts.head?.map (·.pos.line)).getD 0) = true from z] at hn'
              cases hn'
            | _ => first | rfl | (cases hn)
          · exact h
        rw [if_pos hE]
theorem ms_asgT {ts vs : List Expr} {k1 k2 : Nat} {p1 p2 : Pos} {is : List Nat} {f : AE} {g : AG} (he : ME X a0 (.Tuple vs k2 p2) f) (hg : MG X a0 (.Tuple ts k1 p1) is g) (hw : swOk X.env.scope ts vs = true) :
    MS X a0 (.Assign [.Tuple ts k1 p1] (.Tuple vs k2 p2) pos) (aAsg f g) :=
  PS.imp (ps_asg he hg rfl (sw_none hw) rfl) fun D σ H ⟨μ, s, ah, hs, hr, p⟩ => ⟨μ, s, ah, hs, hr, (PostS.bind p).mono fun x H1 ⟨μ1, v, h1, e1, hr1, r1, p1⟩ =>
    ⟨μ1, v, s, h1, hs.ext e1, hr1, r1, (nx_post p1).weak fun _ _ _ _ z => z.1⟩⟩
/-! ### two for clauses -/
theorem PostG.of_eq {α β : Type} {W : Wd} {rel : List Addr → Hp → α → β → Prop} {μ : List Addr} {H : Hp} {r r' : Ex α} {Q : β → Hp → Prop} (p : PostG W rel μ H r Q) (e : r = r') : PostG W rel μ H r' Q := e ▸ p

def lcI (J : AI) (g : AG) (t : AT) (el : AE) (s : AEnv) (d : Nat) : Nat → Nat → AH → Ex AV
  | 0, _, _ => .stuck
  | f + 1, i, h => match itNext J i h with
    | none => .stuck
    | some none => .ok .non h
    | some (some v) => (g v s h).bind fun s1 h1 => (t s1 h1).bind fun b h2 => if b = true then (el s1 h2).bind fun y h3 => (match h3.get d with
        | some (.lst acc) => if acc.length < sizeLine then lcI J g t el s d f (i + 1) (h3.set d (.lst (acc ++ [y]))) else .stuck
        | _ => .stuck) else lcI J g t el s d f (i + 1) h2
def lcO (F : Nat) (J : AI) (g : AG) (t : AT) (fi1 : AEnv → AH → Ex AI) (g1 : AG) (t1 : AT) (el : AE) (vs1 : List Nat) (s : AEnv) (d : Nat) : Nat → Nat → AH → Ex AV
  | 0, _, _ => .stuck
  | f + 1, i, h => match itNext J i h with
    | none => .stuck
    | some none => .ok (.ref d) h
    | some (some v) => (g v s h).bind fun s1 h1 => (t s1 h1).bind fun b h2 => if b = true then (fi1 s1 h2).bind fun J1 h3 => (lcI J1 g1 t1 el (wipeA s1 vs1) d F 0 h3).bind fun _ h4 => lcO F J g t fi1 g1 t1 el vs1 s d f (i + 1) h4
      else lcO F J g t fi1 g1 t1 el vs1 s d f (i + 1) h2
def aLc2 (F : Nat) (fi : AEnv → AH → Ex AI) (g : AG) (t : AT) (fi1 : AEnv → AH → Ex AI) (g1 : AG) (t1 : AT) (el : AE) (vs vs1 : List Nat) : AE := fun s h => (fi s h).bind fun J h1 => lcO F J g t fi1 g1 t1 el vs1 (wipeA s vs) h1.n F 0 (h1.push (.lst []))
theorem tLc2_of {W : Wd} {F : Nat} {fi fi1 : AEnv → AH → Ex AI} {g g1 : AG} {t t1 : AT} {el : AE} {vs vs1 is : List Nat} {σ : L2.St} {H : Hp} {Q : VK} (hv : ∀ i ∈ is, i ∈ vs) (h : TEv W (aLc2 F fi g t fi1 g1 t1 el vs vs1) σ H Q) :
    tLc2 (TIv W fi) (TGv W is g) (TTv W t) (TIv W fi1) (TGv W vs1 g1) (TTv W t1) (TEv W el) vs vs1 σ H Q := by
  obtain ⟨μ, s, ah, hs, hr, p⟩ := h
  refine ⟨μ, s, ah, hs, hr, (PostG.bind p).mono fun J H1 ⟨μ1, aJ, h1, e1, hr1, rJ, p1⟩ D hD => ?_⟩
  have E0 : Ext W μ1 H1 (μ1 ++ [D]) (upd H1 D (.lst [])) := Ext.upd_new hD
  have R0 : HR W (μ1 ++ [D]) (h1.push (.lst [])) (upd H1 D (.lst [])) := hr1.push hD ⟨[], upd_same, .nil⟩
  have hd : (μ1 ++ [D])[h1.n]? = some D := by rw [hr1.sz]; simp
  refine ⟨fun i m H => ∃ μ2 h2, Ext W (μ1 ++ [D]) (upd H1 D (.lst [])) μ2 H ∧ HR W μ2 h2 H ∧ Post W μ2 H (lcO F aJ g t fi1 g1 t1 el vs1 (wipeA s vs) h1.n m i h2) Q, ⟨F, _, _, .refl, R0, p1.ext E0⟩, ?_⟩
  rintro i m H2 ⟨μ2, h2, e2, hr2, p2⟩
  cases m with
  | zero => exact p2.elim
  | succ m =>
    unfold lcO at p2
    have z := rJ μ2 H2 h2 i (E0.trans e2) hr2
    split at p2
    · exact p2.elim
    · rename_i q
      rw [q] at z
      exact .inl ⟨z, p2.ret hr2 (.ref (e2.pre _ _ hd))⟩
    · rename_i v q
      rw [q] at z
      refine .inr ⟨z.1, fun H' => ∃ μ3 h3, Ext W (μ1 ++ [D]) (upd H1 D (.lst [])) μ3 H' ∧ HR W μ3 h3 H' ∧ Post W μ3 H' (lcO F aJ g t fi1 g1 t1 el vs1 (wipeA s vs) h1.n m (i + 1) h3) Q, fun H' h' => ⟨m, Nat.lt_succ_self m, h'⟩, fun x H3 hy => ?_⟩
      obtain ⟨e3, hr3, rv⟩ := z.2 x H3 hy
      have e03 := E0.trans (e2.trans e3)
      refine ⟨μ2, v, wipeA s vs, h2, ((hs.ext e1).ext e03).wipe vs, hr3, rv, (PostG.bind (p2.ext e3)).mono fun σ4 H4 ⟨μ4, s4, h4, e4, hr4, ⟨hs4, c4⟩, p4⟩ => ⟨wipe_chg c4 hv, ?_⟩⟩
      refine ⟨μ4, s4, h4, hs4, hr4, (PostG.bind p4).mono fun b H5 ⟨μ5, b', h5, e5, hr5, eb, p5⟩ => ?_⟩
      have eb' : b' = b := eb
      subst eb'
      cases b' with
      | false =>
        rw [if_neg Bool.false_ne_true] at p5 ⊢
        exact ⟨μ5, h5, e2.trans (e3.trans (e4.trans e5)), hr5, p5⟩
      | true =>
        rw [if_pos rfl] at p5 ⊢
        have e25 := e2.trans (e3.trans (e4.trans e5))
        refine ⟨μ5, s4, h5, hs4.ext e5, hr5, (PostG.bind p5).mono fun J1 H6 ⟨μ6, aJ1, h6, e6, hr6, rJ1, p6⟩ => ?_⟩
        refine ⟨fun j k H => ∃ μ7 h7, Ext W μ6 H6 μ7 H ∧ HR W μ7 h7 H ∧ Post W μ7 H ((lcI aJ1 g1 t1 el (wipeA s4 vs1) h1.n k j h7).bind fun _ h8 => lcO F aJ g t fi1 g1 t1 el vs1 (wipeA s vs) h1.n m (i + 1) h8) Q, ⟨F, μ6, h6, .refl, hr6, p6⟩, ?_⟩
        rintro j k H7 ⟨μ7, h7, e7, hr7, p7⟩
        cases k with
        | zero => exact p7.elim
        | succ k =>
          unfold lcI at p7
          have z1 := rJ1 μ7 H7 h7 j e7 hr7
          split at p7
          · exact p7.elim
          · rename_i q1
            rw [q1] at z1
            exact .inl ⟨z1, μ7, h7, e25.trans (e6.trans e7), hr7, p7⟩
          · rename_i v1 q1
            rw [q1] at z1
            refine .inr ⟨z1.1, fun H => ∃ μ7 h7, Ext W μ6 H6 μ7 H ∧ HR W μ7 h7 H ∧ Post W μ7 H ((lcI aJ1 g1 t1 el (wipeA s4 vs1) h1.n k (j + 1) h7).bind fun _ h8 => lcO F aJ g t fi1 g1 t1 el vs1 (wipeA s vs) h1.n m (i + 1) h8) Q, fun H' h' => ⟨k, Nat.lt_succ_self k, h'⟩, fun x1 H8 hy1 => ?_⟩
            obtain ⟨e8, hr8, rv1⟩ := z1.2 x1 H8 hy1
            have e48 : Ext W μ4 H4 μ7 H8 := e5.trans (e6.trans (e7.trans e8))
            have p8 : Post W μ7 H8 ((g1 v1 (wipeA s4 vs1) h7).bind fun s1 h1' => ((t1 s1 h1').bind fun b h2 => if b = true then (el s1 h2).bind fun y h3 => (match h3.get h1.n with
              | some (.lst acc) => if acc.length < sizeLine then lcI aJ1 g1 t1 el (wipeA s4 vs1) h1.n k (j + 1) (h3.set h1.n (.lst (acc ++ [y]))) else .stuck
              | _ => .stuck) else lcI aJ1 g1 t1 el (wipeA s4 vs1) h1.n k (j + 1) h2).bind fun _ h8 => lcO F aJ g t fi1 g1 t1 el vs1 (wipeA s vs) h1.n m (i + 1) h8) Q := by
              refine (p7.ext e8).of_eq ?_
              cases g1 v1 (wipeA s4 vs1) h7 <;> rfl
            refine ⟨μ7, v1, wipeA s4 vs1, h7, (hs4.ext e48).wipe vs1, hr8, rv1, (PostG.bind p8).mono fun σ9 H9 ⟨μ9, s9, h9, e9, hr9, ⟨hs9, c9⟩, p9⟩ => ⟨wipe_chg c9 fun i hi => hi, ?_⟩⟩
            have p9' : Post W μ9 H9 ((t1 s9 h9).bind fun b h2 => ((if b = true then (el s9 h2).bind fun y h3 => (match h3.get h1.n with
              | some (.lst acc) => if acc.length < sizeLine then lcI aJ1 g1 t1 el (wipeA s4 vs1) h1.n k (j + 1) (h3.set h1.n (.lst (acc ++ [y]))) else .stuck
              | _ => .stuck) else lcI aJ1 g1 t1 el (wipeA s4 vs1) h1.n k (j + 1) h2).bind fun _ h8 => lcO F aJ g t fi1 g1 t1 el vs1 (wipeA s vs) h1.n m (i + 1) h8)) Q := by
              refine p9.of_eq ?_
              cases t1 s9 h9 <;> rfl
            refine ⟨μ9, s9, h9, hs9, hr9, (PostG.bind p9').mono fun b H10 ⟨μ10, b', h10, e10, hr10, eb, p10⟩ => ?_⟩
            have eb' : b' = b := eb
            subst eb'
            cases b' with
            | false =>
              rw [if_neg Bool.false_ne_true] at p10 ⊢
              exact ⟨μ10, h10, e7.trans (e8.trans (e9.trans e10)), hr10, p10⟩
            | true =>
              rw [if_pos rfl] at p10 ⊢
              have p10' : Post W μ10 H10 ((el s9 h10).bind fun y h3 => ((match h3.get h1.n with
                | some (.lst acc) => if acc.length < sizeLine then lcI aJ1 g1 t1 el (wipeA s4 vs1) h1.n k (j + 1) (h3.set h1.n (.lst (acc ++ [y]))) else .stuck
                | _ => .stuck : Ex AV).bind fun _ h8 => lcO F aJ g t fi1 g1 t1 el vs1 (wipeA s vs) h1.n m (i + 1) h8)) Q := by
                refine p10.of_eq ?_
                cases el s9 h10 <;> rfl
              refine ⟨μ10, s9, h10, hs9.ext e10, hr10, (PostG.bind p10').mono fun y H11 ⟨μ11, w, h11, e11, hr11, ry, p11⟩ => ?_⟩
              have eD := e25.trans (e6.trans (e7.trans (e8.trans (e9.trans (e10.trans e11)))))
              split at p11
              · rename_i acc hg
                split at p11
                · rename_i hl
                  obtain ⟨a, ys, ea, hn, hH, r2⟩ := hr11.lst hg (.ref (eD.pre _ _ hd))
                  cases ea
                  obtain ⟨e12, hr12⟩ := setLst hr11 hg hn hH r2 (r2.append (.cons ry .nil))
                  exact ⟨ys, hH, r2.length ▸ hl, μ11, _, (e7.trans (e8.trans (e9.trans (e10.trans e11)))).trans e12, hr12, p11.ext e12⟩
                · exact p11.elim
              · exact p11.elim
theorem me_lc2 {elt tg iter tg1 iter1 : Expr} {ifs ifs1 : List Expr} {scope : Scope} {own : List (PySem.Str × Nat)} {F : Nat} {fi fi1 : AEnv → AH → Ex AI} {g g1 : AG} {t t1 : AT} {el : AE} {is is1 : List Nat} (hc : X.calm = true) (hN : X.N.Nodup) (hi : MI X a0 tg iter fi) (ok : BlkOk X.N X.env.scope scope own) (hv : ∀ i ∈ is, i ∈ own.map (·.2)) (hv1 : ∀ i ∈ is1, i ∈ own.map (·.2))
    (hg : Blk X scope fun Y => MG Y a0 tg is g) (ht : Blk X scope fun Y => MTs Y a0 ifs t) (hi1 : Blk X scope fun Y => MI Y a0 tg1 iter1 fi1) (hg1 : Blk X scope fun Y => MG Y a0 tg1 is1 g1) (ht1 : Blk X scope fun Y => MTs Y a0 ifs1 t1) (he : Blk X scope fun Y => ME Y a0 elt el) (hs : notSet iter = true) (hs1 : notSet iter1 = true) :
    ME X a0 (.ListComp elt [⟨tg, iter, ifs, 0⟩, ⟨tg1, iter1, ifs1, 0⟩] scope pos) (aLc2 F fi g t fi1 g1 t1 el (own.map (·.2)) is1) :=
  PE.imp (pe_lc2 (g := TGv (Cx.wd X a0) is g) (tt := TTv (Cx.wd X a0) t) (wi1 := TIv (Cx.wd X a0) fi1) (g1 := TGv (Cx.wd X a0) is1 g1) (tt1 := TTv (Cx.wd X a0) t1) (te := TEv (Cx.wd X a0) el) hc hN hi ok hv1 (fun s H C cl fp => hg s H C cl fp) (fun s H C cl fp => ht s H C cl fp)
    (fun s H C cl fp => hi1 s H C cl fp) (fun s H C cl fp => hg1 s H C cl fp) (fun s H C cl fp => ht1 s H C cl fp) (fun s H C cl fp => he s H C cl fp) (noFold hs) (fun env x => noFold hs1 x)) fun _ _ _ h => tLc2_of hv h
/-- name = [.. two clauses ..] on one line -/
theorem ms_setLc2 {elt tg iter tg1 iter1 : Expr} {ifs ifs1 : List Expr} {scope : Scope} {own : List (PySem.Str × Nat)} {F : Nat} {fi fi1 : AEnv → AH → Ex AI} {g g1 : AG} {t t1 : AT} {el : AE} {is is1 : List Nat} {i : Nat} {y : PySem.Str} {py spos : Pos} (hc : X.calm = true) (hN : X.N.Nodup) (hy : X.N[i]? = some y) (hyl : X.env.scope.names.lookup y = some .local)
    (hl : (py.line == pos.line) = true) (hk : X.env.scope.kind = .function) (ha : (scope.names.any fun (n, k) => n == y && (k == .local || k == .cell)) = false)
    (hi : MI X a0 tg iter fi) (ok : BlkOk X.N X.env.scope scope own) (hv : ∀ i ∈ is, i ∈ own.map (·.2)) (hv1 : ∀ i ∈ is1, i ∈ own.map (·.2))
    (hg : Blk X scope fun Y => MG Y a0 tg is g) (ht : Blk X scope fun Y => MTs Y a0 ifs t) (hi1 : Blk X scope fun Y => MI Y a0 tg1 iter1 fi1) (hg1 : Blk X scope fun Y => MG Y a0 tg1 is1 g1) (ht1 : Blk X scope fun Y => MTs Y a0 ifs1 t1) (he : Blk X scope fun Y => ME Y a0 elt el) (hs : notSet iter = true) (hs1 : notSet iter1 = true) :
    MS X a0 (.Assign [.Name y py] (.ListComp elt [⟨tg, iter, ifs, 0⟩, ⟨tg1, iter1, ifs1, 0⟩] scope pos) spos) (aAsg (aLc2 F fi g t fi1 g1 t1 el (own.map (·.2)) is1) (gaName i)) :=
  PS.imp (ps_setLc2 (g := TGv (Cx.wd X a0) is g) (tt := TTv (Cx.wd X a0) t) (wi1 := TIv (Cx.wd X a0) fi1) (g1 := TGv (Cx.wd X a0) is1 g1) (tt1 := TTv (Cx.wd X a0) t1) (te := TEv (Cx.wd X a0) el) hc hN hy hyl (sw_true hk hyl hl ha) hi ok hv1 (fun s H C cl fp => hg s H C cl fp) (fun s H C cl fp => ht s H C cl fp)
    (fun s H C cl fp => hi1 s H C cl fp) (fun s H C cl fp => hg1 s H C cl fp) (fun s H C cl fp => ht1 s H C cl fp) (fun s H C cl fp => he s H C cl fp) (noFold hs) (fun env x => noFold hs1 x)) fun D σ H ⟨μ, s, ah, hs, hr, p⟩ => tLc2_of hv ⟨μ, s, ah, hs, hr, (PostS.bind p).mono fun x H1 ⟨μ1, v, h1, e1, hr1, r1, p1⟩ =>
    p1 μ1 H1 _ .refl hr1 ((hs.ext e1).set i r1)⟩
end
end WC
/-! W19: xs.extend(a tuple) -/
namespace PySem.ExtT
open PySem.AutoSeq1
theorem meets {l b : Addr} {items items2 : Array Value} {n n2 : Nat} {od : Option Addr} {sl : Array (Option Value)} (hc0 : ¬(!items.isEmpty && Builtin.List.listTooLong (items.size + items2.size)) = true) (hc1 : items.size ≤ sizeLine) (hs2 : items.size + items2.size ≤ sizeLine + 1) :
    Meets (Builtin.«list.extend» ⟨[.ref l, .ref b], []⟩) (fun _ R s => (s.heap.get? l = some { cls := .type "list", data := .seq items n } ∧ s.heap.get? b = some ⟨.type "tuple", od, .seq items2 n2, sl⟩) ∧ R (.ok (.ret .none)) { s with heap := s.heap.update l (Obj.mapSeq fun x => x ++ items2) }) :=
  .of_wp fun prog w A R s h => by
    obtain ⟨hp, g, d, tk, os⟩ := s
    obtain ⟨⟨hl, hb⟩, h⟩ := h
    have k1 := sub_tuple_tuple
    have k2 := sub_list_list
    have k3 := sub_tuple_list
    have k4 := sub_list_tuple
    have hz : (items ++ items2).size ≤ sizeLine + 1 := by rw [Array.size_append]; exact hs2
    wp_walk using (wpAny_updateSeq hl rfl (hz := hc1) (_hz' := hz)), wpAny_loadPart' hl, wpAny_loadPart' hb
    exact ⟨_, rfl, h⟩
end PySem.ExtT
namespace WC
open PySem L2
section
variable {X : Cx} {a0 : Addr}
def rExtT (K : PySem.W.Frag) : V → List V → Hp → VK → Prop := fun x vs H Q => ∃ l b xs zs, x = .ref l ∧ vs = [.ref b] ∧ H l = some (.lst xs) ∧ SqT K H b zs ∧ xs.length + zs.length ≤ sizeLine ∧ Q .non (upd H l (.lst (xs ++ zs)))
theorem mt_extT : MtM X "list.extend" (rExtT X.K) := by
  intro pins s σ H x vs v us Q I rx rv ⟨l, b, xs, zs, ex, ev, hl, hb, hz, q⟩
  subst ex; subst ev
  cases rx
  obtain ⟨u, rfl, ru⟩ := rv.one
  cases ru
  obtain ⟨_, its, n, r1, _, e1⟩ := I.lstM hl
  obtain ⟨its2, r2, ht, _⟩ := I.tuple hb
  obtain ⟨⟨oc, od, dt, sl⟩, e2, hc, n2, hd⟩ := ht
  have hc' : oc = .type "tuple" := hc
  have hd' : dt = .seq its2.toArray n2 := hd
  subst hc'; subst hd'
  have l1 : xs.length = its.length := r1.length
  have l2 : zs.length = its2.length := r2.length
  have hs : its.toArray.size + its2.toArray.size ≤ sizeLine := by simp only [List.size_toArray]; omega
  have ht : ¬ (!its.toArray.isEmpty && Builtin.List.listTooLong (its.toArray.size + its2.toArray.size)) = true := by
    rw [notLongL hs, Bool.and_false]; decide
  refine call_meets F.slot_list_extend ⟨_, e1, rfl⟩ F.entry_list_extend (F.args_list_extend_2 _ _) (PySem.ExtT.meets ht (by simp only [List.size_toArray]; omega) (by omega)) ⟨⟨e1, e2⟩, ?_⟩
  exact ⟨.non, _, I.lset (its' := its ++ its2) hl e1 (by simp) (r1.append r2) (by rw [List.length_append]; omega), rfl, q⟩
/-- extend by a list or a tuple -/
def mExtendA : AM := fun v as h => match v, as with
  | .ref n, [.ref m] => (match h.get n, h.get m with
    | some (.lst xs), some (.lst ys) => if xs.length + ys.length ≤ sizeLine then .ok .non (h.set n (.lst (xs ++ ys))) else .stuck
    | _, _ => .stuck)
  | .ref n, [.tup ys] => (match h.get n with
    | some (.lst xs) => if xs.length + ys.length ≤ sizeLine then .ok .non (h.set n (.lst (xs ++ ys))) else .stuck
    | _ => .stuck)
  | _, _ => .stuck
theorem mt_aExtendA : MtR X "list.extend" (MRof (Cx.wd X a0) mExtendA) := by
  intro pins s σ H x vs v us Q I rx rv ⟨μ, v', as, ah, hr, rv', ra, p⟩
  unfold mExtendA at p
  split at p
  · split at p
    · rename_i g1 g2
      split at p
      · rename_i hl
        cases ra with
        | cons rw' t =>
          cases t
          obtain ⟨a, ys, rfl, hn, h1, r1⟩ := hr.lst g1 rv'
          obtain ⟨b, zs, rfl, _, h2, r2⟩ := hr.lst g2 rw'
          obtain ⟨e, hr'⟩ := setLst hr g1 hn h1 r1 (r1.append r2)
          exact mt_extend pins s σ H _ _ v us Q I rx rv ⟨a, b, ys, zs, rfl, rfl, h1, h2, by rw [← r1.length, ← r2.length]; exact hl, p _ _ _ e hr' .non⟩
      · exact p.elim
    · exact p.elim
  · split at p
    · rename_i g1
      split at p
      · rename_i hl
        cases ra with
        | cons rw' t =>
          cases t
          obtain ⟨a, ys, rfl, hn, h1, r1⟩ := hr.lst g1 rv'
          cases rw' with
          | tup h2 r2 =>
            obtain ⟨e, hr'⟩ := setLst hr g1 hn h1 r1 (r1.append r2)
            exact mt_extT pins s σ H _ _ v us Q I rx rv ⟨a, _, ys, _, rfl, rfl, h1, h2, by rw [← r1.length, ← r2.length]; exact hl, p _ _ _ e hr' .non⟩
      · exact p.elim
    · exact p.elim
  · exact p.elim
end
end WC
/-! W29: powers and shifts, a, b = x, y with plain names, o.f += x, a *= x -/
namespace WC
open PySem PySem.Spec PyProof.Rows L2
section
variable {X : Cx} {a0 : Addr} {e o : Expr} {es : List Expr} {pos tpos : Pos}
def cPowN (i j : Int) : Bool := decide (0 ≤ j) && decide (j ≤ 1000) && decide (i.natAbs < 2 ^ 512)
theorem bits_512 {i : Int} (h : i.natAbs < 2 ^ 512) : Builtin.Int.intBits i ≤ 512 := by
  unfold Builtin.Int.intBits
  split
  · exact Nat.zero_le _
  · have : i.natAbs.log2 < 512 := by
      rcases Nat.eq_zero_or_pos i.natAbs with h0 | hp
      · rw [h0]; decide
      · exact (Nat.log2_lt (Nat.ne_of_gt hp)).mpr h
    omega
theorem cPowN_ok {i j : Int} (h : cPowN i j = true) : 0 ≤ j ∧ (Builtin.Int.intBits i : Int) * j ≤ 2 ^ 27 := by
  unfold cPowN at h
  simp only [Bool.and_eq_true, decide_eq_true_eq] at h
  obtain ⟨⟨h1, h2⟩, h3⟩ := h
  have hb := bits_512 h3
  refine ⟨h1, ?_⟩
  have k : (Builtin.Int.intBits i : Int) * j ≤ 512 * j := Int.mul_le_mul_of_nonneg_right (by omega) h1
  have k2 : (2 : Int) ^ 27 = 134217728 := by decide
  omega
def aPow : AO2 := aInt cPowN fun i j => .int (i ^ j.toNat)
theorem op_aPow : OpR X (binaryOp .Pow) (R2of (Cx.wd X a0) aPow) :=
  op_aInt (P := fun i j => 0 ≤ j ∧ (Builtin.Int.intBits i : Int) * j ≤ 2 ^ 27) (gv := fun i j => .int (i ^ j.toNat)) (opI fun _ _ _ _ _ _ _ hc q => pow_int hc.1 hc.2 q) (fun i j h => cPowN_ok h) fun _ _ _ _ => .int
def cShN (i j : Int) : Bool := decide (0 ≤ j) && decide (j ≤ 1000000) && decide (i.natAbs < 2 ^ 64)
def aShl : AO2 := aInt cShN fun i j => .int (i * 2 ^ j.toNat)
theorem op_aShl : OpR X (binaryOp .LShift) (R2of (Cx.wd X a0) aShl) :=
  op_aInt op_shl (fun i j h => by
    unfold cShN at h
    simp only [Bool.and_eq_true, decide_eq_true_eq] at h
    exact ⟨h.1.1, h.1.2, h.2⟩) fun _ _ _ _ => .int
def cShr (i j : Int) : Bool := decide (0 ≤ j)
def aShr : AO2 := aInt cShr fun i j => .int (i / 2 ^ j.toNat)
theorem op_aShr : OpR X (binaryOp .RShift) (R2of (Cx.wd X a0) aShr) := op_aInt op_shr (fun i j h => of_decide_eq_true h) fun _ _ _ _ => .int
/-! ### a, b = x, y -/
def aPar2 (i j : Nat) (f : AL) : AS := fun s h => (f s h).bind fun vs h1 => match vs with
  | [v, w] => .ok (.nx ((s.set i (some v)).set j (some w))) h1
  | _ => .stuck
def aPar3 (i j l : Nat) (f : AL) : AS := fun s h => (f s h).bind fun vs h1 => match vs with
  | [u, v, w] => .ok (.nx (((s.set i (some u)).set j (some v)).set l (some w))) h1
  | _ => .stuck
/-- plain local names on one line -/
def locAt (sc : Scope) (line : Nat) (x : PySem.Str) (p : Pos) : Bool := sc.names.lookup x == some .local && p.line == line
def parVs (n : Nat) (vs : List Expr) : Bool := vs.length == n && !(vs.any fun | .Starred .. => true | _ => false) && !(vs.all (foldedForSure 8)) && !(vs.all (constantsAlone 8))
def parOk2 (sc : Scope) (x : PySem.Str) (px : Pos) (y : PySem.Str) (py : Pos) (vs : List Expr) : Bool := parVs 2 vs && (locAt sc px.line x px && locAt sc px.line y py && decide (x ≠ y))
def parOk3 (sc : Scope) (x : PySem.Str) (px : Pos) (y : PySem.Str) (py : Pos) (z : PySem.Str) (pz : Pos) (vs : List Expr) : Bool :=
  parVs 3 vs && (locAt sc px.line x px && locAt sc px.line y py && locAt sc px.line z pz && (decide (x ≠ y) && decide (x ≠ z) && decide (y ≠ z)))
theorem sw_par2 {env : Env} {x y : PySem.Str} {px py pt : Pos} {vs : List Expr} {k1 k2 : Nat} {p2 : Pos} (hk : env.blockKind = .function) (h : parOk2 env.scope x px y py vs = true) :
    swappedStores [.Tuple [.Name x px, .Name y py] k1 pt] (.Tuple vs k2 p2) env = pure (some [x, y]) := by
  unfold parOk2 parVs locAt at h
  simp only [Bool.and_eq_true, Bool.not_eq_true', decide_eq_true_eq, beq_iff_eq] at h
  obtain ⟨⟨⟨⟨h1, h2⟩, h3⟩, h4⟩, ⟨⟨h5, h6⟩, ⟨h7, h8⟩⟩, h9⟩ := h
  have n1 : env.kindOf x = some .local := h5
  have n2 : env.kindOf y = some .local := h7
  unfold swappedStores
  simp only [pure_bind, List.length_cons, List.length_nil, h1, hk, h2, h3, h4, List.head?_cons, Option.map_some, Option.getD_some, Expr.pos, List.filterMap_cons, List.filterMap_nil, n1, n2, h8, beq_self_eq_true, Bool.and_self, if_true, Bool.true_or, Bool.not_true, bne_self_eq_false, Bool.or_self, Bool.false_eq_true, if_false]
  have ed : ([x, y] : List PySem.Str).eraseDups = [x, y] := by
    simp [List.eraseDups_cons, List.eraseDups_nil, h9, Ne.symm h9]
  simp [ed]
  intro x1 hx hs
  have t : (vs.any fun | .Starred .. => true | _ => false) = true := List.any_eq_true.mpr ⟨x1, hx, hs⟩
  rw [h2] at t
  cases t
theorem sw_par3 {env : Env} {x y z : PySem.Str} {px py pz pt : Pos} {vs : List Expr} {k1 k2 : Nat} {p2 : Pos} (hk : env.blockKind = .function) (h : parOk3 env.scope x px y py z pz vs = true) :
    swappedStores [.Tuple [.Name x px, .Name y py, .Name z pz] k1 pt] (.Tuple vs k2 p2) env = pure (some [x, y, z]) := by
  unfold parOk3 parVs locAt at h
  simp only [Bool.and_eq_true, Bool.not_eq_true', decide_eq_true_eq, beq_iff_eq] at h
  obtain ⟨⟨⟨⟨h1, h2⟩, h3⟩, h4⟩, ⟨⟨⟨h5, h6⟩, ⟨h7, h8⟩⟩, ⟨h10, h11⟩⟩, ⟨h12, h13⟩, h14⟩ := h
  have n1 : env.kindOf x = some .local := h5
  have n2 : env.kindOf y = some .local := h7
  have n3 : env.kindOf z = some .local := h10
  unfold swappedStores
  simp only [pure_bind, List.length_cons, List.length_nil, h1, hk, h2, h3, h4, List.head?_cons, Option.map_some, Option.getD_some, Expr.pos, List.filterMap_cons, List.filterMap_nil, n1, n2, n3, h8, h11, beq_self_eq_true, Bool.and_self, if_true, Bool.true_or, Bool.or_true, Bool.not_true, bne_self_eq_false, Bool.or_self, Bool.false_eq_true, if_false]
  have ed : ([x, y, z] : List PySem.Str).eraseDups = [x, y, z] := by
    simp [List.eraseDups_cons, List.eraseDups_nil, h12, h13, h14, Ne.symm h12, Ne.symm h13, Ne.symm h14]
  simp [ed]
  intro x1 hx hs
  have t : (vs.any fun | .Starred .. => true | _ => false) = true := List.any_eq_true.mpr ⟨x1, hx, hs⟩
  rw [h2] at t
  cases t
theorem ms_par2 {i j : Nat} {x y : PySem.Str} {px py pt : Pos} {k1 k2 : Nat} {p2 : Pos} {a b : Expr} {f : AL} (hk : X.env.blockKind = .function) (hc : X.calm = true) (hN : X.N.Nodup) (hi : X.N[i]? = some x) (hj : X.N[j]? = some y) (ho : parOk2 X.env.scope x px y py [a, b] = true) (ha : MA X a0 [a, b] f) :
    MS X a0 (.Assign [.Tuple [.Name x px, .Name y py] k1 pt] (.Tuple [a, b] k2 p2) pos) (aPar2 i j f) := by
  have ho' := ho
  unfold parOk2 locAt at ho'
  simp only [Bool.and_eq_true, decide_eq_true_eq, beq_iff_eq] at ho'
  obtain ⟨_, ⟨⟨h5, _⟩, ⟨h7, _⟩⟩, h9⟩ := ho'
  have hij : i ≠ j := fun z => h9 (by subst z; rw [hi] at hj; cases hj; rfl)
  refine PS.imp (ps_par hc hN hi hj hij h5 h7 ha (sw_par2 hk ho)) fun D σ H ⟨μ, s, ah, hs, hr, p⟩ => ⟨μ, s, ah, hs, hr, (PostS.bind (rel := Rls (Cx.wd X a0)) p).mono fun vs H1 ⟨μ1, as, h1, e1, hr1, r1, p1⟩ => ?_⟩
  split at p1
  · cases r1 with
    | cons q t =>
      cases t with
      | cons q2 t2 =>
        cases t2
        exact ⟨_, _, rfl, p1 μ1 H1 _ .refl hr1 (((hs.ext e1).set i q).set j q2)⟩
  · exact p1.elim
theorem ms_par3 {i j l : Nat} {x y z : PySem.Str} {px py pz pt : Pos} {k1 k2 : Nat} {p2 : Pos} {a b c : Expr} {f : AL} (hk : X.env.blockKind = .function) (hc : X.calm = true) (hN : X.N.Nodup) (hi : X.N[i]? = some x) (hj : X.N[j]? = some y) (hl : X.N[l]? = some z) (ho : parOk3 X.env.scope x px y py z pz [a, b, c] = true)
    (ha : MA X a0 [a, b, c] f) : MS X a0 (.Assign [.Tuple [.Name x px, .Name y py, .Name z pz] k1 pt] (.Tuple [a, b, c] k2 p2) pos) (aPar3 i j l f) := by
  have ho' := ho
  unfold parOk3 locAt at ho'
  simp only [Bool.and_eq_true, decide_eq_true_eq, beq_iff_eq] at ho'
  obtain ⟨_, ⟨⟨⟨h5, _⟩, ⟨h7, _⟩⟩, ⟨h10, _⟩⟩, ⟨h12, h13⟩, h14⟩ := ho'
  have hij : i ≠ j := fun q => h12 (by subst q; rw [hi] at hj; cases hj; rfl)
  have hil : i ≠ l := fun q => h13 (by subst q; rw [hi] at hl; cases hl; rfl)
  have hjl : j ≠ l := fun q => h14 (by subst q; rw [hj] at hl; cases hl; rfl)
  refine PS.imp (ps_par3 hc hN hi hj hl hij hil hjl h5 h7 h10 ha (sw_par3 hk ho)) fun D σ H ⟨μ, s, ah, hs, hr, p⟩ => ⟨μ, s, ah, hs, hr, (PostS.bind (rel := Rls (Cx.wd X a0)) p).mono fun vs H1 ⟨μ1, as, h1, e1, hr1, r1, p1⟩ => ?_⟩
  split at p1
  · cases r1 with
    | cons q t =>
      cases t with
      | cons q2 t2 =>
        cases t2 with
        | cons q3 t3 =>
          cases t3
          exact ⟨_, _, _, rfl, p1 μ1 H1 _ .refl hr1 ((((hs.ext e1).set i q).set j q2).set l q3)⟩
  · exact p1.elim
/-! ### a *= x, o.f += x -/
def aAugM (i : Nat) (f : AE) : AS := fun s h => match s[i]? with
  | some (some (.int k)) => (f s h).bind fun w h1 => (match w with
    | .int j => if (decide (-(2 ^ 64) < k) && decide (k < 2 ^ 64)) || (decide (-(2 ^ 64) < j) && decide (j < 2 ^ 64)) then .ok (.nx (s.set i (some (.int (k * j))))) h1 else .stuck
    | _ => .stuck)
  | _ => .stuck
theorem ms_augMul {x : PySem.Str} {i : Nat} {f : AE} {p' : Pos} (hN : X.N.Nodup) (hi : X.N[i]? = some x) (hx : Loc X.env.scope x) (hf : X.fn x = true ∨ X.env.scope.names.lookup x = some .local) (he : ME X a0 e f) : MS X a0 (.AugAssign (.Name x p') .Mult e pos) (aAugM i f) :=
  PS.imp (ps_aug hN hi hx he iop_mul hf) fun D σ H ⟨μ, s, ah, hs, hr, p⟩ => by
    unfold aAugM at p
    split at p
    · rename_i k q
      obtain ⟨y, hy, ry⟩ := hs.get q
      cases ry
      refine ⟨_, hy, μ, s, ah, hs, hr, (PostS.bind (rel := Rl (Cx.wd X a0)) p).mono fun z H1 ⟨μ1, w, h1, e1, hr1, r1, p1⟩ => ?_⟩
      split at p1
      · split at p1
        · rename_i c
          cases r1
          simp only [Bool.or_eq_true, Bool.and_eq_true, decide_eq_true_eq] at c
          exact ⟨_, _, rfl, rfl, c, p1 μ1 H1 _ .refl hr1 ((hs.ext e1).set i .int)⟩
        · exact p1.elim
      · exact p1.elim
    · exact p.elim
def aAugF (f : AE) (name : PySem.Str) (no : PySem.Str → PySem.Str → Bool) (g : AE) : AS := fun s h => (f s h).bind fun o h1 => match o with
  | .ref n => (match h1.get n with
    | some (.ins C fs) => if no C name = true then (match fs.lookup name with
      | some (.int k) => (g s h1).bind fun w h2 => (match w with
        | .int j => (match h2.get n with
          | some (.ins C2 fs2) => if C2 = C ∧ fs2.length < 1000 then .ok (.nx s) (h2.set n (.ins C2 (aPutF name (.int (k + j)) fs2))) else .stuck
          | _ => .stuck)
        | _ => .stuck)
      | _ => .stuck) else .stuck
    | _ => .stuck)
  | _ => .stuck
theorem ms_fldAug {f g : AE} {name : PySem.Str} {no : PySem.Str → PySem.Str → Bool} (hk : ClsFld X.K no) (ho : ME X a0 o f) (he : ME X a0 e g) : MS X a0 (.AugAssign (.Attribute o name tpos) .Add e pos) (aAugF f name no g) :=
  PS.imp (ps_fldaug ho he in_add) fun D σ H ⟨μ, s, ah, hs, hr, p⟩ => ⟨μ, s, ah, hs, hr, (PostS.bind (rel := Rl (Cx.wd X a0)) p).mono fun x H1 ⟨μ1, v, h1, e1, hr1, r1, p1⟩ => by
    split at p1
    · split at p1
      · rename_i n C fs hg
        split at p1
        · rename_i hno
          split at p1
          · rename_i k hl
            obtain ⟨a, dx, ys, rfl, hn, hH, r2⟩ := hr1.ins hg r1
            rcases r2.lookup (k := name) with ⟨z1, _⟩ | ⟨v', z, z1, z2, rz⟩
            · rw [z1] at hl; cases hl
            · rw [z1] at hl
              cases hl
              cases rz
              refine ⟨a, _, dx, ys, _, rfl, hH, (hk C name hno).1, (hk C name hno).2, z2, μ1, s, h1, hs.ext e1, hr1, (PostS.bind (rel := Rl (Cx.wd X a0)) p1).mono fun y H2 ⟨μ2, w, h2, e2, hr2, rw2, p2⟩ => ?_⟩
              split at p2
              · rename_i j
                cases rw2
                split at p2
                · rename_i C2 fs2 g2
                  split at p2
                  · rename_i hc
                    obtain ⟨rfl, hlen⟩ := hc
                    obtain ⟨b, dx2, ys2, hb, hn2, hH2, r3⟩ := hr2.ins g2 ((Rl.ref hn).ext e2)
                    cases hb
                    have E : Ext (Cx.wd X a0) μ2 H2 μ2 (upd H2 a (.ins (He.ga X.K C2) dx2 (putF name (.int (k + j)) ys2))) := Ext.upd_mut (ao := .ins C2 fs2) ⟨dx2, ys2, hH2, r3⟩
                    have R := hr2.set (ao := .ins C2 (aPutF name (.int (k + j)) fs2)) g2 hn2 (o := .ins (He.ga X.K C2) dx2 (putF name (.int (k + j)) ys2)) ⟨dx2, _, upd_same, Rks.ext E (Rks.putF .int r3)⟩
                    exact ⟨k, j, rfl, rfl, dx2, ys2, hH2, r3.length ▸ hlen, p2 μ2 _ σ E R (((hs.ext e1).ext e2).ext E)⟩
                  · exact p2.elim
                · exact p2.elim
              · exact p2.elim
          · exact p1.elim
        · exact p1.elim
      · exact p1.elim
    · exact p1.elim⟩
end
end WC
/-! W42: methods of texts, f-strings -/
namespace WC
open PySem PySem.Spec PyProof.Rows L2
section
variable {X : Cx} {a0 : Addr} {e o : Expr} {es : List Expr} {pos apos cpos : Pos}
theorem strs_new {W : Wd} {μ H} {ys : List Str} {ah : AH} {Q : VK} (hr : HR W μ ah H) (q : Post W μ H (.ok (.ref ah.n) (ah.push (.lst (ys.map AV.str)))) Q) : rNewStrs ys H Q := by
  intro p hp
  have e : Ext W μ H (μ ++ [p]) (upd H p (.lst (ys.map V.str))) := Ext.upd_new hp
  refine q (μ ++ [p]) _ _ e (hr.push hp ⟨_, upd_same, Rls.strs ys⟩) (.ref ?_)
  rw [hr.sz]; simp
/-- s.split(t) -/
def mSplit : AM := fun v as h => match v, as with
  | .str a, [.str b] => if (b.length == 0) = false then (if a.length ≤ 1000000 then .ok (.ref h.n) (h.push (.lst ((Txt.split a b).map AV.str))) else .stuck) else .stuck
  | _, _ => .stuck
theorem mt_aSplit : MtR X "str.split" (MRof (Cx.wd X a0) mSplit) := mt_imp mt_split fun x xs H Q ⟨μ, v, as, ah, hr, rv, ra, p⟩ => by
  unfold mSplit at p
  split at p
  · split at p
    · rename_i h1
      split at p
      · rename_i h2
        cases rv
        cases ra with
        | cons r t =>
          cases r; cases t
          exact ⟨_, _, rfl, rfl, h1, by rw [sizeLine_eq]; omega, strs_new hr p⟩
      · exact p.elim
    · exact p.elim
  · exact p.elim
/-- texts only -/
def toSs : List AV → Option (List Str)
  | [] => some []
  | .str x :: r => (match toSs r with
    | some l => some (x :: l)
    | none => none)
  | _ :: _ => none
theorem toSs_ok {W μ H} : ∀ {vs xs ss}, Rls W μ H vs xs → toSs vs = some ss → xs = ss.map V.str
  | _, _, _, .nil, e => by simp [toSs] at e; subst e; rfl
  | v :: vs, _, _, .cons r t, e => by
    cases v with
    | str b =>
      simp only [toSs] at e
      split at e
      · rename_i bs q
        cases e
        cases r
        rw [toSs_ok t q]; rfl
      · cases e
    | _ => simp [toSs] at e
def joinV (a : Str) (vs : List AV) (h : AH) : Ex AV := match toSs vs with
  | some ys => if (ys.map (·.length)).sum + ys.length * a.length ≤ 1000000 then .ok (.str (Txt.join a ys)) h else .stuck
  | none => .stuck
/-- s.join(list or tuple) -/
def mJoin : AM := fun v as h => match v, as with
  | .str a, [.tup xs] => joinV a xs h
  | .str a, [.ref n] => (match h.get n with
    | some (.lst xs) => joinV a xs h
    | _ => .stuck)
  | _, _ => .stuck
theorem mt_aJoin : MtR X "str.join" (MRof (Cx.wd X a0) mJoin) := mt_imp mt_join fun x xs H Q ⟨μ, v, as, ah, hr, rv, ra, p⟩ => by
  unfold mJoin at p
  split at p
  · unfold joinV at p
    split at p
    · rename_i ys q
      split at p
      · rename_i hz
        cases rv
        cases ra with
        | cons r t =>
          cases t
          cases r with
          | tup h r =>
            have e := toSs_ok r q
            subst e
            exact ⟨_, _, ys, rfl, rfl, .inr h, by omega, p.ret hr .str⟩
      · exact p.elim
    · exact p.elim
  · split at p
    · rename_i zs hg
      unfold joinV at p
      split at p
      · rename_i ys q
        split at p
        · rename_i hz
          cases rv
          cases ra with
          | cons r t =>
            cases t
            obtain ⟨a, us, rfl, _, h1, r1⟩ := hr.lst hg r
            have e := toSs_ok r1 q
            subst e
            exact ⟨_, _, ys, rfl, rfl, .inl (.of h1), by omega, p.ret hr .str⟩
        · exact p.elim
      · exact p.elim
    · exact p.elim
  · exact p.elim
/-- s.lstrip(t) -/
def mLstrip : AM := fun v as h => match v, as with
  | .str a, [.str b] => if a.length ≤ 1000000 then .ok (.str (Txt.lstripChars a b)) h else .stuck
  | _, _ => .stuck
theorem mt_aLstrip : MtR X "str.lstrip" (MRof (Cx.wd X a0) mLstrip) := mt_imp mt_lstripChars fun x xs H Q ⟨μ, v, as, ah, hr, rv, ra, p⟩ => by
  unfold mLstrip at p
  split at p
  · split at p
    · rename_i h2
      cases rv
      cases ra with
      | cons r t =>
        cases r; cases t
        exact ⟨_, _, rfl, rfl, by rw [sizeLine_eq]; omega, p.ret hr .str⟩
    · exact p.elim
  · exact p.elim
/-- s.count(t) -/
def mCount : AM := fun v as h => match v, as with
  | .str a, [.str b] => .ok (.int (Txt.count a b)) h
  | _, _ => .stuck
theorem mt_aCount : MtR X "str.count" (MRof (Cx.wd X a0) mCount) := mt_imp mt_count fun x xs H Q ⟨μ, v, as, ah, hr, rv, ra, p⟩ => by
  unfold mCount at p
  split at p
  · cases rv
    cases ra with
    | cons r t =>
      cases r; cases t
      exact ⟨_, _, rfl, rfl, p.ret hr .int⟩
  · exact p.elim
/-! ### f-strings of two parts or more -/
def aFmt (f : AE) : AE := fun s h => (f s h).bind fun v h1 => match v with
  | .str y => if y.length ≤ 1000000 then .ok (.str y) h1 else .stuck
  | .int i => if i.natAbs.log2 < 1920 then .ok (.str (toString i)) h1 else .stuck
  | _ => .stuck
theorem me_fmt {f : AE} (he : ME X a0 e f) : ME X a0 (.FormattedValue e (-1) none pos) (aFmt f) :=
  PE.imp (pe_fmt he) fun σ H Q ⟨μ, s, ah, hs, hr, p⟩ => ⟨μ, s, ah, hs, hr, (PostG.bind p).mono fun x H1 ⟨μ1, v, h1, e1, hr1, r1, p1⟩ => by
    split at p1
    · split at p1
      · rename_i hz
        cases r1
        exact .inl ⟨_, rfl, by rw [sizeLine_eq]; omega, p1.ret hr1 .str⟩
      · exact p1.elim
    · split at p1
      · rename_i hz
        cases r1
        exact .inr ⟨_, rfl, hz, p1.ret hr1 .str⟩
      · exact p1.elim
    · exact p1.elim⟩
inductive MJ (X : Cx) (a0 : Addr) : List Expr → List AE → Prop where
  | nil : MJ X a0 [] []
  | cons {e : Expr} {f : AE} {es : List Expr} {fs : List AE} (h : ME X a0 e f) (r : MJ X a0 es fs) : MJ X a0 (e :: es) (f :: fs)
def aJs : List AE → Str → AEnv → AH → Ex AV
  | [], acc, _, h => .ok (.str acc) h
  | f :: fs, acc, s, h => (f s h).bind fun v h1 => match v with
    | .str y => if (acc ++ y).length ≤ 1000000 then aJs fs (acc ++ y) s h1 else .stuck
    | _ => .stuck
theorem MJ.pj : ∀ {es fs}, MJ X a0 es fs → ∃ ts, PJ X es ts ∧ ∀ acc σ H Q, (∃ μ s ah, SR (Cx.wd X a0) μ H s σ ∧ HR (Cx.wd X a0) μ ah H ∧ Post (Cx.wd X a0) μ H (aJs fs acc s ah) Q) → tJs ts acc σ H fun out H1 => Q (.str out) H1
  | _, _, .nil => ⟨[], .nil, fun acc σ H Q ⟨μ, s, ah, hs, hr, p⟩ => p.ret hr .str⟩
  | _, _, .cons he r => by
    obtain ⟨ts, h1, h2⟩ := r.pj
    refine ⟨_ :: ts, .cons he h1, fun acc σ H Q ⟨μ, s, ah, hs, hr, p⟩ => ?_⟩
    refine ⟨μ, s, ah, hs, hr, (PostG.bind p).mono fun x H1 ⟨μ1, v, ah1, e1, hr1, r1, p1⟩ => ?_⟩
    split at p1
    · split at p1
      · rename_i hz
        cases r1
        exact ⟨_, rfl, by rw [sizeLine_eq]; omega, h2 _ _ _ _ ⟨μ1, s, ah1, hs.ext e1, hr1, p1⟩⟩
      · exact p1.elim
    · exact p1.elim
def aFstr (fs : List AE) : AE := fun s h => aJs fs Str.empty s h
theorem me_fstr {e1 e2 : Expr} {fs : List AE} (h : MJ X a0 (e1 :: e2 :: es) fs) : ME X a0 (.JoinedStr (e1 :: e2 :: es) pos) (aFstr fs) := by
  obtain ⟨ts, h1, h2⟩ := h.pj
  exact PE.imp (pe_joined h1) fun σ H Q ⟨μ, s, ah, hs, hr, p⟩ => h2 _ _ _ _ ⟨μ, s, ah, hs, hr, p⟩
end
end WC
/-! W43: a call of a local name that holds a def -/
namespace WC
open PySem PySem.Spec PyProof.Rows L2
section
variable {X : Cx} {a0 : Addr} {e o : Expr} {es : List Expr} {kws : List Keyword} {pos apos cpos p : Pos} {k n m i : Nat} {ks : List Str} {x : Str}
def aCallL (i : Nat) (tab : Str → Option MInfo) (fa fk : AL) : AE := fun s h => match s[i]? with
  | some (some (.glo x)) => (match tab x with
    | some j => (fa s h).bind fun as h1 => (fk s h1).bind fun zs h2 => aCallV j.n j.m j.ks j.gA j.g as zs h2
    | none => .stuck)
  | _ => .stuck
def LocTab (X : Cx) (a0 : Addr) (k : Nat) (ks : List Str) (tab : Str → Option MInfo) : Prop :=
  ∀ x j, tab x = some j → j.ks = ks ∧ PySem.W.keepIn X.K (.ref (He.ga X.K x)) = true ∧ FnAt X a0 k (He.ga X.K x) j.n j.g j.m j.ks j.gA
theorem me_callL {tab : Str → Option MInfo} {fa fk : AL} (T : LocTab X a0 k ks tab) (hr : Rm k X.A) (hN : X.N[i]? = some x) (hv : Vis X.env.scope x) (hd : (x == ("__debug__" : Str)) = false) (hcd : (x == ("__classdict__" : Str)) = false) (ha : MA X a0 (e :: es) fa) (hkw : MK X a0 kws fk)
    (h2 : (e :: es).all noStar = true) (h3 : kwNames kws = some ks) : ME X a0 (.Call (.Name x p) (e :: es) kws pos) (aCallL i tab fa fk) := by
  refine ⟨fun pins s σ H Q I h => ?_⟩
  obtain ⟨μ, st, ah, hs, R, q⟩ := h
  unfold aCallL at q
  split at q
  · rename_i y hy
    split at q
    · rename_i j hj
      obtain ⟨v, hσ, rv⟩ := hs.get hy
      cases rv
      obtain ⟨hks, hkp, F⟩ := T y j hj
      refine wpAny_Call_Name_kw (thn ((pe_var (pos := p) hN hv hd hcd).run pins s σ H (fun v H1 => v = .ref (He.ga X.K y) ∧ H1 = H) I ⟨_, hσ, rfl, rfl⟩) fun u s0 ⟨v, H0, I0, r0, q0⟩ => ?_)
      obtain ⟨rfl, rfl⟩ := q0
      cases r0
      obtain ⟨k1, k2, k3⟩ := kw_ok (pos := pos) (env := X.env) h3
      have h2' := h2
      rw [List.all_cons, Bool.and_eq_true] at h2'
      refine PySem.W.callWith_KW (h₀ := X.base) I0.ok.mod.kin hkp k1 ?_ (by rw [k3, Bool.or_false]; exact star_none h2) (star_cons h2'.1)
      refine thn (ha.run pos pins s0 σ _ _ I0 ⟨μ, st, ah, hs, R, PostG.bind q⟩) fun us s1 ⟨vs, H1, I1, r, μ1, as, h1, e1, R1, ra, q1⟩ => ?_
      refine thn (hkw.run pos pins s1 σ H1 _ I1 ⟨μ1, st, h1, hs.ext e1, R1, PostG.bind q1⟩) fun ws s2 ⟨zs, H2, I2, rz, μ2, bs, h2, e2, R2, rb, q2⟩ => ⟨I2.kIn, ?_⟩
      rw [k2]
      subst hks
      exact F.run hr I2 r rz R2 (ra.ext e2) rb q2
    · exact q.elim
  · exact q.elim
theorem me_callL0 {tab : Str → Option MInfo} {fk : AL} (T : LocTab X a0 k ks tab) (hr : Rm k X.A) (hN : X.N[i]? = some x) (hv : Vis X.env.scope x) (hd : (x == ("__debug__" : Str)) = false) (hcd : (x == ("__classdict__" : Str)) = false) (hkw : MK X a0 kws fk)
    (h3 : kwNames kws = some ks) : ME X a0 (.Call (.Name x p) [] kws pos) (aCallL i tab aNil fk) := by
  refine ⟨fun pins s σ H Q I h => ?_⟩
  obtain ⟨μ, st, ah, hs, R, q⟩ := h
  unfold aCallL at q
  split at q
  · rename_i y hy
    split at q
    · rename_i j hj
      obtain ⟨v, hσ, rv⟩ := hs.get hy
      cases rv
      obtain ⟨hks, hkp, F⟩ := T y j hj
      refine wpAny_Call_Name_kw (thn ((pe_var (pos := p) hN hv hd hcd).run pins s σ H (fun v H1 => v = .ref (He.ga X.K y) ∧ H1 = H) I ⟨_, hσ, rfl, rfl⟩) fun u s0 ⟨v, H0, I0, r0, q0⟩ => ?_)
      obtain ⟨rfl, rfl⟩ := q0
      cases r0
      obtain ⟨k1, k2, k3⟩ := kw_ok (pos := pos) (env := X.env) h3
      refine PySem.W.callWith_KW0 (h₀ := X.base) I0.ok.mod.kin hkp k1 ?_ (by rw [k3]; rfl)
      have q' : Post (Cx.wd X a0) μ _ ((fk st ah).bind fun zs h2 => aCallV j.n j.m j.ks j.gA j.g [] zs h2) Q := q
      refine thn (hkw.run pos pins s0 σ _ _ I0 ⟨μ, st, ah, hs, R, PostG.bind q'⟩) fun ws s2 ⟨zs, H2, I2, rz, μ2, bs, h2, e2, R2, rb, q2⟩ => ⟨I2.kIn, ?_⟩
      rw [k2]
      subst hks
      exact F.run hr I2 .nil rz R2 .nil rb q2
    · exact q.elim
  · exact q.elim
end
end WC
/-! W20: the compact text of a def and its plain run -/
namespace WC
open PySem L2
inductive BC where
  | len | all | any | max | min | abs | int | list | tuple | dict | isi | repr
  deriving DecidableEq, Repr, Inhabited
/-- methods of a text with one argument -/
inductive SM where
  | split | join | lstrip | count
  deriving DecidableEq, Repr, Inhabited
/-- expressions, iterators, targets -/
inductive IX where
  | c (v : AV)
  | v (i : Nat)
  | bin (o : Operator) (a b : IX)
  | cmp (o : CmpOp) (a b : IX)
  | chain (o o' : CmpOp) (a b c : IX)
  | and (a b : IX)
  | or (a b : IX)
  | one (a : IX)
  | not (a : IX)
  | ife (c a b : IX)
  | tup (xs : List IX)
  | lst (xs : List IX)
  | star (x : IX)
  | ix (a b : IX)
  | sl (a : IX) (lo hi : Option IX)
  | fld (a : IX) (name : Str)
  | call (i n m : Nat) (ks : List Str) (d : List AV) (as zs : List IX)
  | make (C : Str) (i n m : Nat) (ks : List Str) (d : List AV) (as zs : List IX)
  | meth (mth : Str) (tb : List (Str × (Nat × Nat × Nat × List AV))) (ks : List Str) (o : IX) (as zs : List IX)
  | bc (b : BC) (as : List IX)
  | app (o : IX) (as : List IX)
  | extd (o : IX) (as : List IX)
  | pop0 (o : IX)
  | pop (o a : IX)
  | get1 (o a : IX)
  | get2 (o a b : IX)
  | items (o : IX)
  | dnew
  | dsp (ks vs : List IX)
  | lc (lk : Option IX) (it tg : IX) (ifs : List IX) (elt : IX) (vs : List Nat)
  | lc2 (it tg : IX) (ifs : List IX) (it1 tg1 : IX) (ifs1 : List IX) (elt : IX) (vs vs1 : List Nat)
  | dc (lk : Option IX) (it tg : IX) (ifs : List IX) (k v : IX) (vs : List Nat)
  | lenSet (it tg : IX) (ifs : List IX) (elt : IX) (vs : List Nat)
  | iVal (a : IX)
  | iItems (a : IX)
  | iVals (a : IX)
  | iRng1 (as : List IX)
  | iRng2 (as : List IX)
  | iEnum (as : List IX)
  | iZip (as : List IX)
  | iZipS (as : List IX)
  | gName (i : Nat)
  | gTup (n : Nat) (ts : List IX)
  | gStar (i after : Nat) (ts : List IX)
  | gSub (a b : IX)
  | gFld (a : IX) (name : Str)
  | callL (i m : Nat) (ks : List Str) (tb : List (Str × (Nat × Nat × Nat × List AV))) (as zs : List IX)
  | sm (k : SM) (o : IX) (as : List IX)
  | fmt (a : IX)
  | fstr (ps : List IX)
  | bad
  deriving Inhabited
inductive IS where
  | exp (e : IX)
  | ret (e : IX)
  | retN
  | pass
  | brk
  | cont
  | ifs (c : IX) (a b : List IS)
  | for_ (lk : Option IX) (tg it : IX) (body : List IS)
  | while_ (c : IX) (body : List IS)
  | asg (tg e : IX)
  | setLc (i : Nat) (it tg : IX) (ifs : List IX) (elt : IX) (vs : List Nat)
  | setLc2 (i : Nat) (it tg : IX) (ifs : List IX) (it1 tg1 : IX) (ifs1 : List IX) (elt : IX) (vs vs1 : List Nat)
  | aug (i : Nat) (e : IX)
  | par2 (i j : Nat) (as : List IX)
  | par3 (i j l : Nat) (as : List IX)
  | augM (i : Nat) (e : IX)
  | augF (o e : IX) (name : Str)
  | no
  deriving Inhabited
/-! ### the run -/
structure Env0 where
  gc : Nat → AC
  gm : Nat → AC
  no : Str → Str → Bool
  tab : KTab
  lim : Nat
structure Rn where
  e : IX → AE
  t : IX → AT
  i : IX → AEnv → AH → Ex AI
  g : IX → AG
def stuckE : AE := fun _ _ => .stuck
def Rn.stuck : Rn := ⟨fun _ _ _ => .stuck, fun _ _ _ => .stuck, fun _ _ _ => .stuck, fun _ _ _ _ => .stuck⟩
def runL (e : IX → AE) : List IX → AL
  | [] => fun _ h => .ok [] h
  | .star x :: r => aStar (e x) (runL e r)
  | x :: r => aCons (e x) (runL e r)
def runTs (t : IX → AT) : List IX → AT
  | [] => fun _ h => .ok true h
  | [x] => t x
  | _ => fun _ _ => .stuck
def runGs (g : IX → AG) : List IX → AGs
  | [] => gaNil
  | x :: r => gaCons (g x) (runGs g r)
def runO (e : IX → AE) : Option IX → AP
  | none => fun _ h => .ok none h
  | some x => aPart (e x)
def bindA (d : List AV) (vs zs : List AV) : List AV := vs ++ zs ++ d
def binA : Operator → AO2
  | .Add => aAdd
  | .Sub => aSub
  | .Mult => aMul
  | .FloorDiv => aFdiv
  | .Mod => aMod
  | .Pow => aPow
  | .LShift => aShl
  | .RShift => aShr
  | _ => fun _ _ _ => .stuck
def cmpA (tab : KTab) : CmpOp → AO2
  | .Eq => aEqX
  | .NotEq => aNeX
  | .Lt => aLt
  | .LtE => aLe
  | .Gt => aGt
  | .GtE => aGe
  | .Is => aIs
  | .IsNot => aIsNot
  | .In => inK tab false aIn
  | .NotIn => inK tab true aNotIn
def bcA : BC → AC
  | .len => bLen
  | .all => bAll
  | .any => bAny
  | .max => bMax
  | .min => bMin
  | .abs => bAbs
  | .int => bInt
  | .list => bList
  | .tuple => bTuple
  | .dict => bDict
  | .isi => bIsi
  | .repr => bRepr
def smA : SM → AM
  | .split => mSplit
  | .join => mJoin
  | .lstrip => mLstrip
  | .count => mCount
def methA (E : Env0) (ks : List Str) (tb : List (Str × (Nat × Nat × Nat × List AV))) (C : Str) : Option MInfo := match tb.lookup C with
  | some (i, n, m, d) => some ⟨n, m, ks, bindA d, E.gc i⟩
  | none => none
def pkA (e : IX → AE) (lk : Option IX) : AEnv → AH → Option Nat := fun s h => match lk with
  | some x => (match e x s h with
    | .ok (.ref n) _ => some n
    | _ => none)
  | none => none
/-- pop of a list or a dict -/
def aPopV (f g : AE) : AE := fun s h => match f s h with
  | .ok v h1 => if isLst v h1 = true then (aBM f isLst (aCons g aNil) mPopAt s h) else aDPop f g s h
  | .stuck => .stuck
def stepE (E : Env0) (R : Rn) : IX → AE
  | .c v => fun _ h => .ok v h
  | .v i => aVar i
  | .bin o a b => aBin (R.e a) (R.e b) (binA o)
  | .cmp o a b => aBin (R.e a) (R.e b) (cmpA E.tab o)
  | .chain o o' a b c => aChain (R.e a) (R.e b) (R.e c) (cmpA E.tab o) (cmpA E.tab o')
  | .and a b => aAndV (R.e a) (R.e b)
  | .or a b => aOrV (R.e a) (R.e b)
  | .one a => R.e a
  | .not a => aNotV (R.e a)
  | .ife c a b => aIfE (R.t c) (R.e a) (R.e b)
  | .tup xs => fun s h => (runL R.e xs s h).bind mkTup
  | .lst xs => fun s h => (runL R.e xs s h).bind mkLst
  | .ix a b => aBin (R.e a) (R.e b) (ixK E.tab aIx)
  | .sl a lo hi => aSl (R.e a) (runO R.e lo) (runO R.e hi)
  | .fld a name => fun s h => (R.e a s h).bind (aFld name E.no)
  | .call i n m ks d as zs => aCallG n m ks (bindA d) (E.gc i) (runL R.e as) (runL R.e zs)
  | .make C i n m ks d as zs => aMakeG C n m ks (bindA d) (E.gm i) (runL R.e as) (runL R.e zs)
  | .meth mth tb ks o as zs => aMeth mth (methA E ks tb) (R.e o) (runL R.e as) (runL R.e zs)
  | .bc b as => fun s h => (runL R.e as s h).bind (bcA b)
  | .callL i m ks tb as zs => aCallL i (methA E ks tb) (runL R.e as) (runL R.e zs)
  | .sm k o as => aBM (R.e o) isStr (runL R.e as) (smA k)
  | .fmt a => aFmt (R.e a)
  | .fstr ps => aFstr (ps.map R.e)
  | .app o as => aBM (R.e o) isLst (runL R.e as) mAppend
  | .extd o as => aBM (R.e o) isLst (runL R.e as) mExtendA
  | .pop0 o => aBM (R.e o) isLst (fun _ h => .ok [] h) mPop0
  | .pop o a => aPopV (R.e o) (R.e a)
  | .get1 o a => aDGet1 (R.e o) (R.e a)
  | .get2 o a b => aDGet2 (R.e o) (R.e a) (R.e b)
  | .items o => aLI (R.e o)
  | .dnew => fun _ h => .ok (.ref h.n) (h.push (.dct []))
  | .dsp ks vs => aDisp ((ks.zip vs).map fun p => (R.e p.1, R.e p.2))
  | .lc lk it tg ifs elt vs => aLockE (pkA R.e lk) (aLc E.lim (R.i it) (R.g tg) (runTs R.t ifs) (R.e elt) vs)
  | .lc2 it tg ifs it1 tg1 ifs1 elt vs vs1 => aLc2 E.lim (R.i it) (R.g tg) (runTs R.t ifs) (R.i it1) (R.g tg1) (runTs R.t ifs1) (R.e elt) vs vs1
  | .dc lk it tg ifs k v vs => aLockE (pkA R.e lk) (aDc E.lim (R.i it) (R.g tg) (runTs R.t ifs) (R.e k) (R.e v) vs)
  | .lenSet it tg ifs elt vs => aLenSet E.lim (R.i it) (R.g tg) (runTs R.t ifs) (R.e elt) vs
  | _ => fun _ _ => .stuck
def stepT (E : Env0) (R : Rn) : IX → AT
  | .and a b => aAndT (R.t a) (R.t b)
  | .or a b => aOrT (R.t a) (R.t b)
  | .one a => R.t a
  | .not a => aNotT (R.t a)
  | .ife c a b => aIfT (R.t c) (R.t a) (R.t b)
  | .cmp o a b => fun s h => asB (stepE E R (.cmp o a b) s h)
  | .chain o o' a b c => fun s h => asB (stepE E R (.chain o o' a b c) s h)
  | x => fun s h => asT (stepE E R x s h)
def stepI (E : Env0) (R : Rn) : IX → AEnv → AH → Ex AI
  | .iVal a => aIter (R.e a)
  | .iItems a => aItems (R.e a)
  | .iVals a => aVals (R.e a)
  | .iRng1 as => fun s h => (runL R.e as s h).bind rng1
  | .iRng2 as => fun s h => (runL R.e as s h).bind rng2
  | .iEnum as => fun s h => (runL R.e as s h).bind enm1
  | .iZip as => fun s h => (runL R.e as s h).bind zpl2
  | .iZipS as => fun s h => (runL R.e as s h).bind zps2
  | _ => fun _ _ => .stuck
def stepG (E : Env0) (R : Rn) : IX → AG
  | .gName i => gaName i
  | .gTup n ts => gaTup n (runGs R.g ts)
  | .gStar i after ts => gaStar i after (runGs R.g ts)
  | .gSub a b => gaSub (R.e a) (R.e b)
  | .gFld a name => gaFld (R.e a) name E.no
  | _ => fun _ _ _ => .stuck
def step (E : Env0) (R : Rn) : Rn := ⟨stepE E R, stepT E R, stepI E R, stepG E R⟩
def runX (E : Env0) : Nat → Rn
  | 0 => Rn.stuck
  | n + 1 => step E (runX E n)
structure Rs where
  s : IS → AS
def runSs (s : IS → AS) : List IS → AS
  | [] => fun s h => .ok (.nx s) h
  | x :: r => aSeq (s x) (runSs s r)
def stepS (E : Env0) (R : Rn) (S : IS → AS) : IS → AS
  | .exp e => fun s h => (R.e e s h).bind fun _ h1 => .ok (.nx s) h1
  | .ret e => fun s h => (R.e e s h).bind fun v h1 => .ok (.rt v) h1
  | .retN => fun s h => .ok (.rt .non) h
  | .pass => fun s h => .ok (.nx s) h
  | .brk => fun s h => .ok (.bk s) h
  | .cont => fun s h => .ok (.ct s) h
  | .ifs c a b => aIfS (R.t c) (runSs S a) (runSs S b)
  | .for_ lk tg it body => aLockS (pkA R.e lk) (aFor E.lim (R.i it) (R.g tg) (runSs S body))
  | .while_ c body => whileL (R.t c) (runSs S body) E.lim
  | .asg tg e => aAsg (R.e e) (R.g tg)
  | .setLc i it tg ifs elt vs => aAsg (aLc E.lim (R.i it) (R.g tg) (runTs R.t ifs) (R.e elt) vs) (gaName i)
  | .setLc2 i it tg ifs it1 tg1 ifs1 elt vs vs1 => aAsg (aLc2 E.lim (R.i it) (R.g tg) (runTs R.t ifs) (R.i it1) (R.g tg1) (runTs R.t ifs1) (R.e elt) vs vs1) (gaName i)
  | .aug i e => aAugI i (R.e e) fun a b => a + b
  | .par2 i j as => aPar2 i j (runL R.e as)
  | .par3 i j l as => aPar3 i j l (runL R.e as)
  | .augM i e => aAugM i (R.e e)
  | .augF o e name => aAugF (R.e o) name E.no (R.e e)
  | .no => fun _ _ => .stuck
def runS (E : Env0) (R : Rn) : Nat → IS → AS
  | 0 => fun _ _ _ => .stuck
  | n + 1 => stepS E R (runS E R n)
/-- how a body ends as a call -/
def asCall (r : Ex Fl) : Ex AV := match r with
  | .ok (.nx _) h => .ok .non h
  | .ok (.rt v) h => .ok v h
  | _ => .stuck
structure FI where
  n : Nat
  sz : Nat
  body : List IS
structure Prog where
  fns : List FI
  no : Str → Str → Bool
  tab : KTab
def DX : Nat := 64
def limN : Nat := 100000
def Prog.body (P : Prog) (gc gm : Nat → AC) (i : Nat) : AC := fun as h => match P.fns[i]? with
  | some F => asCall (runSs (runS ⟨gc, gm, P.no, P.tab, limN⟩ (runX ⟨gc, gm, P.no, P.tab, limN⟩ DX) DX) F.body (as.map some ++ List.replicate (F.sz - as.length) none) h)
  | none => .stuck
def Prog.two (P : Prog) : Nat → (Nat → AC) × (Nat → AC)
  | 0 => (fun _ _ _ => .stuck, fun _ _ _ => .stuck)
  | k + 1 => (P.body (P.two k).1 (P.two k).2, (P.two k).1)
def Prog.call (P : Prog) (k : Nat) : Nat → AC := (P.two k).1
end WC
/-! W21: from the text to the compact text -/
namespace WC
open PySem L2
structure Ct where
  sc : Scope
  fn : Str → Bool
structure PI0 where
  N : List Str
  glob : Str → Option AV
  free : Str → Bool
  fix : Str → Option Nat
  cix : Str → Option Nat
  mth : Str → List (Str × Nat)
  shape : Nat → Nat → List Str → Option (Nat × List AV)
  vals : List Str
structure Cm where
  e : Ct → Expr → Option IX
  i : Ct → Expr → Expr → Option IX
  g : Ct → Expr → Option (IX × List Nat)
def Cm.none : Cm := ⟨fun _ _ => Option.none, fun _ _ _ => Option.none, fun _ _ => Option.none⟩
def idxOf (x : Str) : List Str → Nat → Option Nat
  | [], _ => none
  | y :: r, i => if y = x then some i else idxOf x r (i + 1)
def badName (x : Str) : Bool := (x == ("__debug__" : Str)) || (x == ("__classdict__" : Str))
def compName (P : PI0) (C : Ct) (x : Str) : Option IX := if badName x = true then none else match C.sc.names.lookup x with
  | some .local => (idxOf x P.N 0).map .v
  | some .cell => (idxOf x P.N 0).map .v
  | some .free => (idxOf x P.N 0).map .v
  | some .globalImplicit => (match P.glob x with
    | some v => some (.c v)
    | none => if P.free x = true then (match bootBuiltins x with
      | some (.type T) => if x = ("__name__" : Str) then none else some (.c (.ty T))
      | _ => none) else none)
  | _ => none
def isGl (C : Ct) (x : Str) : Bool := decide (C.sc.names.lookup x = some .globalImplicit)
def compL (e : Expr → Option IX) : List Expr → Option (List IX)
  | [] => some []
  | .Starred x _ :: r => (match e x, compL e r with
    | some a, some b => some (.star a :: b)
    | _, _ => none)
  | x :: r => (match e x, compL e r with
    | some a, some b => some (a :: b)
    | _, _ => none)
def compK (e : Expr → Option IX) : List Keyword → Option (List IX)
  | [] => some []
  | ⟨some _, x, _⟩ :: r => (match e x, compK e r with
    | some a, some b => some (a :: b)
    | _, _ => none)
  | _ => none
def compT (e : Expr → Option IX) : List Expr → Option (List IX)
  | [] => some []
  | [x] => (e x).map fun a => [a]
  | _ => none
def compGs (g : Expr → Option (IX × List Nat)) : List Expr → Option (List IX × List Nat)
  | [] => some ([], [])
  | .Starred x _ :: r => (match g x, compGs g r with
    | some (a, is), some (b, js) => some (a :: b, is ++ js)
    | _, _ => none)
  | x :: r => (match g x, compGs g r with
    | some (a, is), some (b, js) => some (a :: b, is ++ js)
    | _, _ => none)
def bcOf (x : Str) : Option (BC × Bool × String) :=
  if x = ("len" : Str) then some (.len, false, "len") else
  if x = ("all" : Str) then some (.all, false, "all") else
  if x = ("any" : Str) then some (.any, false, "any") else
  if x = ("max" : Str) then some (.max, false, "max") else
  if x = ("min" : Str) then some (.min, false, "min") else
  if x = ("abs" : Str) then some (.abs, false, "abs") else
  if x = ("int" : Str) then some (.int, true, "int") else
  if x = ("list" : Str) then some (.list, true, "list") else
  if x = ("tuple" : Str) then some (.tuple, true, "tuple") else
  if x = ("dict" : Str) then some (.dict, true, "dict") else
  if x = ("isinstance" : Str) then some (.isi, false, "isinstance") else
  if x = ("repr" : Str) then some (.repr, false, "repr") else none
/-- a comprehension's block: its scope as it stands, its own slots -/
def ownOf (N : List Str) : List (Str × NameKind) → List (Str × Nat)
  | [] => []
  | (x, k) :: r => (match k with
    | .local => (match idxOf x N 0 with
      | some i => (x, i) :: ownOf N r
      | none => ownOf N r)
    | .cell => (match idxOf x N 0 with
      | some i => (x, i) :: ownOf N r
      | none => ownOf N r)
    | _ => ownOf N r)
def blkCt (C : Ct) (scope : Scope) : Ct := ⟨relS scope C.sc, fun x => scope.names.lookup x == some .cell⟩
def subB (is vs : List Nat) : Bool := is.all fun i => vs.contains i
def methRow (P : PI0) (m : Nat) (ks : List Str) : List (Str × Nat) → Option (List (Str × (Nat × Nat × Nat × List AV)))
  | [] => some []
  | (C, i) :: r => (match P.shape i m ks, methRow P m ks r with
    | some (n, d), some b => some ((C, (i, n, m, d)) :: b)
    | none, some b => some b
    | _, none => none)
/-- the defs that a local name may hold -/
def valRow (P : PI0) (m : Nat) (ks : List Str) : List Str → List (Str × (Nat × Nat × Nat × List AV))
  | [] => []
  | x :: r => (match P.fix x with
    | some i => (match P.shape i m ks with
      | some (n, d) => (x, (i, n, m, d)) :: valRow P m ks r
      | none => valRow P m ks r)
    | none => valRow P m ks r)
def isLoc (C : Ct) (x : Str) : Bool := decide (C.sc.names.lookup x = some .local) || decide (C.sc.names.lookup x = some .cell) || decide (C.sc.names.lookup x = some .free)
def compLoc (P : PI0) (M : Cm) (C : Ct) (x : Str) (args : List Expr) (kws : List Keyword) : Option IX :=
  if badName x = true then none else if isLoc C x = true then (if args.all noStar = true then (match kwNames kws, idxOf x P.N 0 with
    | some ks, some i => (match compL (M.e C) args, compK (M.e C) kws with
      | some as, some zs => some (.callL i args.length ks (valRow P args.length ks P.vals) as zs)
      | _, _ => none)
    | _, _ => none) else none) else none
def smOf (m : Str) : Option SM :=
  if m = ("split" : Str) then some .split else
  if m = ("join" : Str) then some .join else
  if m = ("lstrip" : Str) then some .lstrip else
  if m = ("count" : Str) then some .count else none
/-- the dict to be locked for an iterator -/
def lkOf : IX → Option IX
  | .iItems a => some a
  | .iVals a => some a
  | _ => none
def compCall (P : PI0) (M : Cm) (C : Ct) (x : Str) (args : List Expr) (kws : List Keyword) : Option IX :=
  if badName x = true then none else if isGl C x = true then (if args.all noStar = true then (match kwNames kws with
    | some ks => (match compL (M.e C) args, compK (M.e C) kws with
      | some as, some zs => (match P.fix x with
        | some i => (match P.shape i args.length ks with
          | some (n, d) => some (.call i n args.length ks d as zs)
          | none => none)
        | none => (match P.cix x with
          | some i => (match P.shape i (args.length + 1) ks with
            | some (n, d) => some (.make x i n (args.length + 1) ks d as zs)
            | none => none)
          | none => if P.free x = true then (match bcOf x, kws, args with
            | some (b, _), [], _ :: _ => some (.bc b as)
            | _, _, _ => none) else none))
      | _, _ => none)
    | none => none) else none) else none
def compMeth (P : PI0) (M : Cm) (C : Ct) (o : Expr) (m : Str) (apos : Pos) (args : List Expr) (kws : List Keyword) (pos : Pos) : Option IX :=
  if notSuper o = true then (if args.all noStar = true then (if fewOk args kws = true then (if lineOk apos pos = true then (match kwNames kws with
    | some ks => (match M.e C o, compL (M.e C) args, compK (M.e C) kws with
      | some a, some as, some zs => (match P.mth m with
        | [] => if m = ("append" : Str) then (match kws, args with
            | [], [_] => some (.app a as)
            | _, _ => none)
          else if m = ("extend" : Str) then (match kws, args with
            | [], [_] => some (.extd a as)
            | _, _ => none)
          else if m = ("pop" : Str) then (match kws, args, as with
            | [], [], _ => some (.pop0 a)
            | [], [_], [b] => some (.pop a b)
            | _, _, _ => none)
          else if m = ("get" : Str) then (match kws, args, as with
            | [], [_], [b] => some (.get1 a b)
            | [], [_, _], [b, c] => some (.get2 a b c)
            | _, _, _ => none)
          else (match smOf m, kws, args with
            | some k, [], [_] => some (.sm k a as)
            | _, _, _ => none)
        | row => (match methRow P (args.length + 1) ks row with
          | some tb => some (.meth m tb ks a as zs)
          | none => none))
      | _, _, _ => none)
    | none => none) else none) else none) else none) else none
def compOE (e : Expr → Option IX) : Option Expr → Option (Option IX)
  | none => some none
  | some x => (e x).map some
/-- the parts of one clause -/
def compBlk (P : PI0) (M : Cm) (C : Ct) (tg iter : Expr) (ifs : List Expr) (scope : Scope) : Option (IX × IX × List IX × List Nat) :=
  if notSet iter = true then (if blkC P.N C.sc scope (ownOf P.N scope.names) = true then (match M.i C tg iter, M.g (blkCt C scope) tg, compT (M.e (blkCt C scope)) ifs with
    | some it, some (g, is), some ts => if subB is ((ownOf P.N scope.names).map (·.2)) = true then some (it, g, ts, (ownOf P.N scope.names).map (·.2)) else none
    | _, _, _ => none) else none) else none
def compConst : Const → Option IX
  | .int i => some (.c (.int i))
  | .str i => some (.c (.str i))
  | .bool i => some (.c (.bl i))
  | .none => some (.c .non)
  | _ => none
def compUn (M : Cm) (C : Ct) : UnaryOp → Expr → Option IX
  | .USub, .Constant (.int i) _ _ => some (.c (.int (-i)))
  | .Not, a => (M.e C a).map .not
  | _, _ => none
def compCmp (M : Cm) (C : Ct) (a : Expr) : List CmpOp → List Expr → Option IX
  | [op], [b] => if behindInMarks op b = true then none else (match M.e C a, M.e C b with
    | some x, some y => some (.cmp op x y)
    | _, _ => none)
  | [op, op'], [b, c] => if lastMarks [op, op'] [b, c] = true then none else (match M.e C a, M.e C b, M.e C c with
    | some x, some y, some z => some (.chain op op' x y z)
    | _, _, _ => none)
  | _, _ => none
def compBO (M : Cm) (C : Ct) (op : BoolOp) (pos : Pos) : List Expr → Option IX
  | [a] => (M.e C a).map .one
  | a :: b :: r => (match M.e C a, M.e C (.BoolOp op (b :: r) pos) with
    | some x, some y => some (match op with
      | .And => .and x y
      | .Or => .or x y)
    | _, _ => none)
  | [] => none
def compSub (M : Cm) (C : Ct) (a : Expr) : Expr → Option IX
  | .Slice lo hi none _ => (match M.e C a, compOE (M.e C) lo, compOE (M.e C) hi with
    | some x, some y, some z => some (.sl x y z)
    | _, _, _ => none)
  | b => if notSlice b = true then (match M.e C a, M.e C b with
    | some x, some y => some (.ix x y)
    | _, _ => none) else none
def compLenS (P : PI0) (M : Cm) (C : Ct) (f : Str) : Expr → Option IX
  | .SetComp elt [⟨tg, iter, ifs, 0⟩] scope _ => if f = ("len" : Str) then (if isGl C f = true then (if P.free f = true then (match compBlk P M C tg iter ifs scope, M.e (blkCt C scope) elt with
    | some (it, g, ts, vs), some el => some (.lenSet it g ts el vs)
    | _, _ => none) else none) else none) else none
  | _ => none
def compLI (P : PI0) (M : Cm) (C : Ct) (f : Str) : Expr → Option IX
  | .Call (.Attribute o m apos) [] [] cpos => if f = ("list" : Str) ∧ m = ("items" : Str) then (if isGl C f = true then (if P.free f = true then (if notSuper o = true then (if lineOk apos cpos = true then
    (M.e C o).map .items else none) else none) else none) else none) else none
  | _ => none
def orElse' (a b : Option IX) : Option IX := match a with
  | some x => some x
  | none => b
def compCallN (P : PI0) (M : Cm) (C : Ct) (f : Str) : List Expr → List Keyword → Option IX
  | [a], [] => orElse' (compLenS P M C f a) (orElse' (compLI P M C f a) (orElse' (compLoc P M C f [a] []) (compCall P M C f [a] [])))
  | args, kws => orElse' (compLoc P M C f args kws) (compCall P M C f args kws)
def compCallE (P : PI0) (M : Cm) (C : Ct) (args : List Expr) (kws : List Keyword) (pos : Pos) : Expr → Option IX
  | .Name f _ => compCallN P M C f args kws
  | .Attribute o m apos => compMeth P M C o m apos args kws pos
  | _ => none
def compLC (P : PI0) (M : Cm) (C : Ct) (elt : Expr) (scope : Scope) : List Comprehension → Option IX
  | [⟨tg, iter, ifs, 0⟩] => (match compBlk P M C tg iter ifs scope, M.e (blkCt C scope) elt with
    | some (it, g, ts, vs), some el => some (.lc (lkOf it) it g ts el vs)
    | _, _ => none)
  | [⟨tg, iter, ifs, 0⟩, ⟨tg1, iter1, ifs1, 0⟩] => if notSet iter1 = true then (match compBlk P M C tg iter ifs scope, M.i (blkCt C scope) tg1 iter1, M.g (blkCt C scope) tg1, compT (M.e (blkCt C scope)) ifs1, M.e (blkCt C scope) elt with
    | some (it, g, ts, vs), some it1, some (g1, is1), some ts1, some el => if subB is1 vs = true then some (.lc2 it g ts it1 g1 ts1 el vs is1) else none
    | _, _, _, _, _ => none) else none
  | _ => none
def compDC (P : PI0) (M : Cm) (C : Ct) (k v : Expr) (scope : Scope) : List Comprehension → Option IX
  | [⟨tg, iter, ifs, 0⟩] => (match compBlk P M C tg iter ifs scope, M.e (blkCt C scope) k, M.e (blkCt C scope) v with
    | some (it, g, ts, vs), some x, some y => some (.dc (lkOf it) it g ts x y vs)
    | _, _, _ => none)
  | _ => none
def compKs (e : Expr → Option IX) : List (Option Expr) → Option (List IX)
  | [] => some []
  | some x :: r => (match e x, compKs e r with
    | some a, some b => some (a :: b)
    | _, _ => none)
  | none :: _ => none
def compVs (e : Expr → Option IX) : List Expr → Option (List IX)
  | [] => some []
  | x :: r => (match e x, compVs e r with
    | some a, some b => some (a :: b)
    | _, _ => none)
def compDisp (M : Cm) (C : Ct) (vs : List Expr) : List (Option Expr) → Option IX
  | [] => if vs.isEmpty = true then some .dnew else none
  | k :: ks => if ks.length ≤ 14 then (match compKs (M.e C) (k :: ks), compVs (M.e C) vs with
    | some a, some b => if a.length = b.length then some (.dsp a b) else none
    | _, _ => none) else none
def compFst (e : Expr → Option IX) : List Expr → Option IX
  | x :: y :: r => (compVs e (x :: y :: r)).map .fstr
  | _ => none
def compE (P : PI0) (M : Cm) (C : Ct) : Expr → Option IX
  | .FormattedValue a (-1) none _ => (M.e C a).map .fmt
  | .JoinedStr es _ => compFst (M.e C) es
  | .Constant c _ _ => compConst c
  | .Name x _ => compName P C x
  | .UnaryOp op a _ => compUn M C op a
  | .BinOp a op b _ => (match M.e C a, M.e C b with
    | some x, some y => some (.bin op x y)
    | _, _ => none)
  | .Compare a ops bs _ => compCmp M C a ops bs
  | .BoolOp op as pos => compBO M C op pos as
  | .IfExp c a b _ => (match M.e C c, M.e C a, M.e C b with
    | some x, some y, some z => some (.ife x y z)
    | _, _, _ => none)
  | .Tuple es _ _ => (compL (M.e C) es).map .tup
  | .List es _ => (compL (M.e C) es).map .lst
  | .Subscript a b _ => compSub M C a b
  | .Attribute a name _ => if notSuper a = true then (M.e C a).map fun x => .fld x name else none
  | .Call f args kws pos => compCallE P M C args kws pos f
  | .Dict ks vs _ => compDisp M C vs ks
  | .ListComp elt gs scope _ => compLC P M C elt scope gs
  | .DictComp k v gs scope _ => compDC P M C k v scope gs
  | _ => none
def isTup : Expr → Bool
  | .Tuple .. => true
  | _ => false
def compI (P : PI0) (M : Cm) (C : Ct) (tg : Expr) : Expr → Option IX
  | .Call (.Name f p) args kws pos =>
    if isGl C f = true then (if P.free f = true then (if args.all noStar = true then (match compL (M.e C) args with
      | some as => (if f = ("range" : Str) then (match args, kws with
          | [_], [] => some (.iRng1 as)
          | [_, _], [] => some (.iRng2 as)
          | _, _ => none)
        else if f = ("enumerate" : Str) then (match args, kws with
          | [_], [] => if isTup tg = true then some (.iEnum as) else none
          | _, _ => none)
        else if f = ("zip" : Str) then (match args, kws with
          | [_, _], [] => if isTup tg = true then some (.iZip as) else none
          | [_, _], [⟨some k, .Constant (.bool true) _ _, _⟩] => if isTup tg = true ∧ k = ("strict" : Str) then some (.iZipS as) else none
          | _, _ => none)
        else (M.e C (.Call (.Name f p) args kws pos)).map .iVal)
      | none => none) else none) else (M.e C (.Call (.Name f p) args kws pos)).map .iVal) else (M.e C (.Call (.Name f p) args kws pos)).map .iVal
  | .Call (.Attribute o m apos) [] [] cpos =>
    if m = ("items" : Str) then (if isTup tg = true ∧ notSuper o = true ∧ lineOk apos cpos = true then (M.e C o).map .iItems else none)
    else if m = ("values" : Str) then (if notSuper o = true ∧ lineOk apos cpos = true then (M.e C o).map .iVals else none)
    else (M.e C (.Call (.Attribute o m apos) [] [] cpos)).map .iVal
  | e => (M.e C e).map .iVal
def compG (P : PI0) (M : Cm) (C : Ct) : Expr → Option (IX × List Nat)
  | .Name x _ => (match C.sc.names.lookup x with
    | some .local => (idxOf x P.N 0).map fun i => (.gName i, [i])
    | some .cell => if C.fn x = true then (idxOf x P.N 0).map fun i => (.gName i, [i]) else none
    | _ => none)
  | .Tuple es _ _ => (match compGs (M.g C) es with
    | some (ts, is) => (match starIx es with
      | none => if es.all noStar = true then some (.gTup es.length ts, is) else none
      | some i => if (es.drop (i + 1)).all noStar = true ∧ i + 1 ≤ es.length then some (.gStar i (es.length - i - 1) ts, is) else none)
    | none => none)
  | .Subscript o a _ => if notSlice a = true then (match M.e C o, M.e C a with
    | some x, some y => some (.gSub x y, [])
    | _, _ => none) else none
  | .Attribute o name _ => (M.e C o).map fun x => (.gFld x name, [])
  | _ => none
/-- what has no reading stands as a thing that is never reached -/
def cstep (P : PI0) (M : Cm) : Cm := ⟨fun C ex => orElse' (compE P M C ex) (some .bad), fun C tg ex => orElse' (compI P M C tg ex) (some .bad), compG P M⟩
def compX (P : PI0) : Nat → Cm
  | 0 => Cm.none
  | n + 1 => cstep P (compX P n)
/-! statements -/
def compSs (s : Stmt → Option IS) : List Stmt → Option (List IS)
  | [] => some []
  | x :: r => (match s x, compSs s r with
    | some a, some b => some (a :: b)
    | _, _ => none)
/-- name = [..] on one line, the name a plain local one -/
def swLc (sc : Scope) (y : Str) (py : Pos) (scope : Scope) (pos : Pos) : Bool :=
  decide (sc.names.lookup y = some .local) && (py.line == pos.line) && !(scope.names.any fun (n, k) => n == y && (k == .local || k == .cell))
def isCompE : Expr → Bool
  | .ListComp .. => true
  | .SetComp .. => true
  | .DictComp .. => true
  | _ => false
def isNameE : Expr → Bool
  | .Name .. => true
  | _ => false
def compS (P : PI0) (M : Cm) (C : Ct) (s : Stmt → Option IS) : Stmt → Option IS
  | .Expr e _ => if notComp e = true then (M.e C e).map .exp else some .no
  | .Return (some e) _ => (M.e C e).map .ret
  | .Return none _ => some .retN
  | .Pass _ => some .pass
  | .Break _ => some .brk
  | .Continue _ => some .cont
  | .If c a b _ => (match M.e C c, compSs s a, compSs s b with
    | some x, some y, some z => some (.ifs x y z)
    | _, _, _ => none)
  | .For tg e body [] _ => if notSet e = true then (match M.i C tg e, M.g C tg, compSs s body with
    | some it, some (g, _), some b => some (.for_ (lkOf it) g it b)
    | _, _, _ => none) else none
  | .While c body [] _ => (match M.e C c, compSs s body with
    | some x, some b => some (.while_ x b)
    | _, _ => none)
  | .Assign [.Name y py] (.ListComp elt [⟨tg, iter, ifs, 0⟩] scope pos) _ => if swLc C.sc y py scope pos = true then (match idxOf y P.N 0, compBlk P M C tg iter ifs scope, M.e (blkCt C scope) elt with
    | some i, some (it, g, ts, vs), some el => if (lkOf it).isNone = true then some (.setLc i it g ts el vs) else none
    | _, _, _ => none) else none
  | .Assign [.Name y py] (.ListComp elt [⟨tg, iter, ifs, 0⟩, ⟨tg1, iter1, ifs1, 0⟩] scope pos) _ => if swLc C.sc y py scope pos = true ∧ notSet iter1 = true then (match idxOf y P.N 0, compBlk P M C tg iter ifs scope, M.i (blkCt C scope) tg1 iter1, M.g (blkCt C scope) tg1, compT (M.e (blkCt C scope)) ifs1, M.e (blkCt C scope) elt with
    | some i, some (it, g, ts, vs), some it1, some (g1, is1), some ts1, some el => if subB is1 vs = true then some (.setLc2 i it g ts it1 g1 ts1 el vs is1) else none
    | _, _, _, _, _, _ => none) else none
  | .Assign [.Tuple ts k p] (.Tuple vs k2 p2) _ => if swOk C.sc ts vs = true then (match M.e C (.Tuple vs k2 p2), M.g C (.Tuple ts k p) with
    | some x, some (g, _) => some (.asg g x)
    | _, _ => none) else none
  | .Assign [tg] e _ => if (notComp e || !isNameE tg) = true ∧ asgOk tg e = true then (match M.e C e, M.g C tg with
    | some x, some (g, _) => some (.asg g x)
    | _, _ => none) else none
  | .AugAssign (.Name x _) .Add e _ => (match C.sc.names.lookup x with
    | some .local => (match idxOf x P.N 0, M.e C e with
      | some i, some a => some (.aug i a)
      | _, _ => none)
    | some .cell => if C.fn x = true then (match idxOf x P.N 0, M.e C e with
      | some i, some a => some (.aug i a)
      | _, _ => none) else none
    | _ => none)
  | .Raise .. => some .no
  | _ => none
/-- e is stored in tg as it is read -/
def scopeC : Expr → Option Scope
  | .ListComp _ _ s _ => some s
  | .SetComp _ _ s _ => some s
  | .DictComp _ _ _ s _ => some s
  | _ => none
def swF (sc : Scope) (tg e : Expr) : Bool := match scopeC e, tg with
  | some s, .Name t p => !(sc.names.lookup t == some .local && p.line == e.pos.line && !(s.names.any fun (n, k) => n == t && (k == .local || k == .cell)))
  | _, _ => true
def compAsg (M : Cm) (C : Ct) (tg e : Expr) : Option IS := if swF C.sc tg e = true ∧ asgOk tg e = true then (match M.e C e, M.g C tg with
  | some x, some (g, _) => some (.asg g x)
  | _, _ => none) else none
def compPar (P : PI0) (M : Cm) (C : Ct) (vs : List Expr) : List Expr → Option IS
  | [.Name x px, .Name y py] => if parOk2 C.sc x px y py vs = true then (match idxOf x P.N 0, idxOf y P.N 0, compL (M.e C) vs with
    | some i, some j, some l => some (.par2 i j l)
    | _, _, _ => none) else none
  | [.Name x px, .Name y py, .Name z pz] => if parOk3 C.sc x px y py z pz vs = true then (match idxOf x P.N 0, idxOf y P.N 0, idxOf z P.N 0, compL (M.e C) vs with
    | some i, some j, some k, some l => some (.par3 i j k l)
    | _, _, _, _ => none) else none
  | _ => none
/-- more forms, tried where compS has none -/
def compS2 (P : PI0) (M : Cm) (C : Ct) : Stmt → Option IS
  | .Assign [.Tuple ts _ _] (.Tuple vs _ _) _ => compPar P M C vs ts
  | .Assign [tg] e _ => compAsg M C tg e
  | .AugAssign (.Name x _) .Mult e _ => if C.sc.names.lookup x = some .local then (match idxOf x P.N 0, M.e C e with
    | some i, some a => some (.augM i a)
    | _, _ => none) else none
  | .AugAssign (.Attribute o name _) .Add e _ => (match M.e C o, M.e C e with
    | some a, some b => some (.augF a b name)
    | _, _ => none)
  | _ => none
def compY (P : PI0) (M : Cm) (C : Ct) : Nat → Stmt → Option IS
  | 0 => fun _ => none
  | n + 1 => fun st => (match compS P M C (compY P M C n) st with
    | some x => some x
    | none => (match compS2 P M C st with
      | some x => some x
      | none => some .no))
end WC
/-! W22: the compact text does what the text does: expressions -/
namespace WC
open PySem PySem.Spec PyProof.Rows L2
structure XOk (X : Cx) (a0 : Addr) (P : PI0) (E : Env0) (k : Nat) (C : Ct) : Prop where
  sc : X.env.scope = C.sc
  fn : X.fn = C.fn
  N : X.N = P.N
  nd : X.N.Nodup
  calm : X.calm = true
  room : Rm (k + 1) X.A
  gl : ∀ x v, P.glob x = some v → GlC X a0 x v
  free : ∀ x, P.free x = true → X.mg x = none
  fix : ∀ x i, P.fix x = some i → ∃ f, X.mg x = some (.ref f) ∧ PySem.W.keepIn X.K (.ref f) = true ∧ ∀ m ks n d, P.shape i m ks = some (n, d) → FnAt X a0 (k + 1) f n (E.gc i) m ks (bindA d)
  fixg : ∀ x i, P.fix x = some i → X.mg x = some (.ref (He.ga X.K x))
  cix : ∀ x i, P.cix x = some i → X.mg x = some (.ref (He.ga X.K x)) ∧ ∃ f, Mk X.K (He.ga X.K x) f ∧ ∀ m ks n d, P.shape i m ks = some (n, d) → FnAt X a0 k f n (E.gm i) m ks (bindA d)
  mth : ∀ m x i, (x, i) ∈ P.mth m → Cls X.K (He.ga X.K x) ∧ ∃ f, Meth X.K (He.ga X.K x) m f ∧ ∀ mm ks n d, P.shape i mm ks = some (n, d) → FnAt X a0 (k + 1) f n (E.gc i) mm ks (bindA d)
  no : ClsFld X.K E.no
  tab : KdOk X a0 E.tab
section
variable {X : Cx} {a0 : Addr} {P : PI0} {E : Env0} {k : Nat} {C : Ct}
theorem XOk.blk (h : XOk X a0 P E k C) {s : Shared} {H : Hp} {scope : Scope} {cl : List (PySem.Str × Addr)} {Cc : Addr} {fp : List Addr} : XOk (X.blk s H scope (compEnvC scope cl Cc X.env) fp) a0 P E k (blkCt C scope) where
  sc := by
    show relS scope X.env.scope = relS scope C.sc
    rw [h.sc]
  fn := rfl
  N := h.N
  nd := h.nd
  calm := h.calm
  room := h.room
  gl := h.gl
  free := h.free
  fix := h.fix
  fixg := h.fixg
  cix := h.cix
  mth := h.mth
  no := h.no
  tab := h.tab
theorem XOk.hu150 (h : XOk X a0 P E k C) : X.A.units + 150 < cLine := by have := h.room.r.un; omega
theorem XOk.hu (h : XOk X a0 P E k C) : X.A.units + 65 < cLine := by have := h.room.r.un; omega
theorem XOk.hu100 (h : XOk X a0 P E k C) : X.A.units + 100 < cLine := by have := h.room.r.un; omega
theorem XOk.hu1 (h : XOk X a0 P E k C) : X.A.units + 1 < cLine := by have := h.room.r.un; omega
theorem XOk.hu64 (h : XOk X a0 P E k C) : X.A.units + 64 < cLine := by have := h.room.r.un; omega
theorem Room.less {A : Around} (h : Room (k + 1) A) : Room k A := ⟨h.hd, by have := h.dp; omega, by have := h.un; omega⟩
theorem XOk.isGl (h : XOk X a0 P E k C) {x : PySem.Str} (g : isGl C x = true) : Gl X x := by
  unfold WC.isGl at g
  have := of_decide_eq_true g
  show X.env.scope.names.lookup x = _
  rw [h.sc]; exact this
theorem idxOf_ok {x : PySem.Str} : ∀ {N : List PySem.Str} {i j : Nat}, idxOf x N i = some j → i ≤ j ∧ N[j - i]? = some x
  | [], _, _, h => by cases h
  | y :: r, i, j, h => by
    unfold idxOf at h
    split at h
    · rename_i e
      cases h
      exact ⟨Nat.le_refl _, by simp [e]⟩
    · obtain ⟨h1, h2⟩ := idxOf_ok h
      refine ⟨by omega, ?_⟩
      rw [show j - i = (j - (i + 1)) + 1 by omega, List.getElem?_cons_succ]
      exact h2
theorem XOk.idx (h : XOk X a0 P E k C) {x : PySem.Str} {i : Nat} (e : idxOf x P.N 0 = some i) : X.N[i]? = some x := by
  rw [h.N]; exact (idxOf_ok e).2
theorem badName_ok {x : PySem.Str} (h : ¬ badName x = true) : (x == ("__debug__" : PySem.Str)) = false ∧ (x == ("__classdict__" : PySem.Str)) = false := by
  unfold badName at h
  rw [Bool.or_eq_true, not_or] at h
  exact ⟨Bool.eq_false_iff.mpr h.1, Bool.eq_false_iff.mpr h.2⟩
theorem name_ok (h : XOk X a0 P E k C) {R : Rn} {x : PySem.Str} {pos : Pos} {ir : IX} (e : compName P C x = some ir) : ME X a0 (.Name x pos) (stepE E R ir) ∧ MT X a0 (.Name x pos) (stepT E R ir) := by
  unfold compName at e
  split at e
  · cases e
  · rename_i hb
    obtain ⟨hd, hcd⟩ := badName_ok hb
    have loc : (∃ i, idxOf x P.N 0 = some i ∧ ir = .v i) → Vis X.env.scope x → ME X a0 (.Name x pos) (stepE E R ir) ∧ MT X a0 (.Name x pos) (stepT E R ir) := by
      rintro ⟨i, hi, rfl⟩ hv
      have m : ME X a0 (.Name x pos) (aVar i) := me_var (h.idx hi) hv hd hcd
      exact ⟨m, mt_truth m rfl⟩
    have mp : ∀ {o : Option Nat} {ir}, o.map IX.v = some ir → ∃ i, o = some i ∧ ir = .v i := fun {o ir} e => by
      cases o with
      | none => cases e
      | some i => cases e; exact ⟨i, rfl, rfl⟩
    split at e
    · rename_i hk
      exact loc (mp e) (.inl (by rw [h.sc]; exact hk))
    · rename_i hk
      exact loc (mp e) (.inr (.inl (by rw [h.sc]; exact hk)))
    · rename_i hk
      exact loc (mp e) (.inr (.inr (by rw [h.sc]; exact hk)))
    · rename_i hk
      have hg : Gl X x := by show X.env.scope.names.lookup x = _; rw [h.sc]; exact hk
      split at e
      · rename_i v hv
        cases e
        have m : ME X a0 (.Name x pos) (fun _ h => .ok v h) := me_glob hg (h.gl x v hv) hd
        exact ⟨m, mt_truth m rfl⟩
      · split at e
        · rename_i hf
          split at e
          · rename_i T hb
            split at e
            · cases e
            · rename_i hn
              cases e
              have m : ME X a0 (.Name x pos) (fun _ h => .ok (.ty T) h) := me_bty hg (h.free x hf) hb hn hd
              exact ⟨m, mt_truth m rfl⟩
          · cases e
        · cases e
    · cases e
theorem op_stuck {f : Value → Value → Sem Value} : OpR X f (R2of (Cx.wd X a0) fun _ _ _ => .stuck) := by
  intro pins s σ H x y v u Q I rx ry ⟨μ, a, b, ah, hr, ra, rb, p⟩
  exact p.elim
theorem binA_ok (o : Operator) : OpR X (binaryOp o) (R2of (Cx.wd X a0) (binA o)) := by
  cases o
  · exact op_aAdd
  · exact op_aSub
  · exact op_aMul
  · exact op_stuck
  · exact op_stuck
  · exact op_aMod
  · exact op_aPow
  · exact op_aShl
  · exact op_aShr
  · exact op_stuck
  · exact op_stuck
  · exact op_stuck
  · exact op_aFdiv
theorem cmpA_ok (h : XOk X a0 P E k C) (o : CmpOp) : OpR X (compareOp o) (R2of (Cx.wd X a0) (cmpA E.tab o)) := by
  cases o
  · exact op_aEqX h.hu100
  · exact op_aNeX h.hu100
  · exact op_aLt
  · exact op_aLe
  · exact op_aGt
  · exact op_aGe
  · exact op_aIs
  · exact op_aIsNot
  · exact op_inK h.tab (op_aIn h.hu)
  · exact op_notInK h.tab (op_aNotIn h.hu)
def isBO : Expr → Bool
  | .BoolOp .. => true
  | _ => false
/-- what is known of one depth's readings -/
structure Snd (a0 : Addr) (P : PI0) (E : Env0) (k : Nat) (M : Cm) (R : Rn) : Prop where
  e : ∀ X C ex ir, XOk X a0 P E k C → M.e C ex = some ir → ME X a0 ex (R.e ir) ∧ MT X a0 ex (R.t ir) ∧ (isBO ex = true → MW X a0 ex (R.t ir))
  i : ∀ X C tg ex ir, XOk X a0 P E k C → M.i C tg ex = some ir → MI X a0 tg ex (R.i ir)
  g : ∀ X C ex ir is, XOk X a0 P E k C → M.g C ex = some (ir, is) → MG X a0 ex is (R.g ir)
variable {M : Cm} {R : Rn}
theorem Snd.me (S : Snd a0 P E k M R) (h : XOk X a0 P E k C) {ex : Expr} {ir : IX} (e : M.e C ex = some ir) : ME X a0 ex (R.e ir) := (S.e X C ex ir h e).1
theorem Snd.mt (S : Snd a0 P E k M R) (h : XOk X a0 P E k C) {ex : Expr} {ir : IX} (e : M.e C ex = some ir) : MT X a0 ex (R.t ir) := (S.e X C ex ir h e).2.1
theorem star_cons' {e : Expr} {es : List Expr} {env : Env} (h : noStar e = true) : starEach (e :: es) env = (false, eval e env) :: starEach es env := star_cons h
theorem runL_cons {e : IX → AE} {x : IX} {r : List IX} (h : ∀ y, x ≠ .star y) : runL e (x :: r) = aCons (e x) (runL e r) := by
  cases x <;> first | rfl | exact absurd rfl (h _)
/-- no reading of an expression is a starred one -/
def NoSt (M : Cm) : Prop := ∀ C ex y, M.e C ex ≠ some (.star y)
theorem compL_ok (S : Snd a0 P E k M R) (ns : NoSt M) (h : XOk X a0 P E k C) : ∀ {es : List Expr} {irs : List IX}, compL (M.e C) es = some irs → MA X a0 es (runL R.e irs)
  | [], irs, e => by cases e; exact ma_nil
  | x :: r, irs, e => by
    by_cases hs : noStar x = true
    · have e' : (match M.e C x, compL (M.e C) r with
        | some a, some b => some (a :: b)
        | _, _ => none) = some irs := by cases x <;> first | exact e | cases hs
      split at e'
      · rename_i a b h1 h2
        cases e'
        rw [runL_cons fun y z => ns C x y (z ▸ h1)]
        exact ma_cons (S.me h h1) (compL_ok S ns h h2) (star_cons hs)
      · cases e'
    · cases x with
      | Starred y p =>
        have e' : (match M.e C y, compL (M.e C) r with
          | some a, some b => some (IX.star a :: b)
          | _, _ => none) = some irs := e
        split at e'
        · rename_i a b h1 h2
          cases e'
          exact ma_star (S.me h h1) (compL_ok S ns h h2)
        · cases e'
      | _ => exact absurd rfl hs
theorem pps_ok (S : Snd a0 P E k M R) (h : XOk X a0 P E k C) {pos : Pos} : ∀ {ks : List (Option Expr)} {vs : List Expr} {a b : List IX}, compKs (M.e C) ks = some a → compVs (M.e C) vs = some b → a.length = b.length →
    PPs X pos ks vs (((a.zip b).map fun p => (R.e p.1, R.e p.2)).map fun p => (TEv (Cx.wd X a0) p.1, TEv (Cx.wd X a0) p.2)) ∧ ks.all (·.isSome) = true ∧ ks.length = vs.length
  | [], vs, a, b, e1, e2, hl => by
    cases e1
    cases vs with
    | nil =>
      cases e2
      exact ⟨pps_nil, rfl, rfl⟩
    | cons x r =>
      unfold compVs at e2
      split at e2
      · cases e2; cases hl
      · cases e2
  | none :: _, vs, a, b, e1, e2, hl => by cases e1
  | some kx :: ks, vs, a, b, e1, e2, hl => by
    unfold compKs at e1
    split at e1
    · rename_i k0 kr q1 q2
      cases e1
      cases vs with
      | nil => cases e2; cases hl
      | cons x r =>
        unfold compVs at e2
        split at e2
        · rename_i v0 vr q3 q4
          cases e2
          obtain ⟨h1, h2, h3⟩ := pps_ok S h (pos := pos) q2 q4 (by simpa using hl)
          exact ⟨pps_cons (S.me h q1) (S.me h q3) h1, by simpa using h2, by simp [h3]⟩
        · cases e2
    · cases e1
theorem disp_ok (S : Snd a0 P E k M R) (h : XOk X a0 P E k C) {ks : List (Option Expr)} {vs : List Expr} {pos : Pos} {ir : IX} (e : compDisp M C vs ks = some ir) : ME X a0 (.Dict ks vs pos) (stepE E R ir) := by
  unfold compDisp at e
  split at e
  · split at e
    · rename_i h2
      cases e
      cases vs with
      | nil => exact me_dnew
      | cons _ _ => cases h2
    · cases e
  · split at e
    · rename_i hn
      split at e
      · rename_i a b q1 q2
        split at e
        · rename_i hl
          cases e
          obtain ⟨h1, h2, h3⟩ := pps_ok S h (pos := pos) q1 q2 hl
          exact me_disp h1 h2 h3 (fun z => nomatch z) (by simp; omega)
        · cases e
      · cases e
    · cases e
theorem compK_ok (S : Snd a0 P E k M R) (ns : NoSt M) (h : XOk X a0 P E k C) : ∀ {kws : List Keyword} {irs : List IX}, compK (M.e C) kws = some irs → MK X a0 kws (runL R.e irs)
  | [], irs, e => by cases e; exact mk_nil
  | ⟨some n, x, p⟩ :: r, irs, e => by
    have e' : (match M.e C x, compK (M.e C) r with
        | some a, some b => some (a :: b)
        | _, _ => none) = some irs := e
    split at e'
    · rename_i a b h1 h2
      cases e'
      rw [runL_cons fun y z => ns C x y (z ▸ h1)]
      exact mk_cons (S.me h h1) (compK_ok S ns h h2)
    · cases e'
  | ⟨none, x, p⟩ :: r, irs, e => by cases e
theorem compT_ok (S : Snd a0 P E k M R) (h : XOk X a0 P E k C) {es : List Expr} {irs : List IX} (e : compT (M.e C) es = some irs) : MTs X a0 es (runTs R.t irs) := by
  unfold compT at e
  split at e
  · cases e; exact mts_nil
  · rename_i x
    cases q : M.e C x with
    | none => rw [q] at e; cases e
    | some a => rw [q] at e; cases e; exact mts_one (S.mt h q)
  · cases e
theorem compOE_ok (S : Snd a0 P E k M R) (h : XOk X a0 P E k C) {e : Option Expr} {ir : Option IX} (he : compOE (M.e C) e = some ir) : MP X a0 e (runO R.e ir) := by
  cases e with
  | none => cases he; exact mp_none
  | some x =>
    unfold compOE at he
    simp only at he
    cases q : M.e C x with
    | none => rw [q] at he; cases he
    | some a => rw [q] at he; cases he; exact mp_some (S.me h q)
theorem compGs_ok (S : Snd a0 P E k M R) (h : XOk X a0 P E k C) : ∀ {es : List Expr} {irs : List IX} {is : List Nat}, compGs (M.g C) es = some (irs, is) → MGs X a0 es is (runGs R.g irs)
  | [], irs, is, e => by cases e; exact mgs_nil
  | x :: r, irs, is, e => by
    by_cases hs : noStar x = true
    · have e' : (match M.g C x, compGs (M.g C) r with
        | some (a, is), some (b, js) => some (a :: b, is ++ js)
        | _, _ => none) = some (irs, is) := by cases x <;> first | exact e | cases hs
      split at e'
      · rename_i a i1 b i2 h1 h2
        cases e'
        exact mgs_cons (S.g X C x a i1 h h1) (compGs_ok S h h2) hs
      · cases e'
    · cases x with
      | Starred y p =>
        have e' : (match M.g C y, compGs (M.g C) r with
          | some (a, is), some (b, js) => some (a :: b, is ++ js)
          | _, _ => none) = some (irs, is) := e
        split at e'
        · rename_i a i1 b i2 h1 h2
          cases e'
          exact mgs_starC (S.g X C y a i1 h h1) (compGs_ok S h h2)
        · cases e'
      | _ => exact absurd rfl hs
end
end WC
/-! W23: calls, comprehensions, expressions, iterators, targets -/
namespace WC
open PySem PySem.Spec PyProof.Rows L2
section
variable {X : Cx} {a0 : Addr} {P : PI0} {E : Env0} {k : Nat} {C : Ct} {M : Cm} {R : Rn}
theorem bc_ok (h : XOk X a0 P E k C) {x : PySem.Str} {b : BC} {z : Bool × String} (e : bcOf x = some (b, z)) {es : List Expr} {e0 : Expr} {p pos : Pos} {f : AL} (hg : Gl X x) (hm : X.mg x = none) (hd : (x == ("__debug__" : PySem.Str)) = false) (ha : MA X a0 (e0 :: es) f) (hn : (e0 :: es).all noStar = true) :
    ME X a0 (.Call (.Name x p) (e0 :: es) [] pos) (fun s h => (f s h).bind (bcA b)) := by
  have h1 : noStar e0 = true := by
    rw [List.all_cons, Bool.and_eq_true] at hn; exact hn.1
  have he := star_cons' (es := es) (env := X.env) h1
  have hpl : (backTo pos (starEach es X.env)).any (·.1) = false := star_none (by rw [List.all_cons, Bool.and_eq_true] at hn; exact hn.2)
  unfold bcOf at e
  by_cases hx : x = ("len" : PySem.Str)
  · rw [if_pos hx] at e
    cases e; subst hx
    exact me_callB cb_len hg hm boot_len ha (by decide) hd he hpl
  rw [if_neg hx] at e
  clear hx
  by_cases hx : x = ("all" : PySem.Str)
  · rw [if_pos hx] at e
    cases e; subst hx
    exact me_callB (cb_all h.calm) hg hm boot_all ha (by decide) hd he hpl
  rw [if_neg hx] at e
  clear hx
  by_cases hx : x = ("any" : PySem.Str)
  · rw [if_pos hx] at e
    cases e; subst hx
    exact me_callB (cb_any h.calm) hg hm boot_any ha (by decide) hd he hpl
  rw [if_neg hx] at e
  clear hx
  by_cases hx : x = ("max" : PySem.Str)
  · rw [if_pos hx] at e
    cases e; subst hx
    exact me_callB (cb_max h.calm) hg hm boot_max ha (by decide) hd he hpl
  rw [if_neg hx] at e
  clear hx
  by_cases hx : x = ("min" : PySem.Str)
  · rw [if_pos hx] at e
    cases e; subst hx
    exact me_callB (cb_min h.calm) hg hm boot_min ha (by decide) hd he hpl
  rw [if_neg hx] at e
  clear hx
  by_cases hx : x = ("abs" : PySem.Str)
  · rw [if_pos hx] at e
    cases e; subst hx
    exact me_callB cb_abs hg hm (by decide +kernel) ha (by decide) hd he hpl
  rw [if_neg hx] at e
  clear hx
  by_cases hx : x = ("int" : PySem.Str)
  · rw [if_pos hx] at e
    cases e; subst hx
    exact me_callTy cb_int hg hm (by decide +kernel) ha (by decide) hd he hpl
  rw [if_neg hx] at e
  clear hx
  by_cases hx : x = ("list" : PySem.Str)
  · rw [if_pos hx] at e
    cases e; subst hx
    exact me_callTy cb_list hg hm (by decide +kernel) ha (by decide) hd he hpl
  rw [if_neg hx] at e
  clear hx
  by_cases hx : x = ("tuple" : PySem.Str)
  · rw [if_pos hx] at e
    cases e; subst hx
    exact me_callTy cb_tuple hg hm (by decide +kernel) ha (by decide) hd he hpl
  rw [if_neg hx] at e
  clear hx
  by_cases hx : x = ("dict" : PySem.Str)
  · rw [if_pos hx] at e
    cases e; subst hx
    exact me_callTy cb_dict hg hm (by decide +kernel) ha (by decide) hd he hpl
  rw [if_neg hx] at e
  clear hx
  by_cases hx : x = ("isinstance" : PySem.Str)
  · rw [if_pos hx] at e
    cases e; subst hx
    exact me_callB cb_isi hg hm (by decide +kernel) ha (by decide) hd he hpl
  rw [if_neg hx] at e
  clear hx
  by_cases hx : x = ("repr" : PySem.Str)
  · rw [if_pos hx] at e
    cases e; subst hx
    exact me_callB (cb_repr h.room.g h.hu150) hg hm (by decide +kernel) ha (by decide) hd he hpl
  rw [if_neg hx] at e
  clear hx
  cases e
theorem call_ok (S : Snd a0 P E k M R) (ns : NoSt M) (h : XOk X a0 P E k C) {x : PySem.Str} {args : List Expr} {kws : List Keyword} {p pos : Pos} {ir : IX} (e : compCall P M C x args kws = some ir) : ME X a0 (.Call (.Name x p) args kws pos) (stepE E R ir) := by
  unfold compCall at e
  split at e
  · cases e
  rename_i hb
  obtain ⟨hd, _⟩ := badName_ok hb
  split at e
  · rename_i hgl
    have hg := h.isGl hgl
    split at e
    · rename_i hall
      split at e
      · rename_i ks hks
        split at e
        · rename_i as zs ha hz
          have mk := compK_ok S ns h hz
          have ml := compL_ok S ns h ha
          split at e
          · rename_i i hi
            split at e
            · rename_i n d hsh
              cases e
              obtain ⟨f, hm, hkp, hF⟩ := h.fix x i hi
              have F := hF _ _ _ _ hsh
              cases args with
              | nil => cases ha; exact me_call0 F h.room hg hm hkp mk hd hks
              | cons a0 ar => exact me_call F h.room hg hm hkp ml mk hd hall hks
            · cases e
          · split at e
            · rename_i i hi
              split at e
              · rename_i n d hsh
                cases e
                obtain ⟨hm, f, hM, hF⟩ := h.cix x i hi
                have F := hF _ _ _ _ hsh
                cases args with
                | nil => cases ha; exact me_make0 F hM h.room hg hm mk hd hks
                | cons a0 ar => exact me_make F hM h.room hg hm ml mk hd hall hks
              · cases e
            · split at e
              · rename_i hf
                split at e
                · rename_i b z _ _ _ _ hbc
                  cases e
                  exact bc_ok h hbc hg (h.free x hf) hd ml hall
                · cases e
              · cases e
        · cases e
      · cases e
    · cases e
  · cases e
theorem valRow_ok {m : Nat} {ks : List PySem.Str} : ∀ {row : List PySem.Str} C z, (valRow P m ks row).lookup C = some z → ∃ i n d, z = (i, n, m, d) ∧ P.fix C = some i ∧ P.shape i m ks = some (n, d)
  | [], _, _, h => by cases h
  | x :: r, C, z, h => by
    unfold valRow at h
    split at h
    · rename_i i hi
      split at h
      · rename_i n d hsh
        rw [List.lookup_cons] at h
        split at h
        · rename_i q
          cases h
          obtain rfl : C = x := by simpa using q
          exact ⟨i, n, d, rfl, hi, hsh⟩
        · exact valRow_ok C z h
      · exact valRow_ok C z h
    · exact valRow_ok C z h
theorem locTab_ok (h : XOk X a0 P E k C) {m : Nat} {ks : List PySem.Str} : LocTab X a0 (k + 1) ks (methA E ks (valRow P m ks P.vals)) := by
  intro x j hj
  unfold methA at hj
  split at hj
  · rename_i i n m' d hl
    cases hj
    obtain ⟨i1, n1, d1, e1, hfix, hsh⟩ := valRow_ok x _ hl
    cases e1
    obtain ⟨f, hm, hk, hF⟩ := h.fix x i hfix
    have e2 := h.fixg x i hfix
    rw [hm] at e2
    cases e2
    exact ⟨rfl, hk, hF _ _ _ _ hsh⟩
  · cases hj
theorem isLoc_ok (h : XOk X a0 P E k C) {x : PySem.Str} (g : isLoc C x = true) : Vis X.env.scope x := by
  unfold isLoc at g
  rw [Bool.or_eq_true, Bool.or_eq_true] at g
  show _ ∨ _ ∨ _
  rw [h.sc]
  rcases g with (g | g) | g
  · exact .inl (of_decide_eq_true g)
  · exact .inr (.inl (of_decide_eq_true g))
  · exact .inr (.inr (of_decide_eq_true g))
theorem loc_ok (S : Snd a0 P E k M R) (ns : NoSt M) (h : XOk X a0 P E k C) {x : PySem.Str} {args : List Expr} {kws : List Keyword} {p pos : Pos} {ir : IX} (e : compLoc P M C x args kws = some ir) : ME X a0 (.Call (.Name x p) args kws pos) (stepE E R ir) := by
  unfold compLoc at e
  split at e
  · cases e
  rename_i hb
  obtain ⟨hd, hcd⟩ := badName_ok hb
  split at e
  · rename_i hloc
    split at e
    · rename_i hall
      split at e
      · rename_i ks i hks hi
        split at e
        · rename_i as zs ha hz
          cases e
          have mk := compK_ok S ns h hz
          have ml := compL_ok S ns h ha
          cases args with
          | nil => cases ha; exact me_callL0 (locTab_ok h) h.room (h.idx hi) (isLoc_ok h hloc) hd hcd mk hks
          | cons a0 ar => exact me_callL (locTab_ok h) h.room (h.idx hi) (isLoc_ok h hloc) hd hcd ml mk hall hks
        · cases e
      · cases e
    · cases e
  · cases e
theorem methRow_ok {m : Nat} {ks : List PySem.Str} : ∀ {row : List (PySem.Str × Nat)} {tb}, methRow P m ks row = some tb → ∀ C z, tb.lookup C = some z → ∃ i n d, z = (i, n, m, d) ∧ (C, i) ∈ row ∧ P.shape i m ks = some (n, d)
  | [], tb, e, C, z, hz => by cases e; cases hz
  | (C0, i) :: r, tb, e, C, z, hz => by
    unfold methRow at e
    split at e
    · rename_i n d b h1 h2
      cases e
      rw [List.lookup_cons] at hz
      split at hz
      · rename_i hq
        cases hz
        have : C = C0 := by simpa using hq
        subst this
        exact ⟨i, n, d, rfl, List.mem_cons_self, h1⟩
      · obtain ⟨i', n', d', a, b, c⟩ := methRow_ok h2 C z hz
        exact ⟨i', n', d', a, List.mem_cons_of_mem _ b, c⟩
    · rename_i b h1 h2
      cases e
      obtain ⟨i', n', d', a, b, c⟩ := methRow_ok h2 C z hz
      exact ⟨i', n', d', a, List.mem_cons_of_mem _ b, c⟩
    · cases e
theorem methTab_ok (h : XOk X a0 P E k C) {mth : PySem.Str} {m : Nat} {ks : List PySem.Str} {tb} (e : methRow P m ks (P.mth mth) = some tb) : MethTab X a0 (k + 1) mth ks (methA E ks tb) := by
  intro C' i hi
  unfold methA at hi
  split at hi
  · rename_i i0 n m' d hl
    cases hi
    obtain ⟨i1, n1, d1, e1, hmem, hsh⟩ := methRow_ok e C' _ hl
    cases e1
    obtain ⟨c, f, hM, hF⟩ := h.mth mth C' i0 hmem
    exact ⟨rfl, c, f, hM, hF _ _ _ _ hsh⟩
  · cases hi
theorem all_one {e : Expr} (h : [e].all noStar = true) : noStar e = true := by simpa using h
theorem popV_ok {o a : Expr} {f g : AE} {apos pos : Pos} (ho : ME X a0 o f) (ha : ME X a0 a g) (h1 : notSuper o = true) (h2 : noStar a = true) (h4 : fewOk [a] [] = true) (h5 : lineOk apos pos = true) : ME X a0 (.Call (.Attribute o "pop" apos) [a] [] pos) (aPopV f g) := by
  refine ⟨fun pins s0 σ H Q I q => ?_⟩
  obtain ⟨μ, s, ah, hs, hr, p⟩ := q
  unfold aPopV at p
  split at p
  · split at p
    · exact (me_bm PySem.F.plainAttrs_list PySem.F.slot_list_pop PySem.F.type_list_pop mt_aPopAt tyIs_lst ho (ma_cons ha ma_nil (star_cons h2)) h1 (by simp [h2]) h4 h5).run pins s0 σ H Q I ⟨μ, s, ah, hs, hr, p⟩
    · exact (me_dpop ho ha h1 h2 h5).run pins s0 σ H Q I ⟨μ, s, ah, hs, hr, p⟩
  · exact p.elim
theorem compL_cons {x : Expr} {r : List Expr} {irs : List IX} (hs : noStar x = true) (e : compL (M.e C) (x :: r) = some irs) : ∃ a b, irs = a :: b ∧ M.e C x = some a ∧ compL (M.e C) r = some b := by
  have e' : (match M.e C x, compL (M.e C) r with
    | some a, some b => some (a :: b)
    | _, _ => none) = some irs := by cases x <;> first | exact e | cases hs
  split at e'
  · rename_i a b h1 h2
    cases e'
    exact ⟨a, b, rfl, h1, h2⟩
  · cases e'
theorem compL_one {x : Expr} {a : IX} (hs : noStar x = true) (e : compL (M.e C) [x] = some [a]) : M.e C x = some a := by
  obtain ⟨a', b, e1, h1, _⟩ := compL_cons hs e
  cases e1; exact h1
theorem compL_two {x y : Expr} {a b : IX} (hs : noStar x = true) (hs2 : noStar y = true) (e : compL (M.e C) [x, y] = some [a, b]) : M.e C x = some a ∧ M.e C y = some b := by
  obtain ⟨a', b', e1, h1, h2⟩ := compL_cons hs e
  cases e1
  exact ⟨h1, compL_one hs2 h2⟩
theorem all_two {x y : Expr} (h : [x, y].all noStar = true) : noStar x = true ∧ noStar y = true := by simpa using h
theorem sm_ok {m : PySem.Str} {sk : SM} (e : smOf m = some sk) {o e0 : Expr} {f : AE} {g : AL} {apos pos : Pos} (ho : ME X a0 o f) (ha : MA X a0 [e0] g) (h1 : notSuper o = true) (h2 : [e0].all noStar = true) (h4 : fewOk [e0] [] = true) (h5 : lineOk apos pos = true) :
    ME X a0 (.Call (.Attribute o m apos) [e0] [] pos) (aBM f isStr g (smA sk)) := by
  unfold smOf at e
  by_cases hx : m = ("split" : PySem.Str)
  · rw [if_pos hx] at e
    cases e; subst hx
    exact me_bm PySem.F.plainAttrs_str PySem.F.slot_str_split PySem.F.type_str_split mt_aSplit tyIs_str ho ha h1 h2 h4 h5
  rw [if_neg hx] at e
  clear hx
  by_cases hx : m = ("join" : PySem.Str)
  · rw [if_pos hx] at e
    cases e; subst hx
    exact me_bm PySem.F.plainAttrs_str PySem.F.slot_str_join PySem.F.type_str_join mt_aJoin tyIs_str ho ha h1 h2 h4 h5
  rw [if_neg hx] at e
  clear hx
  by_cases hx : m = ("lstrip" : PySem.Str)
  · rw [if_pos hx] at e
    cases e; subst hx
    exact me_bm PySem.F.plainAttrs_str PySem.F.slot_str_lstrip PySem.F.type_str_lstrip mt_aLstrip tyIs_str ho ha h1 h2 h4 h5
  rw [if_neg hx] at e
  clear hx
  by_cases hx : m = ("count" : PySem.Str)
  · rw [if_pos hx] at e
    cases e; subst hx
    exact me_bm PySem.F.plainAttrs_str PySem.F.slot_str_count PySem.F.type_str_count mt_aCount tyIs_str ho ha h1 h2 h4 h5
  rw [if_neg hx] at e
  cases e
theorem meth_ok (S : Snd a0 P E k M R) (ns : NoSt M) (h : XOk X a0 P E k C) {o : Expr} {m : PySem.Str} {args : List Expr} {kws : List Keyword} {apos pos : Pos} {ir : IX} (e : compMeth P M C o m apos args kws pos = some ir) : ME X a0 (.Call (.Attribute o m apos) args kws pos) (stepE E R ir) := by
  unfold compMeth at e
  split at e
  · rename_i h1
    split at e
    · rename_i h2
      split at e
      · rename_i h4
        split at e
        · rename_i h5
          split at e
          · rename_i ks hks
            split at e
            · rename_i a as zs ho ha hz
              have mo := S.me h ho
              have ml := compL_ok S ns h ha
              have mk := compK_ok S ns h hz
              split at e
              · split at e
                · rename_i hx
                  subst hx
                  split at e
                  · rename_i e0
                    cases e
                    exact me_bm PySem.F.plainAttrs_list PySem.F.slot_list_append PySem.F.type_list_append mt_aAppend tyIs_lst mo ml h1 h2 h4 h5
                  · cases e
                · split at e
                  · rename_i hx
                    subst hx
                    split at e
                    · rename_i e0
                      cases e
                      exact me_bm PySem.F.plainAttrs_list PySem.F.slot_list_extend PySem.F.type_list_extend mt_aExtendA tyIs_lst mo ml h1 h2 h4 h5
                    · cases e
                  · split at e
                    · rename_i hx
                      subst hx
                      split at e
                      · cases e
                        exact me_bm0 PySem.F.plainAttrs_list PySem.F.slot_list_pop PySem.F.type_list_pop mt_aPop0 tyIs_lst mo h1 h5
                      · rename_i e0 b
                        cases e
                        have hb : M.e C e0 = some b := compL_one (all_one h2) ha
                        exact popV_ok mo (S.me h hb) h1 (all_one h2) h4 h5
                      · cases e
                    · split at e
                      · rename_i hx
                        subst hx
                        split at e
                        · rename_i e0 b
                          cases e
                          exact me_dget1 h.hu1 mo (S.me h (compL_one (all_one h2) ha)) h1 (all_one h2) h5
                        · rename_i e0 e1 b c
                          cases e
                          obtain ⟨n1, n2⟩ := all_two h2
                          obtain ⟨q1, q2⟩ := compL_two n1 n2 ha
                          exact me_dget2 h.hu1 mo (S.me h q1) (S.me h q2) h1 n1 n2 h5
                        · cases e
                      · split at e
                        · rename_i sk e0 _ hsm
                          cases e
                          exact sm_ok hsm mo ml h1 h2 h4 h5
                        · cases e
              · split at e
                · rename_i tb htb
                  cases e
                  have T := methTab_ok h htb
                  cases args with
                  | nil => cases ha; exact me_meth0 T h.room mo mk h1 hks h4 h5
                  | cons e0 es => exact me_meth T h.room mo ml mk h1 h2 hks h4 h5
                · cases e
            · cases e
          · cases e
        · cases e
      · cases e
    · cases e
  · cases e
/-! ### comprehensions -/
theorem subB_ok {is vs : List Nat} (h : subB is vs = true) : ∀ i ∈ is, i ∈ vs := fun i hi => by
  unfold subB at h
  have := List.all_eq_true.mp h i hi
  simpa using this
theorem blk_ok (S : Snd a0 P E k M R) (h : XOk X a0 P E k C) {tg iter : Expr} {ifs : List Expr} {scope : Scope} {it g : IX} {ts : List IX} {vs : List Nat} (e : compBlk P M C tg iter ifs scope = some (it, g, ts, vs)) :
    notSet iter = true ∧ BlkOk X.N X.env.scope scope (ownOf P.N scope.names) ∧ vs = (ownOf P.N scope.names).map (·.2) ∧ MI X a0 tg iter (R.i it) ∧ ∃ is, (∀ i ∈ is, i ∈ vs) ∧ Blk X scope (fun Y => MG Y a0 tg is (R.g g)) ∧ Blk X scope (fun Y => MTs Y a0 ifs (runTs R.t ts)) := by
  unfold compBlk at e
  split at e
  · rename_i hn
    split at e
    · rename_i hb
      split at e
      · rename_i it0 g0 is ts0 h1 h2 h3
        split at e
        · rename_i hs
          cases e
          refine ⟨hn, ?_, rfl, S.i X C tg iter it h h1, is, subB_ok hs, fun s H Cc cl fp => S.g _ _ tg g is h.blk h2, fun s H Cc cl fp => compT_ok S h.blk h3⟩
          rw [h.N, h.sc]
          exact blkOk_by hb
        · cases e
      · cases e
    · cases e
  · cases e
theorem lc_ok (S : Snd a0 P E k M R) (h : XOk X a0 P E k C) {elt : Expr} {scope : Scope} {gs : List Comprehension} {pos : Pos} {ir : IX} (e : compLC P M C elt scope gs = some ir) : ME X a0 (.ListComp elt gs scope pos) (stepE E R ir) := by
  unfold compLC at e
  split at e
  · split at e
    · rename_i it g ts vs el h1 h2
      cases e
      obtain ⟨hn, ok, rfl, hi, is, hv, hg, ht⟩ := blk_ok S h h1
      exact me_lock (me_lc h.calm h.nd hi ok hv hg ht (fun s H Cc cl fp => S.me h.blk h2) hn)
    · cases e
  · split at e
    · rename_i hn1
      split at e
      · rename_i it g ts vs it1 g1 is1 ts1 el h1 h2 h3 h4 h5
        split at e
        · rename_i hs
          cases e
          obtain ⟨hn, ok, rfl, hi, is, hv, hg, ht⟩ := blk_ok S h h1
          exact me_lc2 h.calm h.nd hi ok hv (subB_ok hs) hg ht (fun s H Cc cl fp => S.i _ _ _ _ _ h.blk h2) (fun s H Cc cl fp => S.g _ _ _ _ _ h.blk h3) (fun s H Cc cl fp => compT_ok S h.blk h4) (fun s H Cc cl fp => S.me h.blk h5) hn hn1
        · cases e
      · cases e
    · cases e
  · cases e
theorem dc_ok (S : Snd a0 P E k M R) (h : XOk X a0 P E k C) {kx vx : Expr} {scope : Scope} {gs : List Comprehension} {pos : Pos} {ir : IX} (e : compDC P M C kx vx scope gs = some ir) : ME X a0 (.DictComp kx vx gs scope pos) (stepE E R ir) := by
  unfold compDC at e
  split at e
  · split at e
    · rename_i it g ts vs x y h1 h2 h3
      cases e
      obtain ⟨hn, ok, rfl, hi, is, hv, hg, ht⟩ := blk_ok S h h1
      exact me_lock (me_dc h.calm h.nd hi ok hv hg ht (fun s H Cc cl fp => S.me h.blk h2) (fun s H Cc cl fp => S.me h.blk h3) hn)
    · cases e
  · cases e
theorem map_some {α β : Type} {o : Option α} {f : α → β} {b : β} (h : o.map f = some b) : ∃ a, o = some a ∧ b = f a := by
  cases o with
  | none => cases h
  | some a => cases h; exact ⟨a, rfl, rfl⟩
theorem lenS_ok (S : Snd a0 P E k M R) (h : XOk X a0 P E k C) {f : PySem.Str} {a : Expr} {p pos : Pos} {ir : IX} (e : compLenS P M C f a = some ir) : ME X a0 (.Call (.Name f p) [a] [] pos) (stepE E R ir) := by
  unfold compLenS at e
  split at e
  · split at e
    · rename_i hx
      subst hx
      split at e
      · rename_i hgl
        split at e
        · rename_i hf
          split at e
          · rename_i it g ts vs el h1 h2
            cases e
            obtain ⟨hn, ok, rfl, hi, is, hv, hg, ht⟩ := blk_ok S h h1
            exact me_lenSet h.calm h.nd (h.isGl hgl) (h.free _ hf) hi ok hv hg ht (fun s H Cc cl fp => S.me h.blk h2) hn
          · cases e
        · cases e
      · cases e
    · cases e
  · cases e
theorem li_ok (S : Snd a0 P E k M R) (h : XOk X a0 P E k C) {f : PySem.Str} {a : Expr} {p pos : Pos} {ir : IX} (e : compLI P M C f a = some ir) : ME X a0 (.Call (.Name f p) [a] [] pos) (stepE E R ir) := by
  unfold compLI at e
  split at e
  · split at e
    · rename_i hx
      obtain ⟨rfl, rfl⟩ := hx
      split at e
      · rename_i hgl
        split at e
        · rename_i hf
          split at e
          · rename_i h1
            split at e
            · rename_i h2
              obtain ⟨a, ha, rfl⟩ := map_some e
              exact me_listItems h.calm (S.me h ha) (h.isGl hgl) (h.free _ hf) h1 h2
            · cases e
          · cases e
        · cases e
      · cases e
    · cases e
  · cases e
theorem orElse_or {a b : Option IX} {ir : IX} (h : orElse' a b = some ir) : a = some ir ∨ b = some ir := by
  cases a with
  | none => exact .inr h
  | some x => exact .inl h
theorem callN_ok (S : Snd a0 P E k M R) (ns : NoSt M) (h : XOk X a0 P E k C) {f : PySem.Str} {args : List Expr} {kws : List Keyword} {p pos : Pos} {ir : IX} (e : compCallN P M C f args kws = some ir) : ME X a0 (.Call (.Name f p) args kws pos) (stepE E R ir) := by
  unfold compCallN at e
  split at e
  · rcases orElse_or e with e | e
    · exact lenS_ok S h e
    · rcases orElse_or e with e | e
      · exact li_ok S h e
      · rcases orElse_or e with e | e
        · exact loc_ok S ns h e
        · exact call_ok S ns h e
  · rcases orElse_or e with e | e
    · exact loc_ok S ns h e
    · exact call_ok S ns h e
/-! ### expressions -/
theorem const_ok {c : Const} {j : Nat} {pos : Pos} {ir : IX} (e : compConst c = some ir) : ME X a0 (.Constant c j pos) (stepE E R ir) := by
  unfold compConst at e
  split at e
  · cases e; exact me_int
  · cases e; exact me_str
  · cases e; exact me_bl
  · cases e; exact me_non
  · cases e
theorem me_neg {i : Int} {j : Nat} {p pos : Pos} : ME X a0 (.UnaryOp .USub (.Constant (.int i) j p) pos) (fun _ h => .ok (.int (-i)) h) :=
  PE.imp (pe_un un_neg pe_int) fun σ H Q ⟨μ, s, ah, hs, hr, p⟩ => ⟨i, rfl, p.ret hr .int⟩
end
end WC
/-! W24: readings of every depth; statements -/
namespace WC
open PySem PySem.Spec PyProof.Rows L2
section
variable {X : Cx} {a0 : Addr} {P : PI0} {E : Env0} {k : Nat} {C : Ct} {M : Cm} {R : Rn}
/-- readings whose test is the plain truth -/
def plainIr : IX → Bool
  | .and .. => false
  | .or .. => false
  | .one .. => false
  | .not .. => false
  | .ife .. => false
  | .cmp .. => false
  | .chain .. => false
  | _ => true
theorem stepT_plain {ir : IX} (h : plainIr ir = true) : stepT E R ir = fun s h => asT (stepE E R ir s h) := by
  cases ir <;> first | rfl | cases h
theorem both {ex : Expr} {ir : IX} (h : ME X a0 ex (stepE E R ir)) (h1 : plainIr ir = true) (h2 : plainTest ex = true) (h3 : isBO ex = false) : ME X a0 ex (stepE E R ir) ∧ MT X a0 ex (stepT E R ir) ∧ (isBO ex = true → MW X a0 ex (stepT E R ir)) :=
  ⟨h, stepT_plain h1 ▸ mt_truth h h2, fun z => by rw [h3] at z; cases z⟩
theorem compCall_plain {x : PySem.Str} {args kws} {ir : IX} (e : compCall P M C x args kws = some ir) : plainIr ir = true := by
  unfold compCall at e
  repeat' (split at e)
  all_goals (cases e <;> rfl)
theorem compMeth_plain {o : Expr} {m : PySem.Str} {apos args kws pos} {ir : IX} (e : compMeth P M C o m apos args kws pos = some ir) : plainIr ir = true := by
  unfold compMeth at e
  repeat' (split at e)
  all_goals (cases e <;> rfl)
theorem compLenS_plain {f : PySem.Str} {a : Expr} {ir : IX} (e : compLenS P M C f a = some ir) : plainIr ir = true := by
  unfold compLenS at e
  repeat' (split at e)
  all_goals (cases e <;> rfl)
theorem compLI_plain {f : PySem.Str} {a : Expr} {ir : IX} (e : compLI P M C f a = some ir) : plainIr ir = true := by
  unfold compLI at e
  repeat' (split at e)
  all_goals first | (obtain ⟨_, _, rfl⟩ := map_some e; rfl) | (cases e; done)
theorem compLoc_plain {f : PySem.Str} {args : List Expr} {kws : List Keyword} {ir : IX} (e : compLoc P M C f args kws = some ir) : plainIr ir = true := by
  unfold compLoc at e
  repeat' (split at e)
  all_goals (cases e <;> rfl)
theorem compCallN_plain {f : PySem.Str} {args : List Expr} {kws : List Keyword} {ir : IX} (e : compCallN P M C f args kws = some ir) : plainIr ir = true := by
  unfold compCallN at e
  split at e
  · rcases orElse_or e with e | e
    · exact compLenS_plain e
    · rcases orElse_or e with e | e
      · exact compLI_plain e
      · rcases orElse_or e with e | e
        · exact compLoc_plain e
        · exact compCall_plain e
  · rcases orElse_or e with e | e
    · exact compLoc_plain e
    · exact compCall_plain e
theorem mj_ok (S : Snd a0 P E k M R) (h : XOk X a0 P E k C) : ∀ {es : List Expr} {irs : List IX}, compVs (M.e C) es = some irs → MJ X a0 es (irs.map R.e)
  | [], irs, e => by cases e; exact .nil
  | x :: r, irs, e => by
    unfold compVs at e
    split at e
    · rename_i a b q1 q2
      cases e
      exact .cons (S.me h q1) (mj_ok S h q2)
    · cases e
theorem compE_ok (S : Snd a0 P E k M R) (ns : NoSt M) (h : XOk X a0 P E k C) {ex : Expr} {ir : IX} (e : compE P M C ex = some ir) : ME X a0 ex (stepE E R ir) ∧ MT X a0 ex (stepT E R ir) ∧ (isBO ex = true → MW X a0 ex (stepT E R ir)) := by
  cases ex with
  | Constant c j pos =>
    refine both (const_ok e) ?_ rfl rfl
    have e' : compConst c = some ir := e
    cases c <;> first | (cases e'; rfl) | cases e'
  | Name x pos =>
    obtain ⟨h1, h2⟩ := name_ok (R := R) (pos := pos) h e
    exact ⟨h1, h2, fun z => nomatch z⟩
  | UnaryOp op a pos =>
    have e' : compUn M C op a = some ir := e
    unfold compUn at e'
    split at e'
    · cases e'
      exact ⟨me_neg, mt_truth me_neg rfl, fun z => nomatch z⟩
    · obtain ⟨x, hx, rfl⟩ := map_some e'
      exact ⟨me_not (S.me h hx), mt_not (S.mt h hx), fun z => nomatch z⟩
    · cases e'
  | BinOp a op b pos =>
    have e' : (match M.e C a, M.e C b with
      | some x, some y => some (IX.bin op x y)
      | _, _ => none) = some ir := e
    split at e'
    · rename_i x y h1 h2
      cases e'
      exact both (me_bin (binA_ok op) (S.me h h1) (S.me h h2)) rfl rfl rfl
    · cases e'
  | Compare a ops bs pos =>
    have e' : compCmp M C a ops bs = some ir := e
    unfold compCmp at e'
    split at e'
    · split at e'
      · cases e'
      · rename_i hm
        split at e'
        · rename_i x y h1 h2
          cases e'
          have hm' := Bool.eq_false_iff.mpr hm
          exact ⟨me_cmp (cmpA_ok h _) (S.me h h1) (S.me h h2) hm', mt_cmp (cmpA_ok h _) (S.me h h1) (S.me h h2) hm', fun z => nomatch z⟩
        · cases e'
    · split at e'
      · cases e'
      · rename_i hm
        split at e'
        · rename_i x y z h1 h2 h3
          cases e'
          have hm' := Bool.eq_false_iff.mpr hm
          exact ⟨me_chain (cmpA_ok h _) (cmpA_ok h _) (S.me h h1) (S.me h h2) (S.me h h3) hm', mt_chain (cmpA_ok h _) (cmpA_ok h _) (S.me h h1) (S.me h h2) (S.me h h3) hm', fun z => nomatch z⟩
        · cases e'
    · cases e'
  | BoolOp op as pos =>
    have e' : compBO M C op pos as = some ir := e
    unfold compBO at e'
    split at e'
    · rename_i a1
      obtain ⟨x, hx, rfl⟩ := map_some e'
      have w : MW X a0 (.BoolOp op [a1] pos) (R.t x) := by
        cases op
        · exact mw_and1 (S.mt h hx)
        · exact mw_or1 (S.mt h hx)
      exact ⟨me_one (S.me h hx), w.mt, fun _ => w⟩
    · split at e'
      · rename_i x y h1 h2
        cases e'
        obtain ⟨s1, s2, s3⟩ := S.e X C _ y h h2
        cases op
        · have w := mw_and (S.mt h h1) (s3 rfl)
          exact ⟨me_and (S.me h h1) s1, w.mt, fun _ => w⟩
        · have w := mw_or (S.mt h h1) (s3 rfl)
          exact ⟨me_or (S.me h h1) s1, w.mt, fun _ => w⟩
      · cases e'
    · cases e'
  | IfExp c a b pos =>
    have e' : (match M.e C c, M.e C a, M.e C b with
      | some x, some y, some z => some (IX.ife x y z)
      | _, _, _ => none) = some ir := e
    split at e'
    · rename_i x y z h1 h2 h3
      cases e'
      exact ⟨me_if (S.mt h h1) (S.me h h2) (S.me h h3), mt_if (S.mt h h1) (S.mt h h2) (S.mt h h3), fun z => nomatch z⟩
    · cases e'
  | Tuple es j pos =>
    obtain ⟨x, hx, rfl⟩ := map_some (show (compL (M.e C) es).map IX.tup = some ir from e)
    exact both (me_tup (compL_ok S ns h hx)) rfl rfl rfl
  | List es pos =>
    obtain ⟨x, hx, rfl⟩ := map_some (show (compL (M.e C) es).map IX.lst = some ir from e)
    exact both (me_lst (compL_ok S ns h hx)) rfl rfl rfl
  | Subscript a b pos =>
    have e' : compSub M C a b = some ir := e
    unfold compSub at e'
    split at e'
    · split at e'
      · rename_i x y z h1 h2 h3
        cases e'
        exact both (me_sl (S.me h h1) (compOE_ok S h h2) (compOE_ok S h h3)) rfl rfl rfl
      · cases e'
    · split at e'
      · rename_i hn
        split at e'
        · rename_i x y h1 h2
          cases e'
          exact both (me_ixK h.tab h.hu1 (S.me h h1) (S.me h h2) (plainIx_ok hn)) rfl rfl rfl
        · cases e'
      · cases e'
  | Attribute a name pos =>
    have e' : (if notSuper a = true then (M.e C a).map fun x => IX.fld x name else none) = some ir := e
    split at e'
    · rename_i hn
      obtain ⟨x, hx, rfl⟩ := map_some e'
      exact both (me_fld h.no (S.me h hx) hn) rfl rfl rfl
    · cases e'
  | Call f args kws pos =>
    have e' : compCallE P M C args kws pos f = some ir := e
    unfold compCallE at e'
    split at e'
    · exact both (callN_ok S ns h e') (compCallN_plain e') rfl rfl
    · exact both (meth_ok S ns h e') (compMeth_plain e') rfl rfl
    · cases e'
  | FormattedValue a j sp pos =>
    have e' : compE P M C (.FormattedValue a j sp pos) = some ir := e
    unfold compE at e'
    split at e' <;> try cases e'
    all_goals first | (rename_i q; cases q; done) | skip
    rename_i q
    cases q
    obtain ⟨x, hx, rfl⟩ := map_some e'
    exact both (me_fmt (S.me h hx)) rfl rfl rfl
  | JoinedStr es pos =>
    have e' : compFst (M.e C) es = some ir := e
    unfold compFst at e'
    split at e'
    · obtain ⟨x, hx, rfl⟩ := map_some e'
      exact both (me_fstr (mj_ok S h hx)) rfl rfl rfl
    · cases e'
  | Dict ks vs pos =>
    have e' : compDisp M C vs ks = some ir := e
    refine both (disp_ok S h e') ?_ rfl rfl
    unfold compDisp at e'
    repeat' (split at e')
    all_goals (cases e' <;> rfl)
  | ListComp elt gs scope pos =>
    have e' : compLC P M C elt scope gs = some ir := e
    refine both (lc_ok S h e') ?_ rfl rfl
    unfold compLC at e'
    repeat' (split at e')
    all_goals (cases e' <;> rfl)
  | DictComp kx vx gs scope pos =>
    have e' : compDC P M C kx vx scope gs = some ir := e
    refine both (dc_ok S h e') ?_ rfl rfl
    unfold compDC at e'
    repeat' (split at e')
    all_goals (cases e' <;> rfl)
  | _ => cases e
theorem mw_stuck {e : Expr} : MW X a0 e (fun _ _ => .stuck) := ⟨fun _ _ _ _ _ _ _ h => by obtain ⟨_, _, _, _, _, p⟩ := h; exact p.elim⟩
theorem mi_stuck {tg e : Expr} : MI X a0 tg e (fun _ _ => .stuck) := ⟨fun _ _ _ _ _ _ h => by obtain ⟨_, _, _, _, _, p⟩ := h; exact p.elim⟩
theorem compE_nost0 {C : Ct} {ex : Expr} {y : IX} (e : compE P M C ex = some (.star y)) : False := by
  cases ex with
  | Constant c j pos => cases c <;> cases e
  | Name x pos =>
    have e' : compName P C x = some (.star y) := e
    unfold compName at e'
    repeat' (split at e')
    all_goals first | (obtain ⟨_, _, z⟩ := map_some e'; cases z; done) | (cases e'; done)
  | UnaryOp op a pos =>
    have e' : compUn M C op a = some (.star y) := e
    unfold compUn at e'
    repeat' (split at e')
    all_goals first | (obtain ⟨_, _, z⟩ := map_some e'; cases z; done) | (cases e'; done)
  | BinOp a op b pos =>
    have e' : (match M.e C a, M.e C b with
      | some x, some y => some (IX.bin op x y)
      | _, _ => none) = some (.star y) := e
    repeat' (split at e')
    all_goals (cases e'; done)
  | Compare a ops bs pos =>
    have e' : compCmp M C a ops bs = some (.star y) := e
    unfold compCmp at e'
    repeat' (split at e')
    all_goals (cases e'; done)
  | BoolOp op as pos =>
    have e' : compBO M C op pos as = some (.star y) := e
    unfold compBO at e'
    repeat' (split at e')
    all_goals first | (obtain ⟨_, _, z⟩ := map_some e'; cases z; done) | (cases op <;> cases e'; done) | (cases e'; done)
  | IfExp c a b pos =>
    have e' : (match M.e C c, M.e C a, M.e C b with
      | some x, some y, some z => some (IX.ife x y z)
      | _, _, _ => none) = some (.star y) := e
    repeat' (split at e')
    all_goals (cases e'; done)
  | Tuple es j pos =>
    obtain ⟨_, _, z⟩ := map_some (show (compL (M.e C) es).map IX.tup = some (.star y) from e)
    cases z
  | List es pos =>
    obtain ⟨_, _, z⟩ := map_some (show (compL (M.e C) es).map IX.lst = some (.star y) from e)
    cases z
  | Subscript a b pos =>
    have e' : compSub M C a b = some (.star y) := e
    unfold compSub at e'
    repeat' (split at e')
    all_goals (cases e'; done)
  | Attribute a name pos =>
    have e' : (if notSuper a = true then (M.e C a).map fun x => IX.fld x name else none) = some (.star y) := e
    split at e'
    · obtain ⟨_, _, z⟩ := map_some e'
      cases z
    · cases e'
  | Call f args kws pos =>
    have e' : compCallE P M C args kws pos f = some (.star y) := e
    have keyL : ∀ {x}, compLoc P M C x args kws ≠ some (.star y) := fun {x} e => by
      unfold compLoc at e
      repeat' (split at e)
      all_goals (cases e; done)
    have key : ∀ {x}, compCall P M C x args kws ≠ some (.star y) := fun {x} e => by
      unfold compCall at e
      repeat' (split at e)
      all_goals (cases e; done)
    unfold compCallE at e'
    split at e'
    · unfold compCallN at e'
      split at e'
      · rcases orElse_or e' with e | e
        · unfold compLenS at e
          repeat' (split at e)
          all_goals (cases e; done)
        · rcases orElse_or e with e | e
          · unfold compLI at e
            repeat' (split at e)
            all_goals first | (obtain ⟨_, _, z⟩ := map_some e; cases z; done) | (cases e; done)
          · rcases orElse_or e with e | e
            · exact keyL e
            · exact key e
      · rcases orElse_or e' with e | e
        · exact keyL e
        · exact key e
    · unfold compMeth at e'
      repeat' (split at e')
      all_goals (cases e'; done)
    · cases e'
  | FormattedValue a j sp pos =>
    have e' : compE P M C (.FormattedValue a j sp pos) = some (.star y) := e
    unfold compE at e'
    split at e' <;> try cases e'
    all_goals first | (rename_i q; cases q; done) | skip
    obtain ⟨_, _, z⟩ := map_some e'
    cases z
  | JoinedStr es pos =>
    have e' : compFst (M.e C) es = some (.star y) := e
    unfold compFst at e'
    split at e'
    · obtain ⟨_, _, z⟩ := map_some e'
      cases z
    · cases e'
  | Dict ks vs pos =>
    have e' : compDisp M C vs ks = some (.star y) := e
    unfold compDisp at e'
    repeat' (split at e')
    all_goals (cases e'; done)
  | ListComp elt gs scope pos =>
    have e' : compLC P M C elt scope gs = some (.star y) := e
    unfold compLC at e'
    repeat' (split at e')
    all_goals (cases e'; done)
  | DictComp kx vx gs scope pos =>
    have e' : compDC P M C kx vx scope gs = some (.star y) := e
    unfold compDC at e'
    repeat' (split at e')
    all_goals (cases e'; done)
  | _ => cases e
theorem compE_nost : NoSt (cstep P M) := fun C ex y e => (orElse_or e).elim compE_nost0 fun z => nomatch z
theorem isTup_ok {tg : Expr} (h : isTup tg = true) : ∃ es j p, tg = .Tuple es j p := by
  cases tg <;> first | exact ⟨_, _, _, rfl⟩ | cases h
theorem compI_ok (S : Snd a0 P E k M R) (ns : NoSt M) (h : XOk X a0 P E k C) {tg ex : Expr} {ir : IX} (e : compI P M C tg ex = some ir) : MI X a0 tg ex (stepI E R ir) := by
  have val : ∀ {ex : Expr} {ir}, (M.e C ex).map IX.iVal = some ir → MI X a0 tg ex (stepI E R ir) := fun {ex ir} e => by
    obtain ⟨x, hx, rfl⟩ := map_some e
    exact mi_val (S.me h hx)
  unfold compI at e
  split at e
  · rename_i f p args kws pos
    split at e
    · rename_i hgl
      split at e
      · rename_i hf
        split at e
        · rename_i hall
          split at e
          · rename_i as ha
            have ml := compL_ok S ns h ha
            by_cases hx : f = ("range" : PySem.Str)
            · rw [if_pos hx] at e
              subst hx
              split at e
              · cases e; exact mi_rng1 (h.isGl hgl) (h.free _ hf) ml (all_one hall)
              · cases e; exact mi_rng2 (h.isGl hgl) (h.free _ hf) ml (all_two hall).1 (all_two hall).2
              · cases e
            · rw [if_neg hx] at e
              by_cases hx : f = ("enumerate" : PySem.Str)
              · rw [if_pos hx] at e
                subst hx
                split at e
                · split at e
                  · rename_i ht
                    cases e
                    obtain ⟨es, j, p, rfl⟩ := isTup_ok ht
                    exact mi_enum (h.isGl hgl) (h.free _ hf) ml (all_one hall)
                  · cases e
                · cases e
              · rw [if_neg hx] at e
                by_cases hx : f = ("zip" : PySem.Str)
                · rw [if_pos hx] at e
                  subst hx
                  split at e
                  · split at e
                    · rename_i ht
                      cases e
                      obtain ⟨es, j, p, rfl⟩ := isTup_ok ht
                      exact mi_zip (h.isGl hgl) (h.free _ hf) ml (all_two hall).1 (all_two hall).2
                    · cases e
                  · split at e
                    · rename_i ht
                      cases e
                      obtain ⟨ht, rfl⟩ := ht
                      obtain ⟨es, j, p, rfl⟩ := isTup_ok ht
                      exact mi_zipS (h.isGl hgl) (h.free _ hf) ml (all_two hall).1 (all_two hall).2
                    · cases e
                  · cases e
                · rw [if_neg hx] at e
                  exact val e
          · cases e
        · cases e
      · exact val e
    · exact val e
  · rename_i o m apos cpos
    by_cases hx : m = ("items" : PySem.Str)
    · rw [if_pos hx] at e
      subst hx
      split at e
      · rename_i hc
        obtain ⟨ht, h1, h2⟩ := hc
        obtain ⟨x, hx, rfl⟩ := map_some e
        obtain ⟨es, j, p, rfl⟩ := isTup_ok ht
        exact mi_items (S.me h hx) h1 h2
      · cases e
    · rw [if_neg hx] at e
      by_cases hx : m = ("values" : PySem.Str)
      · rw [if_pos hx] at e
        subst hx
        split at e
        · rename_i hc
          obtain ⟨h1, h2⟩ := hc
          obtain ⟨x, hx, rfl⟩ := map_some e
          exact mi_vals (S.me h hx) h1 h2
        · cases e
      · rw [if_neg hx] at e
        exact val e
  · exact val e
theorem starIx_lt : ∀ {es : List Expr} {i : Nat}, starIx es = some i → i < es.length
  | [], i, h => by cases h
  | x :: r, i, h => by
    have gen : (starIx r).map (· + 1) = some i → i < (x :: r).length := fun h => by
      obtain ⟨j, hj, rfl⟩ := map_some h
      have := starIx_lt hj
      simp; omega
    cases x <;> first | exact gen h | (cases h; simp)
theorem compG_ok (S : Snd a0 P E k M R) (h : XOk X a0 P E k C) {ex : Expr} {ir : IX} {is : List Nat} (e : compG P M C ex = some (ir, is)) : MG X a0 ex is (stepG E R ir) := by
  unfold compG at e
  split at e
  · rename_i x0 p0
    split at e
    · rename_i hk
      obtain ⟨i, hi, e2⟩ := map_some e
      cases e2
      have hk' : X.env.scope.names.lookup x0 = some .local := by rw [h.sc]; exact hk
      exact mg_name h.nd (h.idx hi) (.inl hk') (.inr hk')
    · rename_i hk
      split at e
      · rename_i hf
        obtain ⟨i, hi, e2⟩ := map_some e
        cases e2
        have hk' : X.env.scope.names.lookup x0 = some .cell := by rw [h.sc]; exact hk
        exact mg_name h.nd (h.idx hi) (.inr hk') (.inl (by rw [h.fn]; exact hf))
      · cases e
    · cases e
  · rename_i es j p
    split at e
    · rename_i ts is' h1
      split at e
      · split at e
        · rename_i hn
          cases e
          exact mg_tup h.calm (compGs_ok S h h1) hn
        · cases e
      · rename_i i hi
        split at e
        · rename_i hc
          cases e
          have hlt := starIx_lt hi
          exact mg_star h.calm (compGs_ok S h h1) hi (by omega)
        · cases e
    · cases e
  · split at e
    · rename_i hn
      split at e
      · rename_i x y h1 h2
        cases e
        exact mg_sub h.hu1 (S.me h h1) (S.me h h2) hn
      · cases e
    · cases e
  · obtain ⟨x, hx, e2⟩ := map_some e
    cases e2
    exact mg_fld h.no (S.me h hx)
  · cases e
theorem Snd.step (S : Snd a0 P E k M R) (ns : NoSt M) : Snd a0 P E k (cstep P M) (step E R) where
  e := fun X C ex ir h e => (orElse_or e).elim (compE_ok S ns h) fun z => by
    cases z
    exact ⟨me_stuck, mt_stuck, fun _ => mw_stuck⟩
  i := fun X C tg ex ir h e => (orElse_or e).elim (compI_ok S ns h) fun z => by
    cases z
    exact mi_stuck
  g := fun X C ex ir is h e => compG_ok S h e
theorem snd_all : ∀ n, Snd a0 P E k (compX P n) (runX E n) ∧ NoSt (compX P n)
  | 0 => ⟨⟨fun _ _ _ _ _ e => (by cases e), fun _ _ _ _ _ _ e => (by cases e), fun _ _ _ _ _ _ e => (by cases e)⟩, fun _ _ _ e => (by cases e)⟩
  | n + 1 => ⟨(snd_all n).1.step (snd_all n).2, compE_nost⟩
/-! ### statements -/
variable {Sx : Stmt → Option IS} {Sr : IS → AS}
def SndS (X : Cx) (a0 : Addr) (Sx : Stmt → Option IS) (Sr : IS → AS) : Prop := ∀ st ir, Sx st = some ir → MS X a0 st (Sr ir)
theorem compSs_ok (S : SndS X a0 Sx Sr) : ∀ {sts : List Stmt} {irs : List IS}, compSs Sx sts = some irs → MSs X a0 sts (runSs Sr irs)
  | [], irs, e => by cases e; exact mss_nil
  | x :: r, irs, e => by
    have e' : (match Sx x, compSs Sx r with
      | some a, some b => some (a :: b)
      | _, _ => none) = some irs := e
    split at e'
    · rename_i a b h1 h2
      cases e'
      exact mss_cons (S x a h1) (compSs_ok S h2)
    · cases e'
theorem sw_name {e : Expr} {tg : Expr} {l : Nat} {env : Env} (h : (notComp e || !isNameE tg) = true) : swapsWith e (some tg) l env = pure false := by
  rw [Bool.or_eq_true] at h
  rcases h with h | h
  · exact noSwap h
  · cases e <;> first | rfl | (cases tg <;> first | rfl | (cases h; done))
theorem ms_asg' {tg e : Expr} {is : List Nat} {f : AE} {g : AG} {pos : Pos} (he : ME X a0 e f) (hg : MG X a0 tg is g) (hc : (notComp e || !isNameE tg) = true) (ha : asgOk tg e = true) : MS X a0 (.Assign [tg] e pos) (aAsg f g) :=
  PS.imp (ps_asg he hg (by show swapsWith e (some tg) pos.line X.env = pure false; exact sw_name hc) (asg_sw ha) (asg_one ha)) fun D σ H ⟨μ, s, ah, hs, hr, p⟩ => ⟨μ, s, ah, hs, hr, (PostS.bind p).mono fun x H1 ⟨μ1, v, h1, e1, hr1, r1, p1⟩ =>
    ⟨μ1, v, s, h1, hs.ext e1, hr1, r1, (nx_post p1).weak fun _ _ _ _ z => z.1⟩⟩
theorem compS_ok (S : Snd a0 P E k M R) (h : XOk X a0 P E k C) (hp : PassesOwn (model X.prog X.w) X.A X.env X.xe) (hk : X.env.scope.kind = .function) (T : SndS X a0 Sx Sr) : SndS X a0 (compS P M C Sx) (stepS E R Sr) := by
  intro st ir e
  unfold compS at e
  split at e
  · split at e
    · rename_i hn
      obtain ⟨x, hx, rfl⟩ := map_some e
      exact ms_expr (S.me h hx) hn
    · cases e; exact ms_stuck
  · obtain ⟨x, hx, rfl⟩ := map_some e
    exact ms_ret (S.me h hx)
  · cases e; exact ms_retN
  · cases e; exact ms_pass
  · cases e; exact ms_break
  · cases e; exact ms_continue
  · split at e
    · rename_i x y z h1 h2 h3
      cases e
      exact ms_if (S.mt h h1) (compSs_ok T h2) (compSs_ok T h3)
    · cases e
  · split at e
    · rename_i hn
      split at e
      · rename_i it g is b h1 h2 h3
        cases e
        exact ms_lock (ms_for hp h.calm (S.i X C _ _ it h h1) (S.g X C _ g is h h2) (compSs_ok T h3) hn)
      · cases e
    · cases e
  · split at e
    · rename_i x b h1 h2
      cases e
      exact ms_while hp (S.mt h h1) (compSs_ok T h2)
    · cases e
  · split at e
    · rename_i hsw
      split at e
      · rename_i i it g ts vs el h1 h2 h3
        split at e
        · cases e
          obtain ⟨hn, ok, rfl, hi, is, hv, hg, ht⟩ := blk_ok S h h2
          unfold swLc at hsw
          rw [Bool.and_eq_true, Bool.and_eq_true, Bool.not_eq_true'] at hsw
          obtain ⟨⟨s1, s2⟩, s3⟩ := hsw
          have hyl := of_decide_eq_true s1
          rw [← h.sc] at hyl
          exact ms_setLc h.calm h.nd (h.idx h1) hyl s2 hk s3 hi ok hv hg ht (fun s H Cc cl fp => S.me h.blk h3) hn
        · cases e
      · cases e
    · cases e
  · split at e
    · rename_i hc
      obtain ⟨hsw, hn1⟩ := hc
      split at e
      · rename_i i it g ts vs it1 g1 is1 ts1 el h1 h2 h3 h4 h5 h6
        split at e
        · rename_i hs
          cases e
          obtain ⟨hn, ok, rfl, hi, is, hv, hg, ht⟩ := blk_ok S h h2
          unfold swLc at hsw
          rw [Bool.and_eq_true, Bool.and_eq_true, Bool.not_eq_true'] at hsw
          obtain ⟨⟨s1, s2⟩, s3⟩ := hsw
          have hyl := of_decide_eq_true s1
          rw [← h.sc] at hyl
          exact ms_setLc2 h.calm h.nd (h.idx h1) hyl s2 hk s3 hi ok hv (subB_ok hs) hg ht (fun s H Cc cl fp => S.i _ _ _ _ _ h.blk h3) (fun s H Cc cl fp => S.g _ _ _ _ _ h.blk h4) (fun s H Cc cl fp => compT_ok S h.blk h5) (fun s H Cc cl fp => S.me h.blk h6) hn hn1
        · cases e
      · cases e
    · cases e
  · split at e
    · rename_i hw
      split at e
      · rename_i x g is h1 h2
        cases e
        exact ms_asgT (S.me h h1) (S.g X C _ g is h h2) (by rw [h.sc]; exact hw)
      · cases e
    · cases e
  · split at e
    · rename_i hc
      split at e
      · rename_i x g is h1 h2
        cases e
        exact ms_asg' (S.me h h1) (S.g X C _ g is h h2) hc.1 hc.2
      · cases e
    · cases e
  · rename_i x0 p0 e0 p1
    split at e
    · rename_i hkk
      split at e
      · rename_i i a h1 h2
        cases e
        have hk' : X.env.scope.names.lookup x0 = some .local := by rw [h.sc]; exact hkk
        exact ms_augAdd h.nd (h.idx h1) (.inl hk') (.inr hk') (S.me h h2)
      · cases e
    · rename_i hkk
      split at e
      · rename_i hf
        split at e
        · rename_i i a h1 h2
          cases e
          have hk' : X.env.scope.names.lookup x0 = some .cell := by rw [h.sc]; exact hkk
          exact ms_augAdd h.nd (h.idx h1) (.inr hk') (.inl (by rw [h.fn]; exact hf)) (S.me h h2)
        · cases e
      · cases e
    · cases e
  · cases e; exact ms_stuck
  · cases e
theorem swF_ok {env : Env} {tg e : Expr} {l : Nat} (h : swF env.scope tg e = true) : swapsWith e (some tg) l env = pure false := by
  unfold swF at h
  have key : ∀ (s : Scope) (t : PySem.Str) (p q : Pos), (!(env.scope.names.lookup t == some .local && p.line == q.line && !(s.names.any fun (n, k) => n == t && (k == .local || k == .cell)))) = true →
      (env.blockKind == .function && env.kindOf t == some .local && p.line == q.line && !(s.names.any fun (n, k) => n == t && (k == .local || k == .cell))) = false := fun s t p q hh => by
    rw [Bool.not_eq_true'] at hh
    have e1 : env.kindOf t = env.scope.names.lookup t := rfl
    rw [e1]
    cases h1 : (env.blockKind == ScopeKind.function) with
    | false => rfl
    | true => rw [Bool.true_and]; exact hh
  cases e <;> first | rfl | (cases tg <;> first | rfl | (exact congrArg pure (key _ _ _ _ h)))
theorem ms_asgF {tg e : Expr} {is : List Nat} {f : AE} {g : AG} {pos : Pos} (he : ME X a0 e f) (hg : MG X a0 tg is g) (hc : swF X.env.scope tg e = true) (ha : asgOk tg e = true) : MS X a0 (.Assign [tg] e pos) (aAsg f g) :=
  PS.imp (ps_asg he hg (by show swapsWith e (some tg) pos.line X.env = pure false; exact swF_ok hc) (asg_sw ha) (asg_one ha)) fun D σ H ⟨μ, s, ah, hs, hr, p⟩ => ⟨μ, s, ah, hs, hr, (PostS.bind p).mono fun x H1 ⟨μ1, v, h1, e1, hr1, r1, p1⟩ =>
    ⟨μ1, v, s, h1, hs.ext e1, hr1, r1, (nx_post p1).weak fun _ _ _ _ z => z.1⟩⟩
theorem bk_fn {env : Env} (hk : env.scope.kind = .function) : env.blockKind = .function := by
  unfold Env.blockKind
  rw [hk]
  rfl
theorem compPar_ok (S : Snd a0 P E k M R) (ns : NoSt M) (h : XOk X a0 P E k C) (hk : X.env.scope.kind = .function) {ts vs : List Expr} {k1 k2 : Nat} {pt p2 pos : Pos} {ir : IS} (e : compPar P M C vs ts = some ir) : MS X a0 (.Assign [.Tuple ts k1 pt] (.Tuple vs k2 p2) pos) (stepS E R Sr ir) := by
  unfold compPar at e
  split at e
  · split at e
    · rename_i x px y py ho
      split at e
      · rename_i i j l h1 h2 h3
        cases e
        rw [← h.sc] at ho
        have ho2 := ho
        unfold parOk2 parVs at ho2
        simp only [Bool.and_eq_true, beq_iff_eq] at ho2
        obtain ⟨⟨⟨⟨hl, _⟩, _⟩, _⟩, _⟩ := ho2
        match vs, hl with
        | [a, b], _ => exact ms_par2 (bk_fn hk) h.calm h.nd (h.idx h1) (h.idx h2) ho (compL_ok S ns h h3)
      · cases e
    · cases e
  · split at e
    · rename_i x px y py z pz ho
      split at e
      · rename_i i j l q h1 h2 h3 h4
        cases e
        rw [← h.sc] at ho
        have ho2 := ho
        unfold parOk3 parVs at ho2
        simp only [Bool.and_eq_true, beq_iff_eq] at ho2
        obtain ⟨⟨⟨⟨hl, _⟩, _⟩, _⟩, _⟩ := ho2
        match vs, hl with
        | [a, b, c], _ => exact ms_par3 (bk_fn hk) h.calm h.nd (h.idx h1) (h.idx h2) (h.idx h3) ho (compL_ok S ns h h4)
      · cases e
    · cases e
  · cases e
theorem compS2_ok (S : Snd a0 P E k M R) (ns : NoSt M) (h : XOk X a0 P E k C) (hk : X.env.scope.kind = .function) : SndS X a0 (compS2 P M C) (stepS E R Sr) := by
  intro st ir e
  unfold compS2 at e
  split at e
  · exact compPar_ok S ns h hk e
  · unfold compAsg at e
    split at e
    · rename_i hc
      split at e
      · rename_i x g is h1 h2
        cases e
        exact ms_asgF (S.me h h1) (S.g X C _ g is h h2) (by rw [h.sc]; exact hc.1) hc.2
      · cases e
    · cases e
  · split at e
    · rename_i hkk
      split at e
      · rename_i i a h1 h2
        cases e
        rw [← h.sc] at hkk
        exact ms_augMul h.nd (h.idx h1) (.inl hkk) (.inr hkk) (S.me h h2)
      · cases e
    · cases e
  · split at e
    · rename_i a b h1 h2
      cases e
      exact ms_fldAug h.no (S.me h h1) (S.me h h2)
    · cases e
  · cases e
theorem compY_ok (S : Snd a0 P E k M R) (ns : NoSt M) (h : XOk X a0 P E k C) (hp : PassesOwn (model X.prog X.w) X.A X.env X.xe) (hk : X.env.scope.kind = .function) : ∀ n, SndS X a0 (compY P M C n) (runS E R n)
  | 0 => fun _ _ e => (by cases e)
  | n + 1 => fun st ir e => by
    have e' : (match compS P M C (compY P M C n) st with
      | some x => some x
      | none => (match compS2 P M C st with
        | some x => some x
        | none => some IS.no)) = some ir := e
    split at e'
    · rename_i x hx
      cases e'
      exact compS_ok S h hp hk (compY_ok S ns h hp hk n) st _ hx
    · split at e'
      · rename_i x hx
        cases e'
        exact compS2_ok S ns h hk st _ hx
      · cases e'
        exact ms_stuck
end
end WC
/-! W25: all defs of a law at once -/
namespace WC
open PySem PySem.Spec PyProof.Rows L2
/-- one def: as the head has it, its parameters, its frame's names -/
structure DefP where
  d : He.DefD
  ps : List PySem.Str
  N : List PySem.Str
structure LawP where
  defs : List DefP
  globs : List (PySem.Str × AV)
  frees : List PySem.Str
  fixs : List (PySem.Str × Nat)
  cixs : List (PySem.Str × Nat)
  mths : List (PySem.Str × List (PySem.Str × Nat))
  shapes : List ((Nat × Nat × List PySem.Str) × (Nat × List AV))
  nos : List (PySem.Str × List PySem.Str)
  tabs : List (PySem.Str × List (PySem.Str × AV))
  vals : List PySem.Str
def LawP.pi (L : LawP) (N : List PySem.Str) : PI0 where
  N := N
  glob := fun x => L.globs.lookup x
  free := fun x => L.frees.contains x
  fix := fun x => L.fixs.lookup x
  cix := fun x => L.cixs.lookup x
  mth := fun m => (L.mths.lookup m).getD []
  shape := fun i m ks => L.shapes.lookup (i, m, ks)
  vals := L.vals
def LawP.no (L : LawP) (C f : PySem.Str) : Bool := match L.nos.lookup C with
  | some fs => fs.contains f
  | none => false
def LawP.tab (L : LawP) : KTab := fun x => L.tabs.lookup x
/-- a def's compact text -/
def LawP.comp (L : LawP) (D : DefP) : Option (List IS) := compSs (compY (L.pi D.N) (compX (L.pi D.N) DX) ⟨D.d.scope, fun _ => true⟩ DX) D.d.body
/-- the compact texts are those of the defs -/
def LawP.compOk (L : LawP) (T : List WC.FI) : Prop := ∀ (i : Nat) (D : DefP), L.defs[i]? = some D → ∃ F : WC.FI, T[i]? = some F ∧ F.n = D.ps.length ∧ F.sz = D.N.length ∧ L.comp D = some F.body
/-- what the head has to tell -/
structure LawOk (L : LawP) (prog : Program) (w : World) (K : PySem.W.Frag) (mg : PySem.Str → Option Value) (a0 : Addr) : Prop where
  gl : ∀ x v, L.globs.lookup x = some v → ∃ (u : Value) (y : V), mg x = some u ∧ RelV y u ∧ ∀ μ H, Rl ⟨K, a0⟩ μ H v y
  free : ∀ x, L.frees.contains x = true → mg x = none
  fix : ∀ x i, L.fixs.lookup x = some i → ∃ D, L.defs[i]? = some D ∧ mg x = some (.ref (He.fAd K D.d.at_)) ∧ mg x = some (.ref (He.ga K x))
  cix : ∀ x i, L.cixs.lookup x = some i → ∃ D, L.defs[i]? = some D ∧ mg x = some (.ref (He.ga K x)) ∧ Mk K (He.ga K x) (He.fAd K D.d.at_)
  mth : ∀ m row x i, L.mths.lookup m = some row → (x, i) ∈ row → ∃ D, L.defs[i]? = some D ∧ Cls K (He.ga K x) ∧ Meth K (He.ga K x) m (He.fAd K D.d.at_)
  no : ClsFld K L.no
  tab : ∀ x kvs, L.tab x = some kvs → ∃ es n, KDict K w (He.ga K x) es n ∧ ∀ k v, kvs.lookup k = some v → ∃ u y, PySem.W.nsIn K (He.ga K x) k = some (some u) ∧ RelV y u ∧ ∀ μ H, Rl ⟨K, a0⟩ μ H v y
  defs : ∀ i D, L.defs[i]? = some D → ∃ fd, FunD K D.d.name D.d.qual D.d.params D.d.body D.d.scope (D.d.dvs K) (D.d.kws K) (He.fAd K D.d.at_) fd ∧ FnScope D.N D.ps D.d.scope ∧
    ∀ m ks n d, L.shapes.lookup (i, m, ks) = some (n, d) → n = D.ps.length ∧ KBA K a0 fd D.ps m ks (bindA d)
def LawP.prog (L : LawP) (T : List WC.FI) : Prog := ⟨T, L.no, L.tab⟩
section
variable {L : LawP} {T : List WC.FI} {prog : Program} {w : World} {K : PySem.W.Frag} {mg : PySem.Str → Option Value} {base : Heap} {a0 : Addr}
/-- a def at a depth: it does what g does -/
def DefAt (L : LawP) (prog : Program) (w : World) (K : PySem.W.Frag) (mg : PySem.Str → Option Value) (base : Heap) (a0 : Addr) (k : Nat) (g : Nat → AC) : Prop :=
  ∀ i D fd, L.defs[i]? = some D → FunD K D.d.name D.d.qual D.d.params D.d.body D.d.scope (D.d.dvs K) (D.d.kws K) (He.fAd K D.d.at_) fd → FnScope D.N D.ps D.d.scope → FnG prog w K mg base CX0 k (He.fAd K D.d.at_) fd D.ps (SPof ⟨K, a0⟩ D.ps.length (g i))
theorem defAt_stuck {k : Nat} : DefAt L prog w K mg base a0 k (fun _ _ _ => .stuck) := fun i D fd hD F S =>
  ⟨fun vs H Q E ⟨μ, as, ah, hl, hr, r, p⟩ => p.elim, fun A outer s H args us vs Q E hr e0 hb r ⟨μ, as, ah, hl, hr', r', p⟩ => p.elim⟩
theorem asCall_post {W : Wd} {μ H} {r : Ex Fl} {Q : VK} (p : Post W μ H (asCall r) Q) : PostS W μ H r { nx := fun _ H' => Q .non H', rt := Q } := by
  cases r with
  | stuck => exact p
  | ok fl h =>
    cases fl with
    | nx s => exact fun μ' H' σ' e hr hs => p μ' H' .non e hr .non
    | bk s => exact p.elim
    | ct s => exact p.elim
    | rt v => exact p
theorem xok_of (O : LawOk L prog w K mg a0) {k : Nat} {gc gm : Nat → AC} (Gc : DefAt L prog w K mg base a0 (k + 1) gc) (Gm : DefAt L prog w K mg base a0 k gm) {D : DefP} {f : Addr} {cdv : Value} {A : Around} {outer : List Env} {s : Shared} {H : Hp} {E : XK}
    (S : FnScope D.N D.ps D.d.scope) (hr : Rm (k + 1) (A.deeper (envOfC D.d.qual D.d.scope s.heap.objs.size f cdv))) :
    XOk (cxOf CX0 prog w K mg base D.N D.d.qual D.d.scope f cdv A outer s H E) a0 (L.pi D.N) ⟨gc, gm, L.no, L.tab, limN⟩ k ⟨D.d.scope, fun _ => true⟩ where
  sc := rfl
  fn := rfl
  N := rfl
  nd := S.nd
  calm := rfl
  room := hr
  gl := O.gl
  free := O.free
  fix := fun x i hi => by
    obtain ⟨D', hD, hm, _⟩ := O.fix x i hi
    obtain ⟨fd, F, S', hs⟩ := O.defs i D' hD
    refine ⟨_, hm, F.kp, fun m ks n d hsh => ?_⟩
    obtain ⟨rfl, hk⟩ := hs m ks n d hsh
    exact ⟨fd, D'.ps, Gc i D' fd hD F S', hk⟩
  fixg := fun x i hi => by
    obtain ⟨_, _, _, hg⟩ := O.fix x i hi
    exact hg
  cix := fun x i hi => by
    obtain ⟨D', hD, hm, M⟩ := O.cix x i hi
    obtain ⟨fd, F, S', hs⟩ := O.defs i D' hD
    refine ⟨hm, _, M, fun m ks n d hsh => ?_⟩
    obtain ⟨rfl, hk⟩ := hs m ks n d hsh
    exact ⟨fd, D'.ps, Gm i D' fd hD F S', hk⟩
  mth := fun m x i hi => by
    have hi' : (x, i) ∈ (L.mths.lookup m).getD [] := hi
    cases q : L.mths.lookup m with
    | none => rw [q] at hi'; cases hi'
    | some row =>
      rw [q] at hi'
      obtain ⟨D', hD, c, M⟩ := O.mth m row x i q hi'
      obtain ⟨fd, F, S', hs⟩ := O.defs i D' hD
      refine ⟨c, _, M, fun mm ks n d hsh => ?_⟩
      obtain ⟨rfl, hk⟩ := hs mm ks n d hsh
      exact ⟨fd, D'.ps, Gc i D' fd hD F S', hk⟩
  no := O.no
  tab := O.tab
theorem start_sr {W : Wd} {μ : List Addr} {H : Hp} {N : List PySem.Str} {as : List AV} {vs : List V} (r : Rls W μ H as vs) : SR W μ H (as.map some ++ List.replicate (N.length - as.length) none) (start N vs) := by
  unfold L2.start
  rw [r.length]
  exact SR.start _ r
theorem defAt_step (O : LawOk L prog w K mg a0) (hT : L.compOk T) {k : Nat} {gc gm : Nat → AC} (Gc : DefAt L prog w K mg base a0 (k + 1) gc) (Gm : DefAt L prog w K mg base a0 k gm) :
    DefAt L prog w K mg base a0 (k + 2) ((L.prog T).body gc gm) := by
  intro i D fd hD F S
  obtain ⟨Fi, hF, hn, hz, hc⟩ := hT i D hD
  refine fnG_of F S (fun vs H Q E ⟨μ, as, ah, hl, hr, r, p⟩ => r.length ▸ hl) fun cdv A outer s H vs Q E hr ⟨μ, as, ah, hl, hR, r, p⟩ => ?_
  have X := xok_of (E := E) (f := He.fAd K D.d.at_) (cdv := cdv) (outer := outer) (s := s) (H := H) O Gc Gm S hr
  have sa := snd_all (a0 := a0) (P := L.pi D.N) (E := ⟨gc, gm, L.no, L.tab, limN⟩) (k := k) DX
  have M := compSs_ok (compY_ok sa.1 sa.2 X (passes_of rfl) S.kind DX) hc
  refine ⟨_, M, μ, as.map some ++ List.replicate (D.N.length - as.length) none, ah, start_sr r, hR, ?_⟩
  have p' : Post (⟨K, a0⟩ : Wd) μ H ((L.prog T).body gc gm i as ah) Q := p
  unfold Prog.body at p'
  have hF' : (L.prog T).fns[i]? = some Fi := hF
  rw [hF'] at p'
  rw [← hz]
  exact asCall_post p'
theorem defAt_all (O : LawOk L prog w K mg a0) (hT : L.compOk T) : ∀ k, DefAt L prog w K mg base a0 (k + 1) ((L.prog T).two k).1 ∧ DefAt L prog w K mg base a0 k ((L.prog T).two k).2
  | 0 => ⟨defAt_stuck, defAt_stuck⟩
  | k + 1 => by
    obtain ⟨h1, h2⟩ := defAt_all O hT k
    exact ⟨defAt_step O hT h1 h2, h1⟩
end
end WC
/-! W26: what the head tells gives all of a law's defs; the end -/
namespace WC
open PySem PySem.Spec PyProof.Rows L2
/-! ### binding -/
section
variable {K : PySem.W.Frag} {x qual : PySem.Str} {params : Arguments} {body : List Stmt} {scope : Scope} {kws : List (PySem.Str × V)} {f : Addr} {fd : FuncData} {ps : List PySem.Str} {a0 : Addr}
theorem Vals.app2 {xs : List V} {us : List Value} {ys vs} (r : Vals xs us) (q : Vals ys vs) : Vals (xs ++ ys) (us ++ vs) := WC.Vals.app r q
theorem kba_full {n : Nat} {ks : List PySem.Str} (F : FunD K x qual params body scope [] kws f fd)
    (h : ∀ (kV doc pm : Value) (an : Option Addr) (cdv ct : Value) (us ws : List Value), us.length = n → ws.length = ks.length → bindArgs (PySem.W.fnOf x qual params body scope .none kV doc pm an cdv ct) ⟨us, ks.zip ws⟩ = pure (ps.zip (us ++ ws))) : KBA K a0 fd ps n ks (bindA []) := by
  obtain ⟨oc, od, dV, kV, doc, pm, an, cdv, ct, osl, rfl, lk, hcd, hD, hK⟩ := F.ex
  rcases hD with ⟨_, rfl⟩ | ⟨e, _⟩
  · refine ⟨fun us ws => us ++ ws, fun vs zs => vs ++ zs, ⟨fun s us ws X l1 l2 => .of_eq (h kV doc pm an cdv ct us ws l1 l2), fun r q => Vals.app r q⟩, fun μ H vs xs zs ws r q => ?_⟩
    show Rls _ μ H (vs ++ zs ++ []) (xs ++ ws)
    rw [List.append_nil]
    exact r.append q
  · exact absurd rfl e
theorem kba_dflt {n : Nat} {dA : List AV} (F : FunD K x qual params body scope [] kws f fd) (hk : kws ≠ []) (hn : n + kws.length = ps.length)
    (hd : ∀ μ H, Rls ⟨K, a0⟩ μ H dA (kws.map (·.2)))
    (h : ∀ (D : Addr) (doc pm : Value) (an : Option Addr) (cdv ct : Value) (us ks : List Value), us.length = n → ks.length = kws.length →
      KwChain D ((kws.map (·.1)).zip ks) (bindArgs (PySem.W.fnOf x qual params body scope .none (.ref D) doc pm an cdv ct) ⟨us, []⟩) (ps.zip (us ++ ks))) : KBA K a0 fd ps n [] (bindA dA) := by
  obtain ⟨ds, rd, B⟩ := F.binds0 n hk hn h
  refine ⟨fun us ws => us ++ ws ++ ds, fun vs zs => vs ++ zs ++ kws.map (·.2), ⟨fun s us ws X l1 l2 => ?_, fun r q => Vals.app (Vals.app r q) rd⟩, fun μ H vs xs zs ws r q => (r.append q).append (hd μ H)⟩
  have e : ws = [] := List.length_eq_zero_iff.mp l2
  subst e
  rw [List.append_nil]
  refine B s us X ?_
  rw [List.length_append, l1, ← rd.length, List.length_map]
  exact hn
end
/-! ### the compact texts -/
inductive CompL (L : LawP) : List DefP → List WC.FI → Prop where
  | nil : CompL L [] []
  | cons {D F ds T} : L.comp D = some F.body → F.n = D.ps.length → F.sz = D.N.length → CompL L ds T → CompL L (D :: ds) (F :: T)
theorem CompL.at {L : LawP} : ∀ {ds : List DefP} {T : List WC.FI} {i : Nat} {D : DefP}, CompL L ds T → ds[i]? = some D → ∃ F : WC.FI, T[i]? = some F ∧ F.n = D.ps.length ∧ F.sz = D.N.length ∧ L.comp D = some F.body
  | _, _, _, _, .nil, h => by simp at h
  | _, _, 0, _, .cons a b c _, h => by simp at h; subst h; exact ⟨_, rfl, b, c, a⟩
  | _, _, i + 1, D, .cons _ _ _ t, h => by
    obtain ⟨F, h1, h2⟩ := CompL.at (i := i) (D := D) t (by simpa using h)
    exact ⟨F, by simpa using h1, h2⟩
theorem CompL.ok {L : LawP} {T : List WC.FI} (h : CompL L L.defs T) : L.compOk T := fun i D hD => h.at hD
/-! ### what the head is asked -/
def toDv : AV → Option He.Dv
  | .non => some .non
  | .bl b => some (.bl b)
  | .int i => some (.int i)
  | .str x => some (.str x)
  | _ => none
def toDvs : List AV → Option (List He.Dv)
  | [] => some []
  | v :: r => (match toDv v, toDvs r with
    | some a, some b => some (a :: b)
    | _, _ => none)
def globF (p : PySem.Str × AV) : List He.Fa := match p.2 with
  | .int i => [.int p.1 i]
  | .str z => [.str p.1 z]
  | _ => [.glo p.1]
def LawP.facts (L : LawP) : List He.Fa :=
  L.fixs.map (fun p => .glo p.1) ++ L.cixs.flatMap (fun p => [.glo p.1, .mkr p.1]) ++ L.mths.flatMap (fun m => m.2.flatMap fun p => [.cls p.1, .meth p.1 m.1]) ++ L.nos.flatMap (fun p => .cls p.1 :: p.2.map fun f => .noat p.1 f) ++ L.frees.map .free ++ L.globs.flatMap globF
/-- a constant of the module that no fact tells -/
def globB (K : PySem.W.Frag) (p : PySem.Str × AV) : Bool := match p.2 with
  | .tup vs => (match toDvs vs with
    | some ds => He.tupB K p.1 ds
    | none => false)
  | _ => true
def tabB (K : PySem.W.Frag) (p : PySem.Str × List (PySem.Str × AV)) : Bool := p.2.all fun q => match toDv q.2, PySem.W.nsIn K (He.ga K p.1) q.1 with
  | some d, some (some u) => He.relB (d.v K) u
  | _, _ => false
def LawP.ex (L : LawP) (K : PySem.W.Frag) : Bool := L.globs.all (globB K) && L.tabs.all (tabB K)
def LawP.ts (L : LawP) : List He.Tab := L.tabs.map fun p => (fun K => He.ga K p.1, p.2.map (·.1))
def LawP.fn (L : LawP) : List He.DefD := L.defs.map (·.d)
/-- seen of L alone -/
def LawP.stat (L : LawP) : Bool :=
  (L.fixs.all fun p => decide ((L.defs[p.2]?).map (·.d.at_) = some (p.1, none))) && (L.cixs.all fun p => decide ((L.defs[p.2]?).map (·.d.at_) = some (p.1, some ("__init__" : PySem.Str)))) &&
    (L.mths.all fun m => m.2.all fun p => decide ((L.defs[p.2]?).map (·.d.at_) = some (p.1, some m.1))) && (L.globs.all fun p => match p.2 with
      | .int _ => true
      | .str _ => true
      | .tup vs => (toDvs vs).isSome
      | .glo x => decide (x = p.1)
      | _ => false)
theorem toDv_ok {K : PySem.W.Frag} {a0 : Addr} {v : AV} {d : He.Dv} (h : toDv v = some d) (μ : List Addr) (H : Hp) : Rl ⟨K, a0⟩ μ H v (d.v K) := by
  cases v <;> simp [toDv] at h <;> subst h
  · exact .non
  · exact .bl
  · exact .int
  · exact .str
theorem toDvs_ok {K : PySem.W.Frag} {a0 : Addr} : ∀ {vs : List AV} {ds : List He.Dv}, toDvs vs = some ds → ∀ (μ : List Addr) (H : Hp), Rls ⟨K, a0⟩ μ H vs (ds.map (He.Dv.v K))
  | [], ds, h, μ, H => by cases h; exact .nil
  | v :: r, ds, h, μ, H => by
    unfold toDvs at h
    split at h
    · rename_i a b h1 h2
      cases h
      exact .cons (toDv_ok h1 μ H) (toDvs_ok h2 μ H)
    · cases h
theorem lookup_mem {β : Type} {x : PySem.Str} {v : β} : ∀ {l : List (PySem.Str × β)}, l.lookup x = some v → (x, v) ∈ l
  | [], h => by cases h
  | (y, u) :: r, h => by
    rw [List.lookup_cons] at h
    split at h
    · rename_i q
      cases h
      have : x = y := by simpa using q
      subst this
      exact List.mem_cons_self
    · exact List.mem_cons_of_mem _ (lookup_mem h)
theorem opt_at {α β : Type} [DecidableEq β] {o : Option α} {g : α → β} {b : β} (h : decide (o.map g = some b) = true) : ∃ a, o = some a ∧ g a = b := by
  have := of_decide_eq_true h
  cases o with
  | none => cases this
  | some a => exact ⟨a, rfl, by simpa using this⟩
/-- the calls' shapes, def by def -/
def ShOk (L : LawP) (K : PySem.W.Frag) (a0 : Addr) (p : (Nat × Nat × List PySem.Str) × (Nat × List AV)) : Prop :=
  ∃ D : DefP, L.defs[p.1.1]? = some D ∧ p.2.1 = D.ps.length ∧ ∀ fd, FunD K D.d.name D.d.qual D.d.params D.d.body D.d.scope (D.d.dvs K) (D.d.kws K) (He.fAd K D.d.at_) fd → KBA K a0 fd D.ps p.1.2.1 p.1.2.2 (bindA p.2.2)
inductive All {α : Type} (Q : α → Prop) : List α → Prop where
  | nil : All Q []
  | cons {x l} : Q x → All Q l → All Q (x :: l)
theorem All.of_mem {α : Type} {Q : α → Prop} {x : α} : ∀ {l : List α}, All Q l → x ∈ l → Q x
  | _, .nil, h => by cases h
  | _, .cons a t, h => (List.mem_cons.mp h).elim (fun e => e ▸ a) fun h => All.of_mem t h
theorem lookup_mem' {α β : Type} [BEq α] [LawfulBEq α] {x : α} {v : β} : ∀ {l : List (α × β)}, l.lookup x = some v → (x, v) ∈ l
  | [], h => by cases h
  | (y, u) :: r, h => by
    rw [List.lookup_cons] at h
    split at h
    · rename_i q
      cases h
      have : x = y := by simpa using q
      subst this
      exact List.mem_cons_self
    · exact List.mem_cons_of_mem _ (lookup_mem' h)
theorem lawOk_of {L : LawP} {prog : Program} {w : World} {K : PySem.W.Frag} {h : Heap} {mg : PySem.Str → Option Value} {a0 : Addr} (X : K.In h) (G : h.Ns mainGlobals mg) (c : He.SaysX L.facts L.fn L.ts [] L.ex w h K) (st : L.stat = true)
    (sc : All (fun D : DefP => FnScope D.N D.ps D.d.scope) L.defs) (sh : All (ShOk L K a0) L.shapes) : LawOk L prog w K mg a0 := by
  have cd := c.t.d
  have fact : ∀ {f : He.Fa}, f ∈ L.facts → f.ok K = true := fun hf => cd.facts hf
  obtain ⟨exg, ext⟩ := He.ba c.more
  unfold LawP.stat at st
  rw [Bool.and_eq_true, Bool.and_eq_true, Bool.and_eq_true] at st
  obtain ⟨⟨⟨st1, st2⟩, st3⟩, st4⟩ := st
  have inF : ∀ {f : He.Fa}, (f ∈ L.fixs.map (fun p => He.Fa.glo p.1) ∨ f ∈ L.cixs.flatMap (fun p => [He.Fa.glo p.1, .mkr p.1]) ∨ f ∈ L.mths.flatMap (fun m => m.2.flatMap fun p => [He.Fa.cls p.1, .meth p.1 m.1]) ∨ f ∈ L.nos.flatMap (fun p => He.Fa.cls p.1 :: p.2.map fun f => .noat p.1 f) ∨ f ∈ L.frees.map He.Fa.free ∨ f ∈ L.globs.flatMap globF) → f ∈ L.facts := fun {f} hf => by
    unfold LawP.facts
    simp only [List.mem_append]
    rcases hf with h | h | h | h | h | h
    · exact .inl (.inl (.inl (.inl (.inl h))))
    · exact .inl (.inl (.inl (.inl (.inr h))))
    · exact .inl (.inl (.inl (.inr h)))
    · exact .inl (.inl (.inr h))
    · exact .inl (.inr h)
    · exact .inr h
  refine ⟨fun x v hx => ?_, fun x hx => ?_, fun x i hx => ?_, fun x i hx => ?_, fun m row x i hm hi => ?_, fun C f hf => ?_, fun x kvs hx => ?_, fun i D hD => ?_⟩
  · have hm := lookup_mem hx
    have hs := List.all_eq_true.mp st4 _ hm
    have hb := List.all_eq_true.mp exg _ hm
    have hg : ∀ f ∈ globF (x, v), f.ok K = true := fun f hf => fact (inF (.inr (.inr (.inr (.inr (.inr (List.mem_flatMap.mpr ⟨_, hm, hf⟩)))))))
    cases v with
    | int i =>
      obtain ⟨t, ht⟩ := He.int_ok X G (hg (.int x i) (by simp [globF]))
      exact ⟨_, .int i, ht, ⟨t, rfl⟩, fun _ _ => .int⟩
    | str z =>
      obtain ⟨t, ht⟩ := He.str_ok X G (hg (.str x z) (by simp [globF]))
      exact ⟨_, .str z, ht, ⟨t, rfl⟩, fun _ _ => .str⟩
    | tup vs =>
      have ht := He.glo_ok X G (hg (.glo x) (by simp [globF]))
      have hb' : (match toDvs vs with
        | some ds => He.tupB K x ds
        | none => false) = true := hb
      split at hb'
      · rename_i ds hd
        exact ⟨_, .ref (He.ga K x), ht, rfl, fun μ H => .tup (He.tupB_ok hb' H) (toDvs_ok hd μ H)⟩
      · cases hb'
    | glo y =>
      have e : y = x := of_decide_eq_true hs
      subst e
      exact ⟨_, .ref (He.ga K y), He.glo_ok X G (hg (.glo y) (by simp [globF])), rfl, fun _ _ => .glo⟩
    | _ => cases hs
  · refine He.free_ok X G (fact (inF (.inr (.inr (.inr (.inr (.inl (List.mem_map.mpr ⟨x, ?_, rfl⟩))))))))
    simpa using hx
  · have hm := lookup_mem hx
    obtain ⟨D, hD, e⟩ := opt_at (List.all_eq_true.mp st1 _ hm)
    have hg := He.glo_ok X G (fact (inF (.inl (List.mem_map.mpr ⟨_, hm, rfl⟩))))
    refine ⟨D, hD, ?_, hg⟩
    rw [e]
    exact hg
  · have hm := lookup_mem hx
    obtain ⟨D, hD, e⟩ := opt_at (List.all_eq_true.mp st2 _ hm)
    refine ⟨D, hD, He.glo_ok X G (fact (inF (.inr (.inl (List.mem_flatMap.mpr ⟨_, hm, by simp⟩))))), ?_⟩
    rw [e]
    exact He.mkr_ok (fact (inF (.inr (.inl (List.mem_flatMap.mpr ⟨_, hm, by simp⟩)))))
  · have hm' := lookup_mem hm
    obtain ⟨D, hD, e⟩ := opt_at (List.all_eq_true.mp (List.all_eq_true.mp st3 _ hm') _ hi)
    have inM : ∀ f ∈ [He.Fa.cls x, .meth x m], f.ok K = true := fun f hf => fact (inF (.inr (.inr (.inl (List.mem_flatMap.mpr ⟨_, hm', List.mem_flatMap.mpr ⟨_, hi, hf⟩⟩)))))
    refine ⟨D, hD, He.cls_ok (inM _ (by simp)), ?_⟩
    rw [e]
    exact He.meth_ok (inM _ (by simp))
  · unfold LawP.no at hf
    split at hf
    · rename_i fs hl
      have hm := lookup_mem hl
      have inN : ∀ g ∈ He.Fa.cls C :: fs.map (fun f => He.Fa.noat C f), g.ok K = true := fun g hg => fact (inF (.inr (.inr (.inr (.inl (List.mem_flatMap.mpr ⟨_, hm, hg⟩))))))
      refine ⟨He.cls_ok (inN _ List.mem_cons_self), He.noat_ok (inN _ (List.mem_cons_of_mem _ (List.mem_map.mpr ⟨f, by simpa using hf, rfl⟩)))⟩
    · cases hf
  · have hm := lookup_mem (show L.tabs.lookup x = some kvs from hx)
    obtain ⟨j, hj, ej⟩ := List.mem_iff_getElem.mp hm
    have hts : L.ts[j]? = some (fun K => He.ga K x, kvs.map (·.1)) := by
      unfold LawP.ts
      rw [List.getElem?_map, List.getElem?_eq_getElem hj, ej]
      rfl
    obtain ⟨es, n, D⟩ := c.t.tab j hts
    refine ⟨es, n, D, fun k v hk => ?_⟩
    have hq := List.all_eq_true.mp (List.all_eq_true.mp ext _ hm) _ (lookup_mem hk)
    have hq' : (match toDv v, PySem.W.nsIn K (He.ga K x) k with
      | some d, some (some u) => He.relB (d.v K) u
      | _, _ => false) = true := hq
    split at hq'
    · rename_i d u hd hu
      exact ⟨u, d.v K, hu, He.relB_ok hq', toDv_ok hd⟩
    · cases hq'
  · have hmem : D ∈ L.defs := List.mem_of_getElem? hD
    obtain ⟨fd, F⟩ := cd.defs (d := D.d) (List.mem_map.mpr ⟨D, hmem, rfl⟩)
    refine ⟨fd, F, sc.of_mem hmem, fun m ks n d hsh => ?_⟩
    obtain ⟨D', hD', hn, hk⟩ := sh.of_mem (lookup_mem' hsh)
    have hD'' : L.defs[i]? = some D' := hD'
    rw [hD] at hD''
    cases hD''
    exact ⟨hn, hk fd F⟩
/-! ### the end -/
def resT (r : Ex AV) : Bool := match r with
  | .ok (.bl b) _ => b
  | _ => false
theorem resT_post {W : Wd} {μ H} {r : Ex AV} (h : resT r = true) : Post W μ H r (fun v _ => v = .bl true) := by
  unfold resT at h
  split at h
  · subst h
    intro μ' H' x e R r
    cases r
    rfl
  · cases h
theorem only_scr {K : PySem.W.Frag} {H : Hp} {a : Addr} {ns : List Int} (hO : Only H) (hS : SqL K H a (ns.map V.int)) : Scr ⟨K, a⟩ H ns := by
  rcases hS with h | ⟨o, its, n, h1, h2, h3, h4, h5, h6⟩
  · rcases h with h | ⟨o, h⟩
    · rcases hO a with z | ⟨o, xs, z⟩
      · rw [h] at z; cases z
      · rw [h] at z; cases z
    · exact .inl ⟨o, h⟩
  · exact .inr ⟨o, its, n, h1, h2, h3, h4, h5, h6⟩
theorem start_hr {K : PySem.W.Frag} {H : Hp} {a : Addr} {ns : List Int} (h : Scr ⟨K, a⟩ H ns) : HR ⟨K, a⟩ [] ⟨0, .nil, ns⟩ H :=
  ⟨rfl, fun n hn => absurd hn (Nat.not_lt_zero n), List.nodup_nil, fun n ao e => (by cases e), h⟩
theorem law_F {P : Program} {L : LawP} {T : List WC.FI} {k i : Nat} {D : DefP} {x name : PySem.Str} {nsz : Nat} {w : World} {mg : PySem.Str → Option Value} {fa : Addr} {h : Heap} (hT : CompL L L.defs T) (st : L.stat = true) (sc : All (fun D : DefP => FnScope D.N D.ps D.d.scope) L.defs)
    (sh : ∀ K a0, All (ShOk L K a0) L.shapes) (hD : L.defs[i]? = some D) (hps : D.ps = [x]) (hat : D.d.at_ = (name, none)) (hfix : L.fixs.lookup name = some i)
    (hb : ∀ K fd, FunD K D.d.name D.d.qual D.d.params D.d.body D.d.scope (D.d.dvs K) (D.d.kws K) (He.fAd K D.d.at_) fd → ∀ (s : Shared) (u : Value), BindsTo s fd ⟨[u], []⟩ [(x, u)])
    (run : ∀ ns : List Int, ns.length ≤ nsz → resT (((L.prog T).two k).1 i [.scr] ⟨0, .nil, ns⟩) = true)
    (Y : ∃ K : PySem.W.Frag, K.In h ∧ He.SaysX L.facts L.fn L.ts [] L.ex w h K) (G : h.Ns mainGlobals mg) (hmg : mg name = some (.ref fa)) :
    ∃ (K : PySem.W.Frag) (fd : FuncData) (sp : Sp), K.In h ∧ (∀ (s : Shared) (u : Value), BindsTo s fd ⟨[u], []⟩ [(x, u)]) ∧
        (∀ (H : Hp) (a : Addr) (ns : List Int), ns.length ≤ nsz → Only H → SqL K H a (ns.map V.int) → sp [.ref a] H (fun v _ => v = .bl true) fun _ _ _ => False) ∧
        ∀ base : Heap, K.In base → base.Ns mainGlobals mg → FnG P w K mg base CX0 (k + 1) fa fd [x] sp := by
  obtain ⟨K, KX, c⟩ := Y
  have O : ∀ a0, LawOk L P w K mg a0 := fun a0 => lawOk_of KX G c st sc (sh K a0)
  obtain ⟨fd, F, S, hs⟩ := (O 0).defs i D hD
  obtain ⟨D', hD', hm, _⟩ := (O 0).fix name i hfix
  rw [hD] at hD'
  cases hD'
  have e : He.fAd K D.d.at_ = fa := by
    rw [hmg] at hm
    cases hm; rfl
  subst e
  refine ⟨K, fd, fun vs H Q E => ∃ a0, SPof ⟨K, a0⟩ 1 (((L.prog T).two k).1 i) vs H Q E, KX, hb K fd F, fun H a ns hl hO hS => ?_, fun base hK hB => ?_⟩
  · exact ⟨a, [], [.scr], ⟨0, .nil, ns⟩, rfl, start_hr (only_scr hO hS), .cons .scr .nil, resT_post (run ns hl)⟩
  · have A : ∀ a0, FnG P w K mg base CX0 (k + 1) (He.fAd K D.d.at_) fd D.ps (SPof ⟨K, a0⟩ D.ps.length (((L.prog T).two k).1 i)) := fun a0 => (defAt_all (O a0) hT.ok k).1 i D fd hD F S
    rw [hps] at A
    exact ⟨fun vs H Q E ⟨a0, h⟩ => (A a0).len vs H Q E h, fun AA outer s H args us vs Q E hr e0 hbd r ⟨a0, h⟩ => (A a0).run AA outer s H args us vs Q E hr e0 hbd r h⟩
end WC
/-! W27: the defs as plain functions, without the compact text -/
namespace WC
open PySem PySem.Spec PyProof.Rows L2
/-! ### short names of what a text becomes -/
def kC (v : AV) : AE := fun _ h => .ok v h
def kT (l : AL) : AE := fun s h => (l s h).bind mkTup
def kL (l : AL) : AE := fun s h => (l s h).bind mkLst
def kF (no : Str → Str → Bool) (f : AE) (name : Str) : AE := fun s h => (f s h).bind (aFld name no)
def kBc (b : AC) (l : AL) : AE := fun s h => (l s h).bind b
def kDn : AE := fun _ h => .ok (.ref h.n) (h.push (.dct []))
def kX : AE := fun _ _ => .stuck
def kB (f : AE) : AT := fun s h => asB (f s h)
def kTr (f : AE) : AT := fun s h => asT (f s h)
def kIt (g : List AV → AH → Ex AI) (l : AL) : AEnv → AH → Ex AI := fun s h => (l s h).bind g
def kE (f : AE) : AS := fun s h => (f s h).bind fun _ h1 => .ok (.nx s) h1
def kR (f : AE) : AS := fun s h => (f s h).bind fun v h1 => .ok (.rt v) h1
def kRN : AS := fun _ h => .ok (.rt .non) h
def kP : AS := fun s h => .ok (.nx s) h
def kBr : AS := fun s h => .ok (.bk s) h
def kCo : AS := fun s h => .ok (.ct s) h
def kNo : AS := fun _ _ => .stuck
def kNil : AL := fun _ h => .ok [] h
def kTrue : AT := fun _ h => .ok true h
def kNone : AP := fun _ h => .ok none h
def kPk (x : AE) : AEnv → AH → Option Nat := fun s h => match x s h with
  | .ok (.ref n) _ => some n
  | _ => none
def kPn : AEnv → AH → Option Nat := fun _ _ => none
/-- a def's frame ahead of its body -/
def kEnv (sz : Nat) (as : List AV) : AEnv := as.map some ++ List.replicate (sz - as.length) none
def kCall (f : AS) (sz : Nat) (as : List AV) (h : AH) : Ex AV := asCall (f (kEnv sz as) h)
abbrev FB : Type := (Nat → AC) → (Nat → AC) → Nat → AC
def gOf (n : Nat) (g : FB) : FB := fun gc gm i as h => match Nat.blt i n with
  | true => g gc gm i as h
  | false => .stuck
def twoG (G : FB) : Nat → (Nat → AC) × (Nat → AC)
  | 0 => (fun _ _ _ => .stuck, fun _ _ _ => .stuck)
  | k + 1 => (G (twoG G k).1 (twoG G k).2, (twoG G k).1)
theorem two_eq {P : Prog} {G : FB} (h : ∀ gc gm i as ah, P.body gc gm i as ah = G gc gm i as ah) : ∀ k, P.two k = twoG G k
  | 0 => rfl
  | k + 1 => by
    show (P.body (P.two k).1 (P.two k).2, (P.two k).1) = (G (twoG G k).1 (twoG G k).2, (twoG G k).1)
    rw [two_eq h k]
    exact Prod.ext (funext fun i => funext fun as => funext fun ah => h _ _ i as ah) rfl
abbrev RX (P : Prog) (gc gm : Nat → AC) : Rn := runX ⟨gc, gm, P.no, P.tab, limN⟩ DX
abbrev RSs (P : Prog) (gc gm : Nat → AC) (b : List IS) : AS := runSs (runS ⟨gc, gm, P.no, P.tab, limN⟩ (RX P gc gm) DX) b
theorem body_at {P : Prog} {gc gm : Nat → AC} {i : Nat} {as : List AV} {h : AH} {F : FI} {f : AS} (h1 : P.fns[i]? = some F) (h2 : RSs P gc gm F.body = f) : P.body gc gm i as h = kCall f F.sz as h := by
  unfold Prog.body
  rw [h1]
  show asCall (RSs P gc gm F.body (as.map some ++ List.replicate (F.sz - as.length) none) h) = _
  rw [h2]
  rfl
/-- each def's function -/
structure BodyIs (P : Prog) (g : FB) (i : Nat) : Prop where
  eq : ∀ gc gm as h, P.body gc gm i as h = g gc gm i as h
theorem upto_0 {Q : Nat → Prop} : ∀ i, i < 0 → Q i := fun i h => absurd h (Nat.not_lt_zero i)
theorem upto_s {Q : Nat → Prop} {n : Nat} (a : ∀ i, i < n → Q i) (b : Q n) : ∀ i, i < n + 1 → Q i := fun i h => (Nat.lt_or_eq_of_le (Nat.le_of_lt_succ h)).elim (a i) fun e => e ▸ b
theorem body_all {P : Prog} {g : FB} {n : Nat} (hn : P.fns.length = n) (h : ∀ i, i < n → BodyIs P g i) (gc gm : Nat → AC) (i : Nat) (as : List AV) (ah : AH) : P.body gc gm i as ah = gOf n g gc gm i as ah := by
  unfold gOf
  cases q : Nat.blt i n with
  | true => exact (h i (Nat.le_of_ble_eq_true q)).eq gc gm as ah
  | false =>
    have hi : ¬ i < n := fun z => by
      have := Nat.ble_eq_true_of_le z
      rw [show Nat.blt i n = Nat.ble (i + 1) n from rfl, this] at q
      cases q
    unfold Prog.body
    rw [List.getElem?_eq_none (by omega)]
theorem law_G {P : Program} {L : LawP} {T : List WC.FI} {G : FB} {k i : Nat} {D : DefP} {x name : PySem.Str} {nsz : Nat} {w : World} {mg : PySem.Str → Option Value} {fa : Addr} {h : Heap} (hT : CompL L L.defs T) (st : L.stat = true) (sc : All (fun D : DefP => FnScope D.N D.ps D.d.scope) L.defs)
    (sh : ∀ K a0, All (ShOk L K a0) L.shapes) (hD : L.defs[i]? = some D) (hps : D.ps = [x]) (hat : D.d.at_ = (name, none)) (hfix : L.fixs.lookup name = some i)
    (hb : ∀ K fd, FunD K D.d.name D.d.qual D.d.params D.d.body D.d.scope (D.d.dvs K) (D.d.kws K) (He.fAd K D.d.at_) fd → ∀ (s : Shared) (u : Value), BindsTo s fd ⟨[u], []⟩ [(x, u)])
    (hG : ∀ gc gm i as ah, (L.prog T).body gc gm i as ah = G gc gm i as ah)
    (run : ∀ ns : List Int, ns.length ≤ nsz → resT ((twoG G k).1 i [.scr] ⟨0, .nil, ns⟩) = true)
    (Y : ∃ K : PySem.W.Frag, K.In h ∧ He.SaysX L.facts L.fn L.ts [] L.ex w h K) (Gn : h.Ns mainGlobals mg) (hmg : mg name = some (.ref fa)) :
    ∃ (K : PySem.W.Frag) (fd : FuncData) (sp : Sp), K.In h ∧ (∀ (s : Shared) (u : Value), BindsTo s fd ⟨[u], []⟩ [(x, u)]) ∧
        (∀ (H : Hp) (a : Addr) (ns : List Int), ns.length ≤ nsz → Only H → SqL K H a (ns.map V.int) → sp [.ref a] H (fun v _ => v = .bl true) fun _ _ _ => False) ∧
        ∀ base : Heap, K.In base → base.Ns mainGlobals mg → FnG P w K mg base CX0 (k + 1) fa fd [x] sp :=
  law_F hT st sc sh hD hps hat hfix hb (fun ns hn => by rw [two_eq hG]; exact run ns hn) Y Gn hmg
end WC
/-! WH: the head in a few kernel runs over written states -/
namespace WC
open PySem PySem.W PySem.Calls PyProof.Rows HandSHeadRun
section
variable (st : SharedT → Thread → Option (SharedT × Thread)) (n0 : Nat) (ann : Option Value)
/-- some statements of the top, to their end -/
def goS : Nat → SharedT → Thread → Option (Flow × SharedT × Code × Pos)
  | 0, _, _ => none
  | m + 1, s, t => match endAt 1 t with
    | some f => some (f, s, t.code, t.pos)
    | none => match stepOk n0 ann t, st s t with
      | true, some (s', t') => frS s' fun z => goS m z t'
      | _, _ => none
/-- just so many steps of the top -/
def goG : Nat → SharedT → Thread → Option (SharedT × Thread)
  | 0, s, t => some (s, t)
  | m + 1, s, t => match through t, stepOk n0 ann t, st s t with
    | false, true, some (s', t') => frS s' fun z => goG m z t'
    | _, _, _ => none
end
theorem goS_ok {tb : String → Option Builtin} {p : Program} {w : World} {n0 : Nat} {ann : Option Value} : ∀ {m : Nat} {s s' : SharedT} {t : Thread} {f : Flow} {c : Code} {q : Pos},
    goS (PySem.W.stepT (denote tb) p w) n0 ann m s t = some (f, s', c, q) → segRun tb p w n0 ann 1 m s.abs t = some (f, s'.abs, c, q)
  | 0, _, _, _, _, _, _, h => by cases h
  | m + 1, s, s', t, f, c, q, h => by
    unfold goS at h
    unfold segRun
    cases he : endAt 1 t with
    | some x =>
      rw [he] at h
      cases h
      rfl
    | none =>
      rw [he] at h
      simp only at h ⊢
      split at h
      · rename_i z t' hk hs
        rw [frS_eq] at h
        rw [hk, stepT_spec hs]
        exact goS_ok h
      · cases h
theorem goG_ok {tb : String → Option Builtin} {p : Program} {w : World} {n0 : Nat} {ann : Option Value} : ∀ {m : Nat} {s s' : SharedT} {t t' : Thread},
    goG (PySem.W.stepT (denote tb) p w) n0 ann m s t = some (s', t') → topGo tb p w n0 ann m s.abs t = some (s'.abs, t')
  | 0, _, _, _, _, h => by cases h; rfl
  | m + 1, s, s', t, t', h => by
    unfold goG at h
    unfold topGo
    split at h
    · rename_i z u ht hk hs
      rw [frS_eq] at h
      rw [ht, hk, stepT_spec hs]
      exact goG_ok h
    · cases h
noncomputable abbrev stQ (p : Program) (w : World) : SharedT → Thread → Option (SharedT × Thread) := stepQ (denQ tabQ) p w
theorem stQ_eq (p : Program) (w : World) : PySem.W.stepT (denote treeTable) p w = stQ p w := by
  unfold stQ
  rw [stepQ_eq, denQ_eq, tabQ_eq]
/-- what is left of the top from the i-th statement on -/
def RestQ (p : Program) (w : World) (n0 : Nat) (ann : Option Value) (env : Env) (q : Pos) (r : Shared) (i N : Nat) (s : SharedT) (pos : Pos) : Prop :=
  topRun treeTable p w n0 ann N s.abs (restOf ((behindTheImports p).drop i) env (.body (behindTheImports p) env) pos [topFrame q]) = some r
section
variable {p : Program} {w : World} {n0 : Nat} {ann : Option Value} {env : Env} {q : Pos} {r : Shared}
/-- k statements from the i-th on -/
def sl (p : Program) (i k : Nat) : List Stmt := ((behindTheImports p).drop i).take k
theorem rest_step {i k n N : Nat} {s s' : SharedT} {pos pos' : Pos}
    (h : goS (stQ p w) n0 ann n s (piecesOf (sl p i k) env (.body (behindTheImports p) env) pos [topFrame q]) = some (.next, s', .body (behindTheImports p) env, pos'))
    (K : RestQ p w n0 ann env q r (i + k) N s' pos') : RestQ p w n0 ann env q r i (n + N) s pos := by
  rw [← stQ_eq] at h
  have e : (behindTheImports p).drop i = sl p i k ++ (behindTheImports p).drop (i + k) := by
    unfold sl
    rw [← List.drop_drop]
    exact (List.take_append_drop k _).symm
  unfold RestQ at K ⊢
  rw [e]
  exact piece_app (goS_ok h) K
theorem rest_end {i n : Nat} {s s' : SharedT} {pos : Pos} (hi : (behindTheImports p).drop i = []) (h : goF (stQ p w) n0 ann n s ⟨doneF .next, .body (behindTheImports p) env, pos, [topFrame q]⟩ = some s') (hr : s'.abs = r) : RestQ p w n0 ann env q r i n s pos := by
  rw [← stQ_eq] at h
  unfold RestQ
  rw [hi]
  subst hr
  exact piece_nil (goF_ok h)
/-- from the boot to the first statement -/
theorem rest_start {n N : Nat} {t : PySem.W.BT} {s : SharedT} {os : OsState} {pos pos1 : Pos} (ht : putAll (boot_heap w.params).objs.toList .nil 0 = some (t, n0))
    (h : goG (stQ p w) n0 ann n ⟨t, n0, (boot_heap w.params).life, Array.mk [], boot_drawn, boot_toks, os⟩ (topStub p) = some (s, ⟨denQ tabQ (.body (behindTheImports p) env), .body (behindTheImports p) env, pos, [topFrame q]⟩))
    (hb : goS (stQ p w) n0 ann 1 s (blockOf (behindTheImports p) env (.body (behindTheImports p) env) pos [topFrame q]) = some (.next, s, .body (behindTheImports p) env, pos1))
    (K : RestQ p w n0 ann env q r 0 N s pos1) : topRun treeTable p w n0 ann (n + (1 + N)) ⟨boot_heap w.params, Array.mk [], boot_drawn, boot_toks, os⟩ (topStub p) = some r := by
  rw [← stQ_eq] at h hb
  rw [← denQ_eq, ← tabQ_eq] at h
  have g := goG_ok h
  have eh := putAll_heap ht
  have e0 : (⟨t, n0, (boot_heap w.params).life, Array.mk [], boot_drawn, boot_toks, os⟩ : SharedT).abs = ⟨boot_heap w.params, Array.mk [], boot_drawn, boot_toks, os⟩ := by
    show (⟨absHeap t n0 (boot_heap w.params).life, Array.mk [], boot_drawn, boot_toks, os⟩ : Shared) = _
    rw [eh]
  rw [e0] at g
  refine go_top g (piece_block (goS_ok hb) ?_)
  exact K
end
/-- the head: the state behind the top, what is looked at there -/
theorem left_of {p q : Program} {loose : List Str} {Xt : Shared → Bool} {α : Type} {Yf : Shared → α} {Ya : World → α} {M n0 n1 k1 : Nat} {ann : Option Value} {T1 : Params → PySem.W.BT} {life : Life} {d1 : Drawn}
    (e : opening p = plainProg p.main.scope.names) (f : ∀ s, fenceModules? p s = some s)
    (size : ∀ w : World, ((boot_heap w.params).isNs mainGlobals && (Array.mk [] : Array GenState).size == 0, (boot_heap w.params).objs.size, (boot_heap w.params).nsMap mainGlobals "__annotations__") = (true, n0, ann))
    (run : ∀ (w : World) (os : OsState), topRun treeTable p w n0 ann M ⟨boot_heap w.params, Array.mk [], boot_drawn, boot_toks, os⟩ (topStub p) = some (SharedT.mk (T1 w.params) n1 life (Array.mk []) d1 k1 os).abs)
    (l1 : ∀ (w : World) (os : OsState), looksF p (boot_heap w.params) (SharedT.mk (T1 w.params) n1 life (Array.mk []) d1 k1 os).abs = true)
    (l2 : ∀ (w : World) (os : OsState), openSeen q loose (importedModules p.main.body) Xt true (SharedT.mk (T1 w.params) n1 life (Array.mk []) d1 k1 os).abs = openGood q loose)
    (l3 : ∀ (w : World) (os : OsState), Yf (SharedT.mk (T1 w.params) n1 life (Array.mk []) d1 k1 os).abs = Ya w) :
    LeftO p q loose Xt Yf Ya (M + 600) true :=
  LeftO.of_pieces (H₀ := boot_heap) (H₁ := fun P => absHeap (T1 P) n1 life) (gs₀ := Array.mk []) (gs₁ := Array.mk []) (d₀ := boot_drawn) (d₁ := d1) (k₀ := boot_toks) (k₁ := k1)
    (boot_open e (Nat.ble_eq_true_of_le (by omega)) f) size run (Nat.ble_eq_true_of_le (by omega)) fun w => funext fun os => Prod.ext (l1 w os) (Prod.ext (l2 w os) (l3 w os))
/-! ### a Hook over told addresses -/
def obsA (as : List Addr) (fa : List He.Fa) (fn : List He.DefD) (ts : List He.Tab) (ex : Frag → Bool) (g : Addr → Option Obj) : He.AlX := (He.obsT fa fn ts (He.frT g as), ex (He.frT g as))
def hkA (as : List Addr) (fa : List He.Fa) (fn : List He.DefD) (ts : List He.Tab) (ex : Frag → Bool) : Hook where
  α := He.AlX
  obs := fun s => obsA as fa fn ts ex s.heap.get?
  val := fun w => (He.valT fn ts w, true)
  says := fun w h => ∃ K : Frag, K.In h ∧ He.SaysX fa fn ts [] ex w h K
  of := fun w s e => ⟨He.frT s.heap.get? as, He.frT_in, congrArg (fun z : He.AlX => z.1) e, congrArg (fun z : He.AlX => z.2) e, fun p hp => (by cases hp), fun p hp => (by cases hp), fun p hp => (by cases hp)⟩
  keeps := fun w h h' ⟨K, hK, c⟩ k => ⟨K, Frag.In.keeps hK k, c.t, c.more, c.hd, c.out, fun p hp => k _ _ (c.empty p hp)⟩
theorem obsA_eq {as : List Addr} {fa : List He.Fa} {fn : List He.DefD} {ts : List He.Tab} {ex : Frag → Bool} {s : SharedT} : obsA as fa fn ts ex (getT s) = (hkA as fa fn ts ex).obs s.abs := by
  have e : getT s = s.abs.heap.get? := funext fun a => getT_eq s a
  rw [e]
  rfl
end WC
/-! W30: plain runs, step by step, with open values -/
namespace WC
open PySem PySem.Spec PyProof.Rows L2
theorem nr {α : Sort _} {a b : α} (h : a = b) : a = b := h
/-! ### what a run gives -/
def wpE {α : Type} (r : Ex α) (Q : α → AH → Prop) : Prop := ∃ a h, r = .ok a h ∧ Q a h
section
variable {α β γ : Type}
theorem wpE_ok {a : α} {h : AH} {Q : α → AH → Prop} : wpE (.ok a h) Q ↔ Q a h := ⟨fun ⟨_, _, e, q⟩ => by cases e; exact q, fun q => ⟨_, _, rfl, q⟩⟩
theorem wpE_stuck {Q : α → AH → Prop} : wpE (.stuck : Ex α) Q ↔ False := ⟨fun ⟨_, _, e, _⟩ => (by cases e), False.elim⟩
theorem wpE_bind {r : Ex α} {k : α → AH → Ex β} {Q : β → AH → Prop} : wpE (r.bind k) Q ↔ wpE r fun a h => wpE (k a h) Q := by
  cases r with
  | ok a h => exact ⟨fun h => ⟨_, _, rfl, h⟩, fun ⟨_, _, e, q⟩ => by cases e; exact q⟩
  | stuck => exact ⟨fun ⟨_, _, e, _⟩ => (by cases e), fun ⟨_, _, e, _⟩ => (by cases e)⟩
theorem wpE.mono {r : Ex α} {Q Q' : α → AH → Prop} (p : wpE r Q) (h : ∀ a h, Q a h → Q' a h) : wpE r Q' := let ⟨a, b, e, q⟩ := p; ⟨a, b, e, h _ _ q⟩
/-- a call, then the rest -/
theorem wpE.call {r : Ex α} {k : α → AH → Ex β} {P : α → AH → Prop} {Q : β → AH → Prop} (p : wpE r P) (h : ∀ a h, P a h → wpE (k a h) Q) : wpE (r.bind k) Q := wpE_bind.mpr (p.mono h)
theorem wb_ok (a : α) (h : AH) (k : α → AH → Ex β) : (Ex.ok a h).bind k = k a h := nr rfl
theorem wb_stuck (k : α → AH → Ex β) : (Ex.stuck : Ex α).bind k = .stuck := nr rfl
theorem wb_assoc (r : Ex α) (k : α → AH → Ex β) (l : β → AH → Ex γ) : (r.bind k).bind l = r.bind fun a h => (k a h).bind l := by cases r <;> rfl
theorem wb_ite {c : Prop} [Decidable c] (x y : Ex α) (k : α → AH → Ex β) : (if c then x else y).bind k = if c then x.bind k else y.bind k := by split <;> rfl
end
/-! ### new objects lie behind the old ones -/
structure Gro (h h' : AH) : Prop where
  le : h.n ≤ h'.n
  scr : h'.scr = h.scr
  get : ∀ i, i < h.n → h'.get i = h.get i
theorem Gro.refl (h : AH) : Gro h h := ⟨Nat.le_refl _, rfl, fun _ _ => rfl⟩
theorem Gro.trans {a b c : AH} (x : Gro a b) (y : Gro b c) : Gro a c := ⟨Nat.le_trans x.le y.le, y.scr.trans x.scr, fun i hi => (y.get i (Nat.lt_of_lt_of_le hi x.le)).trans (x.get i hi)⟩
theorem Gro.push (h : AH) (o : AO) : Gro h (h.push o) := ⟨Nat.le_succ _, rfl, fun i hi => by rw [AH.get_push, if_neg (Nat.ne_of_lt hi)]⟩
theorem Gro.set {h h' : AH} (g : Gro h h') {d : Nat} (hd : h.n ≤ d) (o : AO) : Gro h (h'.set d o) := ⟨g.le, g.scr, fun i hi => by rw [AH.get_set, if_neg (by omega)]; exact g.get i hi⟩
theorem Gro.pushs {h h' : AH} (g : Gro h h') (o : AO) : Gro h (h'.push o) := g.trans (Gro.push _ _)
theorem get_push_self (h : AH) (o : AO) : (h.push o).get h.n = some o := by rw [AH.get_push, if_pos rfl]
theorem get_set_self (h : AH) (d : Nat) (o : AO) : (h.set d o).get d = some o := by rw [AH.get_set, if_pos rfl]
theorem set_n (h : AH) (d : Nat) (o : AO) : (h.set d o).n = h.n := nr rfl
theorem push_n (h : AH) (o : AO) : (h.push o).n = h.n + 1 := nr rfl
theorem set_scr (h : AH) (d : Nat) (o : AO) : (h.set d o).scr = h.scr := nr rfl
theorem push_scr (h : AH) (o : AO) : (h.push o).scr = h.scr := nr rfl
/-! ### the steps, as equations -/
section
variable {s : AEnv} {h : AH}
theorem w_aSeq (f g : AS) : aSeq f g s h = (f s h).bind fun fl h1 => match fl with
  | .nx s1 => g s1 h1
  | .bk s1 => .ok (.bk s1) h1
  | .ct s1 => .ok (.ct s1) h1
  | .rt v => .ok (.rt v) h1 := nr rfl
theorem w_kP : kP s h = .ok (.nx s) h := nr rfl
theorem w_kE (f : AE) : kE f s h = (f s h).bind fun _ h1 => .ok (.nx s) h1 := nr rfl
theorem w_kR (f : AE) : kR f s h = (f s h).bind fun v h1 => .ok (.rt v) h1 := nr rfl
theorem w_kRN : kRN s h = .ok (.rt .non) h := nr rfl
theorem w_kBr : kBr s h = .ok (.bk s) h := nr rfl
theorem w_kCo : kCo s h = .ok (.ct s) h := nr rfl
theorem w_aIfS (c : AT) (f g : AS) : aIfS c f g s h = (c s h).bind fun b h1 => if b = true then f s h1 else g s h1 := nr rfl
theorem w_aAsg (f : AE) (g : AG) : aAsg f g s h = (f s h).bind fun v h1 => (g v s h1).bind fun s1 h2 => .ok (.nx s1) h2 := nr rfl
theorem w_gaName (i : Nat) (v : AV) : gaName i v s h = .ok (s.set i (some v)) h := nr rfl
theorem w_aVar (i : Nat) (v : AV) (e : s[i]? = some (some v)) : aVar i s h = .ok v h := by unfold aVar; rw [e]
theorem w_kC (v : AV) : kC v s h = .ok v h := nr rfl
theorem w_kNil : kNil s h = .ok [] h := nr rfl
theorem w_aCons (f : AE) (g : AL) : aCons f g s h = (f s h).bind fun a h1 => (g s h1).bind fun as h2 => .ok (a :: as) h2 := nr rfl
theorem w_kT (l : AL) : kT l s h = (l s h).bind mkTup := nr rfl
theorem w_kL (l : AL) : kL l s h = (l s h).bind mkLst := nr rfl
theorem w_kBc (b : AC) (l : AL) : kBc b l s h = (l s h).bind b := nr rfl
theorem w_kF (no : Str → Str → Bool) (f : AE) (n : Str) : kF no f n s h = (f s h).bind (aFld n no) := nr rfl
theorem w_kTr (f : AE) : kTr f s h = asT (f s h) := nr rfl
theorem w_kB (f : AE) : kB f s h = asB (f s h) := nr rfl
theorem w_kTrue : kTrue s h = .ok true h := nr rfl
theorem w_aBin (f f' : AE) (g : AO2) : aBin f f' g s h = (f s h).bind fun a h1 => (f' s h1).bind fun b h2 => g a b h2 := nr rfl
theorem w_aAndV (f g : AE) : aAndV f g s h = (f s h).bind fun v h1 => match v with
  | .bl true => g s h1
  | .bl false => .ok (.bl false) h1
  | _ => .stuck := nr rfl
theorem w_aOrV (f g : AE) : aOrV f g s h = (f s h).bind fun v h1 => match v with
  | .bl true => .ok (.bl true) h1
  | .bl false => g s h1
  | _ => .stuck := nr rfl
theorem w_aNotV (f : AE) : aNotV f s h = (asB (f s h)).bind fun b h1 => .ok (.bl (!b)) h1 := nr rfl
theorem w_aAndT (f g : AT) : aAndT f g s h = (f s h).bind fun b h1 => if b = true then g s h1 else .ok false h1 := nr rfl
theorem w_aOrT (f g : AT) : aOrT f g s h = (f s h).bind fun b h1 => if b = true then .ok true h1 else g s h1 := nr rfl
theorem w_aNotT (f : AT) : aNotT f s h = (f s h).bind fun b h1 => .ok (!b) h1 := nr rfl
theorem w_aIfE (c : AT) (f g : AE) : aIfE c f g s h = (c s h).bind fun b h1 => if b = true then f s h1 else g s h1 := nr rfl
theorem w_aIfT (c f g : AT) : aIfT c f g s h = (c s h).bind fun b h1 => if b = true then f s h1 else g s h1 := nr rfl
theorem w_aChain (f1 f2 f3 : AE) (g g' : AO2) : aChain f1 f2 f3 g g' s h = (f1 s h).bind fun a h1 => (f2 s h1).bind fun b h2 => (asB (g a b h2)).bind fun k h3 => if k = true then (f3 s h3).bind fun c h4 => g' b c h4 else .ok (.bl false) h3 := nr rfl
theorem w_aLockE_n (f : AE) : aLockE kPn f s h = f s h := nr rfl
theorem w_aLockS_n (f : AS) : aLockS kPn f s h = f s h := nr rfl
theorem w_aCallG (n m : Nat) (ks : List Str) (gA : List AV → List AV → List AV) (g : AC) (fa fk : AL) : aCallG n m ks gA g fa fk s h = (fa s h).bind fun as h1 => (fk s h1).bind fun zs h2 => aCallV n m ks gA g as zs h2 := nr rfl
theorem w_aCallV (n m : Nat) (ks : List Str) (d : List AV) (g : AC) (as zs : List AV) (h1 : as.length = m) (h2 : zs.length = ks.length) (h3 : (as ++ zs ++ d).length = n) : aCallV n m ks (bindA d) g as zs h = g (as ++ zs ++ d) h := by
  unfold aCallV bindA
  rw [if_pos h1, if_pos h2, if_pos h3]
theorem asT_bl (b : Bool) : asT (.ok (.bl b) h) = .ok b h := nr rfl
theorem asB_bl (b : Bool) : asB (.ok (.bl b) h) = .ok b h := nr rfl
theorem asT_bind {α : Type} (r : Ex α) (k : α → AH → Ex AV) : asT (r.bind k) = r.bind fun a h => asT (k a h) := by cases r <;> rfl
theorem asB_bind {α : Type} (r : Ex α) (k : α → AH → Ex AV) : asB (r.bind k) = r.bind fun a h => asB (k a h) := by cases r <;> rfl
theorem asT_ite {c : Prop} [Decidable c] (x y : Ex AV) : asT (if c then x else y) = if c then asT x else asT y := by split <;> rfl
theorem asB_ite {c : Prop} [Decidable c] (x y : Ex AV) : asB (if c then x else y) = if c then asB x else asB y := by split <;> rfl
theorem asCall_bind {α : Type} (r : Ex α) (k : α → AH → Ex Fl) : asCall (r.bind k) = r.bind fun a h => asCall (k a h) := by cases r <;> rfl
theorem asCall_rt (v : AV) : asCall (.ok (.rt v) h) = .ok v h := nr rfl
theorem asCall_nx : asCall (.ok (.nx s) h) = .ok .non h := nr rfl
theorem asCall_ite {c : Prop} [Decidable c] (x y : Ex Fl) : asCall (if c then x else y) = if c then asCall x else asCall y := by split <;> rfl
theorem w_mkTup (xs : List AV) (hl : xs.length ≤ 1000) : mkTup xs h = .ok (.tup xs) h := if_pos (Nat.le_trans hl (by rw [sizeLine_eq]; omega))
theorem w_mkTupR (xs : List AV) (hl : Nat.ble xs.length 1000 = true) : mkTup xs h = .ok (.tup xs) h := w_mkTup xs (Nat.le_of_ble_eq_true hl)
theorem w_mkLstR (xs : List AV) (hl : Nat.ble xs.length 1000 = true) : mkLst xs h = .ok (.ref h.n) (h.push (.lst xs)) := if_pos (Nat.le_trans (Nat.le_of_ble_eq_true hl) (by rw [sizeLine_eq]; omega))
theorem w_mkLst (xs : List AV) (hl : xs.length ≤ 1000) : mkLst xs h = .ok (.ref h.n) (h.push (.lst xs)) := if_pos (Nat.le_trans hl (by rw [sizeLine_eq]; omega))
end
/-! ### loops -/
/-- a for loop by what holds ahead of each turn -/
theorem forL_inv {J : AI} {xs : List AV} {g : AG} {body : AS} {Inv : Nat → AEnv → AH → Prop} {Q : Fl → AH → Prop} (next : ∀ i s h, Inv i s h → itNext J i h = some xs[i]?)
    (step : ∀ i x s h, xs[i]? = some x → Inv i s h → wpE (g x s h) fun s1 h1 => wpE (body s1 h1) fun fl h2 => match fl with
      | .nx s2 => Inv (i + 1) s2 h2
      | .ct s2 => Inv (i + 1) s2 h2
      | .bk s2 => Q (.nx s2) h2
      | .rt v => Q (.rt v) h2)
    (fin : ∀ s h, Inv xs.length s h → Q (.nx s) h) : ∀ (f i : Nat) (s : AEnv) (h : AH), i ≤ xs.length → xs.length - i < f → Inv i s h → wpE (forL J g body f i s h) Q
  | 0, i, s, h, _, hf, _ => absurd hf (Nat.not_lt_zero _)
  | f + 1, i, s, h, hi, hf, I => by
    unfold forL
    rw [next i s h I]
    cases q : xs[i]? with
    | none =>
      have : i = xs.length := by
        have := List.getElem?_eq_none_iff.mp q
        omega
      subst this
      exact wpE_ok.mpr (fin s h I)
    | some x =>
      have hlt := (List.getElem?_eq_some_iff.mp q).1
      refine wpE_bind.mpr ((step i x s h q I).mono fun s1 h1 p1 => wpE_bind.mpr (p1.mono fun fl h2 p2 => ?_))
      cases fl with
      | nx s2 => exact forL_inv next step fin f (i + 1) s2 h2 hlt (by omega) p2
      | ct s2 => exact forL_inv next step fin f (i + 1) s2 h2 hlt (by omega) p2
      | bk s2 => exact wpE_ok.mpr p2
      | rt v => exact wpE_ok.mpr p2
theorem for_inv {fi : AEnv → AH → Ex AI} {g : AG} {body : AS} {s : AEnv} {h h1 : AH} {J : AI} {xs : List AV} {Inv : Nat → AEnv → AH → Prop} {Q : Fl → AH → Prop} (hi : fi s h = .ok J h1) (hl : xs.length < 100000) (start : Inv 0 s h1)
    (next : ∀ i s h, Inv i s h → itNext J i h = some xs[i]?)
    (step : ∀ i x s h, xs[i]? = some x → Inv i s h → wpE (g x s h) fun s1 h1 => wpE (body s1 h1) fun fl h2 => match fl with
      | .nx s2 => Inv (i + 1) s2 h2
      | .ct s2 => Inv (i + 1) s2 h2
      | .bk s2 => Q (.nx s2) h2
      | .rt v => Q (.rt v) h2)
    (fin : ∀ s h, Inv xs.length s h → Q (.nx s) h) : wpE (aFor limN fi g body s h) Q := by
  unfold aFor
  rw [hi]
  exact forL_inv next step fin limN 0 s h1 (Nat.zero_le _) (by unfold limN; omega) start
/-- a list comprehension whose items do not look at the heap -/
theorem lcL_pure {J : AI} {xs : List AV} {g : AG} {t : AT} {el : AE} {s : AEnv} {h0 : AH} {d : Nat} {p : AV → Bool} {e : AV → AV} (hd : h0.n ≤ d) (hl : xs.length ≤ 1000) (next : ∀ i h', Gro h0 h' → itNext J i h' = some xs[i]?)
    (step : ∀ x h', x ∈ xs → Gro h0 h' → d < h'.n → wpE (g x s h') fun s1 h1 => Gro h' h1 ∧ wpE (t s1 h1) fun b h2 => b = p x ∧ Gro h1 h2 ∧ (b = true → wpE (el s1 h2) fun v h3 => v = e x ∧ Gro h2 h3)) :
    ∀ (f i : Nat) (h : AH) (acc : List AV), i ≤ xs.length → xs.length - i < f → Gro h0 h → d < h.n → acc.length ≤ i → h.get d = some (.lst acc) →
      wpE (lcL J g t el s d f i h) fun v h' => v = .ref d ∧ Gro h0 h' ∧ d < h'.n ∧ h'.get d = some (.lst (acc ++ ((xs.drop i).filter p).map e))
  | 0, i, h, acc, _, hf, _, _, _, _ => absurd hf (Nat.not_lt_zero _)
  | f + 1, i, h, acc, hi, hf, G, hdn, ha, hg => by
    unfold lcL
    rw [next i h G]
    cases q : xs[i]? with
    | none =>
      have : xs.drop i = [] := List.drop_eq_nil_iff.mpr (List.getElem?_eq_none_iff.mp q)
      rw [this]
      exact wpE_ok.mpr ⟨rfl, G, hdn, by simpa using hg⟩
    | some x =>
      obtain ⟨hlt, hx⟩ := List.getElem?_eq_some_iff.mp q
      have hdrop : xs.drop i = x :: xs.drop (i + 1) := by rw [List.drop_eq_getElem_cons hlt, hx]
      refine wpE_bind.mpr ((step x h (hx ▸ List.getElem_mem hlt) G hdn).mono fun s1 h1 ⟨g1, p1⟩ => wpE_bind.mpr (p1.mono fun b h2 ⟨hb, g2, p2⟩ => ?_))
      subst hb
      cases hp : p x with
      | false =>
        rw [hp] at p2
        rw [if_neg Bool.false_ne_true]
        have g02 := g1.trans g2
        have := lcL_pure hd hl next step f (i + 1) h2 acc hlt (by omega) (G.trans g02) (Nat.lt_of_lt_of_le hdn g02.le) (by omega) ((g02.get d hdn).trans hg)
        rw [hdrop, List.filter_cons, hp]
        simpa using this
      | true =>
        rw [hp] at p2
        rw [if_pos rfl]
        refine wpE_bind.mpr ((p2 rfl).mono fun v h3 ⟨hv, g3⟩ => ?_)
        subst hv
        have g03 := (g1.trans g2).trans g3
        have hg3 : h3.get d = some (.lst acc) := (g03.get d hdn).trans hg
        show wpE (match h3.get d with
          | some (.lst acc) => if acc.length < sizeLine then lcL J g t el s d f (i + 1) (h3.set d (.lst (acc ++ [e x]))) else .stuck
          | _ => .stuck) _
        rw [hg3]
        show wpE (if acc.length < sizeLine then lcL J g t el s d f (i + 1) (h3.set d (.lst (acc ++ [e x]))) else .stuck) _
        rw [if_pos (by rw [sizeLine_eq]; omega)]
        have := lcL_pure hd hl next step f (i + 1) (h3.set d (.lst (acc ++ [e x]))) (acc ++ [e x]) hlt (by omega) ((G.trans g03).set hd _) (Nat.lt_of_lt_of_le hdn g03.le) (by simp; omega) (get_set_self _ _ _)
        rw [hdrop, List.filter_cons, hp]
        simpa using this
theorem lc_pure {fi : AEnv → AH → Ex AI} {xs : List AV} {g : AG} {t : AT} {el : AE} {vs : List Nat} {s : AEnv} {h h1 : AH} {J : AI} {p : AV → Bool} {e : AV → AV} (hi : fi s h = .ok J h1) (G0 : Gro h h1) (hl : xs.length ≤ 1000) (next : ∀ i h', Gro h1 h' → itNext J i h' = some xs[i]?)
    (step : ∀ x h', x ∈ xs → Gro h1 h' → wpE (g x (wipeA s vs) h') fun s1 h1 => Gro h' h1 ∧ wpE (t s1 h1) fun b h2 => b = p x ∧ Gro h1 h2 ∧ (b = true → wpE (el s1 h2) fun v h3 => v = e x ∧ Gro h2 h3)) :
    wpE (aLc limN fi g t el vs s h) fun v h' => v = .ref h1.n ∧ Gro h h' ∧ h1.n < h'.n ∧ h'.get h1.n = some (.lst ((xs.filter p).map e)) := by
  unfold aLc
  rw [hi]
  refine (lcL_pure (h0 := h1) (p := p) (e := e) (Nat.le_refl _) hl next (fun x h' hx hg _ => step x h' hx hg) limN 0 (h1.push (.lst [])) [] (Nat.zero_le _) (by unfold limN; omega) (Gro.push _ _) (Nat.lt_succ_self _) (Nat.le_refl _) (get_push_self _ _)).mono fun v h' ⟨a, b, c, d⟩ => ⟨a, G0.trans b, c, ?_⟩
  simpa using d
end WC
/-! W31: the operations, as equations -/
namespace WC
open PySem PySem.Spec PyProof.Rows L2
section
variable {s : AEnv} {h : AH}
theorem w_var0 (v : AV) : aVar 0 (some v :: s) h = .ok v h := nr rfl
theorem w_varS (i : Nat) (x : Option AV) : aVar (i + 1) (x :: s) h = aVar i s h := nr rfl
theorem w_gt (i j : Int) : aGt (.int i) (.int j) h = .ok (.bl (decide (j < i))) h := nr rfl
theorem w_ge (i j : Int) : aGe (.int i) (.int j) h = .ok (.bl (decide (j ≤ i))) h := nr rfl
theorem w_lt (i j : Int) : aLt (.int i) (.int j) h = .ok (.bl (decide (i < j))) h := nr rfl
theorem w_le (i j : Int) : aLe (.int i) (.int j) h = .ok (.bl (decide (i ≤ j))) h := nr rfl
theorem w_addI (i j : Int) : aAdd (.int i) (.int j) h = .ok (.int (i + j)) h := nr rfl
theorem w_subI (i j : Int) : aSub (.int i) (.int j) h = .ok (.int (i - j)) h := nr rfl
theorem w_mulI (i j : Int) (hc : (-(2 ^ 64) < i ∧ i < 2 ^ 64) ∨ (-(2 ^ 64) < j ∧ j < 2 ^ 64)) : aMul (.int i) (.int j) h = .ok (.int (i * j)) h := by
  show (if ((decide (-(2 ^ 64) < i) && decide (i < 2 ^ 64)) || (decide (-(2 ^ 64) < j) && decide (j < 2 ^ 64))) = true then Ex.ok (AV.int (i * j)) h else Ex.stuck) = _
  rw [if_pos]
  simpa using hc
theorem w_modI (i j : Int) (hj : j ≠ 0) : aMod (.int i) (.int j) h = .ok (.int (i.fmod j)) h := by
  unfold aMod aInt cNz
  simp [hj]
theorem w_fdivI (i j : Int) (hj : j ≠ 0) (hb : j.natAbs < 1073741824) : aFdiv (.int i) (.int j) h = .ok (.int (i.fdiv j)) h := by
  unfold aFdiv aInt cDivN
  simp [hj, hb]
theorem w_powI (i j : Int) (h1 : 0 ≤ j) (h2 : j ≤ 1000) (h3 : i.natAbs < 2 ^ 512) : aPow (.int i) (.int j) h = .ok (.int (i ^ j.toNat)) h := by
  unfold aPow aInt cPowN
  simp only [h1, h2, h3, decide_true, Bool.and_self, if_true]
theorem w_isN (v : AV) : aIs v .non h = .ok (.bl (isN v)) h := nr rfl
theorem w_isNotN (v : AV) : aIsNot v .non h = .ok (.bl (!isN v)) h := nr rfl
theorem w_abs (i : Int) : bAbs [.int i] h = .ok (.int (if i < 0 then -i else i)) h := nr rfl
theorem w_maxI (i j : Int) : bMax [.int i, .int j] h = .ok (.int (if j > i then j else i)) h := nr rfl
theorem w_minI (i j : Int) : bMin [.int i, .int j] h = .ok (.int (if j < i then j else i)) h := nr rfl
theorem w_lenT (xs : List AV) : bLen [.tup xs] h = .ok (.int xs.length) h := nr rfl
theorem w_lenScr : bLen [.scr] h = .ok (.int h.scr.length) h := nr rfl
theorem w_lenL (n : Nat) (xs : List AV) (e : h.get n = some (.lst xs)) : bLen [.ref n] h = .ok (.int xs.length) h := by
  unfold bLen
  simp only [e]
theorem w_tupL (n : Nat) (xs : List AV) (e : h.get n = some (.lst xs)) : bTuple [.ref n] h = .ok (.tup xs) h := by
  unfold bTuple
  simp only [e]
theorem w_listT (xs : List AV) : bList [.tup xs] h = .ok (.ref h.n) (h.push (.lst xs)) := nr rfl
theorem w_listL (n : Nat) (xs : List AV) (e : h.get n = some (.lst xs)) : bList [.ref n] h = .ok (.ref h.n) (h.push (.lst xs)) := by
  unfold bList
  simp only [e]
/-! ### subscripts -/
theorem w_ixT (t : KTab) (xs : List AV) (i : Int) (v : AV) (e : atI xs i = some v) : ixK t aIx (.tup xs) (.int i) h = .ok v h := by
  unfold ixK aIx
  simp only [e]
theorem w_ixL (t : KTab) (n : Nat) (xs : List AV) (i : Int) (v : AV) (g : h.get n = some (.lst xs)) (e : atI xs i = some v) : ixK t aIx (.ref n) (.int i) h = .ok v h := by
  unfold ixK aIx
  simp only [g, e]
theorem w_ixD (t : KTab) (n : Nat) (kvs : List (Key × AV)) (k : Str) (v : AV) (g : h.get n = some (.dct kvs)) (e : valA kvs (.inr k) = some v) : ixK t aIx (.ref n) (.str k) h = .ok v h := by
  unfold ixK aIx
  simp only [g, toKey, e]
theorem w_ixG (t : KTab) (x k : Str) (kvs : List (Str × AV)) (v : AV) (g : t x = some kvs) (e : kvs.lookup k = some v) : ixK t aIx (.glo x) (.str k) h = .ok v h := by
  unfold ixK
  simp only [g, e]
theorem w_ixScr (t : KTab) (i : Int) (v : Int) (e : atI h.scr i = some v) : ixK t aIx .scr (.int i) h = .ok (.int v) h := by
  unfold ixK aIx
  simp only [e]
theorem w_gaSub (f g : AE) (v : AV) : gaSub f g v s h = (f s h).bind fun o h1 => (g s h1).bind fun i h2 => (aSetIx o i v h2).bind fun _ h3 => .ok s h3 := nr rfl
theorem w_setL (n : Nat) (xs : List AV) (k : Int) (j : Nat) (v : AV) (g : h.get n = some (.lst xs)) (e : ixN xs.length k = some j) : aSetIx (.ref n) (.int k) v h = .ok .non (h.set n (.lst (xs.set j v))) := by
  unfold aSetIx
  simp only [g, e]
theorem w_setD (n : Nat) (kvs : List (Key × AV)) (k : Str) (v : AV) (g : h.get n = some (.dct kvs)) (hl : kvs.length < 1000) : aSetIx (.ref n) (.str k) v h = .ok .non (h.set n (.dct (putA kvs (.inr k) v))) := by
  unfold aSetIx
  simp only [g, toKey]
  rw [if_pos (by rw [sizeLine_eq]; omega)]
/-! ### methods of lists -/
theorem w_aBM (f : AE) (t : AV → AH → Bool) (g : AL) (m : AM) : aBM f t g m s h = (f s h).bind fun v h1 => if t v h1 = true then (g s h1).bind fun as h2 => m v as h2 else .stuck := nr rfl
theorem w_isLst (n : Nat) (xs : List AV) (g : h.get n = some (.lst xs)) : isLst (.ref n) h = true := by
  unfold isLst
  simp only [g]
theorem w_append (n : Nat) (xs : List AV) (v : AV) (g : h.get n = some (.lst xs)) (hl : xs.length < 1000000) : mAppend (.ref n) [v] h = .ok .non (h.set n (.lst (xs ++ [v]))) := by
  unfold mAppend
  simp only [g]
  rw [if_pos (by rw [sizeLine_eq]; omega)]
theorem w_extL (n m : Nat) (xs ys : List AV) (g : h.get n = some (.lst xs)) (g2 : h.get m = some (.lst ys)) (hl : xs.length + ys.length ≤ 1000000) : mExtendA (.ref n) [.ref m] h = .ok .non (h.set n (.lst (xs ++ ys))) := by
  unfold mExtendA
  simp only [g, g2]
  rw [if_pos (by rw [sizeLine_eq]; omega)]
theorem w_extT (n : Nat) (xs ys : List AV) (g : h.get n = some (.lst xs)) (hl : xs.length + ys.length ≤ 1000000) : mExtendA (.ref n) [.tup ys] h = .ok .non (h.set n (.lst (xs ++ ys))) := by
  unfold mExtendA
  simp only [g]
  rw [if_pos (by rw [sizeLine_eq]; omega)]
/-! ### targets -/
theorem w_gaTup (n : Nat) (g : AGs) (xs : List AV) (hl : xs.length = n) : gaTup n g (.tup xs) s h = g xs s h := if_pos hl
theorem w_gaCons (f : AG) (g : AGs) (v : AV) (r : List AV) : gaCons f g (v :: r) s h = (f v s h).bind fun s1 h1 => g r s1 h1 := nr rfl
theorem w_gaNil : gaNil [] s h = .ok s h := nr rfl
theorem w_gaStarT (i after : Nat) (g : AGs) (xs : List AV) (hl : i + after ≤ xs.length) : gaStar i after g (.tup xs) s h = g (xs.take i ++ [.ref h.n] ++ xs.drop (xs.length - after)) s (h.push (.lst ((xs.drop i).take (xs.length - i - after)))) := if_pos hl
theorem w_aIter (f : AE) : aIter f s h = (f s h).bind fun v h1 => match toAI v h1 with
  | some J => .ok J h1
  | none => .stuck := nr rfl
theorem w_kIt (g : List AV → AH → Ex AI) (l : AL) : kIt g l s h = (l s h).bind g := nr rfl
theorem w_aIsiTup (xs : List AV) : bIsi [.tup xs, .ty "tuple"] h = .ok (.bl true) h := nr rfl
end
/-! ### == of flat values -/
theorem w_eqStr (x y : Str) (h : AH) : aEqX (.str x) (.str y) h = .ok (.bl (decide (x = y))) h := by
  show Ex.ok (AV.bl (sEq x y)) h = _
  rw [sEq_eq]
theorem w_neStr (x y : Str) (h : AH) : aNeX (.str x) (.str y) h = .ok (.bl (!decide (x = y))) h := by
  show Ex.ok (AV.bl (!sEq x y)) h = _
  rw [sEq_eq]
theorem w_eqInt (i j : Int) (h : AH) : aEqX (.int i) (.int j) h = .ok (.bl (decide (i = j))) h := nr rfl
theorem w_neInt (i j : Int) (h : AH) : aNeX (.int i) (.int j) h = .ok (.bl (!decide (i = j))) h := nr rfl
theorem w_eqBl (i j : Bool) (h : AH) : aEqX (.bl i) (.bl j) h = .ok (.bl (decide (i = j))) h := nr rfl
theorem w_neBl (i j : Bool) (h : AH) : aNeX (.bl i) (.bl j) h = .ok (.bl (!decide (i = j))) h := nr rfl
/-- letters written out -/
theorem str_lit (a b : List Nat) : ((⟨a.toArray⟩ : Str) = ⟨b.toArray⟩) ↔ a = b := by simp
theorem atI_0 {α : Type} (x : α) (r : List α) : atI (x :: r) 0 = some x := by
  unfold atI ixN
  rw [if_pos (Int.le_refl 0), if_pos (by simp)]
  rfl
theorem atI_nat {α : Type} (xs : List α) (i : Nat) : atI xs (i : Int) = xs[i]? := by
  unfold atI ixN
  by_cases h : i < xs.length
  · rw [if_pos (by omega), if_pos (by omega)]
    simp
  · rw [if_pos (by omega), if_neg (by omega)]
    simp [h]
theorem atI_pos {α : Type} (xs : List α) (i : Int) (h : 0 ≤ i) : atI xs i = xs[i.toNat]? := by
  obtain ⟨n, rfl⟩ := Int.eq_ofNat_of_zero_le h
  rw [atI_nat]
  rfl
theorem ixN_pos (n : Nat) (i : Int) (h : 0 ≤ i) (h2 : i < n) : ixN n i = some i.toNat := by
  unfold ixN
  rw [if_pos h, if_pos h2]
section
variable {h : AH}
theorem w_call0 (g : AC) : aCallV 0 0 [] (bindA []) g [] [] h = g [] h := nr rfl
theorem w_call1 (g : AC) (a : AV) : aCallV 1 1 [] (bindA []) g [a] [] h = g [a] h := nr rfl
theorem w_call2 (g : AC) (a b : AV) : aCallV 2 2 [] (bindA []) g [a, b] [] h = g [a, b] h := nr rfl
theorem w_call3 (g : AC) (a b c : AV) : aCallV 3 3 [] (bindA []) g [a, b, c] [] h = g [a, b, c] h := nr rfl
theorem w_call4 (g : AC) (a b c d : AV) : aCallV 4 4 [] (bindA []) g [a, b, c, d] [] h = g [a, b, c, d] h := nr rfl
theorem w_call5 (g : AC) (a b c d e : AV) : aCallV 5 5 [] (bindA []) g [a, b, c, d, e] [] h = g [a, b, c, d, e] h := nr rfl
theorem w_aiT (xs : List AV) : toAI (.tup xs) h = some (.tup xs) := nr rfl
theorem w_aiL (n : Nat) (xs : List AV) (g : h.get n = some (.lst xs)) : toAI (.ref n) h = some (.lst n) := by
  unfold toAI
  simp only [g]
end
end WC
/-! W32: changes at told places; typed programs -/
namespace WC
open PySem PySem.Spec PyProof.Rows L2
/-- only these objects have changed, new ones lie behind -/
structure Mod (M : List Nat) (h h' : AH) : Prop where
  le : h.n ≤ h'.n
  scr : h'.scr = h.scr
  get : ∀ i, i < h.n → i ∉ M → h'.get i = h.get i
theorem Mod.refl (M : List Nat) (h : AH) : Mod M h h := ⟨Nat.le_refl _, rfl, fun _ _ _ => rfl⟩
theorem Mod.trans {M : List Nat} {a b c : AH} (x : Mod M a b) (y : Mod M b c) : Mod M a c :=
  ⟨Nat.le_trans x.le y.le, y.scr.trans x.scr, fun i hi hm => (y.get i (Nat.lt_of_lt_of_le hi x.le) hm).trans (x.get i hi hm)⟩
theorem Mod.mono {M N : List Nat} {a b : AH} (x : Mod M a b) (h : ∀ i ∈ M, i ∈ N) : Mod N a b := ⟨x.le, x.scr, fun i hi hm => x.get i hi fun z => hm (h i z)⟩
theorem Gro.mod {a b : AH} (x : Gro a b) (M : List Nat) : Mod M a b := ⟨x.le, x.scr, fun i hi _ => x.get i hi⟩
theorem Mod.gro {a b : AH} (x : Mod [] a b) : Gro a b := ⟨x.le, x.scr, fun i hi => x.get i hi (by simp)⟩
theorem Mod.set {M : List Nat} {h : AH} {i : Nat} (hi : i ∈ M) (o : AO) : Mod M h (h.set i o) := ⟨Nat.le_refl _, rfl, fun j hj hm => by
  rw [AH.get_set, if_neg]
  rintro rfl
  exact hm hi⟩
theorem Mod.setNew {M : List Nat} {a h : AH} {i : Nat} (x : Mod M a h) (hi : a.n ≤ i) (o : AO) : Mod M a (h.set i o) :=
  ⟨x.le, x.scr, fun j hj hm => by rw [AH.get_set, if_neg (by omega)]; exact x.get j hj hm⟩
theorem Mod.push {M : List Nat} {a h : AH} (x : Mod M a h) (o : AO) : Mod M a (h.push o) :=
  ⟨Nat.le_trans x.le (Nat.le_succ _), x.scr, fun j hj hm => by rw [AH.get_push, if_neg (by have := x.le; omega)]; exact x.get j hj hm⟩
/-! ### programs -/
abbrev s_wait : Str := ⟨#[119, 97, 105, 116]⟩
abbrev s_mark : Str := ⟨#[109, 97, 114, 107]⟩
abbrev s_fail : Str := ⟨#[102, 97, 105, 108]⟩
abbrev s_timeout : Str := ⟨#[116, 105, 109, 101, 111, 117, 116]⟩
abbrev s_group : Str := ⟨#[103, 114, 111, 117, 112]⟩
abbrev s_shield : Str := ⟨#[115, 104, 105, 101, 108, 100]⟩
abbrev s_guard : Str := ⟨#[103, 117, 97, 114, 100]⟩
abbrev s_catch : Str := ⟨#[99, 97, 116, 99, 104]⟩
abbrev s_swallow : Str := ⟨#[115, 119, 97, 108, 108, 111, 119]⟩
abbrev s_handle : Str := ⟨#[104, 97, 110, 100, 108, 101]⟩
mutual
inductive Stm where
  | wait (n : Str) (ks : List Str)
  | mark (n : Str)
  | fail (n : Str)
  | timeout (n : Str) (b : Bod)
  | group (n : Str) (b : Bod) (cs : Chs)
  | shield (b : Bod)
  | guard (b c : Bod)
  | catch_ (b c : Bod)
  | swallow (b c : Bod)
  | handle (ks : List Str) (b c : Bod)
inductive Bod where
  | nil
  | cons (s : Stm) (r : Bod)
inductive Chs where
  | nil
  | cons (n : Str) (b : Bod) (r : Chs)
end
mutual
def Stm.enc : Stm → AV
  | .wait n ks => .tup [.str s_wait, .str n, .tup (ks.map .str)]
  | .mark n => .tup [.str s_mark, .str n]
  | .fail n => .tup [.str s_fail, .str n]
  | .timeout n b => .tup [.str s_timeout, .str n, .tup b.enc]
  | .group n b cs => .tup [.str s_group, .str n, .tup b.enc, .tup cs.enc]
  | .shield b => .tup [.str s_shield, .tup b.enc]
  | .guard b c => .tup [.str s_guard, .tup b.enc, .tup c.enc]
  | .catch_ b c => .tup [.str s_catch, .tup b.enc, .tup c.enc]
  | .swallow b c => .tup [.str s_swallow, .tup b.enc, .tup c.enc]
  | .handle ks b c => .tup [.str s_handle, .tup (ks.map .str), .tup b.enc, .tup c.enc]
def Bod.enc : Bod → List AV
  | .nil => []
  | .cons s r => s.enc :: r.enc
def Chs.enc : Chs → List AV
  | .nil => []
  | .cons n b r => .tup [.str n, .tup b.enc] :: r.enc
end
/-- the tasks and statements in order: a statement with its task, a child task alone -/
inductive WI where
  | st (t : Str) (s : Stm)
  | ch (t : Str)
mutual
def Stm.walk (t : Str) : Stm → List WI
  | .timeout _ b => b.walk t
  | .group _ b cs => b.walk t ++ cs.walk
  | .shield b => b.walk t
  | .guard b c => b.walk t ++ c.walk t
  | .catch_ b c => b.walk t ++ c.walk t
  | .swallow b c => b.walk t ++ c.walk t
  | .handle _ b c => b.walk t ++ c.walk t
  | _ => []
def Bod.walk (t : Str) : Bod → List WI
  | .nil => []
  | .cons s r => .st t s :: (s.walk t ++ r.walk t)
def Chs.walk : Chs → List WI
  | .nil => []
  | .cons n b r => .ch n :: (b.walk n ++ r.walk)
end
def WI.enc : WI → AV
  | .st t s => .tup [.str t, s.enc]
  | .ch t => .tup [.str t, .non]
mutual
def Stm.dep : Stm → Nat
  | .timeout _ b => b.dep + 1
  | .group _ b cs => max b.dep cs.dep + 1
  | .shield b => b.dep + 1
  | .guard b c => max b.dep c.dep + 1
  | .catch_ b c => max b.dep c.dep + 1
  | .swallow b c => max b.dep c.dep + 1
  | .handle _ b c => max b.dep c.dep + 1
  | _ => 1
def Bod.dep : Bod → Nat
  | .nil => 0
  | .cons s r => max s.dep r.dep
def Chs.dep : Chs → Nat
  | .nil => 0
  | .cons _ b r => max b.dep r.dep
end
mutual
def Stm.cnt : Stm → Nat
  | .timeout _ b => b.cnt + 1
  | .group _ b cs => b.cnt + cs.cnt + 1
  | .shield b => b.cnt + 1
  | .guard b c => b.cnt + c.cnt + 1
  | .catch_ b c => b.cnt + c.cnt + 1
  | .swallow b c => b.cnt + c.cnt + 1
  | .handle _ b c => b.cnt + c.cnt + 1
  | _ => 1
def Bod.cnt : Bod → Nat
  | .nil => 0
  | .cons s r => s.cnt + r.cnt
def Chs.cnt : Chs → Nat
  | .nil => 0
  | .cons _ b r => b.cnt + r.cnt
end
/-- the parts of a statement: bodies with a child's name or none -/
def Bod.part (b : Bod) : AV := .tup [.non, .tup b.enc]
def Stm.parts : Stm → List AV
  | .timeout _ b => [b.part]
  | .group _ b cs => b.part :: cs.enc
  | .shield b => [b.part]
  | .guard b c => [b.part, c.part]
  | .catch_ b c => [b.part, c.part]
  | .swallow b c => [b.part, c.part]
  | .handle _ b c => [b.part, c.part]
  | _ => []
/-! ### zip of a text with a list -/
def zpsIt (x : Str) (xs : List AV) : List AV := List.zipWith (fun c v => AV.tup [.str ⟨#[c]⟩, v]) x.cps.toList xs
theorem zpsIt_len {x : Str} {xs : List AV} (hl : x.cps.toList.length = xs.length) : (zpsIt x xs).length = xs.length := by
  unfold zpsIt
  rw [List.length_zipWith, hl, Nat.min_self]
theorem zps_next {x : Str} {xs : List AV} {n i : Nat} {h : AH} (hl : x.cps.toList.length = xs.length) (g : h.get n = some (.lst xs)) (hi : i ≤ xs.length) : itNext (.zps x n) i h = some (zpsIt x xs)[i]? := by
  unfold itNext
  simp only [g]
  have hs : x.cps.size = xs.length := by rw [← hl]; exact Array.length_toList.symm
  by_cases h : i < xs.length
  · have h1 : x.cps[i]? = some (x.cps.toList[i]'(by omega)) := by
      rw [← Array.getElem?_toList]
      exact List.getElem?_eq_getElem (by omega)
    have h2 : xs[i]? = some xs[i] := List.getElem?_eq_getElem h
    rw [h1, h2]
    unfold zpsIt
    rw [List.getElem?_zipWith]
    rw [List.getElem?_eq_getElem (l := x.cps.toList) (by omega), h2]
  · have e : i = xs.length := by omega
    subst e
    have h1 : x.cps[xs.length]? = none := by rw [Array.getElem?_eq_none_iff]; omega
    have h2 : xs[xs.length]? = none := List.getElem?_eq_none (Nat.le_refl _)
    rw [h1, h2]
    simp only
    rw [if_pos ⟨trivial, hs⟩]
    rw [List.getElem?_eq_none (by rw [zpsIt_len hl]; exact Nat.le_refl _)]
theorem zpsIt_eq (x : Str) (xs : List AV) : zpsIt x xs = (x.cps.toList.zip xs).map fun p => AV.tup [.str ⟨#[p.1]⟩, p.2] := by
  unfold zpsIt List.zip
  rw [List.map_zipWith]
theorem flat_take {α β : Type} {f : α → List β} {zs : List α} {i : Nat} {z : α} (h : zs[i]? = some z) : (zs.take (i + 1)).flatMap f = (zs.take i).flatMap f ++ f z := by
  rw [List.take_add_one, h]
  simp
theorem flat_len {α β : Type} {f : α → List β} (zs : List α) (i : Nat) : ((zs.take i).flatMap f).length ≤ (zs.flatMap f).length := by
  have e : zs.flatMap f = (zs.take i).flatMap f ++ (zs.drop i).flatMap f := by rw [← List.flatMap_append, List.take_append_drop]
  rw [e, List.length_append]
  omega
theorem str1_eq (c d : Nat) : ((⟨#[c]⟩ : Str) = ⟨#[d]⟩) = (c = d) := by simp
/-! ### typed parts -/
def Bod.toL : Bod → List Stm
  | .nil => []
  | .cons s r => s :: r.toL
def Chs.toL : Chs → List (Str × Bod)
  | .nil => []
  | .cons n b r => (n, b) :: r.toL
theorem Bod.enc_eq : ∀ b : Bod, b.enc = b.toL.map Stm.enc
  | .nil => rfl
  | .cons s r => by rw [Bod.enc, Bod.toL, List.map_cons, Bod.enc_eq r]
def Stm.prt : Stm → List (Option Str × Bod)
  | .timeout _ b => [(none, b)]
  | .group _ b cs => (none, b) :: cs.toL.map fun p => (some p.1, p.2)
  | .shield b => [(none, b)]
  | .guard b c => [(none, b), (none, c)]
  | .catch_ b c => [(none, b), (none, c)]
  | .swallow b c => [(none, b), (none, c)]
  | .handle _ b c => [(none, b), (none, c)]
  | _ => []
def oStr : Option Str → AV
  | none => .non
  | some n => .str n
def prtE (p : Option Str × Bod) : AV := .tup [oStr p.1, .tup p.2.enc]
def prtW (t : Str) (p : Option Str × Bod) : List WI := match p.1 with
  | none => p.2.walk t
  | some n => .ch n :: p.2.walk n
theorem Chs.enc_eq : ∀ c : Chs, c.enc = c.toL.map fun p => prtE (some p.1, p.2)
  | .nil => rfl
  | .cons n b r => by rw [Chs.enc, Chs.toL, List.map_cons, Chs.enc_eq r]; rfl
theorem Chs.walk_eq (t : Str) : ∀ c : Chs, c.walk = (c.toL.map fun p => (some p.1, p.2)).flatMap (prtW t)
  | .nil => by simp [Chs.walk, Chs.toL]
  | .cons n b r => by rw [Chs.walk, Chs.toL, List.map_cons, List.flatMap_cons, Chs.walk_eq t r]; rfl
theorem Stm.parts_eq (s : Stm) : s.parts = s.prt.map prtE := by
  cases s <;> first | rfl | (rw [Stm.parts, Stm.prt, List.map_cons, Chs.enc_eq, List.map_map]; rfl)
theorem Stm.walk_eq (t : Str) (s : Stm) : s.walk t = s.prt.flatMap (prtW t) := by
  cases s <;> first | rfl | (rw [Stm.walk, Stm.prt, List.flatMap_cons, ← Chs.walk_eq]; rfl) | (simp [Stm.walk, Stm.prt, prtW])
theorem Bod.walk_eq (t : Str) : ∀ b : Bod, b.walk t = b.toL.flatMap fun s => .st t s :: s.walk t
  | .nil => rfl
  | .cons s r => by rw [Bod.walk, Bod.toL, List.flatMap_cons, Bod.walk_eq t r]; simp
theorem Chs.dep_mem : ∀ {c : Chs} {p : Str × Bod}, p ∈ c.toL → p.2.dep ≤ c.dep
  | .nil, p, h => by simp [Chs.toL] at h
  | .cons n b r, p, h => by
    rw [Chs.toL, List.mem_cons] at h
    unfold Chs.dep
    rcases h with rfl | h
    · exact Nat.le_max_left _ _
    · exact Nat.le_trans (Chs.dep_mem h) (Nat.le_max_right _ _)
theorem Stm.dep_mem {s : Stm} {p : Option Str × Bod} (h : p ∈ s.prt) : p.2.dep + 1 ≤ s.dep := by
  cases s with
  | group n b cs =>
    rw [Stm.prt, List.mem_cons] at h
    unfold Stm.dep
    rcases h with rfl | h
    · exact Nat.succ_le_succ (Nat.le_max_left _ _)
    · obtain ⟨q, hq, rfl⟩ := List.mem_map.mp h
      exact Nat.succ_le_succ (Nat.le_trans (Chs.dep_mem hq) (Nat.le_max_right _ _))
  | timeout n b => simp [Stm.prt] at h; subst h; simp [Stm.dep]
  | shield b => simp [Stm.prt] at h; subst h; simp [Stm.dep]
  | guard b c => simp [Stm.prt] at h; rcases h with rfl | rfl <;> simp [Stm.dep] <;> omega
  | catch_ b c => simp [Stm.prt] at h; rcases h with rfl | rfl <;> simp [Stm.dep] <;> omega
  | swallow b c => simp [Stm.prt] at h; rcases h with rfl | rfl <;> simp [Stm.dep] <;> omega
  | handle ks b c => simp [Stm.prt] at h; rcases h with rfl | rfl <;> simp [Stm.dep] <;> omega
  | _ => simp [Stm.prt] at h
theorem Bod.dep_mem : ∀ {b : Bod} {s : Stm}, s ∈ b.toL → s.dep ≤ b.dep
  | .nil, s, h => by simp [Bod.toL] at h
  | .cons x r, s, h => by
    rw [Bod.toL, List.mem_cons] at h
    unfold Bod.dep
    rcases h with rfl | h
    · exact Nat.le_max_left _ _
    · exact Nat.le_trans (Bod.dep_mem h) (Nat.le_max_right _ _)
def Stm.kid : Stm → Nat
  | .group _ _ cs => cs.toL.length
  | _ => 0
end WC
/-! W33: what a random program is made of -/
namespace WC
open PySem PySem.Spec PyProof.Rows L2
abbrev s_hot : Str := ⟨#[104, 111, 116]⟩
abbrev s_wet : Str := ⟨#[119, 101, 116]⟩
abbrev s_x : Str := ⟨#[120]⟩
abbrev s_y : Str := ⟨#[121]⟩
abbrev s_z : Str := ⟨#[122]⟩
abbrev s_m : Str := ⟨#[109]⟩
abbrev s_n : Str := ⟨#[110]⟩
abbrev s_mm : Str := ⟨#[109, 109]⟩
def waitNs : List Str := [s_x, s_y, s_z]
def markNs : List Str := [s_m, s_n, s_mm]
def failNs : List Str := [s_hot, s_wet]
def waitKs : List (List Str) := [[], [], [s_hot], [s_hot, s_wet]]
def handKs : List (List Str) := [[s_hot], [s_timeout], [s_group, s_wet], [s_timeout, s_hot, s_wet], []]
mutual
/-- made of these words -/
def Stm.gd (ws : List Str) : Stm → Prop
  | .wait n ks => n ∈ waitNs ∧ ks ∈ waitKs
  | .mark n => n ∈ markNs
  | .fail n => n ∈ failNs
  | .timeout _ b => s_timeout ∈ ws ∧ b.gd ws
  | .group _ b cs => s_group ∈ ws ∧ b.gd ws ∧ cs.gd ws ∧ cs.toL.length ≤ 3
  | .shield b => s_shield ∈ ws ∧ b.gd ws
  | .guard b c => s_guard ∈ ws ∧ b.gd ws ∧ c.gd ws
  | .catch_ b c => s_catch ∈ ws ∧ b.gd ws ∧ c.gd ws
  | .swallow b c => s_swallow ∈ ws ∧ b.gd ws ∧ c.gd ws
  | .handle ks b c => s_handle ∈ ws ∧ ks ∈ handKs ∧ b.gd ws ∧ c.gd ws
def Bod.gd (ws : List Str) : Bod → Prop
  | .nil => True
  | .cons s r => s.gd ws ∧ r.gd ws
def Chs.gd (ws : List Str) : Chs → Prop
  | .nil => True
  | .cons _ b r => b.gd ws ∧ r.gd ws
end
mutual
/-- the names of blocks, in order -/
def Stm.blks : Stm → List Str
  | .timeout n b => n :: b.blks
  | .group n b cs => n :: (b.blks ++ cs.blks)
  | .shield b => b.blks
  | .guard b c => b.blks ++ c.blks
  | .catch_ b c => b.blks ++ c.blks
  | .swallow b c => b.blks ++ c.blks
  | .handle _ b c => b.blks ++ c.blks
  | _ => []
def Bod.blks : Bod → List Str
  | .nil => []
  | .cons s r => s.blks ++ r.blks
def Chs.blks : Chs → List Str
  | .nil => []
  | .cons _ b r => b.blks ++ r.blks
end
mutual
/-- the names of children, in order -/
def Stm.tsks : Stm → List Str
  | .timeout _ b => b.tsks
  | .group _ b cs => b.tsks ++ cs.tsks
  | .shield b => b.tsks
  | .guard b c => b.tsks ++ c.tsks
  | .catch_ b c => b.tsks ++ c.tsks
  | .swallow b c => b.tsks ++ c.tsks
  | .handle _ b c => b.tsks ++ c.tsks
  | _ => []
def Bod.tsks : Bod → List Str
  | .nil => []
  | .cons s r => s.tsks ++ r.tsks
def Chs.tsks : Chs → List Str
  | .nil => []
  | .cons n b r => n :: (b.tsks ++ r.tsks)
end
def Bod.ofL : List Stm → Bod
  | [] => .nil
  | s :: r => .cons s (Bod.ofL r)
def Chs.ofL : List (Str × Bod) → Chs
  | [] => .nil
  | p :: r => .cons p.1 p.2 (Chs.ofL r)
theorem Bod.toL_ofL : ∀ l : List Stm, (Bod.ofL l).toL = l
  | [] => rfl
  | s :: r => by rw [Bod.ofL, Bod.toL, Bod.toL_ofL r]
theorem Chs.toL_ofL : ∀ l : List (Str × Bod), (Chs.ofL l).toL = l
  | [] => rfl
  | s :: r => by rw [Chs.ofL, Chs.toL, Chs.toL_ofL r]
theorem Bod.blks_eq : ∀ b : Bod, b.blks = b.toL.flatMap Stm.blks
  | .nil => rfl
  | .cons s r => by rw [Bod.blks, Bod.toL, List.flatMap_cons, Bod.blks_eq r]
theorem Bod.tsks_eq : ∀ b : Bod, b.tsks = b.toL.flatMap Stm.tsks
  | .nil => rfl
  | .cons s r => by rw [Bod.tsks, Bod.toL, List.flatMap_cons, Bod.tsks_eq r]
theorem Bod.gd_iff {ws : List Str} : ∀ b : Bod, b.gd ws ↔ ∀ s ∈ b.toL, s.gd ws
  | .nil => by simp [Bod.gd, Bod.toL]
  | .cons s r => by rw [Bod.gd, Bod.toL, Bod.gd_iff r]; simp
theorem Bod.cnt_eq : ∀ b : Bod, b.cnt = (b.toL.map Stm.cnt).sum
  | .nil => rfl
  | .cons s r => by rw [Bod.cnt, Bod.toL, List.map_cons, List.sum_cons, Bod.cnt_eq r]
theorem Bod.dep_le {n : Nat} : ∀ {b : Bod}, (∀ s ∈ b.toL, s.dep ≤ n) → b.dep ≤ n
  | .nil, _ => Nat.zero_le _
  | .cons s r, h => by
    rw [Bod.dep]
    exact Nat.max_le.mpr ⟨h s (by simp [Bod.toL]), Bod.dep_le fun x hx => h x (by simp [Bod.toL, hx])⟩
theorem Chs.blks_eq : ∀ b : Chs, b.blks = b.toL.flatMap fun p => p.2.blks
  | .nil => rfl
  | .cons n s r => by rw [Chs.blks, Chs.toL, List.flatMap_cons, Chs.blks_eq r]
theorem Chs.tsks_eq : ∀ b : Chs, b.tsks = b.toL.flatMap fun p => p.1 :: p.2.tsks
  | .nil => rfl
  | .cons n s r => by rw [Chs.tsks, Chs.toL, List.flatMap_cons, Chs.tsks_eq r]; rfl
theorem Chs.gd_iff {ws : List Str} : ∀ b : Chs, b.gd ws ↔ ∀ s ∈ b.toL, s.2.gd ws
  | .nil => by simp [Chs.gd, Chs.toL]
  | .cons n s r => by rw [Chs.gd, Chs.toL, Chs.gd_iff r]; simp
theorem Chs.cnt_eq : ∀ b : Chs, b.cnt = (b.toL.map fun p => p.2.cnt).sum
  | .nil => rfl
  | .cons n s r => by rw [Chs.cnt, Chs.toL, List.map_cons, List.sum_cons, Chs.cnt_eq r]
theorem Chs.dep_le {n : Nat} : ∀ {b : Chs}, (∀ s ∈ b.toL, s.2.dep ≤ n) → b.dep ≤ n
  | .nil, _ => Nat.zero_le _
  | .cons m s r, h => by
    rw [Chs.dep]
    exact Nat.max_le.mpr ⟨h (m, s) (by simp [Chs.toL]), Chs.dep_le fun x hx => h x (by simp [Chs.toL, hx])⟩
/-- a source of numbers at r, drawn from at most m times -/
def Src (h : AH) (r m : Nat) : Prop := ∃ a b c : Int, h.get r = some (.lst [.int a, .int b, .int c]) ∧ 0 ≤ b ∧ b < 2 ^ 62 ∧ 0 ≤ c ∧ c ≤ m
theorem Src.lt {h : AH} {r m : Nat} (s : Src h r m) : ∃ o, h.get r = some o := by
  obtain ⟨a, b, c, g, _⟩ := s
  exact ⟨_, g⟩
theorem Src.keep {h h' : AH} {r m : Nat} (s : Src h r m) (e : h'.get r = h.get r) : Src h' r m := by
  obtain ⟨a, b, c, g, x⟩ := s
  exact ⟨a, b, c, e.trans g, x⟩
theorem Src.le {h : AH} {r m m' : Nat} (s : Src h r m) (e : m ≤ m') : Src h r m' := by
  obtain ⟨a, b, c, g, x1, x2, x3, x4⟩ := s
  exact ⟨a, b, c, g, x1, x2, x3, by omega⟩
theorem Mod.pushed {M : List Nat} {h h' : AH} {o : AO} (x : Mod M (h.push o) h') : Mod M h h' := (Mod.push (Mod.refl M h) o).trans x
theorem Src.pushed {h : AH} {r m : Nat} (s : Src h r m) (hr : r < h.n) (o : AO) : Src (h.push o) r m := s.keep (by rw [AH.get_push, if_neg (by omega)])
abbrev s_room : Str := ⟨#[114, 111, 111, 109]⟩
abbrev s_blocks : Str := ⟨#[98, 108, 111, 99, 107, 115]⟩
abbrev s_tasks : Str := ⟨#[116, 97, 115, 107, 115]⟩
/-- a record of what a program may still have, and a source -/
structure Gen (r q bl tk : Nat) (h : AH) (m room : Nat) (bs ts : List Str) : Prop where
  src : Src h r m
  nr : r < h.n
  nq : q < h.n
  nb : bl < h.n
  nt : tk < h.n
  rq : r ≠ q
  rb : r ≠ bl
  rt : r ≠ tk
  qb : q ≠ bl
  qt : q ≠ tk
  bt : bl ≠ tk
  gq : h.get q = some (.dct [(.inr s_room, .int room), (.inr s_blocks, .ref bl), (.inr s_tasks, .ref tk)])
  gb : h.get bl = some (.lst (bs.map .str))
  gt : h.get tk = some (.lst (ts.map .str))
  lb : bs.length ≤ 150
  lt : ts.length ≤ 150
  ob : ∀ x ∈ bs, PyData.strOk x = true
  ot : ∀ x ∈ ts, PyData.strOk x = true
abbrev genM (r q bl tk : Nat) : List Nat := [r, q, bl, tk]
theorem Gen.keep {r q bl tk : Nat} {h h' : AH} {m room : Nat} {bs ts : List Str} (g : Gen r q bl tk h m room bs ts) {M : List Nat} (x : Mod M h h') (h1 : r ∉ M) (h2 : q ∉ M) (h3 : bl ∉ M) (h4 : tk ∉ M) : Gen r q bl tk h' m room bs ts :=
  { g with
    src := g.src.keep (x.get r g.nr h1)
    nr := Nat.lt_of_lt_of_le g.nr x.le
    nq := Nat.lt_of_lt_of_le g.nq x.le
    nb := Nat.lt_of_lt_of_le g.nb x.le
    nt := Nat.lt_of_lt_of_le g.nt x.le
    gq := (x.get q g.nq h2).trans g.gq
    gb := (x.get bl g.nb h3).trans g.gb
    gt := (x.get tk g.nt h4).trans g.gt }
theorem Gen.gro {r q bl tk : Nat} {h h' : AH} {m room : Nat} {bs ts : List Str} (g : Gen r q bl tk h m room bs ts) (x : Gro h h') : Gen r q bl tk h' m room bs ts := g.keep (x.mod []) (by simp) (by simp) (by simp) (by simp)
theorem Gen.push {r q bl tk : Nat} {h : AH} {m room : Nat} {bs ts : List Str} (g : Gen r q bl tk h m room bs ts) (o : AO) : Gen r q bl tk (h.push o) m room bs ts := g.gro (Gro.push _ _)
theorem Gen.setNew {r q bl tk : Nat} {h : AH} {m room : Nat} {bs ts : List Str} (g : Gen r q bl tk h m room bs ts) (d : Nat) (h1 : d ≠ r) (h2 : d ≠ q) (h3 : d ≠ bl) (h4 : d ≠ tk) (o : AO) : Gen r q bl tk (h.set d o) m room bs ts :=
  g.keep (Mod.set (M := [d]) (List.mem_singleton.mpr rfl) o) (by simp [Ne.symm h1]) (by simp [Ne.symm h2]) (by simp [Ne.symm h3]) (by simp [Ne.symm h4])
theorem Gen.drawn {r q bl tk : Nat} {h h' : AH} {m m' room : Nat} {bs ts : List Str} (g : Gen r q bl tk h m room bs ts) (s : Src h' r m') (x : Mod [r] h h') : Gen r q bl tk h' m' room bs ts :=
  { g with
    src := s
    nr := Nat.lt_of_lt_of_le g.nr x.le
    nq := Nat.lt_of_lt_of_le g.nq x.le
    nb := Nat.lt_of_lt_of_le g.nb x.le
    nt := Nat.lt_of_lt_of_le g.nt x.le
    gq := (x.get q g.nq (by simp [Ne.symm g.rq])).trans g.gq
    gb := (x.get bl g.nb (by simp [Ne.symm g.rb])).trans g.gb
    gt := (x.get tk g.nt (by simp [Ne.symm g.rt])).trans g.gt }
theorem Gen.room {r q bl tk : Nat} {h : AH} {m room : Nat} {bs ts : List Str} (g : Gen r q bl tk h m room bs ts) (room' : Nat) :
    Gen r q bl tk (h.set q (.dct [(.inr s_room, .int room'), (.inr s_blocks, .ref bl), (.inr s_tasks, .ref tk)])) m room' bs ts :=
  { g with
    src := g.src.keep (by rw [AH.get_set, if_neg g.rq])
    gq := get_set_self _ _ _
    gb := by rw [AH.get_set, if_neg (Ne.symm g.qb)]; exact g.gb
    gt := by rw [AH.get_set, if_neg (Ne.symm g.qt)]; exact g.gt }
theorem Gen.popB {r q bl tk : Nat} {h : AH} {m room : Nat} {b : Str} {bs ts : List Str} (g : Gen r q bl tk h m room (b :: bs) ts) : Gen r q bl tk (h.set bl (.lst (bs.map .str))) m room bs ts :=
  { g with
    src := g.src.keep (by rw [AH.get_set, if_neg g.rb])
    gq := by rw [AH.get_set, if_neg g.qb]; exact g.gq
    gb := get_set_self _ _ _
    gt := by rw [AH.get_set, if_neg (Ne.symm g.bt)]; exact g.gt
    lb := Nat.le_trans (Nat.le_succ _) g.lb
    ob := fun x hx => g.ob x (List.mem_cons_of_mem _ hx) }
theorem Gen.popT {r q bl tk : Nat} {h : AH} {m room : Nat} {b : Str} {bs ts : List Str} (g : Gen r q bl tk h m room bs (b :: ts)) : Gen r q bl tk (h.set tk (.lst (ts.map .str))) m room bs ts :=
  { g with
    src := g.src.keep (by rw [AH.get_set, if_neg g.rt])
    gq := by rw [AH.get_set, if_neg g.qt]; exact g.gq
    gb := by rw [AH.get_set, if_neg g.bt]; exact g.gb
    gt := get_set_self _ _ _
    lt := Nat.le_trans (Nat.le_succ _) g.lt
    ot := fun x hx => g.ot x (List.mem_cons_of_mem _ hx) }
/-- a step of the generator: what it took, what it left -/
structure Stp (r q bl tk : Nat) (h h' : AH) (m room : Nat) (bs ts : List Str) (m' room' : Nat) (bs' ts' B T : List Str) (n c : Nat) : Prop where
  g : Gen r q bl tk h' m' room' bs' ts'
  M : Mod (genM r q bl tk) h h'
  eb : bs = B ++ bs'
  et : ts = T ++ ts'
  en : n + room' = room
  ec : m' + 6 * room' ≤ m + 6 * room + c
theorem Stp.trans {r q bl tk : Nat} {h h1 h2 : AH} {m room m1 room1 m2 room2 : Nat} {bs ts bs1 ts1 bs2 ts2 B T B' T' : List Str} {n c n' c' : Nat} (x : Stp r q bl tk h h1 m room bs ts m1 room1 bs1 ts1 B T n c) (y : Stp r q bl tk h1 h2 m1 room1 bs1 ts1 m2 room2 bs2 ts2 B' T' n' c') :
    Stp r q bl tk h h2 m room bs ts m2 room2 bs2 ts2 (B ++ B') (T ++ T') (n + n') (c + c') where
  g := y.g
  M := x.M.trans y.M
  eb := by rw [x.eb, y.eb, List.append_assoc]
  et := by rw [x.et, y.et, List.append_assoc]
  en := by have := x.en; have := y.en; omega
  ec := by have := x.ec; have := y.ec; omega
theorem Stp.refl {r q bl tk : Nat} {h : AH} {m room : Nat} {bs ts : List Str} (g : Gen r q bl tk h m room bs ts) : Stp r q bl tk h h m room bs ts m room bs ts [] [] 0 0 := ⟨g, Mod.refl _ _, rfl, rfl, by omega, by omega⟩
theorem Stp.gro {r q bl tk : Nat} {h h' : AH} {m room : Nat} {bs ts : List Str} (g : Gen r q bl tk h m room bs ts) (x : Gro h h') : Stp r q bl tk h h' m room bs ts m room bs ts [] [] 0 0 := ⟨g.gro x, x.mod _, rfl, rfl, by omega, by omega⟩
theorem Stp.drawn {r q bl tk : Nat} {h h' : AH} {m room c : Nat} {bs ts : List Str} (g : Gen r q bl tk h m room bs ts) (s : Src h' r (m + c)) (x : Mod [r] h h') : Stp r q bl tk h h' m room bs ts (m + c) room bs ts [] [] 0 c :=
  ⟨g.drawn s x, x.mono (by simp), rfl, rfl, by omega, by omega⟩
theorem Stp.popB {r q bl tk : Nat} {h : AH} {m room : Nat} {b : Str} {bs ts : List Str} (g : Gen r q bl tk h m room (b :: bs) ts) : Stp r q bl tk h (h.set bl (.lst (bs.map .str))) m room (b :: bs) ts m room bs ts [b] [] 0 0 :=
  ⟨g.popB, Mod.set (by simp) _, rfl, rfl, by omega, by omega⟩
theorem Stp.popT {r q bl tk : Nat} {h : AH} {m room : Nat} {b : Str} {bs ts : List Str} (g : Gen r q bl tk h m room bs (b :: ts)) : Stp r q bl tk h (h.set tk (.lst (ts.map .str))) m room bs (b :: ts) m room bs ts [] [b] 0 0 :=
  ⟨g.popT, Mod.set (by simp) _, rfl, rfl, by omega, by omega⟩
theorem Stp.room {r q bl tk : Nat} {h : AH} {m room : Nat} {bs ts : List Str} (g : Gen r q bl tk h m (room + 1) bs ts) :
    Gen r q bl tk (h.set q (.dct [(.inr s_room, .int room), (.inr s_blocks, .ref bl), (.inr s_tasks, .ref tk)])) m room bs ts ∧ Mod (genM r q bl tk) h (h.set q (.dct [(.inr s_room, .int room), (.inr s_blocks, .ref bl), (.inr s_tasks, .ref tk)])) :=
  ⟨g.room room, Mod.set (by simp) _⟩
/-- the words for statements, in a list of their own -/
structure WL (M : List Nat) (h : AH) (l : Nat) (ws : List Str) : Prop where
  nl : l < h.n
  nm : l ∉ M
  gl : h.get l = some (.lst (ws.map .str))
  ln : ws.length ≤ 50
  ok : ∀ w ∈ ws, w ∈ [s_timeout, s_shield, s_guard, s_catch, s_handle, s_swallow, s_group]
theorem WL.mod {M : List Nat} {h h' : AH} {l : Nat} {ws : List Str} (w : WL M h l ws) (x : Mod M h h') : WL M h' l ws := ⟨Nat.lt_of_lt_of_le w.nl x.le, w.nm, (x.get l w.nl w.nm).trans w.gl, w.ln, w.ok⟩
end WC
/-! W34: more operations as equations: lists -/
namespace WC
open PySem PySem.Spec PyProof.Rows L2
theorem toPDs_str (h : AH) : ∀ (f : Nat) (ns : List Str), ns.length + 2 ≤ f → toPDs f h (ns.map .str) = some (ns.map .str)
  | 0, ns, hf => absurd hf (by omega)
  | f + 1, [], hf => by unfold toPDs; rfl
  | f + 1, n :: ns, hf => by
    rw [List.length_cons] at hf
    rw [List.map_cons]
    unfold toPDs
    obtain ⟨f', rfl⟩ : ∃ f', f = f' + 1 := ⟨f - 1, by omega⟩
    rw [toPDs_str h (f' + 1) ns (by omega)]
    unfold toPD
    rfl
theorem toPD_strs {h : AH} {n : Nat} {ns : List Str} (g : h.get n = some (.lst (ns.map .str))) (hl : ns.length ≤ 150) : toPD pdF h (.ref n) = some (.list (ns.map .str)) := by
  unfold pdF toPD
  simp only [g]
  rw [toPDs_str h 4999 ns (by omega)]
theorem canLay_strs : ∀ {ns : List Str}, (∀ x ∈ ns, PyData.strOk x = true) → PyData.canLayAll0 (ns.map .str) = true
  | [], _ => by unfold PyData.canLayAll0; rfl
  | n :: ns, h => by
    rw [List.map_cons]
    unfold PyData.canLayAll0
    rw [canLay_strs fun x hx => h x (List.mem_cons_of_mem _ hx), Bool.and_true]
    unfold PyData.canLay0
    exact h n List.mem_cons_self
theorem depth_strs : ∀ {ns : List Str}, PyData.depthAll (ns.map .str) = 0
  | [] => by unfold PyData.depthAll; rfl
  | n :: ns => by
    rw [List.map_cons]
    unfold PyData.depthAll
    rw [depth_strs]
    unfold PyData.depth
    rfl
theorem shaped_strs {ns : List Str} (h : ∀ x ∈ ns, PyData.strOk x = true) : SeqAt.shaped (.list (ns.map .str)) = true := by
  unfold SeqAt.shaped PyData.canLay0 PyData.depth
  rw [canLay_strs h, depth_strs]
  decide
theorem aEqB_strs {h : AH} {m n : Nat} {as bs : List Str} (g : h.get m = some (.lst (as.map .str))) (g2 : h.get n = some (.lst (bs.map .str))) (hl : as.length ≤ 150) (hl2 : bs.length ≤ 150) (ha : ∀ x ∈ as, PyData.strOk x = true) (hb : ∀ x ∈ bs, PyData.strOk x = true) :
    aEqB (.ref m) (.ref n) h = some (PyData.eqvAll (as.map .str) (bs.map .str)) := by
  unfold aEqB
  rw [toPD_strs g hl, toPD_strs g2 hl2]
  simp only [shaped_strs ha, shaped_strs hb, if_true]
  unfold PyData.eqv
  rfl
theorem eqvAll_strs : ∀ (as bs : List Str), PyData.eqvAll (as.map .str) (bs.map .str) = decide (as = bs)
  | [], [] => by unfold PyData.eqvAll; rfl
  | [], b :: bs => by rw [List.map_cons]; unfold PyData.eqvAll; simp
  | a :: as, [] => by rw [List.map_cons]; unfold PyData.eqvAll; simp
  | a :: as, b :: bs => by
    rw [List.map_cons, List.map_cons]
    unfold PyData.eqvAll
    rw [eqvAll_strs as bs]
    unfold PyData.eqv
    rw [Bool.eq_iff_iff]
    simp
theorem w_eqStrs (m n : Nat) (as bs : List Str) {h : AH} (g : h.get m = some (.lst (as.map .str))) (g2 : h.get n = some (.lst (bs.map .str))) (hl : as.length ≤ 150) (hl2 : bs.length ≤ 150) (ha : ∀ x ∈ as, PyData.strOk x = true) (hb : ∀ x ∈ bs, PyData.strOk x = true) :
    aEqX (.ref m) (.ref n) h = .ok (.bl (decide (as = bs))) h := by
  have e1 : flEq (.ref m) (.ref n) = none := by unfold flEq; rfl
  have e2 : dqTop (.ref m) (.ref n) h = none := by unfold dqTop; simp only [g, g2]
  unfold aEqX
  rw [e1]
  simp only []
  rw [e2]
  simp only []
  unfold aEq
  rw [aEqB_strs g g2 hl hl2 ha hb, eqvAll_strs]
theorem w_neStrs (m n : Nat) (as bs : List Str) {h : AH} (g : h.get m = some (.lst (as.map .str))) (g2 : h.get n = some (.lst (bs.map .str))) (hl : as.length ≤ 150) (hl2 : bs.length ≤ 150) (ha : ∀ x ∈ as, PyData.strOk x = true) (hb : ∀ x ∈ bs, PyData.strOk x = true) :
    aNeX (.ref m) (.ref n) h = .ok (.bl (!decide (as = bs))) h := by
  have e1 : flEq (.ref m) (.ref n) = none := by unfold flEq; rfl
  have e2 : dqTop (.ref m) (.ref n) h = none := by unfold dqTop; simp only [g, g2]
  unfold aNeX
  rw [e1]
  simp only []
  rw [e2]
  simp only []
  unfold aNe
  rw [aEqB_strs g g2 hl hl2 ha hb, eqvAll_strs]
theorem w_addL (m n : Nat) (xs ys : List AV) {h : AH} (g : h.get m = some (.lst xs)) (g2 : h.get n = some (.lst ys)) (hl : xs.length + ys.length ≤ 1000000) : aAdd (.ref m) (.ref n) h = .ok (.ref h.n) (h.push (.lst (xs ++ ys))) := by
  unfold aAdd
  simp only [g, g2]
  rw [if_pos (by rw [sizeLine_eq]; omega)]
theorem w_pop0 {f g : AE} {s : AEnv} {h : AH} (n : Nat) (x : AV) (xs : List AV) (ef : f s h = .ok (.ref n) h) (eg : g s h = .ok (.int 0) h) (e : h.get n = some (.lst (x :: xs))) : aPopV f g s h = .ok x (h.set n (.lst xs)) := by
  unfold aPopV
  rw [ef]
  simp only [w_isLst n _ e, if_true]
  rw [w_aBM, ef, wb_ok, w_isLst n _ e, if_pos rfl]
  show ((aCons g aNil s h).bind fun as h2 => mPopAt (.ref n) as h2) = _
  rw [w_aCons, eg, wb_ok]
  show mPopAt (.ref n) [.int 0] h = _
  unfold mPopAt
  simp only [e]
  have i0 : seqIndex? 0 (x :: xs).length = some 0 := by
    unfold seqIndex?
    simp
  rw [i0]
  simp
theorem toVs_str : ∀ (ns : List Str), toVs (ns.map .str) = some (ns.map .str)
  | [] => by unfold toVs; rfl
  | n :: ns => by
    rw [List.map_cons]
    unfold toVs
    rw [toVs_str ns]
    unfold toV
    rfl
theorem w_inT (t : KTab) (x : Str) (ns : List Str) {h : AH} : inK t false aIn (.str x) (.tup (ns.map .str)) h = .ok (.bl (decide (x ∈ ns))) h := by
  unfold inK
  simp only []
  unfold aIn aInB
  simp only []
  rw [toVs_str]
  unfold toV
  simp only []
  have e : inV (V.str x) (ns.map V.str) = decide (x ∈ ns) := by
    unfold inV
    rw [Bool.eq_iff_iff, decide_eq_true_eq, List.any_eq_true]
    constructor
    · rintro ⟨y, hy, e⟩
      obtain ⟨z, hz, rfl⟩ := List.mem_map.mp hy
      have : z = x := by simpa [eqV] using e
      exact this ▸ hz
    · intro hx
      exact ⟨.str x, List.mem_map.mpr ⟨x, hx, rfl⟩, by simp [eqV]⟩
  rw [e]
theorem w_par2 (i j : Nat) (f : AL) {s : AEnv} {h : AH} : aPar2 i j f s h = (f s h).bind fun vs h1 => match vs with
  | [v, w] => .ok (.nx ((s.set i (some v)).set j (some w))) h1
  | _ => .stuck := nr rfl
theorem w_rng1 (j : Int) {h : AH} (h1 : 0 ≤ j) (h2 : j < 1000000) : rng1 [.int j] h = .ok (.rng 0 j.toNat) h := by
  unfold rng1
  simp only []
  rw [if_pos]
  unfold cI62
  rw [Bool.and_eq_true]
  exact ⟨decide_eq_true (by omega), decide_eq_true (by omega)⟩
theorem rng_next (n i : Nat) (h : AH) : itNext (.rng 0 n) i h = some (((List.range n).map fun (k : Nat) => AV.int k)[i]?) := by
  unfold itNext
  simp only []
  rw [List.getElem?_map]
  by_cases q : i < n
  · rw [if_pos q, List.getElem?_range q]
    simp
  · rw [if_neg q, List.getElem?_eq_none (by rw [List.length_range]; omega)]
    rfl
end WC
/-! W35: what is told of a walk -/
namespace WC
open PySem PySem.Spec PyProof.Rows L2
/-- children's names of a walk -/
def WI.tk : WI → List Str
  | .st _ _ => []
  | .ch t => [t]
/-- the names of blocks of a kind -/
def Stm.nm (w : Str) : Stm → List Str
  | .timeout n _ => if w = s_timeout then [n] else []
  | .group n _ _ => if w = s_group then [n] else []
  | _ => []
mutual
theorem Stm.walk_tk (t : Str) : ∀ s : Stm, (s.walk t).flatMap WI.tk = s.tsks
  | .wait _ _ => by simp [Stm.walk, Stm.tsks]
  | .mark _ => by simp [Stm.walk, Stm.tsks]
  | .fail _ => by simp [Stm.walk, Stm.tsks]
  | .timeout _ b => by simp [Stm.walk, Stm.tsks, Bod.walk_tk t b]
  | .group _ b cs => by simp [Stm.walk, Stm.tsks, Bod.walk_tk t b, Chs.walk_tk cs]
  | .shield b => by simp [Stm.walk, Stm.tsks, Bod.walk_tk t b]
  | .guard b c => by simp [Stm.walk, Stm.tsks, Bod.walk_tk t b, Bod.walk_tk t c]
  | .catch_ b c => by simp [Stm.walk, Stm.tsks, Bod.walk_tk t b, Bod.walk_tk t c]
  | .swallow b c => by simp [Stm.walk, Stm.tsks, Bod.walk_tk t b, Bod.walk_tk t c]
  | .handle _ b c => by simp [Stm.walk, Stm.tsks, Bod.walk_tk t b, Bod.walk_tk t c]
theorem Bod.walk_tk (t : Str) : ∀ b : Bod, (b.walk t).flatMap WI.tk = b.tsks
  | .nil => by simp [Bod.walk, Bod.tsks]
  | .cons s r => by simp [Bod.walk, Bod.tsks, WI.tk, Stm.walk_tk t s, Bod.walk_tk t r]
theorem Chs.walk_tk : ∀ c : Chs, c.walk.flatMap WI.tk = c.tsks
  | .nil => by simp [Chs.walk, Chs.tsks]
  | .cons n b r => by simp [Chs.walk, Chs.tsks, WI.tk, Bod.walk_tk n b, Chs.walk_tk r]
end
/-- a child's entry -/
def pT : AV → Bool
  | .tup [_, .non] => true
  | _ => false
def eT : AV → AV
  | .tup (t :: _) => t
  | _ => .non
theorem pT_st (t : Str) (s : Stm) : pT (WI.enc (.st t s)) = false := by cases s <;> rfl
theorem tk_list : ∀ l : List WI, ((l.map WI.enc).filter pT).map eT = (l.flatMap WI.tk).map .str
  | [] => rfl
  | .st t s :: r => by
    rw [List.map_cons, List.filter_cons, pT_st, if_neg (by simp), tk_list r]
    rfl
  | .ch t :: r => by
    rw [List.map_cons, List.filter_cons, show pT (WI.enc (.ch t)) = true from rfl, if_pos rfl, List.map_cons, tk_list r]
    rfl
end WC
/-! W36: names of blocks of a kind in a walk -/
namespace WC
open PySem PySem.Spec PyProof.Rows L2
def WI.nm (w : Str) : WI → List Str
  | .st _ s => s.nm w
  | .ch _ => []
def pB (w : Str) : AV → Bool
  | .tup [_, .tup (.str k :: _)] => decide (k = w)
  | _ => false
def eB : AV → AV
  | .tup [_, .tup (_ :: x :: _)] => x
  | _ => .non
theorem nm_st (t : Str) (s : Stm) (w : Str) (hw : w = s_timeout ∨ w = s_group) : (pB w (WI.enc (.st t s)) = true ∧ ∃ n, s.nm w = [n] ∧ eB (WI.enc (.st t s)) = .str n) ∨ (pB w (WI.enc (.st t s)) = false ∧ s.nm w = []) := by
  rcases hw with rfl | rfl <;> cases s <;> first | exact .inr ⟨rfl, rfl⟩ | exact .inl ⟨rfl, _, rfl, rfl⟩
theorem nm_list (w : Str) (hw : w = s_timeout ∨ w = s_group) : ∀ l : List WI, ((l.map WI.enc).filter (pB w)).map eB = (l.flatMap (WI.nm w)).map .str
  | [] => rfl
  | .st t s :: r => by
    rw [List.map_cons, List.filter_cons, List.flatMap_cons, List.map_append, ← nm_list w hw r]
    rcases nm_st t s w hw with ⟨p, n, e1, e2⟩ | ⟨p, e1⟩
    · rw [if_pos p, List.map_cons, e2, show WI.nm w (.st t s) = [n] from e1]
      rfl
    · rw [if_neg (by rw [p]; simp), show WI.nm w (.st t s) = [] from e1]
      rfl
  | .ch t :: r => by
    rw [List.map_cons, List.filter_cons, show pB w (WI.enc (.ch t)) = false from rfl, if_neg (by simp), nm_list w hw r]
    rfl
end WC
/-! W50: operations opened (what stands in the heap is told by facts), comprehensions as functions -/
namespace WC
open PySem PySem.Spec PyProof.Rows L2
section
variable {h : AH}
theorem u_ixR (t : KTab) (n : Nat) (b : AV) : ixK t aIx (.ref n) b h = (match h.get n with
    | some (.lst xs) => (match b with
      | .int i => (match atI xs i with
        | some v => .ok v h
        | none => .stuck)
      | _ => .stuck)
    | some (.dct kvs) => (match toKey b with
      | some k => (match valA kvs k with
        | some v => .ok v h
        | none => .stuck)
      | none => .stuck)
    | _ => .stuck) := by
  cases b <;> exact nr rfl
theorem u_ixT (t : KTab) (xs : List AV) (i : Int) : ixK t aIx (.tup xs) (.int i) h = (match atI xs i with
    | some v => .ok v h
    | none => .stuck) := nr rfl
theorem u_ixG (t : KTab) (x k : Str) : ixK t aIx (.glo x) (.str k) h = (match t x with
    | some kvs => (match kvs.lookup k with
      | some v => .ok v h
      | none => .stuck)
    | none => .stuck) := by
  unfold ixK
  first
    | (dsimp only; done)
    | (dsimp only
       cases t x <;> rfl)
theorem u_ixS (t : KTab) (z : Str) (i : Int) : ixK t aIx (.str z) (.int i) h = (match atI z.cps.toList i with
    | some c => if z.length ≤ sizeLine then .ok (.str ⟨#[c]⟩) h else .stuck
    | none => .stuck) := nr rfl
theorem u_setR (n : Nat) (b v : AV) : aSetIx (.ref n) b v h = (match h.get n with
    | some (.lst xs) => (match b with
      | .int k => (match ixN xs.length k with
        | some j => .ok .non (h.set n (.lst (xs.set j v)))
        | none => .stuck)
      | _ => .stuck)
    | some (.dct kvs) => (match toKey b with
      | some k => if kvs.length < sizeLine then .ok .non (h.set n (.dct (putA kvs k v))) else .stuck
      | none => .stuck)
    | _ => .stuck) := by
  unfold aSetIx
  first
    | (dsimp only; done)
    | (dsimp only
       generalize h.get n = q
       cases q with
       | none => rfl
       | some o => cases o <;> first | rfl | (cases b <;> rfl))
theorem u_app (n : Nat) (w : AV) : mAppend (.ref n) [w] h = (match h.get n with
    | some (.lst xs) => if xs.length < sizeLine then .ok .non (h.set n (.lst (xs ++ [w]))) else .stuck
    | _ => .stuck) := nr rfl
theorem u_extR (n m : Nat) : mExtendA (.ref n) [.ref m] h = (match h.get n, h.get m with
    | some (.lst xs), some (.lst ys) => if xs.length + ys.length ≤ sizeLine then .ok .non (h.set n (.lst (xs ++ ys))) else .stuck
    | _, _ => .stuck) := by
  unfold mExtendA
  first
    | (dsimp only; done)
    | (dsimp only
       generalize h.get n = q
       generalize h.get m = q2
       cases q with
       | none => rfl
       | some o =>
         cases o with
         | lst xs =>
           cases q2 with
           | none => rfl
           | some p => cases p <;> rfl
         | _ => rfl)
theorem u_lenR (n : Nat) : bLen [.ref n] h = (match h.get n with
    | some (.lst xs) => .ok (.int xs.length) h
    | some (.dct kvs) => .ok (.int kvs.length) h
    | _ => .stuck) := nr rfl
theorem u_lenS (x : Str) : bLen [.str x] h = (if x.length ≤ sizeLine then .ok (.int x.length) h else .stuck) := nr rfl
theorem u_tupR (n : Nat) : bTuple [.ref n] h = (match h.get n with
    | some (.lst xs) => .ok (.tup xs) h
    | _ => .stuck) := nr rfl
theorem u_tupT (xs : List AV) : bTuple [.tup xs] h = .ok (.tup xs) h := nr rfl
theorem u_listR (n : Nat) : bList [.ref n] h = (match h.get n with
    | some (.lst xs) => .ok (.ref h.n) (h.push (.lst xs))
    | _ => .stuck) := nr rfl
theorem u_aiR (n : Nat) : toAI (.ref n) h = (match h.get n with
    | some (.lst _) => some (.lst n)
    | _ => none) := by
  unfold toAI
  first
    | (dsimp only; done)
    | (dsimp only
       generalize h.get n = q
       cases q with
       | none => rfl
       | some o => cases o <;> rfl)
theorem u_isLst (n : Nat) : isLst (.ref n) h = (match h.get n with
    | some (.lst _) => true
    | _ => false) := by
  unfold isLst
  first
    | (dsimp only; done)
    | (dsimp only
       generalize h.get n = q
       cases q with
       | none => rfl
       | some o => cases o <;> rfl)
theorem u_isStr (x : Str) : isStr (.str x) h = true := nr rfl
theorem u_addR (m n : Nat) : aAdd (.ref m) (.ref n) h = (match h.get m, h.get n with
    | some (.lst xs), some (.lst ys) => if xs.length + ys.length ≤ sizeLine then .ok (.ref h.n) (h.push (.lst (xs ++ ys))) else .stuck
    | _, _ => .stuck) := by
  unfold aAdd
  first
    | (dsimp only; done)
    | (dsimp only
       generalize h.get m = q
       generalize h.get n = q2
       cases q with
       | none => rfl
       | some o =>
         cases o with
         | lst xs =>
           cases q2 with
           | none => rfl
           | some p => cases p <;> rfl
         | _ => rfl)
theorem u_addS (x y : Str) : aAdd (.str x) (.str y) h = (if x.length + y.length ≤ sizeLine then .ok (.str (x ++ y)) h else .stuck) := nr rfl
theorem u_addT (x y : List AV) : aAdd (.tup x) (.tup y) h = (if x.length + y.length ≤ sizeLine then .ok (.tup (x ++ y)) h else .stuck) := nr rfl
theorem u_isiL (n : Nat) (xs : List AV) (g : h.get n = some (.lst xs)) : bIsi [.ref n, .ty "list"] h = .ok (.bl true) h := by
  unfold bIsi tyName
  simp only [g]
  rfl
theorem u_callL (i : Nat) (tab : Str → Option MInfo) (fa fk : AL) (s : AEnv) : aCallL i tab fa fk s h = (match s[i]? with
    | some (some (.glo x)) => (match tab x with
      | some j => (fa s h).bind fun as h1 => (fk s h1).bind fun zs h2 => aCallV j.n j.m j.ks j.gA j.g as zs h2
      | none => .stuck)
    | _ => .stuck) := nr rfl
theorem u_reprB (b : Bool) : bRepr [.bl b] h = .ok (.str (if b = true then ("True" : Str) else ("False" : Str))) h := by
  cases b <;> kernel_rfl
theorem u_sl (f : AE) (fl fh : AP) (s : AEnv) : aSl f fl fh s h = (f s h).bind fun v h1 => (fl s h1).bind fun l h2 => (fh s h2).bind fun u h3 => aSlV v l u h3 := nr rfl
theorem u_part (f : AE) (s : AEnv) : aPart f s h = (f s h).bind fun v h1 => match v with
  | .int i => .ok (some i) h1
  | _ => .stuck := nr rfl
theorem u_kNone (s : AEnv) : kNone s h = .ok none h := nr rfl
theorem u_slR (n : Nat) (lo hi : Option Int) : aSlV (.ref n) lo hi h = (match h.get n with
    | some (.lst xs) => .ok (.ref h.n) (h.push (.lst (cutA xs lo hi)))
    | _ => .stuck) := by
  unfold aSlV
  first
    | (dsimp only; done)
    | (dsimp only
       generalize h.get n = q
       cases q with
       | none => rfl
       | some o => cases o <;> rfl)
theorem u_slT (xs : List AV) (lo hi : Option Int) : aSlV (.tup xs) lo hi h = .ok (.tup (cutA xs lo hi)) h := nr rfl
theorem u_aStar (f : AE) (g : AL) (s : AEnv) : aStar f g s h = (f s h).bind fun v h1 => match v with
  | .tup xs => (g s h1).bind fun ys h2 => .ok (xs ++ ys) h2
  | .ref n => (match h1.get n with
    | some (.lst xs) => (g s h1).bind fun ys h2 => .ok (xs ++ ys) h2
    | _ => .stuck)
  | _ => .stuck := nr rfl
end
/-- walks over a list that stands -/
theorem it_lst {h1 : AH} {q : Nat} {xs : List AV} (hq : q < h1.n) (g : h1.get q = some (.lst xs)) : ∀ i h', Gro h1 h' → itNext (.lst q) i h' = some xs[i]? := fun i h' G => by
  unfold itNext
  simp only [G.get q hq, g]
theorem it_tup {h1 : AH} {xs : List AV} : ∀ i h', Gro h1 h' → itNext (.tup xs) i h' = some xs[i]? := fun i h' G => rfl
/-- a comprehension whose items are a function of what is walked -/
theorem lc_fun {fi : AEnv → AH → Ex AI} {xs : List AV} {g : AG} {t : AT} {el : AE} {vs : List Nat} {s : AEnv} {h h1 : AH} {J : AI} (p : AV → Bool) (e : AV → AV) (hi : fi s h = .ok J h1) (G0 : Gro h h1) (hl : xs.length ≤ 1000) (next : ∀ i h', Gro h1 h' → itNext J i h' = some xs[i]?)
    (step : ∀ x ∈ xs, ∀ h', ∃ s1, g x (wipeA s vs) h' = .ok s1 h' ∧ t s1 h' = .ok (p x) h' ∧ (p x = true → el s1 h' = .ok (e x) h')) :
    ∃ h', aLc limN fi g t el vs s h = .ok (.ref h1.n) h' ∧ Gro h h' ∧ h1.n < h'.n ∧ h'.get h1.n = some (.lst ((xs.filter p).map e)) := by
  obtain ⟨v, h', e1, rfl, G, hn, gg⟩ := lc_pure (g := g) (t := t) (el := el) (vs := vs) (p := p) (e := e) hi G0 hl next (fun x h' hx _ => by
    obtain ⟨s1, a, b, c⟩ := step x hx h'
    rw [a]
    refine wpE_ok.mpr ⟨Gro.refl _, ?_⟩
    rw [b]
    refine wpE_ok.mpr ⟨rfl, Gro.refl _, fun z => ?_⟩
    rw [c z]
    exact wpE_ok.mpr ⟨rfl, Gro.refl _⟩)
  exact ⟨h', e1, G, hn, gg⟩
end WC
namespace WC
open PySem PySem.Spec PyProof.Rows L2
/-! ### comprehensions by one equation for a turn -/
def turn (g : AG) (t : AT) (el : AE) (s : AEnv) (x : AV) (h : AH) : Ex (Option AV) := (g x s h).bind fun s1 h1 => (t s1 h1).bind fun b h2 => if b = true then (el s1 h2).bind fun v h3 => .ok (some v) h3 else .ok none h2
theorem lcL_turn (J : AI) (g : AG) (t : AT) (el : AE) (s : AEnv) (d f i : Nat) (h : AH) (x : AV) (e : itNext J i h = some (some x)) : lcL J g t el s d (f + 1) i h = (turn g t el s x h).bind fun o h3 => match o with
    | some y => (match h3.get d with
        | some (.lst acc) => if acc.length < sizeLine then lcL J g t el s d f (i + 1) (h3.set d (.lst (acc ++ [y]))) else .stuck
        | _ => .stuck)
    | none => lcL J g t el s d f (i + 1) h3 := by
  show (match itNext J i h with
    | none => (Ex.stuck : Ex AV)
    | some none => .ok (.ref d) h
    | some (some v) => (g v s h).bind fun s1 h1 => (t s1 h1).bind fun b h2 => if b = true then (el s1 h2).bind fun y h3 => (match h3.get d with
        | some (.lst acc) => if acc.length < sizeLine then lcL J g t el s d f (i + 1) (h3.set d (.lst (acc ++ [y]))) else .stuck
        | _ => .stuck) else lcL J g t el s d f (i + 1) h2) = _
  rw [e]
  unfold turn
  simp only [wb_assoc]
  cases g x s h with
  | stuck => rfl
  | ok s1 h1 =>
    simp only [wb_ok]
    cases t s1 h1 with
    | stuck => rfl
    | ok b h2 =>
      simp only [wb_ok]
      cases b with
      | false => rfl
      | true =>
        simp only [if_true, wb_assoc]
        cases el s1 h2 with
        | stuck => rfl
        | ok v h3 => rfl
theorem lcL_inv {J : AI} {xs : List AV} {g : AG} {t : AT} {el : AE} {s : AEnv} {d : Nat} {P : Nat → AH → List AV → Prop} (hl : xs.length ≤ 100000) (next : ∀ i h acc, P i h acc → itNext J i h = some xs[i]?) (bd : ∀ i h acc, P i h acc → acc.length ≤ i)
    (step : ∀ i x h acc, xs[i]? = some x → P i h acc → h.get d = some (.lst acc) → ∃ o h', turn g t el s x h = .ok o h' ∧ h'.get d = some (.lst acc) ∧ match o with
      | some v => P (i + 1) (h'.set d (.lst (acc ++ [v]))) (acc ++ [v])
      | none => P (i + 1) h' acc) : ∀ (f i : Nat) (h : AH) (acc : List AV), i ≤ xs.length → xs.length - i < f → P i h acc → h.get d = some (.lst acc) →
      ∃ h' acc', lcL J g t el s d f i h = .ok (.ref d) h' ∧ P xs.length h' acc' ∧ h'.get d = some (.lst acc')
  | 0, i, h, acc, _, hf, _, _ => absurd hf (Nat.not_lt_zero _)
  | f + 1, i, h, acc, hi, hf, I, hg => by
    cases q : xs[i]? with
    | none =>
      have : i = xs.length := by
        have := List.getElem?_eq_none_iff.mp q
        omega
      subst this
      refine ⟨h, acc, ?_, I, hg⟩
      unfold lcL
      rw [next _ h acc I, q]
    | some x =>
      have hlt := (List.getElem?_eq_some_iff.mp q).1
      obtain ⟨o, h', e, g', p⟩ := step i x h acc q I hg
      rw [lcL_turn J g t el s d f i h x (by rw [next i h acc I, q]), e, wb_ok]
      cases o with
      | none => exact lcL_inv hl next bd step f (i + 1) h' acc hlt (by omega) p g'
      | some v =>
        have := bd _ _ _ I
        simp only [g']
        rw [if_pos (by rw [sizeLine_eq]; omega)]
        exact lcL_inv hl next bd step f (i + 1) _ _ hlt (by omega) p (get_set_self _ _ _)
theorem lc_inv {fi : AEnv → AH → Ex AI} {J : AI} {xs : List AV} {g : AG} {t : AT} {el : AE} {vs : List Nat} {s : AEnv} {h h1 : AH} (P : Nat → AH → List AV → Prop) (hi : fi s h = .ok J h1) (hl : xs.length < 100000) (next : ∀ i h acc, P i h acc → itNext J i h = some xs[i]?) (bd : ∀ i h acc, P i h acc → acc.length ≤ i)
    (start : P 0 (h1.push (.lst [])) []) (step : ∀ i x h acc, xs[i]? = some x → P i h acc → h.get h1.n = some (.lst acc) → ∃ o h', turn g t el (wipeA s vs) x h = .ok o h' ∧ h'.get h1.n = some (.lst acc) ∧ match o with
      | some v => P (i + 1) (h'.set h1.n (.lst (acc ++ [v]))) (acc ++ [v])
      | none => P (i + 1) h' acc) : ∃ h' acc, aLc limN fi g t el vs s h = .ok (.ref h1.n) h' ∧ P xs.length h' acc ∧ h'.get h1.n = some (.lst acc) := by
  unfold aLc
  rw [hi]
  exact lcL_inv (Nat.le_of_lt hl) next bd step limN 0 _ [] (Nat.zero_le _) (by unfold limN; omega) start (get_push_self _ _)
/-- the items a function of what is walked; calls may lay new objects -/
theorem lc_map {fi : AEnv → AH → Ex AI} {J : AI} {xs : List AV} {g : AG} {t : AT} {el : AE} {vs : List Nat} {s : AEnv} {h h1 : AH} (f : AV → Option AV) (hi : fi s h = .ok J h1) (G0 : Gro h h1) (hl : xs.length < 100000) (next : ∀ i h', Gro h1 h' → itNext J i h' = some xs[i]?)
    (step : ∀ x ∈ xs, ∀ h', Gro h1 h' → h1.n < h'.n → ∃ h'', turn g t el (wipeA s vs) x h' = .ok (f x) h'' ∧ Gro h' h'') : ∃ h', aLc limN fi g t el vs s h = .ok (.ref h1.n) h' ∧ Gro h h' ∧ h1.n < h'.n ∧ h'.get h1.n = some (.lst (xs.filterMap f)) := by
  obtain ⟨h', acc, e, ⟨G, hn, rfl⟩, gg⟩ := lc_inv (g := g) (t := t) (el := el) (vs := vs) (fun i h' acc => Gro h1 h' ∧ h1.n < h'.n ∧ acc = (xs.take i).filterMap f) hi hl (fun i h' acc p => next i h' p.1) (fun i h' acc p => by
      rw [p.2.2]
      exact Nat.le_trans (List.length_filterMap_le _ _) (by rw [List.length_take]; omega)) ⟨Gro.push _ _, Nat.lt_succ_self _, rfl⟩ (fun i x h' acc hx ⟨G, hn, ha⟩ hg => by
      obtain ⟨h'', e, G2⟩ := step x (List.mem_of_getElem? hx) h' G hn
      refine ⟨f x, h'', e, (G2.get _ hn).trans hg, ?_⟩
      have tk : (xs.take (i + 1)).filterMap f = acc ++ (f x).toList := by
        rw [List.take_add_one, hx, List.filterMap_append, ← ha]
        cases q : f x <;> simp [q]
      cases q : f x with
      | none => exact ⟨G.trans G2, Nat.lt_of_lt_of_le hn G2.le, by rw [tk, q]; simp⟩
      | some v => exact ⟨(G.trans G2).set (Nat.le_refl _) _, Nat.lt_of_lt_of_le hn G2.le, by rw [tk, q]; simp⟩)
  exact ⟨h', e, G0.trans G, hn, by rw [gg, List.take_length]⟩
/-- no new objects -/
theorem lc_map0 {fi : AEnv → AH → Ex AI} {J : AI} {xs : List AV} {g : AG} {t : AT} {el : AE} {vs : List Nat} {s : AEnv} {h h1 : AH} (f : AV → Option AV) (hi : fi s h = .ok J h1) (G0 : Gro h h1) (hl : xs.length < 100000) (next : ∀ i h', Gro h1 h' → itNext J i h' = some xs[i]?)
    (step : ∀ x ∈ xs, ∀ h', turn g t el (wipeA s vs) x h' = .ok (f x) h') : ∃ h', aLc limN fi g t el vs s h = .ok (.ref h1.n) h' ∧ Gro h h' ∧ h1.n < h'.n ∧ h'.get h1.n = some (.lst (xs.filterMap f)) :=
  lc_map f hi G0 hl next fun x hx h' _ _ => ⟨h', step x hx h', Gro.refl _⟩
end WC
/-! W51: values that never change (texts, numbers, tuples of such) as data: size, equality, text -/
namespace WC
open PySem PySem.Spec PyProof.Rows L2
mutual
def AV.pd : AV → PyData
  | .bl b => .bool b
  | .int i => .int i
  | .str x => .str x
  | .tup xs => .tuple (AV.pds xs)
  | _ => .none
def AV.pds : List AV → List PyData
  | [] => []
  | x :: xs => x.pd :: AV.pds xs
end
mutual
def AV.sz : AV → Nat
  | .tup xs => 1 + AV.szs xs
  | _ => 1
def AV.szs : List AV → Nat
  | [] => 1
  | x :: xs => 1 + max x.sz (AV.szs xs)
end
mutual
def AV.fl : AV → Bool
  | .non => true
  | .bl _ => true
  | .int i => decide (i.natAbs.log2 < 1920)
  | .str x => PyData.strOk x
  | .tup xs => AV.fls xs
  | _ => false
def AV.fls : List AV → Bool
  | [] => true
  | x :: xs => x.fl && AV.fls xs
end
mutual
def AV.dp : AV → Nat
  | .tup xs => AV.dps xs + 1
  | _ => 0
def AV.dps : List AV → Nat
  | [] => 0
  | x :: xs => max x.dp (AV.dps xs)
end
theorem AV.sz_pos : ∀ v : AV, 1 ≤ v.sz := fun v => by cases v <;> simp [AV.sz]
theorem AV.szs_pos : ∀ v : List AV, 1 ≤ AV.szs v := fun v => by cases v <;> (unfold AV.szs; omega)
theorem toPD_fl (h : AH) : ∀ f : Nat, (∀ v : AV, v.fl = true → v.sz ≤ f → toPD f h v = some v.pd) ∧ (∀ xs : List AV, AV.fls xs = true → AV.szs xs ≤ f → toPDs f h xs = some (AV.pds xs))
  | 0 => ⟨fun v _ hs => absurd hs (by have := v.sz_pos; omega), fun xs _ hs => absurd hs (by have := AV.szs_pos xs; omega)⟩
  | f + 1 => by
    obtain ⟨ih, ihs⟩ := toPD_fl h f
    refine ⟨fun v hv hs => ?_, fun xs hv hs => ?_⟩
    · cases v with
      | non => unfold toPD AV.pd; rfl
      | bl b => unfold toPD AV.pd; rfl
      | int i => unfold toPD AV.pd; rfl
      | str x => unfold toPD AV.pd; rfl
      | tup xs =>
        unfold toPD AV.pd
        unfold AV.sz at hs
        unfold AV.fl at hv
        rw [ihs xs hv (by omega)]
      | _ => unfold AV.fl at hv; cases hv
    · cases xs with
      | nil => unfold toPDs AV.pds; rfl
      | cons x r =>
        unfold AV.szs at hs
        unfold AV.fls at hv
        rw [Bool.and_eq_true] at hv
        have := AV.szs_pos r
        unfold toPDs AV.pds
        rw [ih x hv.1 (by omega), ihs r hv.2 (by omega)]
mutual
theorem AV.can : ∀ v : AV, v.fl = true → v.pd.canLay0 = true
  | .non, _ => by unfold AV.pd PyData.canLay0; rfl
  | .bl _, _ => by unfold AV.pd PyData.canLay0; rfl
  | .int _, _ => by unfold AV.pd PyData.canLay0; rfl
  | .str x, h => by unfold AV.fl at h; unfold AV.pd PyData.canLay0; exact h
  | .tup xs, h => by unfold AV.fl at h; unfold AV.pd PyData.canLay0; exact AV.cans xs h
  | .ref _, h => by unfold AV.fl at h; cases h
  | .scr, h => by unfold AV.fl at h; cases h
  | .glo _, h => by unfold AV.fl at h; cases h
  | .ty _, h => by unfold AV.fl at h; cases h
theorem AV.cans : ∀ xs : List AV, AV.fls xs = true → PyData.canLayAll0 (AV.pds xs) = true
  | [], _ => by unfold AV.pds PyData.canLayAll0; rfl
  | x :: xs, h => by
    unfold AV.fls at h
    rw [Bool.and_eq_true] at h
    unfold AV.pds PyData.canLayAll0
    rw [AV.can x h.1, AV.cans xs h.2]
    rfl
end
mutual
theorem AV.pd_dp : ∀ v : AV, v.pd.depth = v.dp
  | .tup xs => by unfold AV.pd PyData.depth AV.dp; rw [AV.pds_dp xs]
  | .non => by unfold AV.pd PyData.depth AV.dp; rfl
  | .bl _ => by unfold AV.pd PyData.depth AV.dp; rfl
  | .int _ => by unfold AV.pd PyData.depth AV.dp; rfl
  | .str _ => by unfold AV.pd PyData.depth AV.dp; rfl
  | .ref _ => by unfold AV.pd PyData.depth AV.dp; rfl
  | .scr => by unfold AV.pd PyData.depth AV.dp; rfl
  | .glo _ => by unfold AV.pd PyData.depth AV.dp; rfl
  | .ty _ => by unfold AV.pd PyData.depth AV.dp; rfl
theorem AV.pds_dp : ∀ xs : List AV, PyData.depthAll (AV.pds xs) = AV.dps xs
  | [] => by unfold AV.pds PyData.depthAll AV.dps; rfl
  | x :: xs => by unfold AV.pds PyData.depthAll AV.dps; rw [AV.pd_dp x, AV.pds_dp xs]
end
mutual
theorem AV.show_ok : ∀ v : AV, v.fl = true → v.pd.showable = true ∧ v.pd.hasDict = false
  | .non, _ => by unfold AV.pd PyData.showable PyData.hasDict; exact ⟨rfl, rfl⟩
  | .bl _, _ => by unfold AV.pd PyData.showable PyData.hasDict; exact ⟨rfl, rfl⟩
  | .int i, h => by unfold AV.fl at h; unfold AV.pd PyData.showable PyData.hasDict; exact ⟨h, rfl⟩
  | .str x, h => by unfold AV.pd PyData.showable PyData.hasDict; exact ⟨rfl, rfl⟩
  | .tup xs, h => by unfold AV.fl at h; unfold AV.pd PyData.showable PyData.hasDict; exact AV.shows_ok xs h
  | .ref _, h => by unfold AV.fl at h; cases h
  | .scr, h => by unfold AV.fl at h; cases h
  | .glo _, h => by unfold AV.fl at h; cases h
  | .ty _, h => by unfold AV.fl at h; cases h
theorem AV.shows_ok : ∀ xs : List AV, AV.fls xs = true → PyData.showableAll (AV.pds xs) = true ∧ PyData.hasDictAll (AV.pds xs) = false
  | [], _ => by unfold AV.pds PyData.showableAll PyData.hasDictAll; exact ⟨rfl, rfl⟩
  | x :: xs, h => by
    unfold AV.fls at h
    rw [Bool.and_eq_true] at h
    unfold AV.pds PyData.showableAll PyData.hasDictAll
    obtain ⟨a, b⟩ := AV.show_ok x h.1
    obtain ⟨c, d⟩ := AV.shows_ok xs h.2
    rw [a, b, c, d]
    exact ⟨rfl, rfl⟩
end
/-- a list of such values compared with an empty list -/
theorem eq_nil {h : AH} {m n : Nat} {xs : List AV} (g : h.get m = some (.lst xs)) (g2 : h.get n = some (.lst [])) (hf : AV.fls xs = true) (hs : AV.szs xs ≤ 4900) (hd : AV.dps xs ≤ 60) : aEqX (.ref m) (.ref n) h = .ok (.bl xs.isEmpty) h := by
  have e1 : flEq (.ref m) (.ref n) = none := by unfold flEq; rfl
  have e2 : dqTop (.ref m) (.ref n) h = none := by unfold dqTop; simp only [g, g2]
  have p1 : toPD pdF h (.ref m) = some (.list (AV.pds xs)) := by
    unfold pdF toPD
    simp only [g]
    rw [(toPD_fl h 4999).2 xs hf (by omega)]
  have p2 : toPD pdF h (.ref n) = some (.list []) := by
    unfold pdF toPD
    simp only [g2]
    rw [(toPD_fl h 4999).2 [] rfl (by decide)]
    rfl
  have s1 : SeqAt.shaped (.list (AV.pds xs)) = true := by
    unfold SeqAt.shaped PyData.canLay0 PyData.depth
    rw [AV.cans xs hf, AV.pds_dp]
    simp
    omega
  unfold aEqX
  rw [e1]
  simp only []
  rw [e2]
  simp only []
  unfold aEq aEqB
  rw [p1, p2]
  simp only [s1, if_true, show SeqAt.shaped (.list []) = true by decide]
  cases xs with
  | nil => unfold PyData.eqv AV.pds PyData.eqvAll; rfl
  | cons x r => unfold PyData.eqv AV.pds PyData.eqvAll; rfl
/-! ### programs as data -/
theorem strs_fl : ∀ {ns : List Str}, (∀ x ∈ ns, PyData.strOk x = true) → AV.fls (ns.map .str) = true
  | [], _ => rfl
  | n :: ns, h => by
    rw [List.map_cons]
    unfold AV.fls AV.fl
    rw [h n List.mem_cons_self, strs_fl fun x hx => h x (List.mem_cons_of_mem _ hx)]
    rfl
theorem strs_sz : ∀ ns : List Str, AV.szs (ns.map .str) ≤ 2 * ns.length + 1
  | [] => Nat.le_refl _
  | n :: ns => by
    rw [List.map_cons]
    have := strs_sz ns
    unfold AV.szs AV.sz
    rw [List.length_cons]
    omega
theorem fls_iff : ∀ xs : List AV, AV.fls xs = true ↔ ∀ v ∈ xs, v.fl = true
  | [] => by simp [AV.fls]
  | x :: xs => by
    unfold AV.fls
    rw [Bool.and_eq_true, fls_iff xs]
    simp
theorem szs_le {n : Nat} : ∀ xs : List AV, (∀ v ∈ xs, v.sz ≤ n) → AV.szs xs ≤ n + xs.length + 1
  | [], _ => by unfold AV.szs; omega
  | x :: xs, h => by
    have := szs_le xs fun v hv => h v (List.mem_cons_of_mem _ hv)
    have := h x List.mem_cons_self
    unfold AV.szs
    rw [List.length_cons]
    omega
theorem dps_le {n : Nat} : ∀ xs : List AV, (∀ v ∈ xs, v.dp ≤ n) → AV.dps xs ≤ n
  | [], _ => by unfold AV.dps; omega
  | x :: xs, h => by
    have := dps_le xs fun v hv => h v (List.mem_cons_of_mem _ hv)
    have := h x List.mem_cons_self
    unfold AV.dps
    omega
theorem strs_dp : ∀ ns : List Str, AV.dps (ns.map .str) = 0
  | [] => rfl
  | n :: ns => by
    rw [List.map_cons]
    unfold AV.dps AV.dp
    rw [strs_dp ns]
    rfl
end WC
namespace WC
open PySem PySem.Spec PyProof.Rows L2
/-! ### repr: its length, its value -/
mutual
def AV.wt : AV → Nat
  | .str x => 10 * x.length + 2
  | .int i => (Str.ofString (toString i)).length
  | .tup xs => AV.wts xs + 2
  | _ => 5
def AV.wts : List AV → Nat
  | [] => 0
  | x :: xs => x.wt + 2 + AV.wts xs
end
theorem tup_text (ts : List Str) : (tupleText ts).length ≤ piled ts + 2 := by
  unfold tupleText
  have e3 : (((if ts.length == 1 then ",)" else ")" : String) : Str)).length ≤ 2 := by split <;> decide +kernel
  rw [strLen_append, strLen_append]
  by_cases h : ts = []
  · subst h
    decide +kernel
  · have := join_length_add ts h
    have e1 : ((("(" : String) : Str)).length = 1 := rfl
    omega
mutual
theorem AV.shown_len : ∀ v : AV, v.fl = true → v.pd.shown.length ≤ v.wt
  | .non, _ => by unfold AV.pd PyData.shown AV.wt; decide +kernel
  | .bl b, _ => by unfold AV.pd PyData.shown AV.wt; cases b <;> decide +kernel
  | .int i, _ => by unfold AV.pd PyData.shown AV.wt; exact Nat.le_refl _
  | .str x, h => by
    unfold AV.pd PyData.shown AV.wt
    refine StrLaws.reprText_len x fun c hc => ?_
    unfold AV.fl PyData.strOk at h
    rw [← Array.all_toList, List.all_eq_true] at h
    have := of_decide_eq_true (h c hc)
    omega
  | .tup xs, h => by
    unfold AV.pd PyData.shown AV.wt
    unfold AV.fl at h
    have := AV.showns_len xs h
    have := tup_text (PyData.shownAll (AV.pds xs))
    omega
  | .ref _, h => by unfold AV.fl at h; cases h
  | .scr, h => by unfold AV.fl at h; cases h
  | .glo _, h => by unfold AV.fl at h; cases h
  | .ty _, h => by unfold AV.fl at h; cases h
theorem AV.showns_len : ∀ xs : List AV, AV.fls xs = true → piled (PyData.shownAll (AV.pds xs)) ≤ AV.wts xs
  | [], _ => by unfold AV.pds PyData.shownAll AV.wts; exact Nat.le_refl _
  | x :: xs, h => by
    unfold AV.fls at h
    rw [Bool.and_eq_true] at h
    unfold AV.pds PyData.shownAll AV.wts
    rw [piled_cons]
    have := AV.shown_len x h.1
    have := AV.showns_len xs h.2
    omega
end
theorem repr_fl {v : AV} (h : AH) (hf : v.fl = true) (hs : v.sz ≤ 5000) (hd : v.dp ≤ 100) (hw : v.wt ≤ 1000000) : bRepr [v] h = .ok (.str v.pd.shown) h := by
  unfold bRepr
  simp only []
  rw [show pdF = 5000 from rfl, (toPD_fl h 5000).1 v hf hs]
  simp only []
  have ok : reprOk v.pd = true := by
    unfold reprOk
    obtain ⟨a, b⟩ := AV.show_ok v hf
    have := AV.shown_len v hf
    rw [a, b, AV.pd_dp, decide_eq_true hd, decide_eq_true (Nat.le_trans this hw)]
    rfl
  rw [if_pos ok]
end WC
namespace WC
open PySem PySem.Spec PyProof.Rows L2
/-! ### texts: operations -/
section
variable {h : AH}
theorem u_isiS (x : Str) : bIsi [.str x, .ty "str"] h = .ok (.bl true) h := nr rfl
theorem u_inS (t : KTab) (c : Nat) (z : Str) : inK t false aIn (.str ⟨#[c]⟩) (.str z) h = .ok (.bl (decide (c ∈ z.cps.toList))) h := nr rfl
theorem u_inG (t : KTab) (g : AO2) (neg : Bool) (x k : Str) : inK t neg g (.str k) (.glo x) h = (match t x with
    | some kvs => (match kvs.lookup k with
      | some _ => .ok (.bl (!neg)) h
      | none => .stuck)
    | none => .stuck) := by
  unfold inK
  first
    | (dsimp only; done)
    | (dsimp only
       cases t x <;> rfl)
theorem u_aiS (x : Str) : toAI (.str x) h = some (.str x) := nr rfl
theorem it_str (x : Str) (i : Nat) : itNext (.str x) i h = some ((x.cps.toList.map fun c => AV.str ⟨#[c]⟩)[i]?) := by
  unfold itNext
  simp only []
  rw [List.getElem?_map, Array.getElem?_toList]
theorem toSs_map (l : List Str) : toSs (l.map .str) = some l := by
  induction l with
  | nil => rfl
  | cons b r ih => rw [List.map_cons]; unfold toSs; rw [ih]
theorem toBs_map (l : List Bool) : toBs (l.map .bl) = some l := by
  induction l with
  | nil => rfl
  | cons b r ih => rw [List.map_cons]; unfold toBs; rw [ih]
theorem w_joinT (a : Str) (l : List Str) (hz : (l.map (·.length)).sum + l.length * a.length ≤ 1000000) : mJoin (.str a) [.tup (l.map .str)] h = .ok (.str (Txt.join a l)) h := by
  show joinV a (l.map .str) h = _
  unfold joinV
  rw [toSs_map]
  exact if_pos hz
theorem w_joinL (a : Str) (n : Nat) (l : List Str) (g : h.get n = some (.lst (l.map .str))) (hz : (l.map (·.length)).sum + l.length * a.length ≤ 1000000) : mJoin (.str a) [.ref n] h = .ok (.str (Txt.join a l)) h := by
  unfold mJoin
  simp only [g]
  unfold joinV
  rw [toSs_map]
  exact if_pos hz
theorem w_split (a b : Str) (h1 : (b.length == 0) = false) (h2 : a.length ≤ 1000000) : mSplit (.str a) [.str b] h = .ok (.ref h.n) (h.push (.lst ((Txt.split a b).map .str))) := by
  unfold mSplit
  simp only [h1, if_true]
  rw [if_pos h2]
theorem w_allL (n : Nat) (l : List Bool) (g : h.get n = some (.lst (l.map .bl))) : bAll [.ref n] h = .ok (.bl (l.all id)) h := by
  unfold bAll bFold
  simp only [g, toBs_map]
theorem join_len (sep : Str) (l : List Str) : (Txt.join sep l).length ≤ (l.map (·.length)).sum + l.length * sep.length := by
  rw [TL.join_eq]
  exact StrLaws.join_length_le sep l
end
/-- a name: one to eight small letters -/
def letters : Str := ⟨#[97, 98, 99, 100, 101, 102, 103, 104, 105, 106, 107, 108, 109, 110, 111, 112, 113, 114, 115, 116, 117, 118, 119, 120, 121, 122]⟩
def NameOk (x : Str) : Prop := 1 ≤ x.length ∧ x.length ≤ 8 ∧ ∀ c ∈ x.cps.toList, c ∈ letters.cps.toList
theorem letters_bd : ∀ c ∈ letters.cps.toList, 97 ≤ c ∧ c ≤ 122 := by decide +kernel
theorem NameOk.str {x : Str} (h : NameOk x) : PyData.strOk x = true := by
  unfold PyData.strOk
  rw [← Array.all_toList, List.all_eq_true]
  intro c hc
  have := letters_bd c (h.2.2 c hc)
  exact decide_eq_true (by omega)
theorem NameOk.nosp {x : Str} (h : NameOk x) : 32 ∉ TL.tl x := fun hm => by
  have := letters_bd 32 (h.2.2 32 hm)
  omega
theorem names_sum : ∀ l : List Str, (∀ x ∈ l, NameOk x) → (l.map (·.length)).sum ≤ 8 * l.length
  | [], _ => Nat.le_refl _
  | x :: r, h => by
    have := names_sum r fun y hy => h y (List.mem_cons_of_mem _ hy)
    have := (h x List.mem_cons_self).2.1
    rw [List.map_cons, List.sum_cons, List.length_cons]
    omega
theorem names_wt : ∀ l : List Str, (∀ x ∈ l, NameOk x) → AV.wts (l.map .str) ≤ 84 * l.length
  | [], _ => Nat.le_refl _
  | x :: r, h => by
    have := names_wt r fun y hy => h y (List.mem_cons_of_mem _ hy)
    have := (h x List.mem_cons_self).2.1
    rw [List.map_cons, List.length_cons]
    unfold AV.wts AV.wt
    omega
end WC
/-! W52: typed programs as data: sizes, names -/
namespace WC
open PySem PySem.Spec PyProof.Rows L2
theorem waitNs_ok : ∀ n ∈ waitNs, PyData.strOk n = true := by decide +kernel
theorem markNs_ok : ∀ n ∈ markNs, PyData.strOk n = true := by decide +kernel
theorem failNs_ok : ∀ n ∈ failNs, PyData.strOk n = true := by decide +kernel
theorem waitKs_ok : ∀ ks ∈ waitKs, (∀ n ∈ ks, PyData.strOk n = true) ∧ ks.length ≤ 3 := by decide +kernel
theorem handKs_ok : ∀ ks ∈ handKs, (∀ n ∈ ks, PyData.strOk n = true) ∧ ks.length ≤ 3 := by decide +kernel
def NOk (l : List Str) : Prop := ∀ n ∈ l, PyData.strOk n = true
theorem NOk.left {a b : List Str} (h : NOk (a ++ b)) : NOk a := fun n hn => h n (List.mem_append_left _ hn)
theorem NOk.right {a b : List Str} (h : NOk (a ++ b)) : NOk b := fun n hn => h n (List.mem_append_right _ hn)
theorem NOk.head {a : Str} {b : List Str} (h : NOk (a :: b)) : PyData.strOk a = true := h a List.mem_cons_self
theorem NOk.tail {a : Str} {b : List Str} (h : NOk (a :: b)) : NOk b := fun n hn => h n (List.mem_cons_of_mem _ hn)
theorem fl_word (w : Str) (h : PyData.strOk w = true) : (AV.str w).fl = true := by unfold AV.fl; exact h
theorem words_ok : PyData.strOk s_wait = true ∧ PyData.strOk s_mark = true ∧ PyData.strOk s_fail = true ∧ PyData.strOk s_timeout = true ∧ PyData.strOk s_group = true ∧ PyData.strOk s_shield = true ∧ PyData.strOk s_guard = true ∧ PyData.strOk s_catch = true ∧ PyData.strOk s_swallow = true ∧ PyData.strOk s_handle = true := by decide +kernel
mutual
theorem Stm.enc_fl {ws : List Str} : ∀ s : Stm, s.gd ws → NOk s.blks → NOk s.tsks → s.enc.fl = true
  | .wait n ks, g, _, _ => by
    unfold Stm.gd at g
    unfold Stm.enc
    simp only [AV.fl, AV.fls, words_ok, waitNs_ok n g.1, strs_fl (waitKs_ok ks g.2).1, Bool.and_self]
  | .mark n, g, _, _ => by
    unfold Stm.gd at g
    unfold Stm.enc
    simp only [AV.fl, AV.fls, words_ok, markNs_ok n g, Bool.and_self]
  | .fail n, g, _, _ => by
    unfold Stm.gd at g
    unfold Stm.enc
    simp only [AV.fl, AV.fls, words_ok, failNs_ok n g, Bool.and_self]
  | .timeout n b, g, hb, ht => by
    unfold Stm.gd at g
    unfold Stm.blks at hb
    unfold Stm.tsks at ht
    unfold Stm.enc
    simp only [AV.fl, AV.fls, words_ok, hb.head, Bod.enc_fl b g.2 hb.tail ht, Bool.and_self]
  | .group n b cs, g, hb, ht => by
    unfold Stm.gd at g
    unfold Stm.blks at hb
    unfold Stm.tsks at ht
    unfold Stm.enc
    simp only [AV.fl, AV.fls, words_ok, hb.head, Bod.enc_fl b g.2.1 hb.tail.left ht.left, Chs.enc_fl cs g.2.2.1 hb.tail.right ht.right, Bool.and_self]
  | .shield b, g, hb, ht => by
    unfold Stm.gd at g
    unfold Stm.blks at hb
    unfold Stm.tsks at ht
    unfold Stm.enc
    simp only [AV.fl, AV.fls, words_ok, Bod.enc_fl b g.2 hb ht, Bool.and_self]
  | .guard b c, g, hb, ht => by
    unfold Stm.gd at g
    unfold Stm.blks at hb
    unfold Stm.tsks at ht
    unfold Stm.enc
    simp only [AV.fl, AV.fls, words_ok, Bod.enc_fl b g.2.1 hb.left ht.left, Bod.enc_fl c g.2.2 hb.right ht.right, Bool.and_self]
  | .catch_ b c, g, hb, ht => by
    unfold Stm.gd at g
    unfold Stm.blks at hb
    unfold Stm.tsks at ht
    unfold Stm.enc
    simp only [AV.fl, AV.fls, words_ok, Bod.enc_fl b g.2.1 hb.left ht.left, Bod.enc_fl c g.2.2 hb.right ht.right, Bool.and_self]
  | .swallow b c, g, hb, ht => by
    unfold Stm.gd at g
    unfold Stm.blks at hb
    unfold Stm.tsks at ht
    unfold Stm.enc
    simp only [AV.fl, AV.fls, words_ok, Bod.enc_fl b g.2.1 hb.left ht.left, Bod.enc_fl c g.2.2 hb.right ht.right, Bool.and_self]
  | .handle ks b c, g, hb, ht => by
    unfold Stm.gd at g
    unfold Stm.blks at hb
    unfold Stm.tsks at ht
    unfold Stm.enc
    simp only [AV.fl, AV.fls, words_ok, strs_fl (handKs_ok ks g.2.1).1, Bod.enc_fl b g.2.2.1 hb.left ht.left, Bod.enc_fl c g.2.2.2 hb.right ht.right, Bool.and_self]
theorem Bod.enc_fl {ws : List Str} : ∀ b : Bod, b.gd ws → NOk b.blks → NOk b.tsks → AV.fls b.enc = true
  | .nil, _, _, _ => rfl
  | .cons s r, g, hb, ht => by
    unfold Bod.gd at g
    unfold Bod.blks at hb
    unfold Bod.tsks at ht
    unfold Bod.enc AV.fls
    rw [Stm.enc_fl s g.1 hb.left ht.left, Bod.enc_fl r g.2 hb.right ht.right]
    rfl
theorem Chs.enc_fl {ws : List Str} : ∀ c : Chs, c.gd ws → NOk c.blks → NOk c.tsks → AV.fls c.enc = true
  | .nil, _, _, _ => rfl
  | .cons n b r, g, hb, ht => by
    unfold Chs.gd at g
    unfold Chs.blks at hb
    unfold Chs.tsks at ht
    unfold Chs.enc
    simp only [AV.fl, AV.fls, ht.head, Bod.enc_fl b g.1 hb.left ht.tail.left, Chs.enc_fl r g.2 hb.right ht.tail.right, Bool.and_self]
end
mutual
theorem Stm.enc_sz {ws : List Str} : ∀ s : Stm, s.gd ws → s.enc.sz + 1 ≤ 20 * s.cnt + 8 * s.tsks.length
  | .wait n ks, g => by
    unfold Stm.gd at g
    have := (waitKs_ok ks g.2).2
    have := strs_sz ks; simp only [Stm.enc, AV.sz, AV.szs, Stm.cnt, Stm.tsks, List.length_nil]
    omega
  | .mark n, g => by simp only [Stm.enc, AV.sz, AV.szs, Stm.cnt, Stm.tsks, List.length_nil]; omega
  | .fail n, g => by simp only [Stm.enc, AV.sz, AV.szs, Stm.cnt, Stm.tsks, List.length_nil]; omega
  | .timeout n b, g => by
    unfold Stm.gd at g
    have := Bod.enc_sz b g.2
    simp only [Stm.enc, AV.sz, AV.szs, Stm.cnt, Stm.tsks]
    omega
  | .group n b cs, g => by
    unfold Stm.gd at g
    have := Bod.enc_sz b g.2.1
    have := Chs.enc_sz cs g.2.2.1
    simp only [Stm.enc, AV.sz, AV.szs, Stm.cnt, Stm.tsks, List.length_append]
    omega
  | .shield b, g => by
    unfold Stm.gd at g
    have := Bod.enc_sz b g.2
    simp only [Stm.enc, AV.sz, AV.szs, Stm.cnt, Stm.tsks]
    omega
  | .guard b c, g => by
    unfold Stm.gd at g
    have := Bod.enc_sz b g.2.1
    have := Bod.enc_sz c g.2.2
    simp only [Stm.enc, AV.sz, AV.szs, Stm.cnt, Stm.tsks, List.length_append]
    omega
  | .catch_ b c, g => by
    unfold Stm.gd at g
    have := Bod.enc_sz b g.2.1
    have := Bod.enc_sz c g.2.2
    simp only [Stm.enc, AV.sz, AV.szs, Stm.cnt, Stm.tsks, List.length_append]
    omega
  | .swallow b c, g => by
    unfold Stm.gd at g
    have := Bod.enc_sz b g.2.1
    have := Bod.enc_sz c g.2.2
    simp only [Stm.enc, AV.sz, AV.szs, Stm.cnt, Stm.tsks, List.length_append]
    omega
  | .handle ks b c, g => by
    unfold Stm.gd at g
    have := (handKs_ok ks g.2.1).2
    have := Bod.enc_sz b g.2.2.1
    have := Bod.enc_sz c g.2.2.2
    have := strs_sz ks; simp only [Stm.enc, AV.sz, AV.szs, Stm.cnt, Stm.tsks, List.length_append]
    omega
theorem Bod.enc_sz {ws : List Str} : ∀ b : Bod, b.gd ws → AV.szs b.enc ≤ 20 * b.cnt + 8 * b.tsks.length + 1
  | .nil, _ => Nat.le_refl _
  | .cons s r, g => by
    unfold Bod.gd at g
    have := Stm.enc_sz s g.1
    have := Bod.enc_sz r g.2
    simp only [Bod.enc, AV.szs, Bod.cnt, Bod.tsks, List.length_append]
    omega
theorem Chs.enc_sz {ws : List Str} : ∀ c : Chs, c.gd ws → AV.szs c.enc ≤ 20 * c.cnt + 8 * c.tsks.length + 1
  | .nil, _ => Nat.le_refl _
  | .cons n b r, g => by
    unfold Chs.gd at g
    have := Bod.enc_sz b g.1
    have := Chs.enc_sz r g.2
    simp only [Chs.enc, AV.sz, AV.szs, Chs.cnt, Chs.tsks, List.length_append, List.length_cons]
    omega
end
mutual
theorem Stm.enc_dp : ∀ s : Stm, s.enc.dp ≤ 4 * s.dep
  | .wait n ks => by simp only [Stm.enc, AV.dp, AV.dps, strs_dp, Stm.dep]; omega
  | .mark n => by simp only [Stm.enc, AV.dp, AV.dps, Stm.dep]; omega
  | .fail n => by simp only [Stm.enc, AV.dp, AV.dps, Stm.dep]; omega
  | .timeout n b => by have := Bod.enc_dp b; simp only [Stm.enc, AV.dp, AV.dps, Stm.dep]; omega
  | .group n b cs => by have := Bod.enc_dp b; have := Chs.enc_dp cs; simp only [Stm.enc, AV.dp, AV.dps, Stm.dep]; omega
  | .shield b => by have := Bod.enc_dp b; simp only [Stm.enc, AV.dp, AV.dps, Stm.dep]; omega
  | .guard b c => by have := Bod.enc_dp b; have := Bod.enc_dp c; simp only [Stm.enc, AV.dp, AV.dps, Stm.dep]; omega
  | .catch_ b c => by have := Bod.enc_dp b; have := Bod.enc_dp c; simp only [Stm.enc, AV.dp, AV.dps, Stm.dep]; omega
  | .swallow b c => by have := Bod.enc_dp b; have := Bod.enc_dp c; simp only [Stm.enc, AV.dp, AV.dps, Stm.dep]; omega
  | .handle ks b c => by have := Bod.enc_dp b; have := Bod.enc_dp c; simp only [Stm.enc, AV.dp, AV.dps, strs_dp, Stm.dep]; omega
theorem Bod.enc_dp : ∀ b : Bod, AV.dps b.enc ≤ 4 * b.dep
  | .nil => Nat.le_refl _
  | .cons s r => by have := Stm.enc_dp s; have := Bod.enc_dp r; simp only [Bod.enc, AV.dps, Bod.dep]; omega
theorem Chs.enc_dp : ∀ c : Chs, AV.dps c.enc ≤ 4 * c.dep + 2
  | .nil => Nat.zero_le _
  | .cons n b r => by have := Bod.enc_dp b; have := Chs.enc_dp r; simp only [Chs.enc, AV.dp, AV.dps, Chs.dep]; omega
end
/-! ### what stands within a program -/
def InV (n d : Nat) (v : AV) : Prop := v.fl = true ∧ v.sz ≤ n ∧ v.dp ≤ d
theorem InV.mono {n d n' d' : Nat} {v : AV} (h : InV n d v) (a : n ≤ n') (b : d ≤ d') : InV n' d' v := ⟨h.1, Nat.le_trans h.2.1 a, Nat.le_trans h.2.2 b⟩
/-- the statements of a walk -/
def wSt : WI → List AV
  | .st _ s => [s.enc]
  | .ch _ => []
mutual
theorem Stm.in_ok (t : Str) : ∀ s : Stm, s.enc.fl = true → ∀ v ∈ (s.walk t).flatMap wSt, InV s.enc.sz s.enc.dp v
  | .wait _ _, _, v, h => by simp [Stm.walk] at h
  | .mark _, _, v, h => by simp [Stm.walk] at h
  | .fail _, _, v, h => by simp [Stm.walk] at h
  | .timeout x b, f, v, h => by
    simp only [Stm.enc, AV.fl, AV.fls, Bool.and_eq_true] at f
    refine (Bod.in_ok t b f.2.2.1 v (by simpa [Stm.walk] using h)).mono ?_ ?_ <;> (simp only [Stm.enc, AV.sz, AV.szs, AV.dp, AV.dps]; omega)
  | .group x b cs, f, v, h => by
    simp only [Stm.enc, AV.fl, AV.fls, Bool.and_eq_true] at f
    rw [Stm.walk, List.flatMap_append, List.mem_append] at h
    rcases h with h | h
    · refine (Bod.in_ok t b f.2.2.1 v h).mono ?_ ?_ <;> (simp only [Stm.enc, AV.sz, AV.szs, AV.dp, AV.dps]; omega)
    · refine (Chs.in_ok cs f.2.2.2.1 v h).mono ?_ ?_ <;> (simp only [Stm.enc, AV.sz, AV.szs, AV.dp, AV.dps]; omega)
  | .shield b, f, v, h => by
    simp only [Stm.enc, AV.fl, AV.fls, Bool.and_eq_true] at f
    refine (Bod.in_ok t b f.2.1 v (by simpa [Stm.walk] using h)).mono ?_ ?_ <;> (simp only [Stm.enc, AV.sz, AV.szs, AV.dp, AV.dps]; omega)
  | .guard b c, f, v, h => by
    simp only [Stm.enc, AV.fl, AV.fls, Bool.and_eq_true] at f
    rw [Stm.walk, List.flatMap_append, List.mem_append] at h
    rcases h with h | h
    · refine (Bod.in_ok t b f.2.1 v h).mono ?_ ?_ <;> (simp only [Stm.enc, AV.sz, AV.szs, AV.dp, AV.dps]; omega)
    · refine (Bod.in_ok t c f.2.2.1 v h).mono ?_ ?_ <;> (simp only [Stm.enc, AV.sz, AV.szs, AV.dp, AV.dps]; omega)
  | .catch_ b c, f, v, h => by
    simp only [Stm.enc, AV.fl, AV.fls, Bool.and_eq_true] at f
    rw [Stm.walk, List.flatMap_append, List.mem_append] at h
    rcases h with h | h
    · refine (Bod.in_ok t b f.2.1 v h).mono ?_ ?_ <;> (simp only [Stm.enc, AV.sz, AV.szs, AV.dp, AV.dps]; omega)
    · refine (Bod.in_ok t c f.2.2.1 v h).mono ?_ ?_ <;> (simp only [Stm.enc, AV.sz, AV.szs, AV.dp, AV.dps]; omega)
  | .swallow b c, f, v, h => by
    simp only [Stm.enc, AV.fl, AV.fls, Bool.and_eq_true] at f
    rw [Stm.walk, List.flatMap_append, List.mem_append] at h
    rcases h with h | h
    · refine (Bod.in_ok t b f.2.1 v h).mono ?_ ?_ <;> (simp only [Stm.enc, AV.sz, AV.szs, AV.dp, AV.dps]; omega)
    · refine (Bod.in_ok t c f.2.2.1 v h).mono ?_ ?_ <;> (simp only [Stm.enc, AV.sz, AV.szs, AV.dp, AV.dps]; omega)
  | .handle _ b c, f, v, h => by
    simp only [Stm.enc, AV.fl, AV.fls, Bool.and_eq_true] at f
    rw [Stm.walk, List.flatMap_append, List.mem_append] at h
    rcases h with h | h
    · refine (Bod.in_ok t b f.2.2.1 v h).mono ?_ ?_ <;> (simp only [Stm.enc, AV.sz, AV.szs, AV.dp, AV.dps]; omega)
    · refine (Bod.in_ok t c f.2.2.2.1 v h).mono ?_ ?_ <;> (simp only [Stm.enc, AV.sz, AV.szs, AV.dp, AV.dps]; omega)
theorem Bod.in_ok (t : Str) : ∀ b : Bod, AV.fls b.enc = true → ∀ v ∈ (b.walk t).flatMap wSt, InV (AV.szs b.enc) (AV.dps b.enc) v
  | .nil, _, v, h => by simp [Bod.walk] at h
  | .cons s r, f, v, h => by
    simp only [Bod.enc, AV.fls, Bool.and_eq_true] at f
    rw [Bod.walk, List.flatMap_cons, List.flatMap_append, List.mem_append, List.mem_append] at h
    rcases h with h | h | h
    · have : v = s.enc := by simpa [wSt] using h
      subst this
      refine InV.mono ⟨f.1, Nat.le_refl _, Nat.le_refl _⟩ ?_ ?_ <;> (simp only [Bod.enc, AV.szs, AV.dps]; omega)
    · refine (Stm.in_ok t s f.1 v h).mono ?_ ?_ <;> (simp only [Bod.enc, AV.szs, AV.dps]; omega)
    · refine (Bod.in_ok t r f.2 v h).mono ?_ ?_ <;> (simp only [Bod.enc, AV.szs, AV.dps]; omega)
theorem Chs.in_ok : ∀ c : Chs, AV.fls c.enc = true → ∀ v ∈ c.walk.flatMap wSt, InV (AV.szs c.enc) (AV.dps c.enc) v
  | .nil, _, v, h => by simp [Chs.walk] at h
  | .cons n b r, f, v, h => by
    simp only [Chs.enc, AV.fl, AV.fls, Bool.and_eq_true] at f
    rw [Chs.walk, List.flatMap_cons, List.flatMap_append, List.mem_append, List.mem_append] at h
    rcases h with h | h | h
    · simp [wSt] at h
    · refine (Bod.in_ok n b f.1.2.1 v h).mono ?_ ?_ <;> (simp only [Chs.enc, AV.sz, AV.szs, AV.dp, AV.dps]; omega)
    · refine (Chs.in_ok r f.2 v h).mono ?_ ?_ <;> (simp only [Chs.enc, AV.sz, AV.szs, AV.dp, AV.dps]; omega)
end
/-! ### walks: length, names -/
mutual
theorem Stm.walk_len (t : Str) : ∀ s : Stm, (s.walk t).length + 1 = s.cnt + s.tsks.length
  | .wait _ _ => rfl
  | .mark _ => rfl
  | .fail _ => rfl
  | .timeout _ b => by have := Bod.walk_len t b; simp only [Stm.walk, Stm.cnt, Stm.tsks]; omega
  | .group _ b cs => by have := Bod.walk_len t b; have := Chs.walk_len cs; simp only [Stm.walk, Stm.cnt, Stm.tsks, List.length_append]; omega
  | .shield b => by have := Bod.walk_len t b; simp only [Stm.walk, Stm.cnt, Stm.tsks]; omega
  | .guard b c => by have := Bod.walk_len t b; have := Bod.walk_len t c; simp only [Stm.walk, Stm.cnt, Stm.tsks, List.length_append]; omega
  | .catch_ b c => by have := Bod.walk_len t b; have := Bod.walk_len t c; simp only [Stm.walk, Stm.cnt, Stm.tsks, List.length_append]; omega
  | .swallow b c => by have := Bod.walk_len t b; have := Bod.walk_len t c; simp only [Stm.walk, Stm.cnt, Stm.tsks, List.length_append]; omega
  | .handle _ b c => by have := Bod.walk_len t b; have := Bod.walk_len t c; simp only [Stm.walk, Stm.cnt, Stm.tsks, List.length_append]; omega
theorem Bod.walk_len (t : Str) : ∀ b : Bod, (b.walk t).length = b.cnt + b.tsks.length
  | .nil => rfl
  | .cons s r => by have := Stm.walk_len t s; have := Bod.walk_len t r; simp only [Bod.walk, Bod.cnt, Bod.tsks, List.length_append, List.length_cons]; omega
theorem Chs.walk_len : ∀ c : Chs, c.walk.length = c.cnt + c.tsks.length
  | .nil => rfl
  | .cons n b r => by have := Bod.walk_len n b; have := Chs.walk_len r; simp only [Chs.walk, Chs.cnt, Chs.tsks, List.length_append, List.length_cons]; omega
end
mutual
theorem Stm.nm_blks (w t : Str) : ∀ s : Stm, ∀ n, (n ∈ s.nm w ∨ n ∈ (s.walk t).flatMap (WI.nm w)) → n ∈ s.blks
  | .wait _ _, n, h => by simp [Stm.nm, Stm.walk] at h
  | .mark _, n, h => by simp [Stm.nm, Stm.walk] at h
  | .fail _, n, h => by simp [Stm.nm, Stm.walk] at h
  | .timeout x b, n, h => by
    unfold Stm.blks
    rcases h with h | h
    · have h' : n ∈ (if w = s_timeout then [x] else []) := h
      by_cases q : w = s_timeout
      · rw [if_pos q] at h'; simp at h'; simp [h']
      · rw [if_neg q] at h'; simp at h'
    · exact List.mem_cons_of_mem _ (Bod.nm_blks w t b n (by simpa [Stm.walk] using h))
  | .group x b cs, n, h => by
    unfold Stm.blks
    rcases h with h | h
    · have h' : n ∈ (if w = s_group then [x] else []) := h
      by_cases q : w = s_group
      · rw [if_pos q] at h'; simp at h'; simp [h']
      · rw [if_neg q] at h'; simp at h'
    · rw [Stm.walk, List.flatMap_append, List.mem_append] at h
      refine List.mem_cons_of_mem _ (List.mem_append.mpr ?_)
      exact h.imp (Bod.nm_blks w t b n) (Chs.nm_blks w cs n)
  | .shield b, n, h => by
    unfold Stm.blks
    rcases h with h | h
    · simp [Stm.nm] at h
    · exact Bod.nm_blks w t b n (by simpa [Stm.walk] using h)
  | .guard b c, n, h => by
    unfold Stm.blks
    rcases h with h | h
    · simp [Stm.nm] at h
    · rw [Stm.walk, List.flatMap_append, List.mem_append] at h
      exact List.mem_append.mpr (h.imp (Bod.nm_blks w t b n) (Bod.nm_blks w t c n))
  | .catch_ b c, n, h => by
    unfold Stm.blks
    rcases h with h | h
    · simp [Stm.nm] at h
    · rw [Stm.walk, List.flatMap_append, List.mem_append] at h
      exact List.mem_append.mpr (h.imp (Bod.nm_blks w t b n) (Bod.nm_blks w t c n))
  | .swallow b c, n, h => by
    unfold Stm.blks
    rcases h with h | h
    · simp [Stm.nm] at h
    · rw [Stm.walk, List.flatMap_append, List.mem_append] at h
      exact List.mem_append.mpr (h.imp (Bod.nm_blks w t b n) (Bod.nm_blks w t c n))
  | .handle _ b c, n, h => by
    unfold Stm.blks
    rcases h with h | h
    · simp [Stm.nm] at h
    · rw [Stm.walk, List.flatMap_append, List.mem_append] at h
      exact List.mem_append.mpr (h.imp (Bod.nm_blks w t b n) (Bod.nm_blks w t c n))
theorem Bod.nm_blks (w t : Str) : ∀ b : Bod, ∀ n, n ∈ (b.walk t).flatMap (WI.nm w) → n ∈ b.blks
  | .nil, n, h => by simp [Bod.walk] at h
  | .cons s r, n, h => by
    rw [Bod.walk, List.flatMap_cons, List.flatMap_append, List.mem_append, List.mem_append] at h
    unfold Bod.blks
    rcases h with h | h | h
    · exact List.mem_append_left _ (Stm.nm_blks w t s n (.inl h))
    · exact List.mem_append_left _ (Stm.nm_blks w t s n (.inr h))
    · exact List.mem_append_right _ (Bod.nm_blks w t r n h)
theorem Chs.nm_blks (w : Str) : ∀ c : Chs, ∀ n, n ∈ c.walk.flatMap (WI.nm w) → n ∈ c.blks
  | .nil, n, h => by simp [Chs.walk] at h
  | .cons x b r, n, h => by
    rw [Chs.walk, List.flatMap_cons, List.flatMap_append, List.mem_append, List.mem_append] at h
    unfold Chs.blks
    rcases h with h | h | h
    · simp [WI.nm] at h
    · exact List.mem_append_left _ (Bod.nm_blks w x b n h)
    · exact List.mem_append_right _ (Chs.nm_blks w r n h)
end
theorem nm_len (w : Str) (l : List WI) : (l.flatMap (WI.nm w)).length ≤ l.length := by
  induction l with
  | nil => exact Nat.le_refl _
  | cons x r ih =>
    rw [List.flatMap_cons, List.length_append, List.length_cons]
    have : (WI.nm w x).length ≤ 1 := by
      cases x with
      | ch t => simp [WI.nm]
      | st t s => cases s <;> simp [WI.nm, Stm.nm] <;> split <;> simp
    omega
end WC
set_option maxHeartbeats 0
namespace K25
open PySem PySem.Spec PyProof.Rows L2 WC
def top (i : Nat) : Stmt := PySem.Challenge.pw_whosecancel_k25_texts_of_events.main.body.getD i (.Pass ⟨0, 0, 0, 0⟩)
def parts : Stmt → List Stmt
  | .ClassDef _ _ _ b _ _ _ _ _ _ _ => b
  | _ => []
def mem (i j : Nat) : Stmt := (parts (top i)).getD j (.Pass ⟨0, 0, 0, 0⟩)
/-- is_name -/
def D0 : DefP := ⟨⟨((⟨#[105, 115, 95, 110, 97, 109, 101]⟩ : PySem.Str), none), (⟨#[105, 115, 95, 110, 97, 109, 101]⟩ : PySem.Str), (⟨#[105, 115, 95, 110, 97, 109, 101]⟩ : PySem.Str), defArgs (top 6), defBody (top 6), defScope (top 6), [], []⟩, [(⟨#[116, 104, 105, 110, 103]⟩ : PySem.Str)], [(⟨#[116, 104, 105, 110, 103]⟩ : PySem.Str), (⟨#[46, 48]⟩ : PySem.Str), (⟨#[115, 105, 103, 110]⟩ : PySem.Str)]⟩
def T0 : WC.FI := ⟨1, 3, [(.ret (.and (.bc .isi [(.v 0), (.c (.ty "str"))]) (.and (.chain .LtE .LtE (.c (.int (1))) (.bc .len [(.v 0)]) (.c (.int (8)))) (.one (.bc .all [(.lc none (.iVal (.v 0)) (.gName 2) [] (.cmp .In (.v 2) (.c (.str (⟨#[97, 98, 99, 100, 101, 102, 103, 104, 105, 106, 107, 108, 109, 110, 111, 112, 113, 114, 115, 116, 117, 118, 119, 120, 121, 122]⟩ : PySem.Str)))) [1, 2])])))))]⟩
/-- event_text -/
def D1 : DefP := ⟨⟨((⟨#[101, 118, 101, 110, 116, 95, 116, 101, 120, 116]⟩ : PySem.Str), none), (⟨#[101, 118, 101, 110, 116, 95, 116, 101, 120, 116]⟩ : PySem.Str), (⟨#[101, 118, 101, 110, 116, 95, 116, 101, 120, 116]⟩ : PySem.Str), defArgs (top 9), defBody (top 9), defScope (top 9), [], []⟩, [(⟨#[101, 118, 101, 110, 116]⟩ : PySem.Str)], [(⟨#[101, 118, 101, 110, 116]⟩ : PySem.Str)]⟩
def T1 : WC.FI := ⟨1, 1, [(.ret (.sm .join (.c (.str (⟨#[32]⟩ : PySem.Str))) [(.v 0)]))]⟩
/-- read_event -/
def D2 : DefP := ⟨⟨((⟨#[114, 101, 97, 100, 95, 101, 118, 101, 110, 116]⟩ : PySem.Str), none), (⟨#[114, 101, 97, 100, 95, 101, 118, 101, 110, 116]⟩ : PySem.Str), (⟨#[114, 101, 97, 100, 95, 101, 118, 101, 110, 116]⟩ : PySem.Str), defArgs (top 10), defBody (top 10), defScope (top 10), [], []⟩, [(⟨#[116, 101, 120, 116]⟩ : PySem.Str)], [(⟨#[116, 101, 120, 116]⟩ : PySem.Str), (⟨#[119, 111, 114, 100, 115]⟩ : PySem.Str), (⟨#[46, 48]⟩ : PySem.Str), (⟨#[119, 111, 114, 100]⟩ : PySem.Str)]⟩
def T2 : WC.FI := ⟨1, 4, [(.asg (.gName 1) (.ife (.bc .isi [(.v 0), (.c (.ty "str"))]) (.sm .split (.v 0) [(.c (.str (⟨#[32]⟩ : PySem.Str)))]) (.lst []))), (.ifs (.or (.cmp .Eq (.v 1) (.lst [])) (.or (.cmp .NotIn (.ix (.v 1) (.c (.int (0)))) (.c (.glo (⟨#[69, 86, 69, 78, 84, 95, 83, 73, 90, 69, 83]⟩ : PySem.Str)))) (.one (.cmp .NotEq (.bc .len [(.v 1)]) (.ix (.c (.glo (⟨#[69, 86, 69, 78, 84, 95, 83, 73, 90, 69, 83]⟩ : PySem.Str))) (.ix (.v 1) (.c (.int (0))))))))) [.no] []), (.ifs (.not (.bc .all [(.lc none (.iVal (.v 1)) (.gName 3) [] (.call 0 1 1 [] [] [(.v 3)] []) [2, 3])])) [.no] []), (.ret (.bc .tuple [(.v 1)]))]⟩
/-- _law_source -/
def D3 : DefP := ⟨⟨((⟨#[95, 108, 97, 119, 95, 115, 111, 117, 114, 99, 101]⟩ : PySem.Str), none), (⟨#[95, 108, 97, 119, 95, 115, 111, 117, 114, 99, 101]⟩ : PySem.Str), (⟨#[95, 108, 97, 119, 95, 115, 111, 117, 114, 99, 101]⟩ : PySem.Str), defArgs (top 12), defBody (top 12), defScope (top 12), [], []⟩, [(⟨#[95, 108, 97, 119, 95, 115, 99, 114, 105, 112, 116]⟩ : PySem.Str), (⟨#[95, 108, 97, 119, 95, 112, 108, 97, 99, 101]⟩ : PySem.Str)], [(⟨#[95, 108, 97, 119, 95, 115, 99, 114, 105, 112, 116]⟩ : PySem.Str), (⟨#[95, 108, 97, 119, 95, 112, 108, 97, 99, 101]⟩ : PySem.Str), (⟨#[95, 108, 97, 119, 95, 99, 101, 108, 108]⟩ : PySem.Str), (⟨#[95, 108, 97, 119, 95, 102, 97, 114]⟩ : PySem.Str)]⟩
def T3 : WC.FI := ⟨2, 4, [(.asg (.gName 2) (.ife (.cmp .Lt (.v 1) (.bc .len [(.v 0)])) (.ix (.v 0) (.v 1)) (.c (.int (0))))), (.asg (.gName 3) (.ife (.cmp .GtE (.bc .abs [(.v 2)]) (.bin .Pow (.c (.int (10))) (.c (.int (18))))) (.bc .abs [(.v 2)]) (.c (.int (0))))), (.ret (.lst [(.v 3), (.bin .Add (.bin .Add (.bin .Add (.bin .Mod (.v 2) (.c (.int (1000000000000000003)))) (.bin .Mult (.bin .Mult (.c (.int (8887))) (.v 1)) (.v 1))) (.bin .Mult (.c (.int (61))) (.v 1))) (.c (.int (11)))), (.c (.int (0)))]))]⟩
/-- _law_draw -/
def D4 : DefP := ⟨⟨((⟨#[95, 108, 97, 119, 95, 100, 114, 97, 119]⟩ : PySem.Str), none), (⟨#[95, 108, 97, 119, 95, 100, 114, 97, 119]⟩ : PySem.Str), (⟨#[95, 108, 97, 119, 95, 100, 114, 97, 119]⟩ : PySem.Str), defArgs (top 13), defBody (top 13), defScope (top 13), [], []⟩, [(⟨#[95, 108, 97, 119, 95, 115, 111, 117, 114, 99, 101, 95, 104, 101, 114, 101]⟩ : PySem.Str), (⟨#[95, 108, 97, 119, 95, 111, 102, 116, 101, 110]⟩ : PySem.Str)], [(⟨#[95, 108, 97, 119, 95, 115, 111, 117, 114, 99, 101, 95, 104, 101, 114, 101]⟩ : PySem.Str), (⟨#[95, 108, 97, 119, 95, 111, 102, 116, 101, 110]⟩ : PySem.Str), (⟨#[95, 108, 97, 119, 95, 100, 105, 103, 105, 116]⟩ : PySem.Str), (⟨#[95, 108, 97, 119, 95, 112, 114, 105, 109, 101, 115]⟩ : PySem.Str), (⟨#[95, 108, 97, 119, 95, 116, 117, 114, 110]⟩ : PySem.Str), (⟨#[95, 108, 97, 119, 95, 98, 97, 115, 101]⟩ : PySem.Str), (⟨#[95, 108, 97, 119, 95, 102, 111, 117, 110, 100]⟩ : PySem.Str)]⟩
def T4 : WC.FI := ⟨2, 7, [(.ifs (.cmp .Gt (.ix (.v 0) (.c (.int (0)))) (.c (.int (0)))) [(.asg (.gName 2) (.bin .Mod (.ix (.v 0) (.c (.int (0)))) (.v 1))), (.asg (.gSub (.v 0) (.c (.int (0)))) (.bin .FloorDiv (.ix (.v 0) (.c (.int (0)))) (.v 1))), (.ret (.v 2))] []), (.asg (.gName 3) (.tup [(.c (.int (2147483647))), (.c (.int (2147483629))), (.c (.int (2147483587))), (.c (.int (2147483579))), (.c (.int (2147483563))), (.c (.int (2147483549))), (.c (.int (2147483543))), (.c (.int (2147483497)))])), (.asg (.gSub (.v 0) (.c (.int (2)))) (.bin .Add (.ix (.v 0) (.c (.int (2)))) (.c (.int (1))))), (.asg (.gName 4) (.ix (.v 0) (.c (.int (2))))), (.asg (.gName 5) (.bin .Add (.bin .Add (.bin .Mult (.ix (.v 0) (.c (.int (1)))) (.bin .Add (.bin .Mult (.c (.int (2))) (.v 4)) (.c (.int (3))))) (.bin .Mult (.bin .Mult (.c (.int (5923))) (.v 4)) (.v 4))) (.c (.int (71))))), (.asg (.gName 6) (.bin .Mod (.bin .Pow (.v 5) (.c (.int (3)))) (.ix (.v 3) (.bin .Mod (.v 4) (.c (.int (8))))))), (.ret (.bin .Mod (.bin .FloorDiv (.bin .Mod (.bin .Mult (.v 6) (.bin .Add (.bin .FloorDiv (.v 6) (.c (.int (4099)))) (.c (.int (37))))) (.ix (.v 3) (.bin .Mod (.bin .Add (.v 4) (.c (.int (5)))) (.c (.int (8)))))) (.c (.int (16)))) (.v 1)))]⟩
/-- _law_choice -/
def D5 : DefP := ⟨⟨((⟨#[95, 108, 97, 119, 95, 99, 104, 111, 105, 99, 101]⟩ : PySem.Str), none), (⟨#[95, 108, 97, 119, 95, 99, 104, 111, 105, 99, 101]⟩ : PySem.Str), (⟨#[95, 108, 97, 119, 95, 99, 104, 111, 105, 99, 101]⟩ : PySem.Str), defArgs (top 14), defBody (top 14), defScope (top 14), [], []⟩, [(⟨#[95, 108, 97, 119, 95, 115, 111, 117, 114, 99, 101, 95, 104, 101, 114, 101]⟩ : PySem.Str), (⟨#[95, 108, 97, 119, 95, 115, 111, 109, 101]⟩ : PySem.Str)], [(⟨#[95, 108, 97, 119, 95, 115, 111, 117, 114, 99, 101, 95, 104, 101, 114, 101]⟩ : PySem.Str), (⟨#[95, 108, 97, 119, 95, 115, 111, 109, 101]⟩ : PySem.Str)]⟩
def T5 : WC.FI := ⟨2, 2, [(.ret (.ix (.v 1) (.call 4 2 2 [] [] [(.v 0), (.bc .len [(.v 1)])] [])))]⟩
/-- _law_name -/
def D6 : DefP := ⟨⟨((⟨#[95, 108, 97, 119, 95, 110, 97, 109, 101]⟩ : PySem.Str), none), (⟨#[95, 108, 97, 119, 95, 110, 97, 109, 101]⟩ : PySem.Str), (⟨#[95, 108, 97, 119, 95, 110, 97, 109, 101]⟩ : PySem.Str), defArgs (top 15), defBody (top 15), defScope (top 15), [], []⟩, [(⟨#[95, 108, 97, 119, 95, 115, 111, 117, 114, 99, 101, 95, 104, 101, 114, 101]⟩ : PySem.Str)], [(⟨#[95, 108, 97, 119, 95, 115, 111, 117, 114, 99, 101, 95, 104, 101, 114, 101]⟩ : PySem.Str), (⟨#[46, 48]⟩ : PySem.Str), (⟨#[95, 108, 97, 119, 95, 107]⟩ : PySem.Str)]⟩
def T6 : WC.FI := ⟨1, 3, [(.ret (.sm .join (.c (.str (⟨#[]⟩ : PySem.Str))) [(.lc none (.iRng1 [(.bin .Add (.c (.int (1))) (.call 4 2 2 [] [] [(.v 0), (.c (.int (8)))] []))]) (.gName 2) [] (.call 5 2 2 [] [] [(.v 0), (.c (.str (⟨#[97, 98, 99, 109, 120, 121, 122]⟩ : PySem.Str)))] []) [1, 2])]))]⟩
/-- law -/
def D7 : DefP := ⟨⟨((⟨#[108, 97, 119]⟩ : PySem.Str), none), (⟨#[108, 97, 119]⟩ : PySem.Str), (⟨#[108, 97, 119]⟩ : PySem.Str), defArgs (top 16), defBody (top 16), defScope (top 16), [], []⟩, [(⟨#[95, 108, 97, 119, 95, 115, 99, 114, 105, 112, 116]⟩ : PySem.Str)], [(⟨#[95, 108, 97, 119, 95, 115, 99, 114, 105, 112, 116]⟩ : PySem.Str), (⟨#[95, 108, 97, 119, 95, 112, 108, 97, 99, 101]⟩ : PySem.Str), (⟨#[95, 108, 97, 119, 95, 115, 111, 117, 114, 99, 101, 95, 104, 101, 114, 101]⟩ : PySem.Str), (⟨#[95, 108, 97, 119, 95, 116, 117, 114, 110]⟩ : PySem.Str), (⟨#[95, 108, 97, 119, 95, 119, 111, 114, 100]⟩ : PySem.Str), (⟨#[95, 108, 97, 119, 95, 101, 118, 101, 110, 116]⟩ : PySem.Str)]⟩
def T7 : WC.FI := ⟨1, 6, [(.for_ none (.gName 1) (.iRng1 [(.bc .max [(.c (.int (2))), (.bc .min [(.c (.int (4))), (.bc .len [(.v 0)])])])]) [(.asg (.gName 2) (.call 3 2 2 [] [] [(.v 0), (.v 1)] [])), (.for_ none (.gName 3) (.iRng1 [(.c (.int (20)))]) [(.asg (.gName 4) (.call 5 2 2 [] [] [(.v 2), (.lst [(.c (.str (⟨#[114, 101, 115, 117, 109, 101]⟩ : PySem.Str))), (.c (.str (⟨#[114, 101, 113, 117, 101, 115, 116]⟩ : PySem.Str))), (.c (.str (⟨#[101, 120, 112, 105, 114, 101]⟩ : PySem.Str))), (.c (.str (⟨#[102, 97, 105, 108]⟩ : PySem.Str)))])] [])), (.asg (.gName 5) (.tup [(.v 4), (.call 6 1 1 [] [] [(.v 2)] [])])), (.ifs (.cmp .Eq (.v 4) (.c (.str (⟨#[102, 97, 105, 108]⟩ : PySem.Str)))) [(.asg (.gName 5) (.bin .Add (.v 5) (.tup [(.call 6 1 1 [] [] [(.v 2)] [])])))] []), (.ifs (.or (.cmp .NotEq (.call 1 1 1 [] [] [(.v 5)] []) (.sm .join (.c (.str (⟨#[32]⟩ : PySem.Str))) [(.v 5)])) (.one (.cmp .NotEq (.bc .repr [(.call 2 1 1 [] [] [(.sm .join (.c (.str (⟨#[32]⟩ : PySem.Str))) [(.v 5)])] [])]) (.bc .repr [(.v 5)])))) [(.ret (.c (.bl false)))] [])])]), (.ret (.c (.bl true)))]⟩
def L : LawP where
  defs := [D0, D1, D2, D3, D4, D5, D6, D7]
  globs := [((⟨#[77, 79, 83, 84, 95, 76, 69, 84, 84, 69, 82, 83]⟩ : PySem.Str), (.int (8))), ((⟨#[76, 69, 84, 84, 69, 82, 83]⟩ : PySem.Str), (.str (⟨#[97, 98, 99, 100, 101, 102, 103, 104, 105, 106, 107, 108, 109, 110, 111, 112, 113, 114, 115, 116, 117, 118, 119, 120, 121, 122]⟩ : PySem.Str))), ((⟨#[69, 86, 69, 78, 84, 95, 83, 73, 90, 69, 83]⟩ : PySem.Str), (.glo (⟨#[69, 86, 69, 78, 84, 95, 83, 73, 90, 69, 83]⟩ : PySem.Str)))]
  frees := [(⟨#[105, 115, 105, 110, 115, 116, 97, 110, 99, 101]⟩ : PySem.Str), (⟨#[115, 116, 114]⟩ : PySem.Str), (⟨#[108, 101, 110]⟩ : PySem.Str), (⟨#[97, 108, 108]⟩ : PySem.Str), (⟨#[116, 117, 112, 108, 101]⟩ : PySem.Str), (⟨#[97, 98, 115]⟩ : PySem.Str), (⟨#[114, 97, 110, 103, 101]⟩ : PySem.Str), (⟨#[109, 97, 120]⟩ : PySem.Str), (⟨#[109, 105, 110]⟩ : PySem.Str), (⟨#[114, 101, 112, 114]⟩ : PySem.Str)]
  fixs := [((⟨#[105, 115, 95, 110, 97, 109, 101]⟩ : PySem.Str), 0), ((⟨#[101, 118, 101, 110, 116, 95, 116, 101, 120, 116]⟩ : PySem.Str), 1), ((⟨#[114, 101, 97, 100, 95, 101, 118, 101, 110, 116]⟩ : PySem.Str), 2), ((⟨#[95, 108, 97, 119, 95, 115, 111, 117, 114, 99, 101]⟩ : PySem.Str), 3), ((⟨#[95, 108, 97, 119, 95, 100, 114, 97, 119]⟩ : PySem.Str), 4), ((⟨#[95, 108, 97, 119, 95, 99, 104, 111, 105, 99, 101]⟩ : PySem.Str), 5), ((⟨#[95, 108, 97, 119, 95, 110, 97, 109, 101]⟩ : PySem.Str), 6), ((⟨#[108, 97, 119]⟩ : PySem.Str), 7)]
  cixs := []
  mths := []
  shapes := [((0, 1, []), (1, [])), ((1, 1, []), (1, [])), ((2, 1, []), (1, [])), ((3, 2, []), (2, [])), ((4, 2, []), (2, [])), ((5, 2, []), (2, [])), ((6, 1, []), (1, [])), ((7, 1, []), (1, []))]
  nos := []
  tabs := [((⟨#[69, 86, 69, 78, 84, 95, 83, 73, 90, 69, 83]⟩ : PySem.Str), [((⟨#[114, 101, 115, 117, 109, 101]⟩ : PySem.Str), (.int (2))), ((⟨#[114, 101, 113, 117, 101, 115, 116]⟩ : PySem.Str), (.int (2))), ((⟨#[101, 120, 112, 105, 114, 101]⟩ : PySem.Str), (.int (2))), ((⟨#[102, 97, 105, 108]⟩ : PySem.Str), (.int (3)))])]
  vals := []
def T : List WC.FI := [T0, T1, T2, T3, T4, T5, T6, T7]
theorem c0 : L.comp D0 = some T0.body := by kernel_rfl
theorem s0 : FnScope D0.N D0.ps D0.d.scope := ⟨rfl, rfl, rfl, by decide +kernel, by decide +kernel, by decide +kernel, by decide +kernel⟩
theorem c1 : L.comp D1 = some T1.body := by kernel_rfl
theorem s1 : FnScope D1.N D1.ps D1.d.scope := ⟨rfl, rfl, rfl, by decide +kernel, by decide +kernel, by decide +kernel, by decide +kernel⟩
theorem c2 : L.comp D2 = some T2.body := by kernel_rfl
theorem s2 : FnScope D2.N D2.ps D2.d.scope := ⟨rfl, rfl, rfl, by decide +kernel, by decide +kernel, by decide +kernel, by decide +kernel⟩
theorem c3 : L.comp D3 = some T3.body := by kernel_rfl
theorem s3 : FnScope D3.N D3.ps D3.d.scope := ⟨rfl, rfl, rfl, by decide +kernel, by decide +kernel, by decide +kernel, by decide +kernel⟩
theorem c4 : L.comp D4 = some T4.body := by kernel_rfl
theorem s4 : FnScope D4.N D4.ps D4.d.scope := ⟨rfl, rfl, rfl, by decide +kernel, by decide +kernel, by decide +kernel, by decide +kernel⟩
theorem c5 : L.comp D5 = some T5.body := by kernel_rfl
theorem s5 : FnScope D5.N D5.ps D5.d.scope := ⟨rfl, rfl, rfl, by decide +kernel, by decide +kernel, by decide +kernel, by decide +kernel⟩
theorem c6 : L.comp D6 = some T6.body := by kernel_rfl
theorem s6 : FnScope D6.N D6.ps D6.d.scope := ⟨rfl, rfl, rfl, by decide +kernel, by decide +kernel, by decide +kernel, by decide +kernel⟩
theorem c7 : L.comp D7 = some T7.body := by kernel_rfl
theorem s7 : FnScope D7.N D7.ps D7.d.scope := ⟨rfl, rfl, rfl, by decide +kernel, by decide +kernel, by decide +kernel, by decide +kernel⟩
theorem comp : CompL L L.defs T :=
  .cons c0 rfl rfl (.cons c1 rfl rfl (.cons c2 rfl rfl (.cons c3 rfl rfl (.cons c4 rfl rfl (.cons c5 rfl rfl (.cons c6 rfl rfl (.cons c7 rfl rfl (.nil))))))))
theorem sc : WC.All (fun D : DefP => FnScope D.N D.ps D.d.scope) L.defs :=
  .cons s0 (.cons s1 (.cons s2 (.cons s3 (.cons s4 (.cons s5 (.cons s6 (.cons s7 (.nil))))))))
theorem h0 (K : PySem.W.Frag) (a0 : Addr) : ShOk L K a0 ((0, 1, []), (1, [])) := ⟨D0, rfl, rfl, fun fd F => kba_full F fun kV doc pm an cdv ct us ws h1 h2 => match us, ws, h1, h2 with | [_], [], _, _ => by kernel_rfl⟩
theorem h1 (K : PySem.W.Frag) (a0 : Addr) : ShOk L K a0 ((1, 1, []), (1, [])) := ⟨D1, rfl, rfl, fun fd F => kba_full F fun kV doc pm an cdv ct us ws h1 h2 => match us, ws, h1, h2 with | [_], [], _, _ => by kernel_rfl⟩
theorem h2 (K : PySem.W.Frag) (a0 : Addr) : ShOk L K a0 ((2, 1, []), (1, [])) := ⟨D2, rfl, rfl, fun fd F => kba_full F fun kV doc pm an cdv ct us ws h1 h2 => match us, ws, h1, h2 with | [_], [], _, _ => by kernel_rfl⟩
theorem h3 (K : PySem.W.Frag) (a0 : Addr) : ShOk L K a0 ((3, 2, []), (2, [])) := ⟨D3, rfl, rfl, fun fd F => kba_full F fun kV doc pm an cdv ct us ws h1 h2 => match us, ws, h1, h2 with | [_, _], [], _, _ => by kernel_rfl⟩
theorem h4 (K : PySem.W.Frag) (a0 : Addr) : ShOk L K a0 ((4, 2, []), (2, [])) := ⟨D4, rfl, rfl, fun fd F => kba_full F fun kV doc pm an cdv ct us ws h1 h2 => match us, ws, h1, h2 with | [_, _], [], _, _ => by kernel_rfl⟩
theorem h5 (K : PySem.W.Frag) (a0 : Addr) : ShOk L K a0 ((5, 2, []), (2, [])) := ⟨D5, rfl, rfl, fun fd F => kba_full F fun kV doc pm an cdv ct us ws h1 h2 => match us, ws, h1, h2 with | [_, _], [], _, _ => by kernel_rfl⟩
theorem h6 (K : PySem.W.Frag) (a0 : Addr) : ShOk L K a0 ((6, 1, []), (1, [])) := ⟨D6, rfl, rfl, fun fd F => kba_full F fun kV doc pm an cdv ct us ws h1 h2 => match us, ws, h1, h2 with | [_], [], _, _ => by kernel_rfl⟩
theorem h7 (K : PySem.W.Frag) (a0 : Addr) : ShOk L K a0 ((7, 1, []), (1, [])) := ⟨D7, rfl, rfl, fun fd F => kba_full F fun kV doc pm an cdv ct us ws h1 h2 => match us, ws, h1, h2 with | [_], [], _, _ => by kernel_rfl⟩
theorem sh (K : PySem.W.Frag) (a0 : Addr) : WC.All (ShOk L K a0) L.shapes :=
  .cons (h0 K a0) (.cons (h1 K a0) (.cons (h2 K a0) (.cons (h3 K a0) (.cons (h4 K a0) (.cons (h5 K a0) (.cons (h6 K a0) (.cons (h7 K a0) (.nil))))))))
theorem st : L.stat = true := by decide +kernel
abbrev hk : PySem.W.Hook := He.hookX 6 L.facts L.fn L.ts [] L.ex
abbrev no : Str → Str → Bool := L.no
abbrev tb : KTab := L.tab
abbrev PG : WC.Prog := L.prog T
abbrev S_abcdefghijklmnopqrstuvwxyz : PySem.Str := (⟨#[97, 98, 99, 100, 101, 102, 103, 104, 105, 106, 107, 108, 109, 110, 111, 112, 113, 114, 115, 116, 117, 118, 119, 120, 121, 122]⟩ : PySem.Str)
abbrev Sx_32 : PySem.Str := (⟨#[32]⟩ : PySem.Str)
abbrev S_EVENT_SIZES : PySem.Str := (⟨#[69, 86, 69, 78, 84, 95, 83, 73, 90, 69, 83]⟩ : PySem.Str)
abbrev Sx : PySem.Str := (⟨#[]⟩ : PySem.Str)
abbrev S_abcmxyz : PySem.Str := (⟨#[97, 98, 99, 109, 120, 121, 122]⟩ : PySem.Str)
abbrev S_resume : PySem.Str := (⟨#[114, 101, 115, 117, 109, 101]⟩ : PySem.Str)
abbrev S_request : PySem.Str := (⟨#[114, 101, 113, 117, 101, 115, 116]⟩ : PySem.Str)
abbrev S_expire : PySem.Str := (⟨#[101, 120, 112, 105, 114, 101]⟩ : PySem.Str)
abbrev S_fail : PySem.Str := (⟨#[102, 97, 105, 108]⟩ : PySem.Str)
abbrev n_is_name : Nat := 0
abbrev n_event_text : Nat := 1
abbrev n_read_event : Nat := 2
abbrev n__law_source : Nat := 3
abbrev n__law_draw : Nat := 4
abbrev n__law_choice : Nat := 5
abbrev n__law_name : Nat := 6
abbrev n_law : Nat := 7
/-- is_name -/
def F_is_name (gc gm : Nat → AC) : AS := (aSeq (kR (aAndV (kBc bIsi (aCons (aVar 0) (aCons (kC (.ty "str")) kNil))) (aAndV (aChain (kC (.int (1))) (kBc bLen (aCons (aVar 0) kNil)) (kC (.int (8))) aLe aLe) (kBc bAll (aCons (aLockE kPn (aLc limN (aIter (aVar 0)) (gaName 2) kTrue (aBin (aVar 2) (kC (.str S_abcdefghijklmnopqrstuvwxyz)) (inK tb false aIn)) [1, 2])) kNil))))) kP)
theorem e_is_name (gc gm : Nat → AC) : RSs PG gc gm T0.body = F_is_name gc gm := by kernel_rfl
/-- event_text -/
def F_event_text (gc gm : Nat → AC) : AS := (aSeq (kR (aBM (kC (.str Sx_32)) isStr (aCons (aVar 0) kNil) mJoin)) kP)
theorem e_event_text (gc gm : Nat → AC) : RSs PG gc gm T1.body = F_event_text gc gm := by kernel_rfl
/-- read_event -/
def F_read_event (gc gm : Nat → AC) : AS := (aSeq (aAsg (aIfE (kTr (kBc bIsi (aCons (aVar 0) (aCons (kC (.ty "str")) kNil)))) (aBM (aVar 0) isStr (aCons (kC (.str Sx_32)) kNil) mSplit) (kL kNil)) (gaName 1)) (aSeq (aIfS (aOrT (kB (aBin (aVar 1) (kL kNil) aEqX)) (aOrT (kB (aBin (aBin (aVar 1) (kC (.int (0))) (ixK tb aIx)) (kC (.glo S_EVENT_SIZES)) (inK tb true aNotIn))) (kB (aBin (kBc bLen (aCons (aVar 1) kNil)) (aBin (kC (.glo S_EVENT_SIZES)) (aBin (aVar 1) (kC (.int (0))) (ixK tb aIx)) (ixK tb aIx)) aNeX)))) (aSeq kNo kP) kP) (aSeq (aIfS (aNotT (kTr (kBc bAll (aCons (aLockE kPn (aLc limN (aIter (aVar 1)) (gaName 3) kTrue (aCallG 1 1 [] (bindA []) (gc n_is_name) (aCons (aVar 3) kNil) kNil) [2, 3])) kNil)))) (aSeq kNo kP) kP) (aSeq (kR (kBc bTuple (aCons (aVar 1) kNil))) kP))))
theorem e_read_event (gc gm : Nat → AC) : RSs PG gc gm T2.body = F_read_event gc gm := by kernel_rfl
/-- _law_source -/
def F__law_source (gc gm : Nat → AC) : AS := (aSeq (aAsg (aIfE (kB (aBin (aVar 1) (kBc bLen (aCons (aVar 0) kNil)) aLt)) (aBin (aVar 0) (aVar 1) (ixK tb aIx)) (kC (.int (0)))) (gaName 2)) (aSeq (aAsg (aIfE (kB (aBin (kBc bAbs (aCons (aVar 2) kNil)) (aBin (kC (.int (10))) (kC (.int (18))) aPow) aGe)) (kBc bAbs (aCons (aVar 2) kNil)) (kC (.int (0)))) (gaName 3)) (aSeq (kR (kL (aCons (aVar 3) (aCons (aBin (aBin (aBin (aBin (aVar 2) (kC (.int (1000000000000000003))) aMod) (aBin (aBin (kC (.int (8887))) (aVar 1) aMul) (aVar 1) aMul) aAdd) (aBin (kC (.int (61))) (aVar 1) aMul) aAdd) (kC (.int (11))) aAdd) (aCons (kC (.int (0))) kNil))))) kP)))
theorem e__law_source (gc gm : Nat → AC) : RSs PG gc gm T3.body = F__law_source gc gm := by kernel_rfl
/-- _law_draw -/
def F__law_draw (gc gm : Nat → AC) : AS := (aSeq (aIfS (kB (aBin (aBin (aVar 0) (kC (.int (0))) (ixK tb aIx)) (kC (.int (0))) aGt)) (aSeq (aAsg (aBin (aBin (aVar 0) (kC (.int (0))) (ixK tb aIx)) (aVar 1) aMod) (gaName 2)) (aSeq (aAsg (aBin (aBin (aVar 0) (kC (.int (0))) (ixK tb aIx)) (aVar 1) aFdiv) (gaSub (aVar 0) (kC (.int (0))))) (aSeq (kR (aVar 2)) kP))) kP) (aSeq (aAsg (kT (aCons (kC (.int (2147483647))) (aCons (kC (.int (2147483629))) (aCons (kC (.int (2147483587))) (aCons (kC (.int (2147483579))) (aCons (kC (.int (2147483563))) (aCons (kC (.int (2147483549))) (aCons (kC (.int (2147483543))) (aCons (kC (.int (2147483497))) kNil))))))))) (gaName 3)) (aSeq (aAsg (aBin (aBin (aVar 0) (kC (.int (2))) (ixK tb aIx)) (kC (.int (1))) aAdd) (gaSub (aVar 0) (kC (.int (2))))) (aSeq (aAsg (aBin (aVar 0) (kC (.int (2))) (ixK tb aIx)) (gaName 4)) (aSeq (aAsg (aBin (aBin (aBin (aBin (aVar 0) (kC (.int (1))) (ixK tb aIx)) (aBin (aBin (kC (.int (2))) (aVar 4) aMul) (kC (.int (3))) aAdd) aMul) (aBin (aBin (kC (.int (5923))) (aVar 4) aMul) (aVar 4) aMul) aAdd) (kC (.int (71))) aAdd) (gaName 5)) (aSeq (aAsg (aBin (aBin (aVar 5) (kC (.int (3))) aPow) (aBin (aVar 3) (aBin (aVar 4) (kC (.int (8))) aMod) (ixK tb aIx)) aMod) (gaName 6)) (aSeq (kR (aBin (aBin (aBin (aBin (aVar 6) (aBin (aBin (aVar 6) (kC (.int (4099))) aFdiv) (kC (.int (37))) aAdd) aMul) (aBin (aVar 3) (aBin (aBin (aVar 4) (kC (.int (5))) aAdd) (kC (.int (8))) aMod) (ixK tb aIx)) aMod) (kC (.int (16))) aFdiv) (aVar 1) aMod)) kP)))))))
theorem e__law_draw (gc gm : Nat → AC) : RSs PG gc gm T4.body = F__law_draw gc gm := by kernel_rfl
/-- _law_choice -/
def F__law_choice (gc gm : Nat → AC) : AS := (aSeq (kR (aBin (aVar 1) (aCallG 2 2 [] (bindA []) (gc n__law_draw) (aCons (aVar 0) (aCons (kBc bLen (aCons (aVar 1) kNil)) kNil)) kNil) (ixK tb aIx))) kP)
theorem e__law_choice (gc gm : Nat → AC) : RSs PG gc gm T5.body = F__law_choice gc gm := by kernel_rfl
/-- _law_name -/
def F__law_name (gc gm : Nat → AC) : AS := (aSeq (kR (aBM (kC (.str Sx)) isStr (aCons (aLockE kPn (aLc limN (kIt rng1 (aCons (aBin (kC (.int (1))) (aCallG 2 2 [] (bindA []) (gc n__law_draw) (aCons (aVar 0) (aCons (kC (.int (8))) kNil)) kNil) aAdd) kNil)) (gaName 2) kTrue (aCallG 2 2 [] (bindA []) (gc n__law_choice) (aCons (aVar 0) (aCons (kC (.str S_abcmxyz)) kNil)) kNil) [1, 2])) kNil) mJoin)) kP)
theorem e__law_name (gc gm : Nat → AC) : RSs PG gc gm T6.body = F__law_name gc gm := by kernel_rfl
/-- law -/
def F_law (gc gm : Nat → AC) : AS := (aSeq (aLockS kPn (aFor limN (kIt rng1 (aCons (kBc bMax (aCons (kC (.int (2))) (aCons (kBc bMin (aCons (kC (.int (4))) (aCons (kBc bLen (aCons (aVar 0) kNil)) kNil))) kNil))) kNil)) (gaName 1) (aSeq (aAsg (aCallG 2 2 [] (bindA []) (gc n__law_source) (aCons (aVar 0) (aCons (aVar 1) kNil)) kNil) (gaName 2)) (aSeq (aLockS kPn (aFor limN (kIt rng1 (aCons (kC (.int (20))) kNil)) (gaName 3) (aSeq (aAsg (aCallG 2 2 [] (bindA []) (gc n__law_choice) (aCons (aVar 2) (aCons (kL (aCons (kC (.str S_resume)) (aCons (kC (.str S_request)) (aCons (kC (.str S_expire)) (aCons (kC (.str S_fail)) kNil))))) kNil)) kNil) (gaName 4)) (aSeq (aAsg (kT (aCons (aVar 4) (aCons (aCallG 1 1 [] (bindA []) (gc n__law_name) (aCons (aVar 2) kNil) kNil) kNil))) (gaName 5)) (aSeq (aIfS (kB (aBin (aVar 4) (kC (.str S_fail)) aEqX)) (aSeq (aAsg (aBin (aVar 5) (kT (aCons (aCallG 1 1 [] (bindA []) (gc n__law_name) (aCons (aVar 2) kNil) kNil) kNil)) aAdd) (gaName 5)) kP) kP) (aSeq (aIfS (aOrT (kB (aBin (aCallG 1 1 [] (bindA []) (gc n_event_text) (aCons (aVar 5) kNil) kNil) (aBM (kC (.str Sx_32)) isStr (aCons (aVar 5) kNil) mJoin) aNeX)) (kB (aBin (kBc bRepr (aCons (aCallG 1 1 [] (bindA []) (gc n_read_event) (aCons (aBM (kC (.str Sx_32)) isStr (aCons (aVar 5) kNil) mJoin) kNil) kNil) kNil)) (kBc bRepr (aCons (aVar 5) kNil)) aNeX))) (aSeq (kR (kC (.bl false))) kP) kP) kP)))))) kP)))) (aSeq (kR (kC (.bl true))) kP))
theorem e_law (gc gm : Nat → AC) : RSs PG gc gm T7.body = F_law gc gm := by kernel_rfl
def Gt : FB := fun gc gm i => (cond (Nat.ble 4 i) (cond (Nat.ble 6 i) (cond (Nat.ble 7 i) (kCall (F_law gc gm) 6) (kCall (F__law_name gc gm) 3)) (cond (Nat.ble 5 i) (kCall (F__law_choice gc gm) 2) (kCall (F__law_draw gc gm) 7))) (cond (Nat.ble 2 i) (cond (Nat.ble 3 i) (kCall (F__law_source gc gm) 4) (kCall (F_read_event gc gm) 4)) (cond (Nat.ble 1 i) (kCall (F_event_text gc gm) 1) (kCall (F_is_name gc gm) 3))))
theorem b_is_name : BodyIs PG Gt 0 := ⟨fun gc gm as h => (body_at (F := T0) (by kernel_rfl) (e_is_name gc gm)).trans (by kernel_rfl)⟩
theorem b_event_text : BodyIs PG Gt 1 := ⟨fun gc gm as h => (body_at (F := T1) (by kernel_rfl) (e_event_text gc gm)).trans (by kernel_rfl)⟩
theorem b_read_event : BodyIs PG Gt 2 := ⟨fun gc gm as h => (body_at (F := T2) (by kernel_rfl) (e_read_event gc gm)).trans (by kernel_rfl)⟩
theorem b__law_source : BodyIs PG Gt 3 := ⟨fun gc gm as h => (body_at (F := T3) (by kernel_rfl) (e__law_source gc gm)).trans (by kernel_rfl)⟩
theorem b__law_draw : BodyIs PG Gt 4 := ⟨fun gc gm as h => (body_at (F := T4) (by kernel_rfl) (e__law_draw gc gm)).trans (by kernel_rfl)⟩
theorem b__law_choice : BodyIs PG Gt 5 := ⟨fun gc gm as h => (body_at (F := T5) (by kernel_rfl) (e__law_choice gc gm)).trans (by kernel_rfl)⟩
theorem b__law_name : BodyIs PG Gt 6 := ⟨fun gc gm as h => (body_at (F := T6) (by kernel_rfl) (e__law_name gc gm)).trans (by kernel_rfl)⟩
theorem b_law : BodyIs PG Gt 7 := ⟨fun gc gm as h => (body_at (F := T7) (by kernel_rfl) (e_law gc gm)).trans (by kernel_rfl)⟩
theorem hG : ∀ gc gm i as ah, PG.body gc gm i as ah = gOf 8 Gt gc gm i as ah :=
  body_all (by kernel_rfl) (upto_s (upto_s (upto_s (upto_s (upto_s (upto_s (upto_s (upto_s (upto_0) b_is_name) b_event_text) b_read_event) b__law_source) b__law_draw) b__law_choice) b__law_name) b_law)
abbrev tw (k : Nat) : (Nat → AC) × (Nat → AC) := twoG (gOf 8 Gt) k
theorem call_is_name (k : Nat) (as : List AV) (h : AH) : (tw (k + 1)).1 n_is_name as h = kCall (F_is_name (tw k).1 (tw k).2) 3 as h := by kernel_rfl
theorem call_event_text (k : Nat) (as : List AV) (h : AH) : (tw (k + 1)).1 n_event_text as h = kCall (F_event_text (tw k).1 (tw k).2) 1 as h := by kernel_rfl
theorem call_read_event (k : Nat) (as : List AV) (h : AH) : (tw (k + 1)).1 n_read_event as h = kCall (F_read_event (tw k).1 (tw k).2) 4 as h := by kernel_rfl
theorem call__law_source (k : Nat) (as : List AV) (h : AH) : (tw (k + 1)).1 n__law_source as h = kCall (F__law_source (tw k).1 (tw k).2) 4 as h := by kernel_rfl
theorem call__law_draw (k : Nat) (as : List AV) (h : AH) : (tw (k + 1)).1 n__law_draw as h = kCall (F__law_draw (tw k).1 (tw k).2) 7 as h := by kernel_rfl
theorem call__law_choice (k : Nat) (as : List AV) (h : AH) : (tw (k + 1)).1 n__law_choice as h = kCall (F__law_choice (tw k).1 (tw k).2) 2 as h := by kernel_rfl
theorem call__law_name (k : Nat) (as : List AV) (h : AH) : (tw (k + 1)).1 n__law_name as h = kCall (F__law_name (tw k).1 (tw k).2) 3 as h := by kernel_rfl
theorem call_law (k : Nat) (as : List AV) (h : AH) : (tw (k + 1)).1 n_law as h = kCall (F_law (tw k).1 (tw k).2) 6 as h := by kernel_rfl
theorem hps : D7.ps = [D7.ps.headD ""] := rfl
theorem hb (K : PySem.W.Frag) (fd : FuncData) (F : FunD K D7.d.name D7.d.qual D7.d.params D7.d.body D7.d.scope (D7.d.dvs K) (D7.d.kws K) (He.fAd K D7.d.at_) fd) (s : Shared) (u : Value) : BindsTo s fd ⟨[u], []⟩ [(D7.ps.headD "", u)] :=
  L2.FunD.bindsA (ps := [D7.ps.headD ""]) F (fun _ _ _ _ _ _ us hl => match us, hl with | [_], _ => by kernel_rfl) s [u] rfl
end K25
namespace K25
open PySem PySem.Spec PyProof.Rows L2 WC
local macro_rules
  | `(tactic| o_facts $x:ident) => `(tactic| simp only [w_aSeq, w_kP, w_kE, w_kR, w_kRN, w_kBr, w_kCo, w_aIfS, w_aAsg, w_gaName, w_kC, w_kNil, w_aCons, w_kT, w_kL, w_kBc, w_kF, w_kTr, w_kB, w_kTrue, w_aBin, w_aAndV, w_aOrV, w_aNotV, w_aAndT, w_aOrT, w_aNotT, w_aIfE, w_aIfT, w_aChain, w_aLockE_n, w_aLockS_n, w_aCallG, wb_ok, wb_assoc, asT_bl, asB_bl, asT_bind, asB_bind, asCall_bind, asCall_rt, asCall_nx,
    w_var0, w_varS, List.set_cons_zero, List.set_cons_succ, w_gt, w_ge, w_lt, w_le, w_addI, w_subI, w_isN, w_isNotN, w_abs, w_maxI, w_minI, w_lenT, w_lenScr, w_gaSub, w_aBM, w_gaCons, w_gaNil, w_aIter, w_kIt, w_eqStr, w_neStr, w_eqInt, w_neInt, w_eqBl, w_neBl,
    List.map_cons, List.map_nil, List.length_cons, List.length_nil, List.cons_append, List.nil_append, Nat.reduceAdd, Nat.reduceSub, List.replicate_succ, List.replicate_zero])
theorem draw_far (k : Nat) (h : AH) (r : Nat) (a b c n : Int) (hr : h.get r = some (.lst [.int a, .int b, .int c])) (ha : 0 < a) (hn : 0 < n) (hn2 : n < 1073741824) :
    (tw (k + 1)).1 n__law_draw [.ref r, .int n] h = .ok (.int (a.fmod n)) (h.set r (.lst [.int (a.fdiv n), .int b, .int c])) := by
  rw [call__law_draw]
  unfold kCall F__law_draw kEnv
  o_facts ws
  have x0 : atI [AV.int a, AV.int b, AV.int c] 0 = some (.int a) := atI_0 _ _
  have i0 : ixN [AV.int a, AV.int b, AV.int c].length 0 = some 0 := rfl
  simp only [w_ixL tb r _ 0 _ hr x0, wb_ok, w_gt, asB_bl, ha, decide_true, if_true, w_modI a n (by omega), w_fdivI a n (by omega) (by omega), w_setL r _ 0 0 _ hr i0, List.set_cons_zero, w_var0, w_varS]
  o_facts ws
theorem fmod_bd (a : Int) {b : Int} (hb : 0 < b) : 0 ≤ a.fmod b ∧ a.fmod b < b := by
  rw [Int.fmod_eq_emod_of_nonneg _ (Int.le_of_lt hb)]
  exact ⟨Int.emod_nonneg _ (by omega), Int.emod_lt_of_pos _ hb⟩
theorem fdiv_bd {a b : Int} (ha : 0 ≤ a) (hb : 0 < b) : 0 ≤ a.fdiv b ∧ a.fdiv b ≤ a := by
  rw [Int.fdiv_eq_ediv_of_nonneg _ (Int.le_of_lt hb)]
  exact ⟨Int.ediv_nonneg ha (Int.le_of_lt hb), Int.ediv_le_self _ ha⟩
theorem mul_bd {x y A B : Int} (h1 : 0 ≤ x) (h2 : x ≤ A) (h3 : 0 ≤ y) (h4 : y ≤ B) : 0 ≤ x * y ∧ x * y ≤ A * B :=
  ⟨Int.mul_nonneg h1 h3, Int.mul_le_mul h2 h4 h3 (Int.le_trans h1 h2)⟩
def primes : List AV := [AV.int 2147483647, AV.int 2147483629, AV.int 2147483587, AV.int 2147483579, AV.int 2147483563, AV.int 2147483549, AV.int 2147483543, AV.int 2147483497]
theorem primes_at (j : Int) (h1 : 0 ≤ j) (h2 : j < 8) : ∃ p : Int, atI primes j = some (.int p) ∧ 2147483497 ≤ p ∧ p ≤ 2147483647 := by
  obtain ⟨n, rfl⟩ := Int.eq_ofNat_of_zero_le h1
  have h : n < 8 := by omega
  rw [WC.atI_nat]
  match n, h with
  | 0, _ => exact ⟨_, rfl, by decide, by decide⟩
  | 1, _ => exact ⟨_, rfl, by decide, by decide⟩
  | 2, _ => exact ⟨_, rfl, by decide, by decide⟩
  | 3, _ => exact ⟨_, rfl, by decide, by decide⟩
  | 4, _ => exact ⟨_, rfl, by decide, by decide⟩
  | 5, _ => exact ⟨_, rfl, by decide, by decide⟩
  | 6, _ => exact ⟨_, rfl, by decide, by decide⟩
  | 7, _ => exact ⟨_, rfl, by decide, by decide⟩
theorem draw_near (k : Nat) (h : AH) (r : Nat) (a b c n : Int) (hr : h.get r = some (.lst [.int a, .int b, .int c])) (ha : ¬ 0 < a) (hn : 0 < n) (hb : 0 ≤ b) (hb2 : b < 2 ^ 62) (hc : 0 ≤ c) (hc2 : c < 2 ^ 62) :
    ∃ d : Int, 0 ≤ d ∧ d < n ∧ (tw (k + 1)).1 n__law_draw [.ref r, .int n] h = .ok (.int d) (h.set r (.lst [.int a, .int b, .int (c + 1)])) := by
  rw [call__law_draw]
  unfold kCall F__law_draw kEnv
  o_facts ws
  have x0 : atI [AV.int a, AV.int b, AV.int c] 0 = some (.int a) := atI_0 _ _
  have x2 : atI [AV.int a, AV.int b, AV.int c] 2 = some (.int c) := rfl
  have i2 : ixN [AV.int a, AV.int b, AV.int c].length 2 = some 2 := rfl
  have hr' : (h.set r (.lst [.int a, .int b, .int (c + 1)])).get r = some (.lst [.int a, .int b, .int (c + 1)]) := get_set_self _ _ _
  have y1 : atI [AV.int a, AV.int b, AV.int (c + 1)] 1 = some (.int b) := rfl
  have y2 : atI [AV.int a, AV.int b, AV.int (c + 1)] 2 = some (.int (c + 1)) := rfl
  simp only [w_ixL tb r _ 0 _ hr x0, wb_ok, w_gt, asB_bl, ha, decide_false, Bool.false_eq_true, if_false]
  rw [w_mkTup _ (by decide)]
  rw [show ([AV.int 2147483647, AV.int 2147483629, AV.int 2147483587, AV.int 2147483579, AV.int 2147483563, AV.int 2147483549, AV.int 2147483543, AV.int 2147483497] : List AV) = primes from rfl]
  generalize hH : h.set r (.lst [.int a, .int b, .int (c + 1)]) = H at *
  have st : aSetIx (.ref r) (.int 2) (.int (c + 1)) h = .ok .non H := by rw [w_setL r _ 2 2 _ hr i2, ← hH]; rfl
  obtain ⟨t1, t2⟩ := fmod_bd (c + 1) (b := 8) (by decide)
  obtain ⟨u1, u2⟩ := fmod_bd (c + 1 + 5) (b := 8) (by decide)
  obtain ⟨p, hp, p1, p2⟩ := primes_at _ t1 t2
  obtain ⟨q, hq, q1, q2⟩ := primes_at _ u1 u2
  obtain ⟨m1, m2⟩ := mul_bd (x := b) (y := 2 * (c + 1) + 3) (A := 4611686018427387904) (B := 9223372036854775820) hb (by omega) (by omega) (by omega)
  obtain ⟨m3, m4⟩ := mul_bd (x := 5923 * (c + 1)) (y := c + 1) (A := 27315016287145418555392) (B := 4611686018427387904) (by omega) (by omega) (by omega) (by omega)
  generalize hbase : b * (2 * (c + 1) + 3) + 5923 * (c + 1) * (c + 1) + 71 = base
  have hbl : base.natAbs < 2 ^ 512 := by
    have e : (4611686018427387904 : Int) * 9223372036854775820 + 27315016287145418555392 * 4611686018427387904 + 71 < 2 ^ 200 := by decide
    have e2 : (2 : Nat) ^ 200 ≤ 2 ^ 512 := by decide
    have e3 : base < 2 ^ 200 := by omega
    have e4 : 0 ≤ base := by omega
    have e5 : (base.natAbs : Int) < ((2 ^ 200 : Nat) : Int) := by
      rw [Int.natAbs_of_nonneg e4]
      exact e3
    omega
  obtain ⟨f1, f2⟩ := fmod_bd (base ^ (3 : Int).toNat) (b := p) (by omega)
  generalize hf : (base ^ (3 : Int).toNat).fmod p = found at *
  obtain ⟨g1, g2⟩ := fdiv_bd (a := found) (b := 4099) f1 (by decide)
  simp only [wb_ok, w_var0, w_varS, w_ixL tb r _ 2 _ hr x2, w_addI, st, w_ixL tb r _ 2 _ hr' y2, w_ixL tb r _ 1 _ hr' y1, List.set_cons_zero, List.set_cons_succ]
  rw [w_mulI 2 (c + 1) (.inl (by decide))]
  simp only [wb_ok, w_addI]
  rw [w_mulI b _ (.inl (by omega)), wb_ok, w_mulI 5923 _ (.inl (by decide)), wb_ok, w_mulI (5923 * (c + 1)) (c + 1) (.inr (by omega))]
  simp only [wb_ok, w_addI]
  rw [hbase, w_powI base 3 (by decide) (by decide) hbl, wb_ok, w_modI (c + 1) 8 (by decide), wb_ok, w_ixT tb _ _ _ hp, wb_ok, w_modI _ p (by omega), wb_ok, hf, w_fdivI found 4099 (by decide) (by decide)]
  simp only [wb_ok, w_addI]
  rw [w_mulI found _ (.inl (by omega)), wb_ok, w_modI (c + 1 + 5) 8 (by decide), wb_ok, w_ixT tb _ _ _ hq, wb_ok, w_modI _ q (by omega), wb_ok, w_fdivI _ 16 (by decide) (by decide), wb_ok, w_modI _ n (by omega), wb_ok, asCall_rt]
  obtain ⟨z1, z2⟩ := fmod_bd (((found * (found.fdiv 4099 + 37)).fmod q).fdiv 16) hn
  exact ⟨_, z1, z2, rfl⟩
end K25
namespace K25
open PySem PySem.Spec PyProof.Rows L2 WC
local macro_rules
  | `(tactic| o_facts $x:ident) => `(tactic| simp only [w_aSeq, w_kP, w_kE, w_kR, w_kRN, w_kBr, w_kCo, w_aIfS, w_aAsg, w_gaName, w_kC, w_kNil, w_aCons, w_kT, w_kL, w_kBc, w_kF, w_kTr, w_kB, w_kTrue, w_aBin, w_aAndV, w_aOrV, w_aNotV, w_aAndT, w_aOrT, w_aNotT, w_aIfE, w_aIfT, w_aChain, w_aLockE_n, w_aLockS_n, w_aCallG, wb_ok, wb_assoc, asT_bl, asB_bl, asT_bind, asB_bind, asCall_bind, asCall_rt, asCall_nx,
    w_var0, w_varS, List.set_cons_zero, List.set_cons_succ, w_gt, w_ge, w_lt, w_le, w_addI, w_subI, w_isN, w_isNotN, w_abs, w_maxI, w_minI, w_lenT, w_lenScr, w_gaSub, w_aBM, w_gaCons, w_gaNil, w_aIter, w_kIt, w_eqStr, w_neStr, w_eqInt, w_neInt, w_eqBl, w_neBl,
    w_call0, w_call1, w_call2, w_call3, w_call4, w_call5, w_aiT,
    List.map_cons, List.map_nil, List.length_cons, List.length_nil, List.cons_append, List.nil_append, Nat.reduceAdd, Nat.reduceSub, List.replicate_succ, List.replicate_zero])
theorem draw_ok (K : Nat) (h : AH) (r m : Nat) (n : Int) (s : Src h r m) (hn : 0 < n) (hn2 : n < 1073741824) (hm : m < 100000) :
    ∃ (d : Int) (h' : AH), (tw (K + 1)).1 n__law_draw [.ref r, .int n] h = .ok (.int d) h' ∧ 0 ≤ d ∧ d < n ∧ Src h' r (m + 1) ∧ Mod [r] h h' ∧ h'.n = h.n := by
  obtain ⟨a, b, c, g, b1, b2, c1, c2⟩ := s
  by_cases ha : 0 < a
  · refine ⟨_, _, draw_far K h r a b c n g ha hn hn2, (fmod_bd a hn).1, (fmod_bd a hn).2, ⟨_, b, c, get_set_self _ _ _, b1, b2, c1, by omega⟩, Mod.set (List.mem_singleton.mpr rfl) _, rfl⟩
  · obtain ⟨d, d1, d2, e⟩ := draw_near K h r a b c n g ha hn b1 b2 c1 (by omega)
    exact ⟨d, _, e, d1, d2, ⟨a, b, c + 1, get_set_self _ _ _, b1, b2, by omega, by omega⟩, Mod.set (List.mem_singleton.mpr rfl) _, rfl⟩
/-- a choice from a list of texts, tuples .. -/
theorem choice_ok (K : Nat) (h : AH) (r m l : Nat) (xs : List AV) (s : Src h r m) (g : h.get l = some (.lst xs)) (hlt : l < h.n) (hl : l ≠ r) (hx : 0 < xs.length) (hx2 : xs.length < 1000) (hm : m < 100000) :
    ∃ (v : AV) (h' : AH), (tw (K + 2)).1 n__law_choice [.ref r, .ref l] h = .ok v h' ∧ v ∈ xs ∧ Src h' r (m + 1) ∧ Mod [r] h h' ∧ h'.n = h.n := by
  obtain ⟨d, h', e, d1, d2, s', M, hn⟩ := draw_ok K h r m xs.length s (by omega) (by omega) hm
  obtain ⟨i, rfl⟩ := Int.eq_ofNat_of_zero_le d1
  have hi : i < xs.length := by omega
  refine ⟨xs[i], h', ?_, List.getElem_mem hi, s', M, hn⟩
  rw [call__law_choice]
  unfold kCall F__law_choice kEnv
  o_facts ws
  rw [w_lenL _ _ g]
  o_facts ws
  rw [e]
  o_facts ws
  have g' : h'.get l = some (.lst xs) := (M.get l hlt (by simp; exact hl)).trans g
  rw [w_ixL tb l xs _ xs[i] g' (by rw [WC.atI_nat]; exact List.getElem?_eq_getElem hi)]
  o_facts ws
end K25
set_option exponentiation.threshold 600
namespace K25
open PySem PySem.Spec PyProof.Rows L2 WC
local macro_rules
  | `(tactic| o_facts $x:ident) => `(tactic| simp only [w_aSeq, w_kP, w_kE, w_kR, w_kRN, w_kBr, w_kCo, w_aIfS, w_aAsg, w_gaName, w_kC, w_kNil, w_aCons, w_kT, w_kL, w_kBc, w_kF, w_kTr, w_kB, w_kTrue, w_aBin, w_aAndV, w_aOrV, w_aNotV, w_aAndT, w_aOrT, w_aNotT, w_aIfE, w_aIfT, w_aChain, w_aLockE_n, w_aLockS_n, w_aCallG, wb_ok, wb_assoc, asT_bl, asB_bl, asT_bind, asB_bind, asCall_bind, asCall_rt, asCall_nx,
    w_var0, w_varS, List.set_cons_zero, List.set_cons_succ, w_gt, w_ge, w_lt, w_le, w_addI, w_subI, w_isN, w_isNotN, w_abs, w_maxI, w_minI, w_lenT, w_lenScr, w_gaSub, w_aBM, w_gaCons, w_gaNil, w_aIter, w_kIt, w_eqStr, w_neStr, w_eqInt, w_neInt, w_eqBl, w_neBl,
    w_call0, w_call1, w_call2, w_call3, w_call4, w_call5, w_aiT, w_par2, if_true, if_false, decide_true, decide_false, Bool.false_eq_true, Bool.not_true, Bool.not_false,
    List.map_cons, List.map_nil, List.length_cons, List.length_nil, List.cons_append, List.nil_append, Nat.reduceAdd, Nat.reduceSub, List.replicate_succ, List.replicate_zero])
theorem fmod_lt (a : Int) : 0 ≤ a.fmod 1000000000000000003 ∧ a.fmod 1000000000000000003 < 1000000000000000003 := fmod_bd a (by decide)
/-- a source made of a cell of the script -/
theorem source_ok (K : Nat) (h : AH) (i : Nat) (hi : i < 8) : ∃ h', (tw (K + 1)).1 n__law_source [.scr, .int i] h = .ok (.ref h.n) h' ∧ Gro h h' ∧ h'.n = h.n + 1 ∧ Src h' h.n 0 := by
  rw [call__law_source]
  unfold kCall F__law_source kEnv
  o_facts ws
  have hc : ∃ c : Int, ((if decide ((i : Int) < (h.scr.length : Int)) = true then ixK tb aIx .scr (.int i) h else Ex.ok (.int 0) h) : Ex AV) = .ok (.int c) h := by
    by_cases q : (i : Int) < (h.scr.length : Int)
    · rw [if_pos (decide_eq_true q)]
      have : i < h.scr.length := by omega
      exact ⟨h.scr[i], w_ixScr tb _ _ (by rw [WC.atI_nat]; exact List.getElem?_eq_getElem this)⟩
    · rw [if_neg (by simpa using q)]
      exact ⟨0, rfl⟩
  obtain ⟨c, hc⟩ := hc
  rw [hc]
  o_facts ws
  rw [w_powI 10 18 (by decide) (by decide) (by decide)]
  o_facts ws
  obtain ⟨f1, f2⟩ := fmod_lt c
  have hb : ∃ b : Int, c.fmod 1000000000000000003 + 8887 * i * i + 61 * i + 11 = b ∧ 0 ≤ b ∧ b < 2 ^ 62 := by
    refine ⟨_, rfl, ?_, ?_⟩
    · have : (0 : Int) ≤ 8887 * i * i := Int.mul_nonneg (by omega) (by omega)
      omega
    · have : (8887 : Int) * i * i ≤ 8887 * 8 * 8 := Int.mul_le_mul (by omega) (by omega) (by omega) (by omega)
      omega
  obtain ⟨b, hb, b1, b2⟩ := hb
  have tail : ∀ far : Int, ∃ h', ((aMod (AV.int c) (AV.int 1000000000000000003) h).bind fun a_1 h =>
                (aMul (AV.int 8887) (AV.int ↑i) h).bind fun a_2 h =>
                  (aMul a_2 (AV.int ↑i) h).bind fun a_3 h =>
                    (aAdd a_1 a_3 h).bind fun a_4 h =>
                      (aMul (AV.int 61) (AV.int ↑i) h).bind fun a_5 h =>
                        (aAdd a_4 a_5 h).bind fun a_6 h =>
                          (aAdd a_6 (AV.int 11) h).bind fun a_7 h =>
                            (mkLst [AV.int far, a_7, AV.int 0] h).bind fun a h => Ex.ok a h) = .ok (.ref h.n) h' ∧ Gro h h' ∧ h'.n = h.n + 1 ∧ Src h' h.n 0 := by
    intro far
    rw [w_modI _ _ (by decide)]
    o_facts ws
    rw [w_mulI 8887 _ (.inl (by decide)), wb_ok, w_mulI _ (i : Int) (.inr (by omega)), wb_ok]
    o_facts ws
    rw [w_mulI 61 _ (.inl (by decide)), wb_ok]
    o_facts ws
    rw [hb, w_mkLstR _ rfl, wb_ok]
    exact ⟨_, rfl, Gro.push _ _, rfl, far, b, 0, get_push_self _ _, b1, b2, by omega, by omega⟩
  by_cases q : (10 : Int) ^ (18 : Int).toNat ≤ (if c < 0 then -c else c)
  · simp only [q]
    o_facts ws
    exact tail _
  · simp only [q]
    o_facts ws
    exact tail _
end K25
namespace K25
open PySem PySem.Spec PyProof.Rows L2 WC
local macro_rules
  | `(tactic| wp_walk using $ts,*) => `(tactic| simp only [w_aSeq, w_kP, w_kE, w_kR, w_kRN, w_kBr, w_kCo, w_aIfS, w_aAsg, w_gaName, w_kC, w_kNil, w_aCons, w_kT, w_kL, w_kBc, w_kF, w_kTr, w_kB, w_kTrue, w_aBin, w_aAndV, w_aOrV, w_aNotV, w_aAndT, w_aOrT, w_aNotT, w_aIfE, w_aIfT, w_aChain, w_aLockE_n, w_aLockS_n, w_aCallG, wb_ok, wb_assoc, asT_bl, asB_bl, asT_bind, asB_bind, asCall_bind, asCall_rt, asCall_nx,
    w_var0, w_varS, List.set_cons_zero, List.set_cons_succ, w_gt, w_ge, w_lt, w_le, w_addI, w_subI, w_isN, w_isNotN, w_abs, w_maxI, w_minI, w_lenT, w_lenScr, w_gaSub, w_aBM, w_gaCons, w_gaNil, w_aIter, w_kIt, w_eqStr, w_neStr, w_eqInt, w_neInt, w_eqBl, w_neBl,
    w_call0, w_call1, w_call2, w_call3, w_call4, w_call5, w_aiT, w_par2, if_true, if_false, decide_true, decide_false, Bool.false_eq_true, Bool.not_true, Bool.not_false,
    u_ixR, u_ixT, u_ixG, u_setR, u_app, u_extR, u_lenR, u_tupR, u_tupT, u_listR, u_aiR, u_isLst, u_isStr, u_addR, u_sl, u_part, u_kNone, u_slR, u_slT, u_aStar, atI_0, u_isiS, u_inS, u_inG, u_aiS, u_lenS, u_addT,
    List.map_cons, List.map_nil, List.length_cons, List.length_nil, List.cons_append, List.nil_append, Nat.reduceAdd, Nat.reduceSub, List.replicate_succ, List.replicate_zero, $[$ts:term],*])
theorem few : ∀ c ∈ (S_abcmxyz : Str).cps.toList, c ∈ letters.cps.toList := by decide +kernel
theorem choice_str (K : Nat) (h : AH) (r m : Nat) (x : Str) (s : Src h r m) (hx : 0 < x.length) (hx2 : x.length < 1000) (hm : m < 100000) :
    ∃ (c : Nat) (h' : AH), (tw (K + 2)).1 n__law_choice [.ref r, .str x] h = .ok (.str ⟨#[c]⟩) h' ∧ c ∈ x.cps.toList ∧ Src h' r (m + 1) ∧ Mod [r] h h' ∧ h'.n = h.n := by
  obtain ⟨d, h', e, d1, d2, s', M, hn⟩ := draw_ok K h r m x.length s (by omega) (by omega) hm
  obtain ⟨i, rfl⟩ := Int.eq_ofNat_of_zero_le d1
  have hi : i < x.cps.toList.length := by rw [Array.length_toList]; have : x.cps.size = x.length := rfl; omega
  refine ⟨x.cps.toList[i], h', ?_, List.getElem_mem hi, s', M, hn⟩
  rw [call__law_choice]
  unfold kCall F__law_choice kEnv
  have l0 : x.length ≤ sizeLine := by rw [sizeLine_eq]; omega
  wp_walk using l0, e, u_ixS, WC.atI_nat, List.getElem?_eq_getElem hi
theorem is_name_ok (K : Nat) (x : Str) (hx : NameOk x) (h : AH) : ∃ h', (tw (K + 1)).1 n_is_name [.str x] h = .ok (.bl true) h' ∧ Gro h h' := by
  rw [call_is_name]
  unfold kCall F_is_name kEnv
  have l0 : x.length ≤ sizeLine := by rw [sizeLine_eq]; have := hx.2.1; omega
  have l1 : (1 : Int) ≤ (x.length : Int) := by have := hx.1; omega
  have l2 : (x.length : Int) ≤ 8 := by have := hx.2.1; omega
  wp_walk using l0, l1, l2
  obtain ⟨h2, e2, G2, n2, g2⟩ := lc_map0 (fi := aIter (aVar 0)) (xs := x.cps.toList.map fun c => AV.str ⟨#[c]⟩) (g := gaName 2) (t := kTrue) (el := aBin (aVar 2) (kC (.str S_abcdefghijklmnopqrstuvwxyz)) (inK tb false aIn)) (vs := [1, 2])
    (s := [some (.str x), none, none]) (h := h) (h1 := h) (J := .str x) (fun _ => some (.bl true)) (by wp_walk using l0) (Gro.refl _) (by rw [List.length_map, Array.length_toList]; have : x.cps.size ≤ 8 := hx.2.1; omega) (fun i h' _ => it_str x i) (by
      intro v hv h'
      obtain ⟨c, hc, rfl⟩ := List.mem_map.mp hv
      unfold turn
      simp only [wipeA]
      have := hx.2.2 c hc
      have d : decide (c ∈ (S_abcdefghijklmnopqrstuvwxyz : Str).cps.toList) = true := decide_eq_true this
      wp_walk using d)
  rw [e2]
  have g3 : h2.get h.n = some (.lst ((x.cps.toList.map fun _ => true).map .bl)) := by
    rw [g2, List.filterMap_map, List.map_map]
    congr 2
    induction x.cps.toList with
    | nil => rfl
    | cons a r ih => simp [ih]
  wp_walk using w_allL h.n _ g3
  rw [show (x.cps.toList.map fun _ => true).all id = true by simp]
  exact ⟨_, rfl, G2⟩
def sizesK : List (Str × AV) := [(S_resume, .int 2), (S_request, .int 2), (S_expire, .int 2), (S_fail, .int 3)]
theorem tb_sizes : tb S_EVENT_SIZES = some sizesK := by kernel_rfl
theorem event_text_ok (K : Nat) (l : List Str) (hl : ∀ x ∈ l, NameOk x) (h3 : l.length ≤ 100) (h : AH) : (tw (K + 1)).1 n_event_text [.tup (l.map .str)] h = .ok (.str (Txt.join Sx_32 l)) h := by
  rw [call_event_text]
  unfold kCall F_event_text kEnv
  have := names_sum l hl
  wp_walk using w_joinT Sx_32 l (show (l.map (·.length)).sum + l.length * 1 ≤ 1000000 by omega)
theorem read_event_ok (K : Nat) (w : Str) (ns : List Str) (hl : ∀ x ∈ w :: ns, NameOk x) (h3 : ns.length ≤ 100) (hw : sizesK.lookup w = some (.int ((ns.length + 1 : Nat) : Int))) (h : AH) :
    ∃ h', (tw (K + 2)).1 n_read_event [.str (Txt.join Sx_32 (w :: ns))] h = .ok (.tup ((w :: ns).map .str)) h' ∧ Gro h h' := by
  rw [call_read_event]
  unfold kCall F_read_event kEnv
  have sm := names_sum _ hl
  have jl := join_len Sx_32 (w :: ns)
  have ll : (w :: ns).length = ns.length + 1 := rfl
  have e1 : (Sx_32 : Str).length = 1 := rfl
  have sp := TL.split_join (y := Sx_32) (s := 32) (S := []) rfl (by decide +kernel) (parts := w :: ns) (by simp) (fun p hp => (hl p hp).nosp)
  wp_walk using w_split (h := h) (Txt.join Sx_32 (w :: ns)) Sx_32 (by decide +kernel) (by rw [ll] at sm; rw [ll, e1] at jl; omega), sp
  have g1 := get_push_self h (.lst (.str w :: ns.map .str))
  have n1 : (h.push (.lst (.str w :: ns.map .str))).n = h.n + 1 := rfl
  have G1 := Gro.push h (.lst (.str w :: ns.map .str))
  generalize h.push (.lst (.str w :: ns.map .str)) = h1 at *
  rw [w_mkLstR [] rfl, wb_ok]
  have g1' : (h1.push (.lst [])).get h.n = some (.lst ((w :: ns).map .str)) := by rw [AH.get_push, if_neg (by omega)]; exact g1
  have fl : AV.fls ((w :: ns).map .str) = true := strs_fl fun x hx => (hl x hx).str
  have sz := strs_sz (w :: ns)
  rw [eq_nil g1' (get_push_self _ _) fl (by omega) (by rw [strs_dp]; omega)]
  have G2 : Gro h1 (h1.push (.lst [])) := Gro.push _ _
  have n2 : (h1.push (.lst [])).n = h1.n + 1 := rfl
  generalize h1.push (.lst []) = h2 at *
  have li : ([w].map AV.str).length + ns.length = ns.length + 1 := by simp; omega
  wp_walk using g1', List.isEmpty_cons, tb_sizes, hw, List.length_map, eq_self
  obtain ⟨h4, e4, G4, n4, g4⟩ := lc_map (fi := aIter (aVar 1)) (xs := (w :: ns).map .str) (g := gaName 3) (t := kTrue) (el := aCallG 1 1 [] (bindA []) ((tw (K + 1)).1 n_is_name) (aCons (aVar 3) kNil) kNil) (vs := [2, 3])
    (s := [some (.str (Txt.join Sx_32 (w :: ns))), some (.ref h.n), none, none]) (h := h2) (h1 := h2) (J := .lst h.n) (fun _ => some (.bl true)) (by wp_walk using g1') (Gro.refl _) (by rw [List.length_map]; omega) (it_lst (by omega) g1') (by
      intro v hv h' _ _
      obtain ⟨x, hx, rfl⟩ := List.mem_map.mp hv
      obtain ⟨h'', e, G⟩ := is_name_ok K x (hl x hx) h'
      refine ⟨h'', ?_, G⟩
      unfold turn
      simp only [wipeA]
      wp_walk using e)
  have g5 : h4.get h2.n = some (.lst (((w :: ns).map fun _ => true).map .bl)) := by
    rw [g4, List.filterMap_map, List.map_map]
    congr 2
    induction (w :: ns) with
    | nil => rfl
    | cons a r ih => simp [ih]
  have g6 : h4.get h.n = some (.lst (.str w :: ns.map .str)) := (G4.get _ (by omega)).trans g1'
  wp_walk using e4, w_allL h2.n _ g5, show (true :: ns.map fun _ => true).all id = true by simp, g6
  exact ⟨_, rfl, G1.trans (G2.trans G4)⟩
/-- a random name -/
theorem name_ok (K : Nat) (h : AH) (r m : Nat) (s : Src h r m) (hr : r < h.n) (hm : m < 90000) : ∃ (x : Str) (h' : AH), (tw (K + 3)).1 n__law_name [.ref r] h = .ok (.str x) h' ∧ NameOk x ∧ Src h' r (m + 9) ∧ Mod [r] h h' := by
  obtain ⟨d, h1, e1, d1, d2, s1, M1, n1⟩ := draw_ok (K + 1) h r m 8 s (by decide) (by decide) (by omega)
  obtain ⟨d, rfl⟩ := Int.eq_ofNat_of_zero_le d1
  rw [call__law_name]
  unfold kCall F__law_name kEnv
  wp_walk using e1
  obtain ⟨h2, acc, e2, ⟨cs, rfl, hc, hl, s2, M2, hn2⟩, g2⟩ := lc_inv (fi := kIt rng1 (aCons (aBin (kC (.int (1))) (aCallG 2 2 [] (bindA []) ((tw (K + 2)).1 n__law_draw) (aCons (aVar 0) (aCons (kC (.int (8))) kNil)) kNil) aAdd) kNil)) (xs := (List.range (1 + d)).map fun (k : Nat) => AV.int k) (g := gaName 2) (t := kTrue)
    (el := aCallG 2 2 [] (bindA []) ((tw (K + 2)).1 n__law_choice) (aCons (aVar 0) (aCons (kC (.str S_abcmxyz)) kNil)) kNil) (vs := [1, 2]) (s := [some (.ref r), none, none]) (h := h) (h1 := h1) (J := .rng 0 (1 + d))
    (fun i h' acc => ∃ cs : List Nat, acc = cs.map (fun c => AV.str ⟨#[c]⟩) ∧ (∀ c ∈ cs, c ∈ (S_abcmxyz : Str).cps.toList) ∧ cs.length = i ∧ Src h' r (m + 1 + i) ∧ Mod [r] h h' ∧ h1.n < h'.n)
    (by wp_walk using e1
        rw [w_rng1 _ (by omega) (by omega)]
        congr 2
        all_goals omega) (by rw [List.length_map, List.length_range]; omega) (fun i h' acc _ => rng_next _ i h') (fun i h' acc ⟨cs, e, _, hl, _⟩ => by rw [e, List.length_map]; omega)
    ⟨[], rfl, by simp, rfl, s1.pushed (by omega) _, M1.push _, Nat.lt_succ_self _⟩ (by
      rintro i v h' acc hv ⟨cs, rfl, hc, hl, s', M', hn'⟩ hg
      have hi : i < 1 + d := by
        have := (List.getElem?_eq_some_iff.mp hv).1
        rwa [List.length_map, List.length_range] at this
      obtain ⟨c, h'', e, hcm, s'', M'', n''⟩ := choice_str K h' r (m + 1 + i) S_abcmxyz s' (by decide +kernel) (by decide +kernel) (by omega)
      refine ⟨some (.str ⟨#[c]⟩), h'', ?_, (M''.get _ hn' (by simp; omega)).trans hg, cs ++ [c], by simp, ?_, by simp [hl], ?_, ?_, by rw [set_n]; omega⟩
      · unfold turn
        simp only [wipeA]
        wp_walk using e
      · intro x hx
        rcases List.mem_append.mp hx with hx | hx
        · exact hc x hx
        · rw [List.mem_singleton] at hx
          exact hx ▸ hcm
      · exact s''.keep (by rw [AH.get_set, if_neg (by omega)])
      · exact (M'.trans M'').setNew (by have := M1.le; omega) _)
  have g3 : h2.get h1.n = some (.lst ((cs.map fun c => (⟨#[c]⟩ : Str)).map .str)) := by rw [g2, List.map_map]; rfl
  rw [List.length_map, List.length_range] at hl s2
  have sm : ((cs.map fun c => (⟨#[c]⟩ : Str)).map (·.length)).sum = cs.length := by
    clear hc hl g2 g3
    induction cs with
    | nil => rfl
    | cons a r ih => rw [List.map_cons, List.map_cons, List.sum_cons, ih, List.length_cons]; show 1 + _ = _; omega
  wp_walk using e2, w_joinL Sx h1.n (cs.map fun c => (⟨#[c]⟩ : Str)) g3 (by rw [sm, List.length_map]; show cs.length + cs.length * 0 ≤ _; omega)
  have ej : TL.tl (Txt.join Sx (cs.map fun c => (⟨#[c]⟩ : Str))) = cs := by
    rw [TL.join_eq, TL.tl_join]
    clear hc hl g2 g3 sm
    induction cs with
    | nil => rfl
    | cons a r ih =>
      cases r with
      | nil => rfl
      | cons b r => exact congrArg (a :: ·) ih
  refine ⟨_, h2, rfl, ⟨?_, ?_, ?_⟩, s2.le (by omega), M2⟩
  · rw [TL.len_tl, ej]; omega
  · rw [TL.len_tl, ej]; omega
  · intro c hx
    have hx' : c ∈ TL.tl (Txt.join Sx (cs.map fun c => (⟨#[c]⟩ : Str))) := hx
    rw [ej] at hx'
    exact few c (hc c hx')
end K25
namespace K25
open PySem PySem.Spec PyProof.Rows L2 WC
local macro_rules
  | `(tactic| wp_walk using $ts,*) => `(tactic| simp only [w_aSeq, w_kP, w_kE, w_kR, w_kRN, w_kBr, w_kCo, w_aIfS, w_aAsg, w_gaName, w_kC, w_kNil, w_aCons, w_kT, w_kL, w_kBc, w_kF, w_kTr, w_kB, w_kTrue, w_aBin, w_aAndV, w_aOrV, w_aNotV, w_aAndT, w_aOrT, w_aNotT, w_aIfE, w_aIfT, w_aChain, w_aLockE_n, w_aLockS_n, w_aCallG, wb_ok, wb_assoc, asT_bl, asB_bl, asT_bind, asB_bind, asCall_bind, asCall_rt, asCall_nx,
    w_var0, w_varS, List.set_cons_zero, List.set_cons_succ, w_gt, w_ge, w_lt, w_le, w_addI, w_subI, w_isN, w_isNotN, w_abs, w_maxI, w_minI, w_lenT, w_lenScr, w_gaSub, w_aBM, w_gaCons, w_gaNil, w_aIter, w_kIt, w_eqStr, w_neStr, w_eqInt, w_neInt, w_eqBl, w_neBl,
    w_call0, w_call1, w_call2, w_call3, w_call4, w_call5, w_aiT, w_par2, if_true, if_false, decide_true, decide_false, Bool.false_eq_true, Bool.not_true, Bool.not_false,
    u_ixR, u_ixT, u_ixG, u_setR, u_app, u_extR, u_lenR, u_tupR, u_tupT, u_listR, u_aiR, u_isLst, u_isStr, u_addR, u_sl, u_part, u_kNone, u_slR, u_slT, u_aStar, atI_0, u_isiS, u_inS, u_inG, u_aiS, u_lenS, u_addT,
    List.map_cons, List.map_nil, List.length_cons, List.length_nil, List.cons_append, List.nil_append, Nat.reduceAdd, Nat.reduceSub, List.replicate_succ, List.replicate_zero, $[$ts:term],*])
theorem word_name : ∀ w ∈ [S_resume, S_request, S_expire, S_fail], w.length ≤ 8 ∧ 1 ≤ w.length ∧ (∀ c ∈ w.cps.toList, c ∈ letters.cps.toList) := by decide +kernel
theorem word_ok {w : Str} (h : w ∈ [S_resume, S_request, S_expire, S_fail]) : NameOk w := ⟨(word_name w h).2.1, (word_name w h).1, (word_name w h).2.2⟩
/-- an event's text and the event read back -/
theorem event_turn (w : Str) (ns : List Str) (hl : ∀ x ∈ w :: ns, NameOk x) (h3 : ns.length ≤ 90) (hw : sizesK.lookup w = some (.int ((ns.length + 1 : Nat) : Int))) (h : AH) : ∃ h', (tw 59).1 n_event_text [.tup ((w :: ns).map .str)] h = .ok (.str (Txt.join Sx_32 (w :: ns))) h ∧ mJoin (.str Sx_32) [.tup ((w :: ns).map .str)] h = .ok (.str (Txt.join Sx_32 (w :: ns))) h ∧
    (tw 59).1 n_read_event [.str (Txt.join Sx_32 (w :: ns))] h = .ok (.tup ((w :: ns).map .str)) h' ∧ Gro h h' ∧ ∃ t : Str, ∀ h, bRepr [.tup ((w :: ns).map .str)] h = .ok (.str t) h := by
  obtain ⟨h', e, G⟩ := read_event_ok 57 w ns hl (by omega) hw h
  have sm := names_sum _ hl
  have ll : (w :: ns).length = ns.length + 1 := rfl
  have fl : AV.fls ((w :: ns).map .str) = true := strs_fl fun x hx => (hl x hx).str
  have sz := strs_sz (w :: ns)
  have dp := strs_dp (w :: ns)
  have wt := names_wt _ hl
  refine ⟨h', event_text_ok 58 (w :: ns) hl (by omega) h, w_joinT Sx_32 (w :: ns) (show ((w :: ns).map (·.length)).sum + (w :: ns).length * 1 ≤ 1000000 by omega), e, G, _, fun h => repr_fl h (v := .tup ((w :: ns).map .str)) ?_ ?_ ?_ ?_⟩
  · unfold AV.fl; exact fl
  · unfold AV.sz; omega
  · unfold AV.dp; omega
  · unfold AV.wt; omega
theorem run_law (ns : List Int) : wpE ((tw 60).1 n_law [.scr] ⟨0, .nil, ns⟩) fun v _ => v = .bl true := by
  rw [call_law]
  unfold kCall F_law kEnv
  wp_walk using w_isN
  refine wpE.call (P := fun fl h' => ∃ s', fl = .nx s') (for_inv (xs := (List.range (max 2 (min 4 ns.length))).map fun (k : Nat) => AV.int k) (J := .rng 0 (max 2 (min 4 ns.length))) (h1 := ⟨0, .nil, ns⟩)
    (Inv := fun i s h => ∃ o1 o2 o3 o4 o5, s = [some .scr, o1, o2, o3, o4, o5]) ?hi ?hlen ?start ?next ?step ?fin) ?rest
  case hi =>
    wp_walk using w_isN
    rw [w_rng1 _ (by split <;> (try split) <;> omega) (by split <;> (try split) <;> omega)]
    congr 2
    split <;> (try split) <;> omega
  case hlen => rw [List.length_map, List.length_range]; omega
  case start => exact ⟨_, _, _, _, _, rfl⟩
  case next => intro i s h' _; exact rng_next _ i h'
  case fin => rintro s h' ⟨o1, o2, o3, o4, o5, rfl⟩; exact ⟨_, rfl⟩
  case rest =>
    rintro fl h' ⟨s', rfl⟩
    wp_walk using w_isN
    rw [wpE_ok]
  case step =>
    rintro i v s h' hv ⟨o1, o2, o3, o4, o5, rfl⟩
    have hi : i < max 2 (min 4 ns.length) := by
      have := (List.getElem?_eq_some_iff.mp hv).1
      rwa [List.length_map, List.length_range] at this
    obtain rfl : v = .int i := by
      rw [List.getElem?_map, List.getElem?_range hi] at hv
      simpa using hv.symm
    wp_walk using w_isN
    rw [wpE_ok]
    obtain ⟨h1, e1, G1, n1, s1⟩ := source_ok 58 h' i (by omega)
    wp_walk using e1
    refine wpE.call (P := fun fl h2 => ∃ o3 o4 o5, fl = .nx [some .scr, some (.int i), some (.ref h'.n), o3, o4, o5]) (for_inv (xs := (List.range 20).map fun (k : Nat) => AV.int k) (J := .rng 0 20) (h1 := h1)
      (Inv := fun j s h2 => (∃ o3 o4 o5, s = [some .scr, some (.int i), some (.ref h'.n), o3, o4, o5]) ∧ h'.n < h2.n ∧ ∃ m, Src h2 h'.n m ∧ m ≤ 200 * j) ?hi2 ?hlen2 ?start2 ?next2 ?step2 ?fin2) ?rest2
    case hi2 =>
      wp_walk using w_isN
      rw [w_rng1 _ (by decide) (by decide)]
      rfl
    case hlen2 => rw [List.length_map, List.length_range]; omega
    case start2 => exact ⟨⟨_, _, _, rfl⟩, by omega, 0, s1, by omega⟩
    case next2 => intro i s h' _; exact rng_next _ i h'
    case fin2 => rintro s h2 ⟨⟨o3, o4, o5, rfl⟩, _⟩; exact ⟨_, _, _, rfl⟩
    case rest2 =>
      rintro fl h2 ⟨o3, o4, o5, rfl⟩
      wp_walk using w_isN
      rw [wpE_ok]
      exact ⟨_, _, _, _, _, rfl⟩
    case step2 =>
      rintro j v s h2 hv2 ⟨⟨o3, o4, o5, rfl⟩, hr2, m, sr, hm⟩
      have hj : j < 20 := by
        have := (List.getElem?_eq_some_iff.mp hv2).1
        rwa [List.length_map, List.length_range] at this
      clear hv2
      wp_walk using w_isN
      rw [wpE_ok]
      wp_walk using w_isN
      rw [w_mkLstR _ rfl, wb_ok]
      have sp := sr.pushed hr2 (.lst [AV.str S_resume, .str S_request, .str S_expire, .str S_fail])
      obtain ⟨w0, h3, e3, hw, s3, M3, n3⟩ := choice_ok 57 (h2.push (.lst [AV.str S_resume, .str S_request, .str S_expire, .str S_fail])) h'.n m h2.n _ sp (get_push_self _ _) (Nat.lt_succ_self _) (by omega) (by decide) (by decide) (by omega)
      obtain ⟨w, hw', rfl⟩ := List.mem_map.mp (show w0 ∈ ([S_resume, S_request, S_expire, S_fail] : List Str).map AV.str from hw)
      have hr3 : h'.n < h3.n := by rw [n3]; exact Nat.lt_succ_of_lt hr2
      obtain ⟨x, h4, e4, nx, s4, M4⟩ := name_ok 56 h3 h'.n (m + 1) s3 hr3 (by omega)
      wp_walk using e3, e4
      rw [w_mkTupR _ rfl, wb_ok]
      have hr4 : h'.n < h4.n := Nat.lt_of_lt_of_le hr3 M4.le
      by_cases q : w = S_fail
      · subst q
        obtain ⟨y, h5, e5, ny, s5, M5⟩ := name_ok 56 h4 h'.n (m + 1 + 9) s4 hr4 (by omega)
        obtain ⟨h6, t1, t2, t3, G6, t, t4⟩ := event_turn S_fail [x, y] (fun z hz => by simp at hz; rcases hz with rfl | rfl | rfl <;> first | exact nx | exact ny | exact word_ok (by simp)) (by simp) (by kernel_rfl) h5
        have z2 : (2 : Nat) + 1 ≤ sizeLine := by rw [sizeLine_eq]; omega
        simp only [List.map_cons, List.map_nil] at t1 t2 t3 t4
        wp_walk using e5, eq_self
        rw [w_mkTupR _ rfl, wb_ok]
        wp_walk using z2, t1, t2, t3, t4, eq_self
        rw [wpE_ok]
        exact ⟨⟨_, _, _, rfl⟩, by have := M5.le; have := G6.le; omega, _, s5.keep (G6.get _ (Nat.lt_of_lt_of_le hr4 M5.le)), by omega⟩
      · have hw2 : sizesK.lookup w = some (.int (([x].length + 1 : Nat) : Int)) := by
          simp at hw'
          rcases hw' with rfl | rfl | rfl | rfl
          · kernel_rfl
          · kernel_rfl
          · kernel_rfl
          · exact absurd rfl q
        obtain ⟨h6, t1, t2, t3, G6, t, t4⟩ := event_turn w [x] (fun z hz => by simp at hz; rcases hz with rfl | rfl <;> first | exact nx | exact word_ok hw') (by simp) hw2 h4
        simp only [List.map_cons, List.map_nil] at t1 t2 t3 t4
        wp_walk using q, t1, t2, t3, t4, eq_self
        rw [wpE_ok]
        exact ⟨⟨_, _, _, rfl⟩, by have := G6.le; omega, _, s4.keep (G6.get _ hr4), by omega⟩
theorem run : ∀ ns : List Int, ns.length ≤ 63 → resT ((tw 60).1 7 [.scr] ⟨0, .nil, ns⟩) = true := fun ns _ => by
  obtain ⟨v, h', e, rfl⟩ := run_law ns
  have e' : (tw 60).1 7 [.scr] ⟨0, .nil, ns⟩ = .ok (.bl true) h' := e
  rw [e']
  rfl
end K25
namespace K25
open PySem PySem.Spec PyProof.Rows L2 WC PySem.W HandSHeadRun
set_option maxRecDepth 100000
set_option maxHeartbeats 0
noncomputable section
abbrev Pg : Program := PySem.Challenge.pw_whosecancel_k25_texts_of_events
abbrev env : Env := { scope := Pg.main.scope, locals := mainNs, globals := mainNs, cells := [], code := (.ref 13), frame := some 14 }
abbrev bE : List Stmt := behindTheImports Pg
abbrev cE : Code := .body bE env
abbrev fq : Pos := (⟨0, 0, 0, 0⟩ : Pos)
abbrev n0 : Nat := 11
abbrev ann : Option Value := (some (.ref 6))
noncomputable abbrev o0 (P : Params) : Obj := ⟨(.type "dict"), none, (.dict #[⟨PyData.keyHash P ⟨#[95, 95, 110, 97, 109, 101, 95, 95]⟩, (.str ⟨#[95, 95, 110, 97, 109, 101, 95, 95]⟩ 1), (.str ⟨#[98, 117, 105, 108, 116, 105, 110, 115]⟩ 160)⟩, ⟨PyData.keyHash P ⟨#[95, 95, 100, 111, 99, 95, 95]⟩, (.str ⟨#[95, 95, 100, 111, 99, 95, 95]⟩ 2), (.builtin "builtins.__doc__:str#opaque")⟩, ⟨PyData.keyHash P ⟨#[95, 95, 112, 97, 99, 107, 97, 103, 101, 95, 95]⟩, (.str ⟨#[95, 95, 112, 97, 99, 107, 97, 103, 101, 95, 95]⟩ 3), (.builtin "builtins.__package__:str#opaque")⟩, ⟨PyData.keyHash P ⟨#[95, 95, 108, 111, 97, 100, 101, 114, 95, 95]⟩, (.str ⟨#[95, 95, 108, 111, 97, 100, 101, 114, 95, 95]⟩ 4), (.builtin "builtins.__loader__:shared#opaque")⟩, ⟨PyData.keyHash P ⟨#[95, 95, 115, 112, 101, 99, 95, 95]⟩, (.str ⟨#[95, 95, 115, 112, 101, 99, 95, 95]⟩ 5), (.builtin "builtins.__spec__#opaque")⟩, ⟨PyData.keyHash P ⟨#[95, 95, 98, 117, 105, 108, 100, 95, 99, 108, 97, 115, 115, 95, 95]⟩, (.str ⟨#[95, 95, 98, 117, 105, 108, 100, 95, 99, 108, 97, 115, 115, 95, 95]⟩ 6), (.builtin "__build_class__")⟩, ⟨PyData.keyHash P ⟨#[95, 95, 105, 109, 112, 111, 114, 116, 95, 95]⟩, (.str ⟨#[95, 95, 105, 109, 112, 111, 114, 116, 95, 95]⟩ 7), (.builtin "__import__")⟩, ⟨PyData.keyHash P ⟨#[97, 98, 115]⟩, (.str ⟨#[97, 98, 115]⟩ 8), (.builtin "abs")⟩, ⟨PyData.keyHash P ⟨#[97, 108, 108]⟩, (.str ⟨#[97, 108, 108]⟩ 9), (.builtin "all")⟩, ⟨PyData.keyHash P ⟨#[97, 110, 121]⟩, (.str ⟨#[97, 110, 121]⟩ 10), (.builtin "any")⟩, ⟨PyData.keyHash P ⟨#[97, 115, 99, 105, 105]⟩, (.str ⟨#[97, 115, 99, 105, 105]⟩ 11), (.builtin "ascii")⟩, ⟨PyData.keyHash P ⟨#[98, 105, 110]⟩, (.str ⟨#[98, 105, 110]⟩ 12), (.builtin "bin")⟩, ⟨PyData.keyHash P ⟨#[98, 114, 101, 97, 107, 112, 111, 105, 110, 116]⟩, (.str ⟨#[98, 114, 101, 97, 107, 112, 111, 105, 110, 116]⟩ 13), (.builtin "breakpoint")⟩, ⟨PyData.keyHash P ⟨#[99, 97, 108, 108, 97, 98, 108, 101]⟩, (.str ⟨#[99, 97, 108, 108, 97, 98, 108, 101]⟩ 14), (.builtin "callable")⟩, ⟨PyData.keyHash P ⟨#[99, 104, 114]⟩, (.str ⟨#[99, 104, 114]⟩ 15), (.builtin "chr")⟩, ⟨PyData.keyHash P ⟨#[99, 111, 109, 112, 105, 108, 101]⟩, (.str ⟨#[99, 111, 109, 112, 105, 108, 101]⟩ 16), (.builtin "compile")⟩, ⟨PyData.keyHash P ⟨#[100, 101, 108, 97, 116, 116, 114]⟩, (.str ⟨#[100, 101, 108, 97, 116, 116, 114]⟩ 17), (.builtin "delattr")⟩, ⟨PyData.keyHash P ⟨#[100, 105, 114]⟩, (.str ⟨#[100, 105, 114]⟩ 18), (.builtin "dir")⟩, ⟨PyData.keyHash P ⟨#[100, 105, 118, 109, 111, 100]⟩, (.str ⟨#[100, 105, 118, 109, 111, 100]⟩ 19), (.builtin "divmod")⟩, ⟨PyData.keyHash P ⟨#[101, 118, 97, 108]⟩, (.str ⟨#[101, 118, 97, 108]⟩ 20), (.builtin "eval")⟩, ⟨PyData.keyHash P ⟨#[101, 120, 101, 99]⟩, (.str ⟨#[101, 120, 101, 99]⟩ 21), (.builtin "exec")⟩, ⟨PyData.keyHash P ⟨#[102, 111, 114, 109, 97, 116]⟩, (.str ⟨#[102, 111, 114, 109, 97, 116]⟩ 22), (.builtin "format")⟩, ⟨PyData.keyHash P ⟨#[103, 101, 116, 97, 116, 116, 114]⟩, (.str ⟨#[103, 101, 116, 97, 116, 116, 114]⟩ 23), (.builtin "getattr")⟩, ⟨PyData.keyHash P ⟨#[103, 108, 111, 98, 97, 108, 115]⟩, (.str ⟨#[103, 108, 111, 98, 97, 108, 115]⟩ 24), (.builtin "globals")⟩, ⟨PyData.keyHash P ⟨#[104, 97, 115, 97, 116, 116, 114]⟩, (.str ⟨#[104, 97, 115, 97, 116, 116, 114]⟩ 25), (.builtin "hasattr")⟩, ⟨PyData.keyHash P ⟨#[104, 97, 115, 104]⟩, (.str ⟨#[104, 97, 115, 104]⟩ 26), (.builtin "hash")⟩, ⟨PyData.keyHash P ⟨#[104, 101, 120]⟩, (.str ⟨#[104, 101, 120]⟩ 27), (.builtin "hex")⟩, ⟨PyData.keyHash P ⟨#[105, 100]⟩, (.str ⟨#[105, 100]⟩ 28), (.builtin "id")⟩, ⟨PyData.keyHash P ⟨#[105, 110, 112, 117, 116]⟩, (.str ⟨#[105, 110, 112, 117, 116]⟩ 29), (.builtin "input")⟩, ⟨PyData.keyHash P ⟨#[105, 115, 105, 110, 115, 116, 97, 110, 99, 101]⟩, (.str ⟨#[105, 115, 105, 110, 115, 116, 97, 110, 99, 101]⟩ 30), (.builtin "isinstance")⟩, ⟨PyData.keyHash P ⟨#[105, 115, 115, 117, 98, 99, 108, 97, 115, 115]⟩, (.str ⟨#[105, 115, 115, 117, 98, 99, 108, 97, 115, 115]⟩ 31), (.builtin "issubclass")⟩, ⟨PyData.keyHash P ⟨#[105, 116, 101, 114]⟩, (.str ⟨#[105, 116, 101, 114]⟩ 32), (.builtin "iter")⟩, ⟨PyData.keyHash P ⟨#[97, 105, 116, 101, 114]⟩, (.str ⟨#[97, 105, 116, 101, 114]⟩ 33), (.builtin "aiter")⟩, ⟨PyData.keyHash P ⟨#[108, 101, 110]⟩, (.str ⟨#[108, 101, 110]⟩ 34), (.builtin "len")⟩, ⟨PyData.keyHash P ⟨#[108, 111, 99, 97, 108, 115]⟩, (.str ⟨#[108, 111, 99, 97, 108, 115]⟩ 35), (.builtin "locals")⟩, ⟨PyData.keyHash P ⟨#[109, 97, 120]⟩, (.str ⟨#[109, 97, 120]⟩ 36), (.builtin "max")⟩, ⟨PyData.keyHash P ⟨#[109, 105, 110]⟩, (.str ⟨#[109, 105, 110]⟩ 37), (.builtin "min")⟩, ⟨PyData.keyHash P ⟨#[110, 101, 120, 116]⟩, (.str ⟨#[110, 101, 120, 116]⟩ 38), (.builtin "next")⟩, ⟨PyData.keyHash P ⟨#[97, 110, 101, 120, 116]⟩, (.str ⟨#[97, 110, 101, 120, 116]⟩ 39), (.builtin "anext")⟩, ⟨PyData.keyHash P ⟨#[111, 99, 116]⟩, (.str ⟨#[111, 99, 116]⟩ 40), (.builtin "oct")⟩, ⟨PyData.keyHash P ⟨#[111, 114, 100]⟩, (.str ⟨#[111, 114, 100]⟩ 41), (.builtin "ord")⟩, ⟨PyData.keyHash P ⟨#[112, 111, 119]⟩, (.str ⟨#[112, 111, 119]⟩ 42), (.builtin "pow")⟩, ⟨PyData.keyHash P ⟨#[112, 114, 105, 110, 116]⟩, (.str ⟨#[112, 114, 105, 110, 116]⟩ 43), (.builtin "print")⟩, ⟨PyData.keyHash P ⟨#[114, 101, 112, 114]⟩, (.str ⟨#[114, 101, 112, 114]⟩ 44), (.builtin "repr")⟩, ⟨PyData.keyHash P ⟨#[114, 111, 117, 110, 100]⟩, (.str ⟨#[114, 111, 117, 110, 100]⟩ 45), (.builtin "round")⟩, ⟨PyData.keyHash P ⟨#[115, 101, 116, 97, 116, 116, 114]⟩, (.str ⟨#[115, 101, 116, 97, 116, 116, 114]⟩ 46), (.builtin "setattr")⟩, ⟨PyData.keyHash P ⟨#[115, 111, 114, 116, 101, 100]⟩, (.str ⟨#[115, 111, 114, 116, 101, 100]⟩ 47), (.builtin "sorted")⟩, ⟨PyData.keyHash P ⟨#[115, 117, 109]⟩, (.str ⟨#[115, 117, 109]⟩ 48), (.builtin "sum")⟩, ⟨PyData.keyHash P ⟨#[118, 97, 114, 115]⟩, (.str ⟨#[118, 97, 114, 115]⟩ 49), (.builtin "vars")⟩, ⟨PyData.keyHash P ⟨#[78, 111, 110, 101]⟩, (.str ⟨#[78, 111, 110, 101]⟩ 50), .none⟩, ⟨PyData.keyHash P ⟨#[69, 108, 108, 105, 112, 115, 105, 115]⟩, (.str ⟨#[69, 108, 108, 105, 112, 115, 105, 115]⟩ 51), .ellipsis⟩, ⟨PyData.keyHash P ⟨#[78, 111, 116, 73, 109, 112, 108, 101, 109, 101, 110, 116, 101, 100]⟩, (.str ⟨#[78, 111, 116, 73, 109, 112, 108, 101, 109, 101, 110, 116, 101, 100]⟩ 52), .notImplemented⟩, ⟨PyData.keyHash P ⟨#[70, 97, 108, 115, 101]⟩, (.str ⟨#[70, 97, 108, 115, 101]⟩ 53), (.bool false)⟩, ⟨PyData.keyHash P ⟨#[84, 114, 117, 101]⟩, (.str ⟨#[84, 114, 117, 101]⟩ 54), (.bool true)⟩, ⟨PyData.keyHash P ⟨#[98, 111, 111, 108]⟩, (.str ⟨#[98, 111, 111, 108]⟩ 55), (.type "bool")⟩, ⟨PyData.keyHash P ⟨#[109, 101, 109, 111, 114, 121, 118, 105, 101, 119]⟩, (.str ⟨#[109, 101, 109, 111, 114, 121, 118, 105, 101, 119]⟩ 56), (.type "memoryview")⟩, ⟨PyData.keyHash P ⟨#[98, 121, 116, 101, 97, 114, 114, 97, 121]⟩, (.str ⟨#[98, 121, 116, 101, 97, 114, 114, 97, 121]⟩ 57), (.type "bytearray")⟩, ⟨PyData.keyHash P ⟨#[98, 121, 116, 101, 115]⟩, (.str ⟨#[98, 121, 116, 101, 115]⟩ 58), (.type "bytes")⟩, ⟨PyData.keyHash P ⟨#[99, 108, 97, 115, 115, 109, 101, 116, 104, 111, 100]⟩, (.str ⟨#[99, 108, 97, 115, 115, 109, 101, 116, 104, 111, 100]⟩ 59), (.type "classmethod")⟩, ⟨PyData.keyHash P ⟨#[99, 111, 109, 112, 108, 101, 120]⟩, (.str ⟨#[99, 111, 109, 112, 108, 101, 120]⟩ 60), (.type "complex")⟩, ⟨PyData.keyHash P ⟨#[100, 105, 99, 116]⟩, (.str ⟨#[100, 105, 99, 116]⟩ 61), (.type "dict")⟩, ⟨PyData.keyHash P ⟨#[101, 110, 117, 109, 101, 114, 97, 116, 101]⟩, (.str ⟨#[101, 110, 117, 109, 101, 114, 97, 116, 101]⟩ 62), (.type "enumerate")⟩, ⟨PyData.keyHash P ⟨#[102, 105, 108, 116, 101, 114]⟩, (.str ⟨#[102, 105, 108, 116, 101, 114]⟩ 63), (.type "filter")⟩, ⟨PyData.keyHash P ⟨#[102, 108, 111, 97, 116]⟩, (.str ⟨#[102, 108, 111, 97, 116]⟩ 64), (.type "float")⟩, ⟨PyData.keyHash P ⟨#[102, 114, 111, 122, 101, 110, 115, 101, 116]⟩, (.str ⟨#[102, 114, 111, 122, 101, 110, 115, 101, 116]⟩ 65), (.type "frozenset")⟩, ⟨PyData.keyHash P ⟨#[112, 114, 111, 112, 101, 114, 116, 121]⟩, (.str ⟨#[112, 114, 111, 112, 101, 114, 116, 121]⟩ 66), (.type "property")⟩, ⟨PyData.keyHash P ⟨#[105, 110, 116]⟩, (.str ⟨#[105, 110, 116]⟩ 67), (.type "int")⟩, ⟨PyData.keyHash P ⟨#[108, 105, 115, 116]⟩, (.str ⟨#[108, 105, 115, 116]⟩ 68), (.type "list")⟩, ⟨PyData.keyHash P ⟨#[109, 97, 112]⟩, (.str ⟨#[109, 97, 112]⟩ 69), (.type "map")⟩, ⟨PyData.keyHash P ⟨#[111, 98, 106, 101, 99, 116]⟩, (.str ⟨#[111, 98, 106, 101, 99, 116]⟩ 70), (.type "object")⟩, ⟨PyData.keyHash P ⟨#[114, 97, 110, 103, 101]⟩, (.str ⟨#[114, 97, 110, 103, 101]⟩ 71), (.type "range")⟩, ⟨PyData.keyHash P ⟨#[114, 101, 118, 101, 114, 115, 101, 100]⟩, (.str ⟨#[114, 101, 118, 101, 114, 115, 101, 100]⟩ 72), (.type "reversed")⟩, ⟨PyData.keyHash P ⟨#[115, 101, 116]⟩, (.str ⟨#[115, 101, 116]⟩ 73), (.type "set")⟩, ⟨PyData.keyHash P ⟨#[115, 108, 105, 99, 101]⟩, (.str ⟨#[115, 108, 105, 99, 101]⟩ 74), (.type "slice")⟩, ⟨PyData.keyHash P ⟨#[115, 116, 97, 116, 105, 99, 109, 101, 116, 104, 111, 100]⟩, (.str ⟨#[115, 116, 97, 116, 105, 99, 109, 101, 116, 104, 111, 100]⟩ 75), (.type "staticmethod")⟩, ⟨PyData.keyHash P ⟨#[115, 116, 114]⟩, (.str ⟨#[115, 116, 114]⟩ 76), (.type "str")⟩, ⟨PyData.keyHash P ⟨#[115, 117, 112, 101, 114]⟩, (.str ⟨#[115, 117, 112, 101, 114]⟩ 77), (.type "super")⟩, ⟨PyData.keyHash P ⟨#[116, 117, 112, 108, 101]⟩, (.str ⟨#[116, 117, 112, 108, 101]⟩ 78), (.type "tuple")⟩, ⟨PyData.keyHash P ⟨#[116, 121, 112, 101]⟩, (.str ⟨#[116, 121, 112, 101]⟩ 79), (.type "type")⟩, ⟨PyData.keyHash P ⟨#[122, 105, 112]⟩, (.str ⟨#[122, 105, 112]⟩ 80), (.type "zip")⟩, ⟨PyData.keyHash P ⟨#[95, 95, 100, 101, 98, 117, 103, 95, 95]⟩, (.str ⟨#[95, 95, 100, 101, 98, 117, 103, 95, 95]⟩ 81), (.bool true)⟩, ⟨PyData.keyHash P ⟨#[66, 97, 115, 101, 69, 120, 99, 101, 112, 116, 105, 111, 110]⟩, (.str ⟨#[66, 97, 115, 101, 69, 120, 99, 101, 112, 116, 105, 111, 110]⟩ 82), (.type "BaseException")⟩, ⟨PyData.keyHash P ⟨#[66, 97, 115, 101, 69, 120, 99, 101, 112, 116, 105, 111, 110, 71, 114, 111, 117, 112]⟩, (.str ⟨#[66, 97, 115, 101, 69, 120, 99, 101, 112, 116, 105, 111, 110, 71, 114, 111, 117, 112]⟩ 83), (.type "BaseExceptionGroup")⟩, ⟨PyData.keyHash P ⟨#[69, 120, 99, 101, 112, 116, 105, 111, 110]⟩, (.str ⟨#[69, 120, 99, 101, 112, 116, 105, 111, 110]⟩ 84), (.type "Exception")⟩, ⟨PyData.keyHash P ⟨#[71, 101, 110, 101, 114, 97, 116, 111, 114, 69, 120, 105, 116]⟩, (.str ⟨#[71, 101, 110, 101, 114, 97, 116, 111, 114, 69, 120, 105, 116]⟩ 85), (.type "GeneratorExit")⟩, ⟨PyData.keyHash P ⟨#[75, 101, 121, 98, 111, 97, 114, 100, 73, 110, 116, 101, 114, 114, 117, 112, 116]⟩, (.str ⟨#[75, 101, 121, 98, 111, 97, 114, 100, 73, 110, 116, 101, 114, 114, 117, 112, 116]⟩ 86), (.type "KeyboardInterrupt")⟩, ⟨PyData.keyHash P ⟨#[83, 121, 115, 116, 101, 109, 69, 120, 105, 116]⟩, (.str ⟨#[83, 121, 115, 116, 101, 109, 69, 120, 105, 116]⟩ 87), (.type "SystemExit")⟩, ⟨PyData.keyHash P ⟨#[65, 114, 105, 116, 104, 109, 101, 116, 105, 99, 69, 114, 114, 111, 114]⟩, (.str ⟨#[65, 114, 105, 116, 104, 109, 101, 116, 105, 99, 69, 114, 114, 111, 114]⟩ 88), (.type "ArithmeticError")⟩, ⟨PyData.keyHash P ⟨#[65, 115, 115, 101, 114, 116, 105, 111, 110, 69, 114, 114, 111, 114]⟩, (.str ⟨#[65, 115, 115, 101, 114, 116, 105, 111, 110, 69, 114, 114, 111, 114]⟩ 89), (.type "AssertionError")⟩, ⟨PyData.keyHash P ⟨#[65, 116, 116, 114, 105, 98, 117, 116, 101, 69, 114, 114, 111, 114]⟩, (.str ⟨#[65, 116, 116, 114, 105, 98, 117, 116, 101, 69, 114, 114, 111, 114]⟩ 90), (.type "AttributeError")⟩, ⟨PyData.keyHash P ⟨#[66, 117, 102, 102, 101, 114, 69, 114, 114, 111, 114]⟩, (.str ⟨#[66, 117, 102, 102, 101, 114, 69, 114, 114, 111, 114]⟩ 91), (.type "BufferError")⟩, ⟨PyData.keyHash P ⟨#[69, 79, 70, 69, 114, 114, 111, 114]⟩, (.str ⟨#[69, 79, 70, 69, 114, 114, 111, 114]⟩ 92), (.type "EOFError")⟩, ⟨PyData.keyHash P ⟨#[73, 109, 112, 111, 114, 116, 69, 114, 114, 111, 114]⟩, (.str ⟨#[73, 109, 112, 111, 114, 116, 69, 114, 114, 111, 114]⟩ 93), (.type "ImportError")⟩, ⟨PyData.keyHash P ⟨#[76, 111, 111, 107, 117, 112, 69, 114, 114, 111, 114]⟩, (.str ⟨#[76, 111, 111, 107, 117, 112, 69, 114, 114, 111, 114]⟩ 94), (.type "LookupError")⟩, ⟨PyData.keyHash P ⟨#[77, 101, 109, 111, 114, 121, 69, 114, 114, 111, 114]⟩, (.str ⟨#[77, 101, 109, 111, 114, 121, 69, 114, 114, 111, 114]⟩ 95), (.type "MemoryError")⟩, ⟨PyData.keyHash P ⟨#[78, 97, 109, 101, 69, 114, 114, 111, 114]⟩, (.str ⟨#[78, 97, 109, 101, 69, 114, 114, 111, 114]⟩ 96), (.type "NameError")⟩, ⟨PyData.keyHash P ⟨#[79, 83, 69, 114, 114, 111, 114]⟩, (.str ⟨#[79, 83, 69, 114, 114, 111, 114]⟩ 97), (.type "OSError")⟩, ⟨PyData.keyHash P ⟨#[82, 101, 102, 101, 114, 101, 110, 99, 101, 69, 114, 114, 111, 114]⟩, (.str ⟨#[82, 101, 102, 101, 114, 101, 110, 99, 101, 69, 114, 114, 111, 114]⟩ 98), (.type "ReferenceError")⟩, ⟨PyData.keyHash P ⟨#[82, 117, 110, 116, 105, 109, 101, 69, 114, 114, 111, 114]⟩, (.str ⟨#[82, 117, 110, 116, 105, 109, 101, 69, 114, 114, 111, 114]⟩ 99), (.type "RuntimeError")⟩, ⟨PyData.keyHash P ⟨#[83, 116, 111, 112, 65, 115, 121, 110, 99, 73, 116, 101, 114, 97, 116, 105, 111, 110]⟩, (.str ⟨#[83, 116, 111, 112, 65, 115, 121, 110, 99, 73, 116, 101, 114, 97, 116, 105, 111, 110]⟩ 100), (.type "StopAsyncIteration")⟩, ⟨PyData.keyHash P ⟨#[83, 116, 111, 112, 73, 116, 101, 114, 97, 116, 105, 111, 110]⟩, (.str ⟨#[83, 116, 111, 112, 73, 116, 101, 114, 97, 116, 105, 111, 110]⟩ 101), (.type "StopIteration")⟩, ⟨PyData.keyHash P ⟨#[83, 121, 110, 116, 97, 120, 69, 114, 114, 111, 114]⟩, (.str ⟨#[83, 121, 110, 116, 97, 120, 69, 114, 114, 111, 114]⟩ 102), (.type "SyntaxError")⟩, ⟨PyData.keyHash P ⟨#[83, 121, 115, 116, 101, 109, 69, 114, 114, 111, 114]⟩, (.str ⟨#[83, 121, 115, 116, 101, 109, 69, 114, 114, 111, 114]⟩ 103), (.type "SystemError")⟩, ⟨PyData.keyHash P ⟨#[84, 121, 112, 101, 69, 114, 114, 111, 114]⟩, (.str ⟨#[84, 121, 112, 101, 69, 114, 114, 111, 114]⟩ 104), (.type "TypeError")⟩, ⟨PyData.keyHash P ⟨#[86, 97, 108, 117, 101, 69, 114, 114, 111, 114]⟩, (.str ⟨#[86, 97, 108, 117, 101, 69, 114, 114, 111, 114]⟩ 105), (.type "ValueError")⟩, ⟨PyData.keyHash P ⟨#[87, 97, 114, 110, 105, 110, 103]⟩, (.str ⟨#[87, 97, 114, 110, 105, 110, 103]⟩ 106), (.type "Warning")⟩, ⟨PyData.keyHash P ⟨#[70, 108, 111, 97, 116, 105, 110, 103, 80, 111, 105, 110, 116, 69, 114, 114, 111, 114]⟩, (.str ⟨#[70, 108, 111, 97, 116, 105, 110, 103, 80, 111, 105, 110, 116, 69, 114, 114, 111, 114]⟩ 107), (.type "FloatingPointError")⟩, ⟨PyData.keyHash P ⟨#[79, 118, 101, 114, 102, 108, 111, 119, 69, 114, 114, 111, 114]⟩, (.str ⟨#[79, 118, 101, 114, 102, 108, 111, 119, 69, 114, 114, 111, 114]⟩ 108), (.type "OverflowError")⟩, ⟨PyData.keyHash P ⟨#[90, 101, 114, 111, 68, 105, 118, 105, 115, 105, 111, 110, 69, 114, 114, 111, 114]⟩, (.str ⟨#[90, 101, 114, 111, 68, 105, 118, 105, 115, 105, 111, 110, 69, 114, 114, 111, 114]⟩ 109), (.type "ZeroDivisionError")⟩, ⟨PyData.keyHash P ⟨#[66, 121, 116, 101, 115, 87, 97, 114, 110, 105, 110, 103]⟩, (.str ⟨#[66, 121, 116, 101, 115, 87, 97, 114, 110, 105, 110, 103]⟩ 110), (.type "BytesWarning")⟩, ⟨PyData.keyHash P ⟨#[68, 101, 112, 114, 101, 99, 97, 116, 105, 111, 110, 87, 97, 114, 110, 105, 110, 103]⟩, (.str ⟨#[68, 101, 112, 114, 101, 99, 97, 116, 105, 111, 110, 87, 97, 114, 110, 105, 110, 103]⟩ 111), (.type "DeprecationWarning")⟩, ⟨PyData.keyHash P ⟨#[69, 110, 99, 111, 100, 105, 110, 103, 87, 97, 114, 110, 105, 110, 103]⟩, (.str ⟨#[69, 110, 99, 111, 100, 105, 110, 103, 87, 97, 114, 110, 105, 110, 103]⟩ 112), (.type "EncodingWarning")⟩, ⟨PyData.keyHash P ⟨#[70, 117, 116, 117, 114, 101, 87, 97, 114, 110, 105, 110, 103]⟩, (.str ⟨#[70, 117, 116, 117, 114, 101, 87, 97, 114, 110, 105, 110, 103]⟩ 113), (.type "FutureWarning")⟩, ⟨PyData.keyHash P ⟨#[73, 109, 112, 111, 114, 116, 87, 97, 114, 110, 105, 110, 103]⟩, (.str ⟨#[73, 109, 112, 111, 114, 116, 87, 97, 114, 110, 105, 110, 103]⟩ 114), (.type "ImportWarning")⟩, ⟨PyData.keyHash P ⟨#[80, 101, 110, 100, 105, 110, 103, 68, 101, 112, 114, 101, 99, 97, 116, 105, 111, 110, 87, 97, 114, 110, 105, 110, 103]⟩, (.str ⟨#[80, 101, 110, 100, 105, 110, 103, 68, 101, 112, 114, 101, 99, 97, 116, 105, 111, 110, 87, 97, 114, 110, 105, 110, 103]⟩ 115), (.type "PendingDeprecationWarning")⟩, ⟨PyData.keyHash P ⟨#[82, 101, 115, 111, 117, 114, 99, 101, 87, 97, 114, 110, 105, 110, 103]⟩, (.str ⟨#[82, 101, 115, 111, 117, 114, 99, 101, 87, 97, 114, 110, 105, 110, 103]⟩ 116), (.type "ResourceWarning")⟩, ⟨PyData.keyHash P ⟨#[82, 117, 110, 116, 105, 109, 101, 87, 97, 114, 110, 105, 110, 103]⟩, (.str ⟨#[82, 117, 110, 116, 105, 109, 101, 87, 97, 114, 110, 105, 110, 103]⟩ 117), (.type "RuntimeWarning")⟩, ⟨PyData.keyHash P ⟨#[83, 121, 110, 116, 97, 120, 87, 97, 114, 110, 105, 110, 103]⟩, (.str ⟨#[83, 121, 110, 116, 97, 120, 87, 97, 114, 110, 105, 110, 103]⟩ 118), (.type "SyntaxWarning")⟩, ⟨PyData.keyHash P ⟨#[85, 110, 105, 99, 111, 100, 101, 87, 97, 114, 110, 105, 110, 103]⟩, (.str ⟨#[85, 110, 105, 99, 111, 100, 101, 87, 97, 114, 110, 105, 110, 103]⟩ 119), (.type "UnicodeWarning")⟩, ⟨PyData.keyHash P ⟨#[85, 115, 101, 114, 87, 97, 114, 110, 105, 110, 103]⟩, (.str ⟨#[85, 115, 101, 114, 87, 97, 114, 110, 105, 110, 103]⟩ 120), (.type "UserWarning")⟩, ⟨PyData.keyHash P ⟨#[66, 108, 111, 99, 107, 105, 110, 103, 73, 79, 69, 114, 114, 111, 114]⟩, (.str ⟨#[66, 108, 111, 99, 107, 105, 110, 103, 73, 79, 69, 114, 114, 111, 114]⟩ 121), (.type "BlockingIOError")⟩, ⟨PyData.keyHash P ⟨#[67, 104, 105, 108, 100, 80, 114, 111, 99, 101, 115, 115, 69, 114, 114, 111, 114]⟩, (.str ⟨#[67, 104, 105, 108, 100, 80, 114, 111, 99, 101, 115, 115, 69, 114, 114, 111, 114]⟩ 122), (.type "ChildProcessError")⟩, ⟨PyData.keyHash P ⟨#[67, 111, 110, 110, 101, 99, 116, 105, 111, 110, 69, 114, 114, 111, 114]⟩, (.str ⟨#[67, 111, 110, 110, 101, 99, 116, 105, 111, 110, 69, 114, 114, 111, 114]⟩ 123), (.type "ConnectionError")⟩, ⟨PyData.keyHash P ⟨#[70, 105, 108, 101, 69, 120, 105, 115, 116, 115, 69, 114, 114, 111, 114]⟩, (.str ⟨#[70, 105, 108, 101, 69, 120, 105, 115, 116, 115, 69, 114, 114, 111, 114]⟩ 124), (.type "FileExistsError")⟩, ⟨PyData.keyHash P ⟨#[70, 105, 108, 101, 78, 111, 116, 70, 111, 117, 110, 100, 69, 114, 114, 111, 114]⟩, (.str ⟨#[70, 105, 108, 101, 78, 111, 116, 70, 111, 117, 110, 100, 69, 114, 114, 111, 114]⟩ 125), (.type "FileNotFoundError")⟩, ⟨PyData.keyHash P ⟨#[73, 110, 116, 101, 114, 114, 117, 112, 116, 101, 100, 69, 114, 114, 111, 114]⟩, (.str ⟨#[73, 110, 116, 101, 114, 114, 117, 112, 116, 101, 100, 69, 114, 114, 111, 114]⟩ 126), (.type "InterruptedError")⟩, ⟨PyData.keyHash P ⟨#[73, 115, 65, 68, 105, 114, 101, 99, 116, 111, 114, 121, 69, 114, 114, 111, 114]⟩, (.str ⟨#[73, 115, 65, 68, 105, 114, 101, 99, 116, 111, 114, 121, 69, 114, 114, 111, 114]⟩ 127), (.type "IsADirectoryError")⟩, ⟨PyData.keyHash P ⟨#[78, 111, 116, 65, 68, 105, 114, 101, 99, 116, 111, 114, 121, 69, 114, 114, 111, 114]⟩, (.str ⟨#[78, 111, 116, 65, 68, 105, 114, 101, 99, 116, 111, 114, 121, 69, 114, 114, 111, 114]⟩ 128), (.type "NotADirectoryError")⟩, ⟨PyData.keyHash P ⟨#[80, 101, 114, 109, 105, 115, 115, 105, 111, 110, 69, 114, 114, 111, 114]⟩, (.str ⟨#[80, 101, 114, 109, 105, 115, 115, 105, 111, 110, 69, 114, 114, 111, 114]⟩ 129), (.type "PermissionError")⟩, ⟨PyData.keyHash P ⟨#[80, 114, 111, 99, 101, 115, 115, 76, 111, 111, 107, 117, 112, 69, 114, 114, 111, 114]⟩, (.str ⟨#[80, 114, 111, 99, 101, 115, 115, 76, 111, 111, 107, 117, 112, 69, 114, 114, 111, 114]⟩ 130), (.type "ProcessLookupError")⟩, ⟨PyData.keyHash P ⟨#[84, 105, 109, 101, 111, 117, 116, 69, 114, 114, 111, 114]⟩, (.str ⟨#[84, 105, 109, 101, 111, 117, 116, 69, 114, 114, 111, 114]⟩ 131), (.type "TimeoutError")⟩, ⟨PyData.keyHash P ⟨#[73, 110, 100, 101, 110, 116, 97, 116, 105, 111, 110, 69, 114, 114, 111, 114]⟩, (.str ⟨#[73, 110, 100, 101, 110, 116, 97, 116, 105, 111, 110, 69, 114, 114, 111, 114]⟩ 132), (.type "IndentationError")⟩, ⟨PyData.keyHash P ⟨#[95, 73, 110, 99, 111, 109, 112, 108, 101, 116, 101, 73, 110, 112, 117, 116, 69, 114, 114, 111, 114]⟩, (.str ⟨#[95, 73, 110, 99, 111, 109, 112, 108, 101, 116, 101, 73, 110, 112, 117, 116, 69, 114, 114, 111, 114]⟩ 133), (.type "_IncompleteInputError")⟩, ⟨PyData.keyHash P ⟨#[73, 110, 100, 101, 120, 69, 114, 114, 111, 114]⟩, (.str ⟨#[73, 110, 100, 101, 120, 69, 114, 114, 111, 114]⟩ 134), (.type "IndexError")⟩, ⟨PyData.keyHash P ⟨#[75, 101, 121, 69, 114, 114, 111, 114]⟩, (.str ⟨#[75, 101, 121, 69, 114, 114, 111, 114]⟩ 135), (.type "KeyError")⟩, ⟨PyData.keyHash P ⟨#[77, 111, 100, 117, 108, 101, 78, 111, 116, 70, 111, 117, 110, 100, 69, 114, 114, 111, 114]⟩, (.str ⟨#[77, 111, 100, 117, 108, 101, 78, 111, 116, 70, 111, 117, 110, 100, 69, 114, 114, 111, 114]⟩ 136), (.type "ModuleNotFoundError")⟩, ⟨PyData.keyHash P ⟨#[78, 111, 116, 73, 109, 112, 108, 101, 109, 101, 110, 116, 101, 100, 69, 114, 114, 111, 114]⟩, (.str ⟨#[78, 111, 116, 73, 109, 112, 108, 101, 109, 101, 110, 116, 101, 100, 69, 114, 114, 111, 114]⟩ 137), (.type "NotImplementedError")⟩, ⟨PyData.keyHash P ⟨#[80, 121, 116, 104, 111, 110, 70, 105, 110, 97, 108, 105, 122, 97, 116, 105, 111, 110, 69, 114, 114, 111, 114]⟩, (.str ⟨#[80, 121, 116, 104, 111, 110, 70, 105, 110, 97, 108, 105, 122, 97, 116, 105, 111, 110, 69, 114, 114, 111, 114]⟩ 138), (.type "PythonFinalizationError")⟩, ⟨PyData.keyHash P ⟨#[82, 101, 99, 117, 114, 115, 105, 111, 110, 69, 114, 114, 111, 114]⟩, (.str ⟨#[82, 101, 99, 117, 114, 115, 105, 111, 110, 69, 114, 114, 111, 114]⟩ 139), (.type "RecursionError")⟩, ⟨PyData.keyHash P ⟨#[85, 110, 98, 111, 117, 110, 100, 76, 111, 99, 97, 108, 69, 114, 114, 111, 114]⟩, (.str ⟨#[85, 110, 98, 111, 117, 110, 100, 76, 111, 99, 97, 108, 69, 114, 114, 111, 114]⟩ 140), (.type "UnboundLocalError")⟩, ⟨PyData.keyHash P ⟨#[85, 110, 105, 99, 111, 100, 101, 69, 114, 114, 111, 114]⟩, (.str ⟨#[85, 110, 105, 99, 111, 100, 101, 69, 114, 114, 111, 114]⟩ 141), (.type "UnicodeError")⟩, ⟨PyData.keyHash P ⟨#[66, 114, 111, 107, 101, 110, 80, 105, 112, 101, 69, 114, 114, 111, 114]⟩, (.str ⟨#[66, 114, 111, 107, 101, 110, 80, 105, 112, 101, 69, 114, 114, 111, 114]⟩ 142), (.type "BrokenPipeError")⟩, ⟨PyData.keyHash P ⟨#[67, 111, 110, 110, 101, 99, 116, 105, 111, 110, 65, 98, 111, 114, 116, 101, 100, 69, 114, 114, 111, 114]⟩, (.str ⟨#[67, 111, 110, 110, 101, 99, 116, 105, 111, 110, 65, 98, 111, 114, 116, 101, 100, 69, 114, 114, 111, 114]⟩ 143), (.type "ConnectionAbortedError")⟩, ⟨PyData.keyHash P ⟨#[67, 111, 110, 110, 101, 99, 116, 105, 111, 110, 82, 101, 102, 117, 115, 101, 100, 69, 114, 114, 111, 114]⟩, (.str ⟨#[67, 111, 110, 110, 101, 99, 116, 105, 111, 110, 82, 101, 102, 117, 115, 101, 100, 69, 114, 114, 111, 114]⟩ 144), (.type "ConnectionRefusedError")⟩, ⟨PyData.keyHash P ⟨#[67, 111, 110, 110, 101, 99, 116, 105, 111, 110, 82, 101, 115, 101, 116, 69, 114, 114, 111, 114]⟩, (.str ⟨#[67, 111, 110, 110, 101, 99, 116, 105, 111, 110, 82, 101, 115, 101, 116, 69, 114, 114, 111, 114]⟩ 145), (.type "ConnectionResetError")⟩, ⟨PyData.keyHash P ⟨#[84, 97, 98, 69, 114, 114, 111, 114]⟩, (.str ⟨#[84, 97, 98, 69, 114, 114, 111, 114]⟩ 146), (.type "TabError")⟩, ⟨PyData.keyHash P ⟨#[85, 110, 105, 99, 111, 100, 101, 68, 101, 99, 111, 100, 101, 69, 114, 114, 111, 114]⟩, (.str ⟨#[85, 110, 105, 99, 111, 100, 101, 68, 101, 99, 111, 100, 101, 69, 114, 114, 111, 114]⟩ 147), (.type "UnicodeDecodeError")⟩, ⟨PyData.keyHash P ⟨#[85, 110, 105, 99, 111, 100, 101, 69, 110, 99, 111, 100, 101, 69, 114, 114, 111, 114]⟩, (.str ⟨#[85, 110, 105, 99, 111, 100, 101, 69, 110, 99, 111, 100, 101, 69, 114, 114, 111, 114]⟩ 148), (.type "UnicodeEncodeError")⟩, ⟨PyData.keyHash P ⟨#[85, 110, 105, 99, 111, 100, 101, 84, 114, 97, 110, 115, 108, 97, 116, 101, 69, 114, 114, 111, 114]⟩, (.str ⟨#[85, 110, 105, 99, 111, 100, 101, 84, 114, 97, 110, 115, 108, 97, 116, 101, 69, 114, 114, 111, 114]⟩ 149), (.type "UnicodeTranslateError")⟩, ⟨PyData.keyHash P ⟨#[69, 120, 99, 101, 112, 116, 105, 111, 110, 71, 114, 111, 117, 112]⟩, (.str ⟨#[69, 120, 99, 101, 112, 116, 105, 111, 110, 71, 114, 111, 117, 112]⟩ 150), (.type "ExceptionGroup")⟩, ⟨PyData.keyHash P ⟨#[69, 110, 118, 105, 114, 111, 110, 109, 101, 110, 116, 69, 114, 114, 111, 114]⟩, (.str ⟨#[69, 110, 118, 105, 114, 111, 110, 109, 101, 110, 116, 69, 114, 114, 111, 114]⟩ 151), (.type "OSError")⟩, ⟨PyData.keyHash P ⟨#[73, 79, 69, 114, 114, 111, 114]⟩, (.str ⟨#[73, 79, 69, 114, 114, 111, 114]⟩ 152), (.type "OSError")⟩, ⟨PyData.keyHash P ⟨#[111, 112, 101, 110]⟩, (.str ⟨#[111, 112, 101, 110]⟩ 153), (.builtin "open")⟩, ⟨PyData.keyHash P ⟨#[113, 117, 105, 116]⟩, (.str ⟨#[113, 117, 105, 116]⟩ 154), (.builtin "builtins.quit#opaque")⟩, ⟨PyData.keyHash P ⟨#[101, 120, 105, 116]⟩, (.str ⟨#[101, 120, 105, 116]⟩ 155), (.builtin "builtins.exit#opaque")⟩, ⟨PyData.keyHash P ⟨#[99, 111, 112, 121, 114, 105, 103, 104, 116]⟩, (.str ⟨#[99, 111, 112, 121, 114, 105, 103, 104, 116]⟩ 156), (.builtin "builtins.copyright#opaque")⟩, ⟨PyData.keyHash P ⟨#[99, 114, 101, 100, 105, 116, 115]⟩, (.str ⟨#[99, 114, 101, 100, 105, 116, 115]⟩ 157), (.builtin "builtins.credits#opaque")⟩, ⟨PyData.keyHash P ⟨#[108, 105, 99, 101, 110, 115, 101]⟩, (.str ⟨#[108, 105, 99, 101, 110, 115, 101]⟩ 158), (.builtin "builtins.license#opaque")⟩, ⟨PyData.keyHash P ⟨#[104, 101, 108, 112]⟩, (.str ⟨#[104, 101, 108, 112]⟩ 159), (.builtin "builtins.help#opaque")⟩] 159), #[]⟩
noncomputable abbrev o1 (P : Params) : Obj := ⟨(.type "dict"), none, (.dict #[⟨PyData.keyHash P ⟨#[98, 117, 105, 108, 116, 105, 110, 115]⟩, (.str ⟨#[98, 117, 105, 108, 116, 105, 110, 115]⟩ 162), (.ref 4)⟩, ⟨PyData.keyHash P ⟨#[95, 95, 109, 97, 105, 110, 95, 95]⟩, (.str ⟨#[95, 95, 109, 97, 105, 110, 95, 95]⟩ 163), (.ref 5)⟩] 2), #[]⟩
noncomputable abbrev o2 (P : Params) : Obj := ⟨.none, none, (.dict #[] 0), #[]⟩
noncomputable abbrev o3 (P : Params) : Obj := ⟨(.type "dict"), none, (.dict #[⟨PyData.keyHash P ⟨#[95, 95, 110, 97, 109, 101, 95, 95]⟩, (.str ⟨#[95, 95, 110, 97, 109, 101, 95, 95]⟩ 165), (.str ⟨#[95, 95, 109, 97, 105, 110, 95, 95]⟩ 164)⟩, ⟨PyData.keyHash P ⟨#[95, 95, 100, 111, 99, 95, 95]⟩, (.str ⟨#[95, 95, 100, 111, 99, 95, 95]⟩ 166), .none⟩, ⟨PyData.keyHash P ⟨#[95, 95, 112, 97, 99, 107, 97, 103, 101, 95, 95]⟩, (.str ⟨#[95, 95, 112, 97, 99, 107, 97, 103, 101, 95, 95]⟩ 167), .none⟩, ⟨PyData.keyHash P ⟨#[95, 95, 108, 111, 97, 100, 101, 114, 95, 95]⟩, (.str ⟨#[95, 95, 108, 111, 97, 100, 101, 114, 95, 95]⟩ 168), (.builtin "__main__.__loader__#opaque")⟩, ⟨PyData.keyHash P ⟨#[95, 95, 115, 112, 101, 99, 95, 95]⟩, (.str ⟨#[95, 95, 115, 112, 101, 99, 95, 95]⟩ 169), .none⟩, ⟨PyData.keyHash P ⟨#[95, 95, 97, 110, 110, 111, 116, 97, 116, 105, 111, 110, 115, 95, 95]⟩, (.str ⟨#[95, 95, 97, 110, 110, 111, 116, 97, 116, 105, 111, 110, 115, 95, 95]⟩ 170), (.ref 6)⟩, ⟨PyData.keyHash P ⟨#[95, 95, 98, 117, 105, 108, 116, 105, 110, 115, 95, 95]⟩, (.str ⟨#[95, 95, 98, 117, 105, 108, 116, 105, 110, 115, 95, 95]⟩ 171), (.ref 4)⟩, ⟨PyData.keyHash P ⟨#[95, 95, 102, 105, 108, 101, 95, 95]⟩, (.str ⟨#[95, 95, 102, 105, 108, 101, 95, 95]⟩ 173), (.str ⟨#[47, 99, 108, 97, 105, 109, 47, 99, 117, 116, 46, 112, 121]⟩ 172)⟩, ⟨PyData.keyHash P ⟨#[95, 95, 99, 97, 99, 104, 101, 100, 95, 95]⟩, (.str ⟨#[95, 95, 99, 97, 99, 104, 101, 100, 95, 95]⟩ 174), .none⟩] 9), #[]⟩
noncomputable abbrev o4 (P : Params) : Obj := ⟨(.type "module"), (some 0), .plain, #[]⟩
noncomputable abbrev o5 (P : Params) : Obj := ⟨(.type "module"), (some 3), .plain, #[]⟩
noncomputable abbrev o6 (P : Params) : Obj := ⟨(.type "dict"), none, (.dict #[] 0), #[]⟩
noncomputable abbrev o7 (P : Params) : Obj := ⟨(.type "tuple"), none, (.seq #[] 0), #[]⟩
noncomputable abbrev o8 (P : Params) : Obj := ⟨.none, none, (.fields #[]), #[]⟩
noncomputable abbrev o9 (P : Params) : Obj := ⟨(.type "code"), none, (.fields #[(.str ⟨#[60, 109, 111, 100, 117, 108, 101, 62]⟩ 176), (.str ⟨#[60, 109, 111, 100, 117, 108, 101, 62]⟩ 177), (.str ⟨#[47, 99, 108, 97, 105, 109, 47, 99, 117, 116, 46, 112, 121]⟩ 178), (.int (1) 0), (.int (0) 0), (.int (0) 0), (.int (0) 0), (.int (0) 0), (.ref 7), (.bool false), (.int (175) 0), (.ref 8), .none, .none, .none, .none, (.int (179) 0), (.int (1) 0), (.str ⟨#[47, 99, 108, 97, 105, 109, 47, 99, 117, 116, 46, 112, 121]⟩ 180)]), #[]⟩
noncomputable abbrev o10 (P : Params) : Obj := ⟨(.type "frame"), none, .plain, #[(some (.ref 9)), (some (.ref 3)), (some (.ref 3)), none, (some (.str ⟨#[95, 95, 109, 97, 105, 110, 95, 95]⟩ 164)), none, (some (.ref 0))]⟩
noncomputable abbrev tr0 (P : Params) : PySem.W.BT := (.node (o0 P) (.node (o1 P) (.node (o3 P) (.node (o7 P) .nil .nil) .nil) (.node (o5 P) (.node (o9 P) .nil .nil) .nil)) (.node (o2 P) (.node (o4 P) (.node (o8 P) .nil .nil) .nil) (.node (o6 P) (.node (o10 P) .nil .nil) .nil)))
noncomputable abbrev S0 (w : World) (os : OsState) : SharedT := ⟨tr0 w.params, 11, {}, Array.mk [], boot_drawn, 181, os⟩
noncomputable abbrev o11 (P : Params) : Obj := ⟨(.type "tuple"), none, (.seq #[] 0), #[]⟩
noncomputable abbrev o12 (P : Params) : Obj := ⟨.none, none, (.fields #[]), #[]⟩
noncomputable abbrev o13 (P : Params) : Obj := ⟨(.type "code"), none, (.fields #[(.str ⟨#[60, 109, 111, 100, 117, 108, 101, 62]⟩ 182), (.str ⟨#[60, 109, 111, 100, 117, 108, 101, 62]⟩ 183), (.str ⟨#[47, 99, 108, 97, 105, 109, 47, 99, 117, 116, 46, 112, 121]⟩ 184), (.int (1) 0), (.int (0) 0), (.int (0) 0), (.int (0) 0), (.int (0) 0), (.ref 11), (.bool false), (.int (181) 0), (.ref 12), .none, .none, .none, .none, (.int (185) 0), (.int (1) 0), (.str ⟨#[47, 99, 108, 97, 105, 109, 47, 99, 117, 116, 46, 112, 121]⟩ 186)]), #[]⟩
noncomputable abbrev o14 (P : Params) : Obj := ⟨(.type "frame"), none, .plain, #[(some (.ref 13)), (some (.ref 3)), (some (.ref 3)), none, (some (.str ⟨#[95, 95, 109, 97, 105, 110, 95, 95]⟩ 164)), none, (some (.ref 0))]⟩
noncomputable abbrev trb (P : Params) : PySem.W.BT := (.node (o0 P) (.node (o1 P) (.node (o3 P) (.node (o7 P) .nil .nil) (.node (o11 P) .nil .nil)) (.node (o5 P) (.node (o9 P) .nil .nil) (.node (o13 P) .nil .nil))) (.node (o2 P) (.node (o4 P) (.node (o8 P) .nil .nil) (.node (o12 P) .nil .nil)) (.node (o6 P) (.node (o10 P) .nil .nil) (.node (o14 P) .nil .nil))))
noncomputable abbrev Sb (w : World) (os : OsState) : SharedT := ⟨trb w.params, 15, {}, Array.mk [], boot_drawn, 187, os⟩
noncomputable abbrev o15 (P : Params) : Obj := ⟨(.type "dict"), none, (.dict #[⟨PyData.keyHash P ⟨#[95, 95, 110, 97, 109, 101, 95, 95]⟩, (.str ⟨#[95, 95, 110, 97, 109, 101, 95, 95]⟩ 165), (.str ⟨#[119, 104, 111, 115, 101, 99, 97, 110, 99, 101, 108, 46, 116, 101, 120, 116, 115]⟩ 244)⟩, ⟨PyData.keyHash P ⟨#[95, 95, 100, 111, 99, 95, 95]⟩, (.str ⟨#[95, 95, 100, 111, 99, 95, 95]⟩ 166), .none⟩, ⟨PyData.keyHash P ⟨#[95, 95, 112, 97, 99, 107, 97, 103, 101, 95, 95]⟩, (.str ⟨#[95, 95, 112, 97, 99, 107, 97, 103, 101, 95, 95]⟩ 167), .none⟩, ⟨PyData.keyHash P ⟨#[95, 95, 108, 111, 97, 100, 101, 114, 95, 95]⟩, (.str ⟨#[95, 95, 108, 111, 97, 100, 101, 114, 95, 95]⟩ 168), (.builtin "__main__.__loader__#opaque")⟩, ⟨PyData.keyHash P ⟨#[95, 95, 115, 112, 101, 99, 95, 95]⟩, (.str ⟨#[95, 95, 115, 112, 101, 99, 95, 95]⟩ 169), .none⟩, ⟨PyData.keyHash P ⟨#[95, 95, 97, 110, 110, 111, 116, 97, 116, 105, 111, 110, 115, 95, 95]⟩, (.str ⟨#[95, 95, 97, 110, 110, 111, 116, 97, 116, 105, 111, 110, 115, 95, 95]⟩ 170), (.ref 6)⟩, ⟨PyData.keyHash P ⟨#[95, 95, 98, 117, 105, 108, 116, 105, 110, 115, 95, 95]⟩, (.str ⟨#[95, 95, 98, 117, 105, 108, 116, 105, 110, 115, 95, 95]⟩ 171), (.ref 4)⟩, ⟨PyData.keyHash P ⟨#[95, 95, 102, 105, 108, 101, 95, 95]⟩, (.str ⟨#[95, 95, 102, 105, 108, 101, 95, 95]⟩ 173), (.str ⟨#[47, 99, 108, 97, 105, 109, 47, 99, 117, 116, 46, 112, 121]⟩ 172)⟩, ⟨PyData.keyHash P ⟨#[95, 95, 99, 97, 99, 104, 101, 100, 95, 95]⟩, (.str ⟨#[95, 95, 99, 97, 99, 104, 101, 100, 95, 95]⟩ 174), .none⟩, ⟨PyData.keyHash P ⟨#[87, 104, 111, 115, 101, 69, 114, 114, 111, 114]⟩, (.str ⟨#[87, 104, 111, 115, 101, 69, 114, 114, 111, 114]⟩ 206), (.ref 24)⟩, ⟨PyData.keyHash P ⟨#[66, 97, 100, 84, 101, 120, 116]⟩, (.str ⟨#[66, 97, 100, 84, 101, 120, 116]⟩ 231), (.ref 44)⟩, ⟨PyData.keyHash P ⟨#[77, 79, 83, 84, 95, 76, 69, 84, 84, 69, 82, 83]⟩, (.str ⟨#[77, 79, 83, 84, 95, 76, 69, 84, 84, 69, 82, 83]⟩ 235), (.int (8) 234)⟩, ⟨PyData.keyHash P ⟨#[76, 69, 84, 84, 69, 82, 83]⟩, (.str ⟨#[76, 69, 84, 84, 69, 82, 83]⟩ 237), (.str ⟨#[97, 98, 99, 100, 101, 102, 103, 104, 105, 106, 107, 108, 109, 110, 111, 112, 113, 114, 115, 116, 117, 118, 119, 120, 121, 122]⟩ 236)⟩, ⟨PyData.keyHash P ⟨#[105, 115, 95, 110, 97, 109, 101]⟩, (.str ⟨#[105, 115, 95, 110, 97, 109, 101]⟩ 243), (.ref 51)⟩] 14), #[]⟩
noncomputable abbrev o16 (P : Params) : Obj := ⟨.none, none, (.fields #[(.int (2) 0), (.int (0) 0), (.ref 20), (.int (4) 0), (.int (0) 0), (.ref 33), (.int (11) 0), (.int (0) 0), (.ref 50)]), #[]⟩
noncomputable abbrev o17 (P : Params) : Obj := ⟨(.type "tuple"), none, (.seq #[(.type "ValueError")] 0), #[]⟩
noncomputable abbrev o18 (P : Params) : Obj := ⟨(.type "builtin_function_or_method"), none, (.fields #[(.builtin "type.__prepare__"), (.type "type")]), #[]⟩
noncomputable abbrev o19 (P : Params) : Obj := ⟨(.type "dict"), none, (.dict #[⟨PyData.keyHash P ⟨#[95, 95, 109, 111, 100, 117, 108, 101, 95, 95]⟩, (.str ⟨#[95, 95, 109, 111, 100, 117, 108, 101, 95, 95]⟩ 196), (.str ⟨#[119, 104, 111, 115, 101, 99, 97, 110, 99, 101, 108, 46, 101, 114, 114, 111, 114, 115]⟩ 187)⟩, ⟨PyData.keyHash P ⟨#[95, 95, 113, 117, 97, 108, 110, 97, 109, 101, 95, 95]⟩, (.str ⟨#[95, 95, 113, 117, 97, 108, 110, 97, 109, 101, 95, 95]⟩ 198), (.str ⟨#[87, 104, 111, 115, 101, 69, 114, 114, 111, 114]⟩ 197)⟩, ⟨PyData.keyHash P ⟨#[95, 95, 102, 105, 114, 115, 116, 108, 105, 110, 101, 110, 111, 95, 95]⟩, (.str ⟨#[95, 95, 102, 105, 114, 115, 116, 108, 105, 110, 101, 110, 111, 95, 95]⟩ 200), (.int (2) 199)⟩, ⟨PyData.keyHash P ⟨#[95, 95, 115, 116, 97, 116, 105, 99, 95, 97, 116, 116, 114, 105, 98, 117, 116, 101, 115, 95, 95]⟩, (.str ⟨#[95, 95, 115, 116, 97, 116, 105, 99, 95, 97, 116, 116, 114, 105, 98, 117, 116, 101, 115, 95, 95]⟩ 201), (.ref 22)⟩] 4), #[]⟩
noncomputable abbrev o20 (P : Params) : Obj := ⟨(.type "tuple"), none, (.seq #[] 0), #[]⟩
noncomputable abbrev o21 (P : Params) : Obj := ⟨.none, none, (.fields #[]), #[]⟩
noncomputable abbrev o22 (P : Params) : Obj := ⟨(.type "code"), none, (.fields #[(.str ⟨#[87, 104, 111, 115, 101, 69, 114, 114, 111, 114]⟩ 191), (.str ⟨#[87, 104, 111, 115, 101, 69, 114, 114, 111, 114]⟩ 192), (.str ⟨#[47, 99, 108, 97, 105, 109, 47, 99, 117, 116, 46, 112, 121]⟩ 193), (.int (2) 0), (.int (0) 0), (.int (0) 0), (.int (0) 0), (.int (0) 0), (.ref 18), (.bool false), (.int (181) 0), (.ref 19), .none, .none, .none, .none, (.int (194) 0), (.int (2) 0), (.str ⟨#[47, 99, 108, 97, 105, 109, 47, 99, 117, 116, 46, 112, 121]⟩ 195)]), #[]⟩
noncomputable abbrev o23 (P : Params) : Obj := ⟨(.type "frame"), none, .plain, #[(some (.ref 20)), (some (.ref 3)), (some (.ref 17)), none, (some (.str ⟨#[119, 104, 111, 115, 101, 99, 97, 110, 99, 101, 108, 46, 101, 114, 114, 111, 114, 115]⟩ 187)), none, (some (.ref 0))]⟩
noncomputable abbrev o24 (P : Params) : Obj := ⟨(.type "tuple"), none, (.seq #[] 0), #[]⟩
noncomputable abbrev o25 (P : Params) : Obj := ⟨(.type "dict"), none, (.dict #[⟨PyData.keyHash P ⟨#[95, 95, 109, 111, 100, 117, 108, 101, 95, 95]⟩, (.str ⟨#[95, 95, 109, 111, 100, 117, 108, 101, 95, 95]⟩ 196), (.str ⟨#[119, 104, 111, 115, 101, 99, 97, 110, 99, 101, 108, 46, 101, 114, 114, 111, 114, 115]⟩ 187)⟩, ⟨PyData.keyHash P ⟨#[95, 95, 102, 105, 114, 115, 116, 108, 105, 110, 101, 110, 111, 95, 95]⟩, (.str ⟨#[95, 95, 102, 105, 114, 115, 116, 108, 105, 110, 101, 110, 111, 95, 95]⟩ 200), (.int (2) 199)⟩, ⟨PyData.keyHash P ⟨#[95, 95, 115, 116, 97, 116, 105, 99, 95, 97, 116, 116, 114, 105, 98, 117, 116, 101, 115, 95, 95]⟩, (.str ⟨#[95, 95, 115, 116, 97, 116, 105, 99, 95, 97, 116, 116, 114, 105, 98, 117, 116, 101, 115, 95, 95]⟩ 201), (.ref 22)⟩, ⟨PyData.keyHash P ⟨#[95, 95, 119, 101, 97, 107, 114, 101, 102, 95, 95]⟩, (.str ⟨#[95, 95, 119, 101, 97, 107, 114, 101, 102, 95, 95]⟩ 203), (.ref 25)⟩, ⟨PyData.keyHash P ⟨#[95, 95, 100, 111, 99, 95, 95]⟩, (.str ⟨#[95, 95, 100, 111, 99, 95, 95]⟩ 204), .none⟩] 3), #[]⟩
noncomputable abbrev o26 (P : Params) : Obj := ⟨(.type "type"), none, (.cls ⟨⟨#[87, 104, 111, 115, 101, 69, 114, 114, 111, 114]⟩, [(.type "ValueError")], [(.ref 24), (.type "ValueError"), (.type "Exception"), (.type "BaseException"), (.type "object")], 23, ⟨#[87, 104, 111, 115, 101, 69, 114, 114, 111, 114]⟩, true, [], [(.ref 44)], false, none, false⟩), #[(some (.ref 15)), none, (some (.str ⟨#[87, 104, 111, 115, 101, 69, 114, 114, 111, 114]⟩ 189)), (some (.str ⟨#[87, 104, 111, 115, 101, 69, 114, 114, 111, 114]⟩ 197)), (some (.builtin "ValueError.__new__")), (some (.bool true))]⟩
noncomputable abbrev o27 (P : Params) : Obj := ⟨(.type "getset_descriptor"), none, (.fields #[(.str ⟨#[95, 95, 119, 101, 97, 107, 114, 101, 102, 95, 95]⟩ 202), (.ref 24), (.builtin "ExceptionGroup.__weakref__"), .none]), #[]⟩
noncomputable abbrev o28 (P : Params) : Obj := ⟨(.type "super"), none, (.fields #[(.ref 24), (.ref 24), (.ref 24)]), #[]⟩
noncomputable abbrev o29 (P : Params) : Obj := ⟨(.type "builtin_function_or_method"), none, (.fields #[(.builtin "object.__init_subclass__"), (.ref 24)]), #[]⟩
noncomputable abbrev o30 (P : Params) : Obj := ⟨(.type "tuple"), none, (.seq #[(.ref 24)] 0), #[]⟩
noncomputable abbrev o31 (P : Params) : Obj := ⟨(.type "builtin_function_or_method"), none, (.fields #[(.builtin "type.__prepare__"), (.type "type")]), #[]⟩
noncomputable abbrev o32 (P : Params) : Obj := ⟨(.type "dict"), none, (.dict #[⟨PyData.keyHash P ⟨#[95, 95, 109, 111, 100, 117, 108, 101, 95, 95]⟩, (.str ⟨#[95, 95, 109, 111, 100, 117, 108, 101, 95, 95]⟩ 214), (.str ⟨#[119, 104, 111, 115, 101, 99, 97, 110, 99, 101, 108, 46, 101, 114, 114, 111, 114, 115]⟩ 187)⟩, ⟨PyData.keyHash P ⟨#[95, 95, 113, 117, 97, 108, 110, 97, 109, 101, 95, 95]⟩, (.str ⟨#[95, 95, 113, 117, 97, 108, 110, 97, 109, 101, 95, 95]⟩ 216), (.str ⟨#[66, 97, 100, 84, 101, 120, 116]⟩ 215)⟩, ⟨PyData.keyHash P ⟨#[95, 95, 102, 105, 114, 115, 116, 108, 105, 110, 101, 110, 111, 95, 95]⟩, (.str ⟨#[95, 95, 102, 105, 114, 115, 116, 108, 105, 110, 101, 110, 111, 95, 95]⟩ 218), (.int (4) 217)⟩, ⟨PyData.keyHash P ⟨#[95, 95, 105, 110, 105, 116, 95, 95]⟩, (.str ⟨#[95, 95, 105, 110, 105, 116, 95, 95]⟩ 226), (.ref 41)⟩, ⟨PyData.keyHash P ⟨#[95, 95, 115, 116, 97, 116, 105, 99, 95, 97, 116, 116, 114, 105, 98, 117, 116, 101, 115, 95, 95]⟩, (.str ⟨#[95, 95, 115, 116, 97, 116, 105, 99, 95, 97, 116, 116, 114, 105, 98, 117, 116, 101, 115, 95, 95]⟩ 228), (.ref 42)⟩] 5), #[]⟩
noncomputable abbrev o33 (P : Params) : Obj := ⟨(.type "tuple"), none, (.seq #[] 0), #[]⟩
noncomputable abbrev o34 (P : Params) : Obj := ⟨.none, none, (.fields #[(.int (6) 0), (.int (4) 0), (.ref 40)]), #[]⟩
noncomputable abbrev o35 (P : Params) : Obj := ⟨(.type "code"), none, (.fields #[(.str ⟨#[66, 97, 100, 84, 101, 120, 116]⟩ 209), (.str ⟨#[66, 97, 100, 84, 101, 120, 116]⟩ 210), (.str ⟨#[47, 99, 108, 97, 105, 109, 47, 99, 117, 116, 46, 112, 121]⟩ 211), (.int (4) 0), (.int (0) 0), (.int (0) 0), (.int (0) 0), (.int (0) 0), (.ref 31), (.bool false), (.int (181) 0), (.ref 32), .none, .none, .none, .none, (.int (212) 0), (.int (4) 0), (.str ⟨#[47, 99, 108, 97, 105, 109, 47, 99, 117, 116, 46, 112, 121]⟩ 213)]), #[]⟩
noncomputable abbrev o36 (P : Params) : Obj := ⟨(.type "frame"), none, .plain, #[(some (.ref 33)), (some (.ref 3)), (some (.ref 30)), none, (some (.str ⟨#[119, 104, 111, 115, 101, 99, 97, 110, 99, 101, 108, 46, 101, 114, 114, 111, 114, 115]⟩ 187)), none, (some (.ref 0))]⟩
noncomputable abbrev o37 (P : Params) : Obj := ⟨(.type "tuple"), none, (.seq #[] 0), #[]⟩
noncomputable abbrev o38 (P : Params) : Obj := ⟨.none, none, (.fields #[]), #[]⟩
noncomputable abbrev o39 (P : Params) : Obj := ⟨(.type "tuple"), none, (.seq #[(.str ⟨#[115, 101, 108, 102]⟩ 222), (.str ⟨#[114, 111, 119]⟩ 223)] 0), #[]⟩
noncomputable abbrev o40 (P : Params) : Obj := ⟨(.type "tuple"), none, (.seq #[] 0), #[]⟩
noncomputable abbrev o41 (P : Params) : Obj := ⟨.none, none, (.func ⟨⟨#[95, 95, 105, 110, 105, 116, 95, 95]⟩, ⟨#[66, 97, 100, 84, 101, 120, 116, 46, 95, 95, 105, 110, 105, 116, 95, 95]⟩, defArgs (mem 2 0), .stmts (defBody (mem 2 0)), defScope (mem 2 0), 0, [], .none, .none, .none, .none, none, .none, .none, 0⟩), #[]⟩
noncomputable abbrev o42 (P : Params) : Obj := ⟨(.type "code"), none, (.fields #[(.str ⟨#[95, 95, 105, 110, 105, 116, 95, 95]⟩ 219), (.str ⟨#[66, 97, 100, 84, 101, 120, 116, 46, 95, 95, 105, 110, 105, 116, 95, 95]⟩ 220), (.str ⟨#[47, 99, 108, 97, 105, 109, 47, 99, 117, 116, 46, 112, 121]⟩ 221), (.int (6) 0), (.int (2) 0), (.int (0) 0), (.int (0) 0), (.int (3) 0), (.ref 35), (.bool true), (.int (181) 0), (.ref 36), .none, (.ref 37), (.ref 38), (.ref 39), (.int (224) 0), (.int (6) 0), (.str ⟨#[47, 99, 108, 97, 105, 109, 47, 99, 117, 116, 46, 112, 121]⟩ 225)]), #[]⟩
noncomputable abbrev o43 (P : Params) : Obj := ⟨(.type "function"), none, (.func ⟨⟨#[95, 95, 105, 110, 105, 116, 95, 95]⟩, ⟨#[66, 97, 100, 84, 101, 120, 116, 46, 95, 95, 105, 110, 105, 116, 95, 95]⟩, defArgs (mem 2 0), .stmts (defBody (mem 2 0)), defScope (mem 2 0), 3, [], .none, .none, .none, (.str ⟨#[119, 104, 111, 115, 101, 99, 97, 110, 99, 101, 108, 46, 101, 114, 114, 111, 114, 115]⟩ 187), none, (.ref 40), .none, 0⟩), #[]⟩
noncomputable abbrev o44 (P : Params) : Obj := ⟨(.type "tuple"), none, (.seq #[(.str ⟨#[114, 111, 119]⟩ 227)] 0), #[]⟩
noncomputable abbrev o45 (P : Params) : Obj := ⟨(.type "dict"), none, (.dict #[⟨PyData.keyHash P ⟨#[95, 95, 109, 111, 100, 117, 108, 101, 95, 95]⟩, (.str ⟨#[95, 95, 109, 111, 100, 117, 108, 101, 95, 95]⟩ 214), (.str ⟨#[119, 104, 111, 115, 101, 99, 97, 110, 99, 101, 108, 46, 101, 114, 114, 111, 114, 115]⟩ 187)⟩, ⟨PyData.keyHash P ⟨#[95, 95, 102, 105, 114, 115, 116, 108, 105, 110, 101, 110, 111, 95, 95]⟩, (.str ⟨#[95, 95, 102, 105, 114, 115, 116, 108, 105, 110, 101, 110, 111, 95, 95]⟩ 218), (.int (4) 217)⟩, ⟨PyData.keyHash P ⟨#[95, 95, 105, 110, 105, 116, 95, 95]⟩, (.str ⟨#[95, 95, 105, 110, 105, 116, 95, 95]⟩ 226), (.ref 41)⟩, ⟨PyData.keyHash P ⟨#[95, 95, 115, 116, 97, 116, 105, 99, 95, 97, 116, 116, 114, 105, 98, 117, 116, 101, 115, 95, 95]⟩, (.str ⟨#[95, 95, 115, 116, 97, 116, 105, 99, 95, 97, 116, 116, 114, 105, 98, 117, 116, 101, 115, 95, 95]⟩ 228), (.ref 42)⟩, ⟨PyData.keyHash P ⟨#[95, 95, 100, 111, 99, 95, 95]⟩, (.str ⟨#[95, 95, 100, 111, 99, 95, 95]⟩ 229), .none⟩] 2), #[]⟩
noncomputable abbrev o46 (P : Params) : Obj := ⟨(.type "type"), none, (.cls ⟨⟨#[66, 97, 100, 84, 101, 120, 116]⟩, [(.ref 24)], [(.ref 44), (.ref 24), (.type "ValueError"), (.type "Exception"), (.type "BaseException"), (.type "object")], 43, ⟨#[66, 97, 100, 84, 101, 120, 116]⟩, true, [], [], false, none, false⟩), #[(some (.ref 28)), none, (some (.str ⟨#[66, 97, 100, 84, 101, 120, 116]⟩ 207)), (some (.str ⟨#[66, 97, 100, 84, 101, 120, 116]⟩ 215)), (some (.builtin "ValueError.__new__")), (some (.bool true))]⟩
noncomputable abbrev o47 (P : Params) : Obj := ⟨(.type "super"), none, (.fields #[(.ref 44), (.ref 44), (.ref 44)]), #[]⟩
noncomputable abbrev o48 (P : Params) : Obj := ⟨(.type "builtin_function_or_method"), none, (.fields #[(.builtin "object.__init_subclass__"), (.ref 44)]), #[]⟩
noncomputable abbrev o49 (P : Params) : Obj := ⟨(.type "tuple"), none, (.seq #[] 0), #[]⟩
noncomputable abbrev o50 (P : Params) : Obj := ⟨.none, none, (.fields #[]), #[]⟩
noncomputable abbrev o51 (P : Params) : Obj := ⟨.none, none, (.func ⟨⟨#[105, 115, 95, 110, 97, 109, 101]⟩, ⟨#[105, 115, 95, 110, 97, 109, 101]⟩, defArgs (top 6), .stmts (defBody (top 6)), defScope (top 6), 0, [], .none, .none, .none, .none, none, .none, .none, 0⟩), #[]⟩
noncomputable abbrev o52 (P : Params) : Obj := ⟨(.type "code"), none, (.fields #[(.str ⟨#[105, 115, 95, 110, 97, 109, 101]⟩ 238), (.str ⟨#[105, 115, 95, 110, 97, 109, 101]⟩ 239), (.str ⟨#[47, 99, 108, 97, 105, 109, 47, 99, 117, 116, 46, 112, 121]⟩ 240), (.int (11) 0), (.int (1) 0), (.int (0) 0), (.int (0) 0), (.int (3) 0), (.ref 47), (.bool true), (.int (181) 0), (.ref 48), .none, .none, .none, (.ref 49), (.int (241) 0), (.int (11) 0), (.str ⟨#[47, 99, 108, 97, 105, 109, 47, 99, 117, 116, 46, 112, 121]⟩ 242)]), #[]⟩
noncomputable abbrev o53 (P : Params) : Obj := ⟨(.type "function"), none, (.func ⟨⟨#[105, 115, 95, 110, 97, 109, 101]⟩, ⟨#[105, 115, 95, 110, 97, 109, 101]⟩, defArgs (top 6), .stmts (defBody (top 6)), defScope (top 6), 3, [], .none, .none, .none, (.str ⟨#[119, 104, 111, 115, 101, 99, 97, 110, 99, 101, 108, 46, 112, 114, 111, 103, 114, 97, 109, 115]⟩ 232), none, (.ref 50), .none, 0⟩), #[]⟩
noncomputable abbrev tr1 (P : Params) : PySem.W.BT := (.node (o0 P) (.node (o1 P) (.node (o15 P) (.node (o7 P) (.node (o17 P) (.node (o33 P) .nil .nil) (.node (o49 P) .nil .nil)) (.node (o25 P) (.node (o41 P) .nil .nil) .nil)) (.node (o11 P) (.node (o21 P) (.node (o37 P) .nil .nil) (.node (o53 P) .nil .nil)) (.node (o29 P) (.node (o45 P) .nil .nil) .nil))) (.node (o5 P) (.node (o9 P) (.node (o19 P) (.node (o35 P) .nil .nil) (.node (o51 P) .nil .nil)) (.node (o27 P) (.node (o43 P) .nil .nil) .nil)) (.node (o13 P) (.node (o23 P) (.node (o39 P) .nil .nil) .nil) (.node (o31 P) (.node (o47 P) .nil .nil) .nil)))) (.node (o2 P) (.node (o4 P) (.node (o8 P) (.node (o18 P) (.node (o34 P) .nil .nil) (.node (o50 P) .nil .nil)) (.node (o26 P) (.node (o42 P) .nil .nil) .nil)) (.node (o16 P) (.node (o22 P) (.node (o38 P) .nil .nil) .nil) (.node (o30 P) (.node (o46 P) .nil .nil) .nil))) (.node (o6 P) (.node (o10 P) (.node (o20 P) (.node (o36 P) .nil .nil) (.node (o52 P) .nil .nil)) (.node (o28 P) (.node (o44 P) .nil .nil) .nil)) (.node (o14 P) (.node (o24 P) (.node (o40 P) .nil .nil) .nil) (.node (o32 P) (.node (o48 P) .nil .nil) .nil)))))
noncomputable abbrev S1 (w : World) (os : OsState) : SharedT := ⟨tr1 w.params, 52, {}, Array.mk [], boot_drawn, 246, os⟩
noncomputable abbrev o54 (P : Params) : Obj := ⟨(.type "dict"), none, (.dict #[⟨PyData.keyHash P ⟨#[95, 95, 110, 97, 109, 101, 95, 95]⟩, (.str ⟨#[95, 95, 110, 97, 109, 101, 95, 95]⟩ 165), (.str ⟨#[119, 104, 111, 115, 101, 99, 97, 110, 99, 101, 108, 46, 116, 101, 120, 116, 115]⟩ 244)⟩, ⟨PyData.keyHash P ⟨#[95, 95, 100, 111, 99, 95, 95]⟩, (.str ⟨#[95, 95, 100, 111, 99, 95, 95]⟩ 166), .none⟩, ⟨PyData.keyHash P ⟨#[95, 95, 112, 97, 99, 107, 97, 103, 101, 95, 95]⟩, (.str ⟨#[95, 95, 112, 97, 99, 107, 97, 103, 101, 95, 95]⟩ 167), .none⟩, ⟨PyData.keyHash P ⟨#[95, 95, 108, 111, 97, 100, 101, 114, 95, 95]⟩, (.str ⟨#[95, 95, 108, 111, 97, 100, 101, 114, 95, 95]⟩ 168), (.builtin "__main__.__loader__#opaque")⟩, ⟨PyData.keyHash P ⟨#[95, 95, 115, 112, 101, 99, 95, 95]⟩, (.str ⟨#[95, 95, 115, 112, 101, 99, 95, 95]⟩ 169), .none⟩, ⟨PyData.keyHash P ⟨#[95, 95, 97, 110, 110, 111, 116, 97, 116, 105, 111, 110, 115, 95, 95]⟩, (.str ⟨#[95, 95, 97, 110, 110, 111, 116, 97, 116, 105, 111, 110, 115, 95, 95]⟩ 170), (.ref 6)⟩, ⟨PyData.keyHash P ⟨#[95, 95, 98, 117, 105, 108, 116, 105, 110, 115, 95, 95]⟩, (.str ⟨#[95, 95, 98, 117, 105, 108, 116, 105, 110, 115, 95, 95]⟩ 171), (.ref 4)⟩, ⟨PyData.keyHash P ⟨#[95, 95, 102, 105, 108, 101, 95, 95]⟩, (.str ⟨#[95, 95, 102, 105, 108, 101, 95, 95]⟩ 173), (.str ⟨#[47, 99, 108, 97, 105, 109, 47, 99, 117, 116, 46, 112, 121]⟩ 172)⟩, ⟨PyData.keyHash P ⟨#[95, 95, 99, 97, 99, 104, 101, 100, 95, 95]⟩, (.str ⟨#[95, 95, 99, 97, 99, 104, 101, 100, 95, 95]⟩ 174), .none⟩, ⟨PyData.keyHash P ⟨#[87, 104, 111, 115, 101, 69, 114, 114, 111, 114]⟩, (.str ⟨#[87, 104, 111, 115, 101, 69, 114, 114, 111, 114]⟩ 206), (.ref 24)⟩, ⟨PyData.keyHash P ⟨#[66, 97, 100, 84, 101, 120, 116]⟩, (.str ⟨#[66, 97, 100, 84, 101, 120, 116]⟩ 231), (.ref 44)⟩, ⟨PyData.keyHash P ⟨#[77, 79, 83, 84, 95, 76, 69, 84, 84, 69, 82, 83]⟩, (.str ⟨#[77, 79, 83, 84, 95, 76, 69, 84, 84, 69, 82, 83]⟩ 235), (.int (8) 234)⟩, ⟨PyData.keyHash P ⟨#[76, 69, 84, 84, 69, 82, 83]⟩, (.str ⟨#[76, 69, 84, 84, 69, 82, 83]⟩ 237), (.str ⟨#[97, 98, 99, 100, 101, 102, 103, 104, 105, 106, 107, 108, 109, 110, 111, 112, 113, 114, 115, 116, 117, 118, 119, 120, 121, 122]⟩ 236)⟩, ⟨PyData.keyHash P ⟨#[105, 115, 95, 110, 97, 109, 101]⟩, (.str ⟨#[105, 115, 95, 110, 97, 109, 101]⟩ 243), (.ref 51)⟩, ⟨PyData.keyHash P ⟨#[69, 86, 69, 78, 84, 95, 83, 73, 90, 69, 83]⟩, (.str ⟨#[69, 86, 69, 78, 84, 95, 83, 73, 90, 69, 83]⟩ 258), (.ref 52)⟩] 15), #[]⟩
noncomputable abbrev o55 (P : Params) : Obj := ⟨(.type "dict"), none, (.dict #[⟨PyData.keyHash P ⟨#[114, 101, 115, 117, 109, 101]⟩, (.str ⟨#[114, 101, 115, 117, 109, 101]⟩ 246), (.int (2) 247)⟩, ⟨PyData.keyHash P ⟨#[114, 101, 113, 117, 101, 115, 116]⟩, (.str ⟨#[114, 101, 113, 117, 101, 115, 116]⟩ 248), (.int (2) 249)⟩, ⟨PyData.keyHash P ⟨#[101, 120, 112, 105, 114, 101]⟩, (.str ⟨#[101, 120, 112, 105, 114, 101]⟩ 250), (.int (2) 251)⟩, ⟨PyData.keyHash P ⟨#[102, 97, 105, 108]⟩, (.str ⟨#[102, 97, 105, 108]⟩ 252), (.int (3) 253)⟩] 4), #[]⟩
noncomputable abbrev tr2 (P : Params) : PySem.W.BT := (.node (o0 P) (.node (o1 P) (.node (o54 P) (.node (o7 P) (.node (o17 P) (.node (o33 P) .nil .nil) (.node (o49 P) .nil .nil)) (.node (o25 P) (.node (o41 P) .nil .nil) .nil)) (.node (o11 P) (.node (o21 P) (.node (o37 P) .nil .nil) (.node (o53 P) .nil .nil)) (.node (o29 P) (.node (o45 P) .nil .nil) .nil))) (.node (o5 P) (.node (o9 P) (.node (o19 P) (.node (o35 P) .nil .nil) (.node (o51 P) .nil .nil)) (.node (o27 P) (.node (o43 P) .nil .nil) .nil)) (.node (o13 P) (.node (o23 P) (.node (o39 P) .nil .nil) .nil) (.node (o31 P) (.node (o47 P) .nil .nil) .nil)))) (.node (o2 P) (.node (o4 P) (.node (o8 P) (.node (o18 P) (.node (o34 P) .nil .nil) (.node (o50 P) .nil .nil)) (.node (o26 P) (.node (o42 P) .nil .nil) .nil)) (.node (o16 P) (.node (o22 P) (.node (o38 P) .nil .nil) (.node (o55 P) .nil .nil)) (.node (o30 P) (.node (o46 P) .nil .nil) .nil))) (.node (o6 P) (.node (o10 P) (.node (o20 P) (.node (o36 P) .nil .nil) (.node (o52 P) .nil .nil)) (.node (o28 P) (.node (o44 P) .nil .nil) .nil)) (.node (o14 P) (.node (o24 P) (.node (o40 P) .nil .nil) .nil) (.node (o32 P) (.node (o48 P) .nil .nil) .nil)))))
noncomputable abbrev S2 (w : World) (os : OsState) : SharedT := ⟨tr2 w.params, 53, {}, Array.mk [], boot_drawn, 259, os⟩
noncomputable abbrev o56 (P : Params) : Obj := ⟨(.type "dict"), none, (.dict #[⟨PyData.keyHash P ⟨#[95, 95, 110, 97, 109, 101, 95, 95]⟩, (.str ⟨#[95, 95, 110, 97, 109, 101, 95, 95]⟩ 165), (.str ⟨#[108, 97, 119, 95, 119, 104, 111, 115, 101, 99, 97, 110, 99, 101, 108, 95, 107, 50, 53, 95, 116, 101, 120, 116, 115, 95, 111, 102, 95, 101, 118, 101, 110, 116, 115]⟩ 272)⟩, ⟨PyData.keyHash P ⟨#[95, 95, 100, 111, 99, 95, 95]⟩, (.str ⟨#[95, 95, 100, 111, 99, 95, 95]⟩ 166), .none⟩, ⟨PyData.keyHash P ⟨#[95, 95, 112, 97, 99, 107, 97, 103, 101, 95, 95]⟩, (.str ⟨#[95, 95, 112, 97, 99, 107, 97, 103, 101, 95, 95]⟩ 167), .none⟩, ⟨PyData.keyHash P ⟨#[95, 95, 108, 111, 97, 100, 101, 114, 95, 95]⟩, (.str ⟨#[95, 95, 108, 111, 97, 100, 101, 114, 95, 95]⟩ 168), (.builtin "__main__.__loader__#opaque")⟩, ⟨PyData.keyHash P ⟨#[95, 95, 115, 112, 101, 99, 95, 95]⟩, (.str ⟨#[95, 95, 115, 112, 101, 99, 95, 95]⟩ 169), .none⟩, ⟨PyData.keyHash P ⟨#[95, 95, 97, 110, 110, 111, 116, 97, 116, 105, 111, 110, 115, 95, 95]⟩, (.str ⟨#[95, 95, 97, 110, 110, 111, 116, 97, 116, 105, 111, 110, 115, 95, 95]⟩ 170), (.ref 6)⟩, ⟨PyData.keyHash P ⟨#[95, 95, 98, 117, 105, 108, 116, 105, 110, 115, 95, 95]⟩, (.str ⟨#[95, 95, 98, 117, 105, 108, 116, 105, 110, 115, 95, 95]⟩ 171), (.ref 4)⟩, ⟨PyData.keyHash P ⟨#[95, 95, 102, 105, 108, 101, 95, 95]⟩, (.str ⟨#[95, 95, 102, 105, 108, 101, 95, 95]⟩ 173), (.str ⟨#[47, 99, 108, 97, 105, 109, 47, 99, 117, 116, 46, 112, 121]⟩ 172)⟩, ⟨PyData.keyHash P ⟨#[95, 95, 99, 97, 99, 104, 101, 100, 95, 95]⟩, (.str ⟨#[95, 95, 99, 97, 99, 104, 101, 100, 95, 95]⟩ 174), .none⟩, ⟨PyData.keyHash P ⟨#[87, 104, 111, 115, 101, 69, 114, 114, 111, 114]⟩, (.str ⟨#[87, 104, 111, 115, 101, 69, 114, 114, 111, 114]⟩ 206), (.ref 24)⟩, ⟨PyData.keyHash P ⟨#[66, 97, 100, 84, 101, 120, 116]⟩, (.str ⟨#[66, 97, 100, 84, 101, 120, 116]⟩ 231), (.ref 44)⟩, ⟨PyData.keyHash P ⟨#[77, 79, 83, 84, 95, 76, 69, 84, 84, 69, 82, 83]⟩, (.str ⟨#[77, 79, 83, 84, 95, 76, 69, 84, 84, 69, 82, 83]⟩ 235), (.int (8) 234)⟩, ⟨PyData.keyHash P ⟨#[76, 69, 84, 84, 69, 82, 83]⟩, (.str ⟨#[76, 69, 84, 84, 69, 82, 83]⟩ 237), (.str ⟨#[97, 98, 99, 100, 101, 102, 103, 104, 105, 106, 107, 108, 109, 110, 111, 112, 113, 114, 115, 116, 117, 118, 119, 120, 121, 122]⟩ 236)⟩, ⟨PyData.keyHash P ⟨#[105, 115, 95, 110, 97, 109, 101]⟩, (.str ⟨#[105, 115, 95, 110, 97, 109, 101]⟩ 243), (.ref 51)⟩, ⟨PyData.keyHash P ⟨#[69, 86, 69, 78, 84, 95, 83, 73, 90, 69, 83]⟩, (.str ⟨#[69, 86, 69, 78, 84, 95, 83, 73, 90, 69, 83]⟩ 258), (.ref 52)⟩, ⟨PyData.keyHash P ⟨#[101, 118, 101, 110, 116, 95, 116, 101, 120, 116]⟩, (.str ⟨#[101, 118, 101, 110, 116, 95, 116, 101, 120, 116]⟩ 265), (.ref 59)⟩, ⟨PyData.keyHash P ⟨#[114, 101, 97, 100, 95, 101, 118, 101, 110, 116]⟩, (.str ⟨#[114, 101, 97, 100, 95, 101, 118, 101, 110, 116]⟩ 271), (.ref 64)⟩, ⟨PyData.keyHash P ⟨#[95, 108, 97, 119, 95, 115, 111, 117, 114, 99, 101]⟩, (.str ⟨#[95, 108, 97, 119, 95, 115, 111, 117, 114, 99, 101]⟩ 283), (.ref 71)⟩, ⟨PyData.keyHash P ⟨#[95, 108, 97, 119, 95, 100, 114, 97, 119]⟩, (.str ⟨#[95, 108, 97, 119, 95, 100, 114, 97, 119]⟩ 296), (.ref 78)⟩, ⟨PyData.keyHash P ⟨#[95, 108, 97, 119, 95, 99, 104, 111, 105, 99, 101]⟩, (.str ⟨#[95, 108, 97, 119, 95, 99, 104, 111, 105, 99, 101]⟩ 304), (.ref 85)⟩, ⟨PyData.keyHash P ⟨#[95, 108, 97, 119, 95, 110, 97, 109, 101]⟩, (.str ⟨#[95, 108, 97, 119, 95, 110, 97, 109, 101]⟩ 310), (.ref 90)⟩, ⟨PyData.keyHash P ⟨#[108, 97, 119]⟩, (.str ⟨#[108, 97, 119]⟩ 322), (.ref 97)⟩] 22), #[]⟩
noncomputable abbrev o57 (P : Params) : Obj := ⟨.none, none, (.fields #[(.int (2) 0), (.int (0) 0), (.ref 20), (.int (4) 0), (.int (0) 0), (.ref 33), (.int (11) 0), (.int (0) 0), (.ref 50), (.int (15) 0), (.int (0) 0), (.ref 58), (.int (17) 0), (.int (0) 0), (.ref 63), (.int (25) 0), (.int (0) 0), (.ref 70), (.int (29) 0), (.int (0) 0), (.ref 77), (.int (40) 0), (.int (0) 0), (.ref 84), (.int (42) 0), (.int (0) 0), (.ref 89), (.int (44) 0), (.int (0) 0), (.ref 96)]), #[]⟩
noncomputable abbrev o58 (P : Params) : Obj := ⟨(.type "tuple"), none, (.seq #[] 0), #[]⟩
noncomputable abbrev o59 (P : Params) : Obj := ⟨.none, none, (.fields #[]), #[]⟩
noncomputable abbrev o60 (P : Params) : Obj := ⟨(.type "tuple"), none, (.seq #[(.str ⟨#[101, 118, 101, 110, 116]⟩ 262)] 0), #[]⟩
noncomputable abbrev o61 (P : Params) : Obj := ⟨(.type "tuple"), none, (.seq #[] 0), #[]⟩
noncomputable abbrev o62 (P : Params) : Obj := ⟨.none, none, (.func ⟨⟨#[101, 118, 101, 110, 116, 95, 116, 101, 120, 116]⟩, ⟨#[101, 118, 101, 110, 116, 95, 116, 101, 120, 116]⟩, defArgs (top 9), .stmts (defBody (top 9)), defScope (top 9), 0, [], .none, .none, .none, .none, none, .none, .none, 0⟩), #[]⟩
noncomputable abbrev o63 (P : Params) : Obj := ⟨(.type "code"), none, (.fields #[(.str ⟨#[101, 118, 101, 110, 116, 95, 116, 101, 120, 116]⟩ 259), (.str ⟨#[101, 118, 101, 110, 116, 95, 116, 101, 120, 116]⟩ 260), (.str ⟨#[47, 99, 108, 97, 105, 109, 47, 99, 117, 116, 46, 112, 121]⟩ 261), (.int (15) 0), (.int (1) 0), (.int (0) 0), (.int (0) 0), (.int (3) 0), (.ref 53), (.bool true), (.int (181) 0), (.ref 54), .none, (.ref 55), (.ref 56), (.ref 57), (.int (263) 0), (.int (15) 0), (.str ⟨#[47, 99, 108, 97, 105, 109, 47, 99, 117, 116, 46, 112, 121]⟩ 264)]), #[]⟩
noncomputable abbrev o64 (P : Params) : Obj := ⟨(.type "function"), none, (.func ⟨⟨#[101, 118, 101, 110, 116, 95, 116, 101, 120, 116]⟩, ⟨#[101, 118, 101, 110, 116, 95, 116, 101, 120, 116]⟩, defArgs (top 9), .stmts (defBody (top 9)), defScope (top 9), 3, [], .none, .none, .none, (.str ⟨#[119, 104, 111, 115, 101, 99, 97, 110, 99, 101, 108, 46, 116, 101, 120, 116, 115]⟩ 244), none, (.ref 58), .none, 0⟩), #[]⟩
noncomputable abbrev o65 (P : Params) : Obj := ⟨(.type "tuple"), none, (.seq #[] 0), #[]⟩
noncomputable abbrev o66 (P : Params) : Obj := ⟨.none, none, (.fields #[]), #[]⟩
noncomputable abbrev o67 (P : Params) : Obj := ⟨.none, none, (.func ⟨⟨#[114, 101, 97, 100, 95, 101, 118, 101, 110, 116]⟩, ⟨#[114, 101, 97, 100, 95, 101, 118, 101, 110, 116]⟩, defArgs (top 10), .stmts (defBody (top 10)), defScope (top 10), 0, [], .none, .none, .none, .none, none, .none, .none, 0⟩), #[]⟩
noncomputable abbrev o68 (P : Params) : Obj := ⟨(.type "code"), none, (.fields #[(.str ⟨#[114, 101, 97, 100, 95, 101, 118, 101, 110, 116]⟩ 266), (.str ⟨#[114, 101, 97, 100, 95, 101, 118, 101, 110, 116]⟩ 267), (.str ⟨#[47, 99, 108, 97, 105, 109, 47, 99, 117, 116, 46, 112, 121]⟩ 268), (.int (17) 0), (.int (1) 0), (.int (0) 0), (.int (0) 0), (.int (3) 0), (.ref 60), (.bool true), (.int (181) 0), (.ref 61), .none, .none, .none, (.ref 62), (.int (269) 0), (.int (17) 0), (.str ⟨#[47, 99, 108, 97, 105, 109, 47, 99, 117, 116, 46, 112, 121]⟩ 270)]), #[]⟩
noncomputable abbrev o69 (P : Params) : Obj := ⟨(.type "function"), none, (.func ⟨⟨#[114, 101, 97, 100, 95, 101, 118, 101, 110, 116]⟩, ⟨#[114, 101, 97, 100, 95, 101, 118, 101, 110, 116]⟩, defArgs (top 10), .stmts (defBody (top 10)), defScope (top 10), 3, [], .none, .none, .none, (.str ⟨#[119, 104, 111, 115, 101, 99, 97, 110, 99, 101, 108, 46, 116, 101, 120, 116, 115]⟩ 244), none, (.ref 63), .none, 0⟩), #[]⟩
noncomputable abbrev o70 (P : Params) : Obj := ⟨(.type "tuple"), none, (.seq #[] 0), #[]⟩
noncomputable abbrev o71 (P : Params) : Obj := ⟨.none, none, (.fields #[]), #[]⟩
noncomputable abbrev o72 (P : Params) : Obj := ⟨(.type "tuple"), none, (.seq #[(.str ⟨#[95, 108, 97, 119, 95, 115, 99, 114, 105, 112, 116]⟩ 277), (.str ⟨#[95, 108, 97, 119, 95, 112, 108, 97, 99, 101]⟩ 278), (.str ⟨#[95, 108, 97, 119, 95, 99, 101, 108, 108]⟩ 279), (.str ⟨#[95, 108, 97, 119, 95, 102, 97, 114]⟩ 280)] 0), #[]⟩
noncomputable abbrev o73 (P : Params) : Obj := ⟨(.type "tuple"), none, (.seq #[] 0), #[]⟩
noncomputable abbrev o74 (P : Params) : Obj := ⟨.none, none, (.func ⟨⟨#[95, 108, 97, 119, 95, 115, 111, 117, 114, 99, 101]⟩, ⟨#[95, 108, 97, 119, 95, 115, 111, 117, 114, 99, 101]⟩, defArgs (top 12), .stmts (defBody (top 12)), defScope (top 12), 0, [], .none, .none, .none, .none, none, .none, .none, 0⟩), #[]⟩
noncomputable abbrev o75 (P : Params) : Obj := ⟨(.type "code"), none, (.fields #[(.str ⟨#[95, 108, 97, 119, 95, 115, 111, 117, 114, 99, 101]⟩ 274), (.str ⟨#[95, 108, 97, 119, 95, 115, 111, 117, 114, 99, 101]⟩ 275), (.str ⟨#[47, 99, 108, 97, 105, 109, 47, 99, 117, 116, 46, 112, 121]⟩ 276), (.int (25) 0), (.int (2) 0), (.int (0) 0), (.int (0) 0), (.int (3) 0), (.ref 65), (.bool true), (.int (181) 0), (.ref 66), .none, (.ref 67), (.ref 68), (.ref 69), (.int (281) 0), (.int (25) 0), (.str ⟨#[47, 99, 108, 97, 105, 109, 47, 99, 117, 116, 46, 112, 121]⟩ 282)]), #[]⟩
noncomputable abbrev o76 (P : Params) : Obj := ⟨(.type "function"), none, (.func ⟨⟨#[95, 108, 97, 119, 95, 115, 111, 117, 114, 99, 101]⟩, ⟨#[95, 108, 97, 119, 95, 115, 111, 117, 114, 99, 101]⟩, defArgs (top 12), .stmts (defBody (top 12)), defScope (top 12), 3, [], .none, .none, .none, (.str ⟨#[108, 97, 119, 95, 119, 104, 111, 115, 101, 99, 97, 110, 99, 101, 108, 95, 107, 50, 53, 95, 116, 101, 120, 116, 115, 95, 111, 102, 95, 101, 118, 101, 110, 116, 115]⟩ 272), none, (.ref 70), .none, 0⟩), #[]⟩
noncomputable abbrev o77 (P : Params) : Obj := ⟨(.type "tuple"), none, (.seq #[] 0), #[]⟩
noncomputable abbrev o78 (P : Params) : Obj := ⟨.none, none, (.fields #[]), #[]⟩
noncomputable abbrev o79 (P : Params) : Obj := ⟨(.type "tuple"), none, (.seq #[(.str ⟨#[95, 108, 97, 119, 95, 115, 111, 117, 114, 99, 101, 95, 104, 101, 114, 101]⟩ 287), (.str ⟨#[95, 108, 97, 119, 95, 111, 102, 116, 101, 110]⟩ 288), (.str ⟨#[95, 108, 97, 119, 95, 100, 105, 103, 105, 116]⟩ 289), (.str ⟨#[95, 108, 97, 119, 95, 112, 114, 105, 109, 101, 115]⟩ 290), (.str ⟨#[95, 108, 97, 119, 95, 116, 117, 114, 110]⟩ 291), (.str ⟨#[95, 108, 97, 119, 95, 98, 97, 115, 101]⟩ 292), (.str ⟨#[95, 108, 97, 119, 95, 102, 111, 117, 110, 100]⟩ 293)] 0), #[]⟩
noncomputable abbrev o80 (P : Params) : Obj := ⟨(.type "tuple"), none, (.seq #[] 0), #[]⟩
noncomputable abbrev o81 (P : Params) : Obj := ⟨.none, none, (.func ⟨⟨#[95, 108, 97, 119, 95, 100, 114, 97, 119]⟩, ⟨#[95, 108, 97, 119, 95, 100, 114, 97, 119]⟩, defArgs (top 13), .stmts (defBody (top 13)), defScope (top 13), 0, [], .none, .none, .none, .none, none, .none, .none, 0⟩), #[]⟩
noncomputable abbrev o82 (P : Params) : Obj := ⟨(.type "code"), none, (.fields #[(.str ⟨#[95, 108, 97, 119, 95, 100, 114, 97, 119]⟩ 284), (.str ⟨#[95, 108, 97, 119, 95, 100, 114, 97, 119]⟩ 285), (.str ⟨#[47, 99, 108, 97, 105, 109, 47, 99, 117, 116, 46, 112, 121]⟩ 286), (.int (29) 0), (.int (2) 0), (.int (0) 0), (.int (0) 0), (.int (3) 0), (.ref 72), (.bool true), (.int (181) 0), (.ref 73), .none, (.ref 74), (.ref 75), (.ref 76), (.int (294) 0), (.int (29) 0), (.str ⟨#[47, 99, 108, 97, 105, 109, 47, 99, 117, 116, 46, 112, 121]⟩ 295)]), #[]⟩
noncomputable abbrev o83 (P : Params) : Obj := ⟨(.type "function"), none, (.func ⟨⟨#[95, 108, 97, 119, 95, 100, 114, 97, 119]⟩, ⟨#[95, 108, 97, 119, 95, 100, 114, 97, 119]⟩, defArgs (top 13), .stmts (defBody (top 13)), defScope (top 13), 3, [], .none, .none, .none, (.str ⟨#[108, 97, 119, 95, 119, 104, 111, 115, 101, 99, 97, 110, 99, 101, 108, 95, 107, 50, 53, 95, 116, 101, 120, 116, 115, 95, 111, 102, 95, 101, 118, 101, 110, 116, 115]⟩ 272), none, (.ref 77), .none, 0⟩), #[]⟩
noncomputable abbrev o84 (P : Params) : Obj := ⟨(.type "tuple"), none, (.seq #[] 0), #[]⟩
noncomputable abbrev o85 (P : Params) : Obj := ⟨.none, none, (.fields #[]), #[]⟩
noncomputable abbrev o86 (P : Params) : Obj := ⟨(.type "tuple"), none, (.seq #[(.str ⟨#[95, 108, 97, 119, 95, 115, 111, 117, 114, 99, 101, 95, 104, 101, 114, 101]⟩ 300), (.str ⟨#[95, 108, 97, 119, 95, 115, 111, 109, 101]⟩ 301)] 0), #[]⟩
noncomputable abbrev o87 (P : Params) : Obj := ⟨(.type "tuple"), none, (.seq #[] 0), #[]⟩
noncomputable abbrev o88 (P : Params) : Obj := ⟨.none, none, (.func ⟨⟨#[95, 108, 97, 119, 95, 99, 104, 111, 105, 99, 101]⟩, ⟨#[95, 108, 97, 119, 95, 99, 104, 111, 105, 99, 101]⟩, defArgs (top 14), .stmts (defBody (top 14)), defScope (top 14), 0, [], .none, .none, .none, .none, none, .none, .none, 0⟩), #[]⟩
noncomputable abbrev o89 (P : Params) : Obj := ⟨(.type "code"), none, (.fields #[(.str ⟨#[95, 108, 97, 119, 95, 99, 104, 111, 105, 99, 101]⟩ 297), (.str ⟨#[95, 108, 97, 119, 95, 99, 104, 111, 105, 99, 101]⟩ 298), (.str ⟨#[47, 99, 108, 97, 105, 109, 47, 99, 117, 116, 46, 112, 121]⟩ 299), (.int (40) 0), (.int (2) 0), (.int (0) 0), (.int (0) 0), (.int (3) 0), (.ref 79), (.bool true), (.int (181) 0), (.ref 80), .none, (.ref 81), (.ref 82), (.ref 83), (.int (302) 0), (.int (40) 0), (.str ⟨#[47, 99, 108, 97, 105, 109, 47, 99, 117, 116, 46, 112, 121]⟩ 303)]), #[]⟩
noncomputable abbrev o90 (P : Params) : Obj := ⟨(.type "function"), none, (.func ⟨⟨#[95, 108, 97, 119, 95, 99, 104, 111, 105, 99, 101]⟩, ⟨#[95, 108, 97, 119, 95, 99, 104, 111, 105, 99, 101]⟩, defArgs (top 14), .stmts (defBody (top 14)), defScope (top 14), 3, [], .none, .none, .none, (.str ⟨#[108, 97, 119, 95, 119, 104, 111, 115, 101, 99, 97, 110, 99, 101, 108, 95, 107, 50, 53, 95, 116, 101, 120, 116, 115, 95, 111, 102, 95, 101, 118, 101, 110, 116, 115]⟩ 272), none, (.ref 84), .none, 0⟩), #[]⟩
noncomputable abbrev o91 (P : Params) : Obj := ⟨(.type "tuple"), none, (.seq #[] 0), #[]⟩
noncomputable abbrev o92 (P : Params) : Obj := ⟨.none, none, (.fields #[]), #[]⟩
noncomputable abbrev o93 (P : Params) : Obj := ⟨.none, none, (.func ⟨⟨#[95, 108, 97, 119, 95, 110, 97, 109, 101]⟩, ⟨#[95, 108, 97, 119, 95, 110, 97, 109, 101]⟩, defArgs (top 15), .stmts (defBody (top 15)), defScope (top 15), 0, [], .none, .none, .none, .none, none, .none, .none, 0⟩), #[]⟩
noncomputable abbrev o94 (P : Params) : Obj := ⟨(.type "code"), none, (.fields #[(.str ⟨#[95, 108, 97, 119, 95, 110, 97, 109, 101]⟩ 305), (.str ⟨#[95, 108, 97, 119, 95, 110, 97, 109, 101]⟩ 306), (.str ⟨#[47, 99, 108, 97, 105, 109, 47, 99, 117, 116, 46, 112, 121]⟩ 307), (.int (42) 0), (.int (1) 0), (.int (0) 0), (.int (0) 0), (.int (3) 0), (.ref 86), (.bool true), (.int (181) 0), (.ref 87), .none, .none, .none, (.ref 88), (.int (308) 0), (.int (42) 0), (.str ⟨#[47, 99, 108, 97, 105, 109, 47, 99, 117, 116, 46, 112, 121]⟩ 309)]), #[]⟩
noncomputable abbrev o95 (P : Params) : Obj := ⟨(.type "function"), none, (.func ⟨⟨#[95, 108, 97, 119, 95, 110, 97, 109, 101]⟩, ⟨#[95, 108, 97, 119, 95, 110, 97, 109, 101]⟩, defArgs (top 15), .stmts (defBody (top 15)), defScope (top 15), 3, [], .none, .none, .none, (.str ⟨#[108, 97, 119, 95, 119, 104, 111, 115, 101, 99, 97, 110, 99, 101, 108, 95, 107, 50, 53, 95, 116, 101, 120, 116, 115, 95, 111, 102, 95, 101, 118, 101, 110, 116, 115]⟩ 272), none, (.ref 89), .none, 0⟩), #[]⟩
noncomputable abbrev o96 (P : Params) : Obj := ⟨(.type "tuple"), none, (.seq #[] 0), #[]⟩
noncomputable abbrev o97 (P : Params) : Obj := ⟨.none, none, (.fields #[]), #[]⟩
noncomputable abbrev o98 (P : Params) : Obj := ⟨(.type "tuple"), none, (.seq #[(.str ⟨#[95, 108, 97, 119, 95, 115, 99, 114, 105, 112, 116]⟩ 314), (.str ⟨#[95, 108, 97, 119, 95, 112, 108, 97, 99, 101]⟩ 315), (.str ⟨#[95, 108, 97, 119, 95, 115, 111, 117, 114, 99, 101, 95, 104, 101, 114, 101]⟩ 316), (.str ⟨#[95, 108, 97, 119, 95, 116, 117, 114, 110]⟩ 317), (.str ⟨#[95, 108, 97, 119, 95, 119, 111, 114, 100]⟩ 318), (.str ⟨#[95, 108, 97, 119, 95, 101, 118, 101, 110, 116]⟩ 319)] 0), #[]⟩
noncomputable abbrev o99 (P : Params) : Obj := ⟨(.type "tuple"), none, (.seq #[] 0), #[]⟩
noncomputable abbrev o100 (P : Params) : Obj := ⟨.none, none, (.func ⟨⟨#[108, 97, 119]⟩, ⟨#[108, 97, 119]⟩, defArgs (top 16), .stmts (defBody (top 16)), defScope (top 16), 0, [], .none, .none, .none, .none, none, .none, .none, 0⟩), #[]⟩
noncomputable abbrev o101 (P : Params) : Obj := ⟨(.type "code"), none, (.fields #[(.str ⟨#[108, 97, 119]⟩ 311), (.str ⟨#[108, 97, 119]⟩ 312), (.str ⟨#[47, 99, 108, 97, 105, 109, 47, 99, 117, 116, 46, 112, 121]⟩ 313), (.int (44) 0), (.int (1) 0), (.int (0) 0), (.int (0) 0), (.int (3) 0), (.ref 91), (.bool true), (.int (181) 0), (.ref 92), .none, (.ref 93), (.ref 94), (.ref 95), (.int (320) 0), (.int (44) 0), (.str ⟨#[47, 99, 108, 97, 105, 109, 47, 99, 117, 116, 46, 112, 121]⟩ 321)]), #[]⟩
noncomputable abbrev o102 (P : Params) : Obj := ⟨(.type "function"), none, (.func ⟨⟨#[108, 97, 119]⟩, ⟨#[108, 97, 119]⟩, defArgs (top 16), .stmts (defBody (top 16)), defScope (top 16), 3, [], .none, .none, .none, (.str ⟨#[108, 97, 119, 95, 119, 104, 111, 115, 101, 99, 97, 110, 99, 101, 108, 95, 107, 50, 53, 95, 116, 101, 120, 116, 115, 95, 111, 102, 95, 101, 118, 101, 110, 116, 115]⟩ 272), none, (.ref 96), .none, 0⟩), #[]⟩
noncomputable abbrev tr3 (P : Params) : PySem.W.BT := (.node (o0 P) (.node (o1 P) (.node (o56 P) (.node (o7 P) (.node (o17 P) (.node (o33 P) (.node (o68 P) .nil .nil) (.node (o100 P) .nil .nil)) (.node (o49 P) (.node (o84 P) .nil .nil) .nil)) (.node (o25 P) (.node (o41 P) (.node (o76 P) .nil .nil) .nil) (.node (o60 P) (.node (o92 P) .nil .nil) .nil))) (.node (o11 P) (.node (o21 P) (.node (o37 P) (.node (o72 P) .nil .nil) .nil) (.node (o53 P) (.node (o88 P) .nil .nil) .nil)) (.node (o29 P) (.node (o45 P) (.node (o80 P) .nil .nil) .nil) (.node (o64 P) (.node (o96 P) .nil .nil) .nil)))) (.node (o5 P) (.node (o9 P) (.node (o19 P) (.node (o35 P) (.node (o70 P) .nil .nil) (.node (o102 P) .nil .nil)) (.node (o51 P) (.node (o86 P) .nil .nil) .nil)) (.node (o27 P) (.node (o43 P) (.node (o78 P) .nil .nil) .nil) (.node (o62 P) (.node (o94 P) .nil .nil) .nil))) (.node (o13 P) (.node (o23 P) (.node (o39 P) (.node (o74 P) .nil .nil) .nil) (.node (o58 P) (.node (o90 P) .nil .nil) .nil)) (.node (o31 P) (.node (o47 P) (.node (o82 P) .nil .nil) .nil) (.node (o66 P) (.node (o98 P) .nil .nil) .nil))))) (.node (o2 P) (.node (o4 P) (.node (o8 P) (.node (o18 P) (.node (o34 P) (.node (o69 P) .nil .nil) (.node (o101 P) .nil .nil)) (.node (o50 P) (.node (o85 P) .nil .nil) .nil)) (.node (o26 P) (.node (o42 P) (.node (o77 P) .nil .nil) .nil) (.node (o61 P) (.node (o93 P) .nil .nil) .nil))) (.node (o57 P) (.node (o22 P) (.node (o38 P) (.node (o73 P) .nil .nil) .nil) (.node (o55 P) (.node (o89 P) .nil .nil) .nil)) (.node (o30 P) (.node (o46 P) (.node (o81 P) .nil .nil) .nil) (.node (o65 P) (.node (o97 P) .nil .nil) .nil)))) (.node (o6 P) (.node (o10 P) (.node (o20 P) (.node (o36 P) (.node (o71 P) .nil .nil) .nil) (.node (o52 P) (.node (o87 P) .nil .nil) .nil)) (.node (o28 P) (.node (o44 P) (.node (o79 P) .nil .nil) .nil) (.node (o63 P) (.node (o95 P) .nil .nil) .nil))) (.node (o14 P) (.node (o24 P) (.node (o40 P) (.node (o75 P) .nil .nil) .nil) (.node (o59 P) (.node (o91 P) .nil .nil) .nil)) (.node (o32 P) (.node (o48 P) (.node (o83 P) .nil .nil) .nil) (.node (o67 P) (.node (o99 P) .nil .nil) .nil))))))
noncomputable abbrev S3 (w : World) (os : OsState) : SharedT := ⟨tr3 w.params, 98, {}, Array.mk [], boot_drawn, 323, os⟩
theorem hsz (w : World) : ((boot_heap w.params).isNs mainGlobals && (Array.mk [] : Array GenState).size == 0, (boot_heap w.params).objs.size, (boot_heap w.params).nsMap mainGlobals "__annotations__") = (true, n0, ann) := by kernel_rfl
theorem hput (w : World) : putAll (boot_heap w.params).objs.toList .nil 0 = some (tr0 w.params, n0) := by kernel_rfl
theorem hpre (w : World) (os : OsState) : goG (stQ Pg w) n0 ann 12 ⟨tr0 w.params, n0, (boot_heap w.params).life, Array.mk [], boot_drawn, boot_toks, os⟩ (topStub Pg) = some (Sb w os, ⟨denQ tabQ cE, cE, (⟨0, 0, 0, 0⟩ : Pos), [topFrame fq]⟩) := by kernel_rfl
theorem hblk (w : World) (os : OsState) : goS (stQ Pg w) n0 ann 1 (Sb w os) (blockOf bE env cE (⟨0, 0, 0, 0⟩ : Pos) [topFrame fq]) = some (.next, Sb w os, cE, (⟨0, 0, 0, 0⟩ : Pos)) := by kernel_rfl
theorem g1 (w : World) (os : OsState) : goS (stQ Pg w) n0 ann 503 (Sb w os) (piecesOf (sl Pg 0 8) env cE (⟨0, 0, 0, 0⟩ : Pos) [topFrame fq]) = some (.next, S1 w os, cE, (⟨13, 0, 13, 8⟩ : Pos)) := by kernel_rfl
theorem g2 (w : World) (os : OsState) : goS (stQ Pg w) n0 ann 71 (S1 w os) (piecesOf (sl Pg 8 1) env cE (⟨13, 0, 13, 8⟩ : Pos) [topFrame fq]) = some (.next, S2 w os, cE, (⟨14, 0, 14, 11⟩ : Pos)) :=
  byRow2 "special-get-raises" (P := fun w => ∀ os : OsState, goS (stQ Pg w) n0 ann 71 (S1 w os) (piecesOf (sl Pg 8 1) env cE (⟨13, 0, 13, 8⟩ : Pos) [topFrame fq]) = some (.next, S2 w os, cE, (⟨14, 0, 14, 11⟩ : Pos))) (fun w os => by kernel_rfl) (fun w os => by kernel_rfl) w os
theorem g3 (w : World) (os : OsState) : goS (stQ Pg w) n0 ann 222 (S2 w os) (piecesOf (sl Pg 9 8) env cE (⟨14, 0, 14, 11⟩ : Pos) [topFrame fq]) = some (.next, S3 w os, cE, (⟨44, 0, 54, 15⟩ : Pos)) := by kernel_rfl
theorem gE (w : World) (os : OsState) : goF (stQ Pg w) n0 ann 2 (S3 w os) ⟨doneF .next, cE, (⟨44, 0, 54, 15⟩ : Pos), [topFrame fq]⟩ = some (S3 w os) := by kernel_rfl
theorem tops (w : World) (os : OsState) : topRun treeTable Pg w n0 ann (12 + (1 + (503 + (71 + (222 + (2)))))) ⟨boot_heap w.params, Array.mk [], boot_drawn, boot_toks, os⟩ (topStub Pg) = some (S3 w os).abs :=
  rest_start (hput w) (hpre w os) (hblk w os) (rest_step (g1 w os) (rest_step (g2 w os) (rest_step (g3 w os) (rest_end (i := 17) (by kernel_rfl) (gE w os) rfl))))
abbrev qv : Program := view Pg [16]
abbrev loose : List PySem.Str := ([⟨#[87, 104, 111, 115, 101, 69, 114, 114, 111, 114]⟩, ⟨#[66, 97, 100, 84, 101, 120, 116]⟩, ⟨#[77, 79, 83, 84, 95, 76, 69, 84, 84, 69, 82, 83]⟩, ⟨#[76, 69, 84, 84, 69, 82, 83]⟩, ⟨#[105, 115, 95, 110, 97, 109, 101]⟩, ⟨#[69, 86, 69, 78, 84, 95, 83, 73, 90, 69, 83]⟩, ⟨#[101, 118, 101, 110, 116, 95, 116, 101, 120, 116]⟩, ⟨#[114, 101, 97, 100, 95, 101, 118, 101, 110, 116]⟩, ⟨#[95, 108, 97, 119, 95, 115, 111, 117, 114, 99, 101]⟩, ⟨#[95, 108, 97, 119, 95, 100, 114, 97, 119]⟩, ⟨#[95, 108, 97, 119, 95, 99, 104, 111, 105, 99, 101]⟩, ⟨#[95, 108, 97, 119, 95, 110, 97, 109, 101]⟩] : List PySem.Str)
abbrev Rw : PySem.W.OpenRow := PySem.W.OpenLaw.row PySem.Challenge.rw_whosecancel_k25_texts_of_events
abbrev Xt (s : Shared) : Bool := xlAt qv [] s && recOk Rw.toRowW.records s
theorem lk1 (w : World) (os : OsState) : looksF Pg (boot_heap w.params) (S3 w os).abs = true := by kernel_rfl
theorem lk2q (w : World) (os : OsState) : seenQ qv loose (importedModules Pg.main.body) Xt (S3 w os).abs = openGood qv loose := by kernel_rfl
theorem lk2 (w : World) (os : OsState) : openSeen qv loose (importedModules Pg.main.body) Xt true (S3 w os).abs = openGood qv loose := (seenQ_eq qv loose (importedModules Pg.main.body) Xt _).trans (lk2q w os)
abbrev adr : List Addr := [3, 24, 44, 0, 6, 23, 43, 52, 41, 51, 59, 64, 71, 78, 85, 90, 97, 4, 22, 25, 40, 42, 50, 58, 63, 70, 77, 84, 89, 96]
abbrev hkb : PySem.W.Hook := hkA adr L.facts L.fn L.ts L.ex
theorem lk3q (w : World) (os : OsState) : obsA adr L.facts L.fn L.ts L.ex (getT (S3 w os)) = hkb.val w := by kernel_rfl
theorem lk3 (w : World) (os : OsState) : hkb.obs (S3 w os).abs = hkb.val w := obsA_eq.symm.trans (lk3q w os)
theorem left : LeftO Rw.prog qv loose Xt hkb.obs hkb.val (12 + (1 + (503 + (71 + (222 + (2))))) + 600) true :=
  left_of (by kernel_rfl) (fun s => by kernel_rfl) hsz tops lk1 lk2 lk3
end
end K25
open PySem PySem.W PySem.Calls PyProof.Rows
theorem PySem.Challenge.cw_whosecancel_k25_texts_of_events_holds : PySem.Challenge.rw_whosecancel_k25_texts_of_events.Holds := by
  w_on; o_law
  refine holds_open (q := K25.qv) (kwd := [])
    (d := HandSHeadRun.topDef K25.Pg 16)
    K25.left K25.hkb.of K25.hkb.keeps
    (fun s z => xl_of s (Bool.and_eq_true_iff.mp z).1)
    XL.keeps (by kernel_rfl) (by kernel_rfl) (by kernel_rfl)
    (fun s z => recFacts_of (Bool.and_eq_true_iff.mp z).2)
    (by rfl) (by first | assumption | decide +kernel)
    (by decide +kernel) ⟨rfl, rfl, rfl, rfl, rfl, by decide +kernel⟩
    ?hw ?hc
  case hw => w_witness2
  case hc =>
    refine WC.walk_ofG (l := PySem.Challenge.rw_whosecancel_k25_texts_of_events) (n := 63) (k := 61) (x := K25.D7.ps.headD "") (CX := L2.CX0) rfl (by decide) (by kernel_rfl) ⟨rfl, by decide, by decide⟩ ?F (fun _ _ _ _ z => z)
    intro w mg fa h Y G hmg
    exact WC.law_G (L := K25.L) (T := K25.T) (k := 60) (i := 7) (D := K25.D7) (nsz := 63) K25.comp K25.st K25.sc K25.sh rfl K25.hps rfl (by decide +kernel) K25.hb K25.hG K25.run Y G hmg
