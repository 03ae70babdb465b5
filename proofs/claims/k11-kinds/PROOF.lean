import PyProof.Rows.All
import Wide.All
import OpenK.AllK
import Wide.FinOn
import HandS.ForMost
import HandS.ForExc
import HandS.Evl
import HandS.More
import HandS.Wide
import HandS.EndBits
import HandS.Text
import HandS.Style
import KE.SortData
import PyProof.ListIndexNeg
import HandS.TupAny
import HandS.Deep
import PyProof.ListMulRoad
import PyProof.FactsAll.tuple_2
import HandS.Base
import HandS.Call
import HandS.List
import HandS.TupMul
import HandS.IsInst
import PyProof.ReprRoads
import PyProof.ListIndex
import PySem.Challenge.RW_factflows_k11_kinds
set_option Elab.async false
set_option linter.all false
set_option maxRecDepth 100000
set_option maxHeartbeats 4000000
/-! FwT -/
/-! a tuple times 0 and 1 -/
namespace G
open PySem PySem.Spec PyProof.Rows L2
theorem tuple_mulS (l : Addr) (items : Array Value) (n : Nat) (dd : Option Addr) (sl : Array (Option Value)) (x : Int) (u : Tok) (c0 : (decide (x < -(2 ^ 63)) || decide (x ≥ 2 ^ 63)) = false) (c1 : (items.isEmpty || x == 1) = true) :
    Meets (Builtin.«tuple.__mul__» ⟨[.ref l, .int x u], []⟩) (fun _ R s => s.heap.get? l = some { cls := .type "tuple", dict := dd, data := .seq items n, slots := sl } ∧ R (.ok (.ret (Value.ref l))) s) :=
  .of_wp fun prog w A R s h => by
    obtain ⟨hp, g, d, tk, os⟩ := s
    obtain ⟨hl, h⟩ := h
    have f1 := AutoSeq1.idx_int
    wp_walk using wpAny_loadPart' hl
    repeat (first
      | (refine wpAny_ite_false (decide_eq_false (by rw [c0]; exact Bool.false_ne_true)) ?_; wp_walk using wpAny_loadPart' hl)
      | (refine wpAny_ite_true (decide_eq_true c1) ?_; wp_walk using wpAny_loadPart' hl))
    exact ⟨_, rfl, h⟩
theorem tuple_mul0 (l : Addr) (items : Array Value) (n : Nat) (dd : Option Addr) (sl : Array (Option Value)) (x : Int) (u : Tok) (c0 : (decide (x < -(2 ^ 63)) || decide (x ≥ 2 ^ 63)) = false) (c1 : (items.isEmpty || x == 1) = false) (c2 : (decide (x ≤ 0) || items.isEmpty) = true) :
    Meets (Builtin.«tuple.__mul__» ⟨[.ref l, .int x u], []⟩) (fun _ R s => s.heap.get? l = some { cls := .type "tuple", dict := dd, data := .seq items n, slots := sl } ∧
      R (.ok (.ret (Value.ref s.heap.objs.size))) { s with heap := s.heap.push { cls := Value.type "tuple", data := Data.seq #[] }, toks := s.toks }) :=
  .of_wp fun prog w A R s h => by
    obtain ⟨hp, g, d, tk, os⟩ := s
    obtain ⟨hl, h⟩ := h
    have f1 := AutoSeq1.idx_int
    wp_walk using wpAny_loadPart' hl
    repeat (first
      | (refine wpAny_ite_false (decide_eq_false (by rw [c0]; exact Bool.false_ne_true)) ?_; wp_walk using wpAny_loadPart' hl)
      | (refine wpAny_ite_false (decide_eq_false (by rw [c1]; exact Bool.false_ne_true)) ?_; wp_walk using wpAny_loadPart' hl)
      | (refine wpAny_ite_true (decide_eq_true c2) ?_; wp_walk using wpAny_loadPart' hl))
    exact ⟨_, rfl, h⟩
/-- t * k, k from 0 on -/
def rRepA (K : PySem.W.Frag) : R2 := fun x y H Q => ∃ l k xs, x = .ref l ∧ y = .int k ∧ SqT K H l xs ∧ 0 ≤ k ∧ k ≤ 1000 ∧ xs.length ≤ 1000 ∧
  (k = 1 ∨ xs = [] → Q (.ref l) H) ∧ (¬ (k = 1 ∨ xs = []) → ∀ p, H p = none → Q (.ref p) (upd H p (.tup (List.replicate k.toNat xs).flatten)))
theorem op_repA {X : Cx} : OpR X (binaryOp .Mult) (rRepA X.K) := by
  intro pins s σ H x y v u Q I rx ry h
  obtain ⟨l, k, xs, rfl, rfl, hT, h0, h2, hz, q1, q2⟩ := h
  by_cases hc : k = 1 ∨ xs = []
  · have q := q1 hc
    cases rx
    obtain ⟨t, rfl⟩ := ry
    obtain ⟨its, r, ⟨⟨cls, dd, data, sl⟩, ho, hcl, n, hd⟩, hs⟩ := I.tuple hT
    simp only at hcl hd
    subst hcl hd
    have c0 : (decide (k < -(2 ^ 63)) || decide (k ≥ 2 ^ 63)) = false := by
      rw [decide_eq_false (by omega), decide_eq_false (by omega)] <;> rfl
    have c1 : (its.toArray.isEmpty || k == 1) = true := by
      rcases hc with hc | hc
      · subst hc; simp
      · subst hc; cases r; rfl
    refine wpAny_binaryOp_repeat_ref (T := "tuple") (U := "int") (by decide) ⟨_, ho, rfl⟩ (fun s' => typeIs_int s' k t) noFill_tuple_mul F.fills_int_mul F.slot_int_rmul repeat_tuple F.slot_int_index.lookup
      (call_meets F.slot_int_rmul (typeIs_int s k t) F.entry_int_rmul (F.args_int_rmul_2 _ _) (int_rmul_tuple k t l its.toArray n dd sl)
        ⟨ho, rfl, ⟨_, ho, rfl⟩, call_meets F.slot_tuple_mul ⟨_, ho, rfl⟩ F.entry_tuple_mul (F.args_tuple_mul_2 _ _) (tuple_mulS l its.toArray n dd sl k t c0 c1) ⟨ho, ?_⟩⟩)
    exact ⟨.ref l, H, I, rfl, q⟩
  · have hne : xs ≠ [] := fun e => hc (.inr e)
    by_cases hk : 2 ≤ k
    · exact op_repT pins s σ H _ _ v u Q I rx ry ⟨l, k, xs, rfl, rfl, hT, hne, hk, h2, hz, q2 hc⟩
    · have q := q2 hc
      have k0 : k = 0 := by
        have : k ≠ 1 := fun e => hc (.inl e)
        omega
      subst k0
      cases rx
      obtain ⟨t, rfl⟩ := ry
      obtain ⟨its, r, ⟨⟨cls, dd, data, sl⟩, ho, hcl, n, hd⟩, hs⟩ := I.tuple hT
      simp only at hcl hd
      subst hcl hd
      have hi : its.toArray.isEmpty = false := by
        cases r with
        | nil => exact absurd rfl hne
        | cons a b => rfl
      refine wpAny_binaryOp_repeat_ref (T := "tuple") (U := "int") (by decide) ⟨_, ho, rfl⟩ (fun s' => typeIs_int s' 0 t) noFill_tuple_mul F.fills_int_mul F.slot_int_rmul repeat_tuple F.slot_int_index.lookup
        (call_meets F.slot_int_rmul (typeIs_int s 0 t) F.entry_int_rmul (F.args_int_rmul_2 _ _) (int_rmul_tuple 0 t l its.toArray n dd sl)
          ⟨ho, rfl, ⟨_, ho, rfl⟩, call_meets F.slot_tuple_mul ⟨_, ho, rfl⟩ F.entry_tuple_mul (F.args_tuple_mul_2 _ _) (tuple_mul0 l its.toArray n dd sl 0 t (by decide) (by rw [hi]; rfl) (by rfl)) ⟨ho, ?_⟩⟩)
      refine ⟨.ref s.heap.objs.size, _, I.laid (t' := s.toks) (o := .tup []) (fun b ob q => Heap.get?_push_of_some _ q) (Nat.le_refl _) ?_, rfl, q _ (I.hok.fresh (Nat.le_refl _))⟩
      exact ⟨Nat.zero_le _, [], .nil, IsTup.new _ _⟩
end G

/-! Fw1 -/
/-! values as trees, and what a heap says of them -/
namespace G
open PySem L2

/-- a value as a tree -/
inductive D where
  | non | bl (b : Bool) | int (i : Int) | str (s : Str)
  | tup (xs : List D) | lst (xs : List D) | dic (kvs : List (D × D)) | obj (c : Str) (fs : List (Str × D))
deriving Inhabited

/-- how a tree is held: shared up to a level, or owned by the one who has it (elements held in another way) -/
inductive Md where
  | sh (n : Nat) | own (m : Md)
deriving DecidableEq, Inhabited
def Md.lev : Md → Nat
  | .sh n => n
  | .own m => m.lev

/-- who has an address -/
inductive Ow where
  | lvl (k : Nat) | slot (i : Nat) | hand
deriving DecidableEq
abbrev Om := Addr → Option Ow
abbrev Ctx := List (Option Md)
abbrev Env := List (Option D)

/-- what is the same for a whole def: the written part, the classes by name, the depth, what an exception must do, the slots that are told then -/
structure Sx where
  K : PySem.W.Frag
  cl : Str → Option Addr
  n : Nat
  E : XK
  gx : Ctx

/-- shared up to level n -/
def Lv (w : Om) (n : Nat) (a : Addr) : Prop := ∃ k, k ≤ n ∧ w a = some (.lvl k)
def KT (K : PySem.W.Frag) (a : Addr) (xs : List V) : Prop :=
  ∃ (o : Obj) (its : Array Value) (m : Nat), K.lookup a = some o ∧ o.cls = .type "tuple" ∧ o.data = .seq its m ∧ its.size ≤ sizeLine ∧ Vals xs its.toList
/-- a shared list, a shared tuple -/
def LAt (w : Om) (H : Hp) (n : Nat) (a : Addr) (xs : List V) : Prop := Lv w n a ∧ H a = some (.lst xs)
def TAt (K : PySem.W.Frag) (w : Om) (H : Hp) (n : Nat) (a : Addr) (xs : List V) : Prop := (Lv w n a ∧ Rd H a (.tup xs)) ∨ KT K a xs

mutual
/-- a shared value is the tree d -/
inductive Shr (S : Sx) (w : Om) (H : Hp) (n : Nat) : V → D → Prop
  | non : Shr S w H n .non .non
  | bl (b : Bool) : Shr S w H n (.bl b) (.bl b)
  | int (i : Int) : Shr S w H n (.int i) (.int i)
  | str (x : Str) : Shr S w H n (.str x) (.str x)
  | lst {a : Addr} {xs : List V} {ds : List D} : LAt w H n a xs → ShrL S w H n xs ds → Shr S w H n (.ref a) (.lst ds)
  | tup {a : Addr} {xs : List V} {ds : List D} : TAt S.K w H n a xs → ShrL S w H n xs ds → Shr S w H n (.ref a) (.tup ds)
  | dic {a : Addr} {kvs : List (Key × V)} {ds : List (D × D)} : Lv w n a → H a = some (.dK kvs) → ShrD S w H n kvs ds → Shr S w H n (.ref a) (.dic ds)
  | obj {a C dx : Addr} {c : Str} {fs : List (Str × V)} {ds : List (Str × D)} : Lv w n a → H a = some (.ins C dx fs) → S.cl c = some C → ShrF S w H n fs ds → Shr S w H n (.ref a) (.obj c ds)
inductive ShrL (S : Sx) (w : Om) (H : Hp) (n : Nat) : List V → List D → Prop
  | nil : ShrL S w H n [] []
  | cons {v : V} {vs : List V} {d : D} {ds : List D} : Shr S w H n v d → ShrL S w H n vs ds → ShrL S w H n (v :: vs) (d :: ds)
inductive ShrD (S : Sx) (w : Om) (H : Hp) (n : Nat) : List (Key × V) → List (D × D) → Prop
  | nil : ShrD S w H n [] []
  | int {i : Int} {v : V} {vs : List (Key × V)} {d : D} {ds : List (D × D)} : Shr S w H n v d → ShrD S w H n vs ds → ShrD S w H n ((Sum.inl i, v) :: vs) ((.int i, d) :: ds)
  | str {i : Str} {v : V} {vs : List (Key × V)} {d : D} {ds : List (D × D)} : Shr S w H n v d → ShrD S w H n vs ds → ShrD S w H n ((Sum.inr i, v) :: vs) ((.str i, d) :: ds)
inductive ShrF (S : Sx) (w : Om) (H : Hp) (n : Nat) : List (Str × V) → List (Str × D) → Prop
  | nil : ShrF S w H n [] []
  | cons {f : Str} {v : V} {vs : List (Str × V)} {d : D} {ds : List (Str × D)} : Shr S w H n v d → ShrF S w H n vs ds → ShrF S w H n ((f, v) :: vs) ((f, d) :: ds)
end

/-- what stands up to level n stands on -/
def Keep (n : Nat) (w : Om) (H : Hp) (w' : Om) (H' : Hp) : Prop := ∀ a k, k ≤ n → w a = some (.lvl k) → w' a = some (.lvl k) ∧ H' a = H a
/-- all that is shared stands on -/
def Ext (w : Om) (H : Hp) (w' : Om) (H' : Hp) : Prop := ∀ a k, w a = some (.lvl k) → w' a = some (.lvl k) ∧ H' a = H a
theorem Ext.refl (w : Om) (H : Hp) : Ext w H w H := fun _ _ h => ⟨h, rfl⟩
theorem Ext.trans {w w1 w2 : Om} {H H1 H2 : Hp} (a : Ext w H w1 H1) (b : Ext w1 H1 w2 H2) : Ext w H w2 H2 := fun x k h =>
  let p := a x k h
  let q := b x k p.1
  ⟨q.1, q.2.trans p.2⟩
theorem Ext.keep {n : Nat} {w w1 : Om} {H H1 : Hp} (a : Ext w H w1 H1) : Keep n w H w1 H1 := fun x k _ h => a x k h

theorem Lv.keep {n : Nat} {w w' : Om} {H H' : Hp} {a : Addr} (e : Keep n w H w' H') (h : Lv w n a) : Lv w' n a ∧ H' a = H a := by
  obtain ⟨k, hk, h⟩ := h
  exact ⟨⟨k, hk, (e a k hk h).1⟩, (e a k hk h).2⟩
theorem Rd.cong {H H' : Hp} {a : Addr} {u : HO} (e : H' a = H a) (h : Rd H a u) : Rd H' a u := by
  unfold Rd
  rw [e]
  exact h
theorem LAt.keep {n : Nat} {w w' : Om} {H H' : Hp} {a : Addr} {xs : List V} (e : Keep n w H w' H') (h : LAt w H n a xs) : LAt w' H' n a xs := by
  obtain ⟨h3, h4⟩ := h.1.keep e
  exact ⟨h3, h4.trans h.2⟩
theorem TAt.keep {K : PySem.W.Frag} {n : Nat} {w w' : Om} {H H' : Hp} {a : Addr} {xs : List V} (e : Keep n w H w' H') (h : TAt K w H n a xs) : TAt K w' H' n a xs := by
  rcases h with ⟨h1, h2⟩ | h
  · obtain ⟨h3, h4⟩ := h1.keep e
    exact .inl ⟨h3, Rd.cong h4 h2⟩
  · exact .inr h
theorem TAt.sq {K : PySem.W.Frag} {n : Nat} {w : Om} {H : Hp} {a : Addr} {xs : List V} (h : TAt K w H n a xs) : SqT K H a xs := by
  rcases h with ⟨_, h2⟩ | h
  · exact .inl h2
  · exact .inr h
theorem LAt.up {n m : Nat} {w : Om} {H : Hp} {a : Addr} {xs : List V} (e : n ≤ m) (h : LAt w H n a xs) : LAt w H m a xs := by
  obtain ⟨⟨k, h0, h1⟩, h2⟩ := h
  exact ⟨⟨k, Nat.le_trans h0 e, h1⟩, h2⟩
theorem TAt.up {K : PySem.W.Frag} {n m : Nat} {w : Om} {H : Hp} {a : Addr} {xs : List V} (e : n ≤ m) (h : TAt K w H n a xs) : TAt K w H m a xs := by
  rcases h with ⟨⟨k, h0, h1⟩, h2⟩ | h
  · exact .inl ⟨⟨k, Nat.le_trans h0 e, h1⟩, h2⟩
  · exact .inr h

section
variable {S S' : Sx} {w w' : Om} {H H' : Hp} {n m : Nat}
/-- levels up, heaps on, the same written part -/
theorem Shr.to (e : Keep n w H w' H') (u : n ≤ m) (hK : S'.K = S.K) (hc : S'.cl = S.cl) {v : V} {d : D} (h : Shr S w H n v d) : Shr S' w' H' m v d := by
  refine Shr.rec (motive_1 := fun v d _ => Shr S' w' H' m v d) (motive_2 := fun vs ds _ => ShrL S' w' H' m vs ds) (motive_3 := fun vs ds _ => ShrD S' w' H' m vs ds) (motive_4 := fun vs ds _ => ShrF S' w' H' m vs ds)
    .non .bl .int .str (fun h _ ih => ?_) (fun h _ ih => ?_) (fun h1 h2 _ ih => ?_) (fun h1 h2 h3 _ ih => ?_) .nil (fun _ _ i1 i2 => .cons i1 i2) .nil (fun _ _ i1 i2 => .int i1 i2) (fun _ _ i1 i2 => .str i1 i2) .nil (fun _ _ i1 i2 => .cons i1 i2) h
  · exact .lst ((h.keep e).up u) ih
  · exact .tup (by rw [hK]; exact (h.keep e).up u) ih
  · obtain ⟨⟨k, k1, k2⟩, h4⟩ := h1.keep e
    exact .dic ⟨k, Nat.le_trans k1 u, k2⟩ (h4.trans h2) ih
  · obtain ⟨⟨k, k1, k2⟩, h4⟩ := h1.keep e
    exact .obj ⟨k, Nat.le_trans k1 u, k2⟩ (h4.trans h2) (by rw [hc]; exact h3) ih
theorem ShrL.to (e : Keep n w H w' H') (u : n ≤ m) (hK : S'.K = S.K) (hc : S'.cl = S.cl) : ∀ {vs : List V} {ds : List D}, ShrL S w H n vs ds → ShrL S' w' H' m vs ds
  | _, _, .nil => .nil
  | _, _, .cons h t => .cons (h.to e u hK hc) (ShrL.to e u hK hc t)
theorem ShrL.length : ∀ {vs : List V} {ds : List D}, ShrL S w H n vs ds → vs.length = ds.length
  | _, _, .nil => rfl
  | _, _, .cons _ t => by rw [List.length_cons, List.length_cons, ShrL.length t]
theorem ShrL.append : ∀ {vs us : List V} {ds es : List D}, ShrL S w H n vs ds → ShrL S w H n us es → ShrL S w H n (vs ++ us) (ds ++ es)
  | _, _, _, _, .nil, h => h
  | _, _, _, _, .cons h t, h' => .cons h (ShrL.append t h')
theorem ShrL.get : ∀ {vs : List V} {ds : List D} {i : Nat} {v : V}, ShrL S w H n vs ds → vs[i]? = some v → ∃ d, ds[i]? = some d ∧ Shr S w H n v d
  | _, _, _, _, .nil, e => by simp at e
  | _, _, 0, _, .cons h t, e => by simp at e; subst e; exact ⟨_, rfl, h⟩
  | _, _, i + 1, v, .cons h t, e => by
    obtain ⟨d, h1, h2⟩ := ShrL.get (i := i) (v := v) t (by simpa using e)
    exact ⟨d, by simpa using h1, h2⟩
theorem ShrL.getD : ∀ {vs : List V} {ds : List D} {i : Nat} {d : D}, ShrL S w H n vs ds → ds[i]? = some d → ∃ v, vs[i]? = some v ∧ Shr S w H n v d
  | _, _, _, _, .nil, e => by simp at e
  | _, _, 0, _, .cons h t, e => by simp at e; subst e; exact ⟨_, rfl, h⟩
  | _, _, i + 1, v, .cons h t, e => by
    obtain ⟨d, h1, h2⟩ := ShrL.getD (i := i) (d := v) t (by simpa using e)
    exact ⟨d, by simpa using h1, h2⟩
end

/-! ### held values -/
def isSc : V → D → Prop
  | .non, .non => True
  | .bl b, .bl c => b = c
  | .int i, .int j => i = j
  | .str x, .str y => x = y
  | _, _ => False
mutual
inductive Rep (S : Sx) (w : Om) (H : Hp) : Md → V → D → List Addr → Prop
  | sh {n : Nat} {v : V} {d : D} : Shr S w H n v d → Rep S w H (.sh n) v d []
  | sc {m : Md} {v : V} {d : D} : isSc v d → Rep S w H m v d []
  | own {m : Md} {a : Addr} {vs : List V} {ds : List D} {fp : List Addr} : H a = some (.lst vs) → RepL S w H m vs ds fp → Rep S w H (.own m) (.ref a) (.lst ds) (a :: fp)
inductive RepL (S : Sx) (w : Om) (H : Hp) : Md → List V → List D → List Addr → Prop
  | nil {m : Md} : RepL S w H m [] [] []
  | cons {m : Md} {v : V} {vs : List V} {d : D} {ds : List D} {f g : List Addr} : Rep S w H m v d f → RepL S w H m vs ds g → RepL S w H m (v :: vs) (d :: ds) (f ++ g)
end
/-- m may be taken for m', nothing relabelled -/
def Md.le : Md → Md → Bool
  | .sh a, .sh b => a ≤ b
  | .own a, .own b => Md.le a b
  | _, _ => false
theorem Md.le_refl : ∀ m : Md, m.le m = true
  | .sh n => by simp [Md.le]
  | .own m => by simp [Md.le, Md.le_refl m]
theorem Md.le_lev : ∀ {a b : Md}, a.le b = true → a.lev ≤ b.lev
  | .sh a, .sh b, h => by simpa [Md.le, Md.lev] using h
  | .own a, .own b, h => Md.le_lev (a := a) (b := b) (by simpa [Md.le] using h)
  | .sh _, .own _, h => by simp [Md.le] at h
  | .own _, .sh _, h => by simp [Md.le] at h

section
variable {S S' : Sx} {w w' : Om} {H H' : Hp}
mutual
/-- held on: what is shared stands on, what is owned is as it was -/
theorem Rep.to (hK : S'.K = S.K) (hc : S'.cl = S.cl) : ∀ {m m' : Md} {v : V} {d : D} {fp : List Addr}, Rep S w H m v d fp → m.le m' = true → Keep m.lev w H w' H' → (∀ a ∈ fp, H' a = H a) → Rep S' w' H' m' v d fp
  | .sh n, .sh n', _, _, _, .sh h, hm, e, _ => .sh (h.to e (by simpa [Md.le, Md.lev] using hm) hK hc)
  | _, _, _, _, _, .sc h, _, _, _ => .sc h
  | .own m, .own m', _, _, _, .own h1 h2, hm, e, k => .own ((k _ List.mem_cons_self).trans h1) (RepL.to hK hc h2 (by simpa [Md.le] using hm) e fun a ha => k a (List.mem_cons_of_mem _ ha))
theorem RepL.to (hK : S'.K = S.K) (hc : S'.cl = S.cl) : ∀ {m m' : Md} {vs : List V} {ds : List D} {fp : List Addr}, RepL S w H m vs ds fp → m.le m' = true → Keep m.lev w H w' H' → (∀ a ∈ fp, H' a = H a) → RepL S' w' H' m' vs ds fp
  | _, _, _, _, _, .nil, _, _, _ => .nil
  | _, _, _, _, _, .cons h t, hm, e, k => .cons (Rep.to hK hc h hm e fun a ha => k a (List.mem_append_left _ ha)) (RepL.to hK hc t hm e fun a ha => k a (List.mem_append_right _ ha))
end
mutual
/-- frozen: what was owned is shared at level k -/
theorem Rep.fz {n : Nat} : ∀ {m : Md} {v : V} {d : D} {fp : List Addr}, Rep S w H m v d fp → m.lev ≤ n → (∀ a ∈ fp, Lv w n a) → Shr S w H n v d
  | .sh _, _, _, _, .sh h, hm, _ => h.to (fun _ _ _ e => ⟨e, rfl⟩) hm rfl rfl
  | _, v, d, _, .sc h, _, _ => by
    cases v <;> cases d <;> first
      | (cases h; done)
      | (cases h; constructor)
  | .own m, _, _, _, .own h1 h2, hm, k => .lst ⟨k _ List.mem_cons_self, h1⟩ (RepL.fz h2 hm fun a ha => k a (List.mem_cons_of_mem _ ha))
theorem RepL.fz {n : Nat} : ∀ {m : Md} {vs : List V} {ds : List D} {fp : List Addr}, RepL S w H m vs ds fp → m.lev ≤ n → (∀ a ∈ fp, Lv w n a) → ShrL S w H n vs ds
  | _, _, _, _, .nil, _, _ => .nil
  | _, _, _, _, .cons h t, hm, k => .cons (Rep.fz h hm fun a ha => k a (List.mem_append_left _ ha)) (RepL.fz t hm fun a ha => k a (List.mem_append_right _ ha))
end
mutual
theorem Rep.at : ∀ {m : Md} {v : V} {d : D} {fp : List Addr}, Rep S w H m v d fp → ∀ a ∈ fp, ∃ o, H a = some o
  | _, _, _, _, .sh _, _, h => by simp at h
  | _, _, _, _, .sc _, _, h => by simp at h
  | _, _, _, _, .own h1 h2, a, h => by
    rcases List.mem_cons.mp h with e | h
    · rw [e]; exact ⟨_, h1⟩
    · exact RepL.at h2 a h
theorem RepL.at : ∀ {m : Md} {vs : List V} {ds : List D} {fp : List Addr}, RepL S w H m vs ds fp → ∀ a ∈ fp, ∃ o, H a = some o
  | _, _, _, _, .nil, _, h => by simp at h
  | _, _, _, _, .cons h1 h2, a, h => by
    rcases List.mem_append.mp h with h | h
    · exact Rep.at h1 a h
    · exact RepL.at h2 a h
end
theorem RepL.length : ∀ {m : Md} {vs : List V} {ds : List D} {fp : List Addr}, RepL S w H m vs ds fp → vs.length = ds.length
  | _, _, _, _, .nil => rfl
  | _, _, _, _, .cons _ t => by rw [List.length_cons, List.length_cons, RepL.length t]
theorem RepL.append : ∀ {m : Md} {vs us : List V} {ds es : List D} {f g : List Addr}, RepL S w H m vs ds f → RepL S w H m us es g → RepL S w H m (vs ++ us) (ds ++ es) (f ++ g)
  | _, _, _, _, _, _, _, .nil, h => h
  | _, _, _, _, _, _, _, .cons h t, h' => by rw [List.append_assoc]; exact .cons h (RepL.append t h')
theorem RepL.one {m : Md} {v : V} {d : D} {f : List Addr} (h : Rep S w H m v d f) : RepL S w H m [v] [d] f := by
  have := RepL.cons h .nil
  rw [List.append_nil] at this
  exact this
/-- shared items as held ones -/
theorem RepL.sh {n : Nat} : ∀ {vs : List V} {ds : List D}, ShrL S w H n vs ds → RepL S w H (.sh n) vs ds []
  | _, _, .nil => .nil
  | _, _, .cons h t => .cons (.sh h) (RepL.sh t)
theorem RepL.unsh {n : Nat} : ∀ {vs : List V} {ds : List D} {fp : List Addr}, RepL S w H (.sh n) vs ds fp → fp = [] ∧ ShrL S w H n vs ds
  | _, _, _, .nil => ⟨rfl, .nil⟩
  | _, _, _, .cons h t => by
    obtain ⟨e, t'⟩ := RepL.unsh t
    subst e
    cases h with
    | sh h => exact ⟨rfl, .cons h t'⟩
    | sc h => exact ⟨rfl, .cons (Rep.fz (m := .sh n) (.sc h) (Nat.le_refl _) (fun a ha => by simp at ha)) t'⟩
theorem Rep.unsh {n : Nat} {v : V} {d : D} {fp : List Addr} (h : Rep S w H (.sh n) v d fp) : fp = [] ∧ Shr S w H n v d := by
  cases h with
  | sh h => exact ⟨rfl, h⟩
  | sc h => exact ⟨rfl, Rep.fz (m := .sh n) (.sc h) (Nat.le_refl _) (fun a ha => by simp at ha)⟩
end

/-! ### what a held value looks like -/
/-- how the elements of a list are held -/
def Md.em : Md → Md
  | .sh n => .sh n
  | .own m => m
section
variable {S : Sx} {w : Om} {H : Hp} {m : Md} {v : V} {fp : List Addr}
theorem Rep.int {i : Int} (h : Rep S w H m v (.int i) fp) : v = .int i ∧ fp = [] := by
  cases h with
  | sh h => cases h; exact ⟨rfl, rfl⟩
  | sc h => cases v <;> first | (cases h; done) | (cases h; exact ⟨rfl, rfl⟩)
theorem Rep.bl {i : Bool} (h : Rep S w H m v (.bl i) fp) : v = .bl i ∧ fp = [] := by
  cases h with
  | sh h => cases h; exact ⟨rfl, rfl⟩
  | sc h => cases v <;> first | (cases h; done) | (cases h; exact ⟨rfl, rfl⟩)
theorem Rep.str {i : Str} (h : Rep S w H m v (.str i) fp) : v = .str i ∧ fp = [] := by
  cases h with
  | sh h => cases h; exact ⟨rfl, rfl⟩
  | sc h => cases v <;> first | (cases h; done) | (cases h; exact ⟨rfl, rfl⟩)
theorem Rep.non (h : Rep S w H m v .non fp) : v = .non ∧ fp = [] := by
  cases h with
  | sh h => cases h; exact ⟨rfl, rfl⟩
  | sc h => cases v <;> first | (cases h; done) | exact ⟨rfl, rfl⟩
theorem Rep.lst {ds : List D} (h : Rep S w H m v (.lst ds) fp) : ∃ a vs f, v = .ref a ∧ H a = some (.lst vs) ∧ RepL S w H m.em vs ds f ∧ (∀ x ∈ f, x ∈ fp) := by
  cases h with
  | sh h =>
    cases h with
    | lst h1 h2 => exact ⟨_, _, [], rfl, h1.2, RepL.sh h2, fun _ z => by simp at z⟩
  | sc h => cases v <;> cases h
  | own h1 h2 => exact ⟨_, _, _, rfl, h1, h2, fun x hx => List.mem_cons_of_mem _ hx⟩
theorem Rep.tup {ds : List D} (h : Rep S w H m v (.tup ds) fp) : ∃ n a vs, m = .sh n ∧ v = .ref a ∧ TAt S.K w H n a vs ∧ ShrL S w H n vs ds ∧ fp = [] := by
  cases h with
  | sh h =>
    cases h with
    | tup h1 h2 => exact ⟨_, _, _, rfl, rfl, h1, h2, rfl⟩
  | sc h => cases v <;> cases h
end

/-! ### the slots of a frame -/
structure Rel (S : Sx) (g : Ctx) (w : Om) (σ : St) (H : Hp) (env : Env) : Prop where
  dom : ∀ a x, w a = some x → ∃ o, H a = some o
  slot : ∀ i m, g[i]? = some (some m) → ∃ v d fp, σ[i]? = some (some v) ∧ env[i]? = some (some d) ∧ Rep S w H m v d fp ∧ fp.Nodup ∧ ∀ a ∈ fp, w a = some (.slot i)
  len : env.length = σ.length
  gl : g.length ≤ σ.length
/-- a value in the hand -/
def Val (S : Sx) (m : Md) (w : Om) (H : Hp) (v : V) (d : D) : Prop := ∃ fp, Rep S w H m v d fp ∧ fp.Nodup ∧ ∀ a ∈ fp, w a = some .hand
/-- several values, each held in its own way -/
inductive RepA (S : Sx) (w : Om) (H : Hp) : List Md → List V → List D → List Addr → Prop
  | nil : RepA S w H [] [] [] []
  | cons {m : Md} {ms : List Md} {v : V} {vs : List V} {d : D} {ds : List D} {f g : List Addr} : Rep S w H m v d f → RepA S w H ms vs ds g → RepA S w H (m :: ms) (v :: vs) (d :: ds) (f ++ g)
def ValA (S : Sx) (ms : List Md) (w : Om) (H : Hp) (vs : List V) (ds : List D) : Prop := ∃ fp, RepA S w H ms vs ds fp ∧ fp.Nodup ∧ ∀ a ∈ fp, w a = some .hand
def OkG (n : Nat) (g : Ctx) : Prop := ∀ (i : Nat) (m : Md), g[i]? = some (some m) → m.lev ≤ n

/-- labels changed on a list of addresses -/
def lab (fp : List Addr) (x : Ow) (w : Om) : Om := fun a => if a ∈ fp then some x else w a
theorem lab_in {fp : List Addr} {x : Ow} {w : Om} {a : Addr} (h : a ∈ fp) : lab fp x w a = some x := by unfold lab; rw [if_pos h]
theorem lab_out {fp : List Addr} {x : Ow} {w : Om} {a : Addr} (h : a ∉ fp) : lab fp x w a = w a := by unfold lab; rw [if_neg h]

section
variable {S : Sx} {g : Ctx} {w w' : Om} {σ : St} {H H' : Hp} {env : Env} {n : Nat}
/-- labels that no slot and no level up to n bears may change; the heap may change elsewhere -/
theorem Rel.move (r : Rel S g w σ H env) (hg : OkG n g) (k : Keep n w H w' H') (ks : ∀ a i, w a = some (.slot i) → (∃ m, g[i]? = some (some m)) → w' a = some (.slot i) ∧ H' a = H a) (hd : ∀ a x, w' a = some x → ∃ o, H' a = some o) : Rel S g w' σ H' env :=
  ⟨hd, fun i m e => by
    obtain ⟨v, d, fp, h1, h2, h3, h4, h5⟩ := r.slot i m e
    exact ⟨v, d, fp, h1, h2, h3.to rfl rfl (Md.le_refl m) (fun a k' hk e' => k a k' (Nat.le_trans hk (hg i m e)) e') (fun a ha => (ks a i (h5 a ha) ⟨m, e⟩).2), h4, fun a ha => (ks a i (h5 a ha) ⟨m, e⟩).1⟩, r.len, r.gl⟩
end
end G

/-! Fw2 -/
/-! pieces of code as functions of the slots' trees -/
namespace G
open PySem L2

inductive R (α : Type) where
  | ok (a : α) (env : Env) | ex (x : D) (env : Env) | no
def R.bind {α β : Type} (r : R α) (f : α → Env → R β) : R β :=
  match r with
  | .ok a e => f a e
  | .ex x e => .ex x e
  | .no => .no
abbrev ME := Env → R D
abbrev MT := Env → R Bool
abbrev MA := Env → R (List D)
inductive O where
  | nx (env : Env) | rt (d : D) (env : Env) | bk (env : Env) | ct (env : Env) | ex (x : D) (env : Env) | no
abbrev MS := Env → O

/-- an exception of a class by name, with its fields -/
def XRep (S : Sx) (w : Om) (H : Hp) (c : Value) (dd : Option Addr) (x : D) : Prop :=
  ∃ (nm : Str) (C : Addr) (fs : List (Str × D)), x = .obj nm fs ∧ S.cl nm = some C ∧ c = .ref C ∧
    ((dd = none ∧ fs = []) ∨ ∃ (d : Addr) (xs : List (Str × V)), dd = some d ∧ H d = some (.xd xs) ∧ ShrF S w H 0 xs fs)
/-- what must hold for an outcome -/
def Out {α : Type} (S : Sx) (w : Om) (σ : St) (H : Hp) (k : α → Env → Prop) : R α → Prop
  | .ok a e => k a e
  | .ex x e => ∀ c dd w' H', Ext w H w' H' → Rel S S.gx w' σ H' e → XRep S w' H' c dd x → S.E c dd H'
  | .no => False
def RE (S : Sx) (g g' : Ctx) (m : Md) (t : TE) (f : ME) : Prop :=
  ∀ (w : Om) (σ : St) (H : Hp) (env : Env) (Q : VK), Rel S g w σ H env →
    Out S w σ H (fun d e => ∀ v w' H', Ext w H w' H' → Rel S g' w' σ H' e → Val S m w' H' v d → Q v H') (f env) → t σ H Q
def RT (S : Sx) (g g' : Ctx) (t : TT) (f : MT) : Prop :=
  ∀ (w : Om) (σ : St) (H : Hp) (env : Env) (Q : Bool → Hp → Prop), Rel S g w σ H env →
    Out S w σ H (fun b e => ∀ w' H', Ext w H w' H' → Rel S g' w' σ H' e → Q b H') (f env) → t σ H Q
def RA (S : Sx) (g g' : Ctx) (ms : List Md) (t : TA) (f : MA) : Prop :=
  ∀ (w : Om) (σ : St) (H : Hp) (env : Env) (Q : List V → Hp → Prop), Rel S g w σ H env →
    Out S w σ H (fun ds e => ∀ vs w' H', Ext w H w' H' → Rel S g' w' σ H' e → ValA S ms w' H' vs ds → Q vs H') (f env) → t σ H Q

/-- what holds of the context of a body -/
class Gd (X : Cx) (S : Sx) : Prop where
  K : S.K = X.K
  calm : X.calm = true
  nd : X.N.Nodup
  room : X.A.units + 64 < cLine
  gs : X.A.guards = some []
  pass : Passes (L2.CX X.prog X.w) X S.E
  po : PassesOwn (model X.prog X.w) X.A X.env X.xe

structure SE (X : Cx) (S : Sx) (g g' : Ctx) (m : Md) (e : Expr) (f : ME) : Prop where
  run : OkG S.n g → (∃ t, PE X e t ∧ RE S g g' m t f) ∧ OkG S.n g' ∧ m.lev ≤ S.n
structure ST (X : Cx) (S : Sx) (g g' : Ctx) (e : Expr) (f : MT) : Prop where
  run : OkG S.n g → (∃ t, PT X e t ∧ RT S g g' t f) ∧ OkG S.n g'
structure SW (X : Cx) (S : Sx) (g g' : Ctx) (e : Expr) (f : MT) : Prop where
  run : OkG S.n g → (∃ t, PW X e t ∧ RT S g g' t f) ∧ OkG S.n g'
structure SA (X : Cx) (S : Sx) (g g' : Ctx) (ms : List Md) (es : List Expr) (f : MA) : Prop where
  run : OkG S.n g → (∃ t, PA X es t ∧ RA S g g' ms t f) ∧ OkG S.n g' ∧ ∀ m ∈ ms, m.lev ≤ S.n

section
variable {S : Sx} {w w' w1 : Om} {σ : St} {H H' H1 : Hp} {α β : Type}
theorem Out.bind {k : β → Env → Prop} {r : R α} {f : α → Env → R β} (h : Out S w σ H k (r.bind f)) : Out S w σ H (fun a e => Out S w σ H k (f a e)) r := by
  cases r with
  | ok a e => exact h
  | ex x e => exact h
  | no => exact h
theorem Out.mono {k k' : α → Env → Prop} {r : R α} (h : Out S w σ H k r) (x : Ext w H w1 H1) (i : ∀ a e, k a e → k' a e) : Out S w1 σ H1 k' r := by
  cases r with
  | ok a e => exact i a e h
  | ex x' e => exact fun c dd w2 H2 e2 r2 q => h c dd w2 H2 (x.trans e2) r2 q
  | no => exact h
end

/-- only new objects come -/
structure Grow (w : Om) (H : Hp) (w' : Om) (H' : Hp) : Prop where
  same : ∀ a o, H a = some o → H' a = some o ∧ w' a = w a
  dom : ∀ a x, w' a = some x → ∃ o, H' a = some o
section
variable {S : Sx} {g : Ctx} {w w' : Om} {σ : St} {H H' : Hp} {env : Env}
theorem Grow.ext (z : Grow w H w' H') (d : ∀ a x, w a = some x → ∃ o, H a = some o) : Ext w H w' H' := fun a k h => by
  obtain ⟨o, e⟩ := d a _ h
  obtain ⟨e1, e2⟩ := z.same a o e
  exact ⟨e2.trans h, e1.trans e.symm⟩
theorem Grow.refl (d : ∀ a x, w a = some x → ∃ o, H a = some o) : Grow w H w H := ⟨fun _ _ e => ⟨e, rfl⟩, d⟩
theorem Rel.grow (r : Rel S g w σ H env) (z : Grow w H w' H') : Rel S g w' σ H' env :=
  ⟨z.dom, fun i m e => by
    obtain ⟨v, d, fp, h1, h2, h3, h4, h5⟩ := r.slot i m e
    refine ⟨v, d, fp, h1, h2, h3.to rfl rfl (Md.le_refl m) (z.ext r.dom).keep (fun a ha => ?_), h4, fun a ha => ?_⟩
    · obtain ⟨o, q⟩ := h3.at a ha
      rw [(z.same a o q).1, q]
    · obtain ⟨o, q⟩ := h3.at a ha
      rw [(z.same a o q).2]
      exact h5 a ha, r.len, r.gl⟩
/-- one new object -/
theorem Grow.one {p : Addr} {o : HO} {x : Ow} (d : ∀ a x, w a = some x → ∃ o, H a = some o) (hp : H p = none) : Grow w H (lab [p] x w) (upd H p o) :=
  ⟨fun a u e => by
    have ne := ne_of_none e hp
    exact ⟨by rw [upd_ne ne]; exact e, lab_out (by simpa using ne)⟩, fun a y e => by
    by_cases h : a = p
    · subst h; exact ⟨_, upd_same⟩
    · rw [lab_out (by simpa using h)] at e
      rw [upd_ne h]
      exact d a y e⟩
/-- labels from the hand to another owner, on a list -/
theorem Rel.relab {fp : List Addr} {x : Ow} (r : Rel S g w σ H env) (hf : ∀ a ∈ fp, w a = some .hand) : Rel S g (lab fp x w) σ H env ∧ Ext w H (lab fp x w) H := by
  have key : ∀ a y, w a = some y → y ≠ .hand → lab fp x w a = some y := fun a y e ne => by
    rw [lab_out]
    · exact e
    · intro h
      rw [hf a h] at e
      exact ne (Option.some.inj e).symm
  have ex : Ext w H (lab fp x w) H := fun a k e => ⟨key a _ e (by simp), rfl⟩
  refine ⟨⟨fun a y e => ?_, fun i m e => ?_, r.len, r.gl⟩, ex⟩
  · by_cases h : a ∈ fp
    · exact r.dom a _ (hf a h)
    · rw [lab_out h] at e
      exact r.dom a y e
  · obtain ⟨v, d, f, h1, h2, h3, h4, h5⟩ := r.slot i m e
    exact ⟨v, d, f, h1, h2, h3.to rfl rfl (Md.le_refl m) ex.keep (fun _ _ => rfl), h4, fun a ha => key a _ (h5 a ha) (by simp)⟩
/-- a value in the hand put by (its own objects at the level above): what it is behind what comes then -/
theorem Val.keep {m : Md} {v : V} {d : D} (h : Val S m w H v d) (hm : m.lev ≤ S.n) : ∃ fp, fp.Nodup ∧ (∀ a ∈ fp, w a = some .hand) ∧ ∀ w' H', Ext (lab fp (.lvl (S.n + 1)) w) H w' H' → Rep S w' H' m v d fp ∧ ∀ a ∈ fp, w' a = some (.lvl (S.n + 1)) := by
  obtain ⟨fp, h1, h2, h3⟩ := h
  refine ⟨fp, h2, h3, fun w' H' e => ⟨h1.to rfl rfl (Md.le_refl m) (fun a k _ q => ?_) (fun a ha => (e a _ (lab_in ha)).2), fun a ha => (e a _ (lab_in ha)).1⟩⟩
  refine e a k ?_
  rw [lab_out]
  · exact q
  · intro z
    rw [h3 a z] at q
    cases q
/-- back into the hand -/
theorem Rel.rehand {fp : List Addr} (r : Rel S g w σ H env) (hg : OkG S.n g) (hf : ∀ a ∈ fp, w a = some (.lvl (S.n + 1))) : Rel S g (lab fp .hand w) σ H env ∧ Keep S.n w H (lab fp .hand w) H := by
  have key : ∀ a y, w a = some y → y ≠ .lvl (S.n + 1) → lab fp .hand w a = some y := fun a y e ne => by
    rw [lab_out]
    · exact e
    · intro h
      rw [hf a h] at e
      exact ne (Option.some.inj e).symm
  have ex : Keep S.n w H (lab fp .hand w) H := fun a k hk e => ⟨key a _ e (by intro z; injection z with z; omega), rfl⟩
  refine ⟨⟨fun a y e => ?_, fun i m e => ?_, r.len, r.gl⟩, ex⟩
  · by_cases h : a ∈ fp
    · exact r.dom a _ (hf a h)
    · rw [lab_out h] at e
      exact r.dom a y e
  · obtain ⟨v, d, f, h1, h2, h3, h4, h5⟩ := r.slot i m e
    exact ⟨v, d, f, h1, h2, h3.to rfl rfl (Md.le_refl m) (fun a k hk q => ex a k (Nat.le_trans hk (hg i m e)) q) (fun _ _ => rfl), h4, fun a ha => key a _ (h5 a ha) (by simp)⟩
end

/-! ### names and constants -/
def mC (d : D) : ME := fun e => .ok d e
def mVar (i : Nat) : ME := fun e => match e[i]? with
  | some (some d) => .ok d e
  | _ => .no
section
variable {X : Cx} {S : Sx} {g g' : Ctx} {x : Str} {pos : Pos} {i j : Nat} {m : Md}
theorem re_c {v : V} {d : D} (h : isSc v d) : RE S g g m (tC v) (mC d) := fun w σ H env Q r q => q v w H (Ext.refl _ _) r ⟨[], .sc h, List.nodup_nil, fun a ha => by simp at ha⟩
theorem se_int {a : Int} {k : Nat} : SE X S g g (.sh 0) (.Constant (.int a) k pos) (mC (.int a)) := ⟨fun h => ⟨⟨_, pe_int, re_c rfl⟩, h, Nat.zero_le _⟩⟩
theorem se_bl {a : Bool} {k : Nat} : SE X S g g (.sh 0) (.Constant (.bool a) k pos) (mC (.bl a)) := ⟨fun h => ⟨⟨_, pe_bl, re_c rfl⟩, h, Nat.zero_le _⟩⟩
theorem se_non {k : Nat} : SE X S g g (.sh 0) (.Constant .none k pos) (mC .non) := ⟨fun h => ⟨⟨_, pe_non, re_c trivial⟩, h, Nat.zero_le _⟩⟩
theorem se_str {a : Str} {k : Nat} : SE X S g g (.sh 0) (.Constant (.str a) k pos) (mC (.str a)) := ⟨fun h => ⟨⟨_, pe_str, re_c rfl⟩, h, Nat.zero_le _⟩⟩
theorem re_var {k : Nat} (hg : g[i]? = some (some (.sh k))) : RE S g g (.sh k) (tVar i) (mVar i) := fun w σ H env Q r q => by
  obtain ⟨v, d, fp, h1, h2, h3, h4, h5⟩ := r.slot i _ hg
  refine ⟨v, h1, ?_⟩
  unfold mVar at q
  rw [h2] at q
  obtain ⟨e, h3'⟩ := h3.unsh
  exact q v w H (Ext.refl _ _) r ⟨[], .sh h3', List.nodup_nil, fun a ha => by simp at ha⟩
/-- a shared name -/
theorem se_var (i : Nat) {k : Nat} (hg : g[i]? = some (some (.sh k)) := by rfl) (hN : X.N[i]? = some x := by rfl) (hv : Vis X.env.scope x := by first | exact Or.inl rfl | exact Or.inr (Or.inl rfl) | exact Or.inr (Or.inr rfl))
    (hd : (x == ("__debug__" : Str)) = false := by decide) (hcd : (x == ("__classdict__" : Str)) = false := by decide) : SE X S g g (.sh k) (.Name x pos) (mVar i) :=
  ⟨fun h => ⟨⟨_, pe_var hN hv hd hcd, re_var hg⟩, h, h i _ hg⟩⟩
/-- an owned name, given away -/
theorem re_mv {m : Md} (hg : g[i]? = some (some m)) : RE S g (g.set i none) m (tVar i) (mVar i) := fun w σ H env Q r q => by
  obtain ⟨v, d, fp, h1, h2, h3, h4, h5⟩ := r.slot i _ hg
  refine ⟨v, h1, ?_⟩
  unfold mVar at q
  rw [h2] at q
  have ex : Ext w H (lab fp .hand w) H := fun a k e => by
    refine ⟨?_, rfl⟩
    rw [lab_out]
    · exact e
    · intro h
      rw [h5 a h] at e
      cases e
  refine q v (lab fp .hand w) H ex ⟨fun a y e => ?_, fun j m' e => ?_, r.len, by rw [List.length_set]; exact r.gl⟩ ⟨fp, h3.to rfl rfl (Md.le_refl _) ex.keep (fun _ _ => rfl), h4, fun a ha => lab_in ha⟩
  · by_cases h : a ∈ fp
    · exact r.dom a _ (h5 a h)
    · rw [lab_out h] at e
      exact r.dom a y e
  · have hj : j ≠ i := fun z => by
      subst z
      rw [List.getElem?_set] at e
      simp only [if_true] at e
      split at e <;> cases e
    rw [List.getElem?_set_ne (Ne.symm hj)] at e
    obtain ⟨v', d', f', k1, k2, k3, k4, k5⟩ := r.slot j _ e
    refine ⟨v', d', f', k1, k2, k3.to rfl rfl (Md.le_refl _) ex.keep (fun _ _ => rfl), k4, fun a ha => ?_⟩
    rw [lab_out]
    · exact k5 a ha
    · intro h
      have := k5 a ha
      rw [h5 a h] at this
      injection this with this
      injection this with this
      exact hj this.symm
theorem okg_set {n : Nat} {i : Nat} {m : Option Md} (h : OkG n g) (hm : ∀ m', m = some m' → m'.lev ≤ n) : OkG n (g.set i m) := fun j k e => by
  by_cases hj : i = j
  · subst hj
    rw [List.getElem?_set] at e
    simp only [if_true] at e
    split at e
    · exact hm k (Option.some.inj e)
    · cases e
  · rw [List.getElem?_set_ne hj] at e
    exact h j k e
theorem se_mv (i : Nat) {m : Md} (hg : g[i]? = some (some m) := by rfl) (hN : X.N[i]? = some x := by rfl) (hv : Vis X.env.scope x := by first | exact Or.inl rfl | exact Or.inr (Or.inl rfl) | exact Or.inr (Or.inr rfl))
    (hd : (x == ("__debug__" : Str)) = false := by decide) (hcd : (x == ("__classdict__" : Str)) = false := by decide) : SE X S g (g.set i none) m (.Name x pos) (mVar i) :=
  ⟨fun h => ⟨⟨_, pe_var hN hv hd hcd, re_mv hg⟩, okg_set h (fun _ z => nomatch z), h i _ hg⟩⟩
end
end G

/-! Fw3 -/
/-! operators -/
namespace G
open PySem L2

/-! ### new objects -/
/-- a new list of items that are shared up to k may be held so -/
def newOk (k : Nat) : Md → Bool
  | .sh j => k ≤ j
  | .own (.sh j) => k ≤ j
  | .own (.own _) => false
section
variable {S : Sx} {w : Om} {H : Hp} {p : Addr}
theorem Keep.one {n : Nat} {o : HO} {x : Ow} (d : ∀ a x, w a = some x → ∃ o, H a = some o) (hp : H p = none) : Keep n w H (lab [p] x w) (upd H p o) := fun a k _ e =>
  (Grow.one d hp).ext d a k e
theorem val_lst {k : Nat} {m : Md} {vs : List V} {ds : List D} (hm : newOk k m = true) (d : ∀ a x, w a = some x → ∃ o, H a = some o) (hp : H p = none) (h : ShrL S w H k vs ds) :
    ∃ w', Grow w H w' (upd H p (.lst vs)) ∧ Val S m w' (upd H p (.lst vs)) (.ref p) (.lst ds) := by
  cases m with
  | sh j =>
    have hj : k ≤ j := by simpa [newOk] using hm
    exact ⟨lab [p] (.lvl 0) w, Grow.one d hp, [], .sh (.lst ⟨⟨0, Nat.zero_le _, lab_in (by simp)⟩, upd_same⟩ (h.to (Keep.one d hp) hj rfl rfl)), List.nodup_nil, fun a ha => by simp at ha⟩
  | own m =>
    cases m with
    | own _ => simp [newOk] at hm
    | sh j =>
      have hj : k ≤ j := by simpa [newOk] using hm
      exact ⟨lab [p] .hand w, Grow.one d hp, [p], .own upd_same (RepL.sh (h.to (Keep.one d hp) hj rfl rfl)), by simp, fun a ha => lab_in ha⟩
theorem val_tup {k j : Nat} {vs : List V} {ds : List D} (hj : k ≤ j) (d : ∀ a x, w a = some x → ∃ o, H a = some o) (hp : H p = none) (h : ShrL S w H k vs ds) :
    ∃ w', Grow w H w' (upd H p (.tup vs)) ∧ Val S (.sh j) w' (upd H p (.tup vs)) (.ref p) (.tup ds) :=
  ⟨lab [p] (.lvl 0) w, Grow.one d hp, [], .sh (.tup (.inl ⟨⟨0, Nat.zero_le _, lab_in (by simp)⟩, .inl upd_same⟩) (h.to (Keep.one d hp) hj rfl rfl)), List.nodup_nil, fun a ha => by simp at ha⟩
theorem val_sc {m : Md} {v : V} {d : D} (h : isSc v d) : Val S m w H v d := ⟨[], .sc h, List.nodup_nil, fun a ha => by simp at ha⟩
theorem val_sh {n : Nat} {v : V} {d : D} (h : Shr S w H n v d) : Val S (.sh n) w H v d := ⟨[], .sh h, List.nodup_nil, fun a ha => by simp at ha⟩
end

/-! ### two-place operations on values -/
def RO (S : Sx) (m1 m2 m3 : Md) (r : R2) (h : D → D → Option D) : Prop :=
  ∀ (w : Om) (H : Hp) (x y : V) (d1 d2 d3 : D) (f1 f2 : List Addr) (Q : VK), (∀ a x, w a = some x → ∃ o, H a = some o) → Rep S w H m1 x d1 f1 → Rep S w H m2 y d2 f2 → h d1 d2 = some d3 →
    (∀ v w' H', Grow w H w' H' → Val S m3 w' H' v d3 → Q v H') → r x y H Q
def mBin (h : D → D → Option D) (fa fb : ME) : ME := fun e => (fa e).bind fun d1 e1 => (fb e1).bind fun d2 e2 => match h d1 d2 with
  | some d => .ok d e2
  | none => .no
section
variable {X : Cx} {S : Sx} {g g1 g2 : Ctx} {m1 m2 m3 : Md} {a b : Expr} {fa fb : ME} {pos : Pos}
theorem re_bin {ta tb : TE} {r : R2} {h : D → D → Option D} (o1 : m1.lev ≤ S.n) (o2 : OkG S.n g1) (ha : RE S g g1 m1 ta fa) (hb : RE S g1 g2 m2 tb fb) (hr : RO S m1 m2 m3 r h) : RE S g g2 m3 (tOp r ta tb) (mBin h fa fb) := by
  intro w σ H env Q R q
  have q := Out.bind q
  refine ha w σ H env _ R (Out.mono q (Ext.refl _ _) fun d1 e1 q1 v1 w1 H1 x1 R1 V1 => ?_)
  obtain ⟨fp, n1, n2, n3⟩ := V1.keep o1
  obtain ⟨R1', x1'⟩ := R1.relab (x := .lvl (S.n + 1)) n2
  have q2 := Out.bind q1
  refine hb _ σ H1 e1 _ R1' (Out.mono q2 (x1.trans x1') fun d2 e2 q3 v2 w2 H2 x2 R2 V2 => ?_)
  obtain ⟨k1, k2⟩ := n3 w2 H2 x2
  obtain ⟨f2, k3, k4, k5⟩ := V2
  cases e : h d1 d2 with
  | none =>
    rw [e] at q3
    exact q3.elim
  | some d3 =>
    rw [e] at q3
    refine hr w2 H2 v1 v2 d1 d2 d3 fp f2 _ R2.dom k1 k3 e fun v w' H' gr V3 => ?_
    exact q3 v w' H' ((x1.trans x1').trans (x2.trans (gr.ext R2.dom))) (R2.grow gr) V3
theorem se_bin {op : Operator} {r : R2} {h : D → D → Option D} (ho : OpR X (binaryOp op) r) (hr : RO S m1 m2 m3 r h) (hm : m1.lev ≤ S.n → m2.lev ≤ S.n → m3.lev ≤ S.n) (ha : SE X S g g1 m1 a fa) (hb : SE X S g1 g2 m2 b fb) : SE X S g g2 m3 (.BinOp a op b pos) (mBin h fa fb) :=
  ⟨fun ok => by
    obtain ⟨⟨ta, p1, p2⟩, o1, l1⟩ := ha.run ok
    obtain ⟨⟨tb, p3, p4⟩, o2, l2⟩ := hb.run o1
    exact ⟨⟨_, pe_op ho p1 p3, re_bin l1 o1 p2 p4 hr⟩, o2, hm l1 l2⟩⟩
theorem se_cmp {op : CmpOp} {r : R2} {h : D → D → Option D} (ho : OpR X (compareOp op) r) (hr : RO S m1 m2 m3 r h) (hm : m1.lev ≤ S.n → m2.lev ≤ S.n → m3.lev ≤ S.n) (ha : SE X S g g1 m1 a fa) (hb : SE X S g1 g2 m2 b fb)
    (hk : behindInMarks op b = false) : SE X S g g2 m3 (.Compare a [op] [b] pos) (mBin h fa fb) :=
  ⟨fun ok => by
    obtain ⟨⟨ta, p1, p2⟩, o1, l1⟩ := ha.run ok
    obtain ⟨⟨tb, p3, p4⟩, o2, l2⟩ := hb.run o1
    exact ⟨⟨_, pe_cmpR ho p1 p3 hk, re_bin l1 o1 p2 p4 hr⟩, o2, hm l1 l2⟩⟩
/-- an expression as a test -/
def mTest (f : ME) : MT := fun e => (f e).bind fun d e1 => match d with
  | .bl b => .ok b e1
  | _ => .no
theorem rt_test {t : TE} {f : ME} {m : Md} (h : RE S g g1 m t f) : RT S g g1 (tTest t) (mTest f) := by
  intro w σ H env Q R q
  have q := Out.bind q
  refine h w σ H env _ R (Out.mono q (Ext.refl _ _) fun d e q1 v w1 H1 x1 R1 V1 => ?_)
  cases d with
  | bl b =>
    obtain ⟨fp, k, _⟩ := V1
    obtain ⟨rfl, _⟩ := k.bl
    exact ⟨b, rfl, q1 w1 H1 x1 R1⟩
  | _ => exact q1.elim
theorem st_cmp {op : CmpOp} {r : R2} {h : D → D → Option D} (ho : OpR X (compareOp op) r) (hr : RO S m1 m2 m3 r h) (ha : SE X S g g1 m1 a fa) (hb : SE X S g1 g2 m2 b fb)
    (hk : behindInMarks op b = false) : ST X S g g2 (.Compare a [op] [b] pos) (mTest (mBin h fa fb)) :=
  ⟨fun ok => by
    obtain ⟨⟨ta, p1, p2⟩, o1, l1⟩ := ha.run ok
    obtain ⟨⟨tb, p3, p4⟩, o2, l2⟩ := hb.run o1
    exact ⟨⟨_, pt_cmpR ho p1 p3 hk, rt_test (re_bin l1 o1 p2 p4 hr)⟩, o2⟩⟩
/-- an expression whose value is a truth, as a test -/
theorem st_val (ha : SE X S g g1 m1 a fa) (he : ∀ whole, isTrue a X.env whole = (do let v ← whole; standAt a.pos; holding [v] (truthy v)) := by intro _; rfl) : ST X S g g1 a (mTest fa) :=
  ⟨fun ok => by
    obtain ⟨⟨ta, p1, p2⟩, o1, l1⟩ := ha.run ok
    exact ⟨⟨_, pt_val p1 he, rt_test p2⟩, o1⟩⟩
end

/-! ### ints, texts, lists, tuples together -/
section
variable {X : Cx} {S : Sx} {m1 m2 m3 : Md}
theorem ro_int {C : Int → Int → Prop} {r : Int → Int → Int} {h : D → D → Option D} (hh : ∀ d1 d2 d3, h d1 d2 = some d3 → ∃ i j, d1 = .int i ∧ d2 = .int j ∧ C i j ∧ d3 = .int (r i j)) : RO S m1 m2 m3 (rI C fun i j => .int (r i j)) h := by
  intro w H x y d1 d2 d3 f1 f2 Q dm R1 R2 e q
  obtain ⟨i, j, rfl, rfl, c, rfl⟩ := hh _ _ _ e
  obtain ⟨rfl, _⟩ := R1.int
  obtain ⟨rfl, _⟩ := R2.int
  exact ⟨i, j, rfl, rfl, c, q _ w H (Grow.refl dm) (val_sc rfl)⟩
def opI (C : Int → Int → Bool) (r : Int → Int → D) : D → D → Option D
  | .int i, .int j => if C i j then some (r i j) else none
  | _, _ => none
theorem opI_some {C : Int → Int → Bool} {r : Int → Int → D} {d1 d2 d3 : D} (h : opI C r d1 d2 = some d3) : ∃ i j, d1 = .int i ∧ d2 = .int j ∧ C i j = true ∧ d3 = r i j := by
  unfold opI at h
  split at h
  · rename_i i j
    split at h
    · exact ⟨i, j, rfl, rfl, by assumption, (Option.some.inj h).symm⟩
    · cases h
  · cases h
def opSub : D → D → Option D := opI (fun _ _ => true) fun i j => .int (i - j)
def opMul : D → D → Option D
  | .int i, .int j => if (decide (-(2 ^ 64) < i) && decide (i < 2 ^ 64)) || (decide (-(2 ^ 64) < j) && decide (j < 2 ^ 64)) then some (.int (i * j)) else none
  | .tup xs, .int k => if decide (2 ≤ k) && decide (k ≤ 1000) && decide (xs.length ≤ 1000) && !xs.isEmpty then some (.tup (List.replicate k.toNat xs).flatten) else none
  | .lst xs, .int k => if decide (0 ≤ k) && decide (k ≤ 100000) && decide (xs.length ≤ 100) then some (.lst (List.replicate k.toNat xs).flatten) else none
  | _, _ => none
def opFdiv : D → D → Option D := opI (fun _ j => decide (0 < j) && decide (j < 1073741824)) fun i j => .int (i / j)
def opMod : D → D → Option D := opI (fun _ j => decide (0 < j)) fun i j => .int (i % j)
def opPow : D → D → Option D := opI (fun i j => decide (0 ≤ j) && decide (j ≤ 1000000) && decide (i.natAbs < 2 ^ 64)) fun i j => .int (i ^ j.toNat)
def opOr : D → D → Option D := opI (fun _ _ => true) fun i j => .int (Builtin.bitOr i j)
theorem ro_I0 {r : Int → Int → Int} : RO S m1 m2 m3 (rI0 fun i j => .int (r i j)) (opI (fun _ _ => true) fun i j => .int (r i j)) := by
  intro w H x y d1 d2 d3 f1 f2 Q dm R1 R2 e q
  obtain ⟨i, j, rfl, rfl, _, rfl⟩ := opI_some e
  obtain ⟨rfl, _⟩ := R1.int
  obtain ⟨rfl, _⟩ := R2.int
  exact ⟨i, j, rfl, rfl, q _ w H (Grow.refl dm) (val_sc rfl)⟩
theorem ro_IB {r : Int → Int → Bool} : RO S m1 m2 m3 (rI0 fun i j => .bl (r i j)) (opI (fun _ _ => true) fun i j => .bl (r i j)) := by
  intro w H x y d1 d2 d3 f1 f2 Q dm R1 R2 e q
  obtain ⟨i, j, rfl, rfl, _, rfl⟩ := opI_some e
  obtain ⟨rfl, _⟩ := R1.int
  obtain ⟨rfl, _⟩ := R2.int
  exact ⟨i, j, rfl, rfl, q _ w H (Grow.refl dm) (val_sc rfl)⟩
theorem ro_fdiv : RO S m1 m2 m3 (rI CDiv fun i j => .int (i / j)) opFdiv := ro_int fun d1 d2 d3 e => by
  obtain ⟨i, j, h1, h2, h3, h4⟩ := opI_some e
  simp only [Bool.and_eq_true, decide_eq_true_eq] at h3
  exact ⟨i, j, h1, h2, h3, h4⟩
theorem ro_mod : RO S m1 m2 m3 (rI (fun _ j => 0 < j) fun i j => .int (i % j)) opMod := ro_int fun d1 d2 d3 e => by
  obtain ⟨i, j, h1, h2, h3, h4⟩ := opI_some e
  simp only [decide_eq_true_eq] at h3
  exact ⟨i, j, h1, h2, h3, h4⟩
theorem ro_pow : RO S m1 m2 m3 (rI CPow fun i j => .int (i ^ j.toNat)) opPow := ro_int fun d1 d2 d3 e => by
  obtain ⟨i, j, h1, h2, h3, h4⟩ := opI_some e
  simp only [Bool.and_eq_true, decide_eq_true_eq] at h3
  exact ⟨i, j, h1, h2, ⟨h3.1.1, h3.1.2, h3.2⟩, h4⟩

/-- items held in a way that may be told twice -/
def Md.flat : Md → Option Nat
  | .sh n => some n
  | .own (.sh n) => some n
  | .own (.own _) => none
theorem Rep.flatL {w : Om} {H : Hp} {m : Md} {k : Nat} {v : V} {ds : List D} {fp : List Addr} (h : Rep S w H m v (.lst ds) fp) (hm : m.flat = some k) : ∃ a vs, v = .ref a ∧ H a = some (.lst vs) ∧ ShrL S w H k vs ds := by
  obtain ⟨a, vs, f, e, h1, h2, _⟩ := h.lst
  refine ⟨a, vs, e, h1, ?_⟩
  cases m with
  | sh n =>
    have : n = k := by simpa [Md.flat] using hm
    subst this
    exact (RepL.unsh h2).2
  | own m =>
    cases m with
    | sh n =>
      have : n = k := by simpa [Md.flat] using hm
      subst this
      exact (RepL.unsh h2).2
    | own m => simp [Md.flat] at hm
def opAdd : D → D → Option D
  | .int i, .int j => some (.int (i + j))
  | .str x, .str y => if decide (x.length + y.length ≤ sizeLine) then some (.str (x ++ y)) else none
  | .lst xs, .lst ys => if decide (xs.length + ys.length ≤ sizeLine) then some (.lst (xs ++ ys)) else none
  | .tup xs, .tup ys => if decide (xs.length + ys.length ≤ sizeLine) then some (.tup (xs ++ ys)) else none
  | _, _ => none
def rAdd (K : PySem.W.Frag) : R2 := fun x y H Q => ((rI0 fun i j => .int (i + j)) x y H Q ∨ (∃ i j, x = .str i ∧ y = .str j ∧ i.length + j.length ≤ sizeLine ∧ Q (.str (i ++ j)) H)) ∨ (rCat x y H Q ∨ rCatA K x y H Q)
theorem op_addA : OpR X (binaryOp .Add) (rAdd X.K) := (op_add.or op_add_str).or (op_cat.or op_catA)
theorem ShrL.up {w : Om} {H : Hp} {n k : Nat} {vs : List V} {ds : List D} (h : ShrL S w H n vs ds) (e : n ≤ k) : ShrL S w H k vs ds := h.to (fun _ _ _ e => ⟨e, rfl⟩) e rfl rfl
theorem Shr.up {w : Om} {H : Hp} {n k : Nat} {v : V} {d : D} (h : Shr S w H n v d) (e : n ≤ k) : Shr S w H k v d := h.to (fun _ _ _ e => ⟨e, rfl⟩) e rfl rfl
/-- both items shared up to k, the result in a way that allows k -/
def addOk (m1 m2 m3 : Md) : Bool := match m1.flat, m2.flat with
  | some a, some b => newOk (max a b) m3
  | _, _ => false
theorem newOk_sh {k : Nat} {m : Md} (h : newOk k m = true) : ∃ j, k ≤ j ∧ (m = .sh j ∨ m = .own (.sh j)) := by
  cases m with
  | sh j => exact ⟨j, by simpa [newOk] using h, .inl rfl⟩
  | own m =>
    cases m with
    | sh j => exact ⟨j, by simpa [newOk] using h, .inr rfl⟩
    | own _ => simp [newOk] at h
theorem ro_add (hK : S.K = X.K) (hm : addOk m1 m2 m3 = true) (ht : m3 = .sh m3.lev ∨ ∀ n, m1 ≠ .sh n) : RO S m1 m2 m3 (rAdd X.K) opAdd := by
  intro w H x y d1 d2 d3 f1 f2 Q dm R1 R2 e q
  unfold addOk at hm
  cases h1 : m1.flat with
  | none => rw [h1] at hm; cases hm
  | some k1 =>
    cases h2 : m2.flat with
    | none => rw [h1, h2] at hm; cases hm
    | some k2 =>
      rw [h1, h2] at hm
      unfold opAdd at e
      split at e
      · cases e
        obtain ⟨rfl, _⟩ := R1.int
        obtain ⟨rfl, _⟩ := R2.int
        exact .inl (.inl ⟨_, _, rfl, rfl, q _ w H (Grow.refl dm) (val_sc rfl)⟩)
      · split at e
        · rename_i hz
          cases e
          obtain ⟨rfl, _⟩ := R1.str
          obtain ⟨rfl, _⟩ := R2.str
          exact .inl (.inr ⟨_, _, rfl, rfl, of_decide_eq_true hz, q _ w H (Grow.refl dm) (val_sc rfl)⟩)
        · cases e
      · split at e
        · rename_i hz
          cases e
          obtain ⟨a, vs, rfl, a1, a2⟩ := R1.flatL h1
          obtain ⟨b, us, rfl, b1, b2⟩ := R2.flatL h2
          refine .inr (.inl ⟨a, b, vs, us, rfl, rfl, a1, b1, by rw [a2.length, b2.length]; exact of_decide_eq_true hz, fun p hp => ?_⟩)
          obtain ⟨w', g1, g2⟩ := val_lst (m := m3) hm dm hp ((a2.up (Nat.le_max_left k1 k2)).append (b2.up (Nat.le_max_right k1 k2)))
          exact q _ w' _ g1 g2
        · cases e
      · split at e
        · rename_i hz
          cases e
          obtain ⟨n1, a, vs, e1, rfl, a1, a2, _⟩ := R1.tup
          obtain ⟨n2, b, us, e2, rfl, b1, b2, _⟩ := R2.tup
          subst e1; subst e2
          have : n1 = k1 := by simpa [Md.flat] using h1
          subst this
          have : n2 = k2 := by simpa [Md.flat] using h2
          subst this
          obtain ⟨j, hj, h3⟩ := newOk_sh hm
          have h3 : m3 = .sh j := by
            rcases h3 with h3 | h3
            · exact h3
            · rcases ht with ht | ht
              · rw [h3] at ht; cases ht
              · exact absurd rfl (ht n1)
          subst h3
          refine .inr (.inr ⟨a, b, vs, us, rfl, rfl, hK ▸ a1.sq, hK ▸ b1.sq, by rw [a2.length, b2.length]; exact of_decide_eq_true hz, fun e => ?_, fun _ e => ?_, fun _ _ p hp => ?_⟩)
          · subst e
            cases a2
            exact q _ w H (Grow.refl dm) (val_sh ((Shr.tup b1 b2).up (Nat.le_trans (Nat.le_max_right _ _) hj)))
          · subst e
            cases b2
            rw [List.append_nil] at q
            exact q _ w H (Grow.refl dm) (val_sh ((Shr.tup a1 a2).up (Nat.le_trans (Nat.le_max_left _ _) hj)))
          · obtain ⟨w', g1, g2⟩ := val_tup hj dm hp ((a2.up (Nat.le_max_left n1 n2)).append (b2.up (Nat.le_max_right n1 n2)))
            exact q _ w' _ g1 g2
        · cases e
      · cases e
end

/-! ### data: ==, != -/
mutual
def D.py : D → Option PyData
  | .non => some .none
  | .bl b => some (.bool b)
  | .int i => some (.int i)
  | .str s => some (.str s)
  | .tup xs => (D.pyL xs).map .tuple
  | .lst xs => (D.pyL xs).map .list
  | .dic _ => none
  | .obj _ _ => none
def D.pyL : List D → Option (List PyData)
  | [] => some []
  | x :: xs => match D.py x, D.pyL xs with
    | some p, some ps => some (p :: ps)
    | _, _ => none
end
section
variable {S : Sx} {w : Om} {H : Hp}
theorem Shr.dp {n : Nat} {v : V} {d : D} (h : Shr S w H n v d) : ∀ p, d.py = some p → Dp S.K H v p := by
  refine Shr.rec (motive_1 := fun v d _ => ∀ p, d.py = some p → Dp S.K H v p) (motive_2 := fun vs ds _ => ∀ ps, D.pyL ds = some ps → DpAll S.K H vs ps) (motive_3 := fun _ _ _ => True) (motive_4 := fun _ _ _ => True)
    ?_ ?_ ?_ ?_ ?_ ?_ ?_ ?_ ?_ ?_ trivial (fun _ _ _ _ => trivial) (fun _ _ _ _ => trivial) trivial (fun _ _ _ _ => trivial) h
  · intro p e; cases e; exact .non
  · intro b p e; cases e; exact .bl b
  · intro b p e; cases e; exact .int b
  · intro b p e; cases e; exact .str b
  · intro a xs ds h1 h2 ih p e
    simp only [D.py, Option.map_eq_some_iff] at e
    obtain ⟨ps, e1, e2⟩ := e
    subst e2
    exact .lst (SqL.of h1.2) (ih ps e1)
  · intro a xs ds h1 h2 ih p e
    simp only [D.py, Option.map_eq_some_iff] at e
    obtain ⟨ps, e1, e2⟩ := e
    subst e2
    exact .tup h1.sq (ih ps e1)
  · intro a kvs ds _ _ _ _ p e; cases e
  · intro a C dx c fs ds _ _ _ _ _ p e; cases e
  · intro ps e
    simp only [D.pyL] at e
    cases e
    exact .nil
  · intro v vs d ds _ _ i1 i2 ps e
    simp only [D.pyL] at e
    split at e
    · rename_i p ps e1 e2
      cases e
      exact .cons (i1 _ e1) (i2 _ e2)
    · cases e
mutual
theorem Rep.dp : ∀ {m : Md} {v : V} {d : D} {fp : List Addr}, Rep S w H m v d fp → ∀ p, d.py = some p → Dp S.K H v p
  | _, _, _, _, .sh h, p, e => h.dp p e
  | _, v, d, _, .sc h, p, e => (Rep.fz (m := .sh 0) (n := 0) (S := S) (w := w) (H := H) (.sc h) (Nat.le_refl _) (fun a ha => by simp at ha)).dp p e
  | _, _, _, _, .own (ds := ds) h1 h2, p, e => by
    simp only [D.py, Option.map_eq_some_iff] at e
    obtain ⟨ps, e1, e2⟩ := e
    subst e2
    exact .lst (SqL.of h1) (RepL.dp h2 ps e1)
theorem RepL.dp : ∀ {m : Md} {vs : List V} {ds : List D} {fp : List Addr}, RepL S w H m vs ds fp → ∀ ps, D.pyL ds = some ps → DpAll S.K H vs ps
  | _, _, _, _, .nil, ps, e => by
    simp only [D.pyL] at e
    cases e
    exact .nil
  | _, _, _, _, .cons h t, ps, e => by
    simp only [D.pyL] at e
    split at e
    · rename_i p ps e1 e2
      cases e
      exact .cons (Rep.dp h _ e1) (RepL.dp t _ e2)
    · cases e
end
end
/-- two texts are compared as they are -/
def strEq : D → D → Option Bool
  | .str x, .str y => some (decide (x = y))
  | _, _ => none
theorem strEq_some {a b : D} {k : Bool} (h : strEq a b = some k) : ∃ x y, a = .str x ∧ b = .str y ∧ k = decide (x = y) := by
  unfold strEq at h
  split at h
  · exact ⟨_, _, rfl, rfl, (Option.some.inj h).symm⟩
  · cases h
def opEqN (neg : Bool) (a b : D) : Option D := match strEq a b with
  | some k => some (.bl (if neg then !k else k))
  | none => match a.py, b.py with
    | some p, some q => if SeqAt.shaped p && SeqAt.shaped q then some (.bl (if neg then !PyData.eqv p q else PyData.eqv p q)) else none
    | _, _ => none
abbrev opEq := opEqN false
abbrev opNe := opEqN true
def rEqA (K : PySem.W.Frag) : R2 := fun x y H Q => rEq x y H Q ∨ rEqD K x y H Q
def rNeA (K : PySem.W.Frag) : R2 := fun x y H Q => rNe x y H Q ∨ rNeD K x y H Q
theorem op_eqA {X : Cx} (hu : X.A.units + 64 < cLine) : OpR X (compareOp .Eq) (rEqA X.K) := op_eq.or (op_eqD hu)
theorem op_neA {X : Cx} (hu : X.A.units + 64 < cLine) : OpR X (compareOp .NotEq) (rNeA X.K) := op_ne.or (op_neD hu)
section
variable {X : Cx} {S : Sx} {m1 m2 m3 : Md}
theorem ro_eq (hK : S.K = X.K) : RO S m1 m2 m3 (rEqA X.K) opEq := by
  intro w H x y d1 d2 d3 f1 f2 Q dm R1 R2 e q
  unfold opEq opEqN at e
  split at e
  · rename_i k hk
    cases e
    obtain ⟨a, b, rfl, rfl, rfl⟩ := strEq_some hk
    obtain ⟨rfl, _⟩ := R1.str
    obtain ⟨rfl, _⟩ := R2.str
    refine .inl ⟨rfl, ?_⟩
    have := q (.bl (decide (a = b))) w H (Grow.refl dm) (val_sc rfl)
    rw [show decide (V.str a = V.str b) = decide (a = b) by by_cases h : a = b <;> simp [h]]
    exact this
  · split at e
    · rename_i p p' e1 e2
      split at e
      · rename_i hs
        cases e
        simp only [Bool.and_eq_true] at hs
        exact .inr ⟨p, p', hK ▸ R1.dp p e1, hK ▸ R2.dp p' e2, hs.1, hs.2, q _ w H (Grow.refl dm) (val_sc rfl)⟩
      · cases e
    · cases e
theorem ro_ne (hK : S.K = X.K) : RO S m1 m2 m3 (rNeA X.K) opNe := by
  intro w H x y d1 d2 d3 f1 f2 Q dm R1 R2 e q
  unfold opNe opEqN at e
  split at e
  · rename_i k hk
    cases e
    obtain ⟨a, b, rfl, rfl, rfl⟩ := strEq_some hk
    obtain ⟨rfl, _⟩ := R1.str
    obtain ⟨rfl, _⟩ := R2.str
    refine .inl ⟨rfl, ?_⟩
    have := q (.bl (!decide (a = b))) w H (Grow.refl dm) (val_sc rfl)
    rw [show decide (V.str a = V.str b) = decide (a = b) by by_cases h : a = b <;> simp [h]]
    exact this
  · split at e
    · rename_i p p' e1 e2
      split at e
      · rename_i hs
        cases e
        simp only [Bool.and_eq_true] at hs
        exact .inr ⟨p, p', hK ▸ R1.dp p e1, hK ▸ R2.dp p' e2, hs.1, hs.2, q _ w H (Grow.refl dm) (val_sc rfl)⟩
      · cases e
    · cases e
end
end G

/-! Fw4 -/
/-! tests, arguments, displays, items, locks -/
namespace G
open PySem L2

/-! ### and, or, not, if else -/
def mAnd (fa fb : ME) : ME := fun e => (fa e).bind fun d e1 => match d with
  | .bl true => fb e1
  | .bl false => .ok (.bl false) e1
  | _ => .no
def mOr (fa fb : ME) : ME := fun e => (fa e).bind fun d e1 => match d with
  | .bl true => .ok (.bl true) e1
  | .bl false => fb e1
  | _ => .no
def mNot (fa : ME) : ME := fun e => (fa e).bind fun d e1 => match d with
  | .bl b => .ok (.bl !b) e1
  | _ => .no
def tAndP (fa fb : MT) : MT := fun e => (fa e).bind fun d e1 => if d = true then fb e1 else .ok false e1
def tOrP (fa fb : MT) : MT := fun e => (fa e).bind fun d e1 => if d = true then .ok true e1 else fb e1
def tNotP (fa : MT) : MT := fun e => (fa e).bind fun d e1 => .ok (!d) e1
def mIf (c : MT) (fa fb : ME) : ME := fun e => (c e).bind fun b e1 => if b = true then fa e1 else fb e1
section
variable {X : Cx} {S : Sx} {g g1 g2 : Ctx} {m1 m2 m3 : Md} {a b c : Expr} {rest : List Expr} {fa fb : ME} {ca cb : MT} {pos : Pos} {op : BoolOp}
theorem se_one (h : SE X S g g1 m1 a fa) : SE X S g g1 m1 (.BoolOp op [a] pos) fa := ⟨fun ok => by
  obtain ⟨⟨ta, p1, p2⟩, o1, l1⟩ := h.run ok
  exact ⟨⟨_, pe_one p1, p2⟩, o1, l1⟩⟩
theorem se_and (ha : SE X S g g1 m1 a fa) (hb : SE X S g1 g1 m2 (.BoolOp .And (b :: rest) pos) fb) : SE X S g g1 m2 (.BoolOp .And (a :: b :: rest) pos) (mAnd fa fb) := ⟨fun ok => by
  obtain ⟨⟨ta, p1, p2⟩, o1, l1⟩ := ha.run ok
  obtain ⟨⟨tb, p3, p4⟩, o2, l2⟩ := hb.run o1
  refine ⟨⟨_, pe_and p1 p3, fun w σ H env Q R q => ?_⟩, o1, l2⟩
  have q := Out.bind q
  refine p2 w σ H env _ R (Out.mono q (Ext.refl _ _) fun d e q1 v w1 H1 x1 R1 V1 => ?_)
  cases d with
  | bl k =>
    obtain ⟨fp, z, _⟩ := V1
    obtain ⟨rfl, _⟩ := z.bl
    refine ⟨k, rfl, ?_⟩
    cases k with
    | true => exact p4 w1 σ H1 e Q R1 (Out.mono q1 x1 fun d e q2 v w2 H2 x2 R2 V2 => q2 v w2 H2 (x1.trans x2) R2 V2)
    | false => exact q1 _ w1 H1 x1 R1 (val_sc rfl)
  | _ => exact q1.elim⟩
theorem se_or (ha : SE X S g g1 m1 a fa) (hb : SE X S g1 g1 m2 (.BoolOp .Or (b :: rest) pos) fb) : SE X S g g1 m2 (.BoolOp .Or (a :: b :: rest) pos) (mOr fa fb) := ⟨fun ok => by
  obtain ⟨⟨ta, p1, p2⟩, o1, l1⟩ := ha.run ok
  obtain ⟨⟨tb, p3, p4⟩, o2, l2⟩ := hb.run o1
  refine ⟨⟨_, pe_or p1 p3, fun w σ H env Q R q => ?_⟩, o1, l2⟩
  have q := Out.bind q
  refine p2 w σ H env _ R (Out.mono q (Ext.refl _ _) fun d e q1 v w1 H1 x1 R1 V1 => ?_)
  cases d with
  | bl k =>
    obtain ⟨fp, z, _⟩ := V1
    obtain ⟨rfl, _⟩ := z.bl
    refine ⟨k, rfl, ?_⟩
    cases k with
    | false => exact p4 w1 σ H1 e Q R1 (Out.mono q1 x1 fun d e q2 v w2 H2 x2 R2 V2 => q2 v w2 H2 (x1.trans x2) R2 V2)
    | true => exact q1 _ w1 H1 x1 R1 (val_sc rfl)
  | _ => exact q1.elim⟩
theorem se_not (ha : SE X S g g1 m1 a fa) : SE X S g g1 (.sh 0) (.UnaryOp .Not a pos) (mNot fa) := ⟨fun ok => by
  obtain ⟨⟨ta, p1, p2⟩, o1, l1⟩ := ha.run ok
  refine ⟨⟨_, pe_not p1, fun w σ H env Q R q => ?_⟩, o1, Nat.zero_le _⟩
  have q := Out.bind q
  refine p2 w σ H env _ R (Out.mono q (Ext.refl _ _) fun d e q1 v w1 H1 x1 R1 V1 => ?_)
  cases d with
  | bl k =>
    obtain ⟨fp, z, _⟩ := V1
    obtain ⟨rfl, _⟩ := z.bl
    exact ⟨k, rfl, q1 _ w1 H1 x1 R1 (val_sc rfl)⟩
  | _ => exact q1.elim⟩
theorem sw_and1 (ha : ST X S g g1 a ca) : SW X S g g1 (.BoolOp .And [a] pos) ca := ⟨fun ok => by
  obtain ⟨⟨ta, p1, p2⟩, o1⟩ := ha.run ok
  exact ⟨⟨_, pw_and1 p1, p2⟩, o1⟩⟩
theorem sw_or1 (ha : ST X S g g1 a ca) : SW X S g g1 (.BoolOp .Or [a] pos) ca := ⟨fun ok => by
  obtain ⟨⟨ta, p1, p2⟩, o1⟩ := ha.run ok
  exact ⟨⟨_, pw_or1 p1, p2⟩, o1⟩⟩
theorem sw_and (ha : ST X S g g1 a ca) (hb : SW X S g1 g1 (.BoolOp .And (b :: rest) pos) cb) : SW X S g g1 (.BoolOp .And (a :: b :: rest) pos) (tAndP ca cb) := ⟨fun ok => by
  obtain ⟨⟨ta, p1, p2⟩, o1⟩ := ha.run ok
  obtain ⟨⟨tb, p3, p4⟩, o2⟩ := hb.run o1
  refine ⟨⟨_, pw_and p1 p3, fun w σ H env Q R q => ?_⟩, o1⟩
  have q := Out.bind q
  refine p2 w σ H env _ R (Out.mono q (Ext.refl _ _) fun k e q1 w1 H1 x1 R1 => ?_)
  cases k with
  | true =>
    rw [if_pos rfl] at q1 ⊢
    exact p4 w1 σ H1 e Q R1 (Out.mono q1 x1 fun d e q2 w2 H2 x2 R2 => q2 w2 H2 (x1.trans x2) R2)
  | false =>
    rw [if_neg Bool.false_ne_true] at q1 ⊢
    exact q1 w1 H1 x1 R1⟩
theorem sw_or (ha : ST X S g g1 a ca) (hb : SW X S g1 g1 (.BoolOp .Or (b :: rest) pos) cb) : SW X S g g1 (.BoolOp .Or (a :: b :: rest) pos) (tOrP ca cb) := ⟨fun ok => by
  obtain ⟨⟨ta, p1, p2⟩, o1⟩ := ha.run ok
  obtain ⟨⟨tb, p3, p4⟩, o2⟩ := hb.run o1
  refine ⟨⟨_, pw_or p1 p3, fun w σ H env Q R q => ?_⟩, o1⟩
  have q := Out.bind q
  refine p2 w σ H env _ R (Out.mono q (Ext.refl _ _) fun k e q1 w1 H1 x1 R1 => ?_)
  cases k with
  | false =>
    rw [if_neg Bool.false_ne_true] at q1 ⊢
    exact p4 w1 σ H1 e Q R1 (Out.mono q1 x1 fun d e q2 w2 H2 x2 R2 => q2 w2 H2 (x1.trans x2) R2)
  | true =>
    rw [if_pos rfl] at q1 ⊢
    exact q1 w1 H1 x1 R1⟩
theorem st_w (h : SW X S g g1 a ca) : ST X S g g1 a ca := ⟨fun ok => by
  obtain ⟨⟨ta, p1, p2⟩, o1⟩ := h.run ok
  exact ⟨⟨_, p1.pt, p2⟩, o1⟩⟩
theorem st_not (ha : ST X S g g1 a ca) : ST X S g g1 (.UnaryOp .Not a pos) (tNotP ca) := ⟨fun ok => by
  obtain ⟨⟨ta, p1, p2⟩, o1⟩ := ha.run ok
  refine ⟨⟨_, pt_not p1, fun w σ H env Q R q => ?_⟩, o1⟩
  have q := Out.bind q
  exact p2 w σ H env _ R (Out.mono q (Ext.refl _ _) fun k e q1 w1 H1 x1 R1 => q1 w1 H1 x1 R1)⟩
theorem se_if (hc : ST X S g g1 c ca) (ha : SE X S g1 g2 m1 a fa) (hb : SE X S g1 g2 m1 b fb) : SE X S g g2 m1 (.IfExp c a b pos) (mIf ca fa fb) := ⟨fun ok => by
  obtain ⟨⟨ta, p1, p2⟩, o1⟩ := hc.run ok
  obtain ⟨⟨tb, p3, p4⟩, o2, l2⟩ := ha.run o1
  obtain ⟨⟨tc, p5, p6⟩, _, _⟩ := hb.run o1
  refine ⟨⟨_, pe_ifExp p1 p3 p5, fun w σ H env Q R q => ?_⟩, o2, l2⟩
  have q := Out.bind q
  refine p2 w σ H env _ R (Out.mono q (Ext.refl _ _) fun k e q1 w1 H1 x1 R1 => ?_)
  cases k with
  | true =>
    rw [if_pos rfl] at q1 ⊢
    exact p4 w1 σ H1 e Q R1 (Out.mono q1 x1 fun d e q2 v w2 H2 x2 R2 V2 => q2 v w2 H2 (x1.trans x2) R2 V2)
  | false =>
    rw [if_neg Bool.false_ne_true] at q1 ⊢
    exact p6 w1 σ H1 e Q R1 (Out.mono q1 x1 fun d e q2 v w2 H2 x2 R2 V2 => q2 v w2 H2 (x1.trans x2) R2 V2)⟩
end

/-! ### chains -/
def mChain (h h' : D → D → Option D) (fa fb fc : ME) : ME := fun e => (fa e).bind fun d1 e1 => (fb e1).bind fun d2 e2 => match h d1 d2 with
  | some (.bl true) => (fc e2).bind fun d3 e3 => match h' d2 d3 with
    | some d => .ok d e3
    | none => .no
  | some (.bl false) => .ok (.bl false) e2
  | _ => .no
section
variable {X : Cx} {S : Sx} {g g1 g2 : Ctx} {m1 m2 m3 m4 : Md} {a b c : Expr} {fa fb fc : ME} {pos : Pos}
theorem re_chain {ta tb tc : TE} {r r' : R2} {h h' : D → D → Option D} (o1 : m1.lev ≤ S.n) (o2 : m2.lev ≤ S.n) (ha : RE S g g1 m1 ta fa) (hb : RE S g1 g2 m2 tb fb) (hc : RE S g2 g2 m3 tc fc)
    (hr : RO S m1 m2 m4 r h) (hr' : RO S m2 m3 m4 r' h') : RE S g g2 m4 (tChain r r' ta tb tc) (mChain h h' fa fb fc) := by
  intro w σ H env Q R q
  have q := Out.bind q
  refine ha w σ H env _ R (Out.mono q (Ext.refl _ _) fun d1 e1 q1 v1 w1 H1 x1 R1 V1 => ?_)
  obtain ⟨fp, n1, n2, n3⟩ := V1.keep o1
  obtain ⟨R1', x1'⟩ := R1.relab (x := .lvl (S.n + 1)) n2
  have q2 := Out.bind q1
  refine hb _ σ H1 e1 _ R1' (Out.mono q2 (x1.trans x1') fun d2 e2 q3 v2 w2 H2 x2 R2 V2 => ?_)
  obtain ⟨k1, k2⟩ := n3 w2 H2 x2
  have V2' := V2
  obtain ⟨f2, k3, k4, k5⟩ := V2
  cases e : h d1 d2 with
  | none =>
    rw [e] at q3
    exact q3.elim
  | some d3 =>
    rw [e] at q3
    refine hr w2 H2 v1 v2 d1 d2 d3 fp f2 _ R2.dom k1 k3 e fun v w' H' gr V3 => ?_
    cases d3 with
    | bl k =>
      obtain ⟨f3, z, _⟩ := V3
      obtain ⟨rfl, _⟩ := z.bl
      refine ⟨k, rfl, ?_⟩
      have R3 := R2.grow gr
      have x3 : Ext w H w' H' := (x1.trans x1').trans (x2.trans (gr.ext R2.dom))
      cases k with
      | false =>
        rw [if_neg Bool.false_ne_true]
        exact q3 _ w' H' x3 R3 (val_sc rfl)
      | true =>
        rw [if_pos rfl]
        have V3' : Val S m2 w' H' v2 d2 := ⟨f2, k3.to rfl rfl (Md.le_refl _) (gr.ext R2.dom).keep (fun a ha => by
          obtain ⟨o, q⟩ := k3.at a ha
          rw [(gr.same a o q).1, q]), k4, fun a ha => by
          obtain ⟨o, q⟩ := k3.at a ha
          rw [(gr.same a o q).2]
          exact k5 a ha⟩
        obtain ⟨fq, n4, n5, n6⟩ := V3'.keep o2
        obtain ⟨R4, x4⟩ := R3.relab (x := .lvl (S.n + 1)) n5
        have q4 := Out.bind q3
        refine hc _ σ H' e2 _ R4 (Out.mono q4 (x3.trans x4) fun d5 e5 q5 v5 w5 H5 x5 R5 V5 => ?_)
        obtain ⟨k6, k7⟩ := n6 w5 H5 x5
        obtain ⟨f5, k8, _⟩ := V5
        cases e' : h' d2 d5 with
        | none =>
          rw [e'] at q5
          exact q5.elim
        | some d6 =>
          rw [e'] at q5
          exact hr' w5 H5 v2 v5 d2 d5 d6 fq f5 _ R5.dom k6 k8 e' fun v w6 H6 gr6 V6 => q5 v w6 H6 ((x3.trans x4).trans (x5.trans (gr6.ext R5.dom))) (R5.grow gr6) V6
    | _ => exact q3.elim
theorem se_chain {op op' : CmpOp} {r r' : R2} {h h' : D → D → Option D} (ho : OpR X (compareOp op) r) (ho' : OpR X (compareOp op') r') (hr : RO S m1 m2 (.sh 0) r h) (hr' : RO S m2 m3 (.sh 0) r' h')
    (ha : SE X S g g1 m1 a fa) (hb : SE X S g1 g2 m2 b fb) (hc : SE X S g2 g2 m3 c fc) (hm : lastMarks [op, op'] [b, c] = false := by with_unfolding_all rfl) : SE X S g g2 (.sh 0) (.Compare a [op, op'] [b, c] pos) (mChain h h' fa fb fc) := ⟨fun ok => by
  obtain ⟨⟨ta, p1, p2⟩, o1, l1⟩ := ha.run ok
  obtain ⟨⟨tb, p3, p4⟩, o2, l2⟩ := hb.run o1
  obtain ⟨⟨tc, p5, p6⟩, _, _⟩ := hc.run o2
  exact ⟨⟨_, pe_chain ho ho' p1 p3 p5 hm, re_chain l1 l2 p2 p4 p6 hr hr'⟩, o2, Nat.zero_le _⟩⟩
theorem st_chain {op op' : CmpOp} {r r' : R2} {h h' : D → D → Option D} (ho : OpR X (compareOp op) r) (ho' : OpR X (compareOp op') r') (hr : RO S m1 m2 (.sh 0) r h) (hr' : RO S m2 m3 (.sh 0) r' h')
    (ha : SE X S g g1 m1 a fa) (hb : SE X S g1 g2 m2 b fb) (hc : SE X S g2 g2 m3 c fc) (hm : lastMarks [op, op'] [b, c] = false := by with_unfolding_all rfl) : ST X S g g2 (.Compare a [op, op'] [b, c] pos) (mTest (mChain h h' fa fb fc)) := ⟨fun ok => by
  obtain ⟨⟨ta, p1, p2⟩, o1, l1⟩ := ha.run ok
  obtain ⟨⟨tb, p3, p4⟩, o2, l2⟩ := hb.run o1
  obtain ⟨⟨tc, p5, p6⟩, _, _⟩ := hc.run o2
  exact ⟨⟨_, pt_chain ho ho' p1 p3 p5 hm, rt_test (re_chain l1 l2 p2 p4 p6 hr hr')⟩, o2⟩⟩
end

/-! ### several expressions in a row -/
def aNil : MA := fun e => .ok [] e
def aCons (fa : ME) (fr : MA) : MA := fun e => (fa e).bind fun d e1 => (fr e1).bind fun ds e2 => .ok (d :: ds) e2
theorem RepA.to {S : Sx} {w w' : Om} {H H' : Hp} {n : Nat} : ∀ {ms : List Md} {vs : List V} {ds : List D} {fp : List Addr}, RepA S w H ms vs ds fp → (∀ m ∈ ms, m.lev ≤ n) → Keep n w H w' H' → (∀ a ∈ fp, H' a = H a) → RepA S w' H' ms vs ds fp
  | _, _, _, _, .nil, _, _, _ => .nil
  | _, _, _, _, .cons (m := m) h t, hm, e, k => .cons (h.to rfl rfl (Md.le_refl m) (fun a j hj q => e a j (Nat.le_trans hj (hm m List.mem_cons_self)) q) fun a ha => k a (List.mem_append_left _ ha)) (RepA.to t (fun m' h' => hm m' (List.mem_cons_of_mem _ h')) e fun a ha => k a (List.mem_append_right _ ha))
theorem RepA.at {S : Sx} {w : Om} {H : Hp} : ∀ {ms : List Md} {vs : List V} {ds : List D} {fp : List Addr}, RepA S w H ms vs ds fp → ∀ a ∈ fp, ∃ o, H a = some o
  | _, _, _, _, .nil, _, h => by simp at h
  | _, _, _, _, .cons h t, a, ha => by
    rcases List.mem_append.mp ha with ha | ha
    · exact h.at a ha
    · exact RepA.at t a ha
section
variable {X : Cx} {S : Sx} {g g1 g2 : Ctx} {m1 : Md} {ms : List Md} {a : Expr} {es : List Expr} {fa : ME} {fr : MA} {pos : Pos}
theorem sa_nil : SA X S g g [] [] aNil := ⟨fun ok => ⟨⟨_, pa_nil, fun w σ H env Q R q => q [] w H (Ext.refl _ _) R ⟨[], .nil, List.nodup_nil, fun a ha => by simp at ha⟩⟩, ok, fun m hm => by simp at hm⟩⟩
theorem sa_cons (ha : SE X S g g1 m1 a fa) (hr : SA X S g1 g2 ms es fr) (hs : starEach (a :: es) X.env = (false, eval a X.env) :: starEach es X.env := by rfl) : SA X S g g2 (m1 :: ms) (a :: es) (aCons fa fr) := ⟨fun ok => by
  obtain ⟨⟨ta, p1, p2⟩, o1, l1⟩ := ha.run ok
  obtain ⟨⟨tr, p3, p4⟩, o2, l2⟩ := hr.run o1
  refine ⟨⟨_, pa_cons p1 p3 hs, fun w σ H env Q R q => ?_⟩, o2, fun m hm => ?_⟩
  · have q := Out.bind q
    refine p2 w σ H env _ R (Out.mono q (Ext.refl _ _) fun d1 e1 q1 v1 w1 H1 x1 R1 V1 => ?_)
    obtain ⟨fp, n1, n2, n3⟩ := V1.keep l1
    obtain ⟨R1', x1'⟩ := R1.relab (x := .lvl (S.n + 1)) n2
    have q2 := Out.bind q1
    refine p4 _ σ H1 e1 _ R1' (Out.mono q2 (x1.trans x1') fun ds e2 q3 vs w2 H2 x2 R2 V2 => ?_)
    obtain ⟨k1, k2⟩ := n3 w2 H2 x2
    obtain ⟨f2, k3, k4, k5⟩ := V2
    obtain ⟨R3, x3⟩ := R2.rehand o2 k2
    have ap : ∀ a ∈ f2, a ∉ fp := fun a ha hb => by
      have := k5 a ha
      rw [k2 a hb] at this
      cases this
    have x4 : Ext w H (lab fp .hand w2) H2 := fun a k e => by
      obtain ⟨y1, y2⟩ := (x1.trans x1') a k e
      obtain ⟨y3, y4⟩ := x2 a k y1
      refine ⟨?_, y4.trans y2⟩
      rw [lab_out]
      · exact y3
      · intro hf
        have := (x1 a k e).1
        rw [n2 a hf] at this
        cases this
    refine q3 (v1 :: vs) _ H2 x4 R3 ⟨fp ++ f2, .cons (k1.to rfl rfl (Md.le_refl _) (fun a k hk e => x3 a k (Nat.le_trans hk l1) e) (fun _ _ => rfl)) (k3.to l2 x3 fun _ _ => rfl), ?_, fun a ha => ?_⟩
    · rw [List.nodup_append]
      exact ⟨n1, k4, fun a ha b hb e => ap b hb (e ▸ ha)⟩
    · rcases List.mem_append.mp ha with h | h
      · exact lab_in h
      · rw [lab_out (ap a h)]
        exact k5 a h
  · rcases List.mem_cons.mp hm with e | hm
    · rw [e]; exact l1
    · exact l2 m hm⟩
end

/-! ### ways to hold a value -/
section
variable {X : Cx} {S : Sx} {g g1 g2 : Ctx} {m1 m2 : Md} {a : Expr} {fa : ME}
/-- what was owned is shared from now on -/
theorem Val.fz {w : Om} {H : Hp} {v : V} {d : D} {σ : St} {env : Env} {n : Nat} (h : Val S m1 w H v d) (hl : m1.lev ≤ n) (R : Rel S g w σ H env) : ∃ w', Ext w H w' H ∧ Rel S g w' σ H env ∧ Val S (.sh n) w' H v d := by
  obtain ⟨fp, h1, h2, h3⟩ := h
  obtain ⟨R', x⟩ := R.relab (x := .lvl 0) h3
  refine ⟨_, x, R', val_sh (Rep.fz (h1.to rfl rfl (Md.le_refl _) x.keep fun _ _ => rfl) hl fun a ha => ⟨0, Nat.zero_le _, lab_in ha⟩)⟩
theorem se_fz {n : Nat} (h : SE X S g g1 m1 a fa) (hl : (m1.lev ≤ n ∧ n ≤ S.n) := by exact ⟨Nat.le_of_ble_eq_true rfl, Nat.le_of_ble_eq_true rfl⟩) : SE X S g g1 (.sh n) a fa := ⟨fun ok => by
  obtain ⟨⟨ta, p1, p2⟩, o1, l1⟩ := h.run ok
  refine ⟨⟨_, p1, fun w σ H env Q R q => p2 w σ H env Q R (Out.mono q (Ext.refl _ _) fun d e q1 v w1 H1 x1 R1 V1 => ?_)⟩, o1, hl.2⟩
  obtain ⟨w2, x2, R2, V2⟩ := V1.fz hl.1 R1
  exact q1 v w2 H1 (x1.trans x2) R2 V2⟩
/-- a value that is no object is held in any way -/
def D.isSc : D → Bool
  | .non => true | .bl _ => true | .int _ => true | .str _ => true
  | _ => false
theorem Rep.scal {w : Om} {H : Hp} {m : Md} {v : V} {d : D} {fp : List Addr} (h : Rep S w H m v d fp) (hd : d.isSc = true) : G.isSc v d := by
  cases d with
  | non => obtain ⟨rfl, _⟩ := h.non; trivial
  | bl b => obtain ⟨rfl, _⟩ := h.bl; rfl
  | int b => obtain ⟨rfl, _⟩ := h.int; rfl
  | str b => obtain ⟨rfl, _⟩ := h.str; rfl
  | _ => cases hd
def mSc (f : ME) : ME := fun e => (f e).bind fun d e1 => if d.isSc = true then .ok d e1 else .no
theorem se_sc (h : SE X S g g1 m1 a fa) (hl : m2.lev ≤ S.n := by exact Nat.le_of_ble_eq_true rfl) : SE X S g g1 m2 a (mSc fa) := ⟨fun ok => by
  obtain ⟨⟨ta, p1, p2⟩, o1, l1⟩ := h.run ok
  refine ⟨⟨_, p1, fun w σ H env Q R q => ?_⟩, o1, hl⟩
  have q := Out.bind q
  refine p2 w σ H env Q R (Out.mono q (Ext.refl _ _) fun d e q1 v w1 H1 x1 R1 V1 => ?_)
  split at q1
  · rename_i hd
    obtain ⟨fp, z, _⟩ := V1
    exact q1 v w1 H1 x1 R1 (val_sc (z.scal hd))
  · exact q1.elim⟩
theorem Rep.le {w : Om} {H : Hp} {m m' : Md} {v : V} {d : D} {fp : List Addr} (h : Rep S w H m v d fp) (hm : m.le m' = true) : Rep S w H m' v d fp := h.to rfl rfl hm (fun _ _ _ e => ⟨e, rfl⟩) fun _ _ => rfl
/-- a weaker way -/
theorem se_le (m2 : Md) (h : SE X S g g1 m1 a fa) (hm : m1.le m2 = true := by rfl) (hl : m2.lev ≤ S.n := by exact Nat.le_of_ble_eq_true rfl) : SE X S g g1 m2 a fa := ⟨fun ok => by
  obtain ⟨⟨ta, p1, p2⟩, o1, l1⟩ := h.run ok
  refine ⟨⟨_, p1, fun w σ H env Q R q => p2 w σ H env Q R (Out.mono q (Ext.refl _ _) fun d e q1 v w1 H1 x1 R1 ⟨fp, z1, z2, z3⟩ => q1 v w1 H1 x1 R1 ⟨fp, z1.le hm, z2, z3⟩)⟩, o1, hl⟩⟩
end

/-! ### displays -/
def mLst (f : MA) : ME := fun e => (f e).bind fun ds e1 => if ds.length ≤ 100000 then .ok (.lst ds) e1 else .no
def mTup (f : MA) : ME := fun e => (f e).bind fun ds e1 => if ds.length ≤ 100000 then .ok (.tup ds) e1 else .no
theorem RepA.repL {S : Sx} {w : Om} {H : Hp} {m : Md} : ∀ {ms : List Md} {vs : List V} {ds : List D} {fp : List Addr}, RepA S w H ms vs ds fp → (ms.all (·.le m)) = true → RepL S w H m vs ds fp
  | _, _, _, _, .nil, _ => .nil
  | _, _, _, _, .cons h t, hm => by
    rw [List.all_cons, Bool.and_eq_true] at hm
    exact .cons (h.le hm.1) (RepA.repL t hm.2)
section
variable {X : Cx} {S : Sx} {g g1 : Ctx} {ms : List Md} {es : List Expr} {f : MA} {pos : Pos}
/-- [..], its items held in the way m -/
theorem se_lst (m : Md) (h : SA X S g g1 ms es f) (hm : (ms.all (·.le m)) = true := by rfl) (hl : m.lev ≤ S.n := by exact Nat.le_of_ble_eq_true rfl) : SE X S g g1 (.own m) (.List es pos) (mLst f) := ⟨fun ok => by
  obtain ⟨⟨ta, p1, p2⟩, o1, l1⟩ := h.run ok
  refine ⟨⟨_, pe_lst p1, fun w σ H env Q R q => ?_⟩, o1, hl⟩
  have q := Out.bind q
  refine p2 w σ H env _ R (Out.mono q (Ext.refl _ _) fun ds e q1 vs w1 H1 x1 R1 V1 => ?_)
  obtain ⟨fp, z1, z2, z3⟩ := V1
  split at q1
  · rename_i hz
    have L := z1.repL hm
    refine ⟨by rw [L.length]; exact Evl.sz_of hz, fun p hp => ?_⟩
    have gr := Grow.one (o := HO.lst vs) (x := .hand) R1.dom hp
    have np : ∀ a ∈ fp, a ≠ p := fun a ha => by
      obtain ⟨o, k⟩ := z1.at a ha
      exact ne_of_none k hp
    refine q1 _ _ _ (x1.trans (gr.ext R1.dom)) (R1.grow gr) ⟨p :: fp, .own upd_same (L.to rfl rfl (Md.le_refl _) (gr.ext R1.dom).keep fun a ha => upd_ne (np a ha)), List.nodup_cons.mpr ⟨fun hm => np p hm rfl, z2⟩, fun a ha => ?_⟩
    rcases List.mem_cons.mp ha with e | ha
    · rw [e]; exact lab_in (by simp)
    · rw [lab_out (by simpa using np a ha)]
      exact z3 a ha
  · exact q1.elim⟩
/-- (..), its items shared -/
theorem se_tup (n : Nat) {k : Nat} (h : SA X S g g1 ms es f) (hm : (ms.all (·.le (.sh n))) = true := by rfl) (hl : n ≤ S.n := by exact Nat.le_of_ble_eq_true rfl) : SE X S g g1 (.sh n) (.Tuple es k pos) (mTup f) := ⟨fun ok => by
  obtain ⟨⟨ta, p1, p2⟩, o1, l1⟩ := h.run ok
  refine ⟨⟨_, pe_tup p1, fun w σ H env Q R q => ?_⟩, o1, hl⟩
  have q := Out.bind q
  refine p2 w σ H env _ R (Out.mono q (Ext.refl _ _) fun ds e q1 vs w1 H1 x1 R1 V1 => ?_)
  obtain ⟨fp, z1, z2, z3⟩ := V1
  split at q1
  · rename_i hz
    obtain ⟨_, L⟩ := RepL.unsh (z1.repL hm)
    refine ⟨by rw [L.length]; exact Evl.sz_of hz, fun p hp => ?_⟩
    obtain ⟨w', gr, V⟩ := val_tup (Nat.le_refl n) R1.dom hp L
    exact q1 _ _ _ (x1.trans (gr.ext R1.dom)) (R1.grow gr) V
  · exact q1.elim⟩
end

/-! ### items -/
def opIx : D → D → Option D
  | .lst xs, .int i => atI xs i
  | .tup xs, .int i => atI xs i
  | .str z, .int i => if decide (z.length ≤ sizeLine) then (atI z.cps.toList i).map fun c => .str ⟨#[c]⟩ else none
  | _, _ => none
theorem ShrL.at {S : Sx} {w : Om} {H : Hp} {n : Nat} {vs : List V} {ds : List D} {i : Int} {d : D} (h : ShrL S w H n vs ds) (e : atI ds i = some d) : ∃ v, atI vs i = some v ∧ Shr S w H n v d := by
  unfold atI at e ⊢
  rw [h.length]
  cases k : ixN ds.length i with
  | none => rw [k] at e; cases e
  | some j =>
    rw [k] at e
    exact h.getD e
theorem ro_ix {X : Cx} {S : Sx} {m1 m2 : Md} {k : Nat} (hK : S.K = X.K) (hm : m1.flat = some k) : RO S m1 m2 (.sh k) (rIx X.K) opIx := by
  intro w H x y d1 d2 d3 f1 f2 Q dm R1 R2 e q
  unfold opIx at e
  split at e
  · obtain ⟨a, vs, rfl, h1, h2⟩ := R1.flatL hm
    obtain ⟨rfl, _⟩ := R2.int
    obtain ⟨v, h3, h4⟩ := h2.at e
    exact .inl ⟨a, vs, _, v, rfl, rfl, SqL.of h1, h3, q v w H (Grow.refl dm) (val_sh h4)⟩
  · obtain ⟨n, a, vs, e1, rfl, h1, h2, _⟩ := R1.tup
    subst e1
    have : n = k := by simpa [Md.flat] using hm
    subst this
    obtain ⟨rfl, _⟩ := R2.int
    obtain ⟨v, h3, h4⟩ := h2.at e
    exact .inr (.inl ⟨a, vs, _, v, rfl, rfl, hK ▸ h1.sq, h3, q v w H (Grow.refl dm) (val_sh h4)⟩)
  · split at e
    · rename_i hz
      obtain ⟨rfl, _⟩ := R1.str
      obtain ⟨rfl, _⟩ := R2.int
      rw [Option.map_eq_some_iff] at e
      obtain ⟨c, e1, rfl⟩ := e
      exact .inr (.inr ⟨_, _, c, rfl, rfl, of_decide_eq_true hz, e1, q _ w H (Grow.refl dm) (val_sc rfl)⟩)
    · cases e
  · cases e
section
variable {X : Cx} {S : Sx} {g g1 g2 : Ctx} {m1 m2 : Md} {a b : Expr} {fa fb : ME} {pos : Pos} {k : Nat}
theorem se_ix [gd : Gd X S] (ha : SE X S g g1 m1 a fa) (hb : SE X S g1 g2 m2 b fb) (hs : PlainIx b := by exact fun _ _ => rfl) (hm : m1.flat = some k := by rfl) : SE X S g g2 (.sh k) (.Subscript a b pos) (mBin opIx fa fb) :=
  ⟨fun ok => by
    obtain ⟨⟨ta, p1, p2⟩, o1, l1⟩ := ha.run ok
    obtain ⟨⟨tb, p3, p4⟩, o2, l2⟩ := hb.run o1
    refine ⟨⟨_, pe_ix ix_seq p1 p3 hs, re_bin l1 o1 p2 p4 (ro_ix gd.K hm)⟩, o2, Nat.le_trans ?_ l1⟩
    cases m1 with
    | sh n => have : n = k := by simpa [Md.flat] using hm
              rw [this]; exact Nat.le_refl _
    | own m =>
      cases m with
      | sh n => have : n = k := by simpa [Md.flat] using hm
                rw [this]; exact Nat.le_refl _
      | own m => simp [Md.flat] at hm⟩
/-- an item of a name's list that is owned: the name's tree as it stands behind the index -/
def mIxs (i : Nat) (fb : ME) : ME := fun e => (fb e).bind fun d2 e2 => match e2[i]? with
  | some (some d1) => match opIx d1 d2 with
    | some d => .ok d e2
    | none => .no
  | _ => .no
theorem se_ixs [gd : Gd X S] (i : Nat) {x : Str} {p2 : Pos} (hb : SE X S g g1 m2 b fb) (hg : g1[i]? = some (some (.own (.sh k))) := by rfl) (h0 : (∃ m, g[i]? = some (some m)) := by exact ⟨_, rfl⟩) (hN : X.N[i]? = some x := by rfl) (hv : Vis X.env.scope x := by first | exact Or.inl rfl | exact Or.inr (Or.inl rfl) | exact Or.inr (Or.inr rfl))
    (hd : (x == ("__debug__" : Str)) = false := by decide) (hcd : (x == ("__classdict__" : Str)) = false := by decide) (hs : PlainIx b := by exact fun _ _ => rfl) : SE X S g g1 (.sh k) (.Subscript (.Name x p2) b pos) (mIxs i fb) :=
  ⟨fun ok => by
    obtain ⟨⟨tb, p3, p4⟩, o2, l2⟩ := hb.run ok
    refine ⟨⟨_, pe_ix ix_seq (pe_var hN hv hd hcd) p3 hs, fun w σ H env Q R q => ?_⟩, o2, o2 i (.own (.sh k)) hg⟩
    obtain ⟨m, hm⟩ := h0
    obtain ⟨v, d, fp, h1, h2, h3, h4, h5⟩ := R.slot i _ hm
    refine ⟨v, h1, ?_⟩
    have q := Out.bind q
    refine p4 w σ H env _ R (Out.mono q (Ext.refl _ _) fun d2 e2 q1 v2 w2 H2 x2 R2 V2 => ?_)
    obtain ⟨v', d', fp', k1, k2, k3, k4, k5⟩ := R2.slot i _ hg
    rw [h1] at k1
    cases k1
    rw [k2] at q1
    obtain ⟨f2, z, _⟩ := V2
    cases e : opIx d' d2 with
    | none => simp only [e] at q1; exact q1.elim
    | some d3 =>
      simp only [e] at q1
      exact ro_ix gd.K (m1 := .own (.sh k)) rfl w2 H2 v v2 d' d2 d3 fp' f2 _ R2.dom k3 z e fun v w' H' gr V3 => q1 v w' H' (x2.trans (gr.ext R2.dom)) (R2.grow gr) V3⟩
end
end G

/-! Fw5 -/
/-! statements -/
namespace G
open PySem L2

/-! ### knowing less of the slots -/
def wk1 : Option Md → Option Md → Bool
  | _, none => true
  | some m, some (.sh j) => m.lev ≤ j
  | some m, some (.own m') => m.le (.own m')
  | none, some _ => false
def wkL : Ctx → Ctx → Bool
  | _, [] => true
  | a :: r, b :: s => wk1 a b && wkL r s
  | [], b :: s => (b == none) && wkL [] s
theorem wkL_nil : ∀ {s : Ctx} {i : Nat} {m : Md}, wkL [] s = true → s[i]? = some (some m) → False
  | [], _, _, _, e => by simp at e
  | b :: s, 0, m, h, e => by
    simp only [wkL, Bool.and_eq_true, beq_iff_eq] at h
    simp at e
    rw [h.1] at e
    cases e
  | b :: s, i + 1, m, h, e => by
    simp only [wkL, Bool.and_eq_true] at h
    exact wkL_nil h.2 (i := i) (m := m) (by simpa using e)
theorem wkL_get : ∀ {r s : Ctx} {i : Nat} {m : Md}, wkL r s = true → s[i]? = some (some m) → ∃ m0, r[i]? = some (some m0) ∧ wk1 (some m0) (some m) = true
  | _, [], _, _, _, e => by simp at e
  | [], b :: s, i, m, h, e => (wkL_nil h e).elim
  | a :: r, b :: s, 0, m, h, e => by
    simp only [wkL, Bool.and_eq_true] at h
    simp at e
    subst e
    cases a with
    | none => cases m <;> cases h.1
    | some m0 => exact ⟨m0, rfl, h.1⟩
  | a :: r, b :: s, i + 1, m, h, e => by
    simp only [wkL, Bool.and_eq_true] at h
    obtain ⟨m0, h1, h2⟩ := wkL_get (i := i) (m := m) h.2 (by simpa using e)
    exact ⟨m0, by simpa using h1, h2⟩
def wkB (n : Nat) (r s : Ctx) : Bool := wkL r s && decide (s.length ≤ r.length) && s.all fun m => match m with
  | some m => decide (m.lev ≤ n)
  | none => true
section
variable {S : Sx} {g g' : Ctx} {w w' : Om} {σ : St} {H H' : Hp} {env : Env}
theorem wkB_ok {n : Nat} (h : wkB n g g' = true) : OkG n g' := fun i m e => by
  simp only [wkB, Bool.and_eq_true, List.all_eq_true, decide_eq_true_eq] at h
  have := h.2 (some m) (List.mem_of_getElem? e)
  simpa using this
/-- slots that are shared from now on are so labelled -/
def wkO (g' : Ctx) (w : Om) : Om := fun a => match w a with
  | some (.slot i) => match g'[i]? with
    | some (some (.sh _)) => some (.lvl 0)
    | _ => some (.slot i)
  | x => x
theorem Rel.wk {n : Nat} (r : Rel S g w σ H env) (h : wkB n g g' = true) : ∃ w', Ext w H w' H ∧ Rel S g' w' σ H env ∧ ∀ a, w a = some .hand → w' a = some .hand := by
  simp only [wkB, Bool.and_eq_true, decide_eq_true_eq] at h
  obtain ⟨⟨h, hl⟩, _⟩ := h
  have k1 : ∀ a k, w a = some (.lvl k) → wkO g' w a = some (.lvl k) := fun a k e => by unfold wkO; rw [e]
  have ex : Ext w H (wkO g' w) H := fun a k e => ⟨k1 a k e, rfl⟩
  refine ⟨wkO g' w, ex, ⟨fun a y e => ?_, fun i m e => ?_, r.len, Nat.le_trans hl r.gl⟩, fun a e => by unfold wkO; rw [e]⟩
  · unfold wkO at e
    split at e
    · rename_i e'; exact r.dom a _ e'
    · exact r.dom a y e
  · obtain ⟨m0, e0, e1⟩ := wkL_get h e
    obtain ⟨v, d, fp, h1, h2, h3, h4, h5⟩ := r.slot i m0 e0
    have h3' : Rep S (wkO g' w) H m0 v d fp := h3.to rfl rfl (Md.le_refl _) ex.keep fun _ _ => rfl
    cases m with
    | sh j =>
      have e1 : m0.lev ≤ j := by simpa [wk1] using e1
      refine ⟨v, d, [], h1, h2, .sh (h3'.fz e1 fun a ha => ⟨0, Nat.zero_le _, ?_⟩), List.nodup_nil, fun a ha => by simp at ha⟩
      unfold wkO
      rw [h5 a ha]
      simp only [e]
    | own m' =>
      have e1 : m0.le (.own m') = true := by simpa [wk1] using e1
      refine ⟨v, d, fp, h1, h2, h3'.le e1, h4, fun a ha => ?_⟩
      unfold wkO
      rw [h5 a ha]
      simp only [e]
end

/-! ### statements -/
/-- the slots that stay; how what is returned is held; what is told at a return, a break, a continue -/
structure Fx where
  F : List Nat
  rm : Md
  gr : Ctx
  gb : Ctx
  gc : Ctx
theorem nin {i : Nat} {l : List Nat} (h : l.contains i = false) : i ∉ l := fun m => by
  rw [List.contains_iff_mem.mpr m] at h
  cases h
theorem ninAll {l bs : List Nat} (h : (l.all fun i => !bs.contains i) = true) : ∀ i ∈ l, i ∉ bs := fun i hi => nin (by simpa using List.all_eq_true.mp h i hi)
def Fix (F : List Nat) (σ σ' : St) : Prop := ∀ i ∈ F, σ'[i]? = σ[i]?
theorem Fix.refl {F : List Nat} (σ : St) : Fix F σ σ := fun _ _ => rfl
theorem Fix.trans {F : List Nat} {σ σ1 σ2 : St} (a : Fix F σ σ1) (b : Fix F σ1 σ2) : Fix F σ σ2 := fun i hi => (b i hi).trans (a i hi)
def OutS (S : Sx) (T : Fx) (g' : Ctx) (w : Om) (σ : St) (H : Hp) (Dn : Ends) : O → Prop
  | .nx e => ∀ σ' w' H', Fix T.F σ σ' → Ext w H w' H' → Rel S g' w' σ' H' e → Dn.nx σ' H'
  | .rt d e => ∀ v σ' w' H', Fix T.F σ σ' → Ext w H w' H' → Rel S T.gr w' σ' H' e → Val S T.rm w' H' v d → Dn.rt v H'
  | .bk e => ∀ σ' w' H', Fix T.F σ σ' → Ext w H w' H' → Rel S T.gb w' σ' H' e → Dn.bk σ' H'
  | .ct e => ∀ σ' w' H', Fix T.F σ σ' → Ext w H w' H' → Rel S T.gc w' σ' H' e → Dn.ct σ' H'
  | .ex x e => ∀ c dd σ' w' H', Fix T.F σ σ' → Ext w H w' H' → Rel S S.gx w' σ' H' e → XRep S w' H' c dd x → S.E c dd H'
  | .no => False
def RS (S : Sx) (T : Fx) (g g' : Ctx) (t : TS) (f : MS) : Prop :=
  ∀ (w : Om) (σ : St) (H : Hp) (env : Env) (Dn : Ends), Rel S g w σ H env → OutS S T g' w σ H Dn (f env) → t Dn σ H
structure SS (X : Cx) (S : Sx) (T : Fx) (g g' : Ctx) (st : Stmt) (f : MS) : Prop where
  run : OkG S.n g → (∃ t, PS X st t ∧ RS S T g g' t f) ∧ OkG S.n g'
structure SSs (X : Cx) (S : Sx) (T : Fx) (g g' : Ctx) (st : List Stmt) (f : MS) : Prop where
  run : OkG S.n g → (∃ t, PSs X st t ∧ RS S T g g' t f) ∧ OkG S.n g'
/-- other ends, from a later state -/
theorem OutS.to {S : Sx} {T : Fx} {g' g2 : Ctx} {w w1 : Om} {σ σ1 : St} {H H1 : Hp} {Dn Dn1 : Ends} {o : O} (h : OutS S T g' w σ H Dn o) (fx : Fix T.F σ σ1) (x : Ext w H w1 H1)
    (hn : ∀ e, o = .nx e → ∀ σ' w' H', Fix T.F σ1 σ' → Ext w1 H1 w' H' → Rel S g2 w' σ' H' e → Dn1.nx σ' H') (hr : Dn1.rt = Dn.rt) (hb : Dn1.bk = Dn.bk) (hc : Dn1.ct = Dn.ct) : OutS S T g2 w1 σ1 H1 Dn1 o := by
  cases o with
  | nx e => exact hn e rfl
  | rt d e => exact fun v σ' w' H' f' x' r q => by rw [hr]; exact h v σ' w' H' (fx.trans f') (x.trans x') r q
  | bk e => exact fun σ' w' H' f' x' r => by rw [hb]; exact h σ' w' H' (fx.trans f') (x.trans x') r
  | ct e => exact fun σ' w' H' f' x' r => by rw [hc]; exact h σ' w' H' (fx.trans f') (x.trans x') r
  | ex y e => exact fun c dd σ' w' H' f' x' r q => h c dd σ' w' H' (fx.trans f') (x.trans x') r q
  | no => exact h
theorem OutS.step {S : Sx} {T : Fx} {g' : Ctx} {w w1 : Om} {σ σ1 : St} {H H1 : Hp} {Dn : Ends} {o : O} (h : OutS S T g' w σ H Dn o) (fx : Fix T.F σ σ1) (x : Ext w H w1 H1) : OutS S T g' w1 σ1 H1 Dn o :=
  h.to fx x (fun e he σ' w' H' f' x' r => by
    subst he
    exact h σ' w' H' (fx.trans f') (x.trans x') r) rfl rfl rfl
/-- from an expression's outcome to a statement's -/
def R.toO {α : Type} (r : R α) (f : α → Env → O) : O := match r with
  | .ok a e => f a e
  | .ex x e => .ex x e
  | .no => .no
theorem Out.toS {α : Type} {S : Sx} {T : Fx} {g' : Ctx} {w : Om} {σ : St} {H : Hp} {Dn : Ends} {r : R α} {f : α → Env → O} (h : OutS S T g' w σ H Dn (r.toO f)) : Out S w σ H (fun a e => OutS S T g' w σ H Dn (f a e)) r := by
  cases r with
  | ok a e => exact h
  | ex x e => exact fun c dd w' H' x' r' q => h c dd σ w' H' (Fix.refl σ) x' r' q
  | no => exact h

def sNx : MS := fun e => .nx e
def sSeq (f f' : MS) : MS := fun e => match f e with
  | .nx e1 => f' e1
  | .rt d e1 => .rt d e1
  | .bk e1 => .bk e1
  | .ct e1 => .ct e1
  | .ex x e1 => .ex x e1
  | .no => .no
def sSet (i : Nat) (f : ME) : MS := fun e => (f e).toO fun d e1 => .nx (e1.set i (some d))
def sDrop (f : ME) : MS := fun e => (f e).toO fun _ e1 => .nx e1
def sRet (f : ME) : MS := fun e => (f e).toO fun d e1 => .rt d e1
def sRetN : MS := fun e => .rt .non e
def sBrk : MS := fun e => .bk e
def sCnt : MS := fun e => .ct e
def sIf (c : MT) (f f' : MS) : MS := fun e => (c e).toO fun b e1 => if b = true then f e1 else f' e1
/-- for over a list of trees: how an item is bound, the body -/
def sEach (b : D → Env → Option Env) (f : MS) : List D → Env → O
  | [], e => .nx e
  | d :: ds, e => match b d e with
    | some e1 => match f e1 with
      | .nx e2 => sEach b f ds e2
      | .ct e2 => sEach b f ds e2
      | .bk e2 => .nx e2
      | .rt d e2 => .rt d e2
      | .ex x e2 => .ex x e2
      | .no => .no
    | none => .no
def bName (i : Nat) : D → Env → Option Env := fun d e => some (e.set i (some d))
section
variable {S : Sx} {g : Ctx} {w : Om} {σ : St} {H : Hp} {env : Env} {i : Nat} {m : Md} {v : V} {d : D}
/-- a value put into a slot -/
theorem Rel.put (r : Rel S g w σ H env) (h : Val S m w H v d) (hi : i < g.length) : ∃ w', Ext w H w' H ∧ Rel S (g.set i (some m)) w' (σ.set i (some v)) H (env.set i (some d)) := by
  obtain ⟨fp, z1, z2, z3⟩ := h
  have key : ∀ a y, w a = some y → y ≠ .hand → lab fp (.slot i) w a = some y := fun a y e ne => by
    rw [lab_out]
    · exact e
    · intro h
      rw [z3 a h] at e
      exact ne (Option.some.inj e).symm
  have ex : Ext w H (lab fp (.slot i) w) H := fun a k e => ⟨key a _ e (by simp), rfl⟩
  have hσ : i < σ.length := Nat.lt_of_lt_of_le hi r.gl
  refine ⟨_, ex, ⟨fun a y e => ?_, fun j m' e => ?_, by rw [List.length_set, List.length_set]; exact r.len, by rw [List.length_set, List.length_set]; exact r.gl⟩⟩
  · by_cases h : a ∈ fp
    · exact r.dom a _ (z3 a h)
    · rw [lab_out h] at e
      exact r.dom a y e
  · by_cases hj : i = j
    · subst hj
      rw [List.getElem?_set_self hi] at e
      cases e
      exact ⟨v, d, fp, List.getElem?_set_self hσ, List.getElem?_set_self (by rw [r.len]; exact hσ), z1.to rfl rfl (Md.le_refl _) ex.keep fun _ _ => rfl, z2, fun a ha => lab_in ha⟩
    · rw [List.getElem?_set_ne hj] at e
      obtain ⟨v', d', f, h1, h2, h3, h4, h5⟩ := r.slot j m' e
      exact ⟨v', d', f, by rw [List.getElem?_set_ne hj]; exact h1, by rw [List.getElem?_set_ne hj]; exact h2, h3.to rfl rfl (Md.le_refl _) ex.keep fun _ _ => rfl, h4, fun a ha => key a _ (h5 a ha) (by simp)⟩
theorem Fix.set {F : List Nat} {x : Option V} (h : i ∉ F) : Fix F σ (σ.set i x) := fun j hj => List.getElem?_set_ne fun (e : i = j) => h (by rw [e]; exact hj)
end
section
variable {X : Cx} {S : Sx} {T : Fx} {g g1 g2 g3 : Ctx} {m : Md} {a c : Expr} {fa : ME} {ca : MT} {f f' : MS} {pos : Pos} {st : Stmt} {rest sa sb : List Stmt} {i : Nat}
theorem sss_nil : SSs X S T g g [] sNx := ⟨fun ok => ⟨⟨_, pss_nil, fun w σ H env Dn R q => q σ w H (Fix.refl _) (Ext.refl _ _) R⟩, ok⟩⟩
theorem rs_seq {t u : TS} (h1 : RS S T g g1 t f) (h2 : RS S T g1 g2 u f') : RS S T g g2 (tSeq t u) (sSeq f f') := fun w σ H env Dn R q => by
  refine h1 w σ H env { Dn with nx := u Dn } R ?_
  unfold sSeq at q
  cases e : f env with
  | nx e1 =>
    rw [e] at q
    exact fun σ' w' H' fx x R' => h2 w' σ' H' e1 Dn R' (q.step fx x)
  | rt d e1 => rw [e] at q; exact q
  | bk e1 => rw [e] at q; exact q
  | ct e1 => rw [e] at q; exact q
  | ex x e1 => rw [e] at q; exact q
  | no => rw [e] at q; exact q
theorem sss_cons (h1 : SS X S T g g1 st f) (h2 : SSs X S T g1 g2 rest f') : SSs X S T g g2 (st :: rest) (sSeq f f') := ⟨fun ok => by
  obtain ⟨⟨t, p1, p2⟩, o1⟩ := h1.run ok
  obtain ⟨⟨u, p3, p4⟩, o2⟩ := h2.run o1
  exact ⟨⟨_, pss_cons p1 p3, rs_seq p2 p4⟩, o2⟩⟩
theorem sss_one (h1 : SS X S T g g1 st f) : SSs X S T g g1 [st] f := ⟨fun ok => by
  obtain ⟨⟨t, p1, p2⟩, o1⟩ := h1.run ok
  exact ⟨⟨_, pss_one p1, p2⟩, o1⟩⟩
theorem rs_wk {t : TS} {n : Nat} (h : RS S T g g1 t f) (hw : wkB n g1 g2 = true) : RS S T g g2 t f := fun w σ H env Dn R q => h w σ H env Dn R (q.to (Fix.refl _) (Ext.refl _ _) (fun e he σ' w' H' fx x R' => by
  rw [he] at q
  obtain ⟨w2, x2, R2, _⟩ := R'.wk hw
  exact q σ' w2 H' fx (x.trans x2) R2) rfl rfl rfl)
theorem rs_wk0 {t : TS} {n : Nat} (h : RS S T g1 g2 t f) (hw : wkB n g g1 = true) : RS S T g g2 t f := fun w σ H env Dn R q => by
  obtain ⟨w2, x2, R2, _⟩ := R.wk hw
  exact h w2 σ H env Dn R2 (q.step (Fix.refl _) x2)
/-- less is known behind a block, ahead of it -/
theorem sss_wk (g2 : Ctx) (h : SSs X S T g g1 rest f) (hw : wkB S.n g1 g2 = true := by rfl) : SSs X S T g g2 rest f := ⟨fun ok => by
  obtain ⟨⟨t, p1, p2⟩, o1⟩ := h.run ok
  exact ⟨⟨_, p1, rs_wk p2 hw⟩, wkB_ok hw⟩⟩
theorem sss_wk0 (g1 : Ctx) (h : SSs X S T g1 g2 rest f) (hw : wkB S.n g g1 = true := by rfl) : SSs X S T g g2 rest f := ⟨fun ok => by
  obtain ⟨⟨t, p1, p2⟩, o1⟩ := h.run (wkB_ok hw)
  exact ⟨⟨_, p1, rs_wk0 p2 hw⟩, o1⟩⟩
theorem ss_wk (g2 : Ctx) (h : SS X S T g g1 st f) (hw : wkB S.n g1 g2 = true := by rfl) : SS X S T g g2 st f := ⟨fun ok => by
  obtain ⟨⟨t, p1, p2⟩, o1⟩ := h.run ok
  exact ⟨⟨_, p1, rs_wk p2 hw⟩, wkB_ok hw⟩⟩
theorem ss_doc {x : Str} {j : Nat} {p : Pos} : SS X S T g g (.Expr (.Constant (.str x) j p) pos) sNx := ⟨fun ok => ⟨⟨_, ps_doc, fun w σ H env Dn R q => q σ w H (Fix.refl _) (Ext.refl _ _) R⟩, ok⟩⟩
theorem ss_pass : SS X S T g g (.Pass pos) sNx := ⟨fun ok => ⟨⟨_, ps_pass, fun w σ H env Dn R q => q σ w H (Fix.refl _) (Ext.refl _ _) R⟩, ok⟩⟩
theorem ss_brk (hw : wkB S.n g T.gb = true := by rfl) (g' : Ctx) (hg : wkB S.n g' g' = true := by rfl) : SS X S T g g' (.Break pos) sBrk := ⟨fun ok => ⟨⟨_, ps_break, fun w σ H env Dn R q => by
  obtain ⟨w2, x2, R2, _⟩ := R.wk hw
  exact q σ w2 H (Fix.refl _) x2 R2⟩, wkB_ok hg⟩⟩
theorem ss_cnt (hw : wkB S.n g T.gc = true := by rfl) (g' : Ctx) (hg : wkB S.n g' g' = true := by rfl) : SS X S T g g' (.Continue pos) sCnt := ⟨fun ok => ⟨⟨_, ps_continue, fun w σ H env Dn R q => by
  obtain ⟨w2, x2, R2, _⟩ := R.wk hw
  exact q σ w2 H (Fix.refl _) x2 R2⟩, wkB_ok hg⟩⟩
/-- return e; what follows is never reached: g' is free -/
theorem ss_ret (g' : Ctx) (ha : SE X S g g1 T.rm a fa) (hw : wkB S.n g1 T.gr = true := by rfl) (hg : wkB S.n g' g' = true := by rfl) : SS X S T g g' (.Return (some a) pos) (sRet fa) := ⟨fun ok => by
  obtain ⟨⟨ta, p1, p2⟩, o1, l1⟩ := ha.run ok
  refine ⟨⟨_, ps_ret p1, fun w σ H env Dn R q => ?_⟩, wkB_ok hg⟩
  have q := Out.toS q
  refine p2 w σ H env _ R (Out.mono q (Ext.refl _ _) fun d e q1 v w1 H1 x1 R1 V1 => ?_)
  obtain ⟨w2, x2, R2, hh⟩ := R1.wk hw
  obtain ⟨fp, z1, z2, z3⟩ := V1
  exact q1 v σ w2 H1 (Fix.refl _) (x1.trans x2) R2 ⟨fp, z1.to rfl rfl (Md.le_refl _) x2.keep (fun _ _ => rfl), z2, fun a ha => hh a (z3 a ha)⟩⟩
theorem ss_retN (g' : Ctx) (hw : wkB S.n g T.gr = true := by rfl) (hg : wkB S.n g' g' = true := by rfl) : SS X S T g g' (.Return none pos) sRetN := ⟨fun ok => by
  refine ⟨⟨_, ps_retN, fun w σ H env Dn R q => ?_⟩, wkB_ok hg⟩
  obtain ⟨w2, x2, R2, hh⟩ := R.wk hw
  exact q .non σ w2 H (Fix.refl _) x2 R2 (val_sc trivial)⟩
theorem ss_drop (ha : SE X S g g1 m a fa) (hs : swapsWith a none pos.line X.env = pure false := by rfl) : SS X S T g g1 (.Expr a pos) (sDrop fa) := ⟨fun ok => by
  obtain ⟨⟨ta, p1, p2⟩, o1, l1⟩ := ha.run ok
  refine ⟨⟨_, ps_expr p1 hs, fun w σ H env Dn R q => ?_⟩, o1⟩
  have q := Out.toS q
  exact p2 w σ H env _ R (Out.mono q (Ext.refl _ _) fun d e q1 v w1 H1 x1 R1 V1 => q1 σ w1 H1 (Fix.refl _) x1 R1)⟩
theorem rs_set {t : TE} (ha : RE S g g1 m t fa) (hi : i < g1.length) (hF : i ∉ T.F) : RS S T g (g1.set i (some m)) (tAsg t (gName i)) (sSet i fa) := fun w σ H env Dn R q => by
  have q := Out.toS q
  refine ha w σ H env _ R (Out.mono q (Ext.refl _ _) fun d e q1 v w1 H1 x1 R1 V1 => ?_)
  obtain ⟨w2, x2, R2⟩ := R1.put V1 hi
  exact q1 (σ.set i (some v)) w2 H1 (Fix.set hF) (x1.trans x2) R2
theorem ss_set [gd : Gd X S] (i : Nat) {x : Str} {p' : Pos} (ha : SE X S g g1 m a fa) (hi : i < g1.length := by exact Nat.le_of_ble_eq_true rfl) (hF : i ∉ T.F := by exact nin rfl) (hN : X.N[i]? = some x := by rfl) (hx : Loc X.env.scope x := by first | exact .inl rfl | exact .inr rfl)
    (hs : swapsWith a (some (.Name x p')) pos.line X.env = pure false := by rfl) (hf : X.fn x = true ∨ X.env.scope.names.lookup x = some .local := by first | exact .inl rfl | exact .inr rfl) : SS X S T g (g1.set i (some m)) (.Assign [.Name x p'] a pos) (sSet i fa) := ⟨fun ok => by
  obtain ⟨⟨ta, p1, p2⟩, o1, l1⟩ := ha.run ok
  exact ⟨⟨_, ps_set gd.nd hN hx p1 hs hf, rs_set p2 hi hF⟩, okg_set o1 fun m' e => by cases e; exact l1⟩⟩
theorem ss_if (hc : ST X S g g1 c ca) (h1 : SSs X S T g1 g2 sa f) (h2 : SSs X S T g1 g2 sb f') : SS X S T g g2 (.If c sa sb pos) (sIf ca f f') := ⟨fun ok => by
  obtain ⟨⟨tc, p1, p2⟩, o1⟩ := hc.run ok
  obtain ⟨⟨ta, p3, p4⟩, o2⟩ := h1.run o1
  obtain ⟨⟨tb, p5, p6⟩, _⟩ := h2.run o1
  refine ⟨⟨_, ps_if p1 p3 p5, fun w σ H env Dn R q => ?_⟩, o2⟩
  have q := Out.toS q
  refine p2 w σ H env _ R (Out.mono q (Ext.refl _ _) fun b e q1 w1 H1 x1 R1 => ?_)
  cases b with
  | true =>
    rw [if_pos rfl] at q1 ⊢
    exact p4 w1 σ H1 e Dn R1 (q1.step (Fix.refl _) x1)
  | false =>
    rw [if_neg Bool.false_ne_true] at q1 ⊢
    exact p6 w1 σ H1 e Dn R1 (q1.step (Fix.refl _) x1)⟩
end
end G

/-! Fw6 -/
/-! loops -/
namespace G
open PySem L2

/-- an iterator tells the trees ds, shared up to k, as long as what is shared stands -/
def Walk (S : Sx) (k : Nat) (J : It) (w : Om) (H : Hp) (ds : List D) : Prop :=
  ∀ w' H', Ext w H w' H' → (∀ a x, w' a = some x → ∃ o, H' a = some o) → J.stop ds.length H' ∧ ∀ i d, ds[i]? = some d → J.go i H' ∧ ∀ x H'', J.yld i H' x H'' → ∃ w'', Grow w' H' w'' H'' ∧ Shr S w'' H'' k x d
def RI (S : Sx) (g g' : Ctx) (k : Nat) (wi : TI) (fi : MA) : Prop :=
  ∀ (w : Om) (σ : St) (H : Hp) (env : Env) (Q : It → Hp → Prop), Rel S g w σ H env →
    Out S w σ H (fun ds e => ∀ J w' H', Ext w H w' H' → Rel S g' w' σ H' e → Walk S k J w' H' ds → Q J H') (fi env) → wi σ H Q
structure SI (X : Cx) (S : Sx) (g g' : Ctx) (k : Nat) (tg it : Expr) (fi : MA) : Prop where
  run : OkG S.n g → (∃ wi, PI X tg it wi ∧ RI S g g' k wi fi) ∧ OkG S.n g' ∧ k ≤ S.n
/-- an item bound -/
def RG (S : Sx) (bs : List Nat) (g g' : Ctx) (k : Nat) (t : TG) (b : D → Env → Option Env) : Prop :=
  ∀ (w : Om) (σ : St) (H : Hp) (env : Env) (x : V) (d : D) (Q : St → Hp → Prop), Rel S g w σ H env → Shr S w H k x d →
    (match b d env with
      | some e => ∀ σ' w', (∀ j, j ∉ bs → σ'[j]? = σ[j]?) → σ'.length = σ.length → Ext w H w' H → Rel S g' w' σ' H e → Q σ' H
      | none => False) → t x σ H Q
structure SG (X : Cx) (S : Sx) (bs : List Nat) (g g' : Ctx) (k : Nat) (tg : Expr) (b : D → Env → Option Env) : Prop where
  run : OkG S.n g → k ≤ S.n → (∃ t, PG X tg t ∧ RG S bs g g' k t b) ∧ OkG S.n g'
section
variable {X : Cx} {S : Sx} {g g1 g2 : Ctx} {k : Nat} {tg it : Expr} {m : Md} {fa : ME} {a : Expr} {pos : Pos}
theorem sg_name [gd : Gd X S] (i : Nat) {x : Str} (hi : i < g.length := by exact Nat.le_of_ble_eq_true rfl) (hN : X.N[i]? = some x := by rfl) (hx : Loc X.env.scope x := by first | exact .inl rfl | exact .inr rfl)
    (hf : X.fn x = true ∨ X.env.scope.names.lookup x = some .local := by first | exact .inl rfl | exact .inr rfl) : SG X S [i] g (g.set i (some (.sh k))) k (.Name x pos) (bName i) := ⟨fun ok hk =>
  ⟨⟨_, pg_name gd.nd hN hx hf, fun w σ H env x d Q R h q => by
    obtain ⟨w2, x2, R2⟩ := R.put (val_sh h) hi
    exact q (σ.set i (some x)) w2 (fun j hj => List.getElem?_set_ne fun (e : i = j) => hj (by rw [e]; exact List.mem_singleton.mpr rfl)) (List.length_set ..) x2 R2⟩, okg_set ok fun m' e => by cases e; exact hk⟩⟩

/-! ### what is walked -/
theorem walk_list {w : Om} {H : Hp} {p : Addr} {vs : List V} {ds : List D} (hd : ∀ a x, w a = some x → ∃ o, H a = some o) (h : ShrL S w H k vs ds) {j : Nat} (hp : w p = some (.lvl j)) (ho : H p = some (.lst vs)) : Walk S k (Itl X.K p) w H ds := by
  intro w' H' x dm
  obtain ⟨_, e⟩ := x p j hp
  have hs : SqL X.K H' p vs := SqL.of (e.trans ho)
  refine ⟨⟨vs, hs, by rw [h.length]; exact Nat.le_refl _⟩, fun i d e => ?_⟩
  obtain ⟨v, e1, e2⟩ := h.getD e
  refine ⟨⟨vs, v, hs, e1⟩, fun y H'' q => ?_⟩
  obtain ⟨rfl, q⟩ := q
  have := q vs hs
  rw [e1] at this
  cases this
  exact ⟨w', Grow.refl dm, e2.to x.keep (Nat.le_refl _) rfl rfl⟩
theorem walk_tup {w : Om} {H : Hp} {p : Addr} {vs : List V} {ds : List D} {n : Nat} (hK : S.K = X.K) (h : ShrL S w H k vs ds) (hp : TAt S.K w H n p vs) : Walk S k (Itt X.K p) w H ds := by
  intro w' H' x dm
  have hs : SqT X.K H' p vs := hK ▸ (hp.keep x.keep).sq
  refine ⟨⟨vs, hs, by rw [h.length]; exact Nat.le_refl _⟩, fun i d e => ?_⟩
  obtain ⟨v, e1, e2⟩ := h.getD e
  refine ⟨⟨vs, v, hs, e1⟩, fun y H'' q => ?_⟩
  obtain ⟨rfl, q⟩ := q
  have := q vs hs
  rw [e1] at this
  cases this
  exact ⟨w', Grow.refl dm, e2.to x.keep (Nat.le_refl _) rfl rfl⟩
theorem walk_range {w : Om} {H : Hp} {lo : Int} {n : Nat} : Walk S k (Itr lo n) w H ((List.range n).map fun i => .int (lo + (i : Nat))) := by
  intro w' H' x dm
  refine ⟨by simp [Itr], fun i d e => ?_⟩
  rw [List.getElem?_map, Option.map_eq_some_iff] at e
  obtain ⟨j, e1, rfl⟩ := e
  obtain ⟨hi, e2⟩ := List.getElem?_eq_some_iff.mp e1
  rw [List.getElem_range] at e2
  subst e2
  rw [List.length_range] at hi
  refine ⟨hi, fun y H'' q => ?_⟩
  obtain ⟨rfl, rfl⟩ := q
  exact ⟨w', Grow.refl dm, .int _⟩
theorem walk_str {w : Om} {H : Hp} {z : Str} : Walk S k (Its z) w H (z.cps.toList.map fun c => .str ⟨#[c]⟩) := by
  intro w' H' x dm
  refine ⟨by simp [Its], fun i d e => ?_⟩
  rw [List.getElem?_map, Option.map_eq_some_iff] at e
  obtain ⟨c, e1, rfl⟩ := e
  obtain ⟨hi, e2⟩ := List.getElem?_eq_some_iff.mp e1
  refine ⟨by simpa [Its] using hi, fun y H'' q => ?_⟩
  obtain ⟨rfl, c', e3, rfl⟩ := q
  have : c' = c := by
    rw [← Array.getElem?_toList, e1] at e3
    exact (Option.some.inj e3).symm
  subst this
  exact ⟨w', Grow.refl dm, .str _⟩
theorem pi_or {w1 w2 : TI} (h1 : PI X tg it w1) (h2 : PI X tg it w2) : PI X tg it (fun σ H Q => w1 σ H Q ∨ w2 σ H Q) := ⟨fun pins s σ H R I h => by
  rcases h with h | h
  · exact h1.run pins s σ H R I h
  · exact h2.run pins s σ H R I h⟩
/-- a list, a tuple or a text: its items -/
def iAny (f : ME) : MA := fun e => (f e).bind fun d e1 => match d with
  | .lst ds => .ok ds e1
  | .tup ds => .ok ds e1
  | .str z => .ok (z.cps.toList.map fun c => .str ⟨#[c]⟩) e1
  | _ => .no
/-- a known list -/
def iLst (f : ME) : MA := fun e => (f e).bind fun d e1 => match d with
  | .lst ds => .ok ds e1
  | _ => .no
def iTupP (f : ME) : MA := fun e => (f e).bind fun d e1 => match d with
  | .tup ds => .ok ds e1
  | _ => .no
def iStrP (f : ME) : MA := fun e => (f e).bind fun d e1 => match d with
  | .str z => .ok (z.cps.toList.map fun c => .str ⟨#[c]⟩) e1
  | _ => .no
theorem flat_le {m : Md} {k n : Nat} (h : m.flat = some k) (hl : m.lev ≤ n) : k ≤ n := by
  cases m with
  | sh j => have : j = k := by simpa [Md.flat] using h
            rw [← this]; exact hl
  | own m =>
    cases m with
    | sh j => have : j = k := by simpa [Md.flat] using h
              rw [← this]; exact hl
    | own m => simp [Md.flat] at h
theorem si_list [gd : Gd X S] (ha : SE X S g g1 m a fa) (hm : m.flat = some k := by rfl) : SI X S g g1 k tg a (iLst fa) := ⟨fun ok => by
  obtain ⟨⟨ta, p1, p2⟩, o1, l1⟩ := ha.run ok
  refine ⟨⟨_, pi_list p1, fun w σ H env Q R q => ?_⟩, o1, flat_le hm l1⟩
  have q := Out.bind q
  refine p2 w σ H env _ R (Out.mono q (Ext.refl _ _) fun d e q1 v w1 H1 x1 R1 V1 => ?_)
  cases d with
  | lst ds =>
    obtain ⟨fp, z1, z2, z3⟩ := V1
    cases z1 with
    | sh z =>
      rename_i n
      have e : n = k := by simpa [Md.flat] using hm
      subst e
      cases z with
      | lst h1 h2 =>
        rename_i p vs
        obtain ⟨⟨j, _, hj⟩, ho⟩ := h1
        exact ⟨p, rfl, ⟨vs, SqL.of ho⟩, q1 _ w1 H1 x1 R1 (walk_list R1.dom h2 hj ho)⟩
    | sc z => cases v <;> cases z
    | own h1 h2 =>
      rename_i m' p vs fp'
      cases m' with
      | own m' => simp [Md.flat] at hm
      | sh n =>
        have e : n = k := by simpa [Md.flat] using hm
        subst e
        obtain ⟨R2, x2⟩ := R1.relab (x := .lvl (S.n + 1)) z3
        obtain ⟨_, L⟩ := RepL.unsh h2
        exact ⟨p, rfl, ⟨vs, SqL.of h1⟩, q1 _ _ H1 (x1.trans x2) R2 (walk_list R2.dom (L.to x2.keep (Nat.le_refl _) rfl rfl) (lab_in List.mem_cons_self) h1)⟩
  | _ => exact q1.elim⟩
theorem si_tup [gd : Gd X S] (ha : SE X S g g1 (.sh k) a fa) : SI X S g g1 k tg a (iTupP fa) := ⟨fun ok => by
  obtain ⟨⟨ta, p1, p2⟩, o1, l1⟩ := ha.run ok
  refine ⟨⟨_, pi_tup p1, fun w σ H env Q R q => ?_⟩, o1, l1⟩
  have q := Out.bind q
  refine p2 w σ H env _ R (Out.mono q (Ext.refl _ _) fun d e q1 v w1 H1 x1 R1 V1 => ?_)
  cases d with
  | tup ds =>
    obtain ⟨fp, z1, z2, z3⟩ := V1
    obtain ⟨n, p, vs, e, rfl, h1, h2, _⟩ := z1.tup
    cases e
    exact ⟨p, rfl, ⟨vs, gd.K ▸ h1.sq⟩, q1 _ w1 H1 x1 R1 (walk_tup gd.K h2 h1)⟩
  | _ => exact q1.elim⟩
theorem si_str (ha : SE X S g g1 m a fa) : SI X S g g1 0 tg a (iStrP fa) := ⟨fun ok => by
  obtain ⟨⟨ta, p1, p2⟩, o1, l1⟩ := ha.run ok
  refine ⟨⟨_, pi_str p1, fun w σ H env Q R q => ?_⟩, o1, Nat.zero_le _⟩
  have q := Out.bind q
  refine p2 w σ H env _ R (Out.mono q (Ext.refl _ _) fun d e q1 v w1 H1 x1 R1 V1 => ?_)
  cases d with
  | str z =>
    obtain ⟨fp, z1, _⟩ := V1
    obtain ⟨rfl, _⟩ := z1.str
    exact ⟨z, rfl, q1 _ w1 H1 x1 R1 walk_str⟩
  | _ => exact q1.elim⟩
/-- a shared list, tuple or text -/
theorem si_any [gd : Gd X S] (ha : SE X S g g1 (.sh k) a fa) : SI X S g g1 k tg a (iAny fa) := ⟨fun ok => by
  obtain ⟨⟨ta, p1, p2⟩, o1, l1⟩ := ha.run ok
  refine ⟨⟨_, pi_or (pi_list p1) (pi_or (pi_tup p1) (pi_str p1)), fun w σ H env Q R q => ?_⟩, o1, l1⟩
  have q := Out.bind q
  -- which it is, the expression's outcome tells
  cases e0 : fa env with
  | no => rw [e0] at q; exact q.elim
  | ex x e =>
    rw [e0] at q
    refine .inl (p2 w σ H env _ R ?_)
    rw [e0]
    exact q
  | ok d e =>
    rw [e0] at q
    cases d with
    | lst ds =>
      refine .inl (p2 w σ H env _ R ?_)
      rw [e0]
      refine fun v w1 H1 x1 R1 V1 => ?_
      obtain ⟨fp, z1, z2, z3⟩ := V1
      obtain ⟨_, z⟩ := z1.unsh
      cases z with
      | lst h1 h2 =>
        rename_i p vs
        obtain ⟨⟨j, _, hj⟩, ho⟩ := h1
        exact ⟨p, rfl, ⟨vs, SqL.of ho⟩, q _ w1 H1 x1 R1 (walk_list R1.dom h2 hj ho)⟩
    | tup ds =>
      refine .inr (.inl (p2 w σ H env _ R ?_))
      rw [e0]
      refine fun v w1 H1 x1 R1 V1 => ?_
      obtain ⟨fp, z1, z2, z3⟩ := V1
      obtain ⟨n, p, vs, e, rfl, h1, h2, _⟩ := z1.tup
      cases e
      exact ⟨p, rfl, ⟨vs, gd.K ▸ h1.sq⟩, q _ w1 H1 x1 R1 (walk_tup gd.K h2 h1)⟩
    | str z =>
      refine .inr (.inr (p2 w σ H env _ R ?_))
      rw [e0]
      refine fun v w1 H1 x1 R1 V1 => ?_
      obtain ⟨fp, z1, _⟩ := V1
      obtain ⟨rfl, _⟩ := z1.str
      exact ⟨z, rfl, q _ w1 H1 x1 R1 walk_str⟩
    | _ => exact q.elim⟩
def rngD (lo : Int) (n : Nat) : List D := (List.range n).map fun i => .int (lo + (i : Nat))
def iRange1 (f : MA) : MA := fun e => (f e).bind fun ds e1 => match ds with
  | [.int j] => if decide (-(2 ^ 62) ≤ j) && decide (j < 2 ^ 62) then .ok (rngD 0 j.toNat) e1 else .no
  | _ => .no
def iRange2 (f : MA) : MA := fun e => (f e).bind fun ds e1 => match ds with
  | [.int i, .int j] => if (decide (-(2 ^ 62) ≤ i) && decide (i < 2 ^ 62)) && (decide (-(2 ^ 62) ≤ j) && decide (j < 2 ^ 62)) then .ok (rngD i (j - i).toNat) e1 else .no
  | _ => .no
theorem RepA.int1 {w : Om} {H : Hp} {ms : List Md} {vs : List V} {i : Int} {fp : List Addr} (h : RepA S w H ms vs [.int i] fp) : vs = [.int i] := by
  cases h with
  | cons h t =>
    cases t
    obtain ⟨rfl, _⟩ := h.int
    rfl
theorem RepA.int2 {w : Om} {H : Hp} {ms : List Md} {vs : List V} {i j : Int} {fp : List Addr} (h : RepA S w H ms vs [.int i, .int j] fp) : vs = [.int i, .int j] := by
  cases h with
  | cons h t =>
    cases t with
    | cons h' t =>
      cases t
      obtain ⟨rfl, _⟩ := h.int
      obtain ⟨rfl, _⟩ := h'.int
      rfl
variable {ms : List Md} {f : MA} {p : Pos} {b : Expr}
theorem si_range1 (hm : X.mg "range" = none) (ha : SA X S g g1 ms [a] f) (hg : Gl X "range" := by rfl) (hs : starEach [a] X.env = [(false, eval a X.env)] := by rfl) : SI X S g g1 0 tg (.Call (.Name "range" p) [a] [] pos) (iRange1 f) := ⟨fun ok => by
  obtain ⟨⟨ta, p1, p2⟩, o1, l1⟩ := ha.run ok
  refine ⟨⟨_, pi_range1 hg hm p1 hs, fun w σ H env Q R q => ?_⟩, o1, Nat.zero_le _⟩
  have q := Out.bind q
  refine p2 w σ H env _ R (Out.mono q (Ext.refl _ _) fun ds e q1 vs w1 H1 x1 R1 V1 => ?_)
  obtain ⟨fp, z1, _⟩ := V1
  split at q1
  · split at q1
    · rename_i hz
      simp only [Bool.and_eq_true, decide_eq_true_eq] at hz
      rw [z1.int1]
      exact ⟨_, rfl, hz.1, hz.2, q1 _ w1 H1 x1 R1 walk_range⟩
    · exact q1.elim
  · exact q1.elim⟩
theorem si_range2 (hm : X.mg "range" = none) (ha : SA X S g g1 ms [a, b] f) (hg : Gl X "range" := by rfl) (hs : starEach [a, b] X.env = [(false, eval a X.env), (false, eval b X.env)] := by rfl) (hs2 : starEach [b] X.env = [(false, eval b X.env)] := by rfl) :
    SI X S g g1 0 tg (.Call (.Name "range" p) [a, b] [] pos) (iRange2 f) := ⟨fun ok => by
  obtain ⟨⟨ta, p1, p2⟩, o1, l1⟩ := ha.run ok
  refine ⟨⟨_, pi_range2 hg hm p1 hs hs2, fun w σ H env Q R q => ?_⟩, o1, Nat.zero_le _⟩
  have q := Out.bind q
  refine p2 w σ H env _ R (Out.mono q (Ext.refl _ _) fun ds e q1 vs w1 H1 x1 R1 V1 => ?_)
  obtain ⟨fp, z1, _⟩ := V1
  split at q1
  · split at q1
    · rename_i hz
      simp only [Bool.and_eq_true, decide_eq_true_eq] at hz
      rw [z1.int2]
      exact ⟨_, _, rfl, ⟨hz.1.1, hz.1.2, hz.2.1, hz.2.2⟩, q1 _ w1 H1 x1 R1 walk_range⟩
    · exact q1.elim
  · exact q1.elim⟩
end

/-! ### for -/
def sFor (fi : MA) (b : D → Env → Option Env) (f : MS) : MS := fun e => (fi e).toO fun ds e1 => sEach b f ds e1
section
variable {X : Cx} {S : Sx} {T : Fx} {g g1 g2 : Ctx} {k : Nat} {tg it : Expr} {fi : MA} {b : D → Env → Option Env} {f : MS} {body : List Stmt} {pos : Pos}
theorem rs_for {wi : TI} {gt : TG} {tb : TS} {bs : List Nat} (hF : ∀ i ∈ T.F, i ∉ bs) (hi : RI S g g1 k wi fi) (hg : RG S bs g1 g2 k gt b) (hb : RS S { T with gb := g1, gc := g1 } g2 g1 tb f) : RS S T g g1 (tFor wi gt tb) (sFor fi b f) := by
  intro w σ H env Dn R q
  have q := Out.toS q
  refine hi w σ H env _ R (Out.mono q (Ext.refl _ _) fun ds e q1 J w1 H1 x1 R1 W1 => ?_)
  have q1 := q1.step (Fix.refl _) x1
  refine ⟨fun i m σ' H' => ∃ w' e', m = ds.length - i ∧ i ≤ ds.length ∧ Fix T.F σ σ' ∧ Ext w1 H1 w' H' ∧ Rel S g1 w' σ' H' e' ∧ OutS S T g1 w' σ' H' Dn (sEach b f (ds.drop i) e'), ⟨_, w1, e, rfl, Nat.zero_le _, Fix.refl _, Ext.refl _ _, R1, q1⟩, ?_⟩
  rintro i m σ' H' ⟨w', e', rfl, hi, fx, x', R', q'⟩
  obtain ⟨ws, wg⟩ := W1 w' H' x' R'.dom
  by_cases hlt : i < ds.length
  · have hd : ds.drop i = ds[i] :: ds.drop (i + 1) := List.drop_eq_getElem_cons hlt
    rw [hd] at q'
    simp only [sEach] at q'
    obtain ⟨go, wy⟩ := wg i ds[i] (List.getElem?_eq_getElem hlt)
    refine .inr ⟨go, fun σ2 H2 => ∃ w2 e2, i + 1 ≤ ds.length ∧ Fix T.F σ σ2 ∧ Ext w1 H1 w2 H2 ∧ Rel S g1 w2 σ2 H2 e2 ∧ OutS S T g1 w2 σ2 H2 Dn (sEach b f (ds.drop (i + 1)) e2), ?_, ?_⟩
    · rintro σ2 H2 ⟨w2, e2, h1, h2, h3, h4, h5⟩
      exact ⟨ds.length - (i + 1), by omega, w2, e2, rfl, h1, h2, h3, h4, h5⟩
    · intro y H2 yl
      obtain ⟨w2, gr, sh⟩ := wy y H2 yl
      have R2 := R'.grow gr
      have x2 := gr.ext R'.dom
      refine hg w2 σ' H2 e' y _ _ R2 sh ?_
      cases eb : b ds[i] e' with
      | none => rw [eb] at q'; exact q'.elim
      | some e3 =>
        rw [eb] at q'
        simp only at q' ⊢
        intro σ3 w3 fb3 _ x3 R3
        have fx3 : Fix T.F σ' σ3 := fun j hj => fb3 j (hF j hj)
        refine hb w3 σ3 H2 e3 _ R3 ?_
        cases ef : f e3 with
        | nx e4 =>
          rw [ef] at q'
          exact fun σ4 w4 H4 fx4 x4 R4 => ⟨w4, e4, hlt, fx.trans (fx3.trans fx4), x'.trans (x2.trans (x3.trans x4)), R4, q'.step (fx3.trans fx4) (x2.trans (x3.trans x4))⟩
        | ct e4 =>
          rw [ef] at q'
          exact fun σ4 w4 H4 fx4 x4 R4 => ⟨w4, e4, hlt, fx.trans (fx3.trans fx4), x'.trans (x2.trans (x3.trans x4)), R4, q'.step (fx3.trans fx4) (x2.trans (x3.trans x4))⟩
        | bk e4 =>
          rw [ef] at q'
          exact fun σ4 w4 H4 fx4 x4 R4 => q' σ4 w4 H4 (fx3.trans fx4) (x2.trans (x3.trans x4)) R4
        | rt d e4 =>
          rw [ef] at q'
          exact fun v σ4 w4 H4 fx4 x4 R4 V4 => q' v σ4 w4 H4 (fx3.trans fx4) (x2.trans (x3.trans x4)) R4 V4
        | ex y e4 =>
          rw [ef] at q'
          exact fun c dd σ4 w4 H4 fx4 x4 R4 V4 => q' c dd σ4 w4 H4 (fx3.trans fx4) (x2.trans (x3.trans x4)) R4 V4
        | no => rw [ef] at q'; exact q'
  · have e0 : i = ds.length := by omega
    subst e0
    rw [List.drop_length] at q'
    exact .inl ⟨ws, q' σ' w' H' (Fix.refl _) (Ext.refl _ _) R'⟩
theorem ss_for [gd : Gd X S] {bs : List Nat} (hi : SI X S g g1 k tg it fi) (hg : SG X S bs g1 g2 k tg b) (hb : SSs X S { T with gb := g1, gc := g1 } g2 g1 body f) (hF : ∀ i ∈ T.F, i ∉ bs := by exact ninAll rfl)
    (hs : ∀ x, foldedSetIterable it X.env x = pure x := by intro _; rfl) : SS X S T g g1 (.For tg it body [] pos) (sFor fi b f) := ⟨fun ok => by
  obtain ⟨⟨wi, p1, p2⟩, o1, l1⟩ := hi.run ok
  obtain ⟨⟨gt, p3, p4⟩, o2⟩ := hg.run o1 l1
  obtain ⟨⟨tb, p5, p6⟩, _⟩ := hb.run o2
  exact ⟨⟨_, ps_for gd.po gd.calm p1 p3 p5 hs, rs_for hF p2 p4 p6⟩, o1⟩⟩

/-! ### while -/
def sWhile (c : MT) (f : MS) : Nat → MS
  | 0, _ => .no
  | n + 1, e => (c e).toO fun b e1 => if b = true then match f e1 with
      | .nx e2 => sWhile c f n e2
      | .ct e2 => sWhile c f n e2
      | .bk e2 => .nx e2
      | .rt d e2 => .rt d e2
      | .ex x e2 => .ex x e2
      | .no => .no
    else .nx e1
variable {c : Expr} {ca : MT}
theorem rs_while {tc : TT} {tb : TS} (fu : Env → Nat) (hc : RT S g g tc ca) (hb : RS S { T with gb := g, gc := g } g g tb f) : RS S T g g (tWhile tc tb) (fun e => sWhile ca f (fu e) e) := by
  intro w σ H env Dn R q
  refine ⟨fun m σ' H' => ∃ w' e', Fix T.F σ σ' ∧ Ext w H w' H' ∧ Rel S g w' σ' H' e' ∧ OutS S T g w' σ' H' Dn (sWhile ca f m e'), ⟨fu env, w, env, Fix.refl _, Ext.refl _ _, R, q⟩, ?_⟩
  rintro m σ' H' ⟨w', e', fx, x', R', q'⟩
  cases m with
  | zero => exact q'.elim
  | succ m =>
    have q' : OutS S T g w' σ' H' Dn ((ca e').toO fun b e1 => if b = true then _ else .nx e1) := q'
    have q' := Out.toS q'
    refine hc w' σ' H' e' _ R' (Out.mono q' (Ext.refl _ _) fun bb e1 q1 w1 H1 x1 R1 => ?_)
    cases bb with
    | false =>
      rw [if_neg Bool.false_ne_true] at q1 ⊢
      exact q1 σ' w1 H1 (Fix.refl _) x1 R1
    | true =>
      rw [if_pos rfl] at q1 ⊢
      refine ⟨fun σ2 H2 => ∃ w2 e2, Fix T.F σ σ2 ∧ Ext w H w2 H2 ∧ Rel S g w2 σ2 H2 e2 ∧ OutS S T g w2 σ2 H2 Dn (sWhile ca f m e2), ?_, ?_⟩
      · rintro σ2 H2 ⟨w2, e2, h1, h2, h3, h4⟩
        exact ⟨m, Nat.lt_succ_self _, w2, e2, h1, h2, h3, h4⟩
      · refine hb w1 σ' H1 e1 _ R1 ?_
        cases ef : f e1 with
        | nx e4 =>
          rw [ef] at q1
          exact fun σ4 w4 H4 fx4 x4 R4 => ⟨w4, e4, fx.trans fx4, x'.trans (x1.trans x4), R4, q1.step fx4 (x1.trans x4)⟩
        | ct e4 =>
          rw [ef] at q1
          exact fun σ4 w4 H4 fx4 x4 R4 => ⟨w4, e4, fx.trans fx4, x'.trans (x1.trans x4), R4, q1.step fx4 (x1.trans x4)⟩
        | bk e4 =>
          rw [ef] at q1
          exact fun σ4 w4 H4 fx4 x4 R4 => q1 σ4 w4 H4 fx4 (x1.trans x4) R4
        | rt d e4 =>
          rw [ef] at q1
          exact fun v σ4 w4 H4 fx4 x4 R4 V4 => q1 v σ4 w4 H4 fx4 (x1.trans x4) R4 V4
        | ex y e4 =>
          rw [ef] at q1
          exact fun c dd σ4 w4 H4 fx4 x4 R4 V4 => q1 c dd σ4 w4 H4 fx4 (x1.trans x4) R4 V4
        | no => rw [ef] at q1; exact q1
theorem ss_while [gd : Gd X S] (fu : Env → Nat) (hc : ST X S g g c ca) (hb : SSs X S { T with gb := g, gc := g } g g body f) : SS X S T g g (.While c body [] pos) (fun e => sWhile ca f (fu e) e) := ⟨fun ok => by
  obtain ⟨⟨tc, p1, p2⟩, o1⟩ := hc.run ok
  obtain ⟨⟨tb, p5, p6⟩, _⟩ := hb.run ok
  exact ⟨⟨_, ps_while gd.po p1 p5, rs_while fu p2 p6⟩, ok⟩⟩
end
end G

/-! Fw7 -/
/-! owned lists changed in place; locks -/
namespace G
open PySem L2

section
variable {S : Sx} {g : Ctx} {w : Om} {σ : St} {H : Hp} {env : Env} {i : Nat} {m : Md}
theorem RepL.split : ∀ (k : Nat) {vs : List V} {ds : List D} {fp : List Addr}, RepL S w H m vs ds fp → ∃ f1 f2, fp = f1 ++ f2 ∧ RepL S w H m (vs.take k) (ds.take k) f1 ∧ RepL S w H m (vs.drop k) (ds.drop k) f2
  | 0, _, _, fp, h => ⟨[], fp, rfl, .nil, h⟩
  | k + 1, _, _, _, .nil => ⟨[], [], rfl, .nil, .nil⟩
  | k + 1, _, _, _, .cons (f := f) h t => by
    obtain ⟨f1, f2, e, h1, h2⟩ := RepL.split k t
    subst e
    exact ⟨f ++ f1, f2, by rw [List.append_assoc], .cons h h1, h2⟩
/-- the list of an owned slot is another one from now on -/
theorem Rel.mut (R : Rel S g w σ H env) (hg : g[i]? = some (some (.own m))) {a : Addr} {vs : List V} {ds : List D} {fp : List Addr} (ha : σ[i]? = some (some (.ref a))) (wa : w a = some (.slot i))
    (L : RepL S w H m vs ds fp) (nd : fp.Nodup) (hf : ∀ x ∈ fp, x ≠ a ∧ (w x = some (.slot i) ∨ w x = some .hand)) :
    ∃ w', Ext w H w' (upd H a (.lst vs)) ∧ Rel S g w' σ (upd H a (.lst vs)) (env.set i (some (.lst ds))) ∧ ∀ x, x ∉ fp → w' x = w x := by
  have key : ∀ b y, w b = some y → y ≠ .hand → lab fp (.slot i) w b = some y := fun b y e ne => by
    by_cases hb : b ∈ fp
    · rw [lab_in hb]
      rcases (hf b hb).2 with z | z
      · rw [z] at e; exact e
      · rw [z] at e; exact absurd (Option.some.inj e).symm ne
    · rw [lab_out hb]; exact e
  have ex : Ext w H (lab fp (.slot i) w) (upd H a (.lst vs)) := fun b k e => ⟨key b _ e (by simp), upd_ne fun z => by subst z; rw [wa] at e; cases e⟩
  have hi : i < g.length := (List.getElem?_eq_some_iff.mp hg).1
  have hσ : i < σ.length := Nat.lt_of_lt_of_le hi R.gl
  refine ⟨_, ex, ⟨fun b y e => ?_, fun j m' e => ?_, by rw [List.length_set]; exact R.len, R.gl⟩, fun x hx => lab_out hx⟩
  · by_cases h : b = a
    · subst h; exact ⟨_, upd_same⟩
    · rw [upd_ne h]
      by_cases hb : b ∈ fp
      · rcases (hf b hb).2 with z | z
        · exact R.dom b _ z
        · exact R.dom b _ z
      · rw [lab_out hb] at e
        exact R.dom b y e
  · by_cases hj : i = j
    · subst hj
      rw [hg] at e
      cases e
      refine ⟨.ref a, .lst ds, a :: fp, ha, List.getElem?_set_self (by rw [R.len]; exact hσ), .own upd_same (L.to rfl rfl (Md.le_refl _) ex.keep fun x hx => upd_ne (hf x hx).1), List.nodup_cons.mpr ⟨fun z => (hf a z).1 rfl, nd⟩, fun x hx => ?_⟩
      rcases List.mem_cons.mp hx with e | hx
      · rw [e]; exact key a _ wa (by simp)
      · exact lab_in hx
    · obtain ⟨v', d', f, h1, h2, h3, h4, h5⟩ := R.slot j m' e
      have na : ∀ x ∈ f, x ≠ a := fun x hx z => by
        subst z
        have := h5 x hx
        rw [wa] at this
        injection this with this
        injection this with this
        exact hj this
      exact ⟨v', d', f, h1, by rw [List.getElem?_set_ne hj]; exact h2, h3.to rfl rfl (Md.le_refl _) ex.keep fun x hx => upd_ne (na x hx), h4, fun x hx => key x _ (h5 x hx) (by simp)⟩
end

/-- a method of a list that gives None: what it makes of the items and the arguments -/
def RM (S : Sx) (m : Md) (ms : List Md) (r : V → List V → Hp → VK → Prop) (h : List D → List D → Option (List D)) : Prop :=
  ∀ (w : Om) (H : Hp) (a : Addr) (vs as : List V) (ds bs ds' : List D) (fp fq : List Addr) (Q : VK), H a = some (.lst vs) → RepL S w H m vs ds fp → RepA S w H ms as bs fq → h ds bs = some ds' →
    (∀ vs' fp', RepL S w H m vs' ds' fp' → ((fp ++ fq).Nodup → fp'.Nodup) → (∀ x ∈ fp', x ∈ fp ++ fq) → Q .non (upd H a (.lst vs'))) → r (.ref a) as H Q
theorem ra_nil {S : Sx} {g : Ctx} : RA S g g [] tNil aNil := fun w σ H env Q R q => q [] w H (Ext.refl _ _) R ⟨[], .nil, List.nodup_nil, fun a ha => by simp at ha⟩
theorem isSc_lst {v : V} {ds : List D} (h : isSc v (.lst ds)) : False := by cases v <;> exact h
theorem isSc_tup {v : V} {ds : List D} (h : isSc v (.tup ds)) : False := by cases v <;> exact h
def mSlm (i : Nat) (h : List D → List D → Option (List D)) (fr : MA) : ME := fun e => match e[i]? with
  | some (some (.lst _)) => (fr e).bind fun bs e1 => match e1[i]? with
    | some (some (.lst ds)) => match h ds bs with
      | some ds' => .ok .non (e1.set i (some (.lst ds')))
      | none => .no
    | _ => .no
  | _ => .no
section
variable {X : Cx} {S : Sx} {g g1 : Ctx} {m m0 : Md} {ms : List Md} {e : Expr} {es : List Expr} {fr : MA} {apos cpos npos : Pos} {name x : Str} {id : String} {r : V → List V → Hp → VK → Prop} {h : List D → List D → Option (List D)}
theorem re_slm (i : Nat) {ta : TA} (p2 : RA S g g1 ms ta fr) (hr : RM S m ms r h) (h0 : g[i]? = some (some (.own m0))) (hg : g1[i]? = some (some (.own m))) (t : TE)
    (ht : ∀ (σ : St) (H : Hp) (Q : VK) (a : Addr) (vs : List V), σ[i]? = some (some (.ref a)) → H a = some (.lst vs) → ta σ H (fun xs H2 => r (.ref a) xs H2 Q) → t σ H Q) : RE S g g1 (.sh 0) t (mSlm i h fr) := fun w σ H env Q R q => by
  obtain ⟨v, d, fp, h1, h2, h3, h4, h5⟩ := R.slot i _ h0
  unfold mSlm at q
  rw [h2] at q
  cases d with
  | lst ds0 =>
    have q := Out.bind q
    cases h3 with
    | sc z => cases v <;> cases z
    | own ha L0 =>
      rename_i a vs0 fp0
      refine ht σ H Q a vs0 h1 ha ?_
      refine p2 w σ H env _ R (Out.mono q (Ext.refl _ _) fun bs e1 q1 as w1 H1 x1 R1 V1 => ?_)
      obtain ⟨v', d', fp', k1, k2, k3, k4, k5⟩ := R1.slot i _ hg
      rw [h1] at k1
      cases k1
      rw [k2] at q1
      cases d' with
      | lst ds =>
        simp only at q1
        cases k3 with
        | sc z => exact (isSc_lst z).elim
        | own ha' L =>
          rename_i vs fp1
          obtain ⟨fq, z1, z2, z3⟩ := V1
          cases eh : h ds bs with
          | none => rw [eh] at q1; exact q1.elim
          | some ds' =>
            rw [eh] at q1
            refine hr w1 H1 a vs as ds bs ds' fp1 fq _ ha' L z1 eh fun vs' fp2 L2 nd2 mem2 => ?_
            have wa := k5 a List.mem_cons_self
            have dis : (fp1 ++ fq).Nodup := by
              rw [List.nodup_append]
              exact ⟨(List.nodup_cons.mp k4).2, z2, fun x hx y hy e => by
                have p := k5 x (List.mem_cons_of_mem _ hx)
                rw [e, z3 y hy] at p
                cases p⟩
            obtain ⟨w2, x2, R2, _⟩ := R1.mut hg h1 wa L2 (nd2 dis) fun x hx => by
              rcases List.mem_append.mp (mem2 x hx) with hx | hx
              · exact ⟨fun z => (List.nodup_cons.mp k4).1 (z ▸ hx), .inl (k5 x (List.mem_cons_of_mem _ hx))⟩
              · refine ⟨fun z => ?_, .inr (z3 x hx)⟩
                have p := z3 x hx
                rw [z, wa] at p
                cases p
            exact q1 .non w2 _ (x1.trans x2) R2 (val_sc trivial)
      | _ => exact q1.elim
  | _ => exact q.elim
/-- x.append(..) and its like, x an owned name -/
theorem se_slm (i : Nat) (slot : Slot "list" name id) (hty : typeOf (.builtin id) = pure (.type "method_descriptor")) (hm : MtR X id r) (hr : RM S m ms r h) (ha : SA X S g g1 ms (e :: es) fr)
    (h0 : g[i]? = some (some (.own m0)) := by rfl) (hg : g1[i]? = some (some (.own m)) := by rfl) (hN : X.N[i]? = some x := by rfl) (hv : Vis X.env.scope x := by first | exact Or.inl rfl | exact Or.inr (Or.inl rfl) | exact Or.inr (Or.inr rfl))
    (hd : (x == ("__debug__" : Str)) = false := by decide) (hcd : (x == ("__classdict__" : Str)) = false := by decide)
    (hbase : attributeBase (.Name x npos) name X.env (eval (.Name x npos) X.env) = eval (.Name x npos) X.env := by rfl)
    (hfew : ((backTo cpos (starEach (e :: es) X.env)).all (fun x => !x.1) && (backToKw cpos (keywordEach [] X.env)).all (fun x => x.1.isSome)
      && decide ((e :: es).length + ([] : List Keyword).length + (if ([] : List Keyword).isEmpty then 0 else 1) < 30)) = true := by rfl)
    (hline : (apos.endLine == cpos.line) = true := by rfl) (hs : starEach (e :: es) X.env = (false, eval e X.env) :: starEach es X.env := by rfl) (hplain : (backTo cpos (starEach es X.env)).any (·.1) = false := by rfl) :
    SE X S g g1 (.sh 0) (.Call (.Attribute (.Name x npos) name apos) (e :: es) [] cpos) (mSlm i h fr) := ⟨fun ok => by
  obtain ⟨⟨ta, p1, p2⟩, o1, l1⟩ := ha.run ok
  exact ⟨⟨_, pe_bm PySem.F.plainAttrs_list slot hty hm (pe_var hN hv hd hcd) p1 hbase hfew hline hs hplain, re_slm i p2 hr h0 hg _ fun σ H Q a vs e1 e2 k => ⟨.ref a, e1, .inl ⟨rfl, vs, SqL.of e2⟩, k⟩⟩, o1, Nat.zero_le _⟩⟩
theorem se_slm0 (i : Nat) (slot : Slot "list" name id) (hty : typeOf (.builtin id) = pure (.type "method_descriptor")) (hm : MtR X id r) (hr : RM S m [] r h)
    (hg : g[i]? = some (some (.own m)) := by rfl) (hN : X.N[i]? = some x := by rfl) (hv : Vis X.env.scope x := by first | exact Or.inl rfl | exact Or.inr (Or.inl rfl) | exact Or.inr (Or.inr rfl))
    (hd : (x == ("__debug__" : Str)) = false := by decide) (hcd : (x == ("__classdict__" : Str)) = false := by decide)
    (hbase : attributeBase (.Name x npos) name X.env (eval (.Name x npos) X.env) = eval (.Name x npos) X.env := by rfl) (hline : (apos.endLine == cpos.line) = true := by rfl) :
    SE X S g g (.sh 0) (.Call (.Attribute (.Name x npos) name apos) [] [] cpos) (mSlm i h aNil) := ⟨fun ok => by
  refine ⟨⟨_, pe_bm0 PySem.F.plainAttrs_list slot hty hm (pe_var hN hv hd hcd) hbase hline, re_slm (ta := tNil) i ra_nil hr hg hg _ fun σ H Q a vs e1 e2 k => ⟨.ref a, e1, .inl ⟨rfl, vs, SqL.of e2⟩, k⟩⟩, ok, Nat.zero_le _⟩⟩
end

/-! ### the methods -/
def hAppend : List D → List D → Option (List D)
  | ds, [b] => if ds.length < 100000 then some (ds ++ [b]) else none
  | _, _ => none
def hInsert : List D → List D → Option (List D)
  | ds, [.int i, b] => if ds.length < 100000 ∧ 0 ≤ i ∧ i < 2 ^ 63 then some (ds.take i.toNat ++ [b] ++ ds.drop i.toNat) else none
  | _, _ => none
def hExtend : List D → List D → Option (List D)
  | ds, [.lst bs] => if ds.length + bs.length ≤ 100000 then some (ds ++ bs) else none
  | _, _ => none
def hReverse : List D → List D → Option (List D)
  | ds, [] => some ds.reverse
  | _, _ => none
section
variable {S : Sx} {m m1 m2 : Md}
theorem RepA.one {w : Om} {H : Hp} {vs : List V} {d : D} {fp : List Addr} (h : RepA S w H [m1] vs [d] fp) : ∃ v, vs = [v] ∧ Rep S w H m1 v d fp := by
  cases h with
  | cons h t =>
    cases t
    rw [List.append_nil]
    exact ⟨_, rfl, h⟩
theorem RepA.two {w : Om} {H : Hp} {vs : List V} {d d2 : D} {fp : List Addr} (h : RepA S w H [m1, m2] vs [d, d2] fp) : ∃ v v2 f f2, vs = [v, v2] ∧ Rep S w H m1 v d f ∧ Rep S w H m2 v2 d2 f2 ∧ fp = f ++ f2 := by
  cases h with
  | cons h t =>
    obtain ⟨v2, e, h2⟩ := t.one
    subst e
    exact ⟨_, _, _, _, rfl, h, h2, rfl⟩
theorem rm_append (hm : m1.le m = true) : RM S m [m1] rAppend hAppend := by
  intro w H a vs as ds bs ds' fp fq Q ha L A e q
  cases A with
  | cons h t =>
    cases t
    rw [List.append_nil] at q
    simp only [hAppend] at e
    split at e
    · rename_i hz
      cases e
      exact ⟨a, vs, _, rfl, rfl, ha, by rw [L.length]; exact Evl.sz_lt hz, q _ _ (L.append (RepL.one (h.le hm))) id fun x hx => hx⟩
    · cases e
theorem rm_insert (hm : m2.le m = true) : RM S m [m1, m2] (fun x vs H Q => ∃ (l : Addr) (xs : List V) (i : Int) (y : V), x = .ref l ∧ vs = [.int i, y] ∧ H l = some (.lst xs) ∧ xs.length < sizeLine ∧ 0 ≤ i ∧ i < 2 ^ 63 ∧ Q .non (upd H l (.lst (xs.take i.toNat ++ [y] ++ xs.drop i.toNat)))) hInsert := by
  intro w H a vs as ds bs ds' fp fq Q ha L A e q
  cases A with
  | cons h t =>
    cases t with
    | cons h2 t =>
      cases t
      simp only [hInsert] at e
      split at e
      · rename_i i b e1
        cases e1
        split at e
        · rename_i hz
          cases e
          obtain ⟨rfl, rfl⟩ := h.int
          obtain ⟨f1, f2, e, L1, L2⟩ := L.split i.toNat
          subst e
          refine ⟨a, vs, i, _, rfl, rfl, ha, by rw [L.length]; exact Evl.sz_lt hz.1, hz.2.1, hz.2.2, q _ _ ((L1.append (RepL.one (h2.le hm))).append L2) (fun nd => ?_) fun x hx => ?_⟩
          · rw [List.append_nil, List.nil_append] at nd
            refine List.Perm.nodup ?_ nd
            rw [List.append_assoc, List.append_assoc]
            exact List.Perm.append_left _ List.perm_append_comm
          · rw [List.append_nil, List.nil_append]
            simp only [List.mem_append] at hx ⊢
            rcases hx with (h | h) | h
            · exact .inl (.inl h)
            · exact .inr h
            · exact .inl (.inr h)
        · cases e
      · cases e
theorem rm_extend (hm : m1.em.le m = true) : RM S m [m1] rExtend hExtend := by
  intro w H a vs as ds bs ds' fp fq Q ha L A e q
  cases A with
  | cons h t =>
    cases t
    rw [List.append_nil] at q
    simp only [hExtend] at e
    split at e
    · rename_i bs e1
      cases e1
      split at e
      · rename_i hz
        cases e
        cases h with
        | sh h =>
          cases h with
          | lst h1 h2 =>
            have L2 : RepL S w H m _ bs [] := (RepL.sh h2).to rfl rfl hm (fun _ _ _ e => ⟨e, rfl⟩) fun _ _ => rfl
            refine ⟨a, _, vs, _, rfl, rfl, ha, h1.2, by rw [L.length, L2.length]; exact Evl.sz_of hz, q _ _ (L.append L2) ?_ fun x hx => hx⟩
            exact id
        | sc h => exact (isSc_lst h).elim
        | own h1 h2 =>
          have L2 : RepL S w H m _ bs _ := h2.to rfl rfl hm (fun _ _ _ e => ⟨e, rfl⟩) fun _ _ => rfl
          refine ⟨a, _, vs, _, rfl, rfl, ha, h1, by rw [L.length, L2.length]; exact Evl.sz_of hz, q _ _ (L.append L2) (fun nd => ?_) fun x hx => ?_⟩
          · exact nd.sublist (List.Sublist.append_left (List.sublist_cons_self _ _) _)
          · rcases List.mem_append.mp hx with h | h
            · exact List.mem_append_left _ h
            · exact List.mem_append_right _ (List.mem_cons_of_mem _ h)
      · cases e
    · cases e
theorem RepL.reverse {w : Om} {H : Hp} : ∀ {vs : List V} {ds : List D} {fp : List Addr}, RepL S w H m vs ds fp → ∃ fp', RepL S w H m vs.reverse ds.reverse fp' ∧ fp'.Perm fp
  | _, _, _, .nil => ⟨[], .nil, .refl _⟩
  | _, _, _, .cons (f := f) (g := g) h t => by
    obtain ⟨fp', h1, h2⟩ := RepL.reverse t
    rw [List.reverse_cons, List.reverse_cons]
    exact ⟨fp' ++ f, h1.append (RepL.one h), List.perm_append_comm.trans (h2.append_left f)⟩
theorem rm_reverse : RM S m [] rReverse hReverse := by
  intro w H a vs as ds bs ds' fp fq Q ha L A e q
  cases A
  simp only [hReverse] at e
  cases e
  obtain ⟨fp', h1, h2⟩ := L.reverse
  exact ⟨a, vs, rfl, rfl, ha, q _ fp' h1 (fun nd => by rw [List.append_nil] at nd; exact h2.symm.nodup nd) fun x hx => by rw [List.append_nil]; exact h2.mem_iff.mp hx⟩
end

/-! ### locks: an owned name read for a while -/
def Sx.dp (S : Sx) : Sx := { S with n := S.n + 1, gx := [] }
def mLock (i : Nat) (f : ME) : ME := fun e => match e[i]? with
  | some x => match f e with
    | .ok d e1 => .ok d (e1.set i x)
    | _ => .no
  | none => .no
def tLock (i : Nat) (f : MT) : MT := fun e => match e[i]? with
  | some x => match f e with
    | .ok d e1 => .ok d (e1.set i x)
    | _ => .no
  | none => .no
def sLock (i : Nat) (f : MS) : MS := fun e => match e[i]? with
  | some x => match f e with
    | .nx e1 => .nx (e1.set i x)
    | .rt d e1 => .rt d (e1.set i x)
    | .bk e1 => .bk (e1.set i x)
    | .ct e1 => .ct (e1.set i x)
    | _ => .no
  | none => .no
section
variable {S : Sx} {g : Ctx} {w : Om} {σ : St} {H : Hp} {env : Env} {i : Nat} {m : Md} {v : V} {d : D} {fp : List Addr}
theorem okg_lock (hl : m.lev ≤ S.n) (h : OkG S.n g) : OkG S.dp.n (g.set i (some (.sh (S.n + 1)))) := okg_set (fun j m' e => Nat.le_succ_of_le (h j m' e)) fun m' e => by cases e; exact Nat.le_refl _
/-- the owned slot at the level above, for a while -/
theorem Rel.lock (R : Rel S g w σ H env) (hg : g[i]? = some (some m)) (hl : m.lev ≤ S.n) (hi : i < g.length) : ∃ v d fp, σ[i]? = some (some v) ∧ env[i]? = some (some d) ∧ Rep S w H m v d fp ∧ fp.Nodup ∧ (∀ a ∈ fp, w a = some (.slot i)) ∧
    Ext w H (lab fp (.lvl (S.n + 1)) w) H ∧ Rel S.dp (g.set i (some (.sh (S.n + 1)))) (lab fp (.lvl (S.n + 1)) w) σ H env := by
  obtain ⟨v, d, fp, h1, h2, h3, h4, h5⟩ := R.slot i m hg
  have key : ∀ b y, w b = some y → y ≠ .slot i → lab fp (.lvl (S.n + 1)) w b = some y := fun b y e ne => by
    rw [lab_out]
    · exact e
    · intro hb
      rw [h5 b hb] at e
      exact ne (Option.some.inj e).symm
  have ex : Ext w H (lab fp (.lvl (S.n + 1)) w) H := fun b k e => ⟨key b _ e (by simp), rfl⟩
  refine ⟨v, d, fp, h1, h2, h3, h4, h5, ex, ⟨fun b y e => ?_, fun j m' e => ?_, R.len, by rw [List.length_set]; exact R.gl⟩⟩
  · by_cases hb : b ∈ fp
    · exact R.dom b _ (h5 b hb)
    · rw [lab_out hb] at e
      exact R.dom b y e
  · by_cases hj : i = j
    · subst hj
      rw [List.getElem?_set_self hi] at e
      cases e
      have z : Rep S (lab fp (.lvl (S.n + 1)) w) H m v d fp := h3.to rfl rfl (Md.le_refl _) ex.keep fun _ _ => rfl
      have z2 : Shr S (lab fp (.lvl (S.n + 1)) w) H (S.n + 1) v d := z.fz (Nat.le_succ_of_le hl) fun a ha => ⟨S.n + 1, Nat.le_refl _, lab_in ha⟩
      exact ⟨v, d, [], h1, h2, .sh (Shr.to (S := S) (S' := S.dp) (fun _ _ _ e => ⟨e, rfl⟩) (Nat.le_refl _) rfl rfl z2), List.nodup_nil, fun a ha => by simp at ha⟩
    · rw [List.getElem?_set_ne hj] at e
      obtain ⟨v', d', f, k1, k2, k3, k4, k5⟩ := R.slot j m' e
      exact ⟨v', d', f, k1, k2, Rep.to (S := S) (S' := S.dp) rfl rfl k3 (Md.le_refl _) ex.keep (fun _ _ => rfl), k4, fun x hx => key x _ (k5 x hx) (by intro z; injection z with z; exact hj z.symm)⟩
/-- .. and back: g1 the slots behind, none of them at that level but i's -/
theorem Rel.unlock {g1 : Ctx} {w2 : Om} {H2 : Hp} {σ2 : St} {env2 : Env} (R2 : Rel S.dp g1 w2 σ2 H2 env2) (hi : i < g1.length) (ok : OkG S.n (g1.set i none)) (h3 : Rep S w H m v d fp) (hl : m.lev ≤ S.n) (nd : fp.Nodup)
    (x : Ext (lab fp (.lvl (S.n + 1)) w) H w2 H2) (hw : ∀ a ∈ fp, w a = some (.slot i)) (hσ : σ2[i]? = some (some v)) :
    Rel S (g1.set i (some m)) (lab fp (.slot i) w2) σ2 H2 (env2.set i (some d)) ∧ Keep S.n w2 H2 (lab fp (.slot i) w2) H2 ∧ Ext w H (lab fp (.slot i) w2) H2 ∧ (∀ a y, w2 a = some y → y ≠ .lvl (S.n + 1) → lab fp (.slot i) w2 a = some y) := by
  have lv : ∀ a ∈ fp, w2 a = some (.lvl (S.n + 1)) ∧ H2 a = H a := fun a ha => x a _ (lab_in ha)
  have key : ∀ b y, w2 b = some y → y ≠ .lvl (S.n + 1) → lab fp (.slot i) w2 b = some y := fun b y e ne => by
    rw [lab_out]
    · exact e
    · intro hb
      rw [(lv b hb).1] at e
      exact ne (Option.some.inj e).symm
  have kp : Keep S.n w2 H2 (lab fp (.slot i) w2) H2 := fun b k hk e => ⟨key b _ e (by intro z; injection z with z; omega), rfl⟩
  have ex : Ext w H (lab fp (.slot i) w2) H2 := fun b k e => by
    have nb : b ∉ fp := fun hb => by rw [hw b hb] at e; cases e
    have e' : lab fp (.lvl (S.n + 1)) w b = some (.lvl k) := by rw [lab_out nb]; exact e
    obtain ⟨y1, y2⟩ := x b k e'
    exact ⟨by rw [lab_out nb]; exact y1, y2⟩
  have hσl : i < σ2.length := (List.getElem?_eq_some_iff.mp hσ).1
  refine ⟨⟨fun b y e => ?_, fun j m' e => ?_, by rw [List.length_set]; exact R2.len, by rw [List.length_set]; exact R2.gl⟩, kp, ex, key⟩
  · by_cases hb : b ∈ fp
    · exact R2.dom b _ (lv b hb).1
    · rw [lab_out hb] at e
      exact R2.dom b y e
  · by_cases hj : i = j
    · subst hj
      rw [List.getElem?_set_self hi] at e
      cases e
      exact ⟨v, d, fp, hσ, List.getElem?_set_self (by rw [R2.len]; exact hσl), h3.to rfl rfl (Md.le_refl _) ex.keep fun a ha => (lv a ha).2, nd, fun a ha => lab_in ha⟩
    · rw [List.getElem?_set_ne hj] at e
      obtain ⟨v', d', f, k1, k2, k3, k4, k5⟩ := R2.slot j m' e
      have lm : m'.lev ≤ S.n := ok j m' (by rw [List.getElem?_set_ne hj]; exact e)
      exact ⟨v', d', f, k1, by rw [List.getElem?_set_ne hj]; exact k2, Rep.to (S := S.dp) (S' := S) rfl rfl k3 (Md.le_refl _) (fun a k hk q => kp a k (Nat.le_trans hk lm) q) (fun _ _ => rfl), k4, fun y hy => key y _ (k5 y hy) (by simp)⟩
end
section
variable {X : Cx} {S : Sx} {T : Fx} {g g1 : Ctx} {m md : Md} {a : Expr} {fa : ME} {ca : MT} {f : MS} {st : Stmt}
instance gd_dp [gd : Gd X S] : Gd X S.dp := ⟨gd.K, gd.calm, gd.nd, gd.room, gd.gs, gd.pass, gd.po⟩
def lockOk (n i : Nat) (g1 : Ctx) : Bool := decide (i < g1.length) && (g1.set i none).all fun m => match m with
  | some m => decide (m.lev ≤ n)
  | none => true
theorem lockOk_ok {n i : Nat} (h : lockOk n i g1 = true) : i < g1.length ∧ OkG n (g1.set i none) := by
  simp only [lockOk, Bool.and_eq_true, decide_eq_true_eq, List.all_eq_true] at h
  exact ⟨h.1, fun j m' e => by simpa using h.2 (some m') (List.mem_of_getElem? e)⟩
/-- an expression within which the owned name i is only read -/
theorem se_lock (i : Nat) (h : SE X S.dp (g.set i (some (.sh (S.n + 1)))) g1 md a fa) (hg : g[i]? = some (some m) := by rfl) (hd : md.lev ≤ S.n := by exact Nat.le_of_ble_eq_true rfl) (ho : lockOk S.n i g1 = true := by rfl) : SE X S g (g1.set i (some m)) md a (mLock i fa) := ⟨fun ok => by
  have hl := ok i m hg
  have hi : i < g.length := (List.getElem?_eq_some_iff.mp hg).1
  obtain ⟨hi1, ok1⟩ := lockOk_ok ho
  obtain ⟨⟨ta, p1, p2⟩, o1, l1⟩ := h.run (okg_lock hl ok)
  refine ⟨⟨_, p1, fun w σ H env Q R q => ?_⟩, fun j m' e => ?_, hd⟩
  · obtain ⟨v, d, fp, h1, h2, h3, h4, h5, ex, R'⟩ := R.lock hg hl hi
    unfold mLock at q
    rw [h2] at q
    cases ef : fa env with
    | no => simp only [ef] at q; exact q.elim
    | ex y e => simp only [ef] at q; exact q.elim
    | ok dd e1 =>
      simp only [ef] at q
      refine p2 _ σ H env Q R' ?_
      rw [ef]
      intro v2 w2 H2 x2 R2 V2
      obtain ⟨R3, kp, x3, key⟩ := R2.unlock hi1 ok1 h3 hl h4 x2 h5 h1
      obtain ⟨f2, z1, z2, z3⟩ := V2
      exact q v2 _ H2 x3 R3 ⟨f2, Rep.to (S := S.dp) (S' := S) rfl rfl z1 (Md.le_refl _) (fun a k hk e => kp a k (Nat.le_trans hk hd) e) (fun _ _ => rfl), z2, fun a ha => key a _ (z3 a ha) (by simp)⟩
  · by_cases hj : i = j
    · subst hj
      rw [List.getElem?_set_self hi1] at e
      cases e
      exact hl
    · rw [List.getElem?_set_ne hj] at e
      exact ok1 j m' (by rw [List.getElem?_set_ne hj]; exact e)⟩
theorem st_lock (i : Nat) (h : ST X S.dp (g.set i (some (.sh (S.n + 1)))) g1 a ca) (hg : g[i]? = some (some m) := by rfl) (ho : lockOk S.n i g1 = true := by rfl) : ST X S g (g1.set i (some m)) a (tLock i ca) := ⟨fun ok => by
  have hl := ok i m hg
  have hi : i < g.length := (List.getElem?_eq_some_iff.mp hg).1
  obtain ⟨hi1, ok1⟩ := lockOk_ok ho
  obtain ⟨⟨ta, p1, p2⟩, o1⟩ := h.run (okg_lock hl ok)
  refine ⟨⟨_, p1, fun w σ H env Q R q => ?_⟩, fun j m' e => ?_⟩
  · obtain ⟨v, d, fp, h1, h2, h3, h4, h5, ex, R'⟩ := R.lock hg hl hi
    unfold tLock at q
    rw [h2] at q
    cases ef : ca env with
    | no => simp only [ef] at q; exact q.elim
    | ex y e => simp only [ef] at q; exact q.elim
    | ok dd e1 =>
      simp only [ef] at q
      refine p2 _ σ H env Q R' ?_
      rw [ef]
      intro w2 H2 x2 R2
      obtain ⟨R3, kp, x3, key⟩ := R2.unlock hi1 ok1 h3 hl h4 x2 h5 h1
      exact q _ H2 x3 R3
  · by_cases hj : i = j
    · subst hj
      rw [List.getElem?_set_self hi1] at e
      cases e
      exact hl
    · rw [List.getElem?_set_ne hj] at e
      exact ok1 j m' (by rw [List.getElem?_set_ne hj]; exact e)⟩
/-- the contexts at a return, a break, a continue within a lock -/
def Fx.lk (T : Fx) (i : Nat) : Fx := { T with F := i :: T.F, gr := T.gr.set i none, gb := T.gb.set i none, gc := T.gc.set i none }
/-- what the outer context says of i is what it was -/
def lkTo (i : Nat) (m : Md) (g : Ctx) : Bool := match g[i]? with
  | some (some m') => m == m'
  | _ => true
theorem set_set_back {i : Nat} {m : Md} {g : Ctx} (h : lkTo i m g = true) : ∀ (j : Nat) (m' : Md), g[j]? = some (some m') → ((g.set i none).set i (some m))[j]? = some (some m') := fun j m' e => by
  have hj : j < g.length := (List.getElem?_eq_some_iff.mp e).1
  by_cases hij : i = j
  · subst hij
    unfold lkTo at h
    rw [e] at h
    have : m = m' := by simpa using h
    subst this
    rw [List.getElem?_set_self (by rw [List.length_set]; exact hj)]
  · rw [List.getElem?_set_ne hij, List.getElem?_set_ne hij]
    exact e
theorem Rel.fewer {S : Sx} {g g' : Ctx} {w : Om} {σ : St} {H : Hp} {env : Env} (R : Rel S g w σ H env) (h : ∀ (j : Nat) (m' : Md), g'[j]? = some (some m') → g[j]? = some (some m')) (hl : g'.length ≤ g.length) : Rel S g' w σ H env :=
  ⟨R.dom, fun j m' e => R.slot j m' (h j m' e), R.len, Nat.le_trans hl R.gl⟩
def levs (n : Nat) (g : Ctx) : Bool := g.all fun m => match m with
  | some m => decide (m.lev ≤ n)
  | none => true
theorem levs_ok {n : Nat} {g : Ctx} (h : levs n g = true) : OkG n g := fun j m' e => by
  simp only [levs, List.all_eq_true] at h
  simpa using h (some m') (List.mem_of_getElem? e)
/-- from the inner state of a lock to the outer one, for a context g0 -/
theorem lock_out {S : Sx} {g0 : Ctx} {w w2 : Om} {σ2 : St} {H H2 : Hp} {env2 : Env} {i : Nat} {m : Md} {v : V} {d : D} {fp : List Addr} (R2 : Rel S.dp (g0.set i none) w2 σ2 H2 env2) (lv : levs S.n g0 = true) (h3 : Rep S w H m v d fp) (hl : m.lev ≤ S.n) (nd : fp.Nodup)
    (x : Ext (lab fp (.lvl (S.n + 1)) w) H w2 H2) (hw : ∀ a ∈ fp, w a = some (.slot i)) (hσ : σ2[i]? = some (some v)) (hk : lkTo i m g0 = true) (hi : i < g0.length ∨ g0 = []) :
    ∃ w3, Ext w H w3 H2 ∧ Rel S g0 w3 σ2 H2 (env2.set i (some d)) ∧ Keep S.n w2 H2 w3 H2 ∧ (∀ a y, w2 a = some y → y ≠ .lvl (S.n + 1) → w3 a = some y) := by
  have hi : i < g0.length ∨ g0 = [] := hi
  rcases hi with hi | hi
  · obtain ⟨R3, kp, x3, key⟩ := R2.unlock (by rw [List.length_set]; exact hi) (fun j m' e => by
      by_cases hij : i = j
      · subst hij
        rw [List.getElem?_set_self (by rw [List.length_set]; exact hi)] at e
        cases e
      · rw [List.getElem?_set_ne hij, List.getElem?_set_ne hij] at e
        exact levs_ok lv j m' e) h3 hl nd x hw hσ
    exact ⟨_, x3, R3.fewer (set_set_back hk) (by rw [List.length_set, List.length_set]; exact Nat.le_refl _), kp, key⟩
  · subst hi
    -- nothing is told: the labels as they are, but those of i
    have lvf : ∀ a ∈ fp, w2 a = some (.lvl (S.n + 1)) ∧ H2 a = H a := fun a ha => x a _ (lab_in ha)
    have key : ∀ b y, w2 b = some y → y ≠ .lvl (S.n + 1) → lab fp (.slot i) w2 b = some y := fun b y e ne => by
      rw [lab_out]
      · exact e
      · intro hb
        rw [(lvf b hb).1] at e
        exact ne (Option.some.inj e).symm
    refine ⟨lab fp (.slot i) w2, fun b k e => ?_, ⟨fun b y e => ?_, fun j m' e => by simp at e, by rw [List.length_set]; exact R2.len, Nat.zero_le _⟩, fun b k hk' e => ⟨key b _ e (by intro z; injection z with z; omega), rfl⟩, key⟩
    · have nb : b ∉ fp := fun hb => by rw [hw b hb] at e; cases e
      have e' : lab fp (.lvl (S.n + 1)) w b = some (.lvl k) := by rw [lab_out nb]; exact e
      obtain ⟨y1, y2⟩ := x b k e'
      exact ⟨by rw [lab_out nb]; exact y1, y2⟩
    · by_cases hb : b ∈ fp
      · exact R2.dom b _ (lvf b hb).1
      · rw [lab_out hb] at e
        exact R2.dom b y e
def lkAll (n i : Nat) (m : Md) (T : Fx) : Bool := levs n T.gr && levs n T.gb && levs n T.gc && lkTo i m T.gr && lkTo i m T.gb && lkTo i m T.gc && (decide (i < T.gr.length) || T.gr == []) && (decide (i < T.gb.length) || T.gb == []) && (decide (i < T.gc.length) || T.gc == []) && decide (T.rm.lev ≤ n)
/-- a statement within which the owned name i is only read -/
theorem ss_lock (i : Nat) (h : SS X S.dp (T.lk i) (g.set i (some (.sh (S.n + 1)))) g1 st f) (hg : g[i]? = some (some m) := by rfl) (ho : lockOk S.n i g1 = true := by rfl) (hT : lkAll S.n i m T = true := by rfl) : SS X S T g (g1.set i (some m)) st (sLock i f) := ⟨fun ok => by
  have hl := ok i m hg
  have hi : i < g.length := (List.getElem?_eq_some_iff.mp hg).1
  obtain ⟨hi1, ok1⟩ := lockOk_ok ho
  obtain ⟨⟨ta, p1, p2⟩, o1⟩ := h.run (okg_lock hl ok)
  simp only [lkAll, Bool.and_eq_true, Bool.or_eq_true, decide_eq_true_eq, beq_iff_eq] at hT
  obtain ⟨⟨⟨⟨⟨⟨⟨⟨⟨t1, t2⟩, t3⟩, t4⟩, t5⟩, t6⟩, t7⟩, t8⟩, t9⟩, t10⟩ := hT
  refine ⟨⟨_, p1, fun w σ H env Dn R q => ?_⟩, fun j m' e => ?_⟩
  · obtain ⟨v, d, fp, h1, h2, h3, h4, h5, ex, R'⟩ := R.lock hg hl hi
    unfold sLock at q
    rw [h2] at q
    have fx : ∀ {σ2 : St}, Fix (i :: T.F) σ σ2 → Fix T.F σ σ2 ∧ σ2[i]? = some (some v) := fun {σ2} z => ⟨fun j hj => z j (List.mem_cons_of_mem _ hj), (z i List.mem_cons_self).trans h1⟩
    refine p2 _ σ H env Dn R' ?_
    cases ef : f env with
    | no => simp only [ef] at q; exact q.elim
    | ex y e => simp only [ef] at q; exact q.elim
    | nx e1 =>
      simp only [ef] at q
      intro σ2 w2 H2 fx2 x2 R2
      obtain ⟨f1, f2⟩ := fx fx2
      obtain ⟨R3, kp, x3, key⟩ := R2.unlock hi1 ok1 h3 hl h4 x2 h5 f2
      exact q σ2 _ H2 f1 x3 R3
    | bk e1 =>
      simp only [ef] at q
      intro σ2 w2 H2 fx2 x2 R2
      obtain ⟨f1, f2⟩ := fx fx2
      obtain ⟨w3, x3, R3, kp, key⟩ := lock_out R2 t2 h3 hl h4 x2 h5 f2 t5 t8
      exact q σ2 _ H2 f1 x3 R3
    | ct e1 =>
      simp only [ef] at q
      intro σ2 w2 H2 fx2 x2 R2
      obtain ⟨f1, f2⟩ := fx fx2
      obtain ⟨w3, x3, R3, kp, key⟩ := lock_out R2 t3 h3 hl h4 x2 h5 f2 t6 t9
      exact q σ2 _ H2 f1 x3 R3
    | rt dd e1 =>
      simp only [ef] at q
      intro v2 σ2 w2 H2 fx2 x2 R2 V2
      obtain ⟨f1, f2⟩ := fx fx2
      obtain ⟨w3, x3, R3, kp, key⟩ := lock_out R2 t1 h3 hl h4 x2 h5 f2 t4 t7
      obtain ⟨fr, z1, z2, z3⟩ := V2
      exact q v2 σ2 _ H2 f1 x3 R3 ⟨fr, Rep.to (S := S.dp) (S' := S) rfl rfl z1 (Md.le_refl _) (fun a k hk e => kp a k (Nat.le_trans hk t10) e) (fun _ _ => rfl), z2, fun a ha => key a _ (z3 a ha) (by simp)⟩
  · by_cases hj : i = j
    · subst hj
      rw [List.getElem?_set_self hi1] at e
      cases e
      exact hl
    · rw [List.getElem?_set_ne hj] at e
      exact ok1 j m' (by rw [List.getElem?_set_ne hj]; exact e)⟩
end
end G

/-! Fw8 -/
/-! comprehensions -/
namespace G
open PySem L2

/-- the same for another wish about exceptions -/
def Sx.no (S : Sx) : Sx := { S with E := E0, gx := [] }
section
variable {S S' : Sx} {g : Ctx} {w : Om} {σ : St} {H : Hp} {env : Env} {m : Md} {v : V} {d : D} {fp : List Addr}
theorem Rep.cast (hK : S'.K = S.K) (hc : S'.cl = S.cl) (h : Rep S w H m v d fp) : Rep S' w H m v d fp := h.to hK hc (Md.le_refl m) (fun _ _ _ e => ⟨e, rfl⟩) fun _ _ => rfl
theorem RepL.cast {vs : List V} {ds : List D} (hK : S'.K = S.K) (hc : S'.cl = S.cl) (h : RepL S w H m vs ds fp) : RepL S' w H m vs ds fp := h.to hK hc (Md.le_refl m) (fun _ _ _ e => ⟨e, rfl⟩) fun _ _ => rfl
theorem Rel.cast (hK : S'.K = S.K) (hc : S'.cl = S.cl) (h : Rel S g w σ H env) : Rel S' g w σ H env := ⟨h.dom, fun i m e => by
  obtain ⟨v, d, fp, h1, h2, h3, h4, h5⟩ := h.slot i m e
  exact ⟨v, d, fp, h1, h2, h3.cast hK hc, h4, h5⟩, h.len, h.gl⟩
end
instance gdBlk {X : Cx} {S : Sx} [gd : Gd X S] {s : Shared} {H : Hp} {scope : Scope} {ce : PySem.Env} {fp : List Addr} : Gd (X.blk s H scope ce fp) S.no := ⟨gd.K, gd.calm, gd.nd, gd.room, gd.gs, passL, .never⟩
instance gdBlk2 {X : Cx} {S : Sx} [gd : Gd X S.no] {s : Shared} {H : Hp} {scope : Scope} {ce : PySem.Env} {fp : List Addr} : Gd (X.blk s H scope ce fp) S.no := ⟨gd.K, gd.calm, gd.nd, gd.room, gd.gs, passL, .never⟩

/-- one reading for a family of contexts -/
theorem uniE {ι : Type} {Xs : ι → Cx} {S : Sx} {g g' : Ctx} {m : Md} {e : Expr} {f : ME} (h : ∀ i, ∃ t, PE (Xs i) e t ∧ RE S g g' m t f) : ∃ t, (∀ i, PE (Xs i) e t) ∧ RE S g g' m t f := by
  refine ⟨fun σ H Q => ∀ i, Classical.choose (h i) σ H Q, fun i => ⟨fun pins s σ H Q I q => (Classical.choose_spec (h i)).1.run pins s σ H Q I (q i)⟩, fun w σ H env Q R q i => ?_⟩
  exact (Classical.choose_spec (h i)).2 w σ H env Q R q
theorem uniG {ι : Type} {Xs : ι → Cx} {S : Sx} {bs : List Nat} {g g' : Ctx} {k : Nat} {tg : Expr} {b : D → Env → Option Env} (h : ∀ i, ∃ t, PG (Xs i) tg t ∧ RG S bs g g' k t b) : ∃ t, (∀ i, PG (Xs i) tg t) ∧ RG S bs g g' k t b := by
  refine ⟨fun x σ H Q => ∀ i, Classical.choose (h i) x σ H Q, fun i => ⟨fun pins s σ H v u Q I r q => (Classical.choose_spec (h i)).1.run pins s σ H v u Q I r (q i)⟩, fun w σ H env x d Q R sh q i => ?_⟩
  exact (Classical.choose_spec (h i)).2 w σ H env x d Q R sh q
/-- a clause's tests -/
structure STs (X : Cx) (S : Sx) (g g' : Ctx) (ifs : List Expr) (f : MT) : Prop where
  run : OkG S.n g → (∃ t, PTs X ifs t ∧ RT S g g' t f) ∧ OkG S.n g'
def tAll : MT := fun e => .ok true e
theorem sts_nil {X : Cx} {S : Sx} {g : Ctx} : STs X S g g [] tAll := ⟨fun ok => ⟨⟨_, pts_nil, fun w σ H env Q R q => q w H (Ext.refl _ _) R⟩, ok⟩⟩
theorem sts_one {X : Cx} {S : Sx} {g g' : Ctx} {c : Expr} {f : MT} (h : ST X S g g' c f) : STs X S g g' [c] f := ⟨fun ok => by
  obtain ⟨⟨t, p1, p2⟩, o⟩ := h.run ok
  exact ⟨⟨_, pts_one p1, p2⟩, o⟩⟩
theorem uniT {ι : Type} {Xs : ι → Cx} {S : Sx} {g g' : Ctx} {ifs : List Expr} {f : MT} (h : ∀ i, ∃ t, PTs (Xs i) ifs t ∧ RT S g g' t f) : ∃ t, (∀ i, PTs (Xs i) ifs t) ∧ RT S g g' t f := by
  refine ⟨fun σ H Q => ∀ i, Classical.choose (h i) σ H Q, fun i => ⟨fun pins s σ H Q I q => (Classical.choose_spec (h i)).1.run pins s σ H Q I (q i)⟩, fun w σ H env Q R q i => ?_⟩
  exact (Classical.choose_spec (h i)).2 w σ H env Q R q

/-- the block's own names forgotten -/
def wipeE (e : Env) : List Nat → Env
  | [] => e
  | v :: vs => (wipeE e vs).set v none
def wipeG (g : Ctx) : List Nat → Ctx
  | [] => g
  | v :: vs => (wipeG g vs).set v none
theorem wipeE_length (e : Env) : ∀ vs : List Nat, (wipeE e vs).length = e.length
  | [] => rfl
  | v :: vs => by unfold wipeE; rw [List.length_set, wipeE_length e vs]
theorem wipeG_length (e : Ctx) : ∀ vs : List Nat, (wipeG e vs).length = e.length
  | [] => rfl
  | v :: vs => by unfold wipeG; rw [List.length_set, wipeG_length e vs]
theorem wipeE_out {e : Env} {i : Nat} : ∀ {vs : List Nat}, i ∉ vs → (wipeE e vs)[i]? = e[i]?
  | [], _ => rfl
  | v :: vs, h => by
    have h1 : v ≠ i := fun e => h (by rw [e]; exact List.mem_cons_self)
    unfold wipeE
    rw [List.getElem?_set_ne h1]
    exact wipeE_out fun m => h (List.mem_cons_of_mem _ m)
theorem wipeG_some {g : Ctx} {i : Nat} {m : Md} : ∀ {vs : List Nat}, (wipeG g vs)[i]? = some (some m) → g[i]? = some (some m) ∧ i ∉ vs
  | [], h => ⟨h, by simp⟩
  | v :: vs, h => by
    unfold wipeG at h
    by_cases hi : v = i
    · subst hi
      by_cases hv : v < (wipeG g vs).length
      · rw [List.getElem?_set_self hv] at h; cases h
      · rw [List.getElem?_eq_none (by simpa using hv)] at h; cases h
    · rw [List.getElem?_set_ne hi] at h
      obtain ⟨h1, h2⟩ := wipeG_some h
      exact ⟨h1, by simp only [List.mem_cons, not_or]; exact ⟨fun e => hi e.symm, h2⟩⟩
theorem wipe_in {σ : St} {i : Nat} : ∀ {vs : List Nat}, i ∈ vs → (wipe σ vs)[i]? = none ∨ (wipe σ vs)[i]? = some none
  | v :: vs, h => by
    unfold wipe
    by_cases hi : v = i
    · subst hi
      by_cases hv : v < (wipe σ vs).length
      · exact .inr (List.getElem?_set_self hv)
      · exact .inl (List.getElem?_eq_none (by simpa using hv))
    · rw [List.getElem?_set_ne hi]
      exact wipe_in ((List.mem_cons.mp h).resolve_left fun e => hi e.symm)
theorem wipe_eq {σ1 σ2 : St} {vs : List Nat} (hl : σ2.length = σ1.length) (h : ∀ j, j ∉ vs → σ2[j]? = σ1[j]?) : wipe σ2 vs = wipe σ1 vs := by
  refine List.ext_getElem? fun j => ?_
  by_cases hj : j ∈ vs
  · have l : (wipe σ2 vs).length = (wipe σ1 vs).length := by rw [wipe_length, wipe_length, hl]
    rcases wipe_in (σ := σ1) hj with a | a <;> rcases wipe_in (σ := σ2) hj with b | b
    · rw [a, b]
    · have := (List.getElem?_eq_some_iff.mp b).1
      rw [l] at this
      rw [List.getElem?_eq_getElem this] at a
      cases a
    · have := (List.getElem?_eq_some_iff.mp a).1
      rw [← l] at this
      rw [List.getElem?_eq_getElem this] at b
      cases b
    · rw [a, b]
  · rw [wipe_out hj, wipe_out hj]
    exact h j hj
section
variable {S : Sx} {g : Ctx} {w : Om} {σ : St} {H : Hp} {env : Env}
theorem Rel.wiped (R : Rel S g w σ H env) (vs : List Nat) : Rel S (wipeG g vs) w (wipe σ vs) H (wipeE env vs) := ⟨R.dom, fun i m e => by
  obtain ⟨e1, e2⟩ := wipeG_some e
  obtain ⟨v, d, fp, h1, h2, h3, h4, h5⟩ := R.slot i m e1
  exact ⟨v, d, fp, by rw [wipe_out e2]; exact h1, by rw [wipeE_out e2]; exact h2, h3, h4, h5⟩, by rw [wipeE_length, wipe_length]; exact R.len, by rw [wipeG_length, wipe_length]; exact R.gl⟩
/-- the frame's own slots again: none of the block's names is told -/
theorem Rel.unwipe {g1 : Ctx} {vs : List Nat} {σ0 : St} (R : Rel S g1 w (wipe σ0 vs) H env) (hv : ∀ j ∈ vs, ∀ m : Md, g1[j]? ≠ some (some m)) : Rel S g1 w σ0 H env := ⟨R.dom, fun i m e => by
  obtain ⟨v, d, fp, h1, h2, h3, h4, h5⟩ := R.slot i m e
  exact ⟨v, d, fp, by rw [wipe_out fun z => hv i z m e] at h1; exact h1, h2, h3, h4, h5⟩, by rw [R.len, wipe_length], by have := R.gl; rw [wipe_length] at this; exact this⟩
end
def lcEach (b : D → Env → Option Env) (ct : MT) (fe : ME) (vs : List Nat) : List D → Env → List D → R (List D)
  | [], e, acc => .ok acc e
  | d :: ds, e, acc => match b d e with
    | none => .no
    | some e1 => match ct e1 with
      | .ok true e2 => match fe e2 with
        | .ok y e3 => if acc.length < 100000 then lcEach b ct fe vs ds (wipeE e3 vs) (acc ++ [y]) else .no
        | _ => .no
      | .ok false e2 => lcEach b ct fe vs ds (wipeE e2 vs) acc
      | _ => .no
def mLc (fi : MA) (b : D → Env → Option Env) (ct : MT) (fe : ME) (vs : List Nat) : ME := fun e => (fi e).bind fun ds e1 => match lcEach b ct fe vs ds (wipeE e1 vs) [] with
  | .ok ys e2 => .ok (.lst ys) e2
  | _ => .no
def noneAt (vs : List Nat) (g : Ctx) : Bool := vs.all fun j => match g[j]? with
  | some (some _) => false
  | _ => true
theorem noneAt_ok {vs : List Nat} {g : Ctx} (h : noneAt vs g = true) : ∀ j ∈ vs, ∀ m : Md, g[j]? ≠ some (some m) := fun j hj m e => by
  simp only [noneAt, List.all_eq_true] at h
  have := h j hj
  rw [e] at this
  cases this
section
variable {X : Cx} {S : Sx} {g g1 g2 g3 g4 : Ctx} {k : Nat} {m : Md} {tg it elt : Expr} {ifs : List Expr} {fi : MA} {b : D → Env → Option Env} {ct : MT} {fe : ME} {scope : Scope} {own : List (Str × Nat)} {pos : Pos} {bs : List Nat}
theorem re_lc {wi : TI} {gt : TG} {tt : TT} {te : TE} {vs : List Nat} (hi : RI S g g1 k wi fi) (o1 : OkG S.n g1) (hg : RG S.no bs g1 g2 k gt b) (hbs : ∀ j ∈ bs, j ∈ vs) (hv : noneAt vs g1 = true) (ht : RT S.no g2 g3 tt ct) (he : RE S.no g3 g4 m te fe) (o4 : OkG S.n g4) (lm : m.lev ≤ S.n)
    (w3 : wkB S.n g3 g1 = true) (w4 : wkB S.n g4 g1 = true) : RE S g g1 (.own m) (tLc wi gt tt te vs) (mLc fi b ct fe vs) := by
  intro w σ H env Q R q
  have q := Out.bind q
  have nv := noneAt_ok hv
  refine hi w σ H env _ R (Out.mono q (Ext.refl _ _) fun ds e q1 J w1 H1 x1 R1 W1 => ?_)
  intro Dl hD
  -- the new list at the level above
  have gr0 := Grow.one (o := HO.lst []) (x := Ow.lvl (S.n + 1)) R1.dom hD
  have R2 := (R1.grow gr0).wiped vs
  have wg : wipeG g1 vs = g1 := by
    refine List.ext_getElem? fun j => ?_
    by_cases hj : j ∈ vs
    · cases e1 : (wipeG g1 vs)[j]? with
      | none =>
        have := List.getElem?_eq_none_iff.mp e1
        rw [wipeG_length] at this
        rw [List.getElem?_eq_none_iff.mpr this]
      | some mm =>
        have hl := (List.getElem?_eq_some_iff.mp e1).1
        rw [wipeG_length] at hl
        cases mm with
        | some mm => exact absurd hj (wipeG_some e1).2
        | none =>
          cases e2 : g1[j]? with
          | none => rw [List.getElem?_eq_getElem hl] at e2; cases e2
          | some mm =>
            cases mm with
            | none => rfl
            | some mm => exact absurd e2 (nv j hj mm)
    · have : ∀ vs : List Nat, j ∉ vs → (wipeG g1 vs)[j]? = g1[j]? := fun vs => by
        induction vs with
        | nil => intro _; rfl
        | cons v vs ih =>
          intro h
          have h1 : v ≠ j := fun e => h (by rw [e]; exact List.mem_cons_self)
          unfold wipeG
          rw [List.getElem?_set_ne h1]
          exact ih fun m => h (List.mem_cons_of_mem _ m)
      exact this vs hj
  rw [wg] at R2
  have q2 : (match lcEach b ct fe vs ds (wipeE e vs) [] with
    | .ok ys e2 => ∀ v w' H', Ext w H w' H' → Rel S g1 w' σ H' e2 → Val S (.own m) w' H' v (.lst ys) → Q v H'
    | _ => False) := by
    cases el : lcEach b ct fe vs ds (wipeE e vs) [] with
    | ok ys e2 => simp only [el] at q1; exact q1
    | ex x e2 => simp only [el] at q1; exact q1
    | no => simp only [el] at q1; exact q1
  refine ⟨fun i mm H' => ∃ w' e' acc dacc fpa, mm = ds.length - i ∧ i ≤ ds.length ∧ Ext w1 H1 w' H' ∧ Rel S g1 w' (wipe σ vs) H' e' ∧ w' Dl = some (.lvl (S.n + 1)) ∧ H' Dl = some (.lst acc) ∧ RepL S w' H' m acc dacc fpa ∧ fpa.Nodup ∧ (∀ a ∈ fpa, (w' a = some (.lvl (S.n + 1)) ∧ a ≠ Dl) ∧ ∀ j, w1 a ≠ some (.lvl j)) ∧
      (match lcEach b ct fe vs (ds.drop i) e' dacc with
        | .ok ys e2 => ∀ v w' H', Ext w H w' H' → Rel S g1 w' σ H' e2 → Val S (.own m) w' H' v (.lst ys) → Q v H'
        | _ => False),
    ⟨_, _, wipeE e vs, [], [], [], rfl, Nat.zero_le _, gr0.ext R1.dom, R2, lab_in (by simp), upd_same, .nil, List.nodup_nil, fun a ha => by simp at ha, q2⟩, ?_⟩
  rintro i mm H' ⟨w', e', acc, dacc, fpa, rfl, hi', x', R', wD, hDl, L, nd, fl, q'⟩
  obtain ⟨ws, wgo⟩ := W1 w' H' x' R'.dom
  by_cases hlt : i < ds.length
  · have hd : ds.drop i = ds[i] :: ds.drop (i + 1) := List.drop_eq_getElem_cons hlt
    rw [hd] at q'
    obtain ⟨go, wy⟩ := wgo i ds[i] (List.getElem?_eq_getElem hlt)
    refine .inr ⟨go, fun H2 => ∃ w2 e2 acc2 dacc2 fpa2, i + 1 ≤ ds.length ∧ Ext w1 H1 w2 H2 ∧ Rel S g1 w2 (wipe σ vs) H2 e2 ∧ w2 Dl = some (.lvl (S.n + 1)) ∧ H2 Dl = some (.lst acc2) ∧ RepL S w2 H2 m acc2 dacc2 fpa2 ∧ fpa2.Nodup ∧ (∀ a ∈ fpa2, (w2 a = some (.lvl (S.n + 1)) ∧ a ≠ Dl) ∧ ∀ j, w1 a ≠ some (.lvl j)) ∧
      (match lcEach b ct fe vs (ds.drop (i + 1)) e2 dacc2 with
        | .ok ys e2 => ∀ v w' H', Ext w H w' H' → Rel S g1 w' σ H' e2 → Val S (.own m) w' H' v (.lst ys) → Q v H'
        | _ => False), ?_, ?_⟩
    · rintro H2 ⟨w2, e2, acc2, dacc2, fpa2, h1, h2, h3, h4, h5, h6, h7, h8, h9⟩
      exact ⟨ds.length - (i + 1), by omega, w2, e2, acc2, dacc2, fpa2, rfl, h1, h2, h3, h4, h5, h6, h7, h8, h9⟩
    · intro y H2 yl
      obtain ⟨w2, gr, sh⟩ := wy y H2 yl
      have R2 := R'.grow gr
      have x2 := gr.ext R'.dom
      refine hg w2 _ H2 e' y _ _ (Rel.cast (S := S) (S' := S.no) rfl rfl R2) (sh.to (S := S) (S' := S.no) (fun _ _ _ e => ⟨e, rfl⟩) (Nat.le_refl _) rfl rfl) ?_
      simp only [lcEach] at q'
      cases eb : b ds[i] e' with
      | none => rw [eb] at q'; exact q'.elim
      | some e3 =>
        rw [eb] at q'
        simp only at q' ⊢
        intro σ3 w3' fb3 l3 x3 R3
        refine ⟨?_, ?_⟩
        · rw [wipe_eq l3 fun j hj => fb3 j fun z => hj (hbs j z)]
          exact wipe_eq (by rw [wipe_length]) fun j hj => wipe_out hj
        · have wσ : wipe σ3 vs = wipe σ vs := by
            rw [wipe_eq l3 fun j hj => fb3 j fun z => hj (hbs j z)]
            exact wipe_eq (by rw [wipe_length]) fun j hj => wipe_out hj
          refine ht w3' σ3 H2 e3 _ R3 ?_
          cases ec : ct e3 with
          | no => rw [ec] at q'; exact q'.elim
          | ex x5 e5 => rw [ec] at q'; exact q'.elim
          | ok bb e4 =>
            rw [ec] at q'
            intro w4' H4 x4 R4
            have xx : Ext w' H' w4' H4 := x2.trans (x3.trans x4)
            cases bb with
            | false =>
              simp only at q'
              rw [if_neg Bool.false_ne_true]
              obtain ⟨w5, x5, R5, _⟩ := R4.wk w3
              have x6 := xx.trans x5
              have R6 : Rel S g1 w5 (wipe σ vs) H4 (wipeE e4 vs) := by
                have := Rel.cast (S := S.no) (S' := S) rfl rfl (R5.wiped vs)
                rw [wg, wσ] at this
                exact this
              obtain ⟨y1, y2⟩ := x6 Dl _ wD
              refine ⟨w5, _, acc, dacc, fpa, hlt, x'.trans x6, R6, y1, y2.trans hDl, L.to rfl rfl (Md.le_refl m) x6.keep (fun a ha => (x6 a _ (fl a ha).1.1).2), nd, fun a ha => ⟨⟨(x6 a _ (fl a ha).1.1).1, (fl a ha).1.2⟩, (fl a ha).2⟩, q'⟩
            | true =>
              simp only at q'
              rw [if_pos rfl]
              refine he w4' σ3 H4 e4 _ R4 ?_
              cases ef : fe e4 with
              | no => rw [ef] at q'; exact q'.elim
              | ex x5 e5 => rw [ef] at q'; exact q'.elim
              | ok dy e5 =>
                rw [ef] at q'
                simp only at q'
                intro vy w5 H5 x5 R5 V5
                by_cases hz : dacc.length < 100000
                · rw [if_pos hz] at q'
                  obtain ⟨fy, z1, z2, z3⟩ := V5
                  have xx5 := xx.trans x5
                  obtain ⟨w6, x6, R6, hh⟩ := R5.wk w4
                  have xx6 := xx5.trans x6
                  obtain ⟨R7, x7⟩ := R6.relab (x := .lvl (S.n + 1)) (fp := fy) fun a ha => hh a (z3 a ha)
                  have xx7 := xx6.trans x7
                  obtain ⟨y1, y2⟩ := xx7 Dl _ wD
                  have nDy : ∀ a ∈ fy, a ≠ Dl := fun a ha z => by
                    have p := z3 a ha
                    have p2 := (xx5 Dl _ wD).1
                    rw [z, p2] at p
                    cases p
                  have x8 : Ext w1 H1 (lab fy (.lvl (S.n + 1)) w6) (upd H5 Dl (.lst (acc ++ [vy]))) := fun a j e => by
                    obtain ⟨o, eo⟩ := R1.dom a _ e
                    obtain ⟨p1, p2⟩ := (x'.trans xx7) a j e
                    exact ⟨p1, by rw [upd_ne (ne_of_none eo hD)]; exact p2⟩
                  have kD : ∀ a j, j ≤ S.n → lab fy (.lvl (S.n + 1)) w6 a = some (.lvl j) → a ≠ Dl := fun a j hj e z => by
                    rw [z, y1] at e
                    injection e with e
                    injection e with e
                    omega
                  have kp : Keep S.n (lab fy (.lvl (S.n + 1)) w6) H5 (lab fy (.lvl (S.n + 1)) w6) (upd H5 Dl (.lst (acc ++ [vy]))) := fun a j hj e => ⟨e, upd_ne (kD a j hj e)⟩
                  have R8 : Rel S g1 (lab fy (.lvl (S.n + 1)) w6) (wipe σ vs) (upd H5 Dl (.lst (acc ++ [vy]))) (wipeE e5 vs) := by
                    have r := Rel.cast (S := S.no) (S' := S) rfl rfl (R7.wiped vs)
                    rw [wg, wσ] at r
                    refine r.move o1 kp (fun a j e _ => ⟨e, upd_ne fun z => ?_⟩) fun a y e => ?_
                    · rw [z, y1] at e
                      cases e
                    · by_cases z : a = Dl
                      · rw [z]; exact ⟨_, upd_same⟩
                      · rw [upd_ne z]; exact r.dom a y e
                  have z1' : Rep S (lab fy (.lvl (S.n + 1)) w6) H5 m vy dy fy := Rep.to (S := S.no) (S' := S) rfl rfl z1 (Md.le_refl m) (x6.trans x7).keep fun _ _ => rfl
                  have L' := (L.to rfl rfl (Md.le_refl m) xx7.keep (fun a ha => (xx7 a _ (fl a ha).1.1).2)).append (RepL.one z1')
                  refine ⟨acc, y2.trans hDl, by rw [L.length]; exact Evl.sz_lt hz, _, _, _, _, fpa ++ fy, hlt, x8, R8, y1, upd_same, L'.to rfl rfl (Md.le_refl m) (fun a j hj e => kp a j (Nat.le_trans hj lm) e) (fun a ha => upd_ne ?_), ?_, fun a ha => ?_, q'⟩
                  · rcases List.mem_append.mp ha with h | h
                    · exact (fl a h).1.2
                    · exact nDy a h
                  · rw [List.nodup_append]
                    refine ⟨nd, z2, fun a ha c hc e => ?_⟩
                    have p := (xx5 a _ (fl a ha).1.1).1
                    rw [e, z3 c hc] at p
                    cases p
                  · rcases List.mem_append.mp ha with h | h
                    · exact ⟨⟨(xx7 a _ (fl a h).1.1).1, (fl a h).1.2⟩, (fl a h).2⟩
                    · refine ⟨⟨lab_in h, nDy a h⟩, fun j e => ?_⟩
                      have p := ((x'.trans xx5) a j e).1
                      rw [z3 a h] at p
                      cases p
                · rw [if_neg hz] at q'
                  exact q'.elim
  · have e0 : i = ds.length := by omega
    subst e0
    rw [List.drop_length] at q'
    simp only [lcEach] at q'
    obtain ⟨R3, kp⟩ := R'.rehand (fp := Dl :: fpa) o1 fun a ha => by
      rcases List.mem_cons.mp ha with h | h
      · rw [h]; exact wD
      · exact (fl a h).1.1
    have x9 : Ext w H (lab (Dl :: fpa) .hand w') H' := fun a j e => by
      obtain ⟨p1, p2⟩ := x1 a j e
      obtain ⟨p3, p4⟩ := x' a j p1
      refine ⟨?_, p4.trans p2⟩
      rw [lab_out]
      · exact p3
      · intro hm
        rcases List.mem_cons.mp hm with h | h
        · obtain ⟨o, eo⟩ := R1.dom a _ p1
          rw [h, hD] at eo
          cases eo
        · exact (fl a h).2 j p1
    refine .inl ⟨ws, q' _ _ H' x9 (R3.unwipe nv) ⟨Dl :: fpa, .own hDl (L.to rfl rfl (Md.le_refl m) (fun a j hj e => kp a j (Nat.le_trans hj lm) e) fun _ _ => rfl), List.nodup_cons.mpr ⟨fun z => (fl Dl z).1.2 rfl, nd⟩, fun a ha => lab_in ha⟩⟩
/-- [elt for tg in it if ..]: own, the block's names with their slots -/
theorem se_lc [gd : Gd X S] (hi : SI X S g g1 k tg it fi) (ok : blkC X.N X.env.scope scope own = true)
    (hg : ∀ (s : Shared) (H : Hp) (C : Addr) (cl : List (Str × Addr)) (fp : List Addr), SG (X.blk s H scope (compEnvC scope cl C X.env) fp) S.no bs g1 g2 k tg b)
    (ht : ∀ (s : Shared) (H : Hp) (C : Addr) (cl : List (Str × Addr)) (fp : List Addr), STs (X.blk s H scope (compEnvC scope cl C X.env) fp) S.no g2 g3 ifs ct)
    (he : ∀ (s : Shared) (H : Hp) (C : Addr) (cl : List (Str × Addr)) (fp : List Addr), SE (X.blk s H scope (compEnvC scope cl C X.env) fp) S.no g3 g4 m elt fe)
    (hbs : (bs.all fun j => decide (j ∈ own.map (·.2))) = true := by rfl) (hv : noneAt (own.map (·.2)) g1 = true := by rfl) (w3 : wkB S.n g3 g1 = true := by rfl) (w4 : wkB S.n g4 g1 = true := by rfl)
    (hs : ∀ x, foldedSetIterable it X.env x = pure x := by intro _; rfl) : SE X S g g1 (.own m) (.ListComp elt [⟨tg, it, ifs, 0⟩] scope pos) (mLc fi b ct fe (own.map (·.2))) := ⟨fun ok0 => by
  obtain ⟨⟨wi, p1, p2⟩, o1, l1⟩ := hi.run ok0
  obtain ⟨gt, p3, p4⟩ := uniG (ι := Shared × Hp × Addr × List (Str × Addr) × List Addr) (Xs := fun i => X.blk i.1 i.2.1 scope (compEnvC scope i.2.2.2.1 i.2.2.1 X.env) i.2.2.2.2) fun i => ((hg i.1 i.2.1 i.2.2.1 i.2.2.2.1 i.2.2.2.2).run o1 l1).1
  have i0 : Shared × Hp × Addr × List (Str × Addr) × List Addr := ⟨X.s_0, X.H_0, 0, [], []⟩
  have o2 := ((hg i0.1 i0.2.1 i0.2.2.1 i0.2.2.2.1 i0.2.2.2.2).run o1 l1).2
  obtain ⟨tt, p5, p6⟩ := uniT (ι := Shared × Hp × Addr × List (Str × Addr) × List Addr) (Xs := fun i => X.blk i.1 i.2.1 scope (compEnvC scope i.2.2.2.1 i.2.2.1 X.env) i.2.2.2.2) fun i => ((ht i.1 i.2.1 i.2.2.1 i.2.2.2.1 i.2.2.2.2).run o2).1
  have o3 := ((ht i0.1 i0.2.1 i0.2.2.1 i0.2.2.2.1 i0.2.2.2.2).run o2).2
  obtain ⟨te, p7, p8⟩ := uniE (ι := Shared × Hp × Addr × List (Str × Addr) × List Addr) (Xs := fun i => X.blk i.1 i.2.1 scope (compEnvC scope i.2.2.2.1 i.2.2.1 X.env) i.2.2.2.2) fun i => ((he i.1 i.2.1 i.2.2.1 i.2.2.2.1 i.2.2.2.2).run o3).1
  obtain ⟨_, o4, l4⟩ := (he i0.1 i0.2.1 i0.2.2.1 i0.2.2.2.1 i0.2.2.2.2).run o3
  refine ⟨⟨_, pe_lc gd.calm gd.nd p1 (blkOk_by ok) (fun s H C cl fp => p3 ⟨s, H, C, cl, fp⟩) (fun s H C cl fp => p5 ⟨s, H, C, cl, fp⟩) (fun s H C cl fp => p7 ⟨s, H, C, cl, fp⟩) hs, re_lc p2 o1 p4 (fun j hj => ?_) hv p6 p8 o4 l4 w3 w4⟩, o1, l4⟩
  rw [List.all_eq_true] at hbs
  exact of_decide_eq_true (hbs j hj)⟩
/-- y = [..] on one line, y a local -/
theorem ss_setLc [gd : Gd X S] {T : Fx} (i : Nat) {y : Str} {py spos : Pos} (hi : SI X S g g1 k tg it fi) (ok : blkC X.N X.env.scope scope own = true)
    (hg : ∀ (s : Shared) (H : Hp) (C : Addr) (cl : List (Str × Addr)) (fp : List Addr), SG (X.blk s H scope (compEnvC scope cl C X.env) fp) S.no bs g1 g2 k tg b)
    (ht : ∀ (s : Shared) (H : Hp) (C : Addr) (cl : List (Str × Addr)) (fp : List Addr), STs (X.blk s H scope (compEnvC scope cl C X.env) fp) S.no g2 g3 ifs ct)
    (he : ∀ (s : Shared) (H : Hp) (C : Addr) (cl : List (Str × Addr)) (fp : List Addr), SE (X.blk s H scope (compEnvC scope cl C X.env) fp) S.no g3 g4 m elt fe)
    (hsw : swapsWith (.ListComp elt [⟨tg, it, ifs, 0⟩] scope pos) (some (.Name y py)) spos.line X.env = pure true)
    (hil : i < g1.length := by exact Nat.le_of_ble_eq_true rfl) (hF : i ∉ T.F := by exact nin rfl) (hN : X.N[i]? = some y := by rfl) (hyl : X.env.scope.names.lookup y = some .local := by rfl)
    (hbs : (bs.all fun j => decide (j ∈ own.map (·.2))) = true := by rfl) (hv : noneAt (own.map (·.2)) g1 = true := by rfl) (w3 : wkB S.n g3 g1 = true := by rfl) (w4 : wkB S.n g4 g1 = true := by rfl)
    (hs : ∀ x, foldedSetIterable it X.env x = pure x := by intro _; rfl) : SS X S T g (g1.set i (some (.own m))) (.Assign [.Name y py] (.ListComp elt [⟨tg, it, ifs, 0⟩] scope pos) spos) (sSet i (mLc fi b ct fe (own.map (·.2)))) := ⟨fun ok0 => by
  obtain ⟨⟨wi, p1, p2⟩, o1, l1⟩ := hi.run ok0
  obtain ⟨gt, p3, p4⟩ := uniG (ι := Shared × Hp × Addr × List (Str × Addr) × List Addr) (Xs := fun i => X.blk i.1 i.2.1 scope (compEnvC scope i.2.2.2.1 i.2.2.1 X.env) i.2.2.2.2) fun i => ((hg i.1 i.2.1 i.2.2.1 i.2.2.2.1 i.2.2.2.2).run o1 l1).1
  have i0 : Shared × Hp × Addr × List (Str × Addr) × List Addr := ⟨X.s_0, X.H_0, 0, [], []⟩
  have o2 := ((hg i0.1 i0.2.1 i0.2.2.1 i0.2.2.2.1 i0.2.2.2.2).run o1 l1).2
  obtain ⟨tt, p5, p6⟩ := uniT (ι := Shared × Hp × Addr × List (Str × Addr) × List Addr) (Xs := fun i => X.blk i.1 i.2.1 scope (compEnvC scope i.2.2.2.1 i.2.2.1 X.env) i.2.2.2.2) fun i => ((ht i.1 i.2.1 i.2.2.1 i.2.2.2.1 i.2.2.2.2).run o2).1
  have o3 := ((ht i0.1 i0.2.1 i0.2.2.1 i0.2.2.2.1 i0.2.2.2.2).run o2).2
  obtain ⟨te, p7, p8⟩ := uniE (ι := Shared × Hp × Addr × List (Str × Addr) × List Addr) (Xs := fun i => X.blk i.1 i.2.1 scope (compEnvC scope i.2.2.2.1 i.2.2.1 X.env) i.2.2.2.2) fun i => ((he i.1 i.2.1 i.2.2.1 i.2.2.2.1 i.2.2.2.2).run o3).1
  obtain ⟨_, o4, l4⟩ := (he i0.1 i0.2.1 i0.2.2.1 i0.2.2.2.1 i0.2.2.2.2).run o3
  refine ⟨⟨_, ps_setLc gd.calm gd.nd hN hyl hsw p1 (blkOk_by ok) (fun s H C cl fp => p3 ⟨s, H, C, cl, fp⟩) (fun s H C cl fp => p5 ⟨s, H, C, cl, fp⟩) (fun s H C cl fp => p7 ⟨s, H, C, cl, fp⟩) hs, rs_set (re_lc p2 o1 p4 (fun j hj => ?_) hv p6 p8 o4 l4 w3 w4) hil hF⟩, okg_set o1 fun m' e => by cases e; exact l4⟩
  rw [List.all_eq_true] at hbs
  exact of_decide_eq_true (hbs j hj)⟩
end
end G

/-! Fw9 -/
/-! defs and their calls -/
namespace G
open PySem PySem.Spec PyProof.Rows L2

/-- a def's promise, where no text is being made of an object around -/
structure FnG (P : Program) (w : World) (K : PySem.W.Frag) (mg : Str → Option Value) (base : Heap) (k : Nat) (f : Addr) (fd : FuncData) (ps : List Str) (sp : Sp) : Prop where
  len : ∀ vs H Q E, sp vs H Q E → vs.length = ps.length
  run : ∀ (A : Around) (outer : List PySem.Env) (s : Shared) (H : Hp) (args : Args) (us : List Value) (vs : List V) (Q : VK) (E : XK),
    A.guards = some [] → Room k A → Env0 P w K mg base A outer s H → BindsTo s fd args (ps.zip us) → Vals vs us → sp vs H Q E →
    codeAny (model P w) A (.call (.ref f) args) (CR (L2.CX P w) outer P w H s Q E) s
section
variable {P : Program} {w : World} {K : PySem.W.Frag} {mg : Str → Option Value} {base : Heap} {k : Nat} {f : Addr} {fd : FuncData} {ps : List Str} {sp : Sp}
theorem FnG.up {j : Nat} (F : FnG P w K mg base j f fd ps sp) (h : j ≤ k) : FnG P w K mg base k f fd ps sp :=
  ⟨F.len, fun A o s H a us vs Q E gs hr => F.run A o s H a us vs Q E gs (hr.mono h)⟩
/-- a def of the text by its body -/
theorem fnG_of {x qual : Str} {st : Stmt} {N : List Str} (F : Fun K x qual st f fd) (S : FnScope N ps (defScope st)) (len : ∀ vs H Q E, sp vs H Q E → vs.length = ps.length)
    (hbody : ∀ (cdv : Value) (A : Around) (outer : List PySem.Env) (s : Shared) (H : Hp) (vs : List V) (Q : VK) (E : XK), A.guards = some [] → Room k (A.deeper (envOfC qual (defScope st) s.heap.objs.size f cdv)) → sp vs H Q E →
      ∃ t, PSs (cxOf (L2.CX P w) P w K mg base N qual (defScope st) f cdv A outer s H E) (defBody st) t ∧ t { nx := fun _ H' => Q .non H', rt := Q } (start N vs) H) : FnG P w K mg base (k + 1) f fd ps sp := by
  obtain ⟨oc, od, kV, doc, pm, an, cdv, ct, osl, rfl, lk, hcd⟩ := F.ex
  refine ⟨len, fun A outer s H args us vs Q E gs hr e0 hb rv hsp => ?_⟩
  have ln := len _ _ _ _ hsp
  have kept : ∀ b o, base.get? b = some o → s.heap.get? b = some o := fun b o e => (e0.bs b o e).1
  have kin : K.In s.heap := e0.mod.kin.keeps kept
  have nolim : s.heap.NoLimit := e0.mod.nolimit.keeps kept
  refine codeAny_call_function hr.depth (kin _ _ lk) rfl S.co S.gen rfl (PySem.W.codeRec_of kin hcd) (hb _ _ _ _ (wpAny_newFunctionEnv_cells S.kind (fun p hp => ?_) fun ev hev s1 ic => ?_))
  · obtain ⟨n, u⟩ := p
    exact (S.par n (List.of_mem_zip hp).1).imp id fun q => ⟨q, PySem.W.cellsFrom_some _ _ _ (.inl q)⟩
  · subst hev
    obtain ⟨t, pt, qt⟩ := hbody cdv A outer s H vs Q E gs (hr.deeper _) hsp
    have J0 := inv_start (CX := L2.CX P w) (mg := mg) (base := base) (E := E) S hr.hd e0 ln rv ic
    refine ⟨nolim.keeps ic.toInCall.keep, codeAny_func (wpAny_mono (pt.run [] s1 (start N vs) H _ J0 qt) (fun fl s' hs => ?_) fun _ _ hs => hs)⟩
    cases fl with
    | ret u =>
      obtain ⟨v, σ', H', J, r, q⟩ := hs
      exact ⟨v, H', J.os, J.bare, J.base, J.hok, r, q⟩
    | next =>
      obtain ⟨σ', H', J, q⟩ := hs
      exact ⟨.non, H', J.os, J.bare, J.base, J.hok, rfl, q⟩
    | brk => exact hs.elim fun _ z => z.elim fun _ z => z.2.elim
    | cont => exact hs.elim fun _ z => z.elim fun _ z => z.2.elim
end
section
variable {X : Cx} {k : Nat} {f : Addr} {fd : FuncData} {ps : List Str} {sp : Sp} {dvs : List V} {ds : List Value} {E : XK} {x : Str} {p pos : Pos} {e : Expr} {es : List Expr} {t : TA}
theorem run_fnG {pins : List (Addr × Obj)} {σ : L2.St} {H : Hp} {s : Shared} {Q : VK} {us : List Value} {vs : List V} (F : FnG X.prog X.w X.K X.mg X.base k f fd ps sp) (gs : X.A.guards = some []) (hr : Room k X.A) (hb : Binds X.K fd ps ds) (hd : Vals dvs ds)
    (hx : Passes (L2.CX X.prog X.w) X E) (I : Inv X pins σ H s) (rv : Vals vs us) (h : sp (vs ++ dvs) H Q E) : wpAny (model X.prog X.w) X.A (call (.ref f) us) (EP X pins σ Q) X.xe s := by
  have rv2 := rv.append hd
  have ln : (us ++ ds).length = ps.length := rv2.length.symm.trans (F.len _ _ _ _ h)
  refine wpAny_call (codeAny_mono (F.run X.A X.stack s H ⟨us, []⟩ _ _ Q E gs hr I.env0 (hb s us I.kIn ln) rv2 h) fun r s' hq => ?_)
  match r, hq with
  | .error e, hq => exact hx pins σ H s e s' I hq
  | .ok (.ret u), hq => exact I.after hq
theorem pe_callG (F : FnG X.prog X.w X.K X.mg X.base k f fd ps sp) (gs : X.A.guards = some []) (hr : Room k X.A) (hg : Gl X x) (hm : X.mg x = some (.ref f)) (hk : PySem.W.keepIn X.K (.ref f) = true) (hb : Binds X.K fd ps ds) (hd : Vals dvs ds)
    (hx : Passes (L2.CX X.prog X.w) X E) (ha : PA X (e :: es) t) (hdb : (x == ("__debug__" : Str)) = false := by decide)
    (he : starEach (e :: es) X.env = (false, eval e X.env) :: starEach es X.env := by rfl) (hpl : (backTo pos (starEach es X.env)).any (·.1) = false := by rfl) : PE X (.Call (.Name x p) (e :: es) [] pos) (tCall sp dvs E t) :=
  ⟨fun pins s σ H Q I h => wpAny_Call_Name_kw (ld_glob I hg hm (PySem.W.callWith_K (h₀ := X.base) I.ok.mod.kin hk (thn (ha.run pos pins s σ H _ I h) fun us s1 ⟨vs, H1, I1, r, q⟩ => ⟨I1.kIn, run_fnG F gs hr hb hd hx I1 r q⟩) he hpl) hdb)⟩
theorem pe_callG0 (F : FnG X.prog X.w X.K X.mg X.base k f fd ps sp) (gs : X.A.guards = some []) (hr : Room k X.A) (hg : Gl X x) (hm : X.mg x = some (.ref f)) (hk : PySem.W.keepIn X.K (.ref f) = true) (hb : Binds X.K fd ps ds) (hd : Vals dvs ds)
    (hx : Passes (L2.CX X.prog X.w) X E) (hdb : (x == ("__debug__" : Str)) = false := by decide) : PE X (.Call (.Name x p) [] [] pos) (tCall sp dvs E tNil) :=
  ⟨fun pins s σ H Q I h => wpAny_Call_Name_kw (ld_glob I hg hm (PySem.W.callWith_K0 I.kIn hk (run_fnG (us := []) F gs hr hb hd hx I .nil h)) hdb)⟩
end

/-! ### what a def makes of trees -/
abbrev PF := List D → O
/-- the function of a body: n names, the parameters first; the first k are told behind -/
def runF (n k : Nat) (f : MS) : PF := fun ds => match f (ds.map some ++ List.replicate (n - ds.length) none) with
  | .nx e => .rt .non (e.take k)
  | .rt d e => .rt d (e.take k)
  | .ex x e => .ex x (e.take k)
  | _ => .no
theorem Rel.take {S : Sx} {g : Ctx} {w : Om} {σ : L2.St} {H : Hp} {env : Env} (R : Rel S g w σ H env) {k : Nat} (hk : g.length ≤ k) : Rel S g w (σ.take k) H (env.take k) := by
  refine ⟨R.dom, fun i m e => ?_, by rw [List.length_take, List.length_take, R.len], by rw [List.length_take]; exact Nat.le_min.mpr ⟨hk, R.gl⟩⟩
  obtain ⟨v, d, fp, h1, h2, h3⟩ := R.slot i m e
  have hi : i < k := Nat.lt_of_lt_of_le (List.getElem?_eq_some_iff.mp e).1 hk
  exact ⟨v, d, fp, by rw [List.getElem?_take_of_lt hi]; exact h1, by rw [List.getElem?_take_of_lt hi]; exact h2, h3⟩
/-- a def's shape: how its parameters are held, what comes back, what is told of the parameters then, at an exception -/
structure Sh where
  ms : List Md
  rm : Md
  gr : Ctx
  gx : Ctx
def sxOf (K : PySem.W.Frag) (cl : Str → Option Addr) (h : Sh) (E : XK) : Sx := ⟨K, cl, 1, E, h.gx⟩
/-- what is told behind a call -/
def RelF (S : Sx) (g : Ctx) (w : Om) (vs : List V) (H : Hp) (e : Env) : Prop := ∃ σ : L2.St, (∀ (i : Nat) (m : Md), g[i]? = some (some m) → σ[i]? = (vs.map some)[i]?) ∧ Rel S g w σ H e
def spP (K : PySem.W.Frag) (cl : Str → Option Addr) (h : Sh) (F : PF) : Sp := fun vs H Q E => vs.length = h.ms.length ∧ ∃ (w : Om) (ds : List D), ds.length = h.ms.length ∧ Rel (sxOf K cl h E) (h.ms.map some) w (vs.map some) H (ds.map some) ∧
  match F ds with
  | .rt d e => ∀ v w' H', Ext w H w' H' → RelF (sxOf K cl h E) h.gr w' vs H' e → Val (sxOf K cl h E) h.rm w' H' v d → Q v H'
  | .ex x e => ∀ c dd w' H', Ext w H w' H' → RelF (sxOf K cl h E) h.gx w' vs H' e → XRep (sxOf K cl h E) w' H' c dd x → E c dd H'
  | _ => False
def ctx0 (n : Nat) (h : Sh) : Ctx := h.ms.map some ++ List.replicate (n - h.ms.length) none
/-- the slots that stay: those that are told behind -/
def fixOf (h : Sh) : List Nat := (List.range h.gr.length).filter (fun i => match h.gr[i]? with
  | some (some _) => true
  | _ => false) ++ (List.range h.gx.length).filter (fun i => match h.gx[i]? with
  | some (some _) => true
  | _ => false)
def fxOf (h : Sh) : Fx := ⟨fixOf h, h.rm, h.gr, [], []⟩
def shOk (n : Nat) (h : Sh) : Bool := decide (h.ms.length ≤ n) && h.ms.all (fun m => decide (m.lev ≤ 1)) && decide (h.gr.length ≤ h.ms.length) && decide (h.gx.length ≤ h.ms.length)
theorem fix_gr {h : Sh} {i : Nat} {m : Md} (e : h.gr[i]? = some (some m)) : i ∈ fixOf h := by
  unfold fixOf
  refine List.mem_append_left _ (List.mem_filter.mpr ⟨List.mem_range.mpr (List.getElem?_eq_some_iff.mp e).1, ?_⟩)
  simp only [e]
theorem fix_gx {h : Sh} {i : Nat} {m : Md} (e : h.gx[i]? = some (some m)) : i ∈ fixOf h := by
  unfold fixOf
  refine List.mem_append_right _ (List.mem_filter.mpr ⟨List.mem_range.mpr (List.getElem?_eq_some_iff.mp e).1, ?_⟩)
  simp only [e]
section
variable {P : Program} {w : World} {K : PySem.W.Frag} {mg : Str → Option Value} {base : Heap} {k : Nat} {f : Addr} {fd : FuncData} {ps : List Str}
/-- THE RULE for a def: its body as a function of trees -/
theorem fnG_ok {x qual : Str} {st : Stmt} {N : List Str} {cl : Str → Option Addr} (h : Sh) (kt : Nat) {fb : MS} {g' : Ctx} (F : Fun K x qual st f fd) (S : FnScope N ps (defScope st)) (hps : ps.length = h.ms.length) (hok : shOk N.length h = true)
    (hbody : ∀ (cdv : Value) (A : Around) (outer : List PySem.Env) (s : Shared) (H : Hp) (E : XK) [Gd (cxOf (L2.CX P w) P w K mg base N qual (defScope st) f cdv A outer s H E) (sxOf K cl h E)], Room k (cxOf (L2.CX P w) P w K mg base N qual (defScope st) f cdv A outer s H E).A →
      SSs (cxOf (L2.CX P w) P w K mg base N qual (defScope st) f cdv A outer s H E) (sxOf K cl h E) (fxOf h) (ctx0 N.length h) g' (defBody st) fb)
    (hw : wkB 1 g' h.gr = true) (hkt : (decide (h.gr.length ≤ kt) && decide (h.gx.length ≤ kt)) = true := by rfl) : FnG P w K mg base (k + 1) f fd ps (spP K cl h (runF N.length kt fb)) := by
  simp only [Bool.and_eq_true, decide_eq_true_eq] at hkt
  simp only [shOk, Bool.and_eq_true, decide_eq_true_eq, List.all_eq_true] at hok
  obtain ⟨⟨⟨n1, n2⟩, n3⟩, n4⟩ := hok
  refine fnG_of F S (fun vs H Q E q => q.1.trans hps.symm) fun cdv A outer s H vs Q E gs hr q => ?_
  obtain ⟨l1, ω, ds, l2, R, q⟩ := q
  have tk : Takes (cxOf (L2.CX P w) P w K mg base N qual (defScope st) f cdv A outer s H E) (fun cls d _ H => E cls d H) := takes_of (E₁ := fun e' s'' => L2.CX P w outer H s E e' s'') rfl rfl rfl rfl
  have gd : Gd (cxOf (L2.CX P w) P w K mg base N qual (defScope st) f cdv A outer s H E) (sxOf K cl h E) := ⟨rfl, rfl, S.nd, hr.units, gs, passes_call tk fun _ _ _ _ z => z, passes_of rfl⟩
  have ok0 : OkG 1 (ctx0 N.length h) := fun i m e => by
    unfold ctx0 at e
    by_cases hi : i < (h.ms.map some).length
    · rw [List.getElem?_append_left hi, List.getElem?_map] at e
      cases em : h.ms[i]? with
      | none => rw [em] at e; cases e
      | some m' =>
        rw [em] at e
        cases e
        exact n2 m (List.mem_of_getElem? em)
    · rw [List.getElem?_append_right (by omega), List.getElem?_replicate] at e
      split at e <;> cases e
  obtain ⟨⟨t, p1, p2⟩, o1⟩ := (hbody cdv A outer s H E hr).run ok0
  refine ⟨t, p1, ?_⟩
  have R0 : Rel (sxOf K cl h E) (ctx0 N.length h) ω (start N vs) H (ds.map some ++ List.replicate (N.length - ds.length) none) := by
    refine ⟨R.dom, fun i m e => ?_, by unfold L2.start; simp only [List.length_append, List.length_map, List.length_replicate]; omega, by unfold L2.start ctx0; simp only [List.length_append, List.length_map, List.length_replicate]; omega⟩
    unfold ctx0 at e
    by_cases hi : i < (h.ms.map some).length
    · rw [List.getElem?_append_left hi] at e
      obtain ⟨v, d, fp, h1, h2, h3⟩ := R.slot i m e
      rw [List.length_map] at hi
      refine ⟨v, d, fp, ?_, ?_, h3⟩
      · unfold L2.start
        rw [List.getElem?_append_left (by rw [List.length_map]; omega)]
        exact h1
      · rw [List.getElem?_append_left (by rw [List.length_map]; omega)]
        exact h2
    · rw [List.getElem?_append_right (by omega), List.getElem?_replicate] at e
      split at e <;> cases e
  have back : ∀ {σ' : L2.St} {i : Nat}, Fix (fixOf h) (start N vs) σ' → i ∈ fixOf h → i < h.ms.length → σ'[i]? = (vs.map some)[i]? := fun {σ' i} fx hi hl => by
    rw [fx i hi]
    unfold L2.start
    rw [List.getElem?_append_left (by rw [List.length_map]; omega)]
  refine p2 ω (start N vs) H _ _ R0 ?_
  unfold runF at q
  cases ef : fb (ds.map some ++ List.replicate (N.length - ds.length) none) with
  | nx e =>
    rw [ef] at q
    intro σ' w' H' fx xt R'
    obtain ⟨w2, x2, R2, _⟩ := R'.wk hw
    exact q .non w2 H' (xt.trans x2) ⟨σ'.take kt, fun i m e => by rw [List.getElem?_take_of_lt (Nat.lt_of_lt_of_le (List.getElem?_eq_some_iff.mp e).1 hkt.1)]; exact back fx (fix_gr e) (Nat.lt_of_lt_of_le (List.getElem?_eq_some_iff.mp e).1 n3), R2.take hkt.1⟩ (val_sc trivial)
  | rt d e =>
    rw [ef] at q
    intro v σ' w' H' fx xt R' V'
    exact q v w' H' xt ⟨σ'.take kt, fun i m e => by rw [List.getElem?_take_of_lt (Nat.lt_of_lt_of_le (List.getElem?_eq_some_iff.mp e).1 hkt.1)]; exact back fx (fix_gr e) (Nat.lt_of_lt_of_le (List.getElem?_eq_some_iff.mp e).1 n3), R'.take hkt.1⟩ V'
  | ex y e =>
    rw [ef] at q
    intro c dd σ' w' H' fx xt R' V'
    exact q c dd w' H' xt ⟨σ'.take kt, fun i m e => by rw [List.getElem?_take_of_lt (Nat.lt_of_lt_of_le (List.getElem?_eq_some_iff.mp e).1 hkt.2)]; exact back fx (fix_gx e) (Nat.lt_of_lt_of_le (List.getElem?_eq_some_iff.mp e).1 n4), R'.take hkt.2⟩ V'
  | bk e => rw [ef] at q; exact q.elim
  | ct e => rw [ef] at q; exact q.elim
  | no => rw [ef] at q; exact q.elim
end
end G

/-! Fw10 -/
/-! calls of defs -/
namespace G
open PySem L2

/-- arguments: given away, or a name's own list that is lent -/
inductive ArgB (S : Sx) (w : Om) (H : Hp) (σ : L2.St) : List (Option Nat) → List Md → List V → List D → List (List Addr) → Prop
  | nil : ArgB S w H σ [] [] [] [] []
  | val {ps : List (Option Nat)} {m : Md} {ms : List Md} {v : V} {vs : List V} {d : D} {ds : List D} {f : List Addr} {fs : List (List Addr)} : Rep S w H m v d f → ArgB S w H σ ps ms vs ds fs → ArgB S w H σ (none :: ps) (m :: ms) (v :: vs) (d :: ds) (f :: fs)
  | lent {ps : List (Option Nat)} {m : Md} {ms : List Md} {v : V} {vs : List V} {d : D} {ds : List D} {fs : List (List Addr)} {i : Nat} : σ[i]? = some (some v) → ArgB S w H σ ps ms vs ds fs → ArgB S w H σ (some i :: ps) (m :: ms) (v :: vs) (d :: ds) ([] :: fs)
def RB (S : Sx) (g g' : Ctx) (ps : List (Option Nat)) (ms : List Md) (t : TA) (f : MA) : Prop :=
  ∀ (w : Om) (σ : L2.St) (H : Hp) (env : Env) (Q : List V → Hp → Prop), Rel S g w σ H env →
    Out S w σ H (fun ds e => ∀ vs w' H' fs, Ext w H w' H' → Rel S g' w' σ H' e → ArgB S w' H' σ ps ms vs ds fs → fs.flatten.Nodup → (∀ a ∈ fs.flatten, w' a = some .hand) → Q vs H') (f env) → t σ H Q
structure SB (X : Cx) (S : Sx) (g g' : Ctx) (ps : List (Option Nat)) (ms : List Md) (es : List Expr) (f : MA) : Prop where
  run : OkG S.n g → (∃ t, PA X es t ∧ RB S g g' ps ms t f) ∧ OkG S.n g' ∧ ∀ m ∈ ms, m.lev ≤ S.n
theorem ArgB.to {S : Sx} {w w' : Om} {H H' : Hp} {σ : L2.St} {n : Nat} : ∀ {ps : List (Option Nat)} {ms : List Md} {vs : List V} {ds : List D} {fs : List (List Addr)}, ArgB S w H σ ps ms vs ds fs → (∀ m ∈ ms, m.lev ≤ n) → Keep n w H w' H' → (∀ a ∈ fs.flatten, H' a = H a) → ArgB S w' H' σ ps ms vs ds fs
  | _, _, _, _, _, .nil, _, _, _ => .nil
  | _, _, _, _, _, .val (m := m) h t, hm, e, k => .val (h.to rfl rfl (Md.le_refl m) (fun a j hj q => e a j (Nat.le_trans hj (hm m List.mem_cons_self)) q) fun a ha => k a (List.mem_append_left _ ha)) (ArgB.to t (fun m' h' => hm m' (List.mem_cons_of_mem _ h')) e fun a ha => k a (List.mem_append_right _ ha))
  | _, _, _, _, _, .lent h t, hm, e, k => .lent h (ArgB.to t (fun m' h' => hm m' (List.mem_cons_of_mem _ h')) e fun a ha => k a ha)
theorem ArgB.at {S : Sx} {w : Om} {H : Hp} {σ : L2.St} : ∀ {ps : List (Option Nat)} {ms : List Md} {vs : List V} {ds : List D} {fs : List (List Addr)}, ArgB S w H σ ps ms vs ds fs → ∀ a ∈ fs.flatten, ∃ o, H a = some o
  | _, _, _, _, _, .nil, _, h => by simp at h
  | _, _, _, _, _, .val h t, a, ha => by
    rcases List.mem_append.mp ha with ha | ha
    · exact h.at a ha
    · exact ArgB.at t a ha
  | _, _, _, _, _, .lent _ t, a, ha => ArgB.at t a ha
theorem ArgB.length {S : Sx} {w : Om} {H : Hp} {σ : L2.St} : ∀ {ps : List (Option Nat)} {ms : List Md} {vs : List V} {ds : List D} {fs : List (List Addr)}, ArgB S w H σ ps ms vs ds fs → ps.length = ms.length ∧ vs.length = ms.length ∧ ds.length = ms.length ∧ fs.length = ms.length
  | _, _, _, _, _, .nil => ⟨rfl, rfl, rfl, rfl⟩
  | _, _, _, _, _, .val _ t => by
    obtain ⟨a, b, c, d⟩ := ArgB.length t
    simp [a, b, c, d]
  | _, _, _, _, _, .lent _ t => by
    obtain ⟨a, b, c, d⟩ := ArgB.length t
    simp [a, b, c, d]
/-- an argument that is lent, in the list of trees -/
def bLent (fr : MA) : MA := fun e => (fr e).bind fun ds e2 => .ok (.non :: ds) e2
section
variable {X : Cx} {S : Sx} {g g1 g2 : Ctx} {m1 : Md} {ps : List (Option Nat)} {ms : List Md} {a : Expr} {es : List Expr} {fa : ME} {fr : MA} {pos : Pos}
theorem sb_nil : SB X S g g [] [] [] aNil := ⟨fun ok => ⟨⟨_, pa_nil, fun w σ H env Q R q => q [] w H [] (Ext.refl _ _) R .nil List.nodup_nil fun a ha => by simp at ha⟩, ok, fun m hm => by simp at hm⟩⟩
theorem sb_val (ha : SE X S g g1 m1 a fa) (hr : SB X S g1 g2 ps ms es fr) (hs : starEach (a :: es) X.env = (false, eval a X.env) :: starEach es X.env := by rfl) : SB X S g g2 (none :: ps) (m1 :: ms) (a :: es) (aCons fa fr) := ⟨fun ok => by
  obtain ⟨⟨ta, p1, p2⟩, o1, l1⟩ := ha.run ok
  obtain ⟨⟨tr, p3, p4⟩, o2, l2⟩ := hr.run o1
  refine ⟨⟨_, pa_cons p1 p3 hs, fun w σ H env Q R q => ?_⟩, o2, fun m hm => ?_⟩
  · have q := Out.bind q
    refine p2 w σ H env _ R (Out.mono q (Ext.refl _ _) fun d1 e1 q1 v1 w1 H1 x1 R1 V1 => ?_)
    obtain ⟨fp, n1, n2, n3⟩ := V1.keep l1
    obtain ⟨R1', x1'⟩ := R1.relab (x := .lvl (S.n + 1)) n2
    have q2 := Out.bind q1
    refine p4 _ σ H1 e1 _ R1' (Out.mono q2 (x1.trans x1') fun ds e2 q3 vs w2 H2 fs x2 R2 k3 k4 k5 => ?_)
    obtain ⟨k1, k2⟩ := n3 w2 H2 x2
    obtain ⟨R3, x3⟩ := R2.rehand o2 k2
    have ap : ∀ a ∈ fs.flatten, a ∉ fp := fun a ha hb => by
      have := k5 a ha
      rw [k2 a hb] at this
      cases this
    have x4 : Ext w H (lab fp .hand w2) H2 := fun a k e => by
      obtain ⟨y1, y2⟩ := (x1.trans x1') a k e
      obtain ⟨y3, y4⟩ := x2 a k y1
      refine ⟨?_, y4.trans y2⟩
      rw [lab_out]
      · exact y3
      · intro hf
        have := (x1 a k e).1
        rw [n2 a hf] at this
        cases this
    refine q3 (v1 :: vs) _ H2 (fp :: fs) x4 R3 (.val (k1.to rfl rfl (Md.le_refl _) (fun a k hk e => x3 a k (Nat.le_trans hk l1) e) (fun _ _ => rfl)) (k3.to l2 x3 fun _ _ => rfl)) ?_ fun a ha => ?_
    · rw [List.flatten_cons, List.nodup_append]
      exact ⟨n1, k4, fun a ha b hb e => ap b hb (e ▸ ha)⟩
    · rw [List.flatten_cons] at ha
      rcases List.mem_append.mp ha with h | h
      · exact lab_in h
      · rw [lab_out (ap a h)]
        exact k5 a h
  · rcases List.mem_cons.mp hm with e | hm
    · rw [e]; exact l1
    · exact l2 m hm⟩
theorem sb_lent (i : Nat) {x : Str} (hr : SB X S g g2 ps ms es fr) (h0 : g[i]? = some (some m1) := by rfl) (hN : X.N[i]? = some x := by rfl) (hv : Vis X.env.scope x := by first | exact Or.inl rfl | exact Or.inr (Or.inl rfl) | exact Or.inr (Or.inr rfl))
    (hd : (x == ("__debug__" : Str)) = false := by decide) (hcd : (x == ("__classdict__" : Str)) = false := by decide) (hs : starEach (.Name x pos :: es) X.env = (false, eval (.Name x pos) X.env) :: starEach es X.env := by rfl) : SB X S g g2 (some i :: ps) (m1 :: ms) (.Name x pos :: es) (bLent fr) := ⟨fun ok => by
  obtain ⟨⟨tr, p3, p4⟩, o2, l2⟩ := hr.run ok
  refine ⟨⟨_, pa_cons (pe_var hN hv hd hcd) p3 hs, fun w σ H env Q R q => ?_⟩, o2, fun m hm => ?_⟩
  · obtain ⟨v, d, fp, h1, h2, h3, h4, h5⟩ := R.slot i _ h0
    refine ⟨v, h1, ?_⟩
    have q := Out.bind q
    refine p4 w σ H env _ R (Out.mono q (Ext.refl _ _) fun ds e2 q3 vs w2 H2 fs x2 R2 k3 k4 k5 => ?_)
    exact q3 (v :: vs) w2 H2 ([] :: fs) x2 R2 (.lent h1 k3) k4 k5
  · rcases List.mem_cons.mp hm with e | hm
    · rw [e]; exact ok i m1 h0
    · exact l2 m hm⟩
end

/-! ### a call -/
/-- the lent arguments' trees, as they stand at the call -/
def fillA (e : Env) : List (Option Nat) → List D → Option (List D)
  | none :: ps, d :: ds => (fillA e ps ds).map (d :: ·)
  | some i :: ps, _ :: ds => match e[i]? with
    | some (some d) => (fillA e ps ds).map (d :: ·)
    | _ => none
  | [], [] => some []
  | _, _ => none
/-- what is told of the lent ones behind the call -/
def backA : List (Option Nat) → Env → Env → Env
  | none :: ps, _ :: ds, e => backA ps ds e
  | some i :: ps, d :: ds, e => backA ps ds (e.set i d)
  | _, _, e => e
def mCall (F : PF) (ps : List (Option Nat)) (fr : MA) : ME := fun e => (fr e).bind fun ds e1 => match fillA e1 ps ds with
  | some as => match F as with
    | .rt d ea => .ok d (backA ps ea e1)
    | .ex x ea => .ex x (backA ps ea e1)
    | _ => .no
  | none => .no
/-- an argument's way may be the parameter's -/
def argOk : Md → Md → Bool
  | .sh k, .sh j => decide (k = 0) || decide (1 ≤ j)
  | .own a, .own b => (Md.own a).le (.own b) && decide (a.lev = 0)
  | _, _ => false
/-- the slots' ways behind the call: those of the lent as the promise says -/
def backG : List (Option Nat) → Ctx → Ctx → Ctx
  | none :: ps, _ :: ms, g => backG ps ms g
  | some i :: ps, m :: ms, g => backG ps ms (g.set i m)
  | some i :: ps, [], g => backG ps [] (g.set i none)
  | none :: ps, [], g => backG ps [] g
  | [], _, g => g
/-- all that the rule asks of the ways -/
def callOk (n : Nat) (h : Sh) (g : Ctx) (ps : List (Option Nat)) (ms : List Md) : Bool :=
  decide (ms.length = h.ms.length) && decide (ps.length = h.ms.length) && (ms.zip h.ms).all (fun p => argOk p.1 p.2) && decide ((ps.filterMap id).Nodup) &&
  (ps.zip (ms.zip h.gr)).all (fun p => match p.1, p.2.2 with
    | some _, some m => decide (m.lev = 0)
    | _, none => true
    | none, some _ => false) && decide (h.rm.lev = 0) && (ps.zip ms).all (fun p => match p.1 with
    | some i => g[i]? == some (some p.2) && (match p.2 with | .own _ => true | .sh _ => false)
    | none => true)
end G

/-! Fw11 -/
namespace G
open PySem L2

theorem backG_get : ∀ (ps : List (Option Nat)) (gr g : Ctx) {i : Nat} {m : Md}, (backG ps gr g)[i]? = some (some m) → (∃ j : Nat, ps[j]? = some (some i) ∧ gr[j]? = some (some m)) ∨ ((∀ j : Nat, ps[j]? ≠ some (some i)) ∧ g[i]? = some (some m))
  | [], gr, g, i, m, e => by
    refine .inr ⟨fun j => by simp, ?_⟩
    cases gr <;> exact e
  | none :: ps, [], g, i, m, e => by
    rcases backG_get ps [] g e with ⟨j, h1, h2⟩ | ⟨h1, h2⟩
    · simp at h2
    · refine .inr ⟨fun j => ?_, h2⟩
      cases j with
      | zero => simp
      | succ j => simpa using h1 j
  | none :: ps, m0 :: gr, g, i, m, e => by
    rcases backG_get ps gr g e with ⟨j, h1, h2⟩ | ⟨h1, h2⟩
    · exact .inl ⟨j + 1, by simpa using h1, by simpa using h2⟩
    · refine .inr ⟨fun j => ?_, h2⟩
      cases j with
      | zero => simp
      | succ j => simpa using h1 j
  | some i0 :: ps, [], g, i, m, e => by
    rcases backG_get ps [] (g.set i0 none) e with ⟨j, h1, h2⟩ | ⟨h1, h2⟩
    · simp at h2
    · by_cases hi : i0 = i
      · subst hi
        rw [List.getElem?_set] at h2
        simp only [if_true] at h2
        split at h2 <;> cases h2
      · rw [List.getElem?_set_ne hi] at h2
        refine .inr ⟨fun j => ?_, h2⟩
        cases j with
        | zero => simpa using hi
        | succ j => simpa using h1 j
  | some i0 :: ps, m0 :: gr, g, i, m, e => by
    rcases backG_get ps gr (g.set i0 m0) e with ⟨j, h1, h2⟩ | ⟨h1, h2⟩
    · exact .inl ⟨j + 1, by simpa using h1, by simpa using h2⟩
    · by_cases hi : i0 = i
      · subst hi
        rw [List.getElem?_set] at h2
        simp only [if_true] at h2
        split at h2
        · exact .inl ⟨0, rfl, by simpa using h2⟩
        · cases h2
      · rw [List.getElem?_set_ne hi] at h2
        refine .inr ⟨fun j => ?_, h2⟩
        cases j with
        | zero => simpa using hi
        | succ j => simpa using h1 j
theorem backG_length : ∀ (ps : List (Option Nat)) (gr g : Ctx), (backG ps gr g).length = g.length
  | [], [], g => rfl
  | [], _ :: _, g => rfl
  | none :: ps, [], g => backG_length ps [] g
  | none :: ps, _ :: gr, g => backG_length ps gr g
  | some i :: ps, [], g => by
    show (backG ps [] (g.set i none)).length = _
    rw [backG_length ps, List.length_set]
  | some i :: ps, m :: gr, g => by
    show (backG ps gr (g.set i m)).length = _
    rw [backG_length ps, List.length_set]
theorem backA_length : ∀ (ps : List (Option Nat)) (ea e : Env), (backA ps ea e).length = e.length
  | [], [], g => rfl
  | [], _ :: _, g => rfl
  | none :: ps, [], g => rfl
  | some i :: ps, [], g => rfl
  | none :: ps, _ :: gr, g => backA_length ps gr g
  | some i :: ps, m :: gr, g => by
    show (backA ps gr (g.set i m)).length = _
    rw [backA_length ps, List.length_set]
theorem backA_out : ∀ (ps : List (Option Nat)) (ea e : Env) {i : Nat}, (∀ j : Nat, ps[j]? ≠ some (some i)) → (backA ps ea e)[i]? = e[i]?
  | [], [], g, _, _ => rfl
  | [], _ :: _, g, _, _ => rfl
  | none :: ps, [], g, _, _ => rfl
  | some i :: ps, [], g, _, _ => rfl
  | none :: ps, _ :: gr, g, i, h => backA_out ps gr g fun j => by simpa using h (j + 1)
  | some i0 :: ps, m :: gr, g, i, h => by
    show (backA ps gr (g.set i0 m))[i]? = _
    rw [backA_out ps gr _ fun j => by simpa using h (j + 1), List.getElem?_set_ne (by simpa using h 0)]
theorem nd_tail {o : Option Nat} {ps : List (Option Nat)} (h : ((o :: ps).filterMap id).Nodup) : (ps.filterMap id).Nodup ∧ ∀ i, o = some i → ∀ j : Nat, ps[j]? ≠ some (some i) := by
  cases o with
  | none => exact ⟨by simpa using h, fun i e => by cases e⟩
  | some i0 =>
    have h' : i0 ∉ ps.filterMap id ∧ (ps.filterMap id).Nodup := by simpa using h
    refine ⟨h'.2, fun i e j q => ?_⟩
    cases e
    exact h'.1 (List.mem_filterMap.mpr ⟨some i0, List.mem_of_getElem? q, rfl⟩)
theorem backA_in : ∀ (ps : List (Option Nat)) (ea e : Env) {i j : Nat} {d : Option D}, (ps.filterMap id).Nodup → ps[j]? = some (some i) → ea[j]? = some d → i < e.length → (backA ps ea e)[i]? = some d
  | [], _, _, _, _, _, _, h, _, _ => by simp at h
  | _ :: _, [], _, _, _, _, _, _, h, _ => by simp at h
  | none :: ps, x :: ea, e, i, j, d, nd, h1, h2, hi => by
    cases j with
    | zero => simp at h1
    | succ j => exact backA_in ps ea e (nd_tail nd).1 (by simpa using h1) (by simpa using h2) hi
  | some i0 :: ps, x :: ea, e, i, j, d, nd, h1, h2, hi => by
    obtain ⟨n1, n2⟩ := nd_tail nd
    cases j with
    | zero =>
      simp at h1 h2
      subst h1; subst h2
      show (backA ps ea (e.set i0 x))[i0]? = _
      rw [backA_out ps ea _ (n2 i0 rfl), List.getElem?_set_self hi]
    | succ j => exact backA_in ps ea (e.set i0 x) n1 (by simpa using h1) (by simpa using h2) (by rw [List.length_set]; exact hi)
theorem fillA_get : ∀ (e : Env) (ps : List (Option Nat)) (ds as : List D), fillA e ps ds = some as → as.length = ps.length ∧ ds.length = ps.length ∧ ∀ j : Nat, (ps[j]? = some none → as[j]? = ds[j]?) ∧ ∀ i, ps[j]? = some (some i) → ∃ d, e[i]? = some (some d) ∧ as[j]? = some d
  | e, [], [], as, h => by
    simp only [fillA] at h
    cases h
    exact ⟨rfl, rfl, fun j => ⟨fun q => by simp at q, fun i q => by simp at q⟩⟩
  | e, [], _ :: _, as, h => by simp [fillA] at h
  | e, none :: ps, [], as, h => by simp [fillA] at h
  | e, some i :: ps, [], as, h => by simp [fillA] at h
  | e, none :: ps, d :: ds, as, h => by
    simp only [fillA, Option.map_eq_some_iff] at h
    obtain ⟨bs, h1, rfl⟩ := h
    obtain ⟨a, b, c⟩ := fillA_get e ps ds bs h1
    refine ⟨by simp [a], by simp [b], fun j => ?_⟩
    cases j with
    | zero => exact ⟨fun _ => rfl, fun i q => by simp at q⟩
    | succ j => simpa using c j
  | e, some i0 :: ps, d :: ds, as, h => by
    simp only [fillA] at h
    split at h
    · rename_i d0 e0
      rw [Option.map_eq_some_iff] at h
      obtain ⟨bs, h1, rfl⟩ := h
      obtain ⟨a, b, c⟩ := fillA_get e ps ds bs h1
      refine ⟨by simp [a], by simp [b], fun j => ?_⟩
      cases j with
      | zero => exact ⟨fun q => by simp at q, fun i q => by simp at q; subst q; exact ⟨d0, e0, rfl⟩⟩
      | succ j => simpa using c j
    · cases h
theorem ArgB.get {S : Sx} {w : Om} {H : Hp} {σ : L2.St} : ∀ {ps : List (Option Nat)} {ms : List Md} {vs : List V} {ds : List D} {fs : List (List Addr)} (j : Nat) {m : Md}, ArgB S w H σ ps ms vs ds fs → ms[j]? = some m →
    ∃ v d f, vs[j]? = some v ∧ ds[j]? = some d ∧ fs[j]? = some f ∧ ((ps[j]? = some none ∧ Rep S w H m v d f) ∨ ∃ i, ps[j]? = some (some i) ∧ σ[i]? = some (some v))
  | _, _, _, _, _, _, _, .nil, h => by simp at h
  | _, _, _, _, _, 0, _, .val h t, e => by
    simp at e
    subst e
    exact ⟨_, _, _, rfl, rfl, rfl, .inl ⟨rfl, h⟩⟩
  | _, _, _, _, _, 0, _, .lent h t, e => by
    exact ⟨_, _, _, rfl, rfl, rfl, .inr ⟨_, rfl, h⟩⟩
  | _, _, _, _, _, j + 1, m, .val h t, e => by
    obtain ⟨v, d, f, h1, h2, h3, h4⟩ := ArgB.get j (m := m) t (by simpa using e)
    exact ⟨v, d, f, by simpa using h1, by simpa using h2, by simpa using h3, by simpa using h4⟩
  | _, _, _, _, _, j + 1, m, .lent h t, e => by
    obtain ⟨v, d, f, h1, h2, h3, h4⟩ := ArgB.get j (m := m) t (by simpa using e)
    exact ⟨v, d, f, by simpa using h1, by simpa using h2, by simpa using h3, by simpa using h4⟩
/-- shared values with other labels, by what is asked at each object -/
theorem Shr.conv {S S' : Sx} {w w' : Om} {H H' : Hp} {n m : Nat} (e : ∀ a, Lv w n a → Lv w' m a ∧ H' a = H a) (hK : S'.K = S.K) (hc : S'.cl = S.cl) {v : V} {d : D} (h : Shr S w H n v d) : Shr S' w' H' m v d := by
  refine Shr.rec (motive_1 := fun v d _ => Shr S' w' H' m v d) (motive_2 := fun vs ds _ => ShrL S' w' H' m vs ds) (motive_3 := fun vs ds _ => ShrD S' w' H' m vs ds) (motive_4 := fun vs ds _ => ShrF S' w' H' m vs ds)
    .non .bl .int .str (fun h _ ih => ?_) (fun h _ ih => ?_) (fun h1 h2 _ ih => ?_) (fun h1 h2 h3 _ ih => ?_) .nil (fun _ _ i1 i2 => .cons i1 i2) .nil (fun _ _ i1 i2 => .int i1 i2) (fun _ _ i1 i2 => .str i1 i2) .nil (fun _ _ i1 i2 => .cons i1 i2) h
  · exact .lst ⟨(e _ h.1).1, (e _ h.1).2.trans h.2⟩ ih
  · refine .tup ?_ ih
    rcases h with ⟨h1, h2⟩ | h
    · exact .inl ⟨(e _ h1).1, Rd.cong (e _ h1).2 h2⟩
    · exact .inr (hK ▸ h)
  · exact .dic (e _ h1).1 ((e _ h1).2.trans h2) ih
  · exact .obj (e _ h1).1 ((e _ h1).2.trans h2) (by rw [hc]; exact h3) ih
theorem ShrF.conv {S S' : Sx} {w w' : Om} {H H' : Hp} {n m : Nat} (e : ∀ a, Lv w n a → Lv w' m a ∧ H' a = H a) (hK : S'.K = S.K) (hc : S'.cl = S.cl) : ∀ {vs : List (Str × V)} {ds : List (Str × D)}, ShrF S w H n vs ds → ShrF S' w' H' m vs ds
  | _, _, .nil => .nil
  | _, _, .cons h t => .cons (h.conv e hK hc) (ShrF.conv e hK hc t)
theorem Keep.conv {n : Nat} {w w' : Om} {H H' : Hp} (k : Keep n w H w' H') : ∀ a, Lv w n a → Lv w' n a ∧ H' a = H a := fun a l => l.keep k

/-- the labels within a call -/
def cw (n : Nat) (ps : List (Option Nat)) (fs : List (List Addr)) (w : Om) : Om := fun a => match w a with
  | some (.lvl 0) => some (.lvl 0)
  | some (.lvl (k + 1)) => if k + 1 ≤ n then some (.lvl 1) else some (.lvl 2)
  | some (.slot i) => match ps.findIdx? (· == some i) with
    | some j => some (.slot j)
    | none => some (.lvl 2)
  | some .hand => match fs.findIdx? (fun f => decide (a ∈ f)) with
    | some j => some (.slot j)
    | none => some (.lvl 2)
  | none => none
/-- .. and behind it -/
def bw (ps : List (Option Nat)) (w w' : Om) : Om := fun a => match w' a with
  | some .hand => some .hand
  | some (.slot j) => match ps[j]? with
    | some (some i) => some (.slot i)
    | _ => none
  | some (.lvl 0) => some (.lvl 0)
  | some (.lvl (_ + 1)) => w a
  | none => none
theorem idx_uniq {α : Type} {p : α → Bool} {l : List α} {j : Nat} {x : α} (h : l[j]? = some x) (hp : p x = true) (u : ∀ (i : Nat) (y : α), l[i]? = some y → p y = true → i = j) : l.findIdx? p = some j := by
  cases e : l.findIdx? p with
  | none =>
    rw [List.findIdx?_eq_none_iff] at e
    rw [e x (List.mem_of_getElem? h)] at hp
    cases hp
  | some i =>
    obtain ⟨hi, h1, _⟩ := List.findIdx?_eq_some_iff_getElem.mp e
    exact congrArg some (u i l[i] (List.getElem?_eq_getElem hi) h1)
theorem ps_uniq : ∀ {ps : List (Option Nat)} {i a b : Nat}, (ps.filterMap id).Nodup → ps[a]? = some (some i) → ps[b]? = some (some i) → a = b
  | [], _, _, _, _, h, _ => by simp at h
  | o :: ps, i, 0, 0, _, _, _ => rfl
  | o :: ps, i, 0, b + 1, nd, h1, h2 => by
    simp at h1
    exact absurd (by simpa using h2) ((nd_tail nd).2 i h1 b)
  | o :: ps, i, a + 1, 0, nd, h1, h2 => by
    simp at h2
    exact absurd (by simpa using h1) ((nd_tail nd).2 i h2 a)
  | o :: ps, i, a + 1, b + 1, nd, h1, h2 => congrArg (· + 1) (ps_uniq (ps := ps) (i := i) (a := a) (b := b) (nd_tail nd).1 (by simpa using h1) (by simpa using h2))
theorem fs_uniq : ∀ {fs : List (List Addr)} {i j : Nat} {f g : List Addr} {a : Addr}, fs.flatten.Nodup → fs[i]? = some f → fs[j]? = some g → a ∈ f → a ∈ g → i = j
  | [], _, _, _, _, _, _, h, _, _, _ => by simp at h
  | x :: fs, 0, 0, _, _, _, _, _, _, _, _ => rfl
  | x :: fs, 0, j + 1, f, g, a, nd, h1, h2, ha, hb => by
    simp at h1 h2
    subst h1
    rw [List.flatten_cons, List.nodup_append] at nd
    exact absurd rfl (nd.2.2 a ha a (List.mem_flatten.mpr ⟨g, List.mem_of_getElem? h2, hb⟩))
  | x :: fs, i + 1, 0, f, g, a, nd, h1, h2, ha, hb => by
    simp at h1 h2
    subst h2
    rw [List.flatten_cons, List.nodup_append] at nd
    exact absurd rfl (nd.2.2 a hb a (List.mem_flatten.mpr ⟨f, List.mem_of_getElem? h1, ha⟩))
  | x :: fs, i + 1, j + 1, f, g, a, nd, h1, h2, ha, hb => by
    rw [List.flatten_cons, List.nodup_append] at nd
    exact congrArg (· + 1) (fs_uniq (fs := fs) (i := i) (j := j) nd.2.1 (by simpa using h1) (by simpa using h2) ha hb)
section
variable {S : Sx} {g : Ctx} {w : Om} {σ : L2.St} {H : Hp} {env : Env} {ps : List (Option Nat)} {ms : List Md} {vs : List V} {ds as : List D} {fs : List (List Addr)} {h : Sh}
theorem cw_lvl {a : Addr} {k : Nat} (e : w a = some (.lvl k)) : ∃ j, cw S.n ps fs w a = some (.lvl j) ∧ (k ≤ S.n → j ≤ 1) ∧ (k = 0 ↔ j = 0) := by
  unfold cw
  rw [e]
  cases k with
  | zero => exact ⟨0, rfl, fun _ => Nat.zero_le _, Iff.rfl⟩
  | succ k =>
    by_cases hk : k + 1 ≤ S.n
    · exact ⟨1, by simp only [if_pos hk], fun _ => Nat.le_refl _, by simp⟩
    · exact ⟨2, by simp only [if_neg hk], fun z => absurd z hk, by simp⟩
theorem Rep.arg {K : PySem.W.Frag} {cl : Str → Option Addr} {E : XK} {m m' : Md} {v : V} {d : D} {fp : List Addr} (hK : K = S.K) (hc : cl = S.cl) (R : Rep S w H m v d fp) (hm : argOk m m' = true) (hl : m.lev ≤ S.n) : Rep (sxOf K cl h E) (cw S.n ps fs w) H m' v d fp := by
  cases R with
  | sc z => exact .sc z
  | sh z =>
    rename_i k
    cases m' with
    | own m' => simp [argOk] at hm
    | sh j =>
      simp only [argOk, Bool.or_eq_true, decide_eq_true_eq] at hm
      refine .sh (Shr.conv (fun a l => ⟨?_, rfl⟩) hK hc z)
      obtain ⟨i, hi, e⟩ := l
      obtain ⟨j', e1, e2, e3⟩ := cw_lvl (S := S) (ps := ps) (fs := fs) e
      have hl : k ≤ S.n := hl
      have h1 := e2 (Nat.le_trans hi hl)
      refine ⟨j', ?_, e1⟩
      rcases hm with hm | hm
      · have : j' = 0 := e3.mp (by omega)
        omega
      · omega
  | own z1 z2 =>
    rename_i m a vs ds fp
    cases m' with
    | sh j => simp [argOk] at hm
    | own m' =>
      simp only [argOk, Bool.and_eq_true, decide_eq_true_eq] at hm
      refine Rep.to (S := S) (S' := sxOf K cl h E) hK hc (Rep.own z1 z2) hm.1 (fun a k hk e => ⟨?_, rfl⟩) fun _ _ => rfl
      have l0 : (Md.own m).lev = 0 := hm.2
      rw [l0] at hk
      have : k = 0 := by omega
      subst this
      unfold cw
      rw [e]
/-- at the entry of a call -/
theorem Rel.enter {K : PySem.W.Frag} {cl : Str → Option Addr} {E : XK} (hK : K = S.K) (hc : cl = S.cl) (R : Rel S g w σ H env) (ho : OkG S.n g) (B : ArgB S w H σ ps ms vs ds fs) (nd : fs.flatten.Nodup) (hf : ∀ a ∈ fs.flatten, w a = some .hand) (hm : ∀ m ∈ ms, m.lev ≤ S.n) (ef : fillA env ps ds = some as)
    (ok : callOk S.n h g ps ms = true) : vs.length = h.ms.length ∧ as.length = h.ms.length ∧ Rel (sxOf K cl h E) (h.ms.map some) (cw S.n ps fs w) (vs.map some) H (as.map some) := by
  simp only [callOk, Bool.and_eq_true, decide_eq_true_eq, List.all_eq_true] at ok
  obtain ⟨⟨⟨⟨⟨⟨c1, c2⟩, c3⟩, c4⟩, c5⟩, c6⟩, c7⟩ := ok
  obtain ⟨b1, b2, b3, b4⟩ := B.length
  obtain ⟨f1, f2, f3⟩ := fillA_get env ps ds as ef
  have lv : vs.length = h.ms.length := by omega
  have la : as.length = h.ms.length := by omega
  refine ⟨lv, la, fun a x e => ?_, fun j m' e => ?_, by simp only [List.length_map]; omega, by simp only [List.length_map]; omega⟩
  · cases ew : w a with
    | none => unfold cw at e; rw [ew] at e; cases e
    | some y => exact R.dom a y ew
  · rw [List.getElem?_map, Option.map_eq_some_iff] at e
    obtain ⟨m'', e1, e2⟩ := e
    cases e2
    have hj : j < h.ms.length := (List.getElem?_eq_some_iff.mp e1).1
    have hj' : j < ms.length := by omega
    obtain ⟨v, d, f, v1, d1, fj, alt⟩ := B.get j (List.getElem?_eq_getElem hj')
    have ao : argOk ms[j] m' = true := c3 (ms[j], m') (List.mem_of_getElem? (i := j) (by
      rw [List.getElem?_zip_eq_some]
      exact ⟨List.getElem?_eq_getElem hj', e1⟩))
    have lm := hm ms[j] (List.getElem_mem hj')
    rcases alt with ⟨pn, rp⟩ | ⟨i, pi, si⟩
    · refine ⟨v, d, f, by rw [List.getElem?_map, v1]; rfl, by rw [List.getElem?_map, (f3 j).1 pn, d1]; rfl, rp.arg hK hc ao lm, ?_, fun a ha => ?_⟩
      · exact nd.sublist (List.sublist_flatten_of_mem (List.mem_of_getElem? fj))
      · have hh := hf a (List.mem_flatten.mpr ⟨f, List.mem_of_getElem? fj, ha⟩)
        unfold cw
        rw [hh]
        simp only [idx_uniq fj (p := fun f => decide (a ∈ f)) (decide_eq_true ha) fun i y hi hy => fs_uniq nd hi fj (of_decide_eq_true hy) ha]
    · have gi := c7 (some i, ms[j]) (List.mem_of_getElem? (i := j) (by
        rw [List.getElem?_zip_eq_some]
        exact ⟨pi, List.getElem?_eq_getElem hj'⟩))
      simp only [Bool.and_eq_true, beq_iff_eq] at gi
      obtain ⟨v', d', fp, s1, s2, s3, s4, s5⟩ := R.slot i _ gi.1
      rw [si] at s1
      cases s1
      obtain ⟨d2, q1, q2⟩ := (f3 j).2 i pi
      rw [s2] at q1
      cases q1
      refine ⟨v, d', fp, by rw [List.getElem?_map, v1]; rfl, by rw [List.getElem?_map, q2]; rfl, s3.arg hK hc ao lm, s4, fun a ha => ?_⟩
      unfold cw
      rw [s5 a ha]
      simp only [idx_uniq pi (p := (· == some i)) (by simp) fun i' y hi' hy => ps_uniq c4 (by rw [hi']; congr 1; simpa using hy) pi]
/-- behind a call -/
theorem Rel.leave {K : PySem.W.Frag} {cl : Str → Option Addr} {E : XK} {w' : Om} {H' : Hp} {ea : Env} {gr : Ctx} (hK : K = S.K) (hc : cl = S.cl) (R : Rel S g w σ H env) (B : ArgB S w H σ ps ms vs ds fs) (nd : (ps.filterMap id).Nodup) (hl : ms.length = vs.length)
    (c5 : ∀ (j : Nat) (m : Md), gr[j]? = some (some m) → m.lev = 0 ∧ ∃ i, ps[j]? = some (some i)) (x : Ext (cw S.n ps fs w) H w' H') (RF : RelF (sxOf K cl h E) gr w' vs H' ea) :
    Ext w H (bw ps w w') H' ∧ Rel S (backG ps gr g) (bw ps w w') σ H' (backA ps ea env) ∧ Keep 0 w' H' (bw ps w w') H' ∧ ∀ a, w' a = some .hand → bw ps w w' a = some .hand := by
  obtain ⟨σ', hσ, R'⟩ := RF
  have k0 : Keep 0 w' H' (bw ps w w') H' := fun a k hk e => ⟨by
    have : k = 0 := by omega
    subst this
    unfold bw
    rw [e], rfl⟩
  have ex : Ext w H (bw ps w w') H' := fun a k e => by
    obtain ⟨j, e1, _, e3⟩ := cw_lvl (S := S) (ps := ps) (fs := fs) e
    obtain ⟨y1, y2⟩ := x a j e1
    refine ⟨?_, y2⟩
    unfold bw
    rw [y1]
    cases j with
    | zero =>
      have : k = 0 := e3.mpr rfl
      subst this
      rfl
    | succ j => exact e
  refine ⟨ex, ⟨fun a y e => ?_, fun i m e => ?_, by rw [backA_length]; exact R.len, by rw [backG_length]; exact R.gl⟩, k0, fun a e => by unfold bw; rw [e]⟩
  · cases ew : w' a with
    | none => unfold bw at e; rw [ew] at e; cases e
    | some y => exact R'.dom a y ew
  · rcases backG_get ps gr g e with ⟨j, h1, h2⟩ | ⟨h1, h2⟩
    · obtain ⟨v, d, fp, s1, s2, s3, s4, s5⟩ := R'.slot j m h2
      have lm := (c5 j m h2).1
      rw [hσ j m h2, List.getElem?_map, Option.map_eq_some_iff] at s1
      obtain ⟨v', s1, s1'⟩ := s1
      cases s1'
      have hj : j < ms.length := by rw [hl]; exact (List.getElem?_eq_some_iff.mp s1).1
      obtain ⟨v2, d2, f2, v1, _, _, alt⟩ := B.get j (List.getElem?_eq_getElem hj)
      rw [s1] at v1
      cases v1
      rcases alt with ⟨pn, _⟩ | ⟨i', pi, si⟩
      · rw [h1] at pn; cases pn
      · rw [h1] at pi
        cases pi
        refine ⟨v, d, fp, si, backA_in ps ea env nd h1 s2 (by rw [R.len]; exact (List.getElem?_eq_some_iff.mp si).1), Rep.to (S := sxOf K cl h E) (S' := S) hK.symm hc.symm s3 (Md.le_refl m) (by rw [lm]; exact k0) (fun _ _ => rfl), s4, fun a ha => ?_⟩
        unfold bw
        rw [s5 a ha]
        simp only [h1]
    · obtain ⟨v, d, fp, s1, s2, s3, s4, s5⟩ := R.slot i m h2
      have lab2 : ∀ a ∈ fp, cw S.n ps fs w a = some (.lvl 2) := fun a ha => by
        unfold cw
        rw [s5 a ha]
        have : ps.findIdx? (· == some i) = none := by
          rw [List.findIdx?_eq_none_iff]
          intro o ho
          obtain ⟨j, hj⟩ := List.getElem?_of_mem ho
          cases hb : (o == some i) with
          | false => rfl
          | true =>
            have : o = some i := by simpa using hb
            rw [this] at hj
            exact absurd hj (h1 j)
        simp only [this]
      refine ⟨v, d, fp, s1, by rw [backA_out ps ea env h1]; exact s2, s3.to rfl rfl (Md.le_refl m) ex.keep (fun a ha => (x a 2 (lab2 a ha)).2), s4, fun a ha => ?_⟩
      unfold bw
      rw [(x a 2 (lab2 a ha)).1]
      exact s5 a ha
end
section
variable {X : Cx} {S : Sx} {g g1 : Ctx} {ps : List (Option Nat)} {ms : List Md} {es : List Expr} {fr : MA} {h : Sh} {F : PF} {f : Addr} {fd : FuncData} {qs : List Str} {k : Nat} {x : Str} {p pos : Pos} {e : Expr} {cl : Str → Option Addr}
def gxOk (n : Nat) (h : Sh) (g1 : Ctx) (ps : List (Option Nat)) (gx : Ctx) : Bool := (h.gx == [] && gx == [])
theorem okg_back {n : Nat} (h1 : OkG n g1) (h2 : ∀ (j : Nat) (m : Md), h.gr[j]? = some (some m) → m.lev = 0) : OkG n (backG ps h.gr g1) := fun i m e => by
  rcases backG_get ps h.gr g1 e with ⟨j, _, q⟩ | ⟨_, q⟩
  · rw [h2 j m q]; exact Nat.zero_le _
  · exact h1 i m q
theorem call_c5 {n : Nat} (ok : callOk n h g1 ps ms = true) (hg : h.gr.length ≤ h.ms.length := by decide) : ∀ (j : Nat) (m : Md), h.gr[j]? = some (some m) → m.lev = 0 ∧ ∃ i, ps[j]? = some (some i) := fun j m e => by
  simp only [callOk, Bool.and_eq_true, decide_eq_true_eq, List.all_eq_true] at ok
  obtain ⟨⟨⟨⟨⟨⟨c1, c2⟩, c3⟩, c4⟩, c5⟩, c6⟩, c7⟩ := ok
  have hj : j < h.gr.length := (List.getElem?_eq_some_iff.mp e).1
  have hp : j < ps.length := by omega
  have hm : j < ms.length := by omega
  have q := c5 (ps[j], (ms[j], some m)) (List.mem_of_getElem? (i := j) (by
    rw [List.getElem?_zip_eq_some]
    refine ⟨List.getElem?_eq_getElem hp, ?_⟩
    rw [List.getElem?_zip_eq_some]
    exact ⟨List.getElem?_eq_getElem hm, e⟩))
  cases ep : ps[j] with
  | none => simp only [ep] at q; cases q
  | some i =>
    simp only [ep, decide_eq_true_eq] at q
    exact ⟨q, i, by rw [List.getElem?_eq_getElem hp, ep]⟩
theorem re_call {t : TA} (hK : cl = S.cl) (o1 : OkG S.n g1) (hm : ∀ m ∈ ms, m.lev ≤ S.n) (hB : RB S g g1 ps ms t fr) (ok : callOk S.n h g1 ps ms = true) (hg : h.gr.length ≤ h.ms.length) (hx : S.gx = []) (hx2 : h.gx = []) :
    RE S g (backG ps h.gr g1) h.rm (tCall (spP S.K cl h F) [] S.E t) (mCall F ps fr) := by
  intro w σ H env Q R q
  have q := Out.bind q
  have c5 := call_c5 ok hg
  refine hB w σ H env _ R (Out.mono q (Ext.refl _ _) fun ds e1 q1 vs w1 H1 fs x1 R1 B1 nd1 hf1 => ?_)
  cases ef : fillA e1 ps ds with
  | none => rw [ef] at q1; exact q1.elim
  | some as =>
    rw [ef] at q1
    simp only at q1
    obtain ⟨l1, l2, R2⟩ := R1.enter (K := S.K) (cl := cl) (E := S.E) (h := h) rfl hK o1 B1 nd1 hf1 hm ef ok
    have ok' := ok
    simp only [callOk, Bool.and_eq_true, decide_eq_true_eq] at ok'
    have lm : ms.length = vs.length := by rw [l1]; exact ok'.1.1.1.1.1.1
    have ndp := ok'.1.1.1.2
    have rm0 := ok'.1.2
    show spP S.K cl h F (vs ++ []) H1 Q S.E
    rw [List.append_nil]
    refine ⟨l1, _, as, l2, R2, ?_⟩
    cases eF : F as with
    | rt d ea =>
      rw [eF] at q1
      intro v w' H' x' RF V'
      obtain ⟨x3, R3, k0, hh⟩ := R1.leave rfl hK B1 ndp lm c5 x' RF
      obtain ⟨fp, z1, z2, z3⟩ := V'
      exact q1 v _ H' (x1.trans x3) R3 ⟨fp, Rep.to (S := sxOf S.K cl h S.E) (S' := S) rfl hK.symm z1 (Md.le_refl _) (by rw [rm0]; exact k0) (fun _ _ => rfl), z2, fun a ha => hh a (z3 a ha)⟩
    | ex y ea =>
      rw [eF] at q1
      intro c dd w' H' x' RF X'
      obtain ⟨x3, R3, k0, hh⟩ := R1.leave (gr := h.gx) rfl hK B1 ndp lm (by rw [hx2]; intro j m e; simp at e) x' RF
      obtain ⟨nm, C, fx, y1, y2, y3, y4⟩ := X'
      refine q1 c dd _ H' (x1.trans x3) (by rw [hx]; exact R3.fewer (fun j m e => by simp at e) (Nat.zero_le _)) ⟨nm, C, fx, y1, by rw [← hK]; exact y2, y3, ?_⟩
      rcases y4 with y4 | ⟨d, xs, y5, y6, y7⟩
      · exact .inl y4
      · refine .inr ⟨d, xs, y5, y6, ?_⟩
        exact ShrF.conv (S := sxOf S.K cl h S.E) (S' := S) k0.conv rfl hK.symm y7
    | nx ea => rw [eF] at q1; exact q1.elim
    | bk ea => rw [eF] at q1; exact q1.elim
    | ct ea => rw [eF] at q1; exact q1.elim
    | no => rw [eF] at q1; exact q1.elim
end
end G

/-! Fw12 -/
/-! what is built in -/
namespace G
open PySem L2

/-- the facts of a def that callers need -/
structure Df (P : Program) (w : World) (K : PySem.W.Frag) (mg : Str → Option Value) (base : Heap) (cl : Str → Option Addr) (x : Str) (k : Nat) (h : Sh) (F : PF) : Prop where
  ex : ∃ (f : Addr) (fd : FuncData) (qs : List Str), FnG P w K mg base k f fd qs (spP K cl h F) ∧ mg x = some (.ref f) ∧ PySem.W.keepIn K (.ref f) = true ∧ Binds K fd qs []
section
variable {X : Cx} {S : Sx} {g g1 : Ctx} {ps : List (Option Nat)} {ms : List Md} {es : List Expr} {fr : MA} {h : Sh} {F : PF} {k : Nat} {x : Str} {p pos : Pos} {e : Expr}
theorem callOk_rm {n : Nat} (ok : callOk n h g1 ps ms = true) : h.rm.lev = 0 := by
  simp only [callOk, Bool.and_eq_true, decide_eq_true_eq] at ok
  exact ok.1.2
/-- f(..) -/
theorem se_call [gd : Gd X S] (df : Df X.prog X.w S.K X.mg X.base S.cl x k h F) (hr : Room k X.A) (ha : SB X S g g1 ps ms (e :: es) fr) (ok : callOk S.n h g1 ps ms = true := by rfl) (hl : h.gr.length ≤ h.ms.length := by exact Nat.le_of_ble_eq_true rfl) (hx : S.gx = [] := by rfl) (hx2 : h.gx = [] := by rfl)
    (hg : Gl X x := by rfl) (hdb : (x == ("__debug__" : Str)) = false := by decide) (he : starEach (e :: es) X.env = (false, eval e X.env) :: starEach es X.env := by rfl) (hpl : (backTo pos (starEach es X.env)).any (·.1) = false := by rfl) :
    SE X S g (backG ps h.gr g1) h.rm (.Call (.Name x p) (e :: es) [] pos) (mCall F ps fr) := ⟨fun o0 => by
  obtain ⟨⟨t, p1, p2⟩, o1, l1⟩ := ha.run o0
  obtain ⟨f, fd, qs, d1, d2, d3, d4⟩ := df.ex
  have eK : X.K = S.K := gd.K.symm
  exact ⟨⟨_, pe_callG ((congrArg (fun K' => FnG X.prog X.w K' X.mg X.base k f fd qs (spP S.K S.cl h F)) gd.K).mp d1) gd.gs hr hg d2 (eK ▸ d3) (eK ▸ d4) .nil gd.pass p1 hdb he hpl, re_call rfl o1 l1 p2 ok hl hx hx2⟩, okg_back o1 fun j m e => (call_c5 ok hl j m e).1, by rw [callOk_rm ok]; exact Nat.zero_le _⟩⟩
end

/-! ### built-in functions by values -/
def RC (S : Sx) (ms : List Md) (m3 : Md) (r : List V → Hp → VK → Prop) (h : List D → Option D) : Prop :=
  ∀ (w : Om) (H : Hp) (vs : List V) (ds : List D) (d3 : D) (fp : List Addr) (Q : VK), (∀ a x, w a = some x → ∃ o, H a = some o) → RepA S w H ms vs ds fp → h ds = some d3 →
    (∀ v w' H', Grow w H w' H' → Val S m3 w' H' v d3 → Q v H') → r vs H Q
def mFn (h : List D → Option D) (fr : MA) : ME := fun e => (fr e).bind fun ds e1 => match h ds with
  | some d => .ok d e1
  | none => .no
section
variable {X : Cx} {S : Sx} {g g1 : Ctx} {ms : List Md} {m3 : Md} {es : List Expr} {fr : MA} {x : Str} {p pos : Pos} {e : Expr} {id T : String} {r : List V → Hp → VK → Prop} {h : List D → Option D}
theorem re_fn {t : TA} (hA : RA S g g1 ms t fr) (hr : RC S ms m3 r h) : RE S g g1 m3 (tCB r t) (mFn h fr) := by
  intro w σ H env Q R q
  have q := Out.bind q
  refine hA w σ H env _ R (Out.mono q (Ext.refl _ _) fun ds e1 q1 vs w1 H1 x1 R1 V1 => ?_)
  obtain ⟨fp, z, _⟩ := V1
  cases eh : h ds with
  | none => rw [eh] at q1; exact q1.elim
  | some d3 =>
    rw [eh] at q1
    exact hr w1 H1 vs ds d3 fp _ R1.dom z eh fun v w' H' gr V3 => q1 v w' H' (x1.trans (gr.ext R1.dom)) (R1.grow gr) V3
theorem se_fnB (hc : CallR X (.builtin id) r) (hr : RC S ms m3 r h) (hm : X.mg x = none) (hv : bootBuiltins x = some (.builtin id)) (hl : m3.lev ≤ S.n) (ha : SA X S g g1 ms (e :: es) fr) (hg : Gl X x := by rfl) (hn : x ≠ "__name__" := by decide) (hdb : (x == ("__debug__" : Str)) = false := by decide)
    (he : starEach (e :: es) X.env = (false, eval e X.env) :: starEach es X.env := by rfl) (hpl : (backTo pos (starEach es X.env)).any (·.1) = false := by rfl) : SE X S g g1 m3 (.Call (.Name x p) (e :: es) [] pos) (mFn h fr) := ⟨fun o0 => by
  obtain ⟨⟨t, p1, p2⟩, o1, l1⟩ := ha.run o0
  exact ⟨⟨_, pe_callB hc hg hm hv p1 hn hdb he hpl, re_fn p2 hr⟩, o1, hl⟩⟩
theorem se_fnT (hc : CallR X (.type T) r) (hr : RC S ms m3 r h) (hm : X.mg x = none) (hv : bootBuiltins x = some (.type T)) (hl : m3.lev ≤ S.n) (ha : SA X S g g1 ms (e :: es) fr) (hg : Gl X x := by rfl) (hn : x ≠ "__name__" := by decide) (hdb : (x == ("__debug__" : Str)) = false := by decide)
    (he : starEach (e :: es) X.env = (false, eval e X.env) :: starEach es X.env := by rfl) (hpl : (backTo pos (starEach es X.env)).any (·.1) = false := by rfl) : SE X S g g1 m3 (.Call (.Name x p) (e :: es) [] pos) (mFn h fr) := ⟨fun o0 => by
  obtain ⟨⟨t, p1, p2⟩, o1, l1⟩ := ha.run o0
  exact ⟨⟨_, pe_callTy hc hg hm hv p1 hn hdb he hpl, re_fn p2 hr⟩, o1, hl⟩⟩
end

/-! ### len, abs, int, all, any, list, tuple -/
def hLen : List D → Option D
  | [.lst xs] => some (.int xs.length)
  | [.tup xs] => some (.int xs.length)
  | [.str z] => if decide (z.length ≤ sizeLine) then some (.int z.length) else none
  | _ => none
def hAbs : List D → Option D
  | [.int i] => some (.int (if i < 0 then -i else i))
  | _ => none
def hInt : List D → Option D
  | [.int i] => some (.int i)
  | [.bl b] => some (.int (if b then 1 else 0))
  | _ => none
def boolsOf : List D → Option (List Bool)
  | [] => some []
  | .bl b :: ds => (boolsOf ds).map (b :: ·)
  | _ :: _ => none
def hAll : List D → Option D
  | [.lst xs] => (boolsOf xs).map fun bs => .bl (bs.all id)
  | _ => none
def hAny : List D → Option D
  | [.lst xs] => (boolsOf xs).map fun bs => .bl (bs.any id)
  | _ => none
def hListOf : List D → Option D
  | [.lst xs] => some (.lst xs)
  | [.tup xs] => some (.lst xs)
  | _ => none
def hTupOf : List D → Option D
  | [.lst xs] => some (.tup xs)
  | [.tup xs] => some (.tup xs)
  | _ => none
section
variable {S : Sx} {m m3 : Md} {K : PySem.W.Frag} {w : Om} {H : Hp}
theorem ShrL.bools : ∀ {vs : List V} {ds : List D} {bs : List Bool} {n : Nat}, ShrL S w H n vs ds → boolsOf ds = some bs → vs = bs.map V.bl
  | _, _, bs, n, .nil, e => by
    simp only [boolsOf] at e
    cases e
    rfl
  | _, _, bs, n, .cons (d := d) h t, e => by
    cases d with
    | bl b =>
      simp only [boolsOf, Option.map_eq_some_iff] at e
      obtain ⟨bs', e1, rfl⟩ := e
      cases h
      rw [t.bools e1]
      rfl
    | _ => simp [boolsOf] at e
theorem RepL.bools : ∀ {vs : List V} {ds : List D} {bs : List Bool} {m : Md} {fp : List Addr}, RepL S w H m vs ds fp → boolsOf ds = some bs → vs = bs.map V.bl
  | _, _, bs, _, _, .nil, e => by
    simp only [boolsOf] at e
    cases e
    rfl
  | _, _, bs, _, _, .cons (d := d) h t, e => by
    cases d with
    | bl b =>
      simp only [boolsOf, Option.map_eq_some_iff] at e
      obtain ⟨bs', e1, rfl⟩ := e
      obtain ⟨rfl, _⟩ := h.bl
      rw [t.bools e1]
      rfl
    | _ => simp [boolsOf] at e
theorem rc_len (hK : S.K = K) : RC S [m] m3 (fun xs H Q => ∃ x n, xs = [x] ∧ LenV K x H n ∧ Q (.int n) H) hLen := by
  intro w H vs ds d3 fp Q dm A e q
  unfold hLen at e
  split at e
  · obtain ⟨v, rfl, r⟩ := A.one
    cases e
    obtain ⟨a, us, f, rfl, h1, h2, _⟩ := r.lst
    exact ⟨_, us.length, rfl, .inl ⟨us, SqL.of h1, rfl⟩, q _ w H (Grow.refl dm) (val_sc (by show ((us.length : Nat) : Int) = _; rw [h2.length]))⟩
  · obtain ⟨v, rfl, r⟩ := A.one
    cases e
    obtain ⟨n, a, us, _, rfl, h1, h2, _⟩ := r.tup
    exact ⟨_, us.length, rfl, .inr ⟨us, hK ▸ h1.sq, rfl⟩, q _ w H (Grow.refl dm) (val_sc (by show ((us.length : Nat) : Int) = _; rw [h2.length]))⟩
  · split at e
    · rename_i hz
      obtain ⟨v, rfl, r⟩ := A.one
      cases e
      obtain ⟨rfl, _⟩ := r.str
      exact ⟨_, _, rfl, ⟨of_decide_eq_true hz, rfl⟩, q _ w H (Grow.refl dm) (val_sc rfl)⟩
    · cases e
  · cases e
theorem rc_abs : RC S [m] m3 (fun xs H Q => ∃ i, xs = [.int i] ∧ Q (.int (if i < 0 then -i else i)) H) hAbs := by
  intro w H vs ds d3 fp Q dm A e q
  unfold hAbs at e
  split at e
  · obtain ⟨v, rfl, r⟩ := A.one
    cases e
    obtain ⟨rfl, _⟩ := r.int
    exact ⟨_, rfl, q _ w H (Grow.refl dm) (val_sc rfl)⟩
  · cases e
theorem rc_int : RC S [m] m3 (fun xs H Q => (∃ i, xs = [.int i] ∧ Q (.int i) H) ∨ ∃ k, xs = [.bl k] ∧ Q (.int (if k then 1 else 0)) H) hInt := by
  intro w H vs ds d3 fp Q dm A e q
  unfold hInt at e
  split at e
  · obtain ⟨v, rfl, r⟩ := A.one
    cases e
    obtain ⟨rfl, _⟩ := r.int
    exact .inl ⟨_, rfl, q _ w H (Grow.refl dm) (val_sc rfl)⟩
  · obtain ⟨v, rfl, r⟩ := A.one
    cases e
    obtain ⟨rfl, _⟩ := r.bl
    exact .inr ⟨_, rfl, q _ w H (Grow.refl dm) (val_sc rfl)⟩
  · cases e
theorem rc_all : RC S [m] m3 (rAll K) hAll := by
  intro w H vs ds d3 fp Q dm A e q
  unfold hAll at e
  split at e
  · obtain ⟨v, rfl, r⟩ := A.one
    rw [Option.map_eq_some_iff] at e
    obtain ⟨bs, e1, rfl⟩ := e
    obtain ⟨a, us, f, rfl, h1, h2, _⟩ := r.lst
    exact ⟨a, bs, rfl, h2.bools e1 ▸ SqL.of h1, q _ w H (Grow.refl dm) (val_sc rfl)⟩
  · cases e
theorem rc_any : RC S [m] m3 (rAny K) hAny := by
  intro w H vs ds d3 fp Q dm A e q
  unfold hAny at e
  split at e
  · obtain ⟨v, rfl, r⟩ := A.one
    rw [Option.map_eq_some_iff] at e
    obtain ⟨bs, e1, rfl⟩ := e
    obtain ⟨a, us, f, rfl, h1, h2, _⟩ := r.lst
    exact ⟨a, bs, rfl, h2.bools e1 ▸ SqL.of h1, q _ w H (Grow.refl dm) (val_sc rfl)⟩
  · cases e
theorem rc_listOf {k : Nat} (hK : S.K = K) (hm : m.flat = some k) (h3 : newOk k m3 = true) : RC S [m] m3 (fun xs H Q => ∃ p ys, xs = [.ref p] ∧ (SqL K H p ys ∨ SqT K H p ys) ∧ ∀ l, H l = none → Q (.ref l) (upd H l (.lst ys))) hListOf := by
  intro w H vs ds d3 fp Q dm A e q
  unfold hListOf at e
  split at e
  · obtain ⟨v, rfl, r⟩ := A.one
    cases e
    obtain ⟨a, us, rfl, h1, h2⟩ := r.flatL hm
    refine ⟨a, us, rfl, .inl (SqL.of h1), fun l hl => ?_⟩
    obtain ⟨w', g1, g2⟩ := val_lst h3 dm hl h2
    exact q _ w' _ g1 g2
  · obtain ⟨v, rfl, r⟩ := A.one
    cases e
    obtain ⟨n, a, us, e1, rfl, h1, h2, _⟩ := r.tup
    subst e1
    have : n = k := by simpa [Md.flat] using hm
    subst this
    refine ⟨a, us, rfl, .inr (hK ▸ h1.sq), fun l hl => ?_⟩
    obtain ⟨w', g1, g2⟩ := val_lst h3 dm hl h2
    exact q _ w' _ g1 g2
  · cases e
theorem rc_tupOf {k j : Nat} (hK : S.K = K) (hm : m.flat = some k) (h3 : k ≤ j) : RC S [m] (.sh j) (fun xs H Q => ∃ p ys, xs = [.ref p] ∧ ((SqL K H p ys ∧ ∀ l, H l = none → Q (.ref l) (upd H l (.tup ys))) ∨ (SqT K H p ys ∧ Q (.ref p) H))) hTupOf := by
  intro w H vs ds d3 fp Q dm A e q
  unfold hTupOf at e
  split at e
  · obtain ⟨v, rfl, r⟩ := A.one
    cases e
    obtain ⟨a, us, rfl, h1, h2⟩ := r.flatL hm
    refine ⟨a, us, rfl, .inl ⟨SqL.of h1, fun l hl => ?_⟩⟩
    obtain ⟨w', g1, g2⟩ := val_tup h3 dm hl h2
    exact q _ w' _ g1 g2
  · obtain ⟨v, rfl, r⟩ := A.one
    cases e
    obtain ⟨n, a, us, e1, rfl, h1, h2, _⟩ := r.tup
    subst e1
    have : n = k := by simpa [Md.flat] using hm
    subst this
    exact ⟨a, us, rfl, .inr ⟨hK ▸ h1.sq, q _ w H (Grow.refl dm) (val_sh ((Shr.tup h1 h2).up h3))⟩⟩
  · cases e
end

/-! ### isinstance with a built-in class -/
def tyN : D → Option String
  | .non => some "NoneType"
  | .bl _ => some "bool"
  | .int _ => some "int"
  | .str _ => some "str"
  | .tup _ => some "tuple"
  | .lst _ => some "list"
  | .dic _ => some "dict"
  | .obj _ _ => none
def mIsa (T : String) (fa : ME) : ME := fun e => (fa e).bind fun d e1 => match tyN d with
  | some t => match kitB t T with
    | some b => .ok (.bl b) e1
    | none => .no
  | none => .no
theorem Rep.ty {S : Sx} {w : Om} {H : Hp} {m : Md} {v : V} {d : D} {fp : List Addr} {t : String} (h : Rep S w H m v d fp) (e : tyN d = some t) : TyX S.K H v (.type t) := by
  cases d with
  | non => obtain ⟨rfl, _⟩ := h.non; cases e; exact .base .non
  | bl b => obtain ⟨rfl, _⟩ := h.bl; cases e; exact .base (.bl b)
  | int b => obtain ⟨rfl, _⟩ := h.int; cases e; exact .base (.int b)
  | str b => obtain ⟨rfl, _⟩ := h.str; cases e; exact .base (.str b)
  | lst ds =>
    obtain ⟨a, us, f, rfl, h1, h2, _⟩ := h.lst
    cases e
    exact .base (.lst h1)
  | tup ds =>
    obtain ⟨n, a, us, _, rfl, h1, h2, _⟩ := h.tup
    cases e
    rcases h1 with ⟨_, h1⟩ | ⟨o, its, n, h1, h2, _⟩
    · rcases h1 with h1 | ⟨o, h1⟩
      · exact .base (.tup h1)
      · exact .fTuple h1
    · exact .kTuple h1 h2
  | dic ds =>
    cases e
    cases h with
    | sh h =>
      cases h with
      | dic h1 h2 h3 => exact .base (.dK h2)
    | sc h => cases v <;> exact h.elim
  | obj c fs => cases e
section
variable {X : Cx} {S : Sx} {g g1 : Ctx} {m : Md} {a : Expr} {fa : ME} {x : Str} {T : String} {p p2 pos : Pos}
theorem se_isa [gd : Gd X S] (hm : X.mg "isinstance" = none) (hx : X.mg x = none) (hv : bootBuiltins x = some (.type T)) (ha : SE X S g g1 m a fa) (hg : Gl X "isinstance" := by rfl) (hgx : Gl X x := by rfl) (hn : x ≠ "__name__" := by decide) (hdb : (x == ("__debug__" : Str)) = false := by decide) 
    (he : starEach [a, .Name x p2] X.env = (false, eval a X.env) :: starEach [.Name x p2] X.env := by rfl) (he2 : starEach [.Name x p2] X.env = (false, eval (.Name x p2) X.env) :: starEach [] X.env := by rfl) (hpl : (backTo pos (starEach [.Name x p2] X.env)).any (·.1) = false := by rfl) :
    SE X S g g1 (.sh 0) (.Call (.Name "isinstance" p) [a, .Name x p2] [] pos) (mIsa T fa) := ⟨fun o0 => by
  obtain ⟨⟨t, p1, p2⟩, o1, l1⟩ := ha.run o0
  refine ⟨⟨_, pe_callB call_isi hg hm (by decide +kernel) (pa_cons p1 (pa_cons (pe_bltn (v := .ty T) hgx hx hv rfl hn hdb) pa_nil he2) he) (by decide) (by decide) he hpl, fun w σ H env Q R q => ?_⟩, o1, Nat.zero_le _⟩
  have q := Out.bind q
  refine p2 w σ H env _ R (Out.mono q (Ext.refl _ _) fun d e1 q1 v w1 H1 x1 R1 V1 => ?_)
  cases et : tyN d with
  | none => rw [et] at q1; exact q1.elim
  | some t =>
    rw [et] at q1
    simp only at q1
    cases ek : kitB t T with
    | none => rw [ek] at q1; exact q1.elim
    | some b =>
      rw [ek] at q1
      obtain ⟨fp, z, _⟩ := V1
      exact ⟨v, .ty T, .type t, .type T, b, rfl, .ty T, gd.K ▸ z.ty et, kit_ty ek, q1 _ w1 H1 x1 R1 (val_sc rfl)⟩⟩
end

end G

/-! Fw13 -/
/-! the text of a value -/
namespace G
open PySem L2

def scPy : D → Option PyData
  | .non => some .none
  | .bl b => some (.bool b)
  | .int i => some (.int i)
  | .str s => some (.str s)
  | _ => none
def pyKv : List (D × D) → Option (List (PyData × PyData))
  | [] => some []
  | (k, v) :: r => match scPy k, scPy v, pyKv r with
    | some a, some b, some c => some ((a, b) :: c)
    | _, _, _ => none
/-- data that may be shown: no dict, or a dict of plain values -/
def pyR : D → Option PyData
  | .dic kvs => (pyKv kvs).map .dict
  | d => match d.py with
    | some p => if p.canLay0 = true then some p else none
    | none => none
def hRepr : List D → Option D
  | [d] => match pyR d with
    | some p => if (p.showable && decide (p.depth ≤ 60) && decide (p.shown.length ≤ sizeLine)) = true then some (.str p.shown) else none
    | none => none
  | _ => none
inductive ScP : V → PyData → Prop
  | non : ScP .non .none
  | bl (b : Bool) : ScP (.bl b) (.bool b)
  | int (i : Int) : ScP (.int i) (.int i)
  | str (x : Str) : ScP (.str x) (.str x)
theorem ScP.reads {h : Heap} {v : V} {d : PyData} {u : Value} (s : ScP v d) (r : RelV v u) : Reads h u d [] := by
  cases s with
  | non => cases r; exact Reads.none
  | bl b => cases r; exact Reads.bool b
  | int i => obtain ⟨t, rfl⟩ := r; exact Reads.int i t
  | str i => obtain ⟨t, rfl⟩ := r; exact Reads.str i t
def rReprD (K : PySem.W.Frag) : List V → Hp → VK → Prop := fun xs H Q => ∃ (x : V) (p : PyData), xs = [x] ∧ ((Dp K H x p ∧ p.canLay0 = true) ∨ ∃ a kvs ds, x = .ref a ∧ H a = some (.dK kvs) ∧ p = .dict ds ∧ Paired (fun (kv : Key × V) (d : PyData × PyData) => ScP (kV kv.1) d.1 ∧ ScP kv.2 d.2) kvs ds) ∧
  p.showable = true ∧ p.depth ≤ 60 ∧ p.shown.length ≤ sizeLine ∧ Q (.str p.shown) H
theorem kv_reads {P : Program} {w : World} {h : Heap} : ∀ {es : List DictEntry} {vs : List (Key × Value)} {kvs : List (Key × V)} {ds : List (PyData × PyData)}, Pairs (mixKind P w) es vs → KV kvs vs →
    Paired (fun (kv : Key × V) (d : PyData × PyData) => ScP (kV kv.1) d.1 ∧ ScP kv.2 d.2) kvs ds → ReadsAll h (es.map (·.key)) (ds.map (·.1)) [] ∧ ReadsAll h (es.map (·.val)) (ds.map (·.2)) []
  | _, _, _, _, .nil, hk, hp => by
    cases hk
    cases hp
    exact ⟨.nil, .nil⟩
  | _, _, _, _, .cons (e := e) (kv := kv) h1 h2 ht, hk, hp => by
    cases hk with
    | cons k1 k2 =>
      cases hp with
      | cons p1 p2 =>
        obtain ⟨q1, q2⟩ := kv_reads ht k2 p2
        refine ⟨ReadsAll.cons (as := []) (bs := []) (p1.1.reads ?_) q1, ReadsAll.cons (as := []) (bs := []) (p1.2.reads (show RelV _ e.val from h2.symm ▸ k1.2)) q2⟩
        rw [k1.1]
        rcases keyIs_shape h1 with ⟨i, t, e1, e2⟩ | ⟨i, t, e1, e2⟩
        · rw [e1]; exact ⟨t, e2⟩
        · rw [e1]; exact ⟨t, e2⟩
section
variable {X : Cx}
theorem call_reprD (hu : X.A.units + 64 < cLine) (hg : X.A.guards = some []) : CallR X (.builtin "repr") (rReprD X.K) := by
  intro pins s σ H xs us Q I r h
  obtain ⟨x, p, rfl, hd, hs, hdp, hz, q⟩ := h
  obtain ⟨u, rfl, rv⟩ := vals1 r
  rcases hd with ⟨hd, hl⟩ | ⟨a, kvs, ds, rfl, hk, rfl, hp⟩
  · obtain ⟨as, rd⟩ := Dp.reads I p x u hd rv
    have hnd := PyData.noDict_hsm (as := as) (PyData.hasDict_of_canLay p hl)
    cases hd with
    | non => cases rv; exact PySem.P.repr_of_none ⟨.str _, H, I.tok _, ⟨_, rfl⟩, q⟩
    | bl b => cases rv; exact PySem.P.repr_of_bool ⟨.str _, H, I.tok _, ⟨_, rfl⟩, q⟩
    | int i =>
      obtain ⟨t, rfl⟩ := rv
      exact PySem.P.repr_of_int (by simpa [PyData.showable] using hs) ⟨.str _, H, I.tok _, ⟨_, rfl⟩, q⟩
    | str i =>
      obtain ⟨t, rfl⟩ := rv
      exact PySem.P.repr_of_str ⟨.str _, H, I.tok _, ⟨_, rfl⟩, q⟩ hz
    | lst _ _ =>
      cases rv
      exact repr_of_reads' rd hs hnd hg (by omega) (fun _ _ e => e) (fun h' u tk hk => ⟨.str _, H, I.kept hk, ⟨_, rfl⟩, q⟩) hz
    | tup _ _ =>
      cases rv
      exact repr_of_reads' rd hs hnd hg (by omega) (fun _ _ e => e) (fun h' u tk hk => ⟨.str _, H, I.kept hk, ⟨_, rfl⟩, q⟩) hz
  · cases rv
    obtain ⟨_, hno, vs, kv, o, es, ep, e1, e2, e3, _, e5, _⟩ := (show ObjOk X.prog X.w H s.heap a (.dK kvs) from I.hok a _ hk)
    obtain ⟨r1, r2⟩ := kv_reads (h := s.heap) e5 kv hp
    exact repr_of_reads' (Reads.dict e1 e2.1 e3 r1 r2) hs (fun _ hm => by
      simp only [List.append_nil, List.mem_singleton] at hm
      rw [← hm] at hno
      simp at hno) hg (by omega) (fun _ _ e => e) (fun h' u tk hk => ⟨.str _, H, I.kept hk, ⟨_, rfl⟩, q⟩) hz
end
section
variable {S : Sx} {w : Om} {H : Hp}
theorem Shr.scp {n : Nat} {v : V} {d : D} {p : PyData} (h : Shr S w H n v d) (e : scPy d = some p) : ScP v p := by
  cases h with
  | non => cases e; exact .non
  | bl b => cases e; exact .bl b
  | int b => cases e; exact .int b
  | str b => cases e; exact .str b
  | _ => cases e
theorem ShrD.scp {n : Nat} : ∀ {kvs : List (Key × V)} {ds : List (D × D)} {ps : List (PyData × PyData)}, ShrD S w H n kvs ds → pyKv ds = some ps →
    Paired (fun (kv : Key × V) (d : PyData × PyData) => ScP (kV kv.1) d.1 ∧ ScP kv.2 d.2) kvs ps
  | _, _, _, .nil, e => by
    simp only [pyKv] at e
    cases e
    exact .nil
  | _, _, _, .int (i := i) h t, e => by
    simp only [pyKv, scPy] at e
    split at e
    · rename_i a b c e1 e2 e3
      cases e1
      cases e
      exact .cons ⟨.int i, h.scp e2⟩ (t.scp e3)
    · cases e
  | _, _, _, .str (i := i) h t, e => by
    simp only [pyKv, scPy] at e
    split at e
    · rename_i a b c e1 e2 e3
      cases e1
      cases e
      exact .cons ⟨.str i, h.scp e2⟩ (t.scp e3)
    · cases e
theorem pyR_plain {d : D} {p : PyData} (nd : ∀ kvs, d ≠ .dic kvs) (e : pyR d = some p) : d.py = some p ∧ p.canLay0 = true := by
  unfold pyR at e
  split at e
  · exact absurd rfl (nd _)
  · split at e
    · split at e
      · rename_i h1 h2
        cases e
        exact ⟨h1, h2⟩
      · cases e
    · cases e
theorem rc_repr {m m3 : Md} {K : PySem.W.Frag} (hK : S.K = K) : RC S [m] m3 (rReprD K) hRepr := by
  intro w H vs ds d3 fp Q dm A e q
  subst hK
  unfold hRepr at e
  split at e
  · rename_i d
    split at e
    · rename_i p ep
      split at e
      · rename_i hb
        simp only [Bool.and_eq_true, decide_eq_true_eq] at hb
        obtain ⟨v, rfl, r⟩ := A.one
        cases e
        refine ⟨v, p, rfl, ?_, hb.1.1, hb.1.2, hb.2, q _ w H (Grow.refl dm) (val_sc rfl)⟩
        by_cases hd : ∃ kvs, d = .dic kvs
        · obtain ⟨kvs, rfl⟩ := hd
          simp only [pyR, Option.map_eq_some_iff] at ep
          obtain ⟨ps, e1, rfl⟩ := ep
          cases r with
          | sh h =>
            cases h with
            | dic h1 h2 h3 => exact .inr ⟨_, _, _, rfl, h2, rfl, h3.scp e1⟩
          | sc h => cases v <;> exact h.elim
        · have := pyR_plain (fun kvs e => hd ⟨kvs, e⟩) ep
          exact .inl ⟨r.dp p this.1, this.2⟩
      · cases e
    · cases e
  · cases e
end
end G

/-! Fw14 -/
/-! more operators: minus, times, slices, in, dict displays -/
namespace G
open PySem L2

/-! ### one place -/
def mUn (h : D → Option D) (fa : ME) : ME := fun e => (fa e).bind fun d e1 => match h d with
  | some d' => .ok d' e1
  | none => .no
def hNeg : D → Option D
  | .int i => some (.int (-i))
  | _ => none
section
variable {X : Cx} {S : Sx} {g g1 : Ctx} {m : Md} {a : Expr} {fa : ME} {pos : Pos}
theorem re_un {t : TE} {r : V → Hp → VK → Prop} {h : D → Option D} {m3 : Md} (ha : RE S g g1 m t fa)
    (hr : ∀ (w : Om) (H : Hp) (x : V) (d d3 : D) (f : List Addr) (Q : VK), (∀ a x, w a = some x → ∃ o, H a = some o) → Rep S w H m x d f → h d = some d3 → (∀ v w' H', Grow w H w' H' → Val S m3 w' H' v d3 → Q v H') → r x H Q) :
    RE S g g1 m3 (tUn r t) (mUn h fa) := by
  intro w σ H env Q R q
  have q := Out.bind q
  refine ha w σ H env _ R (Out.mono q (Ext.refl _ _) fun d e1 q1 v w1 H1 x1 R1 V1 => ?_)
  obtain ⟨fp, z, _⟩ := V1
  cases eh : h d with
  | none => rw [eh] at q1; exact q1.elim
  | some d3 =>
    rw [eh] at q1
    exact hr w1 H1 v d d3 fp _ R1.dom z eh fun v w' H' gr V3 => q1 v w' H' (x1.trans (gr.ext R1.dom)) (R1.grow gr) V3
theorem se_neg (ha : SE X S g g1 m a fa) : SE X S g g1 (.sh 0) (.UnaryOp .USub a pos) (mUn hNeg fa) := ⟨fun o0 => by
  obtain ⟨⟨t, p1, p2⟩, o1, l1⟩ := ha.run o0
  refine ⟨⟨_, pe_un un_neg p1, re_un p2 fun w H x d d3 f Q dm A e q => ?_⟩, o1, Nat.zero_le _⟩
  cases d with
  | int i =>
    cases e
    obtain ⟨rfl, _⟩ := A.int
    exact ⟨i, rfl, q _ w H (Grow.refl dm) (val_sc rfl)⟩
  | _ => cases e⟩
end

/-! ### times -/
def opMulA : D → D → Option D
  | .int i, .int j => if (decide (-(2 ^ 64) < i) && decide (i < 2 ^ 64)) || (decide (-(2 ^ 64) < j) && decide (j < 2 ^ 64)) || decide (i.natAbs.log2 + j.natAbs.log2 < 1000000) then some (.int (i * j)) else none
  | .tup xs, .int k => if decide (0 ≤ k) && decide (k ≤ 1000) && decide (xs.length ≤ 1000) then some (.tup (List.replicate k.toNat xs).flatten) else none
  | .lst xs, .int k => if decide (0 ≤ k) && decide (k ≤ 1000) && decide (xs.length ≤ 100) then some (.lst (List.replicate k.toNat xs).flatten) else none
  | _, _ => none
def rMulA (K : PySem.W.Frag) : R2 := fun x y H Q => ((rI CMulW (fun i j => .int (i * j)) x y H Q ∨ rI CMul (fun i j => .int (i * j)) x y H Q) ∨ rRepA K x y H Q) ∨ rRep x y H Q
theorem op_mulA {X : Cx} : OpR X (binaryOp .Mult) (rMulA X.K) := ((op_mulW.or op_mul).or op_repA).or op_rep
theorem ShrL.reps {S : Sx} {w : Om} {H : Hp} {n : Nat} {vs : List V} {ds : List D} (h : ShrL S w H n vs ds) : ∀ k : Nat, ShrL S w H n (List.replicate k vs).flatten (List.replicate k ds).flatten
  | 0 => .nil
  | k + 1 => by
    rw [List.replicate_succ, List.replicate_succ, List.flatten_cons, List.flatten_cons]
    exact h.append (ShrL.reps h k)
theorem ro_mul {X : Cx} {S : Sx} {m1 m2 m3 : Md} {k : Nat} (hK : S.K = X.K) (hm : m1.flat = some k) (h3 : newOk k m3 = true) (ht : m3 = .sh m3.lev ∨ ∀ n, m1 ≠ .sh n) : RO S m1 m2 m3 (rMulA X.K) opMulA := by
  intro w H x y d1 d2 d3 f1 f2 Q dm R1 R2 e q
  unfold opMulA at e
  split at e
  · split at e
    · rename_i i j hz
      obtain ⟨rfl, _⟩ := R1.int
      obtain ⟨rfl, _⟩ := R2.int
      cases e
      simp only [Bool.or_eq_true, Bool.and_eq_true, decide_eq_true_eq] at hz
      have q' := q (.int (i * j)) w H (Grow.refl dm) (val_sc (v := .int (i * j)) (d := .int (i * j)) rfl)
      rcases hz with hz | hz
      · exact .inl (.inl (.inr ⟨i, j, rfl, rfl, hz, q'⟩))
      · exact .inl (.inl (.inl ⟨i, j, rfl, rfl, hz, q'⟩))
    · cases e
  · split at e
    · rename_i xs j hz
      simp only [Bool.and_eq_true, decide_eq_true_eq] at hz
      obtain ⟨n, a, vs, e1, rfl, h1, h2, _⟩ := R1.tup
      subst e1
      have hn : n = k := by simpa [Md.flat] using hm
      subst hn
      obtain ⟨rfl, _⟩ := R2.int
      have lv : n ≤ m3.lev := by
        obtain ⟨j, hj, e | e⟩ := newOk_sh h3
        · rw [e]; exact hj
        · rw [e]; exact hj
      have e3 : m3 = .sh m3.lev := ht.resolve_right fun z => z n rfl
      rw [e3] at q
      cases e
      refine .inl (.inr ⟨a, _, vs, rfl, rfl, hK ▸ h1.sq, hz.1.1, hz.1.2, by rw [h2.length]; exact hz.2, fun hc => ?_, fun hc p hp => ?_⟩)
      · refine q _ w H (Grow.refl dm) (val_sh ((Shr.tup h1 ?_).up lv))
        rcases hc with hc | hc
        · subst hc
          have := ShrL.reps h2 1
          simpa using this
        · subst hc
          have := ShrL.reps h2 j.toNat
          simpa using this
      · obtain ⟨w', g1, g2⟩ := val_tup lv dm hp (h2.reps j.toNat)
        exact q _ w' _ g1 g2
    · cases e
  · split at e
    · rename_i xs j hz
      simp only [Bool.and_eq_true, decide_eq_true_eq] at hz
      obtain ⟨a, vs, rfl, h1, h2⟩ := R1.flatL hm
      obtain ⟨rfl, _⟩ := R2.int
      cases e
      refine .inr ⟨a, _, vs, rfl, rfl, h1, by omega, by omega, ?_, fun p hp => ?_⟩
      · have a1 : vs.length * j.toNat ≤ 100 * 1000 := Nat.mul_le_mul (by rw [h2.length]; exact hz.2) (by omega)
        rw [sizeLine_eq]
        omega
      · obtain ⟨w', g1, g2⟩ := val_lst h3 dm hp (h2.reps j.toNat)
        exact q _ w' _ g1 g2
    · cases e
  · cases e

/-! ### in, not in -/
def pyShaped (d : D) : Option PyData := match d.py with
  | some p => if SeqAt.shaped p = true then some p else none
  | none => none
def opInN (neg : Bool) : D → D → Option D
  | .str x, .str z => match x.cps.toList with
    | [c] => some (.bl (xor neg (decide (c ∈ z.cps.toList))))
    | _ => none
  | d, .lst ds => match pyShaped d, pyShaped (.lst ds) with
    | some p, some (.list ps) => some (.bl (xor neg (ps.any fun z => PyData.eqv z p)))
    | _, _ => none
  | _, _ => none
def opIn : D → D → Option D := opInN false
def opNotIn : D → D → Option D := opInN true
def rInA (K : PySem.W.Frag) : R2 := fun x y H Q => (∃ (c : Nat) (z : Str), x = .str ⟨#[c]⟩ ∧ y = .str z ∧ Q (.bl (decide (c ∈ z.cps.toList))) H) ∨ rInD K x y H Q
def rNotInA (K : PySem.W.Frag) : R2 := fun x y H Q => (∃ (c : Nat) (z : Str), x = .str ⟨#[c]⟩ ∧ y = .str z ∧ Q (.bl (!decide (c ∈ z.cps.toList))) H) ∨ rNotInD K x y H Q
theorem op_inA {X : Cx} (hu : X.A.units + 65 < cLine) : OpR X (compareOp .In) (rInA X.K) := op_in_sign.or (op_inD hu)
theorem op_notInA {X : Cx} (hu : X.A.units + 65 < cLine) : OpR X (compareOp .NotIn) (rNotInA X.K) := op_notIn_sign.or (op_notInD hu)
theorem one_sign {x : Str} {c : Nat} (h : x.cps.toList = [c]) : x = ⟨#[c]⟩ := by
  obtain ⟨a⟩ := x
  have : a = #[c] := Array.toList_inj.mp h
  rw [this]
theorem pyShaped_some {d : D} {p : PyData} (h : pyShaped d = some p) : d.py = some p ∧ SeqAt.shaped p = true := by
  unfold pyShaped at h
  split at h
  · split at h
    · rename_i h1 h2
      cases h
      exact ⟨h1, h2⟩
    · cases h
  · cases h
section
variable {X : Cx} {S : Sx} {m1 m2 m3 : Md}
theorem ro_in (hK : S.K = X.K) : RO S m1 m2 m3 (rInA X.K) opIn := by
  intro w H x y d1 d2 d3 f1 f2 Q dm R1 R2 e q
  unfold opIn opInN at e
  split at e
  · split at e
    · rename_i h1
      cases e
      obtain ⟨rfl, _⟩ := R1.str
      obtain ⟨rfl, _⟩ := R2.str
      refine .inl ⟨_, _, by rw [one_sign h1], rfl, q _ w H (Grow.refl dm) (val_sc ?_)⟩
      simp [isSc]
    · cases e
  · split at e
    · rename_i p ps h1 h2
      cases e
      obtain ⟨k1, k2⟩ := pyShaped_some h1
      obtain ⟨k3, k4⟩ := pyShaped_some h2
      refine .inr ⟨p, ps, hK ▸ R1.dp _ k1, hK ▸ R2.dp _ k3, k2, k4, q _ w H (Grow.refl dm) (val_sc ?_)⟩
      simp [isSc]
    · cases e
  · cases e
theorem ro_notIn (hK : S.K = X.K) : RO S m1 m2 m3 (rNotInA X.K) opNotIn := by
  intro w H x y d1 d2 d3 f1 f2 Q dm R1 R2 e q
  unfold opNotIn opInN at e
  split at e
  · split at e
    · rename_i h1
      cases e
      obtain ⟨rfl, _⟩ := R1.str
      obtain ⟨rfl, _⟩ := R2.str
      refine .inl ⟨_, _, by rw [one_sign h1], rfl, q _ w H (Grow.refl dm) (val_sc ?_)⟩
      simp [isSc]
    · cases e
  · split at e
    · rename_i p ps h1 h2
      cases e
      obtain ⟨k1, k2⟩ := pyShaped_some h1
      obtain ⟨k3, k4⟩ := pyShaped_some h2
      refine .inr ⟨p, ps, hK ▸ R1.dp _ k1, hK ▸ R2.dp _ k3, k2, k4, q _ w H (Grow.refl dm) (val_sc ?_)⟩
      simp [isSc]
    · cases e
  · cases e
end
end G

/-! Fw15 -/
/-! slices, dict displays, join, sorted -/
namespace G
open PySem L2

/-! ### slices -/
abbrev MP := Env → R (Option Int)
def RP (S : Sx) (g g' : Ctx) (t : TO) (f : MP) : Prop :=
  ∀ (w : Om) (σ : St) (H : Hp) (env : Env) (Q : Option Int → Hp → Prop), Rel S g w σ H env →
    Out S w σ H (fun b e => ∀ w' H', Ext w H w' H' → Rel S g' w' σ H' e → Q b H') (f env) → t σ H Q
structure SP (X : Cx) (S : Sx) (g g' : Ctx) (e : Option Expr) (f : MP) : Prop where
  run : OkG S.n g → (∃ t, PO X e t ∧ RP S g g' t f) ∧ OkG S.n g'
def mP0 : MP := fun e => .ok none e
def mP1 (fa : ME) : MP := fun e => (fa e).bind fun d e1 => match d with
  | .int i => .ok (some i) e1
  | _ => .no
def mSlc (h : D → Option Int → Option Int → Option D) (fa : ME) (fl fu : MP) : ME := fun e => (fa e).bind fun d e1 => (fl e1).bind fun l e2 => (fu e2).bind fun u e3 => match h d l u with
  | some d' => .ok d' e3
  | none => .no
def cutG {α : Type} (xs : List α) (lo hi : Option Int) : List α := (xs.drop (HT.sIx xs.length 0 lo)).take (HT.sIx xs.length xs.length hi - HT.sIx xs.length 0 lo)
def hSl : D → Option Int → Option Int → Option D
  | .lst xs, lo, hi => some (.lst (cutG xs lo hi))
  | .tup xs, lo, hi => some (.tup (cutG xs lo hi))
  | .str z, lo, hi => if decide (z.length ≤ sizeLine) then some (.str (cutS z lo hi)) else none
  | _, _, _ => none
def rSl (K : PySem.W.Frag) : V → Option Int → Option Int → Hp → VK → Prop := fun x lo hi H Q => rSlL K x lo hi H Q ∨ (rSlA K x lo hi H Q ∨ rSlS x lo hi H Q)
section
variable {X : Cx} {S : Sx} {g g1 g2 g3 : Ctx} {m m3 : Md} {a : Expr} {lo hi : Option Expr} {fa : ME} {fl fu : MP} {pos p2 : Pos} {k : Nat}
theorem sl_any : SlR X (rSl X.K) := sl_list.or (sl_tupA.or sl_str)
theorem sp_none : SP X S g g none mP0 := ⟨fun ok => ⟨⟨_, po_none, fun w σ H env Q R q => q w H (Ext.refl _ _) R⟩, ok⟩⟩
theorem sp_some (h : SE X S g g1 m a fa) : SP X S g g1 (some a) (mP1 fa) := ⟨fun ok => by
  obtain ⟨⟨t, p1, p2⟩, o1, l1⟩ := h.run ok
  refine ⟨⟨_, po_some p1, fun w σ H env Q R q => ?_⟩, o1⟩
  have q := Out.bind q
  refine p2 w σ H env _ R (Out.mono q (Ext.refl _ _) fun d e1 q1 v w1 H1 x1 R1 V1 => ?_)
  cases d with
  | int i =>
    obtain ⟨fp, z, _⟩ := V1
    obtain ⟨rfl, _⟩ := z.int
    exact ⟨i, rfl, q1 w1 H1 x1 R1⟩
  | _ => exact q1.elim⟩
theorem ShrL.cut {w : Om} {H : Hp} {n : Nat} {vs : List V} {ds : List D} (h : ShrL S w H n vs ds) (lo hi : Option Int) : ShrL S w H n (cutV vs lo hi) (cutG ds lo hi) := by
  unfold cutV cutG
  rw [← h.length]
  obtain ⟨_, _, _, _, h1⟩ := (RepL.sh h).split (HT.sIx vs.length 0 lo)
  obtain ⟨_, _, _, h2, _⟩ := h1.split (HT.sIx vs.length vs.length hi - HT.sIx vs.length 0 lo)
  exact h2.unsh.2
theorem cutV_whole {vs : List V} {lo hi : Option Int} (h : HT.sIx vs.length 0 lo = 0 ∧ HT.sIx vs.length vs.length hi = vs.length) : cutV vs lo hi = vs := by
  unfold cutV
  rw [h.1, h.2]
  simp
theorem sl_val {w : Om} {H : Hp} {v : V} {d d3 : D} {fp : List Addr} {l u : Option Int} {Q : VK} (hK : S.K = X.K) (hm : m.flat = some k) (h3 : newOk k m3 = true) (ht : m3 = .sh m3.lev ∨ ∀ n, m ≠ .sh n) (dm : ∀ a x, w a = some x → ∃ o, H a = some o)
    (R1 : Rep S w H m v d fp) (e : hSl d l u = some d3) (q : ∀ v w' H', Grow w H w' H' → Val S m3 w' H' v d3 → Q v H') : rSl X.K v l u H Q := by
  unfold hSl at e
  split at e
  · cases e
    obtain ⟨a, vs, rfl, h1, h2⟩ := R1.flatL hm
    refine .inl ⟨a, vs, rfl, SqL.of h1, fun p hp => ?_⟩
    obtain ⟨w', g1, g2⟩ := val_lst h3 dm hp (h2.cut l u)
    exact q _ w' _ g1 g2
  · cases e
    obtain ⟨n, a, vs, e1, rfl, h1, h2, _⟩ := R1.tup
    subst e1
    have hn : n = k := by simpa [Md.flat] using hm
    subst hn
    have lv : n ≤ m3.lev := by
      obtain ⟨j, hj, e | e⟩ := newOk_sh h3
      · rw [e]; exact hj
      · rw [e]; exact hj
    have e3 : m3 = .sh m3.lev := ht.resolve_right fun z => z n rfl
    rw [e3] at q
    refine .inr (.inl ⟨a, vs, rfl, hK ▸ h1.sq, fun hc => ?_, fun hc p hp => ?_⟩)
    · refine q _ w H (Grow.refl dm) (val_sh ((Shr.tup h1 ?_).up lv))
      have := h2.cut l u
      rwa [cutV_whole hc] at this
    · obtain ⟨w', g1, g2⟩ := val_tup lv dm hp (h2.cut l u)
      exact q _ w' _ g1 g2
  · split at e
    · rename_i hz
      cases e
      obtain ⟨rfl, _⟩ := R1.str
      exact .inr (.inr ⟨_, rfl, of_decide_eq_true hz, q _ w H (Grow.refl dm) (val_sc rfl)⟩)
    · cases e
  · cases e
theorem se_slice [gd : Gd X S] (m3 : Md) (ha : SE X S g g1 m a fa) (hl : SP X S g1 g2 lo fl) (hu : SP X S g2 g3 hi fu) (hm : m.flat = some k := by rfl) (h3 : newOk k m3 = true := by rfl) (ht : m3 = .sh m3.lev ∨ ∀ n, m ≠ .sh n := by first | exact .inl rfl | exact .inr (fun _ e => nomatch e))
    (h4 : m3.lev ≤ S.n := by exact Nat.le_of_ble_eq_true rfl) : SE X S g g3 m3 (.Subscript a (.Slice lo hi none p2) pos) (mSlc hSl fa fl fu) := ⟨fun ok => by
  obtain ⟨⟨ta, p1, p2⟩, o1, l1⟩ := ha.run ok
  obtain ⟨⟨tl, p3, p4⟩, o2⟩ := hl.run o1
  obtain ⟨⟨tu, p5, p6⟩, o3⟩ := hu.run o2
  refine ⟨⟨_, pe_slice sl_any p1 p3 p5, fun w σ H env Q R q => ?_⟩, o3, h4⟩
  have q := Out.bind q
  refine p2 w σ H env _ R (Out.mono q (Ext.refl _ _) fun d e1 q1 v w1 H1 x1 R1 V1 => ?_)
  obtain ⟨fp, n1, n2, n3⟩ := V1.keep l1
  obtain ⟨R1', x1'⟩ := R1.relab (x := .lvl (S.n + 1)) n2
  have q1 := Out.bind q1
  refine p4 _ σ H1 e1 _ R1' (Out.mono q1 (x1.trans x1') fun l e2 q2 w2 H2 x2 R2 => ?_)
  have q2 := Out.bind q2
  refine p6 _ σ H2 e2 _ R2 (Out.mono q2 ((x1.trans x1').trans x2) fun u e3 q3 w3 H3 x3 R3 => ?_)
  obtain ⟨k1, k2⟩ := n3 w3 H3 (x2.trans x3)
  cases e : hSl d l u with
  | none => rw [e] at q3; exact q3.elim
  | some d3 =>
    rw [e] at q3
    exact sl_val gd.K hm h3 ht R3.dom k1 e fun v w' H' gr V3 => q3 v w' H' (((x1.trans x1').trans x2).trans (x3.trans (gr.ext R3.dom))) (R3.grow gr) V3⟩
end

/-! ### dict displays -/
section
variable {X : Cx} {S : Sx} {g g1 g2 g3 : Ctx} {m m1 m2 m3 : Md} {a b : Expr} {fa fb : ME} {pos : Pos} {n : Nat}
abbrev MK := Env → R (List (D × D))
def mK0 : MK := fun e => .ok [] e
def mK1 (fa fb : ME) (fr : MK) : MK := fun e => (fa e).bind fun x e1 => (fb e1).bind fun y e2 => (fr e2).bind fun r e3 => .ok ((x, y) :: r) e3
def PR (S : Sx) (w : Om) (H : Hp) (n : Nat) : List (V × V) → List (D × D) → Prop := Paired fun q p => Shr S w H n q.1 p.1 ∧ Shr S w H n q.2 p.2
def RK (S : Sx) (g g' : Ctx) (n : Nat) (t : List (TE × TE)) (f : MK) : Prop :=
  ∀ (w : Om) (σ : St) (H : Hp) (env : Env) (Q : List (V × V) → Hp → Prop), Rel S g w σ H env →
    Out S w σ H (fun ps e => ∀ qs w' H', Ext w H w' H' → Rel S g' w' σ H' e → PR S w' H' n qs ps → Q qs H') (f env) → tPairs t σ H Q
structure SK (X : Cx) (S : Sx) (g g' : Ctx) (n : Nat) (pos : Pos) (ks : List (Option Expr)) (vs : List Expr) (f : MK) : Prop where
  run : OkG S.n g → (∃ t, PPs X pos ks vs t ∧ RK S g g' n t f) ∧ OkG S.n g'
theorem sk_nil : SK X S g g n pos [] [] mK0 := ⟨fun ok => ⟨⟨_, pps_nil, fun w σ H env Q R q => q [] w H (Ext.refl _ _) R .nil⟩, ok⟩⟩
theorem sk_cons {ks : List (Option Expr)} {vs : List Expr} {fr : MK} (ha : SE X S g g1 (.sh n) a fa) (hb : SE X S g1 g2 (.sh n) b fb) (hr : SK X S g2 g3 n pos ks vs fr) : SK X S g g3 n pos (some a :: ks) (b :: vs) (mK1 fa fb fr) := ⟨fun ok => by
  obtain ⟨⟨ta, p1, p2⟩, o1, l1⟩ := ha.run ok
  obtain ⟨⟨tb, p3, p4⟩, o2, l2⟩ := hb.run o1
  obtain ⟨⟨tr, p5, p6⟩, o3⟩ := hr.run o2
  refine ⟨⟨_, pps_cons p1 p3 p5, fun w σ H env Q R q => ?_⟩, o3⟩
  have q := Out.bind q
  refine p2 w σ H env _ R (Out.mono q (Ext.refl _ _) fun d e1 q1 v w1 H1 x1 R1 V1 => ?_)
  have q1 := Out.bind q1
  refine p4 w1 σ H1 e1 _ R1 (Out.mono q1 x1 fun d2 e2 q2 v2 w2 H2 x2 R2 V2 => ?_)
  have q2 := Out.bind q2
  refine p6 w2 σ H2 e2 _ R2 (Out.mono q2 (x1.trans x2) fun ps e3 q3 qs w3 H3 x3 R3 V3 => ?_)
  obtain ⟨_, z1, _⟩ := V1
  obtain ⟨_, z2, _⟩ := V2
  exact q3 _ w3 H3 ((x1.trans x2).trans x3) R3 (.cons ⟨z1.unsh.2.to (x2.trans x3).keep (Nat.le_refl _) rfl rfl, z2.unsh.2.to x3.keep (Nat.le_refl _) rfl rfl⟩ V3)⟩
def keyD : D → Option Key
  | .int i => some (.inl i)
  | .str s => some (.inr s)
  | _ => none
def keysD : List (D × D) → Option (List Key)
  | [] => some []
  | (k, _) :: r => match keyD k, keysD r with
    | some a, some b => some (a :: b)
    | _, _ => none
def nodupK (ks : List Key) : Bool := decide ks.Nodup
def mDic (f : MK) : ME := fun e => (f e).bind fun ps e1 => match keysD ps with
  | some ks => if (nodupK ks && decide (ps.length ≤ 15)) = true then .ok (.dic ps) e1 else .no
  | none => .no
theorem nodupK_ok {ks : List Key} (h : nodupK ks = true) : ks.Nodup := of_decide_eq_true h
theorem mergeK_new : ∀ {more kvs : List (Key × V)}, ((kvs ++ more).map (·.1)).Nodup → mergeK kvs more = kvs ++ more
  | [], kvs, _ => by simp [mergeK]
  | p :: r, kvs, h => by
    have h2 : ((kvs ++ [p]) ++ r).map (·.1) = (kvs ++ p :: r).map (·.1) := by simp
    have hn : p.1 ∉ kvs.map (·.1) := by
      rw [List.map_append, List.nodup_append] at h
      intro hm
      exact h.2.2 _ hm _ (by simp) rfl
    have hp : putK kvs p.1 p.2 = kvs ++ [p] := by
      unfold putK
      rw [if_neg]
      intro hc
      simp only [List.any_eq_true, decide_eq_true_eq] at hc
      obtain ⟨q, hq, e⟩ := hc
      exact hn (e ▸ List.mem_map_of_mem hq)
    show mergeK (putK kvs p.1 p.2) r = _
    rw [hp, mergeK_new (by rw [h2]; exact h), List.append_assoc]
    rfl
theorem PR.keys {w : Om} {H : Hp} : ∀ {qs : List (V × V)} {ps : List (D × D)} {ks : List Key}, PR S w H n qs ps → keysD ps = some ks →
    ∃ kvs : List (Key × V), qs = kvs.map (fun kv => (kV kv.1, kv.2)) ∧ kvs.map (·.1) = ks ∧ ShrD S w H n kvs ps
  | _, _, _, .nil, e => by
    simp only [keysD] at e
    cases e
    exact ⟨[], rfl, rfl, .nil⟩
  | _, _, _, .cons (a := q) (b := p) h t, e => by
    obtain ⟨k, v⟩ := p
    simp only [keysD] at e
    split at e
    · rename_i a b e1 e2
      cases e
      obtain ⟨kvs, rfl, h2, h3⟩ := PR.keys t e2
      obtain ⟨q1, q2⟩ := q
      cases k with
      | int i =>
        cases e1
        have h1 := h.1
        cases h1
        exact ⟨(.inl i, q2) :: kvs, rfl, by rw [List.map_cons, h2], .int h.2 h3⟩
      | str i =>
        cases e1
        have h1 := h.1
        cases h1
        exact ⟨(.inr i, q2) :: kvs, rfl, by rw [List.map_cons, h2], .str h.2 h3⟩
      | _ => cases e1
    · cases e
theorem Paired.len {α β : Type} {r : α → β → Prop} {xs : List α} {ys : List β} (h : Paired r xs ys) : xs.length = ys.length := Paired.length h
theorem se_dic0 : SE X S g g (.sh 0) (.Dict [] [] pos) (mC (.dic [])) := ⟨fun ok => ⟨⟨_, pe_dnewK, fun w σ H env Q R q p hp => by
  have gr : Grow w H (lab [p] (.lvl 0) w) (upd H p (.dK [])) := Grow.one R.dom hp
  exact q (.ref p) _ _ (gr.ext R.dom) (R.grow gr) (val_sh (.dic ⟨0, Nat.le_refl _, lab_in (by simp)⟩ upd_same .nil))⟩, ok, Nat.zero_le _⟩⟩
theorem ShrD.to {S' : Sx} {w w' : Om} {H H' : Hp} (e : Keep n w H w' H') (hK : S'.K = S.K) (hc : S'.cl = S.cl) : ∀ {kvs : List (Key × V)} {ds : List (D × D)}, ShrD S w H n kvs ds → ShrD S' w' H' n kvs ds
  | _, _, .nil => .nil
  | _, _, .int h t => .int (h.to e (Nat.le_refl _) hK hc) (ShrD.to e hK hc t)
  | _, _, .str h t => .str (h.to e (Nat.le_refl _) hK hc) (ShrD.to e hK hc t)
theorem se_dic (n : Nat) {ks : List (Option Expr)} {vs : List Expr} {f : MK} (h : SK X S g g1 n pos ks vs f) (hn : n ≤ S.n := by exact Nat.le_of_ble_eq_true rfl) (hall : ks.all (·.isSome) = true := by rfl) (hl : ks.length = vs.length := by rfl) (h0 : ks ≠ [] := by exact fun z => nomatch z)
    (h15 : ks.length ≤ 15 := by exact Nat.le_of_ble_eq_true rfl) : SE X S g g1 (.sh n) (.Dict ks vs pos) (mDic f) := ⟨fun ok => by
  obtain ⟨⟨t, p1, p2⟩, o1⟩ := h.run ok
  refine ⟨⟨_, pe_disp p1 hall hl h0 h15, fun w σ H env Q R q p hp => ?_⟩, o1, hn⟩
  have gr : Grow w H (lab [p] (.lvl (S.n + 1)) w) (upd H p (.dK [])) := Grow.one R.dom hp
  have q := Out.bind q
  refine p2 _ σ _ env _ (R.grow gr) (Out.mono q (gr.ext R.dom) fun ps e1 q1 qs w1 H1 x1 R1 V1 => ?_)
  obtain ⟨a1, a2⟩ := x1 p _ (lab_in (by simp))
  rw [upd_same] at a2
  refine ⟨a2, ?_⟩
  cases ek : keysD ps with
  | none => simp only [ek] at q1; exact q1.elim
  | some kk =>
    simp only [ek] at q1
    split at q1
    · rename_i hb
      simp only [Bool.and_eq_true, decide_eq_true_eq] at hb
      obtain ⟨kvs, e1, e2, e3⟩ := V1.keys ek
      have hlen : kvs.length ≤ 15 := by
        have h1 := Paired.len V1
        rw [e1, List.length_map] at h1
        omega
      refine ⟨kvs, e1, hlen, ?_⟩
      rw [mergeK_new (kvs := []) (by rw [List.nil_append, e2]; exact nodupK_ok hb.1), List.nil_append]
      have kp : Keep S.n w1 H1 (lab [p] (.lvl 0) w1) (upd H1 p (.dK kvs)) := fun c k hk e => by
        have ne : c ≠ p := fun z => by
          subst z
          rw [a1] at e
          cases e
          omega
        exact ⟨by rw [lab_out (by simpa using ne)]; exact e, upd_ne ne⟩
      have kx : Ext w H (lab [p] (.lvl 0) w1) (upd H1 p (.dK kvs)) := fun c k e => by
        obtain ⟨o, ho⟩ := R.dom c _ e
        have ne : c ≠ p := ne_of_none ho hp
        obtain ⟨b1, b2⟩ := (gr.ext R.dom).trans x1 c k e
        exact ⟨by rw [lab_out (by simpa using ne)]; exact b1, by rw [upd_ne ne]; exact b2⟩
      refine q1 (.ref p) (lab [p] (.lvl 0) w1) _ kx (R1.move o1 kp (fun c i e _ => ?_) fun c x e => ?_) (val_sh (.dic ⟨0, Nat.zero_le _, lab_in (by simp)⟩ upd_same (e3.to (fun c k hk e => kp c k (Nat.le_trans hk hn) e) rfl rfl)))
      · have ne : c ≠ p := fun z => by
          subst z
          rw [a1] at e
          cases e
        exact ⟨by rw [lab_out (by simpa using ne)]; exact e, upd_ne ne⟩
      · by_cases hc : c = p
        · subst hc; exact ⟨_, upd_same⟩
        · rw [lab_out (by simpa using hc)] at e
          rw [upd_ne hc]
          exact R1.dom c x e
    · exact q1.elim⟩
end
end G

/-! Fw16 -/
/-! methods of texts, sorted, constants of a module, stores -/
namespace G
open PySem L2

/-! ### methods of texts -/
def RMs (S : Sx) (ms : List Md) (m3 : Md) (r : V → List V → Hp → VK → Prop) (h : Str → List D → Option D) : Prop :=
  ∀ (w : Om) (H : Hp) (z : Str) (vs : List V) (ds : List D) (d3 : D) (fp : List Addr) (Q : VK), (∀ a x, w a = some x → ∃ o, H a = some o) → RepA S w H ms vs ds fp → h z ds = some d3 →
    (∀ v w' H', Grow w H w' H' → Val S m3 w' H' v d3 → Q v H') → r (.str z) vs H Q
def mSm (h : Str → List D → Option D) (fo : ME) (fr : MA) : ME := fun e => (fo e).bind fun d e1 => match d with
  | .str z => (fr e1).bind fun ds e2 => match h z ds with
    | some d3 => .ok d3 e2
    | none => .no
  | _ => .no
section
variable {X : Cx} {S : Sx} {g g1 g2 : Ctx} {m m3 : Md} {ms : List Md} {o e : Expr} {es : List Expr} {fo : ME} {fr : MA} {apos cpos : Pos} {name : Str} {id : String} {r : V → List V → Hp → VK → Prop} {h : Str → List D → Option D}
theorem re_sm {to t : TE} {ta : TA} (p1 : RE S g g1 m to fo) (p2 : RA S g1 g2 ms ta fr) (hr : RMs S ms m3 r h)
    (ht : ∀ (σ : St) (H : Hp) (Q : VK), to σ H (fun x H1 => tyV S.K "str" x H1 ∧ ta σ H1 fun xs H2 => r x xs H2 Q) → t σ H Q) : RE S g g2 m3 t (mSm h fo fr) := fun w σ H env Q R q => by
  refine ht σ H Q ?_
  have q := Out.bind q
  refine p1 w σ H env _ R (Out.mono q (Ext.refl _ _) fun d e1 q1 v w1 H1 x1 R1 V1 => ?_)
  cases d with
  | str z =>
    obtain ⟨f, z1, _⟩ := V1
    obtain ⟨rfl, _⟩ := z1.str
    have q1 := Out.bind q1
    refine ⟨rfl, p2 w1 σ H1 e1 _ R1 (Out.mono q1 x1 fun ds e2 q2 vs w2 H2 x2 R2 V2 => ?_)⟩
    obtain ⟨fq, k1, _⟩ := V2
    cases eh : h z ds with
    | none => rw [eh] at q2; exact q2.elim
    | some d3 =>
      rw [eh] at q2
      exact hr w2 H2 z vs ds d3 fq _ R2.dom k1 eh fun v w' H' gr V3 => q2 v w' H' ((x1.trans x2).trans (gr.ext R2.dom)) (R2.grow gr) V3
  | _ => exact q1.elim
theorem se_sm [gd : Gd X S] (slot : Slot "str" name id) (hty : typeOf (.builtin id) = pure (.type "method_descriptor")) (hm : MtR X id r) (hr : RMs S ms m3 r h) (ho : SE X S g g1 m o fo) (ha : SA X S g1 g2 ms (e :: es) fr) (hl : m3.lev ≤ S.n := by exact Nat.le_of_ble_eq_true rfl)
    (hbase : attributeBase o name X.env (eval o X.env) = eval o X.env := by rfl)
    (hfew : ((backTo cpos (starEach (e :: es) X.env)).all (fun x => !x.1) && (backToKw cpos (keywordEach [] X.env)).all (fun x => x.1.isSome)
      && decide ((e :: es).length + ([] : List Keyword).length + (if ([] : List Keyword).isEmpty then 0 else 1) < 30)) = true := by rfl)
    (hline : (apos.endLine == cpos.line) = true := by rfl) (hs : starEach (e :: es) X.env = (false, eval e X.env) :: starEach es X.env := by rfl) (hplain : (backTo cpos (starEach es X.env)).any (·.1) = false := by rfl) :
    SE X S g g2 m3 (.Call (.Attribute o name apos) (e :: es) [] cpos) (mSm h fo fr) := ⟨fun ok => by
  obtain ⟨⟨to, p1, p2⟩, o1, l1⟩ := ho.run ok
  obtain ⟨⟨ta, p3, p4⟩, o2, l2⟩ := ha.run o1
  exact ⟨⟨_, pe_bm PySem.F.plainAttrs_str slot hty hm p1 p3 hbase hfew hline hs hplain, re_sm p2 p4 hr fun σ H Q k => gd.K ▸ k⟩, o2, hl⟩⟩
end
def strsOf : List D → Option (List Str)
  | [] => some []
  | .str b :: ds => (strsOf ds).map (b :: ·)
  | _ :: _ => none
def hJoin (z : Str) : List D → Option D
  | [.lst ds] => match strsOf ds with
    | some ys => if decide ((ys.map (·.length)).sum + ys.length * z.length ≤ 16777216) then some (.str (Txt.join z ys)) else none
    | none => none
  | [.tup ds] => match strsOf ds with
    | some ys => if decide ((ys.map (·.length)).sum + ys.length * z.length ≤ 16777216) then some (.str (Txt.join z ys)) else none
    | none => none
  | _ => none
theorem ShrL.strs {S : Sx} {w : Om} {H : Hp} : ∀ {vs : List V} {ds : List D} {bs : List Str} {n : Nat}, ShrL S w H n vs ds → strsOf ds = some bs → vs = bs.map V.str
  | _, _, bs, n, .nil, e => by
    simp only [strsOf] at e
    cases e
    rfl
  | _, _, bs, n, .cons (d := d) h t, e => by
    cases d with
    | str b =>
      simp only [strsOf, Option.map_eq_some_iff] at e
      obtain ⟨bs', e1, rfl⟩ := e
      cases h
      rw [t.strs e1]
      rfl
    | _ => simp [strsOf] at e
theorem RepL.strs {S : Sx} {w : Om} {H : Hp} : ∀ {vs : List V} {ds : List D} {bs : List Str} {m : Md} {fp : List Addr}, RepL S w H m vs ds fp → strsOf ds = some bs → vs = bs.map V.str
  | _, _, bs, _, _, .nil, e => by
    simp only [strsOf] at e
    cases e
    rfl
  | _, _, bs, _, _, .cons (d := d) h t, e => by
    cases d with
    | str b =>
      simp only [strsOf, Option.map_eq_some_iff] at e
      obtain ⟨bs', e1, rfl⟩ := e
      obtain ⟨rfl, _⟩ := h.str
      rw [t.strs e1]
      rfl
    | _ => simp [strsOf] at e
theorem rm_join {S : Sx} {m m3 : Md} {K : PySem.W.Frag} (hK : S.K = K) : RMs S [m] m3 (fun x xs H Q => ∃ a p, ∃ ys : List Str, x = .str a ∧ xs = [.ref p] ∧ (SqL K H p (ys.map V.str) ∨ SqT K H p (ys.map V.str)) ∧
    (ys.map (·.length)).sum + ys.length * a.length ≤ 16777216 ∧ Q (.str (Txt.join a ys)) H) hJoin := by
  intro w H z vs ds d3 fp Q dm A e q
  unfold hJoin at e
  split at e
  · split at e
    · rename_i ys e1
      split at e
      · rename_i hz
        cases e
        obtain ⟨v, rfl, r⟩ := A.one
        obtain ⟨a, us, f, rfl, h1, h2, _⟩ := r.lst
        exact ⟨z, a, ys, rfl, rfl, .inl (h2.strs e1 ▸ SqL.of h1), of_decide_eq_true hz, q _ w H (Grow.refl dm) (val_sc rfl)⟩
      · cases e
    · cases e
  · split at e
    · rename_i ys e1
      split at e
      · rename_i hz
        cases e
        obtain ⟨v, rfl, r⟩ := A.one
        obtain ⟨n, a, us, e2, rfl, h1, h2, _⟩ := r.tup
        exact ⟨z, a, ys, rfl, rfl, .inr (hK ▸ h2.strs e1 ▸ h1.sq), of_decide_eq_true hz, q _ w H (Grow.refl dm) (val_sc rfl)⟩
      · cases e
    · cases e
  · cases e

/-! ### sorted -/
def leD (a b : D) : Bool := match a.py, b.py with
  | some p, some q => PySem.W.dataLe false id p q
  | _, _ => true
def sortB (ps : List PyData) : Bool := (ps.all fun p => match p with
    | .tuple (_ :: _) => true
    | _ => false) || ps.all fun p => match p with
    | .tuple _ => false
    | .none => false
    | _ => true
def sortOkB (ps : List PyData) : Bool := (ps.all fun p => ps.all fun q => PySem.W.alike p q) && sortB ps && (ps.all fun p => decide (p.depth ≤ 20)) && decide (ps.length ≤ 100000)
def hSorted : List D → Option D
  | [.lst ds] => match D.pyL ds with
    | some ps => if sortOkB ps = true then some (.lst (ds.mergeSort leD)) else none
    | none => none
  | _ => none
/-- sorted(xs): xs data alike; the values go with their data -/
def rSortedD (K : PySem.W.Frag) : List V → Hp → VK → Prop := fun vs H Q => ∃ (a : Addr) (xs : List (V × PyData)), vs = [V.ref a] ∧ SqL K H a (xs.map (·.1)) ∧ (∀ p ∈ xs, Dp K H p.1 p.2) ∧ sortOkB (xs.map (·.2)) = true ∧
  ∀ p : Addr, H p = none → Q (.ref p) (upd H p (.lst ((xs.mergeSort (PySem.W.dataLe false fun p => p.2)).map (·.1))))
theorem sortB_ok {ps : List PyData} (h : sortB ps = true) : PySem.W.Sortable ps := by
  unfold sortB at h
  rw [Bool.or_eq_true] at h
  rcases h with h | h
  · refine .inl fun d hd => ?_
    have := List.all_eq_true.mp h d hd
    split at this
    · exact ⟨_, _, rfl⟩
    · cases this
  · refine .inr fun d hd => ?_
    have := List.all_eq_true.mp h d hd
    split at this
    · cases this
    · cases this
    · rename_i h1 h2
      exact ⟨h2, h1⟩
theorem each_vals : ∀ {xs : List (V × PyData)} {us : List Value}, Vals (xs.map (·.1)) us → PySem.W.EachIs (fun u (b : V × PyData) => RelV b.1 u) us xs
  | [], _, r => by rw [List.map_nil] at r; cases r; exact .nil
  | x :: xs, _, r => by
    rw [List.map_cons] at r
    cases r with
    | cons h t => exact .cons h (each_vals t)
theorem vals_each : ∀ {xs : List (V × PyData)} {us : List Value}, PySem.W.EachIs (fun u (b : V × PyData) => RelV b.1 u) us xs → Vals (xs.map (·.1)) us
  | _, _, .nil => .nil
  | _, _, .cons h t => .cons h (vals_each t)
theorem each_reads {X : Cx} {pins : List (Addr × Obj)} {σ : St} {H : Hp} {s : Shared} (I : Inv X pins σ H s) : ∀ {xs : List (V × PyData)} {us : List Value}, PySem.W.EachIs (fun u (b : V × PyData) => RelV b.1 u) us xs → (∀ p ∈ xs, Dp X.K H p.1 p.2) →
    PySem.W.EachIs (fun v (b : V × PyData) => ∃ as, Reads s.heap v b.2 as) us xs
  | _, _, .nil, _ => .nil
  | _, _, .cons (b := b) h t, d => .cons (Dp.reads I b.2 b.1 _ (d b List.mem_cons_self) h) (each_reads I t fun p hp => d p (List.mem_cons_of_mem _ hp))
theorem cr_sortedD {X : Cx} (hu : X.A.units + 64 < cLine) : CallR X (.builtin "sorted") (rSortedD X.K) := by
  intro pins s σ H vs us Q I r h
  obtain ⟨a, xs, rfl, hs, hd, hb, q⟩ := h
  obtain ⟨its, rv, hl, hz⟩ := I.list hs
  rw [Vals.ref1 r]
  have ea := each_vals rv
  have er := each_reads I ea hd
  simp only [sortOkB, Bool.and_eq_true, decide_eq_true_eq] at hb
  have hal : PySem.W.AllAlike (xs.map (·.2)) := fun d hd d' hd' => List.all_eq_true.mp (List.all_eq_true.mp hb.1.1.1 d hd) d' hd'
  refine PySem.W.sorted_data (enc := fun p : V × PyData => p.2) hl.isList ea er hal (sortB_ok hb.1.1.2) (by rw [sizeLine_eq]; have := hb.2; rw [List.length_map] at this; omega) (fun b hb' => ?_) fun out ho eo => ?_
  · have := of_decide_eq_true (List.all_eq_true.mp hb.1.2 b.2 (List.mem_map_of_mem hb'))
    omega
  · obtain ⟨ep, he'⟩ := PyProof.Rows.sortedAll_at s.heap its out.toArray
    have hv := vals_each eo
    have hlen : ((xs.mergeSort (PySem.W.dataLe false fun p => p.2)).map (·.1)).length ≤ sizeLine := by
      rw [List.length_map, (List.mergeSort_perm _ _).length_eq, ← List.length_map (f := (·.1))]
      exact hz
    exact ⟨.ref _, upd H (s.heap.objs.size + 1) (.lst ((xs.mergeSort (PySem.W.dataLe false fun p => p.2)).map (·.1))), I.laid (t' := s.toks) (fun _ _ => PyProof.Rows.sortedAll_old) (Nat.le_succ _) ⟨hlen, out, ep, hv, he'⟩, rfl, q _ (I.hok.fresh (Nat.le_succ _))⟩
end G

/-! Fw17 -/
/-! sorted by trees, constants of a module, stores -/
namespace G
open PySem L2
section
variable {S : Sx} {w : Om} {H : Hp} {n : Nat}
def pyG (d : D) : PyData := match d.py with
  | some p => p
  | none => .none
theorem pyL_map : ∀ {ds : List D} {ps : List PyData}, D.pyL ds = some ps → ps = ds.map pyG ∧ ∀ d ∈ ds, d.py = some (pyG d)
  | [], ps, e => by
    simp only [D.pyL] at e
    cases e
    exact ⟨rfl, fun d hd => by simp at hd⟩
  | d :: ds, ps, e => by
    simp only [D.pyL] at e
    split at e
    · rename_i p ps' e1 e2
      cases e
      obtain ⟨h1, h2⟩ := pyL_map e2
      have hp : pyG d = p := by unfold pyG; rw [e1]
      refine ⟨by rw [List.map_cons, hp, h1], fun d' hd => ?_⟩
      rcases List.mem_cons.mp hd with e | hd
      · rw [e, hp, e1]
      · exact h2 d' hd
    · cases e
theorem ShrL.zip : ∀ {vs : List V} {ds : List D}, ShrL S w H n vs ds → (vs.zip ds).map (·.1) = vs ∧ (vs.zip ds).map (·.2) = ds ∧ ∀ z ∈ vs.zip ds, Shr S w H n z.1 z.2
  | _, _, .nil => ⟨rfl, rfl, fun z hz => by simp at hz⟩
  | _, _, .cons h t => by
    obtain ⟨a, b, c⟩ := ShrL.zip t
    refine ⟨by rw [List.zip_cons_cons, List.map_cons, a], by rw [List.zip_cons_cons, List.map_cons, b], fun z hz => ?_⟩
    rw [List.zip_cons_cons] at hz
    rcases List.mem_cons.mp hz with e | hz
    · rw [e]; exact h
    · exact c z hz
theorem ShrL.unzip : ∀ {zs : List (V × D)}, (∀ z ∈ zs, Shr S w H n z.1 z.2) → ShrL S w H n (zs.map (·.1)) (zs.map (·.2))
  | [], _ => .nil
  | z :: zs, h => .cons (h z List.mem_cons_self) (ShrL.unzip fun y hy => h y (List.mem_cons_of_mem _ hy))
theorem rc_sorted {m m3 : Md} {k : Nat} {K : PySem.W.Frag} (hK : S.K = K) (hm : m.flat = some k) (h3 : newOk k m3 = true) : RC S [m] m3 (rSortedD K) hSorted := by
  intro w H vs ds d3 fp Q dm A e q
  unfold hSorted at e
  split at e
  · rename_i ds
    split at e
    · rename_i ps ep
      split at e
      · rename_i hb
        cases e
        obtain ⟨v, rfl, r⟩ := A.one
        obtain ⟨a, us, rfl, h1, h2⟩ := r.flatL hm
        obtain ⟨z1, z2, z3⟩ := h2.zip
        obtain ⟨p1, p2⟩ := pyL_map ep
        have hds : ∀ z ∈ us.zip ds, z.2 ∈ ds := fun z hz => by
          have := List.mem_map_of_mem (f := (·.2)) hz
          rwa [z2] at this
        let f : V × D → V × PyData := fun z => (z.1, pyG z.2)
        have e1 : ((us.zip ds).map f).map (·.1) = us := by rw [List.map_map]; exact z1
        have e2 : ((us.zip ds).map f).map (·.2) = ps := by
          rw [List.map_map, p1]
          have : (us.zip ds).map ((·.2) ∘ f) = ((us.zip ds).map (·.2)).map pyG := by rw [List.map_map]; rfl
          rw [this, z2]
        have hs1 : (((us.zip ds).map f).mergeSort (PySem.W.dataLe false fun p => p.2)) = ((us.zip ds).mergeSort fun a b => leD a.2 b.2).map f := by
          refine (List.map_mergeSort fun x hx y hy => ?_).symm
          show leD x.2 y.2 = _
          unfold leD
          rw [p2 _ (hds x hx), p2 _ (hds y hy)]
          rfl
        have hs2 : ((us.zip ds).mergeSort fun a b => leD a.2 b.2).map (·.2) = ds.mergeSort leD := by
          rw [List.map_mergeSort (s := leD) fun x hx y hy => rfl, z2]
        refine ⟨a, (us.zip ds).map f, rfl, by rw [e1]; exact SqL.of h1, fun p hp => ?_, by rw [e2]; exact hb, fun p hp => ?_⟩
        · obtain ⟨z, hz, rfl⟩ := List.mem_map.mp hp
          exact hK ▸ (z3 z hz).dp _ (p2 _ (hds z hz))
        · rw [hs1, List.map_map]
          have sh : ShrL S w H k (((us.zip ds).mergeSort fun a b => leD a.2 b.2).map (·.1)) (ds.mergeSort leD) := by
            rw [← hs2]
            exact ShrL.unzip fun z hz => z3 z ((List.mergeSort_perm _ _).mem_iff.mp hz)
          obtain ⟨w', g1, g2⟩ := val_lst h3 dm hp sh
          exact q _ w' _ g1 g2
      · cases e
    · cases e
  · cases e
end

/-! ### constants of a module -/
section
variable {X : Cx} {S : Sx} {g g1 g2 : Ctx} {x : Str} {pos : Pos} {u : Value} {v : V} {d : D}
theorem se_glob (d : D) (hm : X.mg x = some u) (r : RelV v u) (h : isSc v d) (hg : Gl X x := by rfl) (hd : (x == ("__debug__" : Str)) = false := by decide) : SE X S g g (.sh 0) (.Name x pos) (mC d) :=
  ⟨fun ok => ⟨⟨_, pe_glob hg hm r hd, re_c h⟩, ok, Nat.zero_le _⟩⟩
end

/-! ### stores -/
def sStix (i : Nat) (fv fi : ME) : MS := fun e => (fv e).toO fun d e1 => (fi e1).toO fun k e2 => match k, e2[i]? with
  | .int j, some (some (.lst ds)) => match ixN ds.length j with
    | some n => .nx (e2.set i (some (.lst (ds.set n d))))
    | none => .no
  | _, _ => .no
def sAug (i : Nat) (h : D → D → Option D) (fe : ME) : MS := fun e => match e[i]? with
  | some (some d) => (fe e).toO fun y e1 => match h d y with
    | some z => .nx (e1.set i (some z))
    | none => .no
  | _ => .no
def sAugIx (i : Nat) (f : Int → Int → Int) (fi fe : ME) : MS := fun e => (fi e).toO fun k e1 => match k, e1[i]? with
  | .int j, some (some (.lst ds)) => match atI ds j with
    | some (.int a) => (fe e1).toO fun y e2 => match y, e2[i]? with
      | .int b, some (some (.lst ds2)) => match ixN ds2.length j with
        | some n => .nx (e2.set i (some (.lst (ds2.set n (.int (f a b))))))
        | none => .no
      | _, _ => .no
    | _ => .no
  | _, _ => .no
def sPar (i j : Nat) (fr : MA) : MS := fun e => (fr e).toO fun ds e1 => match ds with
  | [x, y] => .nx ((e1.set i (some x)).set j (some y))
  | _ => .no
section
variable {X : Cx} {S : Sx} {T : Fx} {g g1 g2 g3 : Ctx} {m m0 m1 m2 mv mi : Md} {a b c : Expr} {fa fb fi fv fe : ME} {pos p1 p2 : Pos} {i j : Nat} {x y : Str}
theorem RepL.set {w : Om} {H : Hp} {vs : List V} {ds : List D} {fp fq : List Addr} {v : V} {d : D} {n : Nat} (h : RepL S w H m vs ds fp) (hn : n < ds.length) (hv : Rep S w H m v d fq) :
    ∃ fp', RepL S w H m (vs.set n v) (ds.set n d) fp' ∧ ((fp ++ fq).Nodup → fp'.Nodup) ∧ ∀ x ∈ fp', x ∈ fp ++ fq := by
  obtain ⟨f1, f2, rfl, h1, h2⟩ := h.split n
  obtain ⟨f3, f4, e2, _, h4⟩ := h2.split 1
  subst e2
  rw [List.set_eq_take_append_cons_drop, List.set_eq_take_append_cons_drop, if_pos hn, if_pos (by rw [h.length]; exact hn)]
  refine ⟨f1 ++ (fq ++ f4), h1.append ?_, fun nd => ?_, fun x hx => ?_⟩
  · have := RepL.append (RepL.one hv) (by rw [List.drop_drop, List.drop_drop] at h4; exact h4)
    exact this
  · simp only [List.append_assoc] at nd ⊢
    have p : (f1 ++ (f3 ++ (f4 ++ fq))).Perm (f3 ++ (f1 ++ (fq ++ f4))) := by
      refine List.Perm.trans ?_ (List.perm_append_comm_assoc f1 f3 _)
      exact (List.perm_append_comm.append_left f3).append_left f1
    exact (List.nodup_append.mp (p.nodup nd)).2.1
  · simp only [List.mem_append] at hx ⊢
    rcases hx with h | h | h
    · exact .inl (.inl h)
    · exact .inr h
    · exact .inl (.inr (.inr h))
theorem ss_stix [gd : Gd X S] (i : Nat) (hv : SE X S g g1 mv a fv) (hi : SE X S g1 g2 mi b fi) (h0 : g1[i]? = some (some (.own m0)) := by rfl) (hg : g2[i]? = some (some (.own m)) := by rfl) (hm : mv.le m = true := by rfl)
    (hN : X.N[i]? = some x := by rfl) (hvi : Vis X.env.scope x := by first | exact Or.inl rfl | exact Or.inr (Or.inl rfl) | exact Or.inr (Or.inr rfl))
    (hd : (x == ("__debug__" : Str)) = false := by decide) (hcd : (x == ("__classdict__" : Str)) = false := by decide)
    (ha : ∀ v, assign (.Subscript (.Name x p1) b p2) X.env v = (do
      let ov ← holding [v] (eval (.Name x p1) X.env)
      let iv ← holding [v, ov] (eval b X.env)
      standAt p2
      holding [v, ov, iv] (setItem ov iv v)
      release [v, ov, iv] []) := by intro _; rfl)
    (hs : swapsWithSole [.Subscript (.Name x p1) b p2] a pos.line X.env = pure false := by rfl) (hw : swappedStores [.Subscript (.Name x p1) b p2] a X.env = pure none := by rfl)
    (hq : (assignEach [.Subscript (.Name x p1) b p2] X.env).map (·.2) = [assign (.Subscript (.Name x p1) b p2) X.env] := by rfl) : SS X S T g g2 (.Assign [.Subscript (.Name x p1) b p2] a pos) (sStix i fv fi) := ⟨fun ok => by
  obtain ⟨⟨tv, k1, k2⟩, o1, l1⟩ := hv.run ok
  obtain ⟨⟨ti, k3, k4⟩, o2, l2⟩ := hi.run o1
  refine ⟨⟨_, ps_asg k1 (pg_sub (pe_var hN hvi hd hcd) k3 set_list ha) hs hw hq, fun w σ H env Dn R q => ?_⟩, o2⟩
  have q := Out.toS q
  refine k2 w σ H env _ R (Out.mono q (Ext.refl _ _) fun d e1 q1 v w1 H1 x1 R1 V1 => ?_)
  obtain ⟨fp, n1, n2, n3⟩ := V1.keep l1
  obtain ⟨R1', x1'⟩ := R1.relab (x := .lvl (S.n + 1)) n2
  obtain ⟨vo, do', fo, s1, s2, s3, s4, s5⟩ := R1'.slot i _ h0
  refine ⟨vo, s1, ?_⟩
  have q1 := Out.toS q1
  refine k4 _ σ H1 e1 _ R1' (Out.mono q1 (x1.trans x1') fun k e2 q2 vk w2 H2 x2 R2 V2 => ?_)
  obtain ⟨z1, z2⟩ := n3 w2 H2 x2
  obtain ⟨R3, kp⟩ := R2.rehand o2 z2
  obtain ⟨v', d', fp', t1, t2, t3, t4, t5⟩ := R3.slot i _ hg
  rw [s1] at t1
  cases t1
  obtain ⟨f2, y1, _⟩ := V2
  cases k with
  | int jj =>
    obtain ⟨rfl, _⟩ := y1.int
    rw [t2] at q2
    cases d' with
    | lst ds =>
      simp only at q2
      cases t3 with
      | sc z => exact (isSc_lst z).elim
      | own ho L =>
        rename_i ao vs fp1
        cases en : ixN ds.length jj with
        | none => rw [en] at q2; exact q2.elim
        | some nn =>
          rw [en] at q2
          have hn : nn < ds.length := (ixN_seq en).2.1
          refine ⟨ao, vs, jj, nn, rfl, rfl, ho, by rw [L.length]; exact en, ?_⟩
          have hz1 : Rep S (lab fp .hand w2) H2 m v d fp := (z1.to rfl rfl (Md.le_refl _) (fun a k hk e => kp a k (Nat.le_trans hk l1) e) fun _ _ => rfl).le hm
          obtain ⟨fp', L2', nd2, mem2⟩ := L.set hn hz1
          have wa := t5 ao List.mem_cons_self
          have dis : (fp1 ++ fp).Nodup := by
            rw [List.nodup_append]
            exact ⟨(List.nodup_cons.mp t4).2, n1, fun x hx y hy e => by
              have p := t5 x (List.mem_cons_of_mem _ hx)
              rw [e, lab_in hy] at p
              cases p⟩
          obtain ⟨w4, x4, R4, _⟩ := R3.mut hg s1 wa L2' (nd2 dis) fun x hx => by
            rcases List.mem_append.mp (mem2 x hx) with hx | hx
            · exact ⟨fun z => (List.nodup_cons.mp t4).1 (z ▸ hx), .inl (t5 x (List.mem_cons_of_mem _ hx))⟩
            · refine ⟨fun z => ?_, .inr (lab_in hx)⟩
              have p := lab_in (x := .hand) (w := w2) hx
              rw [z, wa] at p
              cases p
          refine q2 σ w4 _ (Fix.refl _) ?_ R4
          intro a k e
          obtain ⟨b1, b2⟩ := x1 a k e
          have na : a ∉ fp := fun hm => by rw [n2 a hm] at b1; cases b1
          obtain ⟨c1, c2⟩ := x1' a k b1
          obtain ⟨c3, c4⟩ := x2 a k c1
          obtain ⟨c5, c6⟩ := x4 a k (by rw [lab_out na]; exact c3)
          exact ⟨c5, by rw [c6, c4, b2]⟩
    | _ => exact q2.elim
  | _ => exact q2.elim⟩
end
end G

/-! Fw18 -/
/-! stores with an operation, two names at once -/
namespace G
open PySem L2
section
variable {X : Cx} {S : Sx} {T : Fx} {g g1 g2 g3 : Ctx} {m m0 m1 m2 mv mi : Md} {a b c : Expr} {fa fb fi fv fe : ME} {pos p1 p2 : Pos} {i j : Nat} {x y : Str}
/-- x op= e, x no owned name -/
theorem ss_aug [gd : Gd X S] (i : Nat) {k : Nat} {op : Operator} {r : R2} {h : D → D → Option D} (ho : OpR X (inplaceOp op) r) (hr : RO S (.sh k) m (.sh k) r h) (hv : SE X S g g1 m a fe) (h0 : g[i]? = some (some (.sh k)) := by rfl) (h1 : i < g1.length := by exact Nat.le_of_ble_eq_true rfl)
    (hF : i ∉ T.F := by exact nin rfl) (hN : X.N[i]? = some x := by rfl) (hx : Loc X.env.scope x := by first | exact .inl rfl | exact .inr rfl)
    (hf : X.fn x = true ∨ X.env.scope.names.lookup x = some .local := by first | exact .inl rfl | exact .inr rfl) : SS X S T g (g1.set i (some (.sh k))) (.AugAssign (.Name x p1) op a pos) (sAug i h fe) := ⟨fun ok => by
  obtain ⟨⟨te, k1, k2⟩, o1, l1⟩ := hv.run ok
  have lk : k ≤ S.n := ok i _ h0
  refine ⟨⟨_, ps_aug gd.nd hN hx k1 (ti := r) (fun pins s σ H x y v u Q I r1 r2 h => ho pins s σ H x y v u Q I r1 r2 h) hf, fun w σ H env Dn R q => ?_⟩, okg_set o1 fun m' e => by cases e; exact lk⟩
  obtain ⟨v, d, fp, s1, s2, s3, s4, s5⟩ := R.slot i _ h0
  refine ⟨v, s1, ?_⟩
  unfold sAug at q
  rw [s2] at q
  have q := Out.toS q
  obtain ⟨_, s3'⟩ := s3.unsh
  refine k2 w σ H env _ R (Out.mono q (Ext.refl _ _) fun y e1 q1 vy w1 H1 x1 R1 V1 => ?_)
  obtain ⟨fy, y1, _⟩ := V1
  cases eh : h d y with
  | none => rw [eh] at q1; exact q1.elim
  | some z =>
    rw [eh] at q1
    refine hr w1 H1 v vy d y z [] fy _ R1.dom (.sh (s3'.to x1.keep (Nat.le_refl _) rfl rfl)) y1 eh fun vz w' H' gr V3 => ?_
    obtain ⟨w2, x2, R2⟩ := (R1.grow gr).put V3 h1
    exact q1 (σ.set i (some vz)) w2 H' (Fix.set hF) ((x1.trans (gr.ext R1.dom)).trans x2) R2⟩
def getL : V → V → Hp → VK → Prop := fun o i H Q => ∃ p xs k v, o = .ref p ∧ i = .int k ∧ H p = some (.lst xs) ∧ atI xs k = some v ∧ Q v H
theorem pget_list : PGet X getL := by
  intro pins s σ H o i ov iv Q I ro ri h
  obtain ⟨p, xs, k, v, rfl, rfl, hp, hj, q⟩ := h
  cases ro
  obtain ⟨t, rfl⟩ := ri
  obtain ⟨its, rv, pl, hz⟩ := I.list (SqL.of (K := X.K) hp)
  unfold atI at hj
  cases ej : ixN xs.length k with
  | none => rw [ej] at hj; cases hj
  | some j =>
    rw [ej] at hj
    have hlen := rv.length
    obtain ⟨u, e1, r1⟩ := Vals.get rv hj
    unfold ixN at ej
    have hs : xs.length < 2 ^ 62 := Nat.lt_of_le_of_lt hz (by rw [sizeLine_eq]; decide)
    by_cases h0 : 0 ≤ k
    · rw [if_pos h0] at ej
      split at ej
      · cases ej
        refine PySem.wpAny_getItem_list pl.isList h0 (by omega) (x := u) (by simpa using e1) ⟨v, H, I, r1, q⟩
      · cases ej
    · rw [if_neg h0] at ej
      split at ej
      · rename_i h2
        cases ej
        refine PySem.wpAny_getItem_list_neg pl.isList (by omega) (by rw [List.size_toArray, ← hlen]; omega) (by omega) (x := u) (by rw [List.size_toArray, ← hlen]; simpa using e1) ⟨v, H, I, r1, q⟩
      · cases ej
/-- x[k] op= e, x an owned name, ints -/
theorem ss_augIx [gd : Gd X S] (i : Nat) {op : Operator} {f : Int → Int → Int} (ho : OpR X (inplaceOp op) (rI0 fun i j => .int (f i j))) (hi : SE X S g g1 mi b fi) (hv : SE X S g1 g2 mv a fe)
    (h00 : g[i]? = some (some (.own m2)) := by rfl) (h0 : g1[i]? = some (some (.own m0)) := by rfl) (hg : g2[i]? = some (some (.own m)) := by rfl)
    (hN : X.N[i]? = some x := by rfl) (hvi : Vis X.env.scope x := by first | exact Or.inl rfl | exact Or.inr (Or.inl rfl) | exact Or.inr (Or.inr rfl))
    (hd : (x == ("__debug__" : Str)) = false := by decide) (hcd : (x == ("__classdict__" : Str)) = false := by decide)
    (hau : ∀ ov iv new, augStore b ov iv new = (do holding [new, ov, iv] (setItem ov iv new); release [new, ov, iv] []; pure .next) := by intros; rfl) :
    SS X S T g g2 (.AugAssign (.Subscript (.Name x p1) b p2) op a pos) (sAugIx i f fi fe) := ⟨fun ok => by
  obtain ⟨⟨ti, k3, k4⟩, o1, l1⟩ := hi.run ok
  obtain ⟨⟨tv, k1, k2⟩, o2, l2⟩ := hv.run o1
  refine ⟨⟨_, ps_augS (pe_var hN hvi hd hcd) k3 pget_list k1 (tip := rI0 fun i j => .int (f i j)) (fun pins s σ H x y v u Q I r1 r2 h => ho pins s σ H x y v u Q I r1 r2 h) set_list hau, fun w σ H env Dn R q => ?_⟩, o2⟩
  obtain ⟨vo, do', fo, s1, s2, s3, s4, s5⟩ := R.slot i _ h00
  refine ⟨vo, s1, ?_⟩
  have q := Out.toS q
  refine k4 w σ H env _ R (Out.mono q (Ext.refl _ _) fun k e1 q1 vk w1 H1 x1 R1 V1 => ?_)
  obtain ⟨v', d', fp', t1, t2, t3, t4, t5⟩ := R1.slot i _ h0
  rw [s1] at t1
  cases t1
  obtain ⟨f1, y1, _⟩ := V1
  cases k with
  | int jj =>
    obtain ⟨rfl, _⟩ := y1.int
    rw [t2] at q1
    cases d' with
    | lst ds =>
      simp only at q1
      cases t3 with
      | sc z => exact (isSc_lst z).elim
      | own hoo L =>
        rename_i ao vs fp1
        cases ea : atI ds jj with
        | none => rw [ea] at q1; exact q1.elim
        | some da =>
          rw [ea] at q1
          cases da with
          | int aa =>
            simp only at q1
            have hat : atI vs jj = some (.int aa) := by
              unfold atI at ea ⊢
              rw [L.length]
              cases en : ixN ds.length jj with
              | none => rw [en] at ea; cases ea
              | some nn =>
                rw [en] at ea
                have hn : nn < ds.length := (ixN_seq en).2.1
                have hlt : nn < vs.length := by rw [L.length]; exact hn
                obtain ⟨f3, f4, _, _, h4⟩ := L.split nn
                show vs[nn]? = some (.int aa)
                have ea' : ds[nn]? = some (.int aa) := ea
                rw [List.drop_eq_getElem_cons hlt, List.drop_eq_getElem_cons hn] at h4
                have ed : ds[nn] = .int aa := by
                  rw [List.getElem?_eq_getElem hn] at ea'
                  exact Option.some.inj ea'
                rw [ed] at h4
                cases h4 with
                | cons h5 h6 =>
                  obtain ⟨h7, _⟩ := h5.int
                  rw [List.getElem?_eq_getElem hlt, h7]
            refine ⟨ao, vs, jj, .int aa, rfl, rfl, hoo, hat, ?_⟩
            have q1 := Out.toS q1
            refine k2 w1 σ H1 e1 _ R1 (Out.mono q1 x1 fun y e2 q2 vy w2 H2 x2 R2 V2 => ?_)
            obtain ⟨fy, yy, _⟩ := V2
            obtain ⟨v2, d2, fp2, u1, u2, u3, u4, u5⟩ := R2.slot i _ hg
            rw [s1] at u1
            cases u1
            cases y with
            | int bb =>
              obtain ⟨rfl, _⟩ := yy.int
              rw [u2] at q2
              cases d2 with
              | lst ds2 =>
                simp only at q2
                cases u3 with
                | sc z => exact (isSc_lst z).elim
                | own ho2 L2 =>
                  rename_i vs2 fp3
                  cases en : ixN ds2.length jj with
                  | none => rw [en] at q2; exact q2.elim
                  | some nn =>
                    rw [en] at q2
                    have hn : nn < ds2.length := (ixN_seq en).2.1
                    refine ⟨aa, bb, rfl, rfl, ao, vs2, jj, nn, rfl, rfl, ho2, by rw [L2.length]; exact en, ?_⟩
                    obtain ⟨fp', L2', nd2, mem2⟩ := L2.set hn (fq := []) (v := .int (f aa bb)) (d := .int (f aa bb)) (.sc rfl)
                    have wa := u5 ao List.mem_cons_self
                    obtain ⟨w4, x4, R4, _⟩ := R2.mut hg s1 wa L2' (nd2 (by rw [List.append_nil]; exact (List.nodup_cons.mp u4).2)) fun x hx => by
                      have hx := mem2 x hx
                      rw [List.append_nil] at hx
                      exact ⟨fun z => (List.nodup_cons.mp u4).1 (z ▸ hx), .inl (u5 x (List.mem_cons_of_mem _ hx))⟩
                    exact q2 σ w4 _ (Fix.refl _) ((x1.trans x2).trans x4) R4
              | _ => exact q2.elim
            | _ => exact q2.elim
          | _ => exact q1.elim
    | _ => exact q1.elim
  | _ => exact q1.elim⟩
/-- a, b = x, y -/
theorem ss_par [gd : Gd X S] (i j : Nat) {fr : MA} {pt : Pos} {kt : Nat} {k2 : Nat} {pt2 : Pos} (ha : SA X S g g1 [m1, m2] [a, b] fr) (hi : i < g1.length := by exact Nat.le_of_ble_eq_true rfl) (hj : j < g1.length := by exact Nat.le_of_ble_eq_true rfl)
    (hF : i ∉ T.F := by exact nin rfl) (hF2 : j ∉ T.F := by exact nin rfl) (hN : X.N[i]? = some x := by rfl) (hN2 : X.N[j]? = some y := by rfl) (hij : i ≠ j := by decide)
    (hx : X.env.scope.names.lookup x = some .local := by rfl) (hy : X.env.scope.names.lookup y = some .local := by rfl)
    (hw : swappedStores [.Tuple [.Name x p1, .Name y p2] kt pt] (.Tuple [a, b] k2 pt2) X.env = pure (some [x, y]) := by rfl)
    (hs : swapsWithSole [.Tuple [.Name x p1, .Name y p2] kt pt] (.Tuple [a, b] k2 pt2) pos.line X.env = pure false := by rfl) :
    SS X S T g ((g1.set i (some m1)).set j (some m2)) (.Assign [.Tuple [.Name x p1, .Name y p2] kt pt] (.Tuple [a, b] k2 pt2) pos) (sPar i j fr) := ⟨fun ok => by
  obtain ⟨⟨ta, k1, k2⟩, o1, l1⟩ := ha.run ok
  refine ⟨⟨_, ps_par gd.calm gd.nd hN hN2 hij hx hy k1 hw hs, fun w σ H env Dn R q => ?_⟩, okg_set (okg_set o1 fun m' e => by cases e; exact l1 _ (by simp)) fun m' e => by cases e; exact l1 _ (by simp)⟩
  have q := Out.toS q
  refine k2 w σ H env _ R (Out.mono q (Ext.refl _ _) fun ds e1 q1 vs w1 H1 x1 R1 V1 => ?_)
  obtain ⟨fp, z1, z2, z3⟩ := V1
  match ds, q1 with
  | [d1, d2], q1 =>
    obtain ⟨v, v2, f, f2, rfl, r1, r2, rfl⟩ := z1.two
    rw [List.nodup_append] at z2
    refine ⟨v, v2, rfl, ?_⟩
    -- the second value is kept by the hand while the first one is put
    obtain ⟨w2, x2, R2, h2⟩ : ∃ w2, Ext w1 H1 w2 H1 ∧ Rel S (g1.set i (some m1)) w2 (σ.set i (some v)) H1 (e1.set i (some d1)) ∧ ∀ a, a ∉ f → w2 a = w1 a := by
      have key : ∀ a y, w1 a = some y → y ≠ .hand → lab f (.slot i) w1 a = some y := fun a y e ne => by
        rw [lab_out]
        · exact e
        · intro h
          rw [z3 a (List.mem_append_left _ h)] at e
          exact ne (Option.some.inj e).symm
      have ex : Ext w1 H1 (lab f (.slot i) w1) H1 := fun a k e => ⟨key a _ e (by simp), rfl⟩
      have hσ : i < σ.length := Nat.lt_of_lt_of_le hi R1.gl
      refine ⟨lab f (.slot i) w1, ex, ⟨fun a y e => ?_, fun l m' e => ?_, by rw [List.length_set, List.length_set]; exact R1.len, by rw [List.length_set, List.length_set]; exact R1.gl⟩, fun a ha => lab_out ha⟩
      · by_cases h : a ∈ f
        · exact R1.dom a _ (z3 a (List.mem_append_left _ h))
        · rw [lab_out h] at e
          exact R1.dom a y e
      · by_cases hl : i = l
        · subst hl
          rw [List.getElem?_set_self hi] at e
          cases e
          exact ⟨v, d1, f, List.getElem?_set_self hσ, List.getElem?_set_self (by rw [R1.len]; exact hσ), r1.to rfl rfl (Md.le_refl _) ex.keep fun _ _ => rfl, z2.1, fun a ha => lab_in ha⟩
        · rw [List.getElem?_set_ne hl] at e
          obtain ⟨v', d', f', h1, h2, h3, h4, h5⟩ := R1.slot l m' e
          exact ⟨v', d', f', by rw [List.getElem?_set_ne hl]; exact h1, by rw [List.getElem?_set_ne hl]; exact h2, h3.to rfl rfl (Md.le_refl _) ex.keep fun _ _ => rfl, h4, fun a ha => key a _ (h5 a ha) (by simp)⟩
    have V2 : Val S m2 w2 H1 v2 d2 := ⟨f2, r2.to rfl rfl (Md.le_refl _) x2.keep fun _ _ => rfl, z2.2.1, fun a ha => by
      rw [h2 a fun h => z2.2.2 a h a ha rfl]
      exact z3 a (List.mem_append_right _ ha)⟩
    obtain ⟨w3, x3, R3⟩ := R2.put V2 (by rw [List.length_set]; exact hj)
    exact q1 _ w3 H1 (Fix.trans (Fix.set hF) (Fix.set hF2)) ((x1.trans x2).trans x3) R3
  | [], q1 => exact q1.elim
  | [_], q1 => exact q1.elim
  | _ :: _ :: _ :: _, q1 => exact q1.elim⟩
end
end G

/-! Fw19 -/
/-! the frame of a law: the bag, the law's def, its end -/
namespace G
open PySem PySem.Spec PyProof.Rows L2

def absI (z : Int) : Int := if z < 0 then -z else z
def cellsOf (ns : List Int) : List Int := (ns.take 63).map absI
/-- the bag: a new list at p, the cells at q -/
def spBag (K : PySem.W.Frag) : Sp := fun vs H Q _ => ∃ (a : Addr) (ns : List Int), vs = [.ref a] ∧ SqL K H a (ns.map V.int) ∧
  ∀ (H' : Hp) (p q : Addr), (∀ b o, H b = some o → H' b = some o) → p ≠ q → H p = none → H q = none → H' p = some (.lst [.int 0, .int 1234567891, .int 0, .ref q]) → H' q = some (.lst ((cellsOf ns).map V.int)) → Q (.ref p) H'
abbrev tBag (K : PySem.W.Frag) : TE := tLst (tCons (tC (.int 0)) (tCons (tC (.int 1234567891)) (tCons (tC (.int 0)) (tCons
  (tLc (iList K (tSl (rSlL K) (tVar 0) tNoPart (tPart (tC (.int 63))))) (gName 1) tYes (tCB (fun xs H Q => ∃ i, xs = [.int i] ∧ Q (.int (if i < 0 then -i else i)) H) (tCons (tVar 1) tNil)) [1]) tNil))))
theorem cutV_63 (xs : List V) : cutV xs none (some 63) = xs.take 63 := by
  unfold cutV
  rw [HT.sIx_none, List.drop_zero]
  have : HT.sIx xs.length xs.length (some 63) = min 63 xs.length := HT.sIx_nat xs.length xs.length 63
  rw [this, Nat.sub_zero]
  by_cases h : 63 ≤ xs.length
  · rw [Nat.min_eq_left h]
  · rw [Nat.min_eq_right (by omega), List.take_of_length_le (Nat.le_refl _), List.take_of_length_le (by omega)]
open Evl in
theorem bag_sem {K : PySem.W.Frag} {vs : List V} {H : Hp} {Q : VK} {E : XK} {D : Ends} (hD : D.rt = Q) (h : spBag K vs H Q E) : tRet (tBag K) D (start ["_law_script", "_law_cell"] vs) H := by
  obtain ⟨a, ns, rfl, hs, q⟩ := h
  have e0 : (start ["_law_script", "_law_cell"] [V.ref a])[0]? = some (some (.ref a)) := rfl
  have el : EvL (tLc (iList K (tSl (rSlL K) (tVar 0) tNoPart (tPart (tC (.int 63))))) (gName 1) tYes (tCB (fun xs H Q => ∃ i, xs = [.int i] ∧ Q (.int (if i < 0 then -i else i)) H) (tCons (tVar 1) tNil)) [1])
      (start ["_law_script", "_law_cell"] [V.ref a]) H (given ((ns.map V.int).take 63).length (fun _ => true) fun i => .int (absI ((ns.take 63)[i]?.getD 0))) := by
    refine el_lcNL _ _ (cutV_63 (ns.map V.int) ▸ el_sl (ev_var e0) eo_none (eo_some ev_c) hs) (by rw [List.length_take]; omega) (fun x => rfl) (fun i x H1 _ _ H2 _ Q q => q H2 (Ex.refl H2)) fun i x H1 _ hx _ => ?_
    rw [← List.map_take, List.getElem?_map] at hx
    cases hy : (ns.take 63)[i]? with
    | none => rw [hy] at hx; cases hx
    | some z =>
      rw [hy] at hx
      cases hx
      exact ev_cb (ea_cons (ev_var rfl) ea_nil) fun H2 _ Q q => ⟨z, rfl, q H2 (Ex.refl H2)⟩
  have eg : given ((ns.map V.int).take 63).length (fun _ => true) (fun i => V.int (absI ((ns.take 63)[i]?.getD 0))) = (cellsOf ns).map V.int := by
    unfold given cellsOf
    rw [List.filter_eq_self.mpr fun _ _ => rfl, List.map_map]
    refine List.ext_getElem? fun i => ?_
    rw [List.getElem?_map, List.getElem?_map, ← List.map_take, List.length_map]
    by_cases hi : i < (ns.take 63).length
    · rw [List.getElem?_range hi]
      show some (V.int (absI ((ns.take 63)[i]?.getD 0))) = _
      rw [List.getElem?_eq_getElem hi]
      rfl
    · rw [List.getElem?_eq_none (by rw [List.length_range]; omega), List.getElem?_eq_none (by omega)]
      rfl
  rw [eg] at el
  show tBag K _ H D.rt
  rw [hD]
  exact el H (Ex.refl H) (fun y H1 => ([V.int 0, V.int 1234567891, V.int 0, y] : List V).length ≤ sizeLine ∧ ∀ p, H1 p = none → Q (.ref p) (upd H1 p (.lst [.int 0, .int 1234567891, .int 0, y]))) fun b H1 hb e1 h1 => ⟨by rw [sizeLine_eq]; exact (by decide : 4 ≤ 16777216), fun p hp => q _ p b (fun c o e => (Ex.new hp) c o (e1 c o e)) (fun e => by rw [e, h1] at hp; cases hp) (by
    cases hq : H p with
    | none => rfl
    | some o => rw [e1 p o hq] at hp; cases hp) hb upd_same ((Ex.new hp) b _ h1)⟩

/-! ### the law's def -/
def bagD (ns : List Int) : D := .lst [.int 0, .int 1234567891, .int 0, .lst ((cellsOf ns).map .int)]
def Scr (ns : List Int) : Prop := ns.length ≤ 63 ∧ ∀ z ∈ ns, Builtin.Int.intBits z ≤ 1048576
def spLaw (K : PySem.W.Frag) : Sp := fun vs H Q _ => ∃ (a : Addr) (ns : List Int), vs = [.ref a] ∧ SqL K H a (ns.map V.int) ∧ Scr ns ∧ ∀ H', Q (.bl true) H'
def bagM : Md := .own (.sh 0)
def lawG (n : Nat) : Ctx := none :: some bagM :: List.replicate (n - 2) none
def lawE (n : Nat) (ns : List Int) : Env := none :: some (bagD ns) :: List.replicate (n - 2) none
def lawSh : Sh := ⟨[], .sh 0, [], []⟩
def lawFx : Fx := ⟨[], .sh 0, [], [], []⟩
section
variable {P : Program} {w : World} {K : PySem.W.Frag} {mg : Str → Option Value} {base : Heap} {k : Nat} {f : Addr} {fd : FuncData}
theorem shr_ints {S : Sx} {w : Om} {H : Hp} {n : Nat} : ∀ ns : List Int, ShrL S w H n (ns.map V.int) (ns.map D.int)
  | [] => .nil
  | _ :: ns => .cons (.int _) (shr_ints ns)
theorem lawG_ok {x qual : Str} {st first : Stmt} {rest : List Stmt} {N : List Str} {cl : Str → Option Addr} {fr : MS} {g' : Ctx} (F : Fun K x qual st f fd) (S : FnScope N ["_law_script"] (defScope st)) (hb : defBody st = first :: rest) (hN : 2 ≤ N.length)
    (hfirst : ∀ (cdv : Value) (A : Around) (outer : List PySem.Env) (s : Shared) (H : Hp) (E : XK) [Gd (cxOf (L2.CX P w) P w K mg base N qual (defScope st) f cdv A outer s H E) (sxOf K cl lawSh E)], Room k (cxOf (L2.CX P w) P w K mg base N qual (defScope st) f cdv A outer s H E).A →
      PS (cxOf (L2.CX P w) P w K mg base N qual (defScope st) f cdv A outer s H E) first (tAsg (tCall (spBag K) [] E (tCons (tVar 0) tNil)) (gName 1)))
    (hrest : ∀ (cdv : Value) (A : Around) (outer : List PySem.Env) (s : Shared) (H : Hp) (E : XK) [Gd (cxOf (L2.CX P w) P w K mg base N qual (defScope st) f cdv A outer s H E) (sxOf K cl lawSh E)], Room k (cxOf (L2.CX P w) P w K mg base N qual (defScope st) f cdv A outer s H E).A →
      SSs (cxOf (L2.CX P w) P w K mg base N qual (defScope st) f cdv A outer s H E) (sxOf K cl lawSh E) lawFx (lawG N.length) g' rest fr)
    (hval : ∀ ns, Scr ns → ∃ e, fr (lawE N.length ns) = .rt (.bl true) e) : FnG P w K mg base (k + 1) f fd ["_law_script"] (spLaw K) := by
  refine fnG_of F S (fun vs H Q E q => ?_) fun cdv A outer s H vs Q E gs hr q => ?_
  · obtain ⟨a, ns, rfl, _⟩ := q
    rfl
  obtain ⟨a, ns, rfl, hs, scr, q⟩ := q
  have tk : Takes (cxOf (L2.CX P w) P w K mg base N qual (defScope st) f cdv A outer s H E) (fun cls d _ H => E cls d H) := takes_of (E₁ := fun e' s'' => L2.CX P w outer H s E e' s'') rfl rfl rfl rfl
  have gd : Gd (cxOf (L2.CX P w) P w K mg base N qual (defScope st) f cdv A outer s H E) (sxOf K cl lawSh E) := ⟨rfl, rfl, S.nd, hr.units, gs, passes_call tk fun _ _ _ _ z => z, passes_of rfl⟩
  have hg : ∀ (i : Nat) (m : Md), (lawG N.length)[i]? = some (some m) → i = 1 ∧ m = bagM := fun i m e => by
    unfold lawG at e
    match i with
    | 0 => cases e
    | 1 => cases e; exact ⟨rfl, rfl⟩
    | i + 2 =>
      have e' : (List.replicate (N.length - 2) (none : Option Md))[i]? = some (some m) := e
      rw [List.getElem?_replicate] at e'
      split at e' <;> cases e'
  have ok0 : OkG 1 (lawG N.length) := fun i m e => by
    obtain ⟨_, rfl⟩ := hg i m e
    exact Nat.zero_le _
  obtain ⟨⟨t, p1, p2⟩, o1⟩ := (hrest cdv A outer s H E hr).run ok0
  rw [hb]
  refine ⟨_, pss_cons (hfirst cdv A outer s H E hr) p1, ?_⟩
  have s0 : (start N [V.ref a])[0]? = some (some (.ref a)) := rfl
  refine ⟨.ref a, s0, a, ns, rfl, hs, fun H' p b kp ne hp hq h1 h2 => ?_⟩
  have lenS : (start N [V.ref a]).length = N.length := by
    unfold L2.start
    simp only [List.length_append, List.length_map, List.length_replicate, List.length_cons, List.length_nil]
    omega
  obtain ⟨e, he⟩ := hval ns scr
  have R0 : Rel (sxOf K cl lawSh E) (lawG N.length) (lab [p] (.slot 1) (lab [b] (.lvl 0) fun _ => none)) ((start N [V.ref a]).set 1 (some (.ref p))) H' (lawE N.length ns) := by
    refine ⟨fun c y e => ?_, fun i m e => ?_, ?_, ?_⟩
    · by_cases hc : c = p
      · subst hc; exact ⟨_, h1⟩
      · rw [lab_out (by simpa using hc)] at e
        by_cases hc2 : c = b
        · subst hc2; exact ⟨_, h2⟩
        · rw [lab_out (by simpa using hc2)] at e
          cases e
    · obtain ⟨rfl, rfl⟩ := hg i m e
      refine ⟨.ref p, bagD ns, [p], List.getElem?_set_self (by rw [lenS]; omega), rfl, .own h1 (RepL.sh (.cons (.int 0) (.cons (.int _) (.cons (.int 0) (.cons (.lst ⟨⟨0, Nat.le_refl _, ?_⟩, h2⟩ (shr_ints _)) .nil))))), by simp, fun c hc => lab_in hc⟩
      rw [lab_out (by simpa using Ne.symm ne)]
      exact lab_in (by simp)
    · rw [List.length_set, lenS]
      unfold lawE
      simp only [List.length_cons, List.length_replicate]
      omega
    · rw [List.length_set, lenS]
      unfold lawG
      simp only [List.length_cons, List.length_replicate]
      omega
  refine p2 _ _ H' _ { nx := fun _ H' => Q .non H', rt := Q } R0 ?_
  rw [he]
  intro v σ' w' H2 _ _ _ V2
  obtain ⟨_, z, _⟩ := V2
  obtain ⟨rfl, _⟩ := z.bl
  exact q H2
end

/-! ### the end -/
section
variable {P : Program} {w : World} {K : PySem.W.Frag} {mg mb : Str → Option Value} {k : Nat} {fa a : Addr} {fd : FuncData} {x : Str} {sp : Sp} {t : Shared} {vs : List Value} {ns : List Int}
/-- the call of the law over a heap of which a part U is told (the script, at most) -/
theorem end_at {U : Hp} (KI : K.In t.heap) (hm : t.heap.Ns mainGlobals mg) (hb : t.heap.Ns builtinsNs mb) (hbb : ∀ x : Str, x ≠ "__name__" → mb x = bootBuiltins x) (hl : t.heap.NoLimit) (hg : t.gens = #[])
    (ho : t.heap.get? a = some { cls := .type "list", data := .seq vs.toArray }) (hr : Room k callerA) (F : ∀ base : Heap, K.In base → base.Ns mainGlobals mg → FnG P w K mg base k fa fd [x] sp)
    (bind : ∀ (s : Shared) (u : Value), BindsTo s fd ⟨[u], []⟩ [(x, u)]) (U0 : Only U) (ok : HOk P w U t.heap) (Ua : ∀ b, U b ≠ none → b = a) (UK : U a ≠ none → K.lookup a = none)
    (q : sp [.ref a] U (fun v _ => v = .bl true) fun _ _ _ => False) (hc : ∀ H e s', L2.CX P w [] H t (fun _ _ _ => False) e s' → False) :
    codeAny (model P w) callerA (.call (.ref fa) ⟨[.ref a], []⟩) (fun r s' => r = .ok (.ret (.bool true)) ∧ OldK t.heap s'.heap ∧ s'.os = t.os ∧ AllBare s'.gens) t := by
  have free : ∀ {b : Addr} {o : Obj} {es : Array DictEntry} {n : Nat}, t.heap.get? b = some o → o.data = .dict es n → U b = none := fun {b o es n} e1 e2 => by
    by_cases hu : U b = none
    · exact hu
    · have eb := Ua b hu
      rw [eb, ho] at e1
      cases e1
      exact nomatch (show Data.seq vs.toArray _ = Data.dict es n from e2)
  have low : ∀ {b : Addr} {m : Str → Option Value}, t.heap.Ns b m → (hidT t.heap U).Ns b m := fun {b m} ⟨o, es, n, e1, e2, e3⟩ => ⟨o, es, n, hidT_get e1 (free e1 e2), e2, e3⟩
  have KB : K.In (hidT t.heap U) := fun b o e => hidT_get (KI b o e) (by
    by_cases hu : U b = none
    · exact hu
    · have eb := Ua b hu
      subst eb
      have := UK hu
      rw [e] at this
      cases this)
  have M : Mod K mg (hidT t.heap U) := ⟨KB, low hm, ⟨mb, low hb, hbb⟩, hl.elim fun mc z => ⟨mc, low z.1, z.2⟩⟩
  have env : Env0 P w K mg (hidT t.heap U) callerA [] t U := ⟨rfl, M, fun _ _ e => of_hidT e, Nat.le_of_eq (hidT_size _ _), trivial, fun b z => absurd (show b ∈ ([] : List Addr) from z) List.not_mem_nil, ok, .of_eq hg⟩
  have go := (F _ KB (low hm)).run callerA [] t U ⟨[.ref a], []⟩ [.ref a] [.ref a] (fun v _ => v = .bl true) (fun _ _ _ => False) rfl hr env (bind t (.ref a)) (.cons rfl .nil) q
  refine codeAny_mono go fun r s' z => ?_
  match r, z with
  | .error e, z => exact (hc U e s' z).elim
  | .ok .next, z => exact z.elim
  | .ok .brk, z => exact z.elim
  | .ok .cont, z => exact z.elim
  | .ok (.ret u), z =>
    obtain ⟨v, H2, z1, z2, z3, z4, z5, z6⟩ := z
    have z6' : v = .bl true := z6
    subst z6'
    have z7 : u = Value.bool true := z5
    subst z7
    refine ⟨rfl, OldK.of_keep fun b o e => ?_, z1, z2⟩
    by_cases hu : U b = none
    · exact z3.keep b o e hu (fun m => absurd (show b ∈ ([] : List Addr) from m) List.not_mem_nil) List.not_mem_nil
    · rcases U0 b with n | ⟨ob, xs, n⟩
      · exact absurd n hu
      · have m := z3.frzs b ob _ n
        have k1 := (ok b _ n).1
        have k2 := (z4 b _ m).1
        rw [e] at k1
        rw [← k1] at k2
        exact k2
/-- the goal that k_head leaves -/
theorem walk_ofG {l : PySem.W.OpenLaw} {q : Program} {loose : List Str} {XP : (Str → Option Value) → Heap → Prop} {YP : World → Heap → Prop} {d : DefRec} {KP : Params → PySem.W.Frag} {x : Str}
    (hn : l.most = some 63) (hdf : d.params.defaults = []) (hr : Room k callerA) (hY : ∀ (w : World) (h : Heap), YP w h → (KP w.params).In h)
    (F : ∀ (w : World) (mg : Str → Option Value) (fa : Addr) (h : Heap), (KP w.params).In h → h.Ns mainGlobals mg → mg d.name = some (.ref fa) →
      ∃ fd : FuncData, (∀ (s : Shared) (u : Value), BindsTo s fd ⟨[u], []⟩ [(x, u)]) ∧ ∀ base : Heap, (KP w.params).In base → base.Ns mainGlobals mg → FnG l.prog w (KP w.params) mg base k fa fd [x] (spLaw (KP w.params)))
    (hc : ∀ (w : World) (H : Hp) (s : Shared) (e : Value) (s' : Shared), L2.CX l.prog w [] H s (fun _ _ _ => False) e s' → False) : PySem.W.WalkO q loose XP YP l.row.toRowW d [] (fun f vs => PySem.call f vs) := by
  refine Att.attach_callB hn hdf fun w s0 t mg mb fa o pm cd doc a vs ns G Y _ _ _ hmg hobj hints hlen hbits hg => ?_
  have KI := hY w _ Y
  obtain ⟨fd, bind, hF⟩ := F w mg fa _ KI G.T.g hmg
  have rv := vals_ints hints
  have hz : (ns.map V.int).length ≤ sizeLine := by rw [List.length_map, sizeLine_eq]; omega
  have pre : ∀ H, SqL (KP w.params) H a (ns.map V.int) → spLaw (KP w.params) [.ref a] H (fun v _ => v = .bl true) fun _ _ _ => False := fun H hs => ⟨a, ns, rfl, hs, ⟨hlen, hbits⟩, fun _ => rfl⟩
  by_cases hk : (KP w.params).lookup a = none
  · let o0 : Obj := { cls := .type "list", data := .seq vs.toArray }
    let U : Hp := fun b => if b = a then some (.frz o0 (.lst (ns.map V.int))) else none
    have Ua : U a = some (.frz o0 (.lst (ns.map V.int))) := if_pos rfl
    have Un : ∀ b, b ≠ a → U b = none := fun b h => if_neg h
    refine end_at (U := U) KI G.T.g G.T.b G.T.builtins G.T.nolimit hg hobj hr hF bind (fun b => ?_) (fun b u e => ?_) (fun b h => Classical.byContradiction fun n => h (Un b n)) (fun _ => hk) (pre U (.inl (.inr ⟨o0, Ua⟩))) fun H e s' z => hc w H t e s' z
    · by_cases h : b = a
      · subst h; exact .inr ⟨_, _, Ua⟩
      · exact .inl (Un b h)
    · by_cases h : b = a
      · subst h
        rw [Ua] at e
        cases e
        exact ⟨hobj, hz, vs, _, rv, hobj⟩
      · rw [Un b h] at e
        cases e
  · cases hk2 : (KP w.params).lookup a with
    | none => exact absurd hk2 hk
    | some o1 =>
      have e1 := KI a o1 hk2
      rw [hobj] at e1
      cases e1
      have sl : SqL (KP w.params) (fun _ => none) a (ns.map V.int) := .inr ⟨_, vs.toArray, _, hk2, rfl, rfl, rfl, by rw [List.size_toArray, hints.length, ← List.length_map (f := V.int)]; exact hz, by simpa using rv⟩
      exact end_at (U := fun _ => none) KI G.T.g G.T.b G.T.builtins G.T.nolimit hg hobj hr hF bind (fun _ => .inl rfl) (fun b u e => nomatch e) (fun b h => absurd rfl h) (fun h => absurd rfl h) (pre _ sl) fun H e s' z => hc w H t e s' z
end
end G

/-! Fw20 -/
/-! the rules in short -/
namespace G
open PySem L2
def opLt : D → D → Option D := opI (fun _ _ => true) fun i j => .bl (decide (i < j))
def opLe : D → D → Option D := opI (fun _ _ => true) fun i j => .bl (decide (i ≤ j))
def opGt : D → D → Option D := opI (fun _ _ => true) fun i j => .bl (decide (j < i))
def opGe : D → D → Option D := opI (fun _ _ => true) fun i j => .bl (decide (j ≤ i))
def opFdivA : D → D → Option D := opI (fun _ j => decide (0 < j) && decide (j.natAbs.log2 < 9000)) fun i j => .int (i / j)
section
variable {X : Cx} {S : Sx} {g g1 g2 g3 : Ctx} {m m1 m2 m3 : Md} {a b c e : Expr} {fa fb fc : ME} {fr : MA} {es : List Expr} {ms : List Md} {pos p p1 p2 : Pos} {k : Nat}
theorem se_add [gd : Gd X S] (m3 : Md) (ha : SE X S g g1 m1 a fa) (hb : SE X S g1 g2 m2 b fb) (hm : addOk m1 m2 m3 = true := by rfl) (ht : m3 = .sh m3.lev ∨ ∀ n, m1 ≠ .sh n := by first | exact .inl rfl | exact .inr (fun _ e => nomatch e))
    (hl : m3.lev ≤ S.n := by exact Nat.le_of_ble_eq_true rfl) : SE X S g g2 m3 (.BinOp a .Add b pos) (mBin opAdd fa fb) := se_bin op_addA (ro_add gd.K hm ht) (fun _ _ => hl) ha hb
/-- an owned name on the right, read in its place -/
theorem re_binR {ta : TE} {r : R2} {h : D → D → Option D} {i : Nat} (ha : RE S g g1 m1 ta fa) (hg : g1[i]? = some (some m2)) (hr : RO S m1 m2 m3 r h) : RE S g g1 m3 (tOp r ta (tVar i)) (mBin h fa (mVar i)) := by
  intro w σ H env Q R q
  have q := Out.bind q
  refine ha w σ H env _ R (Out.mono q (Ext.refl _ _) fun d1 e1 q1 v1 w1 H1 x1 R1 V1 => ?_)
  obtain ⟨v2, d2, f2, h1, h2, h3, h4, h5⟩ := R1.slot i _ hg
  refine ⟨v2, h1, ?_⟩
  have q2 := Out.bind q1
  unfold mVar at q2
  rw [h2] at q2
  obtain ⟨f1, k1, _⟩ := V1
  have q3 : Out S w σ H (fun d e => ∀ v w' H', Ext w H w' H' → Rel S g1 w' σ H' e → Val S m3 w' H' v d → Q v H') (match h d1 d2 with
    | some d => G.R.ok d e1
    | none => .no) := q2
  cases e : h d1 d2 with
  | none => rw [e] at q3; exact q3.elim
  | some d3 =>
    rw [e] at q3
    exact hr w1 H1 v1 v2 d1 d2 d3 f1 f2 _ R1.dom k1 h3 e fun v w' H' gr V3 => q3 v w' H' (x1.trans (gr.ext R1.dom)) (R1.grow gr) V3
theorem se_addR [gd : Gd X S] (m3 : Md) (i : Nat) {x : Str} {p2 : Pos} (ha : SE X S g g1 m1 a fa) (hg : g1[i]? = some (some m2) := by rfl) (hm : addOk m1 m2 m3 = true := by rfl) (ht : m3 = .sh m3.lev ∨ ∀ n, m1 ≠ .sh n := by first | exact .inl rfl | exact .inr (fun _ e => nomatch e))
    (hl : m3.lev ≤ S.n := by exact Nat.le_of_ble_eq_true rfl) (hN : X.N[i]? = some x := by rfl) (hv : Vis X.env.scope x := by first | exact Or.inl rfl | exact Or.inr (Or.inl rfl) | exact Or.inr (Or.inr rfl))
    (hd : (x == ("__debug__" : Str)) = false := by decide) (hcd : (x == ("__classdict__" : Str)) = false := by decide) : SE X S g g1 m3 (.BinOp a .Add (.Name x p2) pos) (mBin opAdd fa (mVar i)) :=
  ⟨fun ok => by
    obtain ⟨⟨ta, p1, p2⟩, o1, l1⟩ := ha.run ok
    exact ⟨⟨_, pe_op op_addA p1 (pe_var hN hv hd hcd), re_binR p2 hg (ro_add gd.K hm ht)⟩, o1, hl⟩⟩
theorem se_mul [gd : Gd X S] (m3 : Md) (ha : SE X S g g1 m1 a fa) (hb : SE X S g1 g2 m2 b fb) (hm : m1.flat = some k := by rfl) (h3 : newOk k m3 = true := by rfl) (ht : m3 = .sh m3.lev ∨ ∀ n, m1 ≠ .sh n := by first | exact .inl rfl | exact .inr (fun _ e => nomatch e))
    (hl : m3.lev ≤ S.n := by exact Nat.le_of_ble_eq_true rfl) : SE X S g g2 m3 (.BinOp a .Mult b pos) (mBin opMulA fa fb) := se_bin op_mulA (ro_mul gd.K hm h3 ht) (fun _ _ => hl) ha hb
theorem se_sub (ha : SE X S g g1 m1 a fa) (hb : SE X S g1 g2 m2 b fb) : SE X S g g2 (.sh 0) (.BinOp a .Sub b pos) (mBin opSub fa fb) := se_bin op_sub ro_I0 (fun _ _ => Nat.zero_le _) ha hb
theorem ro_fdivA : RO S m1 m2 m3 (rI CDivW fun i j => .int (i / j)) opFdivA := ro_int fun d1 d2 d3 e => by
  obtain ⟨i, j, rfl, rfl, hc, rfl⟩ := opI_some e
  simp only [Bool.and_eq_true, decide_eq_true_eq] at hc
  exact ⟨i, j, rfl, rfl, hc, rfl⟩
theorem se_fdiv (ha : SE X S g g1 m1 a fa) (hb : SE X S g1 g2 m2 b fb) : SE X S g g2 (.sh 0) (.BinOp a .FloorDiv b pos) (mBin opFdivA fa fb) := se_bin op_fdivW ro_fdivA (fun _ _ => Nat.zero_le _) ha hb
theorem se_mod (ha : SE X S g g1 m1 a fa) (hb : SE X S g1 g2 m2 b fb) : SE X S g g2 (.sh 0) (.BinOp a .Mod b pos) (mBin opMod fa fb) := se_bin op_mod ro_mod (fun _ _ => Nat.zero_le _) ha hb
theorem se_pow (ha : SE X S g g1 m1 a fa) (hb : SE X S g1 g2 m2 b fb) : SE X S g g2 (.sh 0) (.BinOp a .Pow b pos) (mBin opPow fa fb) := se_bin op_pow ro_pow (fun _ _ => Nat.zero_le _) ha hb
theorem se_lt (ha : SE X S g g1 m1 a fa) (hb : SE X S g1 g2 m2 b fb) : SE X S g g2 (.sh 0) (.Compare a [.Lt] [b] pos) (mBin opLt fa fb) := se_cmp op_lt ro_IB (fun _ _ => Nat.zero_le _) ha hb (nomark _)
theorem se_lte (ha : SE X S g g1 m1 a fa) (hb : SE X S g1 g2 m2 b fb) : SE X S g g2 (.sh 0) (.Compare a [.LtE] [b] pos) (mBin opLe fa fb) := se_cmp op_le ro_IB (fun _ _ => Nat.zero_le _) ha hb (nomark _)
theorem se_gt (ha : SE X S g g1 m1 a fa) (hb : SE X S g1 g2 m2 b fb) : SE X S g g2 (.sh 0) (.Compare a [.Gt] [b] pos) (mBin opGt fa fb) := se_cmp op_gt ro_IB (fun _ _ => Nat.zero_le _) ha hb (nomark _)
theorem se_gte (ha : SE X S g g1 m1 a fa) (hb : SE X S g1 g2 m2 b fb) : SE X S g g2 (.sh 0) (.Compare a [.GtE] [b] pos) (mBin opGe fa fb) := se_cmp op_ge ro_IB (fun _ _ => Nat.zero_le _) ha hb (nomark _)
theorem se_eq [gd : Gd X S] (ha : SE X S g g1 m1 a fa) (hb : SE X S g1 g2 m2 b fb) : SE X S g g2 (.sh 0) (.Compare a [.Eq] [b] pos) (mBin opEq fa fb) := se_cmp (op_eqA gd.room) (ro_eq gd.K) (fun _ _ => Nat.zero_le _) ha hb (nomark _)
theorem se_ne [gd : Gd X S] (ha : SE X S g g1 m1 a fa) (hb : SE X S g1 g2 m2 b fb) : SE X S g g2 (.sh 0) (.Compare a [.NotEq] [b] pos) (mBin opNe fa fb) := se_cmp (op_neA gd.room) (ro_ne gd.K) (fun _ _ => Nat.zero_le _) ha hb (nomark _)
theorem r65 (hr : Room k X.A) : X.A.units + 65 < cLine := by have := hr.un; omega
theorem se_in [gd : Gd X S] (hr : Room k X.A) (ha : SE X S g g1 m1 a fa) (hb : SE X S g1 g2 m2 b fb) (hk : behindInMarks .In b = false := by rfl) : SE X S g g2 (.sh 0) (.Compare a [.In] [b] pos) (mBin opIn fa fb) := se_cmp (op_inA (r65 hr)) (ro_in gd.K) (fun _ _ => Nat.zero_le _) ha hb hk
theorem se_nin [gd : Gd X S] (hr : Room k X.A) (ha : SE X S g g1 m1 a fa) (hb : SE X S g1 g2 m2 b fb) (hk : behindInMarks .NotIn b = false := by rfl) : SE X S g g2 (.sh 0) (.Compare a [.NotIn] [b] pos) (mBin opNotIn fa fb) := se_cmp (op_notInA (r65 hr)) (ro_notIn gd.K) (fun _ _ => Nat.zero_le _) ha hb hk
theorem st_lt (ha : SE X S g g1 m1 a fa) (hb : SE X S g1 g2 m2 b fb) : ST X S g g2 (.Compare a [.Lt] [b] pos) (mTest (mBin opLt fa fb)) := st_cmp op_lt (ro_IB (m3 := .sh 0)) ha hb (nomark _)
theorem st_lte (ha : SE X S g g1 m1 a fa) (hb : SE X S g1 g2 m2 b fb) : ST X S g g2 (.Compare a [.LtE] [b] pos) (mTest (mBin opLe fa fb)) := st_cmp op_le (ro_IB (m3 := .sh 0)) ha hb (nomark _)
theorem st_gt (ha : SE X S g g1 m1 a fa) (hb : SE X S g1 g2 m2 b fb) : ST X S g g2 (.Compare a [.Gt] [b] pos) (mTest (mBin opGt fa fb)) := st_cmp op_gt (ro_IB (m3 := .sh 0)) ha hb (nomark _)
theorem st_gte (ha : SE X S g g1 m1 a fa) (hb : SE X S g1 g2 m2 b fb) : ST X S g g2 (.Compare a [.GtE] [b] pos) (mTest (mBin opGe fa fb)) := st_cmp op_ge (ro_IB (m3 := .sh 0)) ha hb (nomark _)
theorem st_eq [gd : Gd X S] (ha : SE X S g g1 m1 a fa) (hb : SE X S g1 g2 m2 b fb) : ST X S g g2 (.Compare a [.Eq] [b] pos) (mTest (mBin opEq fa fb)) := st_cmp (op_eqA gd.room) (ro_eq (m3 := .sh 0) gd.K) ha hb (nomark _)
theorem st_ne [gd : Gd X S] (ha : SE X S g g1 m1 a fa) (hb : SE X S g1 g2 m2 b fb) : ST X S g g2 (.Compare a [.NotEq] [b] pos) (mTest (mBin opNe fa fb)) := st_cmp (op_neA gd.room) (ro_ne (m3 := .sh 0) gd.K) ha hb (nomark _)
theorem st_in [gd : Gd X S] (hr : Room k X.A) (ha : SE X S g g1 m1 a fa) (hb : SE X S g1 g2 m2 b fb) (hk : behindInMarks .In b = false := by rfl) : ST X S g g2 (.Compare a [.In] [b] pos) (mTest (mBin opIn fa fb)) := st_cmp (op_inA (r65 hr)) (ro_in (m3 := .sh 0) gd.K) ha hb hk
theorem st_nin [gd : Gd X S] (hr : Room k X.A) (ha : SE X S g g1 m1 a fa) (hb : SE X S g1 g2 m2 b fb) (hk : behindInMarks .NotIn b = false := by rfl) : ST X S g g2 (.Compare a [.NotIn] [b] pos) (mTest (mBin opNotIn fa fb)) := st_cmp (op_notInA (r65 hr)) (ro_notIn (m3 := .sh 0) gd.K) ha hb hk
theorem ol_lt : OpR X (compareOp .Lt) (rI0 fun i j => .bl (decide (i < j))) ∧ RO S m1 m2 (.sh 0) (rI0 fun i j => .bl (decide (i < j))) opLt := ⟨op_lt, ro_IB⟩
theorem ol_le : OpR X (compareOp .LtE) (rI0 fun i j => .bl (decide (i ≤ j))) ∧ RO S m1 m2 (.sh 0) (rI0 fun i j => .bl (decide (i ≤ j))) opLe := ⟨op_le, ro_IB⟩
theorem ol_gt : OpR X (compareOp .Gt) (rI0 fun i j => .bl (decide (j < i))) ∧ RO S m1 m2 (.sh 0) (rI0 fun i j => .bl (decide (j < i))) opGt := ⟨op_gt, ro_IB⟩
theorem ol_ge : OpR X (compareOp .GtE) (rI0 fun i j => .bl (decide (j ≤ i))) ∧ RO S m1 m2 (.sh 0) (rI0 fun i j => .bl (decide (j ≤ i))) opGe := ⟨op_ge, ro_IB⟩
theorem ol_eq [gd : Gd X S] : OpR X (compareOp .Eq) (rEqA X.K) ∧ RO S m1 m2 (.sh 0) (rEqA X.K) opEq := ⟨op_eqA gd.room, ro_eq gd.K⟩
theorem ol_ne [gd : Gd X S] : OpR X (compareOp .NotEq) (rNeA X.K) ∧ RO S m1 m2 (.sh 0) (rNeA X.K) opNe := ⟨op_neA gd.room, ro_ne gd.K⟩
theorem se_ch {op op' : CmpOp} {r r' : R2} {h h' : D → D → Option D} (o1 : OpR X (compareOp op) r ∧ RO S m1 m2 (.sh 0) r h) (o2 : OpR X (compareOp op') r' ∧ RO S m2 m3 (.sh 0) r' h')
    (ha : SE X S g g1 m1 a fa) (hb : SE X S g1 g2 m2 b fb) (hc : SE X S g2 g2 m3 c fc) (hm : lastMarks [op, op'] [b, c] = false := by with_unfolding_all rfl) : SE X S g g2 (.sh 0) (.Compare a [op, op'] [b, c] pos) (mChain h h' fa fb fc) := se_chain o1.1 o2.1 o1.2 o2.2 ha hb hc hm
theorem st_ch {op op' : CmpOp} {r r' : R2} {h h' : D → D → Option D} (o1 : OpR X (compareOp op) r ∧ RO S m1 m2 (.sh 0) r h) (o2 : OpR X (compareOp op') r' ∧ RO S m2 m3 (.sh 0) r' h')
    (ha : SE X S g g1 m1 a fa) (hb : SE X S g1 g2 m2 b fb) (hc : SE X S g2 g2 m3 c fc) (hm : lastMarks [op, op'] [b, c] = false := by with_unfolding_all rfl) : ST X S g g2 (.Compare a [op, op'] [b, c] pos) (mTest (mChain h h' fa fb fc)) := st_chain o1.1 o2.1 o1.2 o2.2 ha hb hc hm

/-! built-in functions -/
theorem se_len [gd : Gd X S] (hm : X.mg "len" = none) (ha : SE X S g g1 m1 a fa) (hg : Gl X "len" := by rfl) (he : starEach [a] X.env = (false, eval a X.env) :: starEach [] X.env := by rfl) : SE X S g g1 (.sh 0) (.Call (.Name "len" p) [a] [] pos) (mFn hLen (aCons fa aNil)) :=
  se_fnB call_len (rc_len gd.K) hm (by decide +kernel) (Nat.zero_le _) (sa_cons ha sa_nil he) hg (by decide) (by decide) he rfl
theorem se_abs (hm : X.mg "abs" = none) (ha : SE X S g g1 m1 a fa) (hg : Gl X "abs" := by rfl) (he : starEach [a] X.env = (false, eval a X.env) :: starEach [] X.env := by rfl) : SE X S g g1 (.sh 0) (.Call (.Name "abs" p) [a] [] pos) (mFn hAbs (aCons fa aNil)) :=
  se_fnB call_abs rc_abs hm (by decide +kernel) (Nat.zero_le _) (sa_cons ha sa_nil he) hg (by decide) (by decide) he rfl
theorem se_toint (hm : X.mg "int" = none) (ha : SE X S g g1 m1 a fa) (hg : Gl X "int" := by rfl) (he : starEach [a] X.env = (false, eval a X.env) :: starEach [] X.env := by rfl) : SE X S g g1 (.sh 0) (.Call (.Name "int" p) [a] [] pos) (mFn hInt (aCons fa aNil)) :=
  se_fnT call_int1 rc_int hm (by decide +kernel) (Nat.zero_le _) (sa_cons ha sa_nil he) hg (by decide) (by decide) he rfl
theorem se_all [gd : Gd X S] (hm : X.mg "all" = none) (ha : SE X S g g1 m1 a fa) (hg : Gl X "all" := by rfl) (he : starEach [a] X.env = (false, eval a X.env) :: starEach [] X.env := by rfl) : SE X S g g1 (.sh 0) (.Call (.Name "all" p) [a] [] pos) (mFn hAll (aCons fa aNil)) :=
  se_fnB (cr_all gd.calm) (gd.K ▸ rc_all) hm (by decide +kernel) (Nat.zero_le _) (sa_cons ha sa_nil he) hg (by decide) (by decide) he rfl
theorem se_any [gd : Gd X S] (hm : X.mg "any" = none) (ha : SE X S g g1 m1 a fa) (hg : Gl X "any" := by rfl) (he : starEach [a] X.env = (false, eval a X.env) :: starEach [] X.env := by rfl) : SE X S g g1 (.sh 0) (.Call (.Name "any" p) [a] [] pos) (mFn hAny (aCons fa aNil)) :=
  se_fnB (cr_any gd.calm) (gd.K ▸ rc_any) hm (by decide +kernel) (Nat.zero_le _) (sa_cons ha sa_nil he) hg (by decide) (by decide) he rfl
theorem se_tolist [gd : Gd X S] (m3 : Md) (hm : X.mg "list" = none) (ha : SE X S g g1 m1 a fa) (hf : m1.flat = some k := by rfl) (h3 : newOk k m3 = true := by rfl) (hl : m3.lev ≤ S.n := by exact Nat.le_of_ble_eq_true rfl) (hg : Gl X "list" := by rfl) (he : starEach [a] X.env = (false, eval a X.env) :: starEach [] X.env := by rfl) :
    SE X S g g1 m3 (.Call (.Name "list" p) [a] [] pos) (mFn hListOf (aCons fa aNil)) :=
  se_fnT call_list_of (rc_listOf gd.K hf h3) hm (by decide +kernel) hl (sa_cons ha sa_nil he) hg (by decide) (by decide) he rfl
theorem se_totup [gd : Gd X S] (j : Nat) (hm : X.mg "tuple" = none) (ha : SE X S g g1 m1 a fa) (hf : m1.flat = some k := by rfl) (h3 : k ≤ j := by exact Nat.le_of_ble_eq_true rfl) (hl : j ≤ S.n := by exact Nat.le_of_ble_eq_true rfl) (hg : Gl X "tuple" := by rfl) (he : starEach [a] X.env = (false, eval a X.env) :: starEach [] X.env := by rfl) :
    SE X S g g1 (.sh j) (.Call (.Name "tuple" p) [a] [] pos) (mFn hTupOf (aCons fa aNil)) :=
  se_fnT call_tuple_of (rc_tupOf gd.K hf h3) hm (by decide +kernel) hl (sa_cons ha sa_nil he) hg (by decide) (by decide) he rfl
theorem se_repr [gd : Gd X S] (hm : X.mg "repr" = none) (ha : SE X S g g1 m1 a fa) (hg : Gl X "repr" := by rfl) (he : starEach [a] X.env = (false, eval a X.env) :: starEach [] X.env := by rfl) : SE X S g g1 (.sh 0) (.Call (.Name "repr" p) [a] [] pos) (mFn hRepr (aCons fa aNil)) :=
  se_fnB (call_reprD gd.room gd.gs) (rc_repr gd.K) hm (by decide +kernel) (Nat.zero_le _) (sa_cons ha sa_nil he) hg (by decide) (by decide) he rfl
theorem se_sorted [gd : Gd X S] (m3 : Md) (hm : X.mg "sorted" = none) (ha : SE X S g g1 m1 a fa) (hf : m1.flat = some k := by rfl) (h3 : newOk k m3 = true := by rfl) (hl : m3.lev ≤ S.n := by exact Nat.le_of_ble_eq_true rfl) (hg : Gl X "sorted" := by rfl) (he : starEach [a] X.env = (false, eval a X.env) :: starEach [] X.env := by rfl) :
    SE X S g g1 m3 (.Call (.Name "sorted" p) [a] [] pos) (mFn hSorted (aCons fa aNil)) :=
  se_fnB (cr_sortedD gd.room) (rc_sorted gd.K hf h3) hm (by decide +kernel) hl (sa_cons ha sa_nil he) hg (by decide) (by decide) he rfl
theorem se_join [gd : Gd X S] (ho : SE X S g g1 m1 a fa) (hb : SE X S g1 g2 m2 b fb)
    (hbase : attributeBase a "join" X.env (eval a X.env) = eval a X.env := by rfl)
    (hfew : ((backTo pos (starEach [b] X.env)).all (fun x => !x.1) && (backToKw pos (keywordEach [] X.env)).all (fun x => x.1.isSome)
      && decide (([b] : List Expr).length + ([] : List Keyword).length + (if ([] : List Keyword).isEmpty then 0 else 1) < 30)) = true := by rfl)
    (hline : (p.endLine == pos.line) = true := by rfl) (hs : starEach [b] X.env = (false, eval b X.env) :: starEach [] X.env := by rfl) :
    SE X S g g2 (.sh 0) (.Call (.Attribute a "join" p) [b] [] pos) (mSm hJoin fa (aCons fb aNil)) :=
  se_sm PySem.F.slot_str_join (by show builtinType _ = _; rw [builtinType_eq_fast]; kernel_rfl) mt_join (rm_join gd.K) ho (sa_cons hb sa_nil hs) (Nat.zero_le _) hbase hfew hline hs rfl
end

/-! methods of lists -/
theorem ty_append : typeOf (.builtin "list.append") = pure (.type "method_descriptor") := by show builtinType _ = _; rw [builtinType_eq_fast]; kernel_rfl
theorem ty_insert : typeOf (.builtin "list.insert") = pure (.type "method_descriptor") := by show builtinType _ = _; rw [builtinType_eq_fast]; kernel_rfl
theorem ty_extend : typeOf (.builtin "list.extend") = pure (.type "method_descriptor") := by show builtinType _ = _; rw [builtinType_eq_fast]; kernel_rfl
theorem ty_reverse : typeOf (.builtin "list.reverse") = pure (.type "method_descriptor") := by show builtinType _ = _; rw [builtinType_eq_fast]; kernel_rfl
section
variable {X : Cx} {S : Sx} {T : Fx} {g g1 g2 g3 : Ctx} {m m2 : Md} {a b tg : Expr} {fa fb : ME} {pos : Pos} {k n : Nat}
theorem si_anyM [gd : Gd X S] (ha : SE X S g g1 m a fa) (hm : m = .sh k := by rfl) : SI X S g g1 k tg a (iAny fa) := by
  subst hm
  exact si_any ha
theorem ss_retM (g' : Ctx) (ha : SE X S g g1 m a fa) (hm : m = T.rm := by rfl) (hw : wkB S.n g1 T.gr = true := by rfl) (hg : wkB S.n g' g' = true := by rfl) : SS X S T g g' (.Return (some a) pos) (sRet fa) := by
  subst hm
  exact ss_ret g' ha hw hg
theorem sk_consM {ks : List (Option Expr)} {vs : List Expr} {fr : MK} (ha : SE X S g g1 m a fa) (hb : SE X S g1 g2 m2 b fb) (hr : SK X S g2 g3 n pos ks vs fr) (h1 : m = .sh n := by rfl) (h2 : m2 = .sh n := by rfl) : SK X S g g3 n pos (some a :: ks) (b :: vs) (mK1 fa fb fr) := by
  subst h1
  subst h2
  exact sk_cons ha hb hr
end
theorem se_globS {X : Cx} {S : Sx} {g : Ctx} {x z : Str} {pos : Pos} {t : Tok} (hm : X.mg x = some (.str z t)) (hg : Gl X x := by rfl) (hd : (x == ("__debug__" : Str)) = false := by decide) : SE X S g g (.sh 0) (.Name x pos) (mC (.str z)) :=
  se_glob (v := .str z) (.str z) hm ⟨t, rfl⟩ rfl hg hd
theorem se_globI {X : Cx} {S : Sx} {g : Ctx} {x : Str} {z : Int} {pos : Pos} {t : Tok} (hm : X.mg x = some (.int z t)) (hg : Gl X x := by rfl) (hd : (x == ("__debug__" : Str)) = false := by decide) : SE X S g g (.sh 0) (.Name x pos) (mC (.int z)) :=
  se_glob (v := .int z) (.int z) hm ⟨t, rfl⟩ rfl hg hd
theorem mr_append {X : Cx} : MtR X "list.append" rAppend := fun pins s σ H x xs v us Q I r1 r2 h => mt_append pins s σ H x xs v us Q I r1 r2 h
theorem mr_extend {X : Cx} : MtR X "list.extend" rExtend := fun pins s σ H x xs v us Q I r1 r2 h => mt_extend pins s σ H x xs v us Q I r1 r2 h
theorem mr_reverse {X : Cx} : MtR X "list.reverse" rReverse := fun pins s σ H x xs v us Q I r1 r2 h => mt_reverse pins s σ H x xs v us Q I r1 r2 h
theorem mr_insert {X : Cx} : MtR X "list.insert" (fun x vs H Q => ∃ (l : Addr) (xs : List V) (i : Int) (y : V), x = .ref l ∧ vs = [.int i, y] ∧ H l = some (.lst xs) ∧ xs.length < sizeLine ∧ 0 ≤ i ∧ i < 2 ^ 63 ∧ Q .non (upd H l (.lst (xs.take i.toNat ++ [y] ++ xs.drop i.toNat)))) := mt_insert
end G

/-! K11w -/
/-! printed by gen.py -/
namespace K11
open PySem L2 G
def top (i : Nat) : Stmt := PySem.Challenge.pw_factflows_k11_kinds.main.body.getD i (.Pass ⟨0, 0, 0, 0⟩)
abbrev cl0 : Str → Option Addr := fun _ => none
/-- what the module has: constants, names that are not there -/
structure Tx (mg : Str → Option Value) : Prop where
  b_abs : mg "abs" = none
  b_all : mg "all" = none
  b_bool : mg "bool" = none
  b_int : mg "int" = none
  b_isinstance : mg "isinstance" = none
  b_len : mg "len" = none
  b_list : mg "list" = none
  b_range : mg "range" = none
  b_repr : mg "repr" = none
  b_sorted : mg "sorted" = none
  b_str : mg "str" = none
  b_tuple : mg "tuple" = none
  c_LETTERS : ∃ t, mg "LETTERS" = some (.str "abcdefghijklmnopqrstuvwxyz" t)
  c_MOST_LETTERS : ∃ t, mg "MOST_LETTERS" = some (.int 8 t)
section
variable {P : Program} {w : World} {K : PySem.W.Frag} {mg : Str → Option Value} {base : Heap} {f : Addr} {fd : FuncData}
/-! is_integer -/
abbrev s_p_is_integer : Stmt := top 3
def fb_p_is_integer : MS := (sRet (mAnd (mIsa "int" (mVar 0)) (mNot (mIsa "bool" (mVar 0)))))
def pf_p_is_integer : PF := runF 1 0 fb_p_is_integer
def sh_p_is_integer : Sh := ⟨[.sh 0], .sh 0, [], []⟩
theorem sc_p_is_integer : FnScope ["thing"] ["thing"] (defScope s_p_is_integer) := ⟨rfl, rfl, rfl, by decide +kernel, rfl, by decide +kernel, by decide +kernel⟩
theorem ok_p_is_integer (T : Tx mg) (F : Fun K "is_integer" "is_integer" s_p_is_integer f fd) : FnG P w K mg base 1 f fd ["thing"] (spP K cl0 sh_p_is_integer pf_p_is_integer) := by
  exact fnG_ok (k := 0) (N := ["thing"]) (cl := cl0) (fb := fb_p_is_integer) (g' := [some (.sh 0)]) sh_p_is_integer 0 F sc_p_is_integer rfl rfl (fun cdv A outer s H E _ hr =>
    (sss_one (ss_retM [some (.sh 0)] (se_and (se_isa T.b_isinstance T.b_int (by decide +kernel) (se_var 0)) (se_one (se_not (se_isa T.b_isinstance T.b_bool (by decide +kernel) (se_var 0)))))))) rfl
/-! is_name -/
abbrev s_p_is_name : Stmt := top 4
def fb_p_is_name : MS := (sSeq (sIf (tOrP (tNotP (mTest (mIsa "str" (mVar 0)))) (tNotP (mTest (mChain opLe opLe (mC (.int 1)) (mFn hLen (aCons (mVar 0) aNil)) (mC (.int 8))))))
      (sRet (mC (.bl false)))
      sNx)
    (sRet (mFn hAll (aCons (mLc (iAny (mVar 0)) (bName 1) tAll (mBin opIn (mVar 1) (mC (.str "abcdefghijklmnopqrstuvwxyz"))) [1]) aNil))))
def pf_p_is_name : PF := runF 2 0 fb_p_is_name
def sh_p_is_name : Sh := ⟨[.sh 0], .sh 0, [], []⟩
theorem sc_p_is_name : FnScope ["thing", "sign"] ["thing"] (defScope s_p_is_name) := ⟨rfl, rfl, rfl, by decide +kernel, rfl, by decide +kernel, by decide +kernel⟩
theorem ok_p_is_name (T : Tx mg) (F : Fun K "is_name" "is_name" s_p_is_name f fd) : FnG P w K mg base 1 f fd ["thing"] (spP K cl0 sh_p_is_name pf_p_is_name) := by
  obtain ⟨_, c_LETTERS⟩ := T.c_LETTERS
  obtain ⟨_, c_MOST_LETTERS⟩ := T.c_MOST_LETTERS
  exact fnG_ok (k := 0) (N := ["thing", "sign"]) (cl := cl0) (fb := fb_p_is_name) (g' := [some (.sh 0), none]) sh_p_is_name 0 F sc_p_is_name rfl rfl (fun cdv A outer s H E _ hr =>
    (sss_cons (ss_if (st_w (sw_or (st_not (st_val (se_isa T.b_isinstance T.b_str (by decide +kernel) (se_var 0)))) (sw_or1 (st_not (st_ch ol_le ol_le se_int (se_len T.b_len (se_var 0)) (se_globI c_MOST_LETTERS))))))
      (sss_one (ss_retM [some (.sh 0), none] se_bl))
      sss_nil)
    (sss_one (ss_retM [some (.sh 0), none] (se_all T.b_all (se_fz (n := 0) (se_lc (own := [("sign", 1)]) (si_anyM (se_var 0)) (by rfl) (fun _ _ _ _ _ => sg_name 1) (fun _ _ _ _ _ => sts_nil) (fun _ _ _ _ _ => (se_in hr (se_var 1) (se_globS c_LETTERS)))))))))) rfl
/-! is_word -/
abbrev s_p_is_word : Stmt := top 5
def fb_p_is_word : MS := (sRet (mAnd (mIsa "tuple" (mVar 0)) (mFn hAll (aCons (mLc (iAny (mVar 0)) (bName 1) tAll (mCall pf_p_is_name [none] (aCons (mVar 1) aNil)) [1]) aNil))))
def pf_p_is_word : PF := runF 2 0 fb_p_is_word
def sh_p_is_word : Sh := ⟨[.sh 0], .sh 0, [], []⟩
theorem sc_p_is_word : FnScope ["thing", "part"] ["thing"] (defScope s_p_is_word) := ⟨rfl, rfl, rfl, by decide +kernel, rfl, by decide +kernel, by decide +kernel⟩
theorem ok_p_is_word (T : Tx mg) (D_p_is_name : Df P w K mg base cl0 "is_name" 1 sh_p_is_name pf_p_is_name) (F : Fun K "is_word" "is_word" s_p_is_word f fd) : FnG P w K mg base 2 f fd ["thing"] (spP K cl0 sh_p_is_word pf_p_is_word) := by
  exact fnG_ok (k := 1) (N := ["thing", "part"]) (cl := cl0) (fb := fb_p_is_word) (g' := [some (.sh 0), none]) sh_p_is_word 0 F sc_p_is_word rfl rfl (fun cdv A outer s H E _ hr =>
    (sss_one (ss_retM [some (.sh 0), none] (se_and (se_isa T.b_isinstance T.b_tuple (by decide +kernel) (se_var 0)) (se_one (se_all T.b_all (se_fz (n := 0) (se_lc (own := [("part", 1)]) (si_anyM (se_var 0)) (by rfl) (fun _ _ _ _ _ => sg_name 1) (fun _ _ _ _ _ => sts_nil) (fun _ _ _ _ _ => (se_call D_p_is_name (hr.mono (by decide)) (sb_val (se_var 1) sb_nil))))))))))) rfl
/-! is_number -/
abbrev s_p_is_number : Stmt := top 6
def fb_p_is_number : MS := (sRet (mAnd (mCall pf_p_is_integer [none] (aCons (mVar 1) aNil)) (mChain opLe opLt (mC (.int 0)) (mVar 1) (mVar 0))))
def pf_p_is_number : PF := runF 2 0 fb_p_is_number
def sh_p_is_number : Sh := ⟨[.sh 0, .sh 0], .sh 0, [], []⟩
theorem sc_p_is_number : FnScope ["many", "thing"] ["many", "thing"] (defScope s_p_is_number) := ⟨rfl, rfl, rfl, by decide +kernel, rfl, by decide +kernel, by decide +kernel⟩
theorem ok_p_is_number (T : Tx mg) (D_p_is_integer : Df P w K mg base cl0 "is_integer" 1 sh_p_is_integer pf_p_is_integer) (F : Fun K "is_number" "is_number" s_p_is_number f fd) : FnG P w K mg base 2 f fd ["many", "thing"] (spP K cl0 sh_p_is_number pf_p_is_number) := by
  exact fnG_ok (k := 1) (N := ["many", "thing"]) (cl := cl0) (fb := fb_p_is_number) (g' := [some (.sh 0), some (.sh 0)]) sh_p_is_number 0 F sc_p_is_number rfl rfl (fun cdv A outer s H E _ hr =>
    (sss_one (ss_retM [some (.sh 0), some (.sh 0)] (se_and (se_call D_p_is_integer (hr.mono (by decide)) (sb_val (se_var 1) sb_nil)) (se_one (se_ch ol_le ol_lt se_int (se_var 1) (se_var 0))))))) rfl
/-! _law_take -/
abbrev s_L_take : Stmt := top 9
def fb_L_take : MS := (sSeq (sIf (mTest (mBin opEq (mIxs 0 (mC (.int 0))) (mC (.int 0))))
      (sSeq (sSet 2 (mC (.int 0)))
    (sSeq (sIf (mTest (mBin opLt (mIxs 0 (mC (.int 2))) (mFn hLen (aCons (mIxs 0 (mC (.int 3))) aNil))))
      (sSet 2 (mBin opIx (mIxs 0 (mC (.int 3))) (mIxs 0 (mC (.int 2)))))
      sNx)
    (sSeq (sAugIx 0 (fun i j => i + j) (mC (.int 2)) (mC (.int 1)))
    (sSeq (sIf (mTest (mBin opGe (mVar 2) (mC (.int 1000000000000000000))))
      (sStix 0 (mVar 2) (mC (.int 0)))
      sNx)
    (sSeq (sSet 3 (mBin opAdd (mBin opAdd (mBin opMulA (mIxs 0 (mC (.int 1))) (mC (.int 48271))) (mBin opMod (mFn hInt (aCons (mVar 2) aNil)) (mC (.int 2147483647)))) (mBin opMulA (mC (.int 7919)) (mIxs 0 (mC (.int 2))))))
    (sStix 0 (mBin opMod (mFn hInt (aCons (mVar 3) aNil)) (mC (.int 2147483647))) (mC (.int 1))))))))
      sNx)
    (sSeq (sIf (mTest (mBin opGt (mIxs 0 (mC (.int 0))) (mC (.int 0))))
      (sSeq (sSet 4 (mBin opMod (mFn hInt (aCons (mIxs 0 (mC (.int 0))) aNil)) (mVar 1)))
    (sSeq (sStix 0 (mBin opFdivA (mFn hInt (aCons (mIxs 0 (mC (.int 0))) aNil)) (mVar 1)) (mC (.int 0)))
    (sRet (mVar 4))))
      sNx)
    (sSeq (sSet 5 (mBin opMod (mFn hInt (aCons (mBin opMulA (mBin opAdd (mIxs 0 (mC (.int 1))) (mC (.int 1))) (mC (.int 39373))) aNil)) (mC (.int 1000000007))))
    (sSeq (sSet 6 (mBin opMod (mFn hInt (aCons (mBin opMulA (mBin opMod (mFn hInt (aCons (mBin opMulA (mVar 5) (mVar 5)) aNil)) (mC (.int 998244353))) (mC (.int 30011))) aNil)) (mC (.int 998244353))))
    (sSeq (sIf (mTest (mBin opGt (mVar 1) (mC (.int 1000000))))
      (sRet (mBin opMod (mFn hInt (aCons (mBin opAdd (mBin opMulA (mVar 6) (mC (.int 1000000007))) (mVar 5)) aNil)) (mVar 1)))
      sNx)
    (sRet (mBin opMod (mFn hInt (aCons (mBin opFdivA (mVar 6) (mC (.int 7))) aNil)) (mVar 1))))))))
def pf_L_take : PF := runF 7 1 fb_L_take
def sh_L_take : Sh := ⟨[.own (.sh 0), .sh 0], .sh 0, [some (.own (.sh 0))], []⟩
theorem sc_L_take : FnScope ["_law_bag_here", "_law_many", "_law_cell", "_law_mixed_here", "_law_drawn", "_law_early", "_law_second"] ["_law_bag_here", "_law_many"] (defScope s_L_take) := ⟨rfl, rfl, rfl, by decide +kernel, rfl, by decide +kernel, by decide +kernel⟩
theorem ok_L_take (T : Tx mg) (F : Fun K "_law_take" "_law_take" s_L_take f fd) : FnG P w K mg base 1 f fd ["_law_bag_here", "_law_many"] (spP K cl0 sh_L_take pf_L_take) := by
  exact fnG_ok (k := 0) (N := ["_law_bag_here", "_law_many", "_law_cell", "_law_mixed_here", "_law_drawn", "_law_early", "_law_second"]) (cl := cl0) (fb := fb_L_take) (g' := [some (.own (.sh 0)), some (.sh 0), none, none, none, some (.sh 0), some (.sh 0)]) sh_L_take 1 F sc_L_take rfl rfl (fun cdv A outer s H E _ hr =>
    (sss_cons (ss_if (st_eq (se_ixs 0 se_int) se_int)
      (sss_wk [some (.own (.sh 0)), some (.sh 0), none, none, none, none, none] (sss_cons (ss_set 2 se_int)
    (sss_cons (ss_if (st_lt (se_ixs 0 se_int) (se_len T.b_len (se_ixs 0 se_int)))
      (sss_one (ss_set 2 (se_ix (se_ixs 0 se_int) (se_ixs 0 se_int))))
      sss_nil)
    (sss_cons (ss_augIx 0 iop_add se_int se_int)
    (sss_cons (ss_if (st_gte (se_var 2) se_int)
      (sss_one (ss_stix 0 (se_var 2) se_int))
      sss_nil)
    (sss_cons (ss_set 3 (se_add (.sh 0) (se_add (.sh 0) (se_mul (.sh 0) (se_ixs 0 se_int) se_int) (se_mod (se_toint T.b_int (se_var 2)) se_int)) (se_mul (.sh 0) se_int (se_ixs 0 se_int))))
    (sss_one (ss_stix 0 (se_mod (se_toint T.b_int (se_var 3)) se_int) se_int))))))))
      sss_nil)
    (sss_cons (ss_if (st_gt (se_ixs 0 se_int) se_int)
      (sss_cons (ss_set 4 (se_mod (se_toint T.b_int (se_ixs 0 se_int)) (se_var 1)))
    (sss_cons (ss_stix 0 (se_fdiv (se_toint T.b_int (se_ixs 0 se_int)) (se_var 1)) se_int)
    (sss_one (ss_retM [some (.own (.sh 0)), some (.sh 0), none, none, none, none, none] (se_var 4)))))
      sss_nil)
    (sss_cons (ss_set 5 (se_mod (se_toint T.b_int (se_mul (.sh 0) (se_add (.sh 0) (se_ixs 0 se_int) se_int) se_int)) se_int))
    (sss_cons (ss_set 6 (se_mod (se_toint T.b_int (se_mul (.sh 0) (se_mod (se_toint T.b_int (se_mul (.sh 0) (se_var 5) (se_var 5))) se_int) se_int)) se_int))
    (sss_cons (ss_if (st_gt (se_var 1) se_int)
      (sss_one (ss_retM [some (.own (.sh 0)), some (.sh 0), none, none, none, some (.sh 0), some (.sh 0)] (se_mod (se_toint T.b_int (se_add (.sh 0) (se_mul (.sh 0) (se_var 6) se_int) (se_var 5))) (se_var 1))))
      sss_nil)
    (sss_one (ss_retM [some (.own (.sh 0)), some (.sh 0), none, none, none, some (.sh 0), some (.sh 0)] (se_mod (se_toint T.b_int (se_fdiv (se_var 6) se_int)) (se_var 1)))))))))) rfl
/-! _law_alike -/
abbrev s_L_alike : Stmt := top 10
def fb_L_alike : MS := (sRet (mAnd (mBin opEq (mVar 0) (mVar 1)) (mBin opEq (mFn hRepr (aCons (mVar 0) aNil)) (mFn hRepr (aCons (mVar 1) aNil)))))
def pf_L_alike : PF := runF 2 0 fb_L_alike
def sh_L_alike : Sh := ⟨[.sh 0, .sh 0], .sh 0, [], []⟩
theorem sc_L_alike : FnScope ["_law_found", "_law_due"] ["_law_found", "_law_due"] (defScope s_L_alike) := ⟨rfl, rfl, rfl, by decide +kernel, rfl, by decide +kernel, by decide +kernel⟩
theorem ok_L_alike (T : Tx mg) (F : Fun K "_law_alike" "_law_alike" s_L_alike f fd) : FnG P w K mg base 1 f fd ["_law_found", "_law_due"] (spP K cl0 sh_L_alike pf_L_alike) := by
  exact fnG_ok (k := 0) (N := ["_law_found", "_law_due"]) (cl := cl0) (fb := fb_L_alike) (g' := [some (.sh 0), some (.sh 0)]) sh_L_alike 0 F sc_L_alike rfl rfl (fun cdv A outer s H E _ hr =>
    (sss_one (ss_retM [some (.sh 0), some (.sh 0)] (se_and (se_eq (se_var 0) (se_var 1)) (se_one (se_eq (se_repr T.b_repr (se_var 0)) (se_repr T.b_repr (se_var 1)))))))) rfl
/-! _law_mixed -/
abbrev s_L_mixed : Stmt := top 11
def fb_L_mixed : MS := (sSeq (sSet 2 (mLst aNil))
    (sSeq (sFor (iAny (mVar 1)) (bName 3)
      (sDrop (mSlm 2 hInsert (aCons (mCall pf_L_take [some 0, none] (bLent (aCons (mBin opAdd (mLock 2 (mFn hLen (aCons (mVar 2) aNil))) (mC (.int 1))) aNil))) (aCons (mVar 3) aNil)))))
    (sRet (mVar 2))))
def pf_L_mixed : PF := runF 4 1 fb_L_mixed
def sh_L_mixed : Sh := ⟨[.own (.sh 0), .sh 0], .sh 0, [some (.own (.sh 0))], []⟩
theorem sc_L_mixed : FnScope ["_law_bag_here", "_law_things_here", "_law_found", "_law_thing"] ["_law_bag_here", "_law_things_here"] (defScope s_L_mixed) := ⟨rfl, rfl, rfl, by decide +kernel, rfl, by decide +kernel, by decide +kernel⟩
theorem ok_L_mixed (T : Tx mg) (D_L_take : Df P w K mg base cl0 "_law_take" 1 sh_L_take pf_L_take) (F : Fun K "_law_mixed" "_law_mixed" s_L_mixed f fd) : FnG P w K mg base 2 f fd ["_law_bag_here", "_law_things_here"] (spP K cl0 sh_L_mixed pf_L_mixed) := by
  exact fnG_ok (k := 1) (N := ["_law_bag_here", "_law_things_here", "_law_found", "_law_thing"]) (cl := cl0) (fb := fb_L_mixed) (g' := [some (.own (.sh 0)), some (.sh 0), none, none]) sh_L_mixed 1 F sc_L_mixed rfl rfl (fun cdv A outer s H E _ hr =>
    (sss_cons (ss_set 2 (se_lst (.sh 0) sa_nil))
    (sss_cons (ss_for (si_anyM (se_var 1)) (sg_name 3)
      (sss_wk [some (.own (.sh 0)), some (.sh 0), some (.own (.sh 0)), none] (sss_one (ss_drop (se_slm 2 PySem.F.slot_list_insert ty_insert mr_insert (rm_insert rfl) (sa_cons (se_call D_L_take (hr.mono (by decide)) (sb_lent 0 (sb_val (se_add (.sh 0) (se_lock 2 (se_len T.b_len (se_var 2))) se_int) sb_nil))) (sa_cons (se_var 3) sa_nil)))))))
    (sss_one (ss_retM [some (.own (.sh 0)), some (.sh 0), none, none] (se_fz (n := 0) (se_mv 2))))))) rfl
/-! _law_names -/
abbrev s_L_names : Stmt := top 12
def fb_L_names : MS := (sSeq (sSet 2 (mLst (aCons (mLst (aCons (mC (.str "a")) (aCons (mC (.str "b")) (aCons (mC (.str "c")) (aCons (mC (.str "d")) (aCons (mC (.str "e")) (aCons (mC (.str "f")) aNil))))))) (aCons (mLst (aCons (mC (.str "begin")) (aCons (mC (.str "do")) (aCons (mC (.str "edge")) (aCons (mC (.str "join")) (aCons (mC (.str "map")) (aCons (mC (.str "places")) aNil))))))) aNil))))
    (sSeq (sDrop (mSlm 2 hAppend (aCons (mLst (aCons (mC (.str "x")) (aCons (mC (.str "xa")) (aCons (mC (.str "xaa")) (aCons (mC (.str "xab")) (aCons (mC (.str "xb")) (aCons (mC (.str "zzzzzzzz")) aNil))))))) aNil)))
    (sSeq (sSet 3 (mIxs 2 (mBin opIx (mLst (aCons (mC (.int 0)) (aCons (mC (.int 0)) (aCons (mC (.int 1)) (aCons (mC (.int 2)) aNil))))) (mCall pf_L_take [some 0, none] (bLent (aCons (mC (.int 4)) aNil))))))
    (sRet (mFn hSorted (aCons (mSlc hSl (mCall pf_L_mixed [some 0, none] (bLent (aCons (mVar 3) aNil))) mP0 (mP1 (mVar 1))) aNil))))))
def pf_L_names : PF := runF 4 1 fb_L_names
def sh_L_names : Sh := ⟨[.own (.sh 0), .sh 0], .sh 0, [some (.own (.sh 0))], []⟩
theorem sc_L_names : FnScope ["_law_bag_here", "_law_many", "_law_words", "_law_some"] ["_law_bag_here", "_law_many"] (defScope s_L_names) := ⟨rfl, rfl, rfl, by decide +kernel, rfl, by decide +kernel, by decide +kernel⟩
theorem ok_L_names (T : Tx mg) (D_L_mixed : Df P w K mg base cl0 "_law_mixed" 2 sh_L_mixed pf_L_mixed) (D_L_take : Df P w K mg base cl0 "_law_take" 1 sh_L_take pf_L_take) (F : Fun K "_law_names" "_law_names" s_L_names f fd) : FnG P w K mg base 3 f fd ["_law_bag_here", "_law_many"] (spP K cl0 sh_L_names pf_L_names) := by
  exact fnG_ok (k := 2) (N := ["_law_bag_here", "_law_many", "_law_words", "_law_some"]) (cl := cl0) (fb := fb_L_names) (g' := [some (.own (.sh 0)), some (.sh 0), some (.own (.sh 0)), some (.sh 0)]) sh_L_names 1 F sc_L_names rfl rfl (fun cdv A outer s H E _ hr =>
    (sss_cons (ss_set 2 (se_lst (.sh 0) (sa_cons (se_fz (n := 0) (se_lst (.sh 0) (sa_cons se_str (sa_cons se_str (sa_cons se_str (sa_cons se_str (sa_cons se_str (sa_cons se_str sa_nil)))))))) (sa_cons (se_fz (n := 0) (se_lst (.sh 0) (sa_cons se_str (sa_cons se_str (sa_cons se_str (sa_cons se_str (sa_cons se_str (sa_cons se_str sa_nil)))))))) sa_nil))))
    (sss_cons (ss_drop (se_slm 2 PySem.F.slot_list_append ty_append mr_append (rm_append rfl) (sa_cons (se_fz (n := 0) (se_lst (.sh 0) (sa_cons se_str (sa_cons se_str (sa_cons se_str (sa_cons se_str (sa_cons se_str (sa_cons se_str sa_nil)))))))) sa_nil)))
    (sss_cons (ss_set 3 (se_ixs 2 (se_ix (se_fz (n := 0) (se_lst (.sh 0) (sa_cons se_int (sa_cons se_int (sa_cons se_int (sa_cons se_int sa_nil)))))) (se_call D_L_take (hr.mono (by decide)) (sb_lent 0 (sb_val se_int sb_nil))))))
    (sss_one (ss_retM [some (.own (.sh 0)), some (.sh 0), some (.own (.sh 0)), some (.sh 0)] (se_sorted (.sh 0) T.b_sorted (se_slice (.sh 0) (se_call D_L_mixed (hr.mono (by decide)) (sb_lent 0 (sb_val (se_var 3) sb_nil))) sp_none (sp_some (se_var 1)))))))))) rfl
/-! _law_odd -/
abbrev s_L_odd : Stmt := top 13
def fb_L_odd : MS := (sSeq (sSet 1 (mLst aNil))
    (sSeq (sFor (iRange1 (aCons (mC (.int 5)) aNil)) (bName 2)
      (sSet 1 (mLst (aCons (mVar 1) aNil))))
    (sSeq (sSet 3 (mLst (aCons (mC .non) (aCons (mC (.bl true)) (aCons (mC (.bl false)) (aCons (mC (.int 0)) (aCons (mC (.int 1)) (aCons (mUn hNeg (mC (.int 1))) (aCons (mBin opPow (mC (.int 10)) (mC (.int 39))) (aCons (mC (.str "")) (aCons (mC (.str "0")) (aCons (mTup aNil) (aCons (mLst aNil) (aCons (mC (.dic [])) (aCons (mLst (aCons (mC (.int 0)) aNil)) (aCons (mTup (aCons (mC (.int 0)) aNil)) (aCons (mTup (aCons (mC (.bl true)) aNil)) (aCons (mTup (aCons (mC (.int 0)) (aCons (mC (.int 0)) aNil))) aNil))))))))))))))))))
    (sRet (mBin opIx (mBin opAdd (mVar 3) (mLst (aCons (mVar 1) (aCons (mDic (mK1 (mC (.int 0)) (mC (.int 0)) mK0)) aNil)))) (mCall pf_L_take [some 0, none] (bLent (aCons (mC (.int 18)) aNil))))))))
def pf_L_odd : PF := runF 4 1 fb_L_odd
def sh_L_odd : Sh := ⟨[.own (.sh 0)], .sh 0, [some (.own (.sh 0))], []⟩
theorem sc_L_odd : FnScope ["_law_bag_here", "_law_deep", "_law_k", "_law_some"] ["_law_bag_here"] (defScope s_L_odd) := ⟨rfl, rfl, rfl, by decide +kernel, rfl, by decide +kernel, by decide +kernel⟩
theorem ok_L_odd (T : Tx mg) (D_L_take : Df P w K mg base cl0 "_law_take" 1 sh_L_take pf_L_take) (F : Fun K "_law_odd" "_law_odd" s_L_odd f fd) : FnG P w K mg base 2 f fd ["_law_bag_here"] (spP K cl0 sh_L_odd pf_L_odd) := by
  exact fnG_ok (k := 1) (N := ["_law_bag_here", "_law_deep", "_law_k", "_law_some"]) (cl := cl0) (fb := fb_L_odd) (g' := [some (.own (.sh 0)), some (.sh 0), none, some (.sh 0)]) sh_L_odd 1 F sc_L_odd rfl rfl (fun cdv A outer s H E _ hr =>
    (sss_cons (ss_set 1 (se_fz (n := 0) (se_lst (.sh 0) sa_nil)))
    (sss_cons (ss_for (si_range1 T.b_range (sa_cons se_int sa_nil)) (sg_name 2)
      (sss_wk [some (.own (.sh 0)), some (.sh 0), none, none] (sss_one (ss_set 1 (se_fz (n := 0) (se_lst (.sh 0) (sa_cons (se_var 1) sa_nil)))))))
    (sss_cons (ss_set 3 (se_fz (n := 0) (se_lst (.sh 0) (sa_cons se_non (sa_cons se_bl (sa_cons se_bl (sa_cons se_int (sa_cons se_int (sa_cons (se_neg se_int) (sa_cons (se_pow se_int se_int) (sa_cons se_str (sa_cons se_str (sa_cons (se_tup 0 sa_nil) (sa_cons (se_fz (n := 0) (se_lst (.sh 0) sa_nil)) (sa_cons se_dic0 (sa_cons (se_fz (n := 0) (se_lst (.sh 0) (sa_cons se_int sa_nil))) (sa_cons (se_tup 0 (sa_cons se_int sa_nil)) (sa_cons (se_tup 0 (sa_cons se_bl sa_nil)) (sa_cons (se_tup 0 (sa_cons se_int (sa_cons se_int sa_nil))) sa_nil)))))))))))))))))))
    (sss_one (ss_retM [some (.own (.sh 0)), some (.sh 0), none, some (.sh 0)] (se_ix (se_add (.sh 0) (se_var 3) (se_fz (n := 0) (se_lst (.sh 0) (sa_cons (se_var 1) (sa_cons (se_dic 0 (sk_consM se_int se_int sk_nil)) sa_nil))))) (se_call D_L_take (hr.mono (by decide)) (sb_lent 0 (sb_val se_int sb_nil)))))))))) rfl
/-! _law_is_plain -/
abbrev s_L_is_plain : Stmt := top 14
def fb_L_is_plain : MS := (sRet (mAnd (mIsa "int" (mVar 0)) (mNot (mIsa "bool" (mVar 0)))))
def pf_L_is_plain : PF := runF 1 0 fb_L_is_plain
def sh_L_is_plain : Sh := ⟨[.sh 0], .sh 0, [], []⟩
theorem sc_L_is_plain : FnScope ["_law_thing"] ["_law_thing"] (defScope s_L_is_plain) := ⟨rfl, rfl, rfl, by decide +kernel, rfl, by decide +kernel, by decide +kernel⟩
theorem ok_L_is_plain (T : Tx mg) (F : Fun K "_law_is_plain" "_law_is_plain" s_L_is_plain f fd) : FnG P w K mg base 1 f fd ["_law_thing"] (spP K cl0 sh_L_is_plain pf_L_is_plain) := by
  exact fnG_ok (k := 0) (N := ["_law_thing"]) (cl := cl0) (fb := fb_L_is_plain) (g' := [some (.sh 0)]) sh_L_is_plain 0 F sc_L_is_plain rfl rfl (fun cdv A outer s H E _ hr =>
    (sss_one (ss_retM [some (.sh 0)] (se_and (se_isa T.b_isinstance T.b_int (by decide +kernel) (se_var 0)) (se_one (se_not (se_isa T.b_isinstance T.b_bool (by decide +kernel) (se_var 0)))))))) rfl
/-! _law_is_name -/
abbrev s_L_is_name : Stmt := top 15
def fb_L_is_name : MS := (sSeq (sIf (tOrP (tNotP (mTest (mIsa "str" (mVar 0)))) (tNotP (mTest (mChain opLe opLe (mC (.int 1)) (mFn hLen (aCons (mVar 0) aNil)) (mC (.int 8))))))
      (sRet (mC (.bl false)))
      sNx)
    (sRet (mBin opEq (mLc (iAny (mVar 0)) (bName 1) (mTest (mBin opNotIn (mVar 1) (mC (.str "abcdefghijklmnopqrstuvwxyz")))) (mVar 1) [1]) (mLst aNil))))
def pf_L_is_name : PF := runF 2 0 fb_L_is_name
def sh_L_is_name : Sh := ⟨[.sh 0], .sh 0, [], []⟩
theorem sc_L_is_name : FnScope ["_law_thing", "_law_sign"] ["_law_thing"] (defScope s_L_is_name) := ⟨rfl, rfl, rfl, by decide +kernel, rfl, by decide +kernel, by decide +kernel⟩
theorem ok_L_is_name (T : Tx mg) (F : Fun K "_law_is_name" "_law_is_name" s_L_is_name f fd) : FnG P w K mg base 1 f fd ["_law_thing"] (spP K cl0 sh_L_is_name pf_L_is_name) := by
  exact fnG_ok (k := 0) (N := ["_law_thing", "_law_sign"]) (cl := cl0) (fb := fb_L_is_name) (g' := [some (.sh 0), none]) sh_L_is_name 0 F sc_L_is_name rfl rfl (fun cdv A outer s H E _ hr =>
    (sss_cons (ss_if (st_w (sw_or (st_not (st_val (se_isa T.b_isinstance T.b_str (by decide +kernel) (se_var 0)))) (sw_or1 (st_not (st_ch ol_le ol_le se_int (se_len T.b_len (se_var 0)) se_int)))))
      (sss_one (ss_retM [some (.sh 0), none] se_bl))
      sss_nil)
    (sss_one (ss_retM [some (.sh 0), none] (se_eq (se_fz (n := 0) (se_lc (own := [("_law_sign", 1)]) (si_anyM (se_var 0)) (by rfl) (fun _ _ _ _ _ => sg_name 1) (fun _ _ _ _ _ => (sts_one (st_nin hr (se_var 1) se_str))) (fun _ _ _ _ _ => (se_var 1)))) (se_fz (n := 0) (se_lst (.sh 0) sa_nil))))))) rfl
/-! _law_is_word -/
abbrev s_L_is_word : Stmt := top 16
def fb_L_is_word : MS := (sRet (mAnd (mIsa "tuple" (mVar 0)) (mBin opEq (mLc (iAny (mVar 0)) (bName 1) (tNotP (mTest (mCall pf_L_is_name [none] (aCons (mVar 1) aNil)))) (mVar 1) [1]) (mLst aNil))))
def pf_L_is_word : PF := runF 2 0 fb_L_is_word
def sh_L_is_word : Sh := ⟨[.sh 0], .sh 0, [], []⟩
theorem sc_L_is_word : FnScope ["_law_thing", "_law_part"] ["_law_thing"] (defScope s_L_is_word) := ⟨rfl, rfl, rfl, by decide +kernel, rfl, by decide +kernel, by decide +kernel⟩
theorem ok_L_is_word (T : Tx mg) (D_L_is_name : Df P w K mg base cl0 "_law_is_name" 1 sh_L_is_name pf_L_is_name) (F : Fun K "_law_is_word" "_law_is_word" s_L_is_word f fd) : FnG P w K mg base 2 f fd ["_law_thing"] (spP K cl0 sh_L_is_word pf_L_is_word) := by
  exact fnG_ok (k := 1) (N := ["_law_thing", "_law_part"]) (cl := cl0) (fb := fb_L_is_word) (g' := [some (.sh 0), none]) sh_L_is_word 0 F sc_L_is_word rfl rfl (fun cdv A outer s H E _ hr =>
    (sss_one (ss_retM [some (.sh 0), none] (se_and (se_isa T.b_isinstance T.b_tuple (by decide +kernel) (se_var 0)) (se_one (se_eq (se_fz (n := 0) (se_lc (own := [("_law_part", 1)]) (si_anyM (se_var 0)) (by rfl) (fun _ _ _ _ _ => sg_name 1) (fun _ _ _ _ _ => (sts_one (st_not (st_val (se_call D_L_is_name (hr.mono (by decide)) (sb_val (se_var 1) sb_nil)))))) (fun _ _ _ _ _ => (se_var 1)))) (se_fz (n := 0) (se_lst (.sh 0) sa_nil)))))))) rfl
/-! _law_things -/
abbrev s_L_things : Stmt := top 17
def fb_L_things : MS := (sSeq (sSet 1 (mLst (aCons (mC (.str "")) (aCons (mC (.str "a")) (aCons (mC (.str "abcdefgh")) (aCons (mC (.str "abcdefghi")) (aCons (mC (.str "A")) (aCons (mC (.str "aB")) (aCons (mC (.str "a b")) (aCons (mC (.str "a1")) (aCons (mC (.str "a_")) (aCons (mC (.str " a")) (aCons (mC (.str "a\n")) (aCons (mC (.str "~")) (aCons (mC (.str "begin")) (aCons (mC (.str "{")) (aCons (mC (.str "`")) (aCons (mC (.str "zz")) aNil))))))))))))))))))
    (sSeq (sSet 2 (mBin opIx (mCall pf_L_names [some 0, none] (bLent (aCons (mC (.int 1)) aNil))) (mC (.int 0))))
    (sSeq (sSet 3 (mBin opMulA (mTup (aCons (mVar 2) aNil)) (mCall pf_L_take [some 0, none] (bLent (aCons (mC (.int 50)) aNil)))))
    (sSeq (sPar 4 5 (aCons (mCall pf_L_take [some 0, none] (bLent (aCons (mBin opAdd (mFn hLen (aCons (mVar 3) aNil)) (mC (.int 1))) aNil))) (aCons (mBin opIx (mBin opAdd (mVar 1) (mLst (aCons (mC .non) (aCons (mC (.int 5)) (aCons (mTup (aCons (mVar 2) aNil)) (aCons (mLst (aCons (mVar 2) aNil)) (aCons (mC (.bl true)) aNil))))))) (mCall pf_L_take [some 0, none] (bLent (aCons (mC (.int 21)) aNil)))) aNil)))
    (sSeq (sSet 6 (mLst (aCons (mVar 3) (aCons (mBin opAdd (mBin opAdd (mSlc hSl (mVar 3) mP0 (mP1 (mVar 4))) (mTup (aCons (mVar 5) aNil))) (mSlc hSl (mVar 3) (mP1 (mVar 4)) mP0)) (aCons (mFn hListOf (aCons (mVar 3) aNil)) (aCons (mTup (aCons (mVar 3) aNil)) (aCons (mDic (mK1 (mVar 2) (mC (.int 0)) mK0)) (aCons (mBin opPow (mC (.int 10)) (mC (.int 39))) (aCons (mUn hNeg (mBin opPow (mC (.int 10)) (mC (.int 39)))) (aCons (mUn hNeg (mC (.int 1))) (aCons (mC (.int 0)) (aCons (mC (.int 1)) (aCons (mC (.int 2)) aNil)))))))))))))
    (sSeq (sFor (iRange1 (aCons (mC (.int 4)) aNil)) (bName 7)
      (sSeq (sSet 8 (mLc (iRange1 (aCons (mBin opAdd (mC (.int 1)) (mCall pf_L_take [some 0, none] (bLent (aCons (mC (.int 8)) aNil)))) aNil)) (bName 9) tAll (mBin opIx (mC (.str "abcdefghijklmnopqrstuvwxyz")) (mCall pf_L_take [some 0, none] (bLent (aCons (mC (.int 26)) aNil)))) [9]))
    (sSeq (sPar 10 11 (aCons (mSm hJoin (mC (.str "")) (aCons (mVar 8) aNil)) (aCons (mCall pf_L_take [some 0, none] (bLent (aCons (mFn hLen (aCons (mVar 8) aNil)) aNil))) aNil)))
    (sDrop (mSlm 6 hExtend (aCons (mLst (aCons (mVar 10) (aCons (mBin opAdd (mBin opAdd (mSlc hSl (mVar 10) mP0 (mP1 (mVar 11))) (mBin opIx (mC (.str "A0_{")) (mCall pf_L_take [some 0, none] (bLent (aCons (mC (.int 4)) aNil))))) (mSlc hSl (mVar 10) (mP1 (mBin opAdd (mVar 11) (mC (.int 1)))) mP0)) (aCons (mTup (aCons (mVar 10) (aCons (mVar 10) aNil))) (aCons (mBin opAdd (mVar 10) (mVar 10)) aNil))))) aNil))))))
    (sRet (mBin opAdd (mBin opAdd (mVar 1) (mVar 6)) (mLc (iRange1 (aCons (mC (.int 4)) aNil)) (bName 7) tAll (mCall pf_L_odd [some 0] (bLent aNil)) [7])))))))))
def pf_L_things : PF := runF 12 1 fb_L_things
def sh_L_things : Sh := ⟨[.own (.sh 0)], .sh 0, [some (.own (.sh 0))], []⟩
theorem sc_L_things : FnScope ["_law_bag_here", "_law_texts", "_law_name", "_law_word", "_law_at", "_law_odd_here", "_law_some", "_law_k", "_law_letters", "_law_j", "_law_text", "_law_far"] ["_law_bag_here"] (defScope s_L_things) := ⟨rfl, rfl, rfl, by decide +kernel, rfl, by decide +kernel, by decide +kernel⟩
theorem ok_L_things (T : Tx mg) (D_L_names : Df P w K mg base cl0 "_law_names" 3 sh_L_names pf_L_names) (D_L_odd : Df P w K mg base cl0 "_law_odd" 2 sh_L_odd pf_L_odd) (D_L_take : Df P w K mg base cl0 "_law_take" 1 sh_L_take pf_L_take) (F : Fun K "_law_things" "_law_things" s_L_things f fd) : FnG P w K mg base 4 f fd ["_law_bag_here"] (spP K cl0 sh_L_things pf_L_things) := by
  exact fnG_ok (k := 3) (N := ["_law_bag_here", "_law_texts", "_law_name", "_law_word", "_law_at", "_law_odd_here", "_law_some", "_law_k", "_law_letters", "_law_j", "_law_text", "_law_far"]) (cl := cl0) (fb := fb_L_things) (g' := [some (.own (.sh 0)), some (.sh 0), some (.sh 0), some (.sh 0), some (.sh 0), some (.sh 0), some (.own (.sh 0)), none, none, none, none, none]) sh_L_things 1 F sc_L_things rfl rfl (fun cdv A outer s H E _ hr =>
    (sss_cons (ss_set 1 (se_fz (n := 0) (se_lst (.sh 0) (sa_cons se_str (sa_cons se_str (sa_cons se_str (sa_cons se_str (sa_cons se_str (sa_cons se_str (sa_cons se_str (sa_cons se_str (sa_cons se_str (sa_cons se_str (sa_cons se_str (sa_cons se_str (sa_cons se_str (sa_cons se_str (sa_cons se_str (sa_cons se_str sa_nil)))))))))))))))))))
    (sss_cons (ss_set 2 (se_ix (se_call D_L_names (hr.mono (by decide)) (sb_lent 0 (sb_val se_int sb_nil))) se_int))
    (sss_cons (ss_set 3 (se_mul (.sh 0) (se_tup 0 (sa_cons (se_var 2) sa_nil)) (se_call D_L_take (hr.mono (by decide)) (sb_lent 0 (sb_val se_int sb_nil)))))
    (sss_cons (ss_par 4 5 (sa_cons (se_call D_L_take (hr.mono (by decide)) (sb_lent 0 (sb_val (se_add (.sh 0) (se_len T.b_len (se_var 3)) se_int) sb_nil))) (sa_cons (se_ix (se_add (.sh 0) (se_var 1) (se_fz (n := 0) (se_lst (.sh 0) (sa_cons se_non (sa_cons se_int (sa_cons (se_tup 0 (sa_cons (se_var 2) sa_nil)) (sa_cons (se_fz (n := 0) (se_lst (.sh 0) (sa_cons (se_var 2) sa_nil))) (sa_cons se_bl sa_nil)))))))) (se_call D_L_take (hr.mono (by decide)) (sb_lent 0 (sb_val se_int sb_nil)))) sa_nil)))
    (sss_cons (ss_set 6 (se_lst (.sh 0) (sa_cons (se_var 3) (sa_cons (se_add (.sh 0) (se_add (.sh 0) (se_slice (.sh 0) (se_var 3) sp_none (sp_some (se_var 4))) (se_tup 0 (sa_cons (se_var 5) sa_nil))) (se_slice (.sh 0) (se_var 3) (sp_some (se_var 4)) sp_none)) (sa_cons (se_tolist (.sh 0) T.b_list (se_var 3)) (sa_cons (se_tup 0 (sa_cons (se_var 3) sa_nil)) (sa_cons (se_dic 0 (sk_consM (se_var 2) se_int sk_nil)) (sa_cons (se_pow se_int se_int) (sa_cons (se_neg (se_pow se_int se_int)) (sa_cons (se_neg se_int) (sa_cons se_int (sa_cons se_int (sa_cons se_int sa_nil)))))))))))))
    (sss_cons (ss_for (si_range1 T.b_range (sa_cons se_int sa_nil)) (sg_name 7)
      (sss_wk [some (.own (.sh 0)), some (.sh 0), some (.sh 0), some (.sh 0), some (.sh 0), some (.sh 0), some (.own (.sh 0)), none, none, none, none, none] (sss_cons (ss_wk [some (.own (.sh 0)), some (.sh 0), some (.sh 0), some (.sh 0), some (.sh 0), some (.sh 0), some (.own (.sh 0)), some (.sh 0), some (.sh 0), none, none, none] (ss_setLc 8 (own := [("_law_j", 9)]) (si_range1 T.b_range (sa_cons (se_add (.sh 0) se_int (se_call D_L_take (hr.mono (by decide)) (sb_lent 0 (sb_val se_int sb_nil)))) sa_nil)) (by rfl) (fun _ _ _ _ _ => sg_name 9) (fun _ _ _ _ _ => sts_nil) (fun _ _ _ _ _ => (se_ix se_str (se_call D_L_take (hr.mono (by decide)) (sb_lent 0 (sb_val se_int sb_nil))))) (by rfl)))
    (sss_cons (ss_par 10 11 (sa_cons (se_join se_str (se_var 8)) (sa_cons (se_call D_L_take (hr.mono (by decide)) (sb_lent 0 (sb_val (se_len T.b_len (se_var 8)) sb_nil))) sa_nil)))
    (sss_one (ss_drop (se_slm 6 PySem.F.slot_list_extend ty_extend mr_extend (rm_extend rfl) (sa_cons (se_fz (n := 0) (se_lst (.sh 0) (sa_cons (se_var 10) (sa_cons (se_add (.sh 0) (se_add (.sh 0) (se_slice (.sh 0) (se_var 10) sp_none (sp_some (se_var 11))) (se_ix se_str (se_call D_L_take (hr.mono (by decide)) (sb_lent 0 (sb_val se_int sb_nil))))) (se_slice (.sh 0) (se_var 10) (sp_some (se_add (.sh 0) (se_var 11) se_int)) sp_none)) (sa_cons (se_tup 0 (sa_cons (se_var 10) (sa_cons (se_var 10) sa_nil))) (sa_cons (se_add (.sh 0) (se_var 10) (se_var 10)) sa_nil)))))) sa_nil))))))))
    (sss_one (ss_retM [some (.own (.sh 0)), some (.sh 0), some (.sh 0), some (.sh 0), some (.sh 0), some (.sh 0), some (.own (.sh 0)), none, none, none, none, none] (se_add (.sh 0) (se_addR (.sh 0) 6 (se_var 1)) (se_fz (n := 0) (se_lc (own := [("_law_k", 7)]) (si_range1 T.b_range (sa_cons se_int sa_nil)) (by rfl) (fun _ _ _ _ _ => sg_name 7) (fun _ _ _ _ _ => sts_nil) (fun _ _ _ _ _ => (se_call D_L_odd (hr.mono (by decide)) (sb_lent 0 sb_nil))))))))))))))) rfl
/-! the bag, the law -/
abbrev s_bag : Stmt := top 8
abbrev s_law : Stmt := top 18
theorem sc_bag : FnScope ["_law_script", "_law_cell"] ["_law_script"] (defScope s_bag) := ⟨rfl, rfl, rfl, by decide +kernel, rfl, by decide +kernel, by decide +kernel⟩
theorem ok_bag (T : Tx mg) (F : Fun K "_law_bag" "_law_bag" s_bag f fd) : FnG P w K mg base 1 f fd ["_law_script"] (spBag K) :=
  fnG_of F sc_bag (fun vs H Q E h => by obtain ⟨a, ns, rfl, _⟩ := h; rfl) (fun cdv A outer s H vs Q E gs hr h => ⟨tRet (tBag K), pss_one (ps_ret (pe_lst (pa_cons pe_int (pa_cons pe_int (pa_cons pe_int (pa_cons
    (pe_lc (own := [("_law_cell", 1)]) rfl sc_bag.nd (pi_list (pe_slice sl_list (pe_var (i := 0) rfl (Or.inl rfl)) po_none (po_some pe_int))) (blkOk_by (by rfl))
      (fun _ _ _ _ _ => pg_name sc_bag.nd rfl (Or.inl rfl)) (fun _ _ _ _ _ => pts_nil) (fun _ _ _ _ _ => pe_callB call_abs rfl T.b_abs (by decide +kernel) (pa_cons (pe_var (i := 1) rfl (Or.inl rfl)) pa_nil))) pa_nil)))))), bag_sem rfl h⟩)
def fb_law : MS := (sSeq (sFor (iAny (mCall pf_L_mixed [some 1, none] (bLent (aCons (mCall pf_L_things [some 1] (bLent aNil)) aNil)))) (bName 2)
      (sSeq (sPar 3 4 (aCons (mBin opIx (mLst (aCons (mC (.int 0)) (aCons (mC (.int 1)) (aCons (mC (.int 2)) (aCons (mC (.int 3)) (aCons (mC (.int 64)) (aCons (mBin opPow (mC (.int 10)) (mC (.int 20))) aNil))))))) (mCall pf_L_take [some 1, none] (bLent (aCons (mC (.int 6)) aNil)))) (aCons (mFn hRepr (aCons (mVar 2) aNil)) aNil)))
    (sSeq (sSet 5 (mCall pf_L_is_plain [none] (aCons (mVar 2) aNil)))
    (sSeq (sSet 6 (mLst (aCons (mVar 5) (aCons (mCall pf_L_is_name [none] (aCons (mVar 2) aNil)) (aCons (mCall pf_L_is_word [none] (aCons (mVar 2) aNil)) (aCons (mAnd (mVar 5) (mChain opLe opLt (mC (.int 0)) (mVar 2) (mVar 3))) aNil))))))
    (sFor (iRange1 (aCons (mC (.int 2)) aNil)) (bName 7)
      (sSeq (sSet 8 (mLst (aCons (mCall pf_p_is_integer [none] (aCons (mVar 2) aNil)) (aCons (mCall pf_p_is_name [none] (aCons (mVar 2) aNil)) (aCons (mCall pf_p_is_word [none] (aCons (mVar 2) aNil)) (aCons (mCall pf_p_is_number [none, none] (aCons (mVar 3) (aCons (mVar 2) aNil))) aNil))))))
    (sIf (tOrP (tNotP (mTest (mCall pf_L_alike [none, none] (aCons (mVar 8) (aCons (mVar 6) aNil))))) (mTest (mBin opNe (mFn hRepr (aCons (mVar 2) aNil)) (mVar 4))))
      (sRet (mC (.bl false)))
      sNx)))))))
    (sRet (mC (.bl true))))
theorem sc_law : FnScope ["_law_script", "_law_bag_here", "_law_thing", "_law_many", "_law_shown", "_law_plain", "_law_due", "_law_again", "_law_told"] ["_law_script"] (defScope s_law) := ⟨rfl, rfl, rfl, by decide +kernel, rfl, by decide +kernel, by decide +kernel⟩
def N_law : Nat := 9
theorem ok_law (T : Tx mg) (D_L_alike : Df P w K mg base cl0 "_law_alike" 1 sh_L_alike pf_L_alike) (D_L_is_name : Df P w K mg base cl0 "_law_is_name" 1 sh_L_is_name pf_L_is_name) (D_L_is_plain : Df P w K mg base cl0 "_law_is_plain" 1 sh_L_is_plain pf_L_is_plain) (D_L_is_word : Df P w K mg base cl0 "_law_is_word" 2 sh_L_is_word pf_L_is_word) (D_L_mixed : Df P w K mg base cl0 "_law_mixed" 2 sh_L_mixed pf_L_mixed) (D_L_take : Df P w K mg base cl0 "_law_take" 1 sh_L_take pf_L_take) (D_L_things : Df P w K mg base cl0 "_law_things" 4 sh_L_things pf_L_things) (D_p_is_integer : Df P w K mg base cl0 "is_integer" 1 sh_p_is_integer pf_p_is_integer) (D_p_is_name : Df P w K mg base cl0 "is_name" 1 sh_p_is_name pf_p_is_name) (D_p_is_number : Df P w K mg base cl0 "is_number" 2 sh_p_is_number pf_p_is_number) (D_p_is_word : Df P w K mg base cl0 "is_word" 2 sh_p_is_word pf_p_is_word) {fg : Addr} {fdg : FuncData} (B : FnG P w K mg base 1 fg fdg ["_law_script"] (spBag K)) (mB : mg "_law_bag" = some (.ref fg)) (kB : PySem.W.keepIn K (.ref fg) = true) (bB : Binds K fdg ["_law_script"] []) (val : ∀ ns, Scr ns → ∃ e, fb_law (lawE N_law ns) = .rt (.bl true) e)
    (F : Fun K "law" "law" s_law f fd) : FnG P w K mg base 5 f fd ["_law_script"] (spLaw K) := by
  have hb : defBody s_law = List.cons _ _ := rfl
  exact lawG_ok (k := 4) (N := ["_law_script", "_law_bag_here", "_law_thing", "_law_many", "_law_shown", "_law_plain", "_law_due", "_law_again", "_law_told"]) (cl := cl0) (fr := fb_law) (g' := [none, some (.own (.sh 0)), none, none, none, none, none, none, none]) F sc_law hb (by decide)
    (fun cdv A outer s H E gd hr => ps_set (i := 1) gd.nd rfl (Or.inl rfl) (pe_callG B gd.gs (hr.mono (by decide)) rfl mB kB bB .nil gd.pass (pa_cons (pe_var (i := 0) rfl (Or.inl rfl)) pa_nil)))
    (fun cdv A outer s H E _ hr =>
    (sss_cons (ss_for (si_anyM (se_call D_L_mixed (hr.mono (by decide)) (sb_lent 1 (sb_val (se_call D_L_things (hr.mono (by decide)) (sb_lent 1 sb_nil)) sb_nil)))) (sg_name 2)
      (sss_wk [none, some (.own (.sh 0)), none, none, none, none, none, none, none] (sss_cons (ss_par 3 4 (sa_cons (se_ix (se_fz (n := 0) (se_lst (.sh 0) (sa_cons se_int (sa_cons se_int (sa_cons se_int (sa_cons se_int (sa_cons se_int (sa_cons (se_pow se_int se_int) sa_nil)))))))) (se_call D_L_take (hr.mono (by decide)) (sb_lent 1 (sb_val se_int sb_nil)))) (sa_cons (se_repr T.b_repr (se_var 2)) sa_nil)))
    (sss_cons (ss_set 5 (se_call D_L_is_plain (hr.mono (by decide)) (sb_val (se_var 2) sb_nil)))
    (sss_cons (ss_set 6 (se_fz (n := 0) (se_lst (.sh 0) (sa_cons (se_var 5) (sa_cons (se_call D_L_is_name (hr.mono (by decide)) (sb_val (se_var 2) sb_nil)) (sa_cons (se_call D_L_is_word (hr.mono (by decide)) (sb_val (se_var 2) sb_nil)) (sa_cons (se_and (se_var 5) (se_one (se_ch ol_le ol_lt se_int (se_var 2) (se_var 3)))) sa_nil)))))))
    (sss_one (ss_for (si_range1 T.b_range (sa_cons se_int sa_nil)) (sg_name 7)
      (sss_wk [none, some (.own (.sh 0)), some (.sh 0), some (.sh 0), some (.sh 0), some (.sh 0), some (.sh 0), none, none] (sss_cons (ss_set 8 (se_fz (n := 0) (se_lst (.sh 0) (sa_cons (se_call D_p_is_integer (hr.mono (by decide)) (sb_val (se_var 2) sb_nil)) (sa_cons (se_call D_p_is_name (hr.mono (by decide)) (sb_val (se_var 2) sb_nil)) (sa_cons (se_call D_p_is_word (hr.mono (by decide)) (sb_val (se_var 2) sb_nil)) (sa_cons (se_call D_p_is_number (hr.mono (by decide)) (sb_val (se_var 3) (sb_val (se_var 2) sb_nil))) sa_nil)))))))
    (sss_one (ss_if (st_w (sw_or (st_not (st_val (se_call D_L_alike (hr.mono (by decide)) (sb_val (se_var 8) (sb_val (se_var 6) sb_nil))))) (sw_or1 (st_ne (se_repr T.b_repr (se_var 2)) (se_var 4)))))
      (sss_one (ss_retM [none, some (.own (.sh 0)), some (.sh 0), some (.sh 0), some (.sh 0), some (.sh 0), some (.sh 0), some (.sh 0), some (.sh 0)] se_bl))
      sss_nil)))))))))))
    (sss_one (ss_retM [none, some (.own (.sh 0)), none, none, none, none, none, none, none] se_bl)))) val
end
section
variable {P : Program} {w : World} {K : PySem.W.Frag} {h : Heap} {mg : Str → Option Value}
theorem all_mk {fa : Addr} (X : K.In h) (G : h.Ns mainGlobals mg) (hfa : mg "law" = some (.ref fa)) (val : ∀ ns, Scr ns → ∃ e, fb_law (lawE N_law ns) = .rt (.bl true) e)
    {f_bag f_p_is_integer f_p_is_name f_p_is_word f_p_is_number f_L_take f_L_alike f_L_mixed f_L_names f_L_odd f_L_is_plain f_L_is_name f_L_is_word f_L_things f_law : Addr} {od_bag an_bag od_p_is_integer an_p_is_integer od_p_is_name an_p_is_name od_p_is_word an_p_is_word od_p_is_number an_p_is_number od_L_take an_L_take od_L_alike an_L_alike od_L_mixed an_L_mixed od_L_names an_L_names od_L_odd an_L_odd od_L_is_plain an_L_is_plain od_L_is_name an_L_is_name od_L_is_word an_L_is_word od_L_things an_L_things od_law an_law : Option Addr} {sl_bag sl_p_is_integer sl_p_is_name sl_p_is_word sl_p_is_number sl_L_take sl_L_alike sl_L_mixed sl_L_names sl_L_odd sl_L_is_plain sl_L_is_name sl_L_is_word sl_L_things sl_law : Array (Option Value)} {oc_bag kV_bag dc_bag pm_bag cd_bag ct_bag oc_p_is_integer kV_p_is_integer dc_p_is_integer pm_p_is_integer cd_p_is_integer ct_p_is_integer oc_p_is_name kV_p_is_name dc_p_is_name pm_p_is_name cd_p_is_name ct_p_is_name oc_p_is_word kV_p_is_word dc_p_is_word pm_p_is_word cd_p_is_word ct_p_is_word oc_p_is_number kV_p_is_number dc_p_is_number pm_p_is_number cd_p_is_number ct_p_is_number oc_L_take kV_L_take dc_L_take pm_L_take cd_L_take ct_L_take oc_L_alike kV_L_alike dc_L_alike pm_L_alike cd_L_alike ct_L_alike oc_L_mixed kV_L_mixed dc_L_mixed pm_L_mixed cd_L_mixed ct_L_mixed oc_L_names kV_L_names dc_L_names pm_L_names cd_L_names ct_L_names oc_L_odd kV_L_odd dc_L_odd pm_L_odd cd_L_odd ct_L_odd oc_L_is_plain kV_L_is_plain dc_L_is_plain pm_L_is_plain cd_L_is_plain ct_L_is_plain oc_L_is_name kV_L_is_name dc_L_is_name pm_L_is_name cd_L_is_name ct_L_is_name oc_L_is_word kV_L_is_word dc_L_is_word pm_L_is_word cd_L_is_word ct_L_is_word oc_L_things kV_L_things dc_L_things pm_L_things cd_L_things ct_L_things oc_law kV_law dc_law pm_law cd_law ct_law : Value}
    {t_LETTERS t_MOST_LETTERS : Tok}
    (a_bag : PySem.W.nsIn K mainGlobals "_law_bag" = some (some (.ref f_bag))) (l_bag : K.lookup f_bag = some ⟨oc_bag, od_bag, .func (PySem.W.fnOf "_law_bag" "_law_bag" (defArgs s_bag) (defBody s_bag) (defScope s_bag) .none kV_bag dc_bag pm_bag an_bag cd_bag ct_bag), sl_bag⟩) (c_bag : PySem.W.codeIn K cd_bag "_law_bag" = true) (k_bag : PySem.W.keepIn K (.ref f_bag) = true)
    (a_p_is_integer : PySem.W.nsIn K mainGlobals "is_integer" = some (some (.ref f_p_is_integer))) (l_p_is_integer : K.lookup f_p_is_integer = some ⟨oc_p_is_integer, od_p_is_integer, .func (PySem.W.fnOf "is_integer" "is_integer" (defArgs s_p_is_integer) (defBody s_p_is_integer) (defScope s_p_is_integer) .none kV_p_is_integer dc_p_is_integer pm_p_is_integer an_p_is_integer cd_p_is_integer ct_p_is_integer), sl_p_is_integer⟩) (c_p_is_integer : PySem.W.codeIn K cd_p_is_integer "is_integer" = true) (k_p_is_integer : PySem.W.keepIn K (.ref f_p_is_integer) = true)
    (a_p_is_name : PySem.W.nsIn K mainGlobals "is_name" = some (some (.ref f_p_is_name))) (l_p_is_name : K.lookup f_p_is_name = some ⟨oc_p_is_name, od_p_is_name, .func (PySem.W.fnOf "is_name" "is_name" (defArgs s_p_is_name) (defBody s_p_is_name) (defScope s_p_is_name) .none kV_p_is_name dc_p_is_name pm_p_is_name an_p_is_name cd_p_is_name ct_p_is_name), sl_p_is_name⟩) (c_p_is_name : PySem.W.codeIn K cd_p_is_name "is_name" = true) (k_p_is_name : PySem.W.keepIn K (.ref f_p_is_name) = true)
    (a_p_is_word : PySem.W.nsIn K mainGlobals "is_word" = some (some (.ref f_p_is_word))) (l_p_is_word : K.lookup f_p_is_word = some ⟨oc_p_is_word, od_p_is_word, .func (PySem.W.fnOf "is_word" "is_word" (defArgs s_p_is_word) (defBody s_p_is_word) (defScope s_p_is_word) .none kV_p_is_word dc_p_is_word pm_p_is_word an_p_is_word cd_p_is_word ct_p_is_word), sl_p_is_word⟩) (c_p_is_word : PySem.W.codeIn K cd_p_is_word "is_word" = true) (k_p_is_word : PySem.W.keepIn K (.ref f_p_is_word) = true)
    (a_p_is_number : PySem.W.nsIn K mainGlobals "is_number" = some (some (.ref f_p_is_number))) (l_p_is_number : K.lookup f_p_is_number = some ⟨oc_p_is_number, od_p_is_number, .func (PySem.W.fnOf "is_number" "is_number" (defArgs s_p_is_number) (defBody s_p_is_number) (defScope s_p_is_number) .none kV_p_is_number dc_p_is_number pm_p_is_number an_p_is_number cd_p_is_number ct_p_is_number), sl_p_is_number⟩) (c_p_is_number : PySem.W.codeIn K cd_p_is_number "is_number" = true) (k_p_is_number : PySem.W.keepIn K (.ref f_p_is_number) = true)
    (a_L_take : PySem.W.nsIn K mainGlobals "_law_take" = some (some (.ref f_L_take))) (l_L_take : K.lookup f_L_take = some ⟨oc_L_take, od_L_take, .func (PySem.W.fnOf "_law_take" "_law_take" (defArgs s_L_take) (defBody s_L_take) (defScope s_L_take) .none kV_L_take dc_L_take pm_L_take an_L_take cd_L_take ct_L_take), sl_L_take⟩) (c_L_take : PySem.W.codeIn K cd_L_take "_law_take" = true) (k_L_take : PySem.W.keepIn K (.ref f_L_take) = true)
    (a_L_alike : PySem.W.nsIn K mainGlobals "_law_alike" = some (some (.ref f_L_alike))) (l_L_alike : K.lookup f_L_alike = some ⟨oc_L_alike, od_L_alike, .func (PySem.W.fnOf "_law_alike" "_law_alike" (defArgs s_L_alike) (defBody s_L_alike) (defScope s_L_alike) .none kV_L_alike dc_L_alike pm_L_alike an_L_alike cd_L_alike ct_L_alike), sl_L_alike⟩) (c_L_alike : PySem.W.codeIn K cd_L_alike "_law_alike" = true) (k_L_alike : PySem.W.keepIn K (.ref f_L_alike) = true)
    (a_L_mixed : PySem.W.nsIn K mainGlobals "_law_mixed" = some (some (.ref f_L_mixed))) (l_L_mixed : K.lookup f_L_mixed = some ⟨oc_L_mixed, od_L_mixed, .func (PySem.W.fnOf "_law_mixed" "_law_mixed" (defArgs s_L_mixed) (defBody s_L_mixed) (defScope s_L_mixed) .none kV_L_mixed dc_L_mixed pm_L_mixed an_L_mixed cd_L_mixed ct_L_mixed), sl_L_mixed⟩) (c_L_mixed : PySem.W.codeIn K cd_L_mixed "_law_mixed" = true) (k_L_mixed : PySem.W.keepIn K (.ref f_L_mixed) = true)
    (a_L_names : PySem.W.nsIn K mainGlobals "_law_names" = some (some (.ref f_L_names))) (l_L_names : K.lookup f_L_names = some ⟨oc_L_names, od_L_names, .func (PySem.W.fnOf "_law_names" "_law_names" (defArgs s_L_names) (defBody s_L_names) (defScope s_L_names) .none kV_L_names dc_L_names pm_L_names an_L_names cd_L_names ct_L_names), sl_L_names⟩) (c_L_names : PySem.W.codeIn K cd_L_names "_law_names" = true) (k_L_names : PySem.W.keepIn K (.ref f_L_names) = true)
    (a_L_odd : PySem.W.nsIn K mainGlobals "_law_odd" = some (some (.ref f_L_odd))) (l_L_odd : K.lookup f_L_odd = some ⟨oc_L_odd, od_L_odd, .func (PySem.W.fnOf "_law_odd" "_law_odd" (defArgs s_L_odd) (defBody s_L_odd) (defScope s_L_odd) .none kV_L_odd dc_L_odd pm_L_odd an_L_odd cd_L_odd ct_L_odd), sl_L_odd⟩) (c_L_odd : PySem.W.codeIn K cd_L_odd "_law_odd" = true) (k_L_odd : PySem.W.keepIn K (.ref f_L_odd) = true)
    (a_L_is_plain : PySem.W.nsIn K mainGlobals "_law_is_plain" = some (some (.ref f_L_is_plain))) (l_L_is_plain : K.lookup f_L_is_plain = some ⟨oc_L_is_plain, od_L_is_plain, .func (PySem.W.fnOf "_law_is_plain" "_law_is_plain" (defArgs s_L_is_plain) (defBody s_L_is_plain) (defScope s_L_is_plain) .none kV_L_is_plain dc_L_is_plain pm_L_is_plain an_L_is_plain cd_L_is_plain ct_L_is_plain), sl_L_is_plain⟩) (c_L_is_plain : PySem.W.codeIn K cd_L_is_plain "_law_is_plain" = true) (k_L_is_plain : PySem.W.keepIn K (.ref f_L_is_plain) = true)
    (a_L_is_name : PySem.W.nsIn K mainGlobals "_law_is_name" = some (some (.ref f_L_is_name))) (l_L_is_name : K.lookup f_L_is_name = some ⟨oc_L_is_name, od_L_is_name, .func (PySem.W.fnOf "_law_is_name" "_law_is_name" (defArgs s_L_is_name) (defBody s_L_is_name) (defScope s_L_is_name) .none kV_L_is_name dc_L_is_name pm_L_is_name an_L_is_name cd_L_is_name ct_L_is_name), sl_L_is_name⟩) (c_L_is_name : PySem.W.codeIn K cd_L_is_name "_law_is_name" = true) (k_L_is_name : PySem.W.keepIn K (.ref f_L_is_name) = true)
    (a_L_is_word : PySem.W.nsIn K mainGlobals "_law_is_word" = some (some (.ref f_L_is_word))) (l_L_is_word : K.lookup f_L_is_word = some ⟨oc_L_is_word, od_L_is_word, .func (PySem.W.fnOf "_law_is_word" "_law_is_word" (defArgs s_L_is_word) (defBody s_L_is_word) (defScope s_L_is_word) .none kV_L_is_word dc_L_is_word pm_L_is_word an_L_is_word cd_L_is_word ct_L_is_word), sl_L_is_word⟩) (c_L_is_word : PySem.W.codeIn K cd_L_is_word "_law_is_word" = true) (k_L_is_word : PySem.W.keepIn K (.ref f_L_is_word) = true)
    (a_L_things : PySem.W.nsIn K mainGlobals "_law_things" = some (some (.ref f_L_things))) (l_L_things : K.lookup f_L_things = some ⟨oc_L_things, od_L_things, .func (PySem.W.fnOf "_law_things" "_law_things" (defArgs s_L_things) (defBody s_L_things) (defScope s_L_things) .none kV_L_things dc_L_things pm_L_things an_L_things cd_L_things ct_L_things), sl_L_things⟩) (c_L_things : PySem.W.codeIn K cd_L_things "_law_things" = true) (k_L_things : PySem.W.keepIn K (.ref f_L_things) = true)
    (a_law : PySem.W.nsIn K mainGlobals "law" = some (some (.ref f_law))) (l_law : K.lookup f_law = some ⟨oc_law, od_law, .func (PySem.W.fnOf "law" "law" (defArgs s_law) (defBody s_law) (defScope s_law) .none kV_law dc_law pm_law an_law cd_law ct_law), sl_law⟩) (c_law : PySem.W.codeIn K cd_law "law" = true) (k_law : PySem.W.keepIn K (.ref f_law) = true)
    (b_abs : PySem.W.nsIn K mainGlobals "abs" = some none)
    (b_all : PySem.W.nsIn K mainGlobals "all" = some none)
    (b_bool : PySem.W.nsIn K mainGlobals "bool" = some none)
    (b_int : PySem.W.nsIn K mainGlobals "int" = some none)
    (b_isinstance : PySem.W.nsIn K mainGlobals "isinstance" = some none)
    (b_len : PySem.W.nsIn K mainGlobals "len" = some none)
    (b_list : PySem.W.nsIn K mainGlobals "list" = some none)
    (b_range : PySem.W.nsIn K mainGlobals "range" = some none)
    (b_repr : PySem.W.nsIn K mainGlobals "repr" = some none)
    (b_sorted : PySem.W.nsIn K mainGlobals "sorted" = some none)
    (b_str : PySem.W.nsIn K mainGlobals "str" = some none)
    (b_tuple : PySem.W.nsIn K mainGlobals "tuple" = some none)
    (g_LETTERS : PySem.W.nsIn K mainGlobals "LETTERS" = some (some (.str "abcdefghijklmnopqrstuvwxyz" t_LETTERS)))
    (g_MOST_LETTERS : PySem.W.nsIn K mainGlobals "MOST_LETTERS" = some (some (.int 8 t_MOST_LETTERS)))
    : ∃ fd : FuncData, (∀ (s : Shared) (u : Value), BindsTo s fd ⟨[u], []⟩ [("_law_script", u)]) ∧ ∀ base : Heap, K.In base → base.Ns mainGlobals mg → FnG P w K mg base 5 fa fd ["_law_script"] (spLaw K) := by
  have e := hfa.symm.trans (PySem.W.mg_of X G a_law)
  cases e
  have T : Tx mg := ⟨PySem.W.mg_none_of X G b_abs, PySem.W.mg_none_of X G b_all, PySem.W.mg_none_of X G b_bool, PySem.W.mg_none_of X G b_int, PySem.W.mg_none_of X G b_isinstance, PySem.W.mg_none_of X G b_len, PySem.W.mg_none_of X G b_list, PySem.W.mg_none_of X G b_range, PySem.W.mg_none_of X G b_repr, PySem.W.mg_none_of X G b_sorted, PySem.W.mg_none_of X G b_str, PySem.W.mg_none_of X G b_tuple, ⟨_, PySem.W.mg_of X G g_LETTERS⟩, ⟨_, PySem.W.mg_of X G g_MOST_LETTERS⟩⟩
  have F_bag := fun_mk (st := s_bag) l_bag c_bag k_bag
  have F_p_is_integer := fun_mk (st := s_p_is_integer) l_p_is_integer c_p_is_integer k_p_is_integer
  have F_p_is_name := fun_mk (st := s_p_is_name) l_p_is_name c_p_is_name k_p_is_name
  have F_p_is_word := fun_mk (st := s_p_is_word) l_p_is_word c_p_is_word k_p_is_word
  have F_p_is_number := fun_mk (st := s_p_is_number) l_p_is_number c_p_is_number k_p_is_number
  have F_L_take := fun_mk (st := s_L_take) l_L_take c_L_take k_L_take
  have F_L_alike := fun_mk (st := s_L_alike) l_L_alike c_L_alike k_L_alike
  have F_L_mixed := fun_mk (st := s_L_mixed) l_L_mixed c_L_mixed k_L_mixed
  have F_L_names := fun_mk (st := s_L_names) l_L_names c_L_names k_L_names
  have F_L_odd := fun_mk (st := s_L_odd) l_L_odd c_L_odd k_L_odd
  have F_L_is_plain := fun_mk (st := s_L_is_plain) l_L_is_plain c_L_is_plain k_L_is_plain
  have F_L_is_name := fun_mk (st := s_L_is_name) l_L_is_name c_L_is_name k_L_is_name
  have F_L_is_word := fun_mk (st := s_L_is_word) l_L_is_word c_L_is_word k_L_is_word
  have F_L_things := fun_mk (st := s_L_things) l_L_things c_L_things k_L_things
  have F_law := fun_mk (st := s_law) l_law c_law k_law
  have B_bag := F_bag.binds (ps := ["_law_script"]) fun _ _ _ _ _ _ us hl => match us, hl with | [_], _ => rfl
  have B_p_is_integer := F_p_is_integer.binds (ps := ["thing"]) fun _ _ _ _ _ _ us hl => match us, hl with | [_], _ => rfl
  have B_p_is_name := F_p_is_name.binds (ps := ["thing"]) fun _ _ _ _ _ _ us hl => match us, hl with | [_], _ => rfl
  have B_p_is_word := F_p_is_word.binds (ps := ["thing"]) fun _ _ _ _ _ _ us hl => match us, hl with | [_], _ => rfl
  have B_p_is_number := F_p_is_number.binds (ps := ["many", "thing"]) fun _ _ _ _ _ _ us hl => match us, hl with | [_, _], _ => rfl
  have B_L_take := F_L_take.binds (ps := ["_law_bag_here", "_law_many"]) fun _ _ _ _ _ _ us hl => match us, hl with | [_, _], _ => rfl
  have B_L_alike := F_L_alike.binds (ps := ["_law_found", "_law_due"]) fun _ _ _ _ _ _ us hl => match us, hl with | [_, _], _ => rfl
  have B_L_mixed := F_L_mixed.binds (ps := ["_law_bag_here", "_law_things_here"]) fun _ _ _ _ _ _ us hl => match us, hl with | [_, _], _ => rfl
  have B_L_names := F_L_names.binds (ps := ["_law_bag_here", "_law_many"]) fun _ _ _ _ _ _ us hl => match us, hl with | [_, _], _ => rfl
  have B_L_odd := F_L_odd.binds (ps := ["_law_bag_here"]) fun _ _ _ _ _ _ us hl => match us, hl with | [_], _ => rfl
  have B_L_is_plain := F_L_is_plain.binds (ps := ["_law_thing"]) fun _ _ _ _ _ _ us hl => match us, hl with | [_], _ => rfl
  have B_L_is_name := F_L_is_name.binds (ps := ["_law_thing"]) fun _ _ _ _ _ _ us hl => match us, hl with | [_], _ => rfl
  have B_L_is_word := F_L_is_word.binds (ps := ["_law_thing"]) fun _ _ _ _ _ _ us hl => match us, hl with | [_], _ => rfl
  have B_L_things := F_L_things.binds (ps := ["_law_bag_here"]) fun _ _ _ _ _ _ us hl => match us, hl with | [_], _ => rfl
  refine ⟨PySem.W.fnOf "law" "law" (defArgs s_law) (defBody s_law) (defScope s_law) .none kV_law dc_law pm_law an_law cd_law ct_law, fun s u => .of_eq rfl, fun base _ _ => ?_⟩
  have D_p_is_integer : Df P w K mg base cl0 "is_integer" 1 sh_p_is_integer pf_p_is_integer := ⟨_, _, _, ok_p_is_integer T F_p_is_integer, PySem.W.mg_of X G a_p_is_integer, k_p_is_integer, B_p_is_integer⟩
  have D_p_is_name : Df P w K mg base cl0 "is_name" 1 sh_p_is_name pf_p_is_name := ⟨_, _, _, ok_p_is_name T F_p_is_name, PySem.W.mg_of X G a_p_is_name, k_p_is_name, B_p_is_name⟩
  have D_p_is_word : Df P w K mg base cl0 "is_word" 2 sh_p_is_word pf_p_is_word := ⟨_, _, _, ok_p_is_word T D_p_is_name F_p_is_word, PySem.W.mg_of X G a_p_is_word, k_p_is_word, B_p_is_word⟩
  have D_p_is_number : Df P w K mg base cl0 "is_number" 2 sh_p_is_number pf_p_is_number := ⟨_, _, _, ok_p_is_number T D_p_is_integer F_p_is_number, PySem.W.mg_of X G a_p_is_number, k_p_is_number, B_p_is_number⟩
  have D_L_take : Df P w K mg base cl0 "_law_take" 1 sh_L_take pf_L_take := ⟨_, _, _, ok_L_take T F_L_take, PySem.W.mg_of X G a_L_take, k_L_take, B_L_take⟩
  have D_L_alike : Df P w K mg base cl0 "_law_alike" 1 sh_L_alike pf_L_alike := ⟨_, _, _, ok_L_alike T F_L_alike, PySem.W.mg_of X G a_L_alike, k_L_alike, B_L_alike⟩
  have D_L_mixed : Df P w K mg base cl0 "_law_mixed" 2 sh_L_mixed pf_L_mixed := ⟨_, _, _, ok_L_mixed T D_L_take F_L_mixed, PySem.W.mg_of X G a_L_mixed, k_L_mixed, B_L_mixed⟩
  have D_L_names : Df P w K mg base cl0 "_law_names" 3 sh_L_names pf_L_names := ⟨_, _, _, ok_L_names T D_L_mixed D_L_take F_L_names, PySem.W.mg_of X G a_L_names, k_L_names, B_L_names⟩
  have D_L_odd : Df P w K mg base cl0 "_law_odd" 2 sh_L_odd pf_L_odd := ⟨_, _, _, ok_L_odd T D_L_take F_L_odd, PySem.W.mg_of X G a_L_odd, k_L_odd, B_L_odd⟩
  have D_L_is_plain : Df P w K mg base cl0 "_law_is_plain" 1 sh_L_is_plain pf_L_is_plain := ⟨_, _, _, ok_L_is_plain T F_L_is_plain, PySem.W.mg_of X G a_L_is_plain, k_L_is_plain, B_L_is_plain⟩
  have D_L_is_name : Df P w K mg base cl0 "_law_is_name" 1 sh_L_is_name pf_L_is_name := ⟨_, _, _, ok_L_is_name T F_L_is_name, PySem.W.mg_of X G a_L_is_name, k_L_is_name, B_L_is_name⟩
  have D_L_is_word : Df P w K mg base cl0 "_law_is_word" 2 sh_L_is_word pf_L_is_word := ⟨_, _, _, ok_L_is_word T D_L_is_name F_L_is_word, PySem.W.mg_of X G a_L_is_word, k_L_is_word, B_L_is_word⟩
  have D_L_things : Df P w K mg base cl0 "_law_things" 4 sh_L_things pf_L_things := ⟨_, _, _, ok_L_things T D_L_names D_L_odd D_L_take F_L_things, PySem.W.mg_of X G a_L_things, k_L_things, B_L_things⟩
  exact ok_law T D_L_alike D_L_is_name D_L_is_plain D_L_is_word D_L_mixed D_L_take D_L_things D_p_is_integer D_p_is_name D_p_is_number D_p_is_word (ok_bag T F_bag) (PySem.W.mg_of X G a_bag) k_bag B_bag val F_law
end
end K11

/-! Fp1 -/
/-! what a piece of code ends in, by what is wished of it -/
namespace G
open PySem L2
def R.Is {α : Type} (r : R α) (ok : α → Env → Prop) (ex : D → Env → Prop) : Prop := match r with
  | .ok a e => ok a e
  | .ex x e => ex x e
  | .no => False
structure Po where
  nx : Env → Prop
  rt : D → Env → Prop
  bk : Env → Prop
  ct : Env → Prop
  ex : D → Env → Prop
def O.Is (o : O) (P : Po) : Prop := match o with
  | .nx e => P.nx e
  | .rt d e => P.rt d e
  | .bk e => P.bk e
  | .ct e => P.ct e
  | .ex x e => P.ex x e
  | .no => False
section
variable {α β : Type} {ok : α → Env → Prop} {ex : D → Env → Prop} {a : α} {x : D} {e : Env} {P : Po} {d : D}
theorem R.is_ok : (R.ok a e).Is ok ex ↔ ok a e := Iff.rfl
theorem R.is_ex : (R.ex x e : R α).Is ok ex ↔ ex x e := Iff.rfl
theorem R.is_no : (R.no : R α).Is ok ex ↔ False := Iff.rfl
theorem R.is_bind {r : R β} {f : β → Env → R α} : (r.bind f).Is ok ex ↔ r.Is (fun b e => (f b e).Is ok ex) ex := by cases r <;> exact Iff.rfl
theorem R.Is.mono {r : R α} {ok' : α → Env → Prop} {ex' : D → Env → Prop} (h : r.Is ok ex) (h1 : ∀ a e, ok a e → ok' a e) (h2 : ∀ x e, ex x e → ex' x e) : r.Is ok' ex' := by
  cases r with
  | ok a e => exact h1 a e h
  | ex x e => exact h2 x e h
  | no => exact h
theorem R.is_toO {r : R α} {f : α → Env → O} : (r.toO f).Is P ↔ r.Is (fun b e => (f b e).Is P) P.ex := by cases r <;> exact Iff.rfl
theorem O.is_nx : (O.nx e).Is P ↔ P.nx e := Iff.rfl
theorem O.is_rt : (O.rt d e).Is P ↔ P.rt d e := Iff.rfl
theorem O.is_no : (O.no).Is P ↔ False := Iff.rfl
theorem O.Is.mono {o : O} {P' : Po} (h : o.Is P) (h1 : ∀ e, P.nx e → P'.nx e) (h2 : ∀ d e, P.rt d e → P'.rt d e) (h3 : ∀ e, P.bk e → P'.bk e) (h4 : ∀ e, P.ct e → P'.ct e) (h5 : ∀ d e, P.ex d e → P'.ex d e) : o.Is P' := by
  cases o with
  | nx e => exact h1 e h
  | rt d e => exact h2 d e h
  | bk e => exact h3 e h
  | ct e => exact h4 e h
  | ex d e => exact h5 d e h
  | no => exact h
/-! expressions -/
theorem R.Is.congr {r : R α} {ok' : α → Env → Prop} (h : ∀ a e, ok a e ↔ ok' a e) : r.Is ok ex ↔ r.Is ok' ex :=
  ⟨fun q => q.mono (fun a e => (h a e).mp) fun _ _ z => z, fun q => q.mono (fun a e => (h a e).mpr) fun _ _ z => z⟩
theorem R.bind_congr {r : R β} {f : β → Env → R α} {ok' : β → Env → Prop} (h : ∀ a e, (f a e).Is ok ex ↔ ok' a e) : (r.bind f).Is ok ex ↔ r.Is ok' ex := R.is_bind.trans (R.Is.congr h)
section
variable {ok : D → Env → Prop} {fa fb fc : ME} {h h' : D → D → Option D} {hu : D → Option D} {hf : List D → Option D} {fr : MA} {okA : List D → Env → Prop} {okT : Bool → Env → Prop} {i : Nat} {ca cb : MT}
theorem is_c : (mC d e).Is ok ex ↔ ok d e := Iff.rfl
theorem is_var : (mVar i e).Is ok ex ↔ ∃ d, e[i]? = some (some d) ∧ ok d e := by
  unfold mVar
  rcases h : e[i]? with _ | _ | d <;> simp [R.Is]
theorem is_bin : (mBin h fa fb e).Is ok ex ↔ (fa e).Is (fun d1 e1 => (fb e1).Is (fun d2 e2 => ∃ d, h d1 d2 = some d ∧ ok d e2) ex) ex := by
  refine R.bind_congr fun d1 e1 => R.bind_congr fun d2 e2 => ?_
  cases h d1 d2 <;> simp [R.Is]
theorem is_un : (mUn hu fa e).Is ok ex ↔ (fa e).Is (fun d1 e1 => ∃ d, hu d1 = some d ∧ ok d e1) ex := by
  refine R.bind_congr fun d1 e1 => ?_
  cases hu d1 <;> simp [R.Is]
theorem is_fn : (mFn hf fr e).Is ok ex ↔ (fr e).Is (fun d1 e1 => ∃ d, hf d1 = some d ∧ ok d e1) ex := by
  refine R.bind_congr fun d1 e1 => ?_
  cases hf d1 <;> simp [R.Is]
theorem is_nil : (aNil e).Is okA ex ↔ okA [] e := Iff.rfl
theorem is_cons : (aCons fa fr e).Is okA ex ↔ (fa e).Is (fun d e1 => (fr e1).Is (fun ds e2 => okA (d :: ds) e2) ex) ex := R.bind_congr fun d e1 => R.bind_congr fun ds e2 => Iff.rfl
theorem is_lent : (bLent fr e).Is okA ex ↔ (fr e).Is (fun ds e2 => okA (.non :: ds) e2) ex := R.bind_congr fun ds e2 => Iff.rfl
theorem is_lst : (mLst fr e).Is ok ex ↔ (fr e).Is (fun ds e1 => ds.length ≤ 100000 ∧ ok (.lst ds) e1) ex := by
  refine R.bind_congr fun ds e1 => ?_
  split <;> simp [R.Is, *]
theorem is_tup : (mTup fr e).Is ok ex ↔ (fr e).Is (fun ds e1 => ds.length ≤ 100000 ∧ ok (.tup ds) e1) ex := by
  refine R.bind_congr fun ds e1 => ?_
  split <;> simp [R.Is, *]
theorem is_ixs : (mIxs i fb e).Is ok ex ↔ (fb e).Is (fun d2 e2 => ∃ d1, e2[i]? = some (some d1) ∧ ∃ d, opIx d1 d2 = some d ∧ ok d e2) ex := by
  refine R.bind_congr fun d2 e2 => ?_
  rcases h : e2[i]? with _ | _ | d1 <;> simp [R.Is]
  cases opIx d1 d2 <;> simp
theorem is_isa {T : String} : (mIsa T fa e).Is ok ex ↔ (fa e).Is (fun d e1 => ∃ t, tyN d = some t ∧ ∃ b, kitB t T = some b ∧ ok (.bl b) e1) ex := by
  refine R.bind_congr fun d e1 => ?_
  cases tyN d with
  | none => simp [R.Is]
  | some t =>
    cases h : kitB t T with
    | none => simp [R.Is, h]
    | some b => simp only [h, R.Is, Option.some.injEq, exists_eq_left']
theorem is_test : (mTest fa e).Is okT ex ↔ (fa e).Is (fun d e1 => ∃ b, d = .bl b ∧ okT b e1) ex := by
  refine R.bind_congr fun d e1 => ?_
  cases d <;> simp [R.Is]
theorem is_tnot : (tNotP ca e).Is okT ex ↔ (ca e).Is (fun b e1 => okT (!b) e1) ex := R.bind_congr fun b e1 => Iff.rfl
theorem is_tand : (tAndP ca cb e).Is okT ex ↔ (ca e).Is (fun b e1 => (b = true → (cb e1).Is okT ex) ∧ (b = false → okT false e1)) ex := by
  refine R.bind_congr fun b e1 => ?_
  cases b <;> simp [R.Is]
theorem is_tor : (tOrP ca cb e).Is okT ex ↔ (ca e).Is (fun b e1 => (b = true → okT true e1) ∧ (b = false → (cb e1).Is okT ex)) ex := by
  refine R.bind_congr fun b e1 => ?_
  cases b <;> simp [R.Is]
theorem is_and : (mAnd fa fb e).Is ok ex ↔ (fa e).Is (fun d e1 => ∃ b, d = .bl b ∧ (b = true → (fb e1).Is ok ex) ∧ (b = false → ok (.bl false) e1)) ex := by
  refine R.bind_congr fun d e1 => ?_
  cases d with
  | bl b => cases b <;> simp [R.Is]
  | _ => simp [R.Is]
theorem is_or : (mOr fa fb e).Is ok ex ↔ (fa e).Is (fun d e1 => ∃ b, d = .bl b ∧ (b = true → ok (.bl true) e1) ∧ (b = false → (fb e1).Is ok ex)) ex := by
  refine R.bind_congr fun d e1 => ?_
  cases d with
  | bl b => cases b <;> simp [R.Is]
  | _ => simp [R.Is]
theorem is_not : (mNot fa e).Is ok ex ↔ (fa e).Is (fun d e1 => ∃ b, d = .bl b ∧ ok (.bl !b) e1) ex := by
  refine R.bind_congr fun d e1 => ?_
  cases d <;> simp [R.Is]
theorem is_if : (mIf ca fa fb e).Is ok ex ↔ (ca e).Is (fun b e1 => (b = true → (fa e1).Is ok ex) ∧ (b = false → (fb e1).Is ok ex)) ex := by
  refine R.bind_congr fun b e1 => ?_
  cases b <;> simp
theorem is_chain : (mChain h h' fa fb fc e).Is ok ex ↔ (fa e).Is (fun d1 e1 => (fb e1).Is (fun d2 e2 => ∃ b, h d1 d2 = some (.bl b) ∧ (b = true → (fc e2).Is (fun d3 e3 => ∃ d, h' d2 d3 = some d ∧ ok d e3) ex) ∧ (b = false → ok (.bl false) e2)) ex) ex := by
  refine R.bind_congr fun d1 e1 => R.bind_congr fun d2 e2 => ?_
  have key : ((fc e2).bind fun d3 e3 => match h' d2 d3 with
    | some d => R.ok d e3
    | none => .no).Is ok ex ↔ (fc e2).Is (fun d3 e3 => ∃ d, h' d2 d3 = some d ∧ ok d e3) ex := by
    refine R.bind_congr fun d3 e3 => ?_
    cases h' d2 d3 <;> simp [R.Is]
  rcases h d1 d2 with _ | d
  · simp [R.Is]
  · cases d with
    | bl b =>
      cases b
      · simp [R.Is]
      · refine Iff.trans key ?_
        simp
    | _ => simp [R.Is]
theorem is_call {F : PF} {ps : List (Option Nat)} : (mCall F ps fr e).Is ok ex ↔ (fr e).Is (fun ds e1 => ∃ as, fillA e1 ps ds = some as ∧ (F as).Is ⟨fun _ => False, fun d ea => ok d (backA ps ea e1), fun _ => False, fun _ => False, fun x ea => ex x (backA ps ea e1)⟩) ex := by
  refine R.bind_congr fun ds e1 => ?_
  cases fillA e1 ps ds with
  | none => simp [R.Is]
  | some as =>
    cases h : F as <;> simp [R.Is, O.Is, h]
theorem is_sc : (mSc fa e).Is ok ex ↔ (fa e).Is (fun d e1 => d.isSc = true ∧ ok d e1) ex := by
  refine R.bind_congr fun d e1 => ?_
  cases d.isSc <;> simp [R.Is]
end
/-! statements -/
theorem R.toO_congr {r : R β} {f : β → Env → O} {ok' : β → Env → Prop} (h : ∀ a e, (f a e).Is P ↔ ok' a e) : (r.toO f).Is P ↔ r.Is ok' P.ex := R.is_toO.trans (R.Is.congr h)
section
variable {f g : MS} {fa fv fi : ME} {ca : MT} {i j : Nat} {fr : MA}
theorem is_seq : (sSeq f g e).Is P ↔ (f e).Is { P with nx := fun e1 => (g e1).Is P } := by
  unfold sSeq
  cases f e <;> exact Iff.rfl
theorem is_set : (sSet i fa e).Is P ↔ (fa e).Is (fun d e1 => P.nx (e1.set i (some d))) P.ex := R.toO_congr fun _ _ => Iff.rfl
theorem is_drop : (sDrop fa e).Is P ↔ (fa e).Is (fun d e1 => P.nx e1) P.ex := R.toO_congr fun _ _ => Iff.rfl
theorem is_ret : (sRet fa e).Is P ↔ (fa e).Is (fun d e1 => P.rt d e1) P.ex := R.toO_congr fun _ _ => Iff.rfl
theorem is_retN : (sRetN e).Is P ↔ P.rt .non e := Iff.rfl
theorem is_snx : (sNx e).Is P ↔ P.nx e := Iff.rfl
theorem is_brk : (sBrk e).Is P ↔ P.bk e := Iff.rfl
theorem is_cnt : (sCnt e).Is P ↔ P.ct e := Iff.rfl
theorem is_sif : (sIf ca f g e).Is P ↔ (ca e).Is (fun b e1 => (b = true → (f e1).Is P) ∧ (b = false → (g e1).Is P)) P.ex := by
  refine R.toO_congr fun b e1 => ?_
  cases b <;> simp
theorem is_stix : (sStix i fv fi e).Is P ↔ (fv e).Is (fun d e1 => (fi e1).Is (fun k e2 => ∃ j ds n, k = .int j ∧ e2[i]? = some (some (.lst ds)) ∧ ixN ds.length j = some n ∧ P.nx (e2.set i (some (.lst (ds.set n d))))) P.ex) P.ex := by
  refine R.toO_congr fun d e1 => R.toO_congr fun k e2 => ?_
  split
  · rename_i j ds h
    cases h2 : ixN ds.length j with
    | none => exact ⟨fun q => q.elim, fun ⟨j', ds', n', h1', h2', h3', q⟩ => by cases h1'; rw [h] at h2'; cases h2'; rw [h2] at h3'; cases h3'⟩
    | some n => exact ⟨fun q => ⟨j, ds, n, rfl, h, h2, q⟩, fun ⟨j', ds', n', h1', h2', h3', q⟩ => by cases h1'; rw [h] at h2'; cases h2'; rw [h2] at h3'; cases h3'; exact q⟩
  · rename_i h
    exact ⟨fun q => q.elim, fun ⟨j', ds', n', h1', h2', h3', q⟩ => h _ _ h1' h2'⟩
theorem is_aug {h : D → D → Option D} : (sAug i h fa e).Is P ↔ ∃ d, e[i]? = some (some d) ∧ (fa e).Is (fun y e1 => ∃ z, h d y = some z ∧ P.nx (e1.set i (some z))) P.ex := by
  unfold sAug
  have key : ∀ d, ((fa e).toO fun y e1 => match h d y with
    | some z => O.nx (e1.set i (some z))
    | none => .no).Is P ↔ (fa e).Is (fun y e1 => ∃ z, h d y = some z ∧ P.nx (e1.set i (some z))) P.ex := fun d => by
    refine R.toO_congr fun y e1 => ?_
    cases h d y <;> simp [O.Is]
  split
  · rename_i d hd
    exact ⟨fun q => ⟨d, hd, (key d).mp q⟩, fun ⟨d', h', q⟩ => by rw [hd] at h'; cases h'; exact (key d).mpr q⟩
  · rename_i hd
    exact ⟨fun q => q.elim, fun ⟨d', h', q⟩ => hd d' h'⟩
theorem is_augIx {f : Int → Int → Int} {fi fe : ME} : (sAugIx i f fi fe e).Is P ↔ (fi e).Is (fun k e1 => ∃ j ds a, k = .int j ∧ e1[i]? = some (some (.lst ds)) ∧ atI ds j = some (.int a) ∧ (fe e1).Is (fun y e2 => ∃ b ds2 n, y = .int b ∧ e2[i]? = some (some (.lst ds2)) ∧ ixN ds2.length j = some n ∧ P.nx (e2.set i (some (.lst (ds2.set n (.int (f a b))))))) P.ex) P.ex := by
  refine R.toO_congr fun k e1 => ?_
  split
  · rename_i j ds h
    have h' : ∀ ds', e1[i]? = some (some (.lst ds')) → ds' = ds := fun ds' q => by rw [h] at q; cases q; rfl
    split
    · rename_i a h2
      refine Iff.trans (R.toO_congr (ok' := fun y e2 => ∃ b ds2 n, y = .int b ∧ e2[i]? = some (some (.lst ds2)) ∧ ixN ds2.length j = some n ∧ P.nx (e2.set i (some (.lst (ds2.set n (.int (f a b))))))) fun y e2 => ?_) ?_
      · split
        · rename_i b ds2 h3
          cases h4 : ixN ds2.length j with
          | none => exact ⟨fun q => q.elim, fun ⟨j', ds', n', h1', h2', h3', q⟩ => by cases h1'; rw [h3] at h2'; cases h2'; rw [h4] at h3'; cases h3'⟩
          | some n => exact ⟨fun q => ⟨b, ds2, n, rfl, h3, h4, q⟩, fun ⟨j', ds', n', h1', h2', h3', q⟩ => by cases h1'; rw [h3] at h2'; cases h2'; rw [h4] at h3'; cases h3'; exact q⟩
        · rename_i h3
          exact ⟨fun q => q.elim, fun ⟨j', ds', n', h1', h2', h3', q⟩ => h3 _ _ h1' h2'⟩
      · exact ⟨fun q => ⟨j, ds, a, rfl, h, h2, q⟩, fun ⟨j', ds', a', h1', h2', h3', q⟩ => by cases h1'; cases h' _ h2'; rw [h2] at h3'; cases h3'; exact q⟩
    · rename_i h2
      exact ⟨fun q => q.elim, fun ⟨j', ds', a', h1', h2', h3', q⟩ => by cases h1'; cases h' _ h2'; exact h2 _ h3'⟩
  · rename_i h
    exact ⟨fun q => q.elim, fun ⟨j', ds', a', h1', h2', h3', q⟩ => h _ _ h1' h2'⟩
theorem is_par {j : Nat} : (sPar i j fr e).Is P ↔ (fr e).Is (fun ds e1 => ∃ x y, ds = [x, y] ∧ P.nx ((e1.set i (some x)).set j (some y))) P.ex := by
  refine R.toO_congr fun ds e1 => ?_
  split
  · exact ⟨fun q => ⟨_, _, rfl, q⟩, fun ⟨x', y', h, q⟩ => by cases h; exact q⟩
  · rename_i h
    exact ⟨fun q => q.elim, fun ⟨x', y', h', q⟩ => h _ _ h'⟩
end
end
end G

/-! Fp2 -/
/-! trees as data: what is plain, how deep, how long its text -/
namespace G
open PySem L2
mutual
def D.fine : D → Bool
  | .non => true
  | .bl _ => true
  | .int i => decide (i.natAbs.log2 < 300)
  | .str s => PyData.strOk s
  | .tup xs => D.fineL xs
  | .lst xs => D.fineL xs
  | .dic _ => false
  | .obj _ _ => false
def D.fineL : List D → Bool
  | [] => true
  | x :: xs => x.fine && D.fineL xs
end
mutual
def D.dep : D → Nat
  | .tup xs => D.depL xs + 1
  | .lst xs => D.depL xs + 1
  | _ => 0
def D.depL : List D → Nat
  | [] => 0
  | x :: xs => max x.dep (D.depL xs)
end
mutual
def D.wt : D → Nat
  | .int _ => 302
  | .str s => 10 * s.length + 2
  | .tup xs => 4 + D.wtL xs
  | .lst xs => 4 + D.wtL xs
  | _ => 5
def D.wtL : List D → Nat
  | [] => 0
  | x :: xs => x.wt + 2 + D.wtL xs
end
theorem strOk_lt {s : Str} (h : PyData.strOk s = true) : ∀ c ∈ s.cps.toList, c < 0x110000 := by
  intro c hc
  unfold PyData.strOk at h
  rw [Array.all_eq_true_iff_forall_mem] at h
  simpa using h c (by simpa using hc)
theorem log2_le {n k : Nat} (h : n.log2 < k) : n < 2 ^ k := by
  by_cases h0 : n = 0
  · subst h0; exact Nat.two_pow_pos k
  · exact (Nat.log2_lt h0).mp h
theorem piled_shown : ∀ ts : List Str, ∀ n, piled ts ≤ n → (listText ts).length ≤ n + 2 ∧ (tupleText ts).length ≤ n + 3 := by
  intro ts n h
  constructor
  · unfold listText
    rw [strLen_append]
    have key : ∀ (ts : List Str) (k : Nat) (acc : Str), (textFrom k acc ts).length ≤ acc.length + piled ts := by
      intro ts
      induction ts with
      | nil => intro k acc; exact Nat.le_add_right _ _
      | cons t r ih =>
        intro k acc
        refine Nat.le_trans (ih (k + 1) _) ?_
        rw [strLen_append, strLen_append, piled_cons]
        have : (((if k > 0 then ", " else "" : String) : Str)).length ≤ 2 := by split <;> decide
        omega
    have h1 := key ts 0 ("[" : Str)
    have e1 : ((("[" : String) : Str)).length = 1 := rfl
    have e2 : ((("]" : String) : Str)).length = 1 := rfl
    omega
  · unfold tupleText
    rw [strLen_append, strLen_append]
    have e1 : ((("(" : String) : Str)).length = 1 := rfl
    have e3 : (((if ts.length == 1 then ",)" else ")" : String) : Str)).length ≤ 2 := by split <;> decide
    by_cases hn : ts = []
    · subst hn
      have : (Str.join ", " ([] : List Str)).length = 0 := rfl
      omega
    · have := join_length_add ts hn
      omega
mutual
theorem D.fine_py : ∀ d : D, d.fine = true → ∃ p, d.py = some p ∧ p.canLay0 = true ∧ p.showable = true ∧ p.depth = d.dep ∧ p.shown.length ≤ d.wt
  | .non, _ => ⟨.none, rfl, rfl, rfl, rfl, Nat.le_of_ble_eq_true rfl⟩
  | .bl b, _ => ⟨.bool b, rfl, rfl, rfl, rfl, by cases b <;> exact Nat.le_of_ble_eq_true rfl⟩
  | .int i, h => by
    have h : i.natAbs.log2 < 300 := by simpa [D.fine] using h
    refine ⟨.int i, rfl, rfl, ?_, rfl, ?_⟩
    · simp only [PyData.showable]
      exact decide_eq_true (by omega)
    · show (Str.ofString (toString i)).length ≤ 302
      have := int_text_length_le (k := 300) (by decide) h
      rw [ofString_length]
      omega
  | .str s, h => by
    have h : PyData.strOk s = true := by simpa [D.fine] using h
    refine ⟨.str s, rfl, by simpa [PyData.canLay0] using h, rfl, rfl, ?_⟩
    show (reprText s).length ≤ 10 * s.length + 2
    exact StrLaws.reprText_len s fun c hc => Nat.lt_of_lt_of_le (strOk_lt h c hc) (Nat.le_of_ble_eq_true rfl)
  | .tup xs, h => by
    obtain ⟨ps, h1, h2, h3, h4, h5⟩ := D.fineL_py xs (by simpa [D.fine] using h)
    refine ⟨.tuple ps, by simp only [D.py, h1, Option.map_some], by simpa [PyData.canLay0] using h2, by simpa [PyData.showable] using h3, by simp only [PyData.depth, D.dep, h4], ?_⟩
    simp only [PyData.shown, D.wt]
    have := (piled_shown _ _ h5).2
    omega
  | .lst xs, h => by
    obtain ⟨ps, h1, h2, h3, h4, h5⟩ := D.fineL_py xs (by simpa [D.fine] using h)
    refine ⟨.list ps, by simp only [D.py, h1, Option.map_some], by simpa [PyData.canLay0] using h2, by simpa [PyData.showable] using h3, by simp only [PyData.depth, D.dep, h4], ?_⟩
    simp only [PyData.shown, D.wt]
    have := (piled_shown _ _ h5).1
    omega
  | .dic _, h => by simp [D.fine] at h
  | .obj _ _, h => by simp [D.fine] at h
theorem D.fineL_py : ∀ ds : List D, D.fineL ds = true → ∃ ps, D.pyL ds = some ps ∧ PyData.canLayAll0 ps = true ∧ PyData.showableAll ps = true ∧ PyData.depthAll ps = D.depL ds ∧ piled (PyData.shownAll ps) ≤ D.wtL ds
  | [], _ => ⟨[], rfl, rfl, rfl, rfl, Nat.le_of_ble_eq_true rfl⟩
  | d :: ds, h => by
    have h : d.fine = true ∧ D.fineL ds = true := by simpa [D.fineL] using h
    obtain ⟨p, h1, h2, h3, h4, h5⟩ := D.fine_py d h.1
    obtain ⟨ps, k1, k2, k3, k4, k5⟩ := D.fineL_py ds h.2
    refine ⟨p :: ps, by simp only [D.pyL, h1, k1], by simp [PyData.canLayAll0, h2, k2], by simp [PyData.showableAll, h3, k3], by simp only [PyData.depthAll, D.depL, h4, k4], ?_⟩
    simp only [PyData.shownAll, D.wtL]
    rw [piled_cons]
    omega
end
mutual
theorem eqv_refl : ∀ p : PyData, p.canLay0 = true → PyData.eqv p p = true
  | .none, _ => rfl
  | .bool b, _ => by simp [PyData.eqv]
  | .int i, _ => by simp [PyData.eqv]
  | .str i, _ => by simp [PyData.eqv]
  | .list xs, h => by simp only [PyData.eqv]; exact eqvAll_refl xs (by simpa [PyData.canLay0] using h)
  | .tuple xs, h => by simp only [PyData.eqv]; exact eqvAll_refl xs (by simpa [PyData.canLay0] using h)
  | .dict _, h => by simp [PyData.canLay0] at h
theorem eqvAll_refl : ∀ ps : List PyData, PyData.canLayAll0 ps = true → PyData.eqvAll ps ps = true
  | [], _ => rfl
  | p :: ps, h => by
    have h : p.canLay0 = true ∧ PyData.canLayAll0 ps = true := by simpa [PyData.canLayAll0] using h
    simp [PyData.eqvAll, eqv_refl p h.1, eqvAll_refl ps h.2]
end
/-- data that may be compared and shown -/
structure D.Ok (d : D) : Prop where
  f : d.fine = true
  dd : d.dep ≤ 60
  w : d.wt ≤ 16000000
theorem D.Ok.py {d : D} (h : d.Ok) : ∃ p, d.py = some p ∧ SeqAt.shaped p = true ∧ p.canLay0 = true := by
  obtain ⟨p, h1, h2, h3, h4, h5⟩ := D.fine_py d h.f
  refine ⟨p, h1, ?_, h2⟩
  unfold SeqAt.shaped
  rw [h2, h4, decide_eq_true (Nat.le_trans h.dd (by decide))]
  rfl
theorem strEq_self (d : D) : strEq d d = none ∨ strEq d d = some true := by
  cases d <;> first | exact .inl rfl | (refine .inr ?_; unfold strEq; simp)
theorem D.Ok.eqN {d : D} (h : d.Ok) (neg : Bool) : opEqN neg d d = some (.bl (!neg)) := by
  obtain ⟨p, h1, h2, h3⟩ := h.py
  unfold opEqN
  rcases strEq_self d with e | e
  · simp only [e, h1, h2, Bool.and_self, if_true, eqv_refl p h3]
    cases neg <;> rfl
  · simp only [e]
    cases neg <;> rfl
theorem D.Ok.eq {d : D} (h : d.Ok) : opEq d d = some (.bl true) := h.eqN false
theorem D.Ok.ne {d : D} (h : d.Ok) : opNe d d = some (.bl false) := h.eqN true
theorem opEq_str {x y : Str} : opEq (.str x) (.str y) = some (.bl (decide (x = y))) := rfl
theorem opNe_str {x y : Str} : opNe (.str x) (.str y) = some (.bl (!decide (x = y))) := rfl
theorem D.Ok.repr {d : D} (h : d.Ok) : ∃ s, hRepr [d] = some (.str s) := by
  obtain ⟨p, h1, h2, h3, h4, h5⟩ := D.fine_py d h.f
  have e : pyR d = some p := by
    unfold pyR
    cases d with
    | dic _ => exact nomatch h.f
    | _ => simp only [h1, h2, if_true]
  refine ⟨p.shown, ?_⟩
  unfold hRepr
  have e2 : (p.showable && decide (p.depth ≤ 60) && decide (p.shown.length ≤ sizeLine)) = true := by
    rw [h3, h4, decide_eq_true h.dd, decide_eq_true (Nat.le_trans h5 (Nat.le_trans h.w (by rw [sizeLine_eq]; decide)))]
    rfl
  simp only [e, e2, if_true]
end G

/-! FpW -/
/-! one step at a time -/
namespace G
open PySem L2
@[irreducible] def Wr {α : Type} (r : R α) (ok : α → Env → Prop) (ex : D → Env → Prop) : Prop := r.Is ok ex
@[irreducible] def Ws (o : O) (P : Po) : Prop := o.Is P
@[irreducible] def Op1 (h : D → Option D) (d : D) (K : D → Prop) : Prop := ∃ z, h d = some z ∧ K z
@[irreducible] def Op2 (h : D → D → Option D) (a b : D) (K : D → Prop) : Prop := ∃ z, h a b = some z ∧ K z
@[irreducible] def OpL (h : List D → Option D) (ds : List D) (K : D → Prop) : Prop := ∃ z, h ds = some z ∧ K z
@[irreducible] def IsBl (d : D) (K : Bool → Prop) : Prop := ∃ b, d = .bl b ∧ K b
@[irreducible] def Cond (b : Bool) (A B : Prop) : Prop := (b = true → A) ∧ (b = false → B)
@[irreducible] def OptV {α : Type} (o : Option α) (K : α → Prop) : Prop := ∃ a, o = some a ∧ K a
@[irreducible] def SlotV (o : Option (Option D)) (K : D → Prop) : Prop := ∃ d, o = some (some d) ∧ K d
@[irreducible] def AsInt (d : D) (K : Int → Prop) : Prop := ∃ i, d = .int i ∧ K i
@[irreducible] def AsLst (d : D) (K : List D → Prop) : Prop := ∃ i, d = .lst i ∧ K i
@[irreducible] def Two (ds : List D) (K : D → D → Prop) : Prop := ∃ x y, ds = [x, y] ∧ K x y
@[irreducible] def LenV (n : Nat) (K : Prop) : Prop := n ≤ 100000 ∧ K
@[irreducible] def ScV (d : D) (K : Prop) : Prop := d.isSc = true ∧ K
def hIsa (T : String) (d : D) : Option D := (tyN d).bind fun t => (kitB t T).map .bl
theorem R.Is.imp {α : Type} {r : R α} {ok ok' : α → Env → Prop} {ex : D → Env → Prop} (h : r.Is ok ex) (h1 : ∀ a e, ok a e → ok' a e) : r.Is ok' ex := h.mono h1 fun _ _ z => z
theorem Wr.mono {α : Type} {r : R α} {ok ok' : α → Env → Prop} {ex ex' : D → Env → Prop} (h : Wr r ok ex) (h1 : ∀ a e, ok a e → ok' a e) (h2 : ∀ x e, ex x e → ex' x e) : Wr r ok' ex' := by
  unfold Wr at h ⊢
  exact h.mono h1 h2
theorem Ws.mono {o : O} {P P' : Po} (h : Ws o P) (h1 : ∀ e, P.nx e → P'.nx e) (h2 : ∀ d e, P.rt d e → P'.rt d e) (h3 : ∀ e, P.bk e → P'.bk e) (h4 : ∀ e, P.ct e → P'.ct e) (h5 : ∀ d e, P.ex d e → P'.ex d e) : Ws o P' := by
  unfold Ws at h ⊢
  exact h.mono h1 h2 h3 h4 h5
namespace W
section
variable {α : Type} {e : Env} {ok : D → Env → Prop} {ex : D → Env → Prop} {d : D} {i j : Nat} {fa fb fc fi fv : ME} {h h' : D → D → Option D} {hu : D → Option D} {hf : List D → Option D} {fr : MA} {okA : List D → Env → Prop} {okT : Bool → Env → Prop} {ca cb : MT} {P : Po} {f g : MS} {K : D → Prop} {A B : Prop} {b : Bool} {p : Prop} {KB : Bool → Prop}
/-! what stands there -/
theorem isWr {r : R α} {ok : α → Env → Prop} (q : Wr r ok ex) : Wr r ok ex := q
theorem isWs {o : O} (q : Ws o P) : Ws o P := q
theorem isOp2 {x y : D} (q : Op2 h x y K) : Op2 h x y K := q
theorem isOpL {ds : List D} (q : OpL hf ds K) : OpL hf ds K := q
theorem isCond (q : Cond b A B) : Cond b A B := q
/-! statements -/
theorem seq (q : Ws (f e) ⟨fun e1 => Ws (g e1) P, P.rt, P.bk, P.ct, P.ex⟩) : Ws (sSeq f g e) P := by
  unfold Ws at q ⊢
  refine is_seq.mpr (q.mono (fun e1 z => ?_) (fun _ _ z => z) (fun _ z => z) (fun _ z => z) fun _ _ z => z)
  unfold Ws at z
  exact z
/-- a part of its own, by what holds behind it -/
theorem cut (M : Env → Prop) (q : Ws (f e) ⟨M, P.rt, P.bk, P.ct, P.ex⟩) (r : ∀ e1, M e1 → Ws (g e1) P) : Ws (sSeq f g e) P := seq (q.mono r (fun _ _ z => z) (fun _ z => z) (fun _ z => z) fun _ _ z => z)
theorem set (q : Wr (fa e) (fun d e1 => P.nx (e1.set i (some d))) P.ex) : Ws (sSet i fa e) P := by
  unfold Wr at q; unfold Ws; exact is_set.mpr q
theorem drop (q : Wr (fa e) (fun d e1 => P.nx e1) P.ex) : Ws (sDrop fa e) P := by
  unfold Wr at q; unfold Ws; exact is_drop.mpr q
theorem ret (q : Wr (fa e) (fun d e1 => P.rt d e1) P.ex) : Ws (sRet fa e) P := by
  unfold Wr at q; unfold Ws; exact is_ret.mpr q
theorem retN (q : P.rt .non e) : Ws (sRetN e) P := by unfold Ws; exact q
theorem snx (q : P.nx e) : Ws (sNx e) P := by unfold Ws; exact q
theorem brk (q : P.bk e) : Ws (sBrk e) P := by unfold Ws; exact q
theorem cnt (q : P.ct e) : Ws (sCnt e) P := by unfold Ws; exact q
theorem sif (q : Wr (ca e) (fun b e1 => Cond b (Ws (f e1) P) (Ws (g e1) P)) P.ex) : Ws (sIf ca f g e) P := by
  unfold Wr at q; unfold Ws; exact is_sif.mpr (q.imp fun b e1 z => by unfold Cond Ws at z; exact z)
theorem stix (q : Wr (fv e) (fun d e1 => Wr (fi e1) (fun k e2 => AsInt k fun j => SlotV e2[i]? fun l => AsLst l fun ds => OptV (ixN ds.length j) fun n => P.nx (e2.set i (some (.lst (ds.set n d))))) P.ex) P.ex) : Ws (sStix i fv fi e) P := by
  unfold Wr at q; unfold Ws; refine is_stix.mpr (q.imp fun d e1 z => ?_)
  refine z.imp fun k e2 z => ?_
  unfold AsInt SlotV AsLst OptV at z
  obtain ⟨j, h1, d', h2, ds, h3, n, h4, z⟩ := z
  subst h3
  exact ⟨j, ds, n, h1, h2, h4, z⟩
theorem augIx {fn : Int → Int → Int} (q : Wr (fi e) (fun k e1 => AsInt k fun j => SlotV e1[i]? fun l => AsLst l fun ds => OptV (atI ds j) fun x => AsInt x fun a => Wr (fv e1) (fun y e2 => AsInt y fun b => SlotV e2[i]? fun l2 => AsLst l2 fun ds2 => OptV (ixN ds2.length j) fun n => P.nx (e2.set i (some (.lst (ds2.set n (.int (fn a b))))))) P.ex) P.ex) : Ws (sAugIx i fn fi fv e) P := by
  unfold Wr at q; unfold Ws; refine is_augIx.mpr (q.imp fun k e1 z => ?_)
  unfold AsInt SlotV AsLst OptV at z
  obtain ⟨j, h1, d', h2, ds, h3, x, h4, a, h5, z⟩ := z
  subst h3; subst h5
  refine ⟨j, ds, a, h1, h2, h4, ?_⟩
  refine z.imp fun y e2 z => ?_
  obtain ⟨b, h1, d', h2, ds2, h3, n, h4, z⟩ := z
  subst h3
  exact ⟨b, ds2, n, h1, h2, h4, z⟩
theorem aug (q : SlotV e[i]? fun d => Wr (fa e) (fun y e1 => Op2 h d y fun z => P.nx (e1.set i (some z))) P.ex) : Ws (sAug i h fa e) P := by
  unfold SlotV Wr at q; unfold Ws
  obtain ⟨d, h1, q⟩ := q
  exact is_aug.mpr ⟨d, h1, q.imp fun y e1 z => by unfold Op2 at z; exact z⟩
theorem par (q : Wr (fr e) (fun ds e1 => Two ds fun x y => P.nx ((e1.set i (some x)).set j (some y))) P.ex) : Ws (sPar i j fr e) P := by
  unfold Wr at q; unfold Ws
  exact is_par.mpr (q.imp fun ds e1 z => by unfold Two at z; exact z)
/-! expressions -/
theorem c (q : ok d e) : Wr (mC d e) ok ex := by unfold Wr; exact q
theorem var (q : SlotV e[i]? fun d => ok d e) : Wr (mVar i e) ok ex := by unfold SlotV at q; unfold Wr; exact is_var.mpr q
theorem bin (q : Wr (fa e) (fun d1 e1 => Wr (fb e1) (fun d2 e2 => Op2 h d1 d2 fun d => ok d e2) ex) ex) : Wr (mBin h fa fb e) ok ex := by
  unfold Wr at q ⊢
  exact is_bin.mpr (q.imp fun d1 e1 z => z.imp fun d2 e2 z => by unfold Op2 at z; exact z)
theorem un (q : Wr (fa e) (fun d1 e1 => Op1 hu d1 fun d => ok d e1) ex) : Wr (mUn hu fa e) ok ex := by
  unfold Wr at q ⊢
  exact is_un.mpr (q.imp fun d1 e1 z => by unfold Op1 at z; exact z)
theorem fn (q : Wr (fr e) (fun ds e1 => OpL hf ds fun d => ok d e1) ex) : Wr (mFn hf fr e) ok ex := by
  unfold Wr at q ⊢
  exact is_fn.mpr (q.imp fun d1 e1 z => by unfold OpL at z; exact z)
theorem nil (q : okA [] e) : Wr (aNil e) okA ex := by unfold Wr; exact q
theorem cons (q : Wr (fa e) (fun d e1 => Wr (fr e1) (fun ds e2 => okA (d :: ds) e2) ex) ex) : Wr (aCons fa fr e) okA ex := by
  unfold Wr at q ⊢
  exact is_cons.mpr (q.imp fun d1 e1 z => z)
theorem lent (q : Wr (fr e) (fun ds e2 => okA (.non :: ds) e2) ex) : Wr (bLent fr e) okA ex := by
  unfold Wr at q ⊢
  exact is_lent.mpr q
theorem lst (q : Wr (fr e) (fun ds e1 => LenV ds.length (ok (.lst ds) e1)) ex) : Wr (mLst fr e) ok ex := by
  unfold Wr at q ⊢
  exact is_lst.mpr (q.imp fun ds e1 z => by unfold LenV at z; exact z)
theorem tup (q : Wr (fr e) (fun ds e1 => LenV ds.length (ok (.tup ds) e1)) ex) : Wr (mTup fr e) ok ex := by
  unfold Wr at q ⊢
  exact is_tup.mpr (q.imp fun ds e1 z => by unfold LenV at z; exact z)
theorem len {n : Nat} {A : Prop} (h : n ≤ 100000) (q : A) : LenV n A := by unfold LenV; exact ⟨h, q⟩
theorem scv {A : Prop} (h : d.isSc = true) (q : A) : ScV d A := by unfold ScV; exact ⟨h, q⟩
theorem ixs (q : Wr (fb e) (fun d2 e2 => SlotV e2[i]? fun d1 => Op2 opIx d1 d2 fun d => ok d e2) ex) : Wr (mIxs i fb e) ok ex := by
  unfold Wr at q ⊢
  exact is_ixs.mpr (q.imp fun d1 e1 z => by
    unfold SlotV Op2 at z
    exact z)
theorem isa {T : String} (q : Wr (fa e) (fun d e1 => Op1 (hIsa T) d fun z => ok z e1) ex) : Wr (mIsa T fa e) ok ex := by
  unfold Wr at q ⊢
  exact is_isa.mpr (q.mono (fun d e1 z => by
  unfold Op1 at z
  obtain ⟨z, h, k⟩ := z
  unfold hIsa at h
  cases ht : tyN d with
  | none => rw [ht] at h; cases h
  | some t =>
    rw [ht] at h
    cases hb : kitB t T with
    | none => simp [hb] at h
    | some b =>
      simp [hb] at h
      subst h
      exact ⟨t, rfl, b, hb, k⟩) fun _ _ z => z)
theorem test (q : Wr (fa e) (fun d e1 => IsBl d fun b => okT b e1) ex) : Wr (mTest fa e) okT ex := by
  unfold Wr at q ⊢
  exact is_test.mpr (q.imp fun d1 e1 z => by unfold IsBl at z; exact z)
theorem tnot (q : Wr (ca e) (fun b e1 => okT (!b) e1) ex) : Wr (tNotP ca e) okT ex := by
  unfold Wr at q ⊢
  exact is_tnot.mpr q
theorem tand (q : Wr (ca e) (fun b e1 => Cond b (Wr (cb e1) okT ex) (okT false e1)) ex) : Wr (tAndP ca cb e) okT ex := by
  unfold Wr at q ⊢
  exact is_tand.mpr (q.imp fun d1 e1 z => by unfold Cond at z; exact z)
theorem tor (q : Wr (ca e) (fun b e1 => Cond b (okT true e1) (Wr (cb e1) okT ex)) ex) : Wr (tOrP ca cb e) okT ex := by
  unfold Wr at q ⊢
  exact is_tor.mpr (q.imp fun d1 e1 z => by unfold Cond at z; exact z)
theorem and (q : Wr (fa e) (fun d e1 => IsBl d fun b => Cond b (Wr (fb e1) ok ex) (ok (.bl false) e1)) ex) : Wr (mAnd fa fb e) ok ex := by
  unfold Wr at q ⊢
  exact is_and.mpr (q.imp fun d1 e1 z => by unfold IsBl Cond at z; exact z)
theorem or (q : Wr (fa e) (fun d e1 => IsBl d fun b => Cond b (ok (.bl true) e1) (Wr (fb e1) ok ex)) ex) : Wr (mOr fa fb e) ok ex := by
  unfold Wr at q ⊢
  exact is_or.mpr (q.imp fun d1 e1 z => by unfold IsBl Cond at z; exact z)
theorem not (q : Wr (fa e) (fun d e1 => IsBl d fun b => ok (.bl !b) e1) ex) : Wr (mNot fa e) ok ex := by
  unfold Wr at q ⊢
  exact is_not.mpr (q.imp fun d1 e1 z => by unfold IsBl at z; exact z)
theorem ite (q : Wr (ca e) (fun b e1 => Cond b (Wr (fa e1) ok ex) (Wr (fb e1) ok ex)) ex) : Wr (mIf ca fa fb e) ok ex := by
  unfold Wr at q ⊢
  exact is_if.mpr (q.imp fun d1 e1 z => by unfold Cond at z; exact z)
theorem chain (q : Wr (fa e) (fun d1 e1 => Wr (fb e1) (fun d2 e2 => Op2 h d1 d2 fun z => IsBl z fun b => Cond b (Wr (fc e2) (fun d3 e3 => Op2 h' d2 d3 fun d => ok d e3) ex) (ok (.bl false) e2)) ex) ex) : Wr (mChain h h' fa fb fc e) ok ex := by
  unfold Wr at q ⊢
  refine is_chain.mpr (q.imp fun d1 e1 q => ?_)
  refine q.imp fun d2 e2 q => ?_
  unfold Op2 IsBl Cond at q
  obtain ⟨z, h1, b, rfl, k1, k2⟩ := q
  refine ⟨b, h1, fun hb => (k1 hb).imp fun d3 e3 z => z, k2⟩
theorem call {F : PF} {ps : List (Option Nat)} (q : Wr (fr e) (fun ds e1 => OptV (fillA e1 ps ds) fun as => Ws (F as) ⟨fun _ => False, fun d ea => ok d (backA ps ea e1), fun _ => False, fun _ => False, fun x ea => ex x (backA ps ea e1)⟩) ex) : Wr (mCall F ps fr e) ok ex := by
  unfold Wr at q ⊢
  exact is_call.mpr (q.imp fun d1 e1 z => by unfold OptV Ws at z; exact z)
theorem sc (q : Wr (fa e) (fun d e1 => ScV d (ok d e1)) ex) : Wr (mSc fa e) ok ex := by
  unfold Wr at q ⊢
  exact is_sc.mpr (q.imp fun d e1 z => by unfold ScV at z; exact z)
theorem lock (q : OptV e[i]? fun x => Wr (fa e) (fun d e1 => ok d (e1.set i x)) fun _ _ => False) : Wr (mLock i fa e) ok ex := by
  unfold OptV Wr at q
  obtain ⟨x, hx, q⟩ := q
  unfold Wr mLock
  rw [hx]
  cases hf : fa e with
  | ok d e1 => rw [hf] at q; exact q
  | ex x e1 => rw [hf] at q; exact q.elim
  | no => rw [hf] at q; exact q.elim
theorem tlock (q : OptV e[i]? fun x => Wr (ca e) (fun d e1 => okT d (e1.set i x)) fun _ _ => False) : Wr (tLock i ca e) okT ex := by
  unfold OptV Wr at q
  obtain ⟨x, hx, q⟩ := q
  unfold Wr tLock
  rw [hx]
  cases hf : ca e with
  | ok d e1 => rw [hf] at q; exact q
  | ex x e1 => rw [hf] at q; exact q.elim
  | no => rw [hf] at q; exact q.elim
/-! values -/
theorem optv {a : α} {KO : α → Prop} (q : KO a) : OptV (some a) KO := by unfold OptV; exact ⟨a, rfl, q⟩
theorem opt {o : Option α} {a : α} {KO : α → Prop} (h : o = some a) (q : KO a) : OptV o KO := by unfold OptV; exact ⟨a, h, q⟩
theorem slotv (q : K d) : SlotV (some (some d)) K := by unfold SlotV; exact ⟨d, rfl, q⟩
theorem asint {n : Int} {KI : Int → Prop} (q : KI n) : AsInt (.int n) KI := by unfold AsInt; exact ⟨n, rfl, q⟩
theorem aslst {n : List D} {KI : List D → Prop} (q : KI n) : AsLst (.lst n) KI := by unfold AsLst; exact ⟨n, rfl, q⟩
theorem two {x y : D} {K2 : D → D → Prop} (q : K2 x y) : Two [x, y] K2 := by unfold Two; exact ⟨x, y, rfl, q⟩
theorem op1 {z : D} (e : hu d = some z) (q : K z) : Op1 hu d K := by unfold Op1; exact ⟨z, e, q⟩
theorem op2 {x y z : D} (e : h x y = some z) (q : K z) : Op2 h x y K := by unfold Op2; exact ⟨z, e, q⟩
theorem opL {ds : List D} {z : D} (e : hf ds = some z) (q : K z) : OpL hf ds K := by unfold OpL; exact ⟨z, e, q⟩
theorem bl (q : KB b) : IsBl (.bl b) KB := by unfold IsBl; exact ⟨b, rfl, q⟩
theorem condB (q : b = true → A) (r : b = false → B) : Cond b A B := by unfold Cond; exact ⟨q, r⟩
theorem cond [Decidable p] (q : p → A) (r : ¬p → B) : Cond (decide p) A B := condB (fun h => q (of_decide_eq_true h)) fun h => r (of_decide_eq_false h)
theorem condN [Decidable p] (q : ¬p → A) (r : p → B) : Cond (!decide p) A B := condB (fun h => q (by simpa using h)) fun h => r (by simpa using h)
theorem condT (q : A) : Cond true A B := condB (fun _ => q) fun h => nomatch h
theorem condF (q : B) : Cond false A B := condB (fun h => nomatch h) fun _ => q
theorem condP [Decidable p] (h : p) (q : A) : Cond (decide p) A B := cond (fun _ => q) fun n => absurd h n
theorem condM [Decidable p] (h : ¬p) (q : B) : Cond (decide p) A B := cond (fun n => absurd n h) fun _ => q
theorem condNT (q : B) : Cond (!true) A B := condF q
theorem condNF (q : A) : Cond (!false) A B := condT q
theorem condNN (q : Cond b A B) : Cond (!!b) A B := by rw [Bool.not_not]; exact q
/-- a def by its body -/
theorem runF {n k : Nat} {ds : List D} {e0 : Env} (he : ds.map some ++ List.replicate (n - ds.length) none = e0) (q : Ws (f e0) ⟨fun e => P.rt .non (e.take k), fun d e => P.rt d (e.take k), fun _ => False, fun _ => False, fun x e => P.ex x (e.take k)⟩) : Ws (G.runF n k f ds) P := by
  subst he
  unfold Ws at q ⊢
  unfold G.runF
  cases hf : f (ds.map some ++ List.replicate (n - ds.length) none) <;> (rw [hf] at q; exact q)
/-- what is known of an outcome by an equation -/
theorem rt {o : O} {d : D} {e : Env} (h : o = .rt d e) (q : P.rt d e) : Ws o P := by unfold Ws; rw [h]; exact q
theorem of_ws {o : O} {Q : D → Env → Prop} (h : Ws o ⟨fun _ => False, Q, fun _ => False, fun _ => False, fun _ _ => False⟩) : ∃ d e, o = .rt d e ∧ Q d e := by
  unfold Ws at h
  cases o with
  | rt d e => exact ⟨d, e, rfl, h⟩
  | nx e => exact h.elim
  | bk e => exact h.elim
  | ct e => exact h.elim
  | ex x e => exact h.elim
  | no => exact h.elim
/-! operations on ints and the like -/
theorem add_int {i j : Int} (q : K (.int (i + j))) : Op2 opAdd (.int i) (.int j) K := op2 rfl q
theorem sub_int {i j : Int} (q : K (.int (i - j))) : Op2 opSub (.int i) (.int j) K := op2 rfl q
theorem mod_int {i j : Int} (h : 0 < j) (q : K (.int (i % j))) : Op2 opMod (.int i) (.int j) K := op2 (by
  unfold opMod opI
  simp only [h, decide_true, if_true]) q
theorem fdiv_int {i j : Int} (h : 0 < j ∧ j.natAbs.log2 < 9000) (q : K (.int (i / j))) : Op2 opFdivA (.int i) (.int j) K := op2 (by
  unfold opFdivA opI
  simp only [h, decide_true, Bool.and_self, if_true]) q
theorem mul_r {i j : Int} (h : -(2 ^ 64) < j ∧ j < 2 ^ 64) (q : K (.int (i * j))) : Op2 opMulA (.int i) (.int j) K := op2 (by
  unfold opMulA
  simp only [h, decide_true, Bool.and_self, Bool.true_or, Bool.or_true, if_true]) q
theorem mul_l {i j : Int} (h : -(2 ^ 64) < i ∧ i < 2 ^ 64) (q : K (.int (i * j))) : Op2 opMulA (.int i) (.int j) K := op2 (by
  unfold opMulA
  simp only [h, decide_true, Bool.and_self, Bool.true_or, Bool.or_true, if_true]) q
theorem shaped_int (k : Int) : SeqAt.shaped (.int k) = true := rfl
theorem opEqN_int {neg : Bool} {i j : Int} : opEqN neg (.int i) (.int j) = some (.bl (if neg then !decide (i = j) else decide (i = j))) := by
  show (if SeqAt.shaped (.int i) && SeqAt.shaped (.int j) then some (D.bl (if neg then !PyData.eqv (.int i) (.int j) else PyData.eqv (.int i) (.int j))) else none) = _
  rw [shaped_int, shaped_int]
  simp only [Bool.and_self, if_true, PyData.eqv, Option.some.injEq, D.bl.injEq]
  rw [show (i == j) = decide (i = j) by exact Bool.eq_iff_iff.mpr (by simp)]
theorem opEq_int {i j : Int} : opEq (.int i) (.int j) = some (.bl (decide (i = j))) := opEqN_int
theorem opNe_int {i j : Int} : opNe (.int i) (.int j) = some (.bl (!decide (i = j))) := opEqN_int
theorem eq_str {i j : Str} (q : K (.bl (decide (i = j)))) : Op2 opEq (.str i) (.str j) K := op2 rfl q
theorem ne_str {i j : Str} (q : K (.bl (!decide (i = j)))) : Op2 opNe (.str i) (.str j) K := op2 rfl q
theorem eq_int {i j : Int} (q : K (.bl (decide (i = j)))) : Op2 opEq (.int i) (.int j) K := op2 opEq_int q
theorem ne_int {i j : Int} (q : K (.bl (!decide (i = j)))) : Op2 opNe (.int i) (.int j) K := op2 opNe_int q
theorem lt_int {i j : Int} (q : K (.bl (decide (i < j)))) : Op2 opLt (.int i) (.int j) K := op2 rfl q
theorem le_int {i j : Int} (q : K (.bl (decide (i ≤ j)))) : Op2 opLe (.int i) (.int j) K := op2 rfl q
theorem gt_int {i j : Int} (q : K (.bl (decide (j < i)))) : Op2 opGt (.int i) (.int j) K := op2 rfl q
theorem ge_int {i j : Int} (q : K (.bl (decide (j ≤ i)))) : Op2 opGe (.int i) (.int j) K := op2 rfl q
theorem int_int {i : Int} (q : K (.int i)) : OpL hInt [.int i] K := opL rfl q
theorem len_lst {xs : List D} (q : K (.int xs.length)) : OpL hLen [.lst xs] K := opL rfl q
theorem len_tup {xs : List D} (q : K (.int xs.length)) : OpL hLen [.tup xs] K := opL rfl q
theorem ix_lst {xs : List D} {i : Int} (q : OptV (atI xs i) K) : Op2 opIx (.lst xs) (.int i) K := by unfold OptV at q; unfold Op2; exact q
theorem ix_tup {xs : List D} {i : Int} (q : OptV (atI xs i) K) : Op2 opIx (.tup xs) (.int i) K := by unfold OptV at q; unfold Op2; exact q
theorem neg_int {i : Int} (q : K (.int (-i))) : Op1 hNeg (.int i) K := op1 rfl q
end
end W
theorem ixN_of {n : Nat} {i : Int} (h0 : 0 ≤ i) (h1 : i < n) : ixN n i = some i.toNat := by unfold ixN; rw [if_pos h0, if_pos h1]
theorem atI_of {α : Type} {xs : List α} {i : Int} {n : Nat} {x : α} (h0 : i = n) (h : xs[n]? = some x) : atI xs i = some x := by
  subst h0
  have hl := (List.getElem?_eq_some_iff.mp h).1
  unfold atI
  rw [ixN_of (Int.natCast_nonneg _) (by omega)]
  simpa using h
end G

/-! FpL -/
/-! loops, comprehensions -/
namespace G
open PySem L2
@[irreducible] def LcW (b : D → Env → Option Env) (ct : MT) (fe : ME) (vs : List Nat) (ds : List D) (e : Env) (acc : List D) (K : List D → Env → Prop) : Prop := ∃ ys e2, lcEach b ct fe vs ds e acc = .ok ys e2 ∧ K ys e2
namespace W
section
variable {e : Env} {ok : D → Env → Prop} {ex : D → Env → Prop} {fi : MA} {b : D → Env → Option Env} {f : MS} {P : Po} {ct : MT} {fe : ME} {vs : List Nat} {ds : List D} {okA : List D → Env → Prop} {fa : ME} {fr : MA}
theorem for_ (q : Wr (fi e) (fun ds e1 => Ws (sEach b f ds e1) P) P.ex) : Ws (sFor fi b f e) P := by
  unfold Wr at q; unfold Ws at q ⊢
  unfold sFor
  exact R.is_toO.mpr q
theorem each_ (I : List D → Env → Prop) : ∀ (rest done : List D) (e : Env), I done e →
    (∀ done d e, I done e → (∃ rest', done ++ d :: rest' = ds) → OptV (b d e) fun e1 => Ws (f e1) ⟨I (done ++ [d]), P.rt, P.nx, I (done ++ [d]), P.ex⟩) → done ++ rest = ds → (∀ e, I ds e → P.nx e) → Ws (sEach b f rest e) P
  | [], done, e, h0, hs, hd, he => by
    unfold Ws
    have : done = ds := by simpa using hd
    subst this
    exact he e h0
  | d :: rest, done, e, h0, hs, hd, he => by
    have h1 := hs done d e h0 ⟨rest, hd⟩
    unfold OptV at h1
    obtain ⟨e1, hb, h1⟩ := h1
    have go : ∀ e2, I (done ++ [d]) e2 → Ws (sEach b f rest e2) P := fun e2 h2 => each_ I rest (done ++ [d]) e2 h2 hs (by rw [List.append_assoc]; exact hd) he
    unfold Ws at h1 ⊢
    unfold sEach
    simp only [hb]
    cases hf : f e1 with
    | nx e2 => rw [hf] at h1; have := go e2 h1; unfold Ws at this; exact this
    | ct e2 => rw [hf] at h1; have := go e2 h1; unfold Ws at this; exact this
    | bk e2 => rw [hf] at h1; exact h1
    | rt d e2 => rw [hf] at h1; exact h1
    | ex x e2 => rw [hf] at h1; exact h1
    | no => rw [hf] at h1; exact h1
theorem each_nil (q : P.nx e) : Ws (sEach b f [] e) P := by unfold Ws; exact q
theorem each_cons {d : D} (q : OptV (b d e) fun e1 => Ws (f e1) ⟨fun e2 => Ws (sEach b f ds e2) P, P.rt, P.nx, fun e2 => Ws (sEach b f ds e2) P, P.ex⟩) : Ws (sEach b f (d :: ds) e) P := by
  unfold OptV at q
  obtain ⟨e1, hb, q⟩ := q
  unfold Ws at q ⊢
  unfold sEach
  simp only [hb]
  cases hf : f e1 <;> (rw [hf] at q; exact q)
/-- a loop by what holds behind each part of the list -/
theorem each (I : List D → Env → Prop) (h0 : I [] e) (hs : ∀ done d e, I done e → (∃ rest, done ++ d :: rest = ds) → OptV (b d e) fun e1 => Ws (f e1) ⟨I (done ++ [d]), P.rt, P.nx, I (done ++ [d]), P.ex⟩) (he : ∀ e, I ds e → P.nx e) : Ws (sEach b f ds e) P :=
  each_ I ds [] e h0 hs rfl he
/-- a loop that keeps something -/
theorem keep (I : Env → Prop) (h0 : I e) (hs : ∀ d e, d ∈ ds → I e → OptV (b d e) fun e1 => Ws (f e1) ⟨I, P.rt, P.nx, I, P.ex⟩) (he : ∀ e, I e → P.nx e) : Ws (sEach b f ds e) P :=
  each (fun _ => I) h0 (fun done d e h ⟨rest, hr⟩ => hs d e (by rw [← hr]; simp) h) he
theorem bname {i : Nat} {d : D} {K : Env → Prop} (q : K (e.set i (some d))) : OptV (bName i d e) K := by unfold bName; exact optv q
theorem lc (q : Wr (fi e) (fun ds e1 => LcW b ct fe vs ds (wipeE e1 vs) [] fun ys e2 => ok (.lst ys) e2) ex) : Wr (mLc fi b ct fe vs e) ok ex := by
  unfold Wr LcW at q; unfold Wr
  unfold mLc
  refine R.is_bind.mpr (q.imp fun ds e1 z => ?_)
  obtain ⟨ys, e2, h, k⟩ := z
  simp only [h]
  exact k
theorem lcs_ {K : List D → Env → Prop} (I : List D → List D → Env → Prop) : ∀ (rest done acc : List D) (e : Env), I done acc e → acc.length ≤ done.length →
    (∀ done acc d e, I done acc e → (∃ rest', done ++ d :: rest' = ds) → OptV (b d e) fun e1 => Wr (ct e1) (fun t e2 => Cond t (Wr (fe e2) (fun y e3 => I (done ++ [d]) (acc ++ [y]) (wipeE e3 vs)) fun _ _ => False) (I (done ++ [d]) acc (wipeE e2 vs))) fun _ _ => False) →
    done ++ rest = ds → ds.length ≤ 100000 → (∀ ys e, I ds ys e → K ys e) → ∃ ys e2, lcEach b ct fe vs rest e acc = .ok ys e2 ∧ K ys e2
  | [], done, acc, e, h0, hl, hs, hd, hz, he => by
    have : done = ds := by simpa using hd
    subst this
    exact ⟨acc, e, rfl, he acc e h0⟩
  | d :: rest, done, acc, e, h0, hl, hs, hd, hz, he => by
    have h1 := hs done acc d e h0 ⟨rest, hd⟩
    have ln : (done ++ [d]).length ≤ 100000 ∧ done.length < 100000 := by
      have := congrArg List.length hd
      simp at this ⊢
      omega
    have hd' : (done ++ [d]) ++ rest = ds := by rw [List.append_assoc]; exact hd
    unfold OptV at h1
    obtain ⟨e1, hb, h1⟩ := h1
    unfold Wr at h1
    unfold lcEach
    simp only [hb]
    cases hc : ct e1 with
    | ok t e2 =>
      rw [hc] at h1
      cases t with
      | false =>
        have h2 : I (done ++ [d]) acc (wipeE e2 vs) := by
          have h1' : Cond false _ _ := h1
          unfold Cond at h1'
          exact h1'.2 rfl
        exact lcs_ I rest (done ++ [d]) acc _ h2 (by simp; omega) hs hd' hz he
      | true =>
        have h2 : (fe e2).Is (fun y e3 => I (done ++ [d]) (acc ++ [y]) (wipeE e3 vs)) fun _ _ => False := by
          have h1' : Cond true _ _ := h1
          unfold Cond at h1'
          exact h1'.1 rfl
        cases hf : fe e2 with
        | ok y e3 =>
          rw [hf] at h2
          simp only [hf, if_pos (show acc.length < 100000 by omega)]
          exact lcs_ I rest (done ++ [d]) (acc ++ [y]) _ h2 (by simp; omega) hs hd' hz he
        | ex x e3 => rw [hf] at h2; exact h2.elim
        | no => rw [hf] at h2; exact h2.elim
    | ex x e2 => rw [hc] at h1; exact h1.elim
    | no => rw [hc] at h1; exact h1.elim
/-- a comprehension by what holds behind each part of the list -/
theorem lcs {K : List D → Env → Prop} (I : List D → List D → Env → Prop) (h0 : I [] [] e) (hz : ds.length ≤ 100000)
    (hs : ∀ done acc d e, I done acc e → (∃ rest, done ++ d :: rest = ds) → OptV (b d e) fun e1 => Wr (ct e1) (fun t e2 => Cond t (Wr (fe e2) (fun y e3 => I (done ++ [d]) (acc ++ [y]) (wipeE e3 vs)) fun _ _ => False) (I (done ++ [d]) acc (wipeE e2 vs))) fun _ _ => False)
    (he : ∀ ys e, I ds ys e → K ys e) : LcW b ct fe vs ds e [] K := by
  unfold LcW
  exact lcs_ I ds [] [] e h0 (Nat.le_refl _) hs rfl hz he
/-- a comprehension that changes nothing -/
theorem lcm {K : List D → Env → Prop} (c : D → Bool) (g : D → D) (hz : ds.length ≤ 100000)
    (hs : ∀ d ∈ ds, OptV (b d e) fun e1 => Wr (ct e1) (fun t e2 => t = c d ∧ Cond t (Wr (fe e2) (fun y e3 => y = g d ∧ wipeE e3 vs = e) fun _ _ => False) (wipeE e2 vs = e)) fun _ _ => False)
    (he : K ((ds.filter c).map g) e) : LcW b ct fe vs ds e [] K := by
  refine lcs (fun done acc e' => acc = (done.filter c).map g ∧ e' = e) ⟨rfl, rfl⟩ hz (fun done acc d e' h ⟨rest, hr⟩ => ?_) fun ys e' h => by obtain ⟨rfl, rfl⟩ := h; exact he
  obtain ⟨rfl, rfl⟩ := h
  have h := hs d (by rw [← hr]; simp)
  unfold OptV at h ⊢
  obtain ⟨e1, hb, h⟩ := h
  refine ⟨e1, hb, h.mono (fun t e2 h => ?_) fun _ _ z => z⟩
  obtain ⟨rfl, h⟩ := h
  unfold Cond at h ⊢
  refine ⟨fun ht => (h.1 ht).mono (fun y e3 z => ?_) fun _ _ z => z, fun ht => ?_⟩
  · obtain ⟨rfl, z⟩ := z
    refine ⟨?_, z⟩
    rw [List.filter_append, List.map_append, List.filter_cons_of_pos ht]
    rfl
  · refine ⟨?_, h.2 ht⟩
    rw [List.filter_append, List.filter_cons_of_neg (by simpa using ht), List.filter_nil, List.append_nil]
theorem tall {okT : Bool → Env → Prop} (q : okT true e) : Wr (tAll e) okT ex := by unfold Wr; exact q
/-! what is walked -/
@[irreducible] def ItV (d : D) (K : List D → Prop) : Prop := ∃ ds, (d = .lst ds ∨ d = .tup ds ∨ ∃ z : Str, d = .str z ∧ ds = z.cps.toList.map fun c => .str ⟨#[c]⟩) ∧ K ds
theorem iany (q : Wr (fa e) (fun d e1 => ItV d fun ds => okA ds e1) ex) : Wr (iAny fa e) okA ex := by
  unfold Wr at q ⊢
  refine R.is_bind.mpr (q.imp fun d e1 z => ?_)
  unfold ItV at z
  obtain ⟨ds, h, z⟩ := z
  rcases h with rfl | rfl | ⟨s, rfl, rfl⟩ <;> exact z
theorem it_lst {K : List D → Prop} (q : K ds) : ItV (.lst ds) K := by unfold ItV; exact ⟨ds, .inl rfl, q⟩
theorem it_tup {K : List D → Prop} (q : K ds) : ItV (.tup ds) K := by unfold ItV; exact ⟨ds, .inr (.inl rfl), q⟩
theorem it_str {K : List D → Prop} {z : Str} (q : K (z.cps.toList.map fun c => .str ⟨#[c]⟩)) : ItV (.str z) K := by unfold ItV; exact ⟨_, .inr (.inr ⟨z, rfl, rfl⟩), q⟩
@[irreducible] def Rng1 (ds : List D) (K : List D → Prop) : Prop := ∃ j : Int, ds = [.int j] ∧ (-(2 ^ 62) ≤ j ∧ j < 2 ^ 62) ∧ K (rngD 0 j.toNat)
@[irreducible] def Rng2 (ds : List D) (K : List D → Prop) : Prop := ∃ i j : Int, ds = [.int i, .int j] ∧ ((-(2 ^ 62) ≤ i ∧ i < 2 ^ 62) ∧ (-(2 ^ 62) ≤ j ∧ j < 2 ^ 62)) ∧ K (rngD i (j - i).toNat)
theorem range1 (q : Wr (fr e) (fun ds e1 => Rng1 ds fun zs => okA zs e1) ex) : Wr (iRange1 fr e) okA ex := by
  unfold Wr at q ⊢
  refine R.is_bind.mpr (q.imp fun d e1 z => ?_)
  unfold Rng1 at z
  obtain ⟨j, rfl, h, z⟩ := z
  simp only [h, decide_true, Bool.and_self, if_true]
  exact z
theorem range2 (q : Wr (fr e) (fun ds e1 => Rng2 ds fun zs => okA zs e1) ex) : Wr (iRange2 fr e) okA ex := by
  unfold Wr at q ⊢
  refine R.is_bind.mpr (q.imp fun d e1 z => ?_)
  unfold Rng2 at z
  obtain ⟨i, j, rfl, h, z⟩ := z
  simp only [h, decide_true, Bool.and_self, if_true]
  exact z
theorem rng1 {j : Int} {K : List D → Prop} (h : -(2 ^ 62) ≤ j ∧ j < 2 ^ 62) (q : K (rngD 0 j.toNat)) : Rng1 [.int j] K := by unfold Rng1; exact ⟨j, rfl, h, q⟩
theorem rng2 {i j : Int} {K : List D → Prop} (h : (-(2 ^ 62) ≤ i ∧ i < 2 ^ 62) ∧ (-(2 ^ 62) ≤ j ∧ j < 2 ^ 62)) (q : K (rngD i (j - i).toNat)) : Rng2 [.int i, .int j] K := by unfold Rng2; exact ⟨i, j, rfl, h, q⟩
/-! methods of an owned list -/
theorem slm {i : Nat} {h : List D → List D → Option (List D)} (q : SlotV e[i]? fun l => AsLst l fun _ => Wr (fr e) (fun bs e1 => SlotV e1[i]? fun l => AsLst l fun ds => OptV (h ds bs) fun ds' => ok .non (e1.set i (some (.lst ds')))) ex) : Wr (mSlm i h fr e) ok ex := by
  unfold SlotV AsLst OptV Wr at q
  unfold Wr mSlm
  obtain ⟨d, h1, ds, rfl, q⟩ := q
  simp only [h1]
  refine R.is_bind.mpr (q.imp fun bs e1 z => ?_)
  obtain ⟨d, h2, ds, rfl, ds', h3, z⟩ := z
  simp only [h2, h3]
  exact z
theorem m_append {ds : List D} {x : D} {K : List D → Prop} (h : ds.length < 100000) (q : K (ds ++ [x])) : OptV (hAppend ds [x]) K := opt (if_pos h) q
theorem m_insert {ds : List D} {x : D} {i : Int} {K : List D → Prop} (h : ds.length < 100000 ∧ 0 ≤ i ∧ i < 2 ^ 63) (q : K (ds.take i.toNat ++ [x] ++ ds.drop i.toNat)) : OptV (hInsert ds [.int i, x]) K := opt (if_pos h) q
theorem m_extend {ds bs : List D} {K : List D → Prop} (h : ds.length + bs.length ≤ 100000) (q : K (ds ++ bs)) : OptV (hExtend ds [.lst bs]) K := opt (if_pos h) q
theorem m_reverse {ds : List D} {K : List D → Prop} (q : K ds.reverse) : OptV (hReverse ds []) K := optv q
end
end W
theorem mem_rngD {lo : Int} {n : Nat} {d : D} (h : d ∈ rngD lo n) : ∃ i : Nat, i < n ∧ d = .int (lo + i) := by
  unfold rngD at h
  obtain ⟨i, hi, rfl⟩ := List.mem_map.mp h
  exact ⟨i, List.mem_range.mp hi, rfl⟩
end G

/-! FpO -/
/-! more operations -/
namespace G
open PySem L2
@[irreducible] def AsStr (d : D) (K : Str → Prop) : Prop := ∃ i, d = .str i ∧ K i
@[irreducible] def SlV (h : D → Option Int → Option Int → Option D) (d : D) (l u : Option Int) (K : D → Prop) : Prop := ∃ z, h d l u = some z ∧ K z
@[irreducible] def DicV (ps : List (D × D)) (K : D → Prop) : Prop := (∃ ks, keysD ps = some ks ∧ (nodupK ks && decide (ps.length ≤ 15)) = true) ∧ K (.dic ps)
namespace W
section
variable {e : Env} {ok : D → Env → Prop} {ex : D → Env → Prop} {fa fb fo : ME} {fr : MA} {fl fu : MP} {fk : MK} {P : Po} {K : D → Prop} {okP : Option Int → Env → Prop} {okK : List (D × D) → Env → Prop}
theorem asstr {n : Str} {KI : Str → Prop} (q : KI n) : AsStr (.str n) KI := by unfold AsStr; exact ⟨n, rfl, q⟩
theorem slc {h : D → Option Int → Option Int → Option D} (q : Wr (fa e) (fun d e1 => Wr (fl e1) (fun l e2 => Wr (fu e2) (fun u e3 => SlV h d l u fun z => ok z e3) ex) ex) ex) : Wr (mSlc h fa fl fu e) ok ex := by
  unfold Wr at q ⊢
  refine R.bind_congr (fun d e1 => R.bind_congr fun l e2 => R.bind_congr fun u e3 => ?_) |>.mpr q
  unfold SlV
  cases h d l u <;> simp [R.Is]
theorem p0 (q : okP none e) : Wr (mP0 e) okP ex := by unfold Wr; exact q
theorem p1 (q : Wr (fa e) (fun d e1 => AsInt d fun i => okP (some i) e1) ex) : Wr (mP1 fa e) okP ex := by
  unfold Wr at q ⊢
  refine R.bind_congr (fun d e1 => ?_) |>.mpr q
  unfold AsInt
  cases d <;> simp [R.Is]
theorem sl_lst {xs : List D} {l u : Option Int} (q : K (.lst (cutG xs l u))) : SlV hSl (.lst xs) l u K := by unfold SlV; exact ⟨_, rfl, q⟩
theorem sl_tup {xs : List D} {l u : Option Int} (q : K (.tup (cutG xs l u))) : SlV hSl (.tup xs) l u K := by unfold SlV; exact ⟨_, rfl, q⟩
theorem sl_str {z : Str} {l u : Option Int} (h : z.length ≤ 100000) (q : K (.str (cutS z l u))) : SlV hSl (.str z) l u K := by
  unfold SlV
  refine ⟨_, ?_, q⟩
  show (if decide (z.length ≤ sizeLine) = true then some (D.str (cutS z l u)) else none) = _
  rw [decide_eq_true (by rw [sizeLine_eq]; omega)]
  rfl
theorem k0 (q : okK [] e) : Wr (mK0 e) okK ex := by unfold Wr; exact q
theorem k1 (q : Wr (fa e) (fun x e1 => Wr (fb e1) (fun y e2 => Wr (fk e2) (fun r e3 => okK ((x, y) :: r) e3) ex) ex) ex) : Wr (mK1 fa fb fk e) okK ex := by
  unfold Wr at q ⊢
  exact R.bind_congr (fun d e1 => R.bind_congr fun l e2 => R.bind_congr fun u e3 => Iff.rfl) |>.mpr q
theorem dic (q : Wr (fk e) (fun ps e1 => DicV ps fun z => ok z e1) ex) : Wr (mDic fk e) ok ex := by
  unfold Wr at q ⊢
  refine R.bind_congr (fun ps e1 => ?_) |>.mpr q
  unfold DicV
  cases h : keysD ps with
  | none => simp [R.Is]
  | some ks =>
    by_cases h2 : (nodupK ks && decide (ps.length ≤ 15)) = true
    · simp only [h2, if_true, R.Is]
      exact ⟨fun z => ⟨⟨ks, rfl, h2⟩, z⟩, fun z => z.2⟩
    · simp only [h2]
      exact ⟨fun z => z.elim, fun ⟨⟨ks', e1, e2⟩, _⟩ => by cases e1; exact absurd e2 h2⟩
theorem dicv {ps : List (D × D)} {ks : List Key} (h : keysD ps = some ks) (h2 : (nodupK ks && decide (ps.length ≤ 15)) = true) (q : K (.dic ps)) : DicV ps K := by unfold DicV; exact ⟨⟨ks, h, h2⟩, q⟩
theorem sm {h : Str → List D → Option D} (q : Wr (fo e) (fun d e1 => AsStr d fun z => Wr (fr e1) (fun ds e2 => OptV (h z ds) fun y => ok y e2) ex) ex) : Wr (mSm h fo fr e) ok ex := by
  unfold Wr at q ⊢
  refine R.is_bind.mpr (q.imp fun d e1 z => ?_)
  unfold AsStr OptV at z
  obtain ⟨s, rfl, z⟩ := z
  refine R.is_bind.mpr (z.imp fun ds e2 z => ?_)
  obtain ⟨y, h1, z⟩ := z
  simp only [h1]
  exact z
theorem add_lst {xs ys : List D} (h : xs.length + ys.length ≤ 100000) (q : K (.lst (xs ++ ys))) : Op2 opAdd (.lst xs) (.lst ys) K := op2 (by
  unfold opAdd
  simp only [decide_eq_true (show xs.length + ys.length ≤ sizeLine by rw [sizeLine_eq]; omega), if_true]) q
theorem add_tup {xs ys : List D} (h : xs.length + ys.length ≤ 100000) (q : K (.tup (xs ++ ys))) : Op2 opAdd (.tup xs) (.tup ys) K := op2 (by
  unfold opAdd
  simp only [decide_eq_true (show xs.length + ys.length ≤ sizeLine by rw [sizeLine_eq]; omega), if_true]) q
theorem add_str {x y : Str} (h : x.length + y.length ≤ 100000) (q : K (.str (x ++ y))) : Op2 opAdd (.str x) (.str y) K := op2 (by
  unfold opAdd
  simp only [decide_eq_true (show x.length + y.length ≤ sizeLine by rw [sizeLine_eq]; omega), if_true]) q
theorem mul_tup {xs : List D} {k : Int} (h : 0 ≤ k ∧ k ≤ 1000) (h2 : xs.length ≤ 1000) (q : K (.tup (List.replicate k.toNat xs).flatten)) : Op2 opMulA (.tup xs) (.int k) K := op2 (by
  unfold opMulA
  simp only [h, h2, decide_true, Bool.and_self, if_true]) q
theorem pow_int {i j : Int} (h : 0 ≤ j ∧ j ≤ 1000000 ∧ i.natAbs < 2 ^ 64) (q : K (.int (i ^ j.toNat))) : Op2 opPow (.int i) (.int j) K := op2 (by
  unfold opPow opI
  simp only [h, decide_true, Bool.and_self, if_true]) q
theorem ix_mem {xs : List D} {i : Int} (h0 : 0 ≤ i) (h1 : i < xs.length) (q : ∀ z ∈ xs, K z) : OptV (atI xs i) K := by
  have hl : i.toNat < xs.length := by omega
  exact opt (atI_of (n := i.toNat) (by omega) (List.getElem?_eq_getElem hl)) (q _ (List.getElem_mem hl))
theorem list_lst {xs : List D} (q : K (.lst xs)) : OpL hListOf [.lst xs] K := opL rfl q
theorem list_tup {xs : List D} (q : K (.lst xs)) : OpL hListOf [.tup xs] K := opL rfl q
theorem tup_lst {xs : List D} (q : K (.tup xs)) : OpL hTupOf [.lst xs] K := opL rfl q
theorem tup_tup {xs : List D} (q : K (.tup xs)) : OpL hTupOf [.tup xs] K := opL rfl q
theorem boolsOf_map : ∀ bs : List Bool, boolsOf (bs.map .bl) = some bs
  | [] => rfl
  | b :: bs => by rw [List.map_cons, boolsOf, boolsOf_map bs]; rfl
theorem all_ {xs : List D} {bs : List Bool} (h : xs = bs.map .bl) (q : K (.bl (bs.all id))) : OpL hAll [.lst xs] K := opL (by subst h; simp only [hAll, boolsOf_map, Option.map_some]) q
theorem any_ {xs : List D} {bs : List Bool} (h : xs = bs.map .bl) (q : K (.bl (bs.any id))) : OpL hAny [.lst xs] K := opL (by subst h; simp only [hAny, boolsOf_map, Option.map_some]) q
end
end W
/-! cuts -/
theorem cut_to {α : Type} {xs : List α} {i : Int} (h : 0 ≤ i) : cutG xs none (some i) = xs.take i.toNat := by
  unfold cutG
  rw [HT.sIx_none]
  have : HT.sIx xs.length xs.length (some i) = min i.toNat xs.length := by
    obtain ⟨n, rfl⟩ := Int.eq_ofNat_of_zero_le h
    exact HT.sIx_nat _ _ _
  rw [this, List.drop_zero, Nat.sub_zero]
  by_cases hl : i.toNat ≤ xs.length
  · rw [Nat.min_eq_left hl]
  · rw [Nat.min_eq_right (by omega), List.take_length, List.take_of_length_le (by omega)]
theorem cut_from {α : Type} {xs : List α} {i : Int} (h : 0 ≤ i) : cutG xs (some i) none = xs.drop i.toNat := by
  unfold cutG
  rw [HT.sIx_none]
  have : HT.sIx xs.length 0 (some i) = min i.toNat xs.length := by
    obtain ⟨n, rfl⟩ := Int.eq_ofNat_of_zero_le h
    exact HT.sIx_nat _ _ _
  rw [this]
  rw [List.take_of_length_le (by rw [List.length_drop]; omega)]
  by_cases hl : i.toNat ≤ xs.length
  · rw [Nat.min_eq_left hl]
  · rw [Nat.min_eq_right (by omega), List.drop_length, List.drop_of_length_le (by omega)]
end G

/-! Fp3 -/
local macro_rules | `(tactic| lcg_sub) => `(tactic| first | decide | assumption | omega | (refine ⟨?_, ?_⟩ <;> first | decide | assumption | omega))
local macro_rules | `(tactic| lcg_src) => `(tactic| first | (simp only [List.length_cons, List.length_nil, List.length_append, List.length_map, List.length_replicate]; omega) | omega)
local macro_rules | `(tactic| tlg_ne) => `(tactic| with_reducible (apply G.W.isWr; first
  | apply G.W.var | apply G.W.c | apply G.W.bin | apply G.W.fn | apply G.W.cons | apply G.W.nil | apply G.W.call | apply G.W.lent
  | apply G.W.lst | apply G.W.tup | apply G.W.ixs | apply G.W.test | apply G.W.tnot | apply G.W.tand | apply G.W.tor | apply G.W.and | apply G.W.or | apply G.W.not
  | apply G.W.ite | apply G.W.chain | apply G.W.isa | apply G.W.un | apply G.W.sc | apply G.W.lock | apply G.W.tlock
  | apply G.W.slc | apply G.W.p0 | apply G.W.p1 | apply G.W.iany | apply G.W.range1 | apply G.W.range2 | apply G.W.lc | apply G.W.tall | apply G.W.slm | apply G.W.sm | apply G.W.dic | apply G.W.k0 | apply G.W.k1))
local macro_rules | `(tactic| lcg_off) => `(tactic| with_reducible (apply G.W.isWs; first
  | apply G.W.set | apply G.W.sif | apply G.W.ret | apply G.W.drop | apply G.W.snx | apply G.W.for_
  | apply G.W.retN | apply G.W.brk | apply G.W.cnt | apply G.W.stix | apply G.W.augIx | apply G.W.par | apply G.W.aug))
local macro_rules | `(tactic| ktu_offL) => `(tactic| (with_reducible apply G.W.isOp2; with_reducible first
  | apply G.W.add_int | apply G.W.sub_int | apply G.W.eq_int | apply G.W.ne_int | apply G.W.lt_int | apply G.W.le_int | apply G.W.gt_int | apply G.W.ge_int
  | apply G.W.ix_lst | apply G.W.ix_tup | apply G.W.eq_str | apply G.W.ne_str
  | refine G.W.mod_int (by lcg_sub) ?_ | refine G.W.fdiv_int (by lcg_sub) ?_ | refine G.W.mul_r (by lcg_sub) ?_ | refine G.W.mul_l (by lcg_sub) ?_
  | refine G.W.pow_int (by lcg_sub) ?_ | refine G.W.add_lst (by lcg_src) ?_ | refine G.W.add_tup (by lcg_src) ?_ | refine G.W.mul_tup (by lcg_sub) (by lcg_src) ?_))
local macro_rules | `(tactic| ktu_offI) => `(tactic| with_reducible (apply G.W.isOpL; first
  | apply G.W.int_int | apply G.W.len_lst | apply G.W.len_tup | apply G.W.list_lst | apply G.W.list_tup | apply G.W.tup_lst | apply G.W.tup_tup))
local macro_rules | `(tactic| ktu_off1L) => `(tactic| with_reducible (apply G.W.isCond; first
  | apply G.W.condNN | apply G.W.condT | apply G.W.condF | apply G.W.condNT | apply G.W.condNF))
local macro_rules | `(tactic| krn_off) => `(tactic| first
  | tlg_ne | lcg_off | apply G.W.slotv | ktu_offL | ktu_offI | with_reducible apply G.W.bl | refine G.W.len (Nat.le_of_ble_eq_true rfl) ?_ | apply G.W.optv | ktu_off1L
  | with_reducible first | apply G.W.asint | apply G.W.aslst | apply G.W.two | apply G.W.asstr | apply G.W.it_lst | apply G.W.it_tup | apply G.W.it_str | apply G.W.bname | apply G.W.neg_int | refine G.W.m_append (by lcg_src) ?_ | refine G.W.m_extend (by lcg_src) ?_ | apply G.W.m_reverse | refine G.W.rng1 (by lcg_sub) ?_ | refine G.W.rng2 (by lcg_sub) ?_
  | refine G.W.scv rfl ?_)
local macro_rules | `(tactic| kts_caughtN) => `(tactic| repeat (krn_off))
local macro_rules | `(tactic| kts_caught) => `(tactic| repeat (first | (with_reducible apply G.W.seq) | krn_off))
/-! the bag of a law: what is drawn -/
namespace G
open PySem L2
/-! the bag -/
structure Bag where
  big : Int
  mix : Int
  at_ : Int
  cells : List Int
def dBag (b : Bag) : D := .lst [.int b.big, .int b.mix, .int b.at_, .lst (b.cells.map .int)]
structure BagOk (b : Bag) : Prop where
  big : 0 ≤ b.big
  mix : 0 ≤ b.mix ∧ b.mix < 2147483647
  at_ : 0 ≤ b.at_
  cells : ∀ c ∈ b.cells, 0 ≤ c
def takeB : MS := (sSeq (sIf (mTest (mBin opEq (mIxs 0 (mC (.int 0))) (mC (.int 0))))
      (sSeq (sSet 2 (mC (.int 0)))
    (sSeq (sIf (mTest (mBin opLt (mIxs 0 (mC (.int 2))) (mFn hLen (aCons (mIxs 0 (mC (.int 3))) aNil))))
      (sSet 2 (mBin opIx (mIxs 0 (mC (.int 3))) (mIxs 0 (mC (.int 2)))))
      sNx)
    (sSeq (sAugIx 0 (fun i j => i + j) (mC (.int 2)) (mC (.int 1)))
    (sSeq (sIf (mTest (mBin opGe (mVar 2) (mC (.int 1000000000000000000))))
      (sStix 0 (mVar 2) (mC (.int 0)))
      sNx)
    (sSeq (sSet 3 (mBin opAdd (mBin opAdd (mBin opMulA (mIxs 0 (mC (.int 1))) (mC (.int 48271))) (mBin opMod (mFn hInt (aCons (mVar 2) aNil)) (mC (.int 2147483647)))) (mBin opMulA (mC (.int 7919)) (mIxs 0 (mC (.int 2))))))
    (sStix 0 (mBin opMod (mFn hInt (aCons (mVar 3) aNil)) (mC (.int 2147483647))) (mC (.int 1))))))))
      sNx)
    (sSeq (sIf (mTest (mBin opGt (mIxs 0 (mC (.int 0))) (mC (.int 0))))
      (sSeq (sSet 4 (mBin opMod (mFn hInt (aCons (mIxs 0 (mC (.int 0))) aNil)) (mVar 1)))
    (sSeq (sStix 0 (mBin opFdivA (mFn hInt (aCons (mIxs 0 (mC (.int 0))) aNil)) (mVar 1)) (mC (.int 0)))
    (sRet (mVar 4))))
      sNx)
    (sSeq (sSet 5 (mBin opMod (mFn hInt (aCons (mBin opMulA (mBin opAdd (mIxs 0 (mC (.int 1))) (mC (.int 1))) (mC (.int 39373))) aNil)) (mC (.int 1000000007))))
    (sSeq (sSet 6 (mBin opMod (mFn hInt (aCons (mBin opMulA (mBin opMod (mFn hInt (aCons (mBin opMulA (mVar 5) (mVar 5)) aNil)) (mC (.int 998244353))) (mC (.int 30011))) aNil)) (mC (.int 998244353))))
    (sSeq (sIf (mTest (mBin opGt (mVar 1) (mC (.int 1000000))))
      (sRet (mBin opMod (mFn hInt (aCons (mBin opAdd (mBin opMulA (mVar 6) (mC (.int 1000000007))) (mVar 5)) aNil)) (mVar 1)))
      sNx)
    (sRet (mBin opMod (mFn hInt (aCons (mBin opFdivA (mVar 6) (mC (.int 7))) aNil)) (mVar 1))))))))
def takeF : PF := runF 7 1 takeB
theorem atI_ints {l : List Int} {i : Int} (h0 : 0 ≤ i) (h1 : i < l.length) : ∃ c, c ∈ l ∧ atI (l.map D.int) i = some (.int c) := by
  have hl : i.toNat < l.length := by omega
  exact ⟨l[i.toNat], List.getElem_mem hl, atI_of (n := i.toNat) (by omega) (by rw [List.getElem?_map, List.getElem?_eq_getElem hl]; rfl)⟩
theorem take_w {b : Bag} (hb : BagOk b) {m : Int} (h0 : 0 < m) (h1 : m.natAbs.log2 < 9000) {P : Po} (k : ∀ n b', 0 ≤ n → n < m → BagOk b' → P.rt (.int n) [some (dBag b')]) : Ws (takeF [dBag b, .int m]) P := by
  refine W.runF (e0 := [some (dBag b), some (.int m), none, none, none, none, none]) rfl ?_
  unfold takeB
  refine W.cut (fun e1 => ∃ b' x y, BagOk b' ∧ e1 = [some (dBag b'), some (.int m), x, y, none, none, none]) ?_ ?_
  · unfold dBag
    kts_caught
    refine W.cond (fun hz => ?_) (fun hz => ?_)
    · refine W.seq ?_
      kts_caughtN
      refine W.cut (fun e1 => ∃ c, 0 ≤ c ∧ e1 = [some (dBag b), some (.int m), some (.int c), none, none, none, none]) ?_ ?_
      · unfold dBag
        kts_caught
        rw [List.length_map]
        refine W.cond (fun hl => ?_) (fun hl => ?_)
        · obtain ⟨c, hc, e⟩ := atI_ints hb.at_ hl
          kts_caught
          refine W.opt e ?_
          exact ⟨c, hb.cells c hc, rfl⟩
        · kts_caught
          exact ⟨0, by decide, rfl⟩
      · intro e1 ⟨c, hc, he⟩
        subst he
        unfold dBag
        kts_caught
        have hm : ∀ z : Int, 0 ≤ z % 2147483647 ∧ z % 2147483647 < 2147483647 := fun z => ⟨Int.emod_nonneg _ (by decide), Int.emod_lt_of_pos _ (by decide)⟩
        refine W.cond (fun hl => ?_) (fun hl => ?_)
        · kts_caught
          exact ⟨⟨c, _, b.at_ + 1, b.cells⟩, _, _, ⟨hc, hm _, by have := hb.at_; show 0 ≤ b.at_ + 1; omega, hb.cells⟩, rfl⟩
        · kts_caught
          exact ⟨⟨b.big, _, b.at_ + 1, b.cells⟩, _, _, ⟨hb.big, hm _, by have := hb.at_; show 0 ≤ b.at_ + 1; omega, hb.cells⟩, rfl⟩
    · kts_caught
      exact ⟨b, _, _, hb, rfl⟩
  · intro e1 ⟨b', x, y, hb', he⟩
    subst he
    unfold dBag
    kts_caught
    refine W.cond (fun hz => ?_) (fun hz => ?_)
    · kts_caught
      exact k _ ⟨b'.big / m, b'.mix, b'.at_, b'.cells⟩ (Int.emod_nonneg _ (by omega)) (Int.emod_lt_of_pos _ h0) ⟨Int.ediv_nonneg hb'.big (by omega), hb'.mix, hb'.at_, hb'.cells⟩
    · kts_caught
      have he : 0 ≤ (b'.mix + 1) * 39373 % 1000000007 ∧ (b'.mix + 1) * 39373 % 1000000007 < 1000000007 := ⟨Int.emod_nonneg _ (by decide), Int.emod_lt_of_pos _ (by decide)⟩
      have hs : ∀ z : Int, 0 ≤ z % 998244353 ∧ z % 998244353 < 998244353 := fun z => ⟨Int.emod_nonneg _ (by decide), Int.emod_lt_of_pos _ (by decide)⟩
      refine W.cond (fun hz => ?_) (fun hz => ?_)
      · kts_caught
        exact k _ b' (Int.emod_nonneg _ (by omega)) (Int.emod_lt_of_pos _ h0) hb'
      · kts_caught
        exact k _ b' (Int.emod_nonneg _ (by omega)) (Int.emod_lt_of_pos _ h0) hb'
end G

/-! Fp4 -/
/-! what the laws' helpers do -/
namespace G
open PySem L2
def alikeB : MS := (sRet (mAnd (mBin opEq (mVar 0) (mVar 1)) (mBin opEq (mFn hRepr (aCons (mVar 0) aNil)) (mFn hRepr (aCons (mVar 1) aNil)))))
def alikeF : PF := runF 2 0 alikeB
theorem alike_w {d : D} (h : d.Ok) {P : Po} (k : P.rt (.bl true) []) : Ws (alikeF [d, d]) P := by
  obtain ⟨s, hs⟩ := h.repr
  refine W.runF (e0 := [some d, some d]) rfl ?_
  unfold alikeB
  kts_caught
  refine W.op2 h.eq ?_
  kts_caught
  refine W.opL hs ?_
  kts_caught
  refine W.opL hs ?_
  kts_caught
  simpa using k
def mixedB : MS := (sSeq (sSet 2 (mLst aNil))
    (sSeq (sFor (iAny (mVar 1)) (bName 3)
      (sDrop (mSlm 2 hInsert (aCons (mCall takeF [some 0, none] (bLent (aCons (mBin opAdd (mLock 2 (mFn hLen (aCons (mVar 2) aNil))) (mC (.int 1))) aNil))) (aCons (mVar 3) aNil)))))
    (sRet (mVar 2))))
def mixedF : PF := runF 4 1 mixedB
theorem perm_insert {α : Type} (l : List α) (x : α) (n : Nat) : (l.take n ++ [x] ++ l.drop n).Perm (l ++ [x]) := by
  have h1 : (l.take n ++ [x] ++ l.drop n).Perm (x :: l) := by
    rw [List.append_assoc]
    exact List.perm_middle.trans (by simp)
  exact h1.trans (List.perm_append_singleton x l).symm
theorem mixed_w {b : Bag} (hb : BagOk b) {ds : List D} (hl : ds.length ≤ 1000) {P : Po} (k : ∀ ds' b', ds'.Perm ds → BagOk b' → P.rt (.lst ds') [some (dBag b')]) : Ws (mixedF [dBag b, .lst ds]) P := by
  refine W.runF (e0 := [some (dBag b), some (.lst ds), none, none]) rfl ?_
  unfold mixedB
  refine W.seq ?_
  kts_caughtN
  refine W.seq ?_
  kts_caughtN
  refine W.each (fun done e => ∃ b' l x, BagOk b' ∧ l.Perm done ∧ e = [some (dBag b'), some (.lst ds), some (.lst l), x]) ⟨b, [], none, hb, .refl _, rfl⟩ (fun done d e h ⟨rest, hr⟩ => ?_) fun e h => ?_
  · obtain ⟨b', l, x, hb', hp, rfl⟩ := h
    refine W.bname ?_
    refine W.drop (W.slm ?_)
    kts_caughtN
    have hll : l.length < 1000 := by
      have := congrArg List.length hr
      rw [hp.length_eq]
      simp at this
      omega
    refine take_w hb' (by omega) ?_ fun n b'' h0 h1 hb'' => ?_
    · have : ((l.length : Int) + 1).natAbs ≤ 1001 := by omega
      have h2 : ((l.length : Int) + 1).natAbs.log2 ≤ ((l.length : Int) + 1).natAbs := Nat.log2_le_self _
      omega
    · kts_caughtN
      refine W.m_insert ⟨by omega, h0, by omega⟩ ?_
      exact ⟨b'', _, _, hb'', (perm_insert l d n.toNat).trans (hp.append_right [d]), rfl⟩
  · obtain ⟨b', l, x, hb', hp, rfl⟩ := h
    kts_caught
    exact k l b' hp hb'
end G

/-! FpS -/
/-! sorted lists of texts, of ints -/
namespace G
open PySem L2
def leS (a b : Str) : Bool := decide (a.cps.toList ≤ b.cps.toList)
theorem leD_str (a b : Str) : leD (.str a) (.str b) = leS a b := by
  show PySem.W.dataLe false id (.str a) (.str b) = _
  have := congrFun (congrFun (PySem.W.dataLe_str (fun x : Str => x)) a) b
  exact this
theorem leD_int (a b : Int) : leD (.int a) (.int b) = decide (a ≤ b) := by
  show PySem.W.dataLe false id (.int a) (.int b) = _
  exact congrFun (congrFun (PySem.W.dataLe_int (fun x : Int => x)) a) b
theorem pyL_strs : ∀ ns : List Str, D.pyL (ns.map .str) = some (ns.map .str)
  | [] => rfl
  | n :: ns => by simp only [List.map_cons, D.pyL, D.py, pyL_strs ns]
theorem pyL_ints : ∀ ns : List Int, D.pyL (ns.map .int) = some (ns.map .int)
  | [] => rfl
  | n :: ns => by simp only [List.map_cons, D.pyL, D.py, pyL_ints ns]
theorem hSorted_strs {ns : List Str} (h : ns.length ≤ 100000) : hSorted [.lst (ns.map .str)] = some (.lst ((ns.mergeSort leS).map .str)) := by
  have ok : sortOkB (ns.map PyData.str) = true := by
    unfold sortOkB sortB
    simp only [Bool.and_eq_true, List.all_eq_true, decide_eq_true_eq, List.length_map, Bool.or_eq_true, List.mem_map]
    refine ⟨⟨⟨?_, .inr ?_⟩, ?_⟩, h⟩
    · rintro _ ⟨a, _, rfl⟩ _ ⟨b, _, rfl⟩; simp [PySem.W.alike]
    · rintro _ ⟨a, _, rfl⟩; rfl
    · rintro _ ⟨a, _, rfl⟩; simp [PyData.depth]
  unfold hSorted
  simp only [pyL_strs, ok, if_true]
  rw [List.map_mergeSort (s := leD)]
  intro a _ b _
  exact (leD_str a b).symm
theorem hSorted_ints {ns : List Int} (h : ns.length ≤ 100000) : hSorted [.lst (ns.map .int)] = some (.lst ((ns.mergeSort fun a b => decide (a ≤ b)).map .int)) := by
  have ok : sortOkB (ns.map PyData.int) = true := by
    unfold sortOkB sortB
    simp only [Bool.and_eq_true, List.all_eq_true, decide_eq_true_eq, List.length_map, Bool.or_eq_true, List.mem_map]
    refine ⟨⟨⟨?_, .inr ?_⟩, ?_⟩, h⟩
    · rintro _ ⟨a, _, rfl⟩ _ ⟨b, _, rfl⟩; simp [PySem.W.alike]
    · rintro _ ⟨a, _, rfl⟩; rfl
    · rintro _ ⟨a, _, rfl⟩; simp [PyData.depth]
  unfold hSorted
  simp only [pyL_ints, ok, if_true]
  rw [List.map_mergeSort (s := leD)]
  intro a _ b _
  exact (leD_int a b).symm
def unStr : D → Option Str
  | .str s => some s
  | _ => none
theorem perm_strs {ds : List D} {ns : List Str} (h : ds.Perm (ns.map .str)) : ∃ ms : List Str, ds = ms.map .str ∧ ms.Perm ns := by
  have h1 : (ds.filterMap unStr).Perm ns := by
    have := h.filterMap unStr
    rw [List.filterMap_map] at this
    have e : (unStr ∘ D.str) = some := rfl
    rw [e, List.filterMap_some] at this
    exact this
  refine ⟨_, ?_, h1⟩
  have h2 : ∀ d ∈ ds, ∃ s, d = .str s := fun d hd => by
    have := h.mem_iff.mp hd
    obtain ⟨s, _, rfl⟩ := List.mem_map.mp this
    exact ⟨s, rfl⟩
  clear h h1
  induction ds with
  | nil => rfl
  | cons d ds ih =>
    obtain ⟨s, rfl⟩ := h2 d List.mem_cons_self
    rw [List.filterMap_cons]
    simp only [unStr, List.map_cons]
    rw [← ih fun d hd => h2 d (List.mem_cons_of_mem _ hd)]
end G

/-! Fp5 -/
/-! names -/
namespace G
open PySem L2
def namesB : MS := (sSeq (sSet 2 (mLst (aCons (mLst (aCons (mC (.str "a")) (aCons (mC (.str "b")) (aCons (mC (.str "c")) (aCons (mC (.str "d")) (aCons (mC (.str "e")) (aCons (mC (.str "f")) aNil))))))) (aCons (mLst (aCons (mC (.str "begin")) (aCons (mC (.str "do")) (aCons (mC (.str "edge")) (aCons (mC (.str "join")) (aCons (mC (.str "map")) (aCons (mC (.str "places")) aNil))))))) aNil))))
    (sSeq (sDrop (mSlm 2 hAppend (aCons (mLst (aCons (mC (.str "x")) (aCons (mC (.str "xa")) (aCons (mC (.str "xaa")) (aCons (mC (.str "xab")) (aCons (mC (.str "xb")) (aCons (mC (.str "zzzzzzzz")) aNil))))))) aNil)))
    (sSeq (sSet 3 (mIxs 2 (mBin opIx (mLst (aCons (mC (.int 0)) (aCons (mC (.int 0)) (aCons (mC (.int 1)) (aCons (mC (.int 2)) aNil))))) (mCall takeF [some 0, none] (bLent (aCons (mC (.int 4)) aNil))))))
    (sRet (mFn hSorted (aCons (mSlc hSl (mCall mixedF [some 0, none] (bLent (aCons (mVar 3) aNil))) mP0 (mP1 (mVar 1))) aNil))))))
def namesF : PF := runF 4 1 namesB
def wordsA : List Str := ["a", "b", "c", "d", "e", "f"]
def wordsB : List Str := ["begin", "do", "edge", "join", "map", "places"]
def wordsC : List Str := ["x", "xa", "xaa", "xab", "xb", "zzzzzzzz"]
def NameIn (ns ws : List Str) : Prop := ns.Nodup ∧ (∀ n ∈ ns, n ∈ ws) ∧ ns.Pairwise fun a b => leS a b = true
theorem leS_total (a b : Str) : (leS a b || leS b a) = true := by
  unfold leS
  rw [Bool.or_eq_true, decide_eq_true_eq, decide_eq_true_eq]
  exact Std.le_total
theorem leS_trans (a b c : Str) : leS a b = true → leS b c = true → leS a c = true := by
  unfold leS
  simp only [decide_eq_true_eq]
  exact Std.le_trans
theorem nameIn_sort {ws ms : List Str} {k : Nat} (h : ms.Perm ws) (hn : ws.Nodup) : NameIn ((ms.take k).mergeSort leS) ws := by
  refine ⟨((List.mergeSort_perm _ _).nodup_iff).mpr (List.Nodup.sublist (List.take_sublist _ _) (h.nodup_iff.mpr hn)), fun n hm => ?_, List.pairwise_mergeSort leS_trans leS_total _⟩
  have := (List.mergeSort_perm _ _).mem_iff.mp hm
  exact h.mem_iff.mp (List.mem_of_mem_take this)
theorem names_w {b : Bag} (hb : BagOk b) {m : Int} (h0 : 0 ≤ m) (h1 : m ≤ 6) {P : Po}
    (k : ∀ ns b', ns.length = m.toNat → (NameIn ns wordsA ∨ NameIn ns wordsB ∨ NameIn ns wordsC) → BagOk b' → P.rt (.lst (ns.map .str)) [some (dBag b')]) : Ws (namesF [dBag b, .int m]) P := by
  refine W.runF (e0 := [some (dBag b), some (.int m), none, none]) rfl ?_
  unfold namesB
  refine W.cut (fun e1 => e1 = [some (dBag b), some (.int m), some (.lst [.lst (wordsA.map .str), .lst (wordsB.map .str)]), none]) ?_ fun e1 he => ?_
  · kts_caught
    rfl
  subst he
  refine W.cut (fun e1 => e1 = [some (dBag b), some (.int m), some (.lst [.lst (wordsA.map .str), .lst (wordsB.map .str), .lst (wordsC.map .str)]), none]) ?_ fun e1 he => ?_
  · kts_caught
    rfl
  subst he
  refine W.cut (fun e1 => ∃ b' ws, BagOk b' ∧ (ws = wordsA ∨ ws = wordsB ∨ ws = wordsC) ∧ e1 = [some (dBag b'), some (.int m), some (.lst [.lst (wordsA.map .str), .lst (wordsB.map .str), .lst (wordsC.map .str)]), some (.lst (ws.map .str))]) ?_ fun e1 he => ?_
  · kts_caught
    refine take_w hb (by decide) (by decide) fun n b' h0 h1 hb' => ?_
    kts_caughtN
    refine W.ix_mem h0 h1 fun z hz => ?_
    simp only [List.mem_cons, List.not_mem_nil, or_false] at hz
    rcases hz with rfl | rfl | rfl | rfl
    · kts_caughtN; exact ⟨b', wordsA, hb', .inl rfl, rfl⟩
    · kts_caughtN; exact ⟨b', wordsA, hb', .inl rfl, rfl⟩
    · kts_caughtN; exact ⟨b', wordsB, hb', .inr (.inl rfl), rfl⟩
    · kts_caughtN; exact ⟨b', wordsC, hb', .inr (.inr rfl), rfl⟩
  obtain ⟨b', ws, hb', hw, rfl⟩ := he
  have hl : ws.length = 6 := by rcases hw with rfl | rfl | rfl <;> rfl
  kts_caught
  refine mixed_w hb' (by rw [List.length_map]; omega) fun ds b'' hp hb'' => ?_
  obtain ⟨ms, rfl, hm⟩ := perm_strs hp
  kts_caughtN
  refine W.sl_lst ?_
  rw [cut_to h0, ← List.map_take]
  kts_caughtN
  refine W.opL (hSorted_strs ?_) ?_
  · rw [List.length_take]; omega
  · refine k _ b'' ?_ ?_ hb''
    · rw [(List.mergeSort_perm _ _).length_eq, List.length_take, hm.length_eq]; omega
    · rcases hw with rfl | rfl | rfl
      · exact .inl (nameIn_sort hm (by decide))
      · exact .inr (.inl (nameIn_sort hm (by decide)))
      · exact .inr (.inr (nameIn_sort hm (by decide)))
end G

/-! FpK -/
/-! what values are -/
namespace G
open PySem L2
/-- no object -/
def D.nob : D → Bool
  | .obj _ _ => false
  | _ => true
def D.isB : D → Bool
  | .bl _ => true
  | _ => false
/-- an integer, no truth -/
def D.isI : D → Bool
  | .int _ => true
  | _ => false
def D.isS : D → Bool
  | .str _ => true
  | _ => false
def D.isT : D → Bool
  | .tup _ => true
  | _ => false
def D.isL : D → Bool
  | .lst _ => true
  | _ => false
def D.isD : D → Bool
  | .dic _ => true
  | _ => false
theorem isa_int {d : D} (h : d.nob = true) : hIsa "int" d = some (.bl (d.isI || d.isB)) := by cases d <;> first | rfl | (cases h; done)
theorem isa_bool {d : D} (h : d.nob = true) : hIsa "bool" d = some (.bl d.isB) := by cases d <;> first | rfl | (cases h; done)
theorem isa_str {d : D} (h : d.nob = true) : hIsa "str" d = some (.bl d.isS) := by cases d <;> first | rfl | (cases h; done)
theorem isa_tuple {d : D} (h : d.nob = true) : hIsa "tuple" d = some (.bl d.isT) := by cases d <;> first | rfl | (cases h; done)
theorem isa_list {d : D} (h : d.nob = true) : hIsa "list" d = some (.bl d.isL) := by cases d <;> first | rfl | (cases h; done)
theorem isa_dict {d : D} (h : d.nob = true) : hIsa "dict" d = some (.bl d.isD) := by cases d <;> first | rfl | (cases h; done)
def isIntegerB : MS := (sRet (mAnd (mIsa "int" (mVar 0)) (mNot (mIsa "bool" (mVar 0)))))
def isIntegerF : PF := runF 1 0 isIntegerB
theorem isInteger_w {d : D} (h : d.nob = true) {P : Po} (k : P.rt (.bl d.isI) []) : Ws (isIntegerF [d]) P := by
  refine W.runF (e0 := [some d]) rfl ?_
  unfold isIntegerB
  kts_caught
  refine W.op1 (isa_int h) ?_
  kts_caught
  refine W.condB (fun hb => ?_) fun hb => ?_
  · kts_caught
    refine W.op1 (isa_bool h) ?_
    kts_caught
    cases d <;> first | exact k | cases hb
  · cases d <;> first | exact k | cases hb
def isNameB : MS := (sSeq (sIf (tOrP (tNotP (mTest (mIsa "str" (mVar 0)))) (tNotP (mTest (mChain opLe opLe (mC (.int 1)) (mFn hLen (aCons (mVar 0) aNil)) (mC (.int 8))))))
      (sRet (mC (.bl false)))
      sNx)
    (sRet (mFn hAll (aCons (mLc (iAny (mVar 0)) (bName 1) tAll (mBin opIn (mVar 1) (mC (.str "abcdefghijklmnopqrstuvwxyz"))) [1]) aNil))))
def isNameF : PF := runF 2 0 isNameB
def lowers : Str := "abcdefghijklmnopqrstuvwxyz"
def isLow (c : Nat) : Bool := decide (c ∈ lowers.cps.toList)
def nameS (s : Str) : Bool := decide (1 ≤ s.length) && decide (s.length ≤ 8) && s.cps.toList.all isLow
def D.isN : D → Bool
  | .str s => nameS s
  | _ => false
theorem opIn_sign (c : Nat) : opIn (.str ⟨#[c]⟩) (.str "abcdefghijklmnopqrstuvwxyz") = some (.bl (isLow c)) := by
  show some (D.bl (xor false (decide (c ∈ _)))) = _
  rw [Bool.false_xor]
  rfl
theorem opNotIn_sign (c : Nat) : opNotIn (.str ⟨#[c]⟩) (.str "abcdefghijklmnopqrstuvwxyz") = some (.bl (!isLow c)) := by
  show some (D.bl (xor true (decide (c ∈ _)))) = _
  rw [Bool.true_xor]
  rfl
theorem strLen_eq (s : Str) : s.cps.toList.length = s.length := by simp [Str.length]
theorem sizeOk {n : Nat} (h : n ≤ 100000) : decide (n ≤ sizeLine) = true := decide_eq_true (by rw [sizeLine_eq]; omega)
theorem hLen_str {s : Str} (h : s.length ≤ 100000) : hLen [.str s] = some (.int s.length) := by
  show (if decide (s.length ≤ sizeLine) = true then some (D.int s.length) else none) = _
  rw [sizeOk h]
  rfl
theorem isName_w {d : D} (h : d.nob = true) (hs : ∀ s, d = .str s → s.length ≤ 100000) {P : Po} (k : P.rt (.bl d.isN) []) : Ws (isNameF [d]) P := by
  refine W.runF (e0 := [some d, none]) rfl ?_
  unfold isNameB
  kts_caught
  refine W.op1 (isa_str h) ?_
  kts_caughtN
  cases d with
  | str s =>
    have hl := hs s rfl
    refine W.condF ?_
    kts_caughtN
    refine W.opL (hLen_str hl) ?_
    kts_caughtN
    refine W.cond (fun h1 => ?_) fun h1 => ?_
    · kts_caughtN
      refine W.condN (fun h2 => ?_) fun h2 => ?_
      rotate_left
      · kts_caughtN
        kts_caught
        refine W.lcm (fun _ => true) (fun d => match d with | .str z => .bl (match z.cps.toList with | [c] => isLow c | _ => false) | _ => .non) (by rw [List.length_map, strLen_eq]; omega) (fun d hd => ?_) ?_
        · obtain ⟨c, _, rfl⟩ := List.mem_map.mp hd
          kts_caughtN
          refine ⟨rfl, ?_⟩
          kts_caughtN
          refine W.op2 (opIn_sign c) ?_
          exact ⟨rfl, rfl⟩
        · kts_caughtN
          refine W.all_ (bs := s.cps.toList.map isLow) ?_ ?_
          · rw [List.filter_eq_self.mpr (fun _ _ => rfl), List.map_map, List.map_map]
            rfl
          · have e : D.isN (.str s) = (s.cps.toList.map isLow).all id := by
              simp only [D.isN, nameS]
              rw [decide_eq_true (by omega), decide_eq_true (by omega), List.all_map]
              rfl
            rw [e] at k
            exact k
      · kts_caughtN
        have e : D.isN (.str s) = false := by
          simp only [D.isN, nameS]
          rw [decide_eq_false (by omega : ¬ s.length ≤ 8), Bool.and_false, Bool.false_and]
        rw [e] at k
        exact k
    · kts_caughtN
      have e : D.isN (.str s) = false := by
        simp only [D.isN, nameS]
        rw [decide_eq_false (by omega : ¬ 1 ≤ s.length), Bool.false_and, Bool.false_and]
      rw [e] at k
      exact k
  | _ => first | (cases h; done) | (refine W.condT ?_; kts_caughtN; exact k)
def isWordB : MS := (sRet (mAnd (mIsa "tuple" (mVar 0)) (mFn hAll (aCons (mLc (iAny (mVar 0)) (bName 1) tAll (mCall isNameF [none] (aCons (mVar 1) aNil)) [1]) aNil))))
def isWordF : PF := runF 2 0 isWordB
def D.isW : D → Bool
  | .tup xs => xs.all D.isN
  | _ => false
def D.strs : D → Prop
  | .str s => s.length ≤ 100000
  | _ => True
theorem D.strs_of {d : D} (h : d.strs) : ∀ s, d = .str s → s.length ≤ 100000 := fun s e => by subst e; exact h
/-- a part of a word, maybe -/
def D.part (d : D) : Prop := d.nob = true ∧ d.strs
theorem isWord_w {d : D} (h : d.nob = true) (hs : ∀ xs, d = .tup xs → xs.length ≤ 100000 ∧ ∀ x ∈ xs, x.part) {P : Po} (k : P.rt (.bl d.isW) []) : Ws (isWordF [d]) P := by
  refine W.runF (e0 := [some d, none]) rfl ?_
  unfold isWordB
  kts_caught
  refine W.op1 (isa_tuple h) ?_
  kts_caughtN
  cases d with
  | tup xs =>
    obtain ⟨hl, hx⟩ := hs xs rfl
    refine W.condT ?_
    kts_caughtN
    refine W.lcm (fun _ => true) (fun d => .bl d.isN) hl (fun d hd => ?_) ?_
    · kts_caughtN
      refine ⟨rfl, ?_⟩
      kts_caughtN
      exact isName_w (hx d hd).1 (D.strs_of (hx d hd).2) ⟨rfl, rfl⟩
    · kts_caughtN
      refine W.all_ (bs := xs.map D.isN) ?_ ?_
      · rw [List.filter_eq_self.mpr (fun _ _ => rfl), List.map_map]
        rfl
      · rw [List.all_map]
        exact k
  | _ => first | (cases h; done) | (refine W.condF ?_; kts_caughtN; exact k)
def isNumberB : MS := (sRet (mAnd (mCall isIntegerF [none] (aCons (mVar 1) aNil)) (mChain opLe opLt (mC (.int 0)) (mVar 1) (mVar 0))))
def isNumberF : PF := runF 2 0 isNumberB
/-- an integer from 0 to m less 1 -/
def D.isNum (m : Int) : D → Bool
  | .int i => decide (0 ≤ i) && decide (i < m)
  | _ => false
theorem isNumber_w {m : Int} {d : D} (h : d.nob = true) {P : Po} (k : P.rt (.bl (d.isNum m)) []) : Ws (isNumberF [.int m, d]) P := by
  refine W.runF (e0 := [some (.int m), some d]) rfl ?_
  unfold isNumberB
  kts_caught
  refine isInteger_w h ?_
  kts_caughtN
  cases d with
  | int i =>
    refine W.condT ?_
    kts_caughtN
    refine W.cond (fun h1 => ?_) fun h1 => ?_
    · kts_caughtN
      have e : D.isNum m (.int i) = decide (i < m) := by simp [D.isNum, h1]
      rw [e] at k
      exact k
    · kts_caughtN
      have e : D.isNum m (.int i) = false := by simp [D.isNum, h1]
      rw [e] at k
      exact k
  | _ => first | (cases h; done) | (refine W.condF ?_; kts_caughtN; exact k)
theorem opEq_nil {zs : List D} (h : (D.lst zs).Ok) : opEq (.lst zs) (.lst []) = some (.bl zs.isEmpty) := by
  obtain ⟨p, h1, h2, h3⟩ := h.py
  have h1' := h1
  simp only [D.py, Option.map_eq_some_iff] at h1'
  obtain ⟨ps, e1, e2⟩ := h1'
  subst e2
  unfold opEq opEqN
  have e0 : strEq (.lst zs) (.lst []) = none := rfl
  have e3 : (D.lst []).py = some (.list []) := rfl
  have e4 : SeqAt.shaped (.list []) = true := rfl
  simp only [e0, h1, e3, h2, e4, Bool.and_self, if_true]
  cases zs with
  | nil => simp only [D.pyL] at e1; cases e1; rfl
  | cons z zs =>
    simp only [D.pyL] at e1
    split at e1
    · cases e1; rfl
    · cases e1
end G

/-! FpT -/
/-! small data -/
namespace G
open PySem L2
/-- a text of at most n signs -/
structure SOk (s : Str) (n : Nat) : Prop where
  c : ∀ c ∈ s.cps.toList, c < 0x110000
  l : s.length ≤ n
theorem SOk.ok {s : Str} {n : Nat} (h : SOk s n) : PyData.strOk s = true := by
  unfold PyData.strOk
  rw [Array.all_eq_true_iff_forall_mem]
  intro c hc
  exact decide_eq_true (h.c c (by simpa using hc))
theorem SOk.up {s : Str} {n m : Nat} (h : SOk s n) (e : n ≤ m) : SOk s m := ⟨h.c, Nat.le_trans h.l e⟩
theorem cps_append (x y : Str) : (x ++ y).cps.toList = x.cps.toList ++ y.cps.toList := Array.toList_append
theorem SOk.append {x y : Str} {n m : Nat} (h : SOk x n) (k : SOk y m) : SOk (x ++ y) (n + m) := by
  refine ⟨fun c hc => ?_, ?_⟩
  · rw [cps_append] at hc
    exact (List.mem_append.mp hc).elim (h.c c) (k.c c)
  · rw [strLen_append]
    have := h.l; have := k.l
    omega
theorem SOk.cut {x : Str} {n : Nat} (h : SOk x n) (l u : Option Int) : SOk (cutS x l u) n := by
  have e : (cutS x l u).cps.toList = (x.cps.toList.drop (HT.sIx x.length 0 l)).take (HT.sIx x.length x.length u - HT.sIx x.length 0 l) := rfl
  refine ⟨fun c hc => h.c c ?_, ?_⟩
  · rw [e] at hc
    exact List.mem_of_mem_drop (List.mem_of_mem_take hc)
  · have : (cutS x l u).length = (cutS x l u).cps.toList.length := by simp [Str.length]
    rw [this, e, List.length_take, List.length_drop]
    have e2 : x.cps.toList.length = x.length := by simp [Str.length]
    have := h.l
    omega
theorem SOk.sign {c : Nat} (h : c < 0x110000) : SOk ⟨#[c]⟩ 1 := ⟨fun d hd => by
  have : d = c := by simpa using hd
  omega, Nat.le_refl _⟩
theorem SOk.of (s : Str) (n : Nat) (h : ((s.cps.toList.all fun c => decide (c < 0x110000)) && decide (s.length ≤ n)) = true) : SOk s n := by
  simp only [Bool.and_eq_true, List.all_eq_true, decide_eq_true_eq] at h
  exact ⟨h.1, h.2⟩
theorem join0_cps : ∀ ys : List Str, (Txt.join "" ys).cps.toList = ys.flatMap fun y => y.cps.toList := by
  intro ys
  have key : ∀ ys : List Str, (Str.join "" ys).cps.toList = ys.flatMap fun y => y.cps.toList := by
    intro ys
    induction ys with
    | nil => rfl
    | cons y r ih =>
      cases r with
      | nil => simp [Str.join]
      | cons z r =>
        have e : Str.join "" (y :: z :: r) = y ++ "" ++ Str.join "" (z :: r) := rfl
        rw [e, cps_append, cps_append, ih]
        simp [Str.ofString, cpsOfBytes]
  show (Builtin.Str.glued _ ys).cps.toList = _
  rw [StrLaws.glued_eq_join]
  exact key ys
theorem SOk.join0 {ys : List Str} {n : Nat} (h : ∀ y ∈ ys, SOk y n) : SOk (Txt.join "" ys) (ys.length * n) := by
  refine ⟨fun c hc => ?_, ?_⟩
  · rw [join0_cps, List.mem_flatMap] at hc
    obtain ⟨y, hy, hc⟩ := hc
    exact (h y hy).c c hc
  · have : (Txt.join "" ys).length = (Txt.join "" ys).cps.toList.length := by simp [Str.length]
    rw [this, join0_cps]
    clear this
    induction ys with
    | nil => exact Nat.le_of_ble_eq_true rfl
    | cons y r ih =>
      rw [List.flatMap_cons, List.length_append, List.length_cons]
      have h1 := ih fun z hz => h z (List.mem_cons_of_mem _ hz)
      have h2 := (h y List.mem_cons_self).l
      have e2 : y.cps.toList.length = y.length := by simp [Str.length]
      rw [Nat.succ_mul]
      omega
/-! data of a bounded size -/
structure T1 (d : D) (n k : Nat) : Prop where
  f : d.fine = true
  w : d.wt ≤ n
  d : d.dep ≤ k
structure TL (xs : List D) (n k : Nat) : Prop where
  f : D.fineL xs = true
  w : D.wtL xs ≤ n
  d : D.depL xs ≤ k
theorem T1.up {d : D} {n k m j : Nat} (h : T1 d n k) (h1 : n ≤ m) (h2 : k ≤ j) : T1 d m j := ⟨h.f, Nat.le_trans h.w h1, Nat.le_trans h.d h2⟩
theorem TL.up {d : List D} {n k m j : Nat} (h : TL d n k) (h1 : n ≤ m) (h2 : k ≤ j) : TL d m j := ⟨h.f, Nat.le_trans h.w h1, Nat.le_trans h.d h2⟩
theorem T1.ok {d : D} {n k : Nat} (h : T1 d n k) (h1 : n ≤ 16000000) (h2 : k ≤ 60) : d.Ok := ⟨h.f, Nat.le_trans h.d h2, Nat.le_trans h.w h1⟩
theorem T1.tup {xs : List D} {n k : Nat} (h : TL xs n k) : T1 (.tup xs) (n + 4) (k + 1) := ⟨by simpa [D.fine] using h.f, by simp only [D.wt]; have := h.w; omega, by simp only [D.dep]; have := h.d; omega⟩
theorem T1.lst {xs : List D} {n k : Nat} (h : TL xs n k) : T1 (.lst xs) (n + 4) (k + 1) := ⟨by simpa [D.fine] using h.f, by simp only [D.wt]; have := h.w; omega, by simp only [D.dep]; have := h.d; omega⟩
theorem T1.int {i : Int} (h : i.natAbs.log2 < 300) : T1 (.int i) 302 0 := ⟨by simpa [D.fine] using h, Nat.le_refl _, Nat.le_refl _⟩
theorem T1.bl {b : Bool} : T1 (.bl b) 5 0 := ⟨rfl, Nat.le_refl _, Nat.le_refl _⟩
theorem T1.non : T1 .non 5 0 := ⟨rfl, Nat.le_refl _, Nat.le_refl _⟩
theorem T1.str {s : Str} {n : Nat} (h : SOk s n) : T1 (.str s) (10 * n + 2) 0 := ⟨by simpa [D.fine] using h.ok, by simp only [D.wt]; have := h.l; omega, Nat.le_refl _⟩
theorem TL.nil : TL [] 0 0 := ⟨rfl, Nat.le_refl _, Nat.le_refl _⟩
theorem TL.cons {d : D} {xs : List D} {n m k : Nat} (h : T1 d n k) (t : TL xs m k) : TL (d :: xs) (n + 2 + m) k := ⟨by simp [D.fineL, h.f, t.f], by simp only [D.wtL]; have := h.w; have := t.w; omega, by simp only [D.depL]; exact Nat.max_le.mpr ⟨h.d, t.d⟩⟩
theorem TL.append {k : Nat} : ∀ {xs ys : List D} {n m : Nat}, TL xs n k → TL ys m k → TL (xs ++ ys) (n + m) k
  | [], ys, n, m, _, h => h.up (by omega) (Nat.le_refl _)
  | x :: xs, ys, n, m, h, h' => by
    have f : x.fine = true ∧ D.fineL xs = true := by simpa [D.fineL] using h.f
    have w : x.wt + 2 + D.wtL xs ≤ n := by have := h.w; simpa only [D.wtL] using this
    have d : max x.dep (D.depL xs) ≤ k := by have := h.d; simpa only [D.depL] using this
    have t : TL xs (D.wtL xs) k := ⟨f.2, Nat.le_refl _, by omega⟩
    exact (TL.cons (n := x.wt) ⟨f.1, Nat.le_refl _, by omega⟩ (t.append h')).up (by omega) (Nat.le_refl _)
theorem TL.get {xs : List D} {n k : Nat} (h : TL xs n k) : ∀ x ∈ xs, T1 x (n - 2) k := by
  induction xs generalizing n with
  | nil => intro x hx; simp at hx
  | cons y ys ih =>
    have f : y.fine = true ∧ D.fineL ys = true := by simpa [D.fineL] using h.f
    have w : y.wt + 2 + D.wtL ys ≤ n := by have := h.w; simpa only [D.wtL] using this
    have d : max y.dep (D.depL ys) ≤ k := by have := h.d; simpa only [D.depL] using this
    intro x hx
    rcases List.mem_cons.mp hx with rfl | hx
    · exact ⟨f.1, by omega, by omega⟩
    · exact (ih (n := D.wtL ys) ⟨f.2, Nat.le_refl _, by omega⟩ x hx).up (by omega) (Nat.le_refl _)
theorem TL.len {xs : List D} {n k : Nat} (h : TL xs n k) : 2 * xs.length ≤ n := by
  induction xs generalizing n with
  | nil => exact Nat.zero_le _
  | cons y ys ih =>
    have f : y.fine = true ∧ D.fineL ys = true := by simpa [D.fineL] using h.f
    have w : y.wt + 2 + D.wtL ys ≤ n := by have := h.w; simpa only [D.wtL] using this
    have d : max y.dep (D.depL ys) ≤ k := by have := h.d; simpa only [D.depL] using this
    have := ih (n := D.wtL ys) ⟨f.2, Nat.le_refl _, by omega⟩
    rw [List.length_cons]
    omega
theorem TL.all {xs : List D} {n k : Nat} (h : ∀ x ∈ xs, T1 x n k) : TL xs (xs.length * (n + 2)) k := by
  induction xs with
  | nil => exact ⟨rfl, Nat.zero_le _, Nat.zero_le _⟩
  | cons y ys ih =>
    have := TL.cons (h y List.mem_cons_self) (ih fun x hx => h x (List.mem_cons_of_mem _ hx))
    refine this.up ?_ (Nat.le_refl _)
    rw [List.length_cons, Nat.succ_mul]
    omega
theorem TL.sub {xs ys : List D} {n k : Nat} (h : TL xs n k) (s : ys.Sublist xs) : TL ys n k := by
  induction s generalizing n with
  | slnil => exact h
  | @cons l1 l2 x s ih =>
    have f : x.fine = true ∧ D.fineL l2 = true := by simpa [D.fineL] using h.f
    have w : x.wt + 2 + D.wtL l2 ≤ n := by have := h.w; simpa only [D.wtL] using this
    have d : max x.dep (D.depL l2) ≤ k := by have := h.d; simpa only [D.depL] using this
    exact (ih ⟨f.2, Nat.le_refl _, by omega⟩).up (by omega) (Nat.le_refl _)
  | @cons_cons l1 l2 x s ih =>
    have f : x.fine = true ∧ D.fineL l2 = true := by simpa [D.fineL] using h.f
    have w : x.wt + 2 + D.wtL l2 ≤ n := by have := h.w; simpa only [D.wtL] using this
    have d : max x.dep (D.depL l2) ≤ k := by have := h.d; simpa only [D.depL] using this
    exact (TL.cons (n := x.wt) ⟨f.1, Nat.le_refl _, by omega⟩ (ih ⟨f.2, Nat.le_refl _, by omega⟩)).up (by omega) (Nat.le_refl _)
theorem TL.of_tup {xs : List D} {n k : Nat} (h : T1 (.tup xs) n k) : TL xs (n - 4) (k - 1) := ⟨by simpa [D.fine] using h.f, by have := h.w; simp only [D.wt] at this; omega, by have := h.d; simp only [D.dep] at this; omega⟩
theorem TL.of_lst {xs : List D} {n k : Nat} (h : T1 (.lst xs) n k) : TL xs (n - 4) (k - 1) := ⟨by simpa [D.fine] using h.f, by have := h.w; simp only [D.wt] at this; omega, by have := h.d; simp only [D.dep] at this; omega⟩
theorem T1.nob {d : D} {n k : Nat} (h : T1 d n k) : d ≠ .obj "" [] ∧ ∀ c fs, d ≠ .obj c fs := ⟨fun e => by have := h.f; rw [e] at this; simp [D.fine] at this, fun c fs e => by have := h.f; rw [e] at this; simp [D.fine] at this⟩
theorem SOk.of_str {s : Str} {n k : Nat} (h : T1 (.str s) n k) : SOk s (n / 10) := by
  have f : PyData.strOk s = true := by simpa [D.fine] using h.f
  refine ⟨strOk_lt f, ?_⟩
  have := h.w
  simp only [D.wt] at this
  omega
theorem all_none {α : Type} (p : α → Bool) : ∀ xs : List α, (xs.filter fun x => !p x).isEmpty = xs.all p
  | [] => rfl
  | x :: xs => by
    rw [List.filter_cons, List.all_cons]
    cases h : p x
    · rfl
    · exact all_none p xs
end G

/-! K11p -/
/-! the law -/
namespace K11
open PySem L2 G
theorem e_take : pf_L_take = takeF := rfl
theorem e_alike : pf_L_alike = alikeF := rfl
theorem e_mixed : pf_L_mixed = mixedF := rfl
theorem e_names : pf_L_names = namesF := rfl
theorem e_int : pf_p_is_integer = isIntegerF := rfl
theorem e_name : pf_p_is_name = isNameF := rfl
theorem e_word : pf_p_is_word = isWordF := rfl
theorem e_num : pf_p_is_number = isNumberF := rfl
theorem e_plain : pf_L_is_plain = isIntegerF := rfl
def badSign : D → Bool
  | .str z => (match z.cps.toList with | [c] => !isLow c | _ => false)
  | _ => false
theorem badSign_c (c : Nat) : badSign (.str ⟨#[c]⟩) = !isLow c := rfl
theorem bad_none (l : List Nat) : (((l.map fun c => D.str ⟨#[c]⟩).filter badSign).map fun d => d).isEmpty = l.all isLow := by
  rw [List.map_id'']
  · induction l with
    | nil => rfl
    | cons c l ih =>
      rw [List.map_cons, List.filter_cons, badSign_c, List.all_cons]
      cases hc : isLow c
      · rfl
      · exact ih
  · intro x; rfl
/-- the law's own look at a name -/
theorem lname_w {d : D} (h : d.nob = true) (hs : ∀ s, d = .str s → SOk s 20000) {P : Po} (k : P.rt (.bl d.isN) []) : Ws (pf_L_is_name [d]) P := by
  refine W.runF (e0 := [some d, none]) rfl ?_
  unfold fb_L_is_name
  kts_caught
  refine W.op1 (isa_str h) ?_
  kts_caughtN
  cases d with
  | str s =>
    have hs := hs s rfl
    have hl := hs.l
    refine W.condF ?_
    kts_caughtN
    refine W.opL (hLen_str (by omega)) ?_
    kts_caughtN
    refine W.cond (fun h1 => ?_) fun h1 => ?_
    · kts_caughtN
      refine W.condN (fun h2 => ?_) fun h2 => ?_
      · kts_caughtN
        have e : D.isN (.str s) = false := by
          simp only [D.isN, nameS]
          rw [decide_eq_false (by omega : ¬ s.length ≤ 8), Bool.and_false, Bool.false_and]
        rw [e] at k
        exact k
      · kts_caughtN
        kts_caught
        refine W.lcm badSign (fun d => d) (by rw [List.length_map, strLen_eq]; omega) (fun d hd => ?_) ?_
        · obtain ⟨c, _, rfl⟩ := List.mem_map.mp hd
          kts_caughtN
          refine W.op2 (opNotIn_sign c) ?_
          kts_caughtN
          refine ⟨rfl, W.condB (fun _ => ?_) fun _ => rfl⟩
          kts_caughtN
          exact ⟨rfl, rfl⟩
        · kts_caughtN
          have z : (D.lst (((s.cps.toList.map fun c => D.str ⟨#[c]⟩).filter badSign).map fun d => d)).Ok := by
            refine (T1.lst (TL.all (n := 12) (k := 0) fun x hx => ?_)).ok ?_ (by decide)
            · obtain ⟨y, hy, rfl⟩ := List.mem_map.mp hx
              obtain ⟨c, hc, rfl⟩ := List.mem_map.mp (List.mem_filter.mp hy).1
              exact T1.str (SOk.sign (hs.c c hc))
            · have := List.length_filter_le badSign (s.cps.toList.map fun c => D.str ⟨#[c]⟩)
              rw [List.length_map, strLen_eq] at this
              rw [List.length_map]
              omega
          refine W.op2 (opEq_nil z) ?_
          have e : D.isN (.str s) = (((s.cps.toList.map fun c => D.str ⟨#[c]⟩).filter badSign).map fun d => d).isEmpty := by
            rw [bad_none]
            simp only [D.isN, nameS]
            rw [decide_eq_true (by omega), decide_eq_true (by omega)]
            rfl
          rw [e] at k
          exact k
    · kts_caughtN
      have e : D.isN (.str s) = false := by
        simp only [D.isN, nameS]
        rw [decide_eq_false (by omega : ¬ 1 ≤ s.length), Bool.false_and, Bool.false_and]
      rw [e] at k
      exact k
  | _ => first | (cases h; done) | (refine W.condT ?_; kts_caughtN; exact k)

/-- a thing -/
def Tiny (d : D) : Prop := T1 d 90000 20
theorem tiny_nob {d : D} (h : Tiny d) : d.nob = true := by
  cases d with
  | obj c fs => exact absurd rfl (h.nob.2 c fs)
  | _ => rfl
theorem tiny_strs {d : D} (h : Tiny d) : ∀ s, d = .str s → SOk s 20000 := fun s e => by
  subst e
  exact (SOk.of_str h).up (by decide)
theorem tiny_part {d : D} (h : Tiny d) : d.part := ⟨tiny_nob h, by
  cases d with
  | str s => have := (tiny_strs h s rfl).l; show s.length ≤ 100000; omega
  | _ => trivial⟩
theorem tiny_tup {d : D} (h : Tiny d) : ∀ xs, d = .tup xs → xs.length ≤ 100000 ∧ ∀ x ∈ xs, Tiny x := fun xs e => by
  subst e
  have t := TL.of_tup h
  refine ⟨by have := t.len; omega, fun x hx => (t.get x hx).up (by omega) (by omega)⟩
theorem lword_w {d : D} (h : d.nob = true) (hs : ∀ xs, d = .tup xs → Tiny d) {P : Po} (k : P.rt (.bl d.isW) []) : Ws (pf_L_is_word [d]) P := by
  refine W.runF (e0 := [some d, none]) rfl ?_
  unfold fb_L_is_word
  kts_caught
  refine W.op1 (isa_tuple h) ?_
  kts_caughtN
  cases d with
  | tup xs =>
    have ht := hs xs rfl
    obtain ⟨hl, hx⟩ := tiny_tup ht xs rfl
    refine W.condT ?_
    kts_caughtN
    refine W.lcm (fun d => !d.isN) (fun d => d) hl (fun d hd => ?_) ?_
    · kts_caughtN
      refine lname_w (tiny_nob (hx d hd)) (tiny_strs (hx d hd)) ?_
      kts_caughtN
      refine ⟨rfl, W.condB (fun _ => ?_) fun _ => rfl⟩
      kts_caughtN
      exact ⟨rfl, rfl⟩
    · kts_caughtN
      have z : (D.lst ((xs.filter fun d => !d.isN).map fun d => d)).Ok := by
        rw [List.map_id'' (fun _ => rfl)]
        exact (T1.lst ((TL.of_tup ht).sub List.filter_sublist)).ok (by decide) (by decide)
      refine W.op2 (opEq_nil z) ?_
      have e : D.isW (.tup xs) = ((xs.filter fun d => !d.isN).map fun d => d).isEmpty := by
        rw [List.map_id'' (fun _ => rfl)]
        exact (all_none D.isN xs).symm
      rw [e] at k
      exact k
  | _ => first | (cases h; done) | (refine W.condF ?_; kts_caughtN; exact k)

/-! values of all kinds -/
def Th (d : D) : Prop := Tiny d ∨ d = .dic [] ∨ d = .dic [(.int 0, .int 0)] ∨ ∃ n, n ∈ wordsA ++ wordsB ++ wordsC ∧ d = .dic [(.str n, .int 0)]
theorem th_nob {d : D} (h : Th d) : d.nob = true := by
  rcases h with h | rfl | rfl | ⟨n, _, rfl⟩
  · exact tiny_nob h
  · rfl
  · rfl
  · rfl
theorem repr_str {d z : D} (h : hRepr [d] = some z) : ∃ s, z = .str s := by
  unfold hRepr at h
  dsimp only at h
  cases hp : pyR d with
  | none => rw [hp] at h; cases h
  | some p =>
    rw [hp] at h
    dsimp only at h
    split at h
    · exact ⟨_, (Option.some.inj h).symm⟩
    · cases h
theorem dic_repr : ∀ n ∈ wordsA ++ wordsB ++ wordsC, (hRepr [.dic [(.str n, .int 0)]]).isSome = true := by decide +kernel
theorem th_repr {d : D} (h : Th d) : ∃ s, hRepr [d] = some (.str s) := by
  have key : (hRepr [d]).isSome = true → ∃ s, hRepr [d] = some (.str s) := fun q => by
    obtain ⟨z, hz⟩ := Option.isSome_iff_exists.mp q
    obtain ⟨s, rfl⟩ := repr_str hz
    exact ⟨s, hz⟩
  rcases h with h | rfl | rfl | ⟨n, hn, rfl⟩
  · exact (T1.ok h (by decide) (by decide)).repr
  · exact key (by decide +kernel)
  · exact key (by decide +kernel)
  · exact key (dic_repr n hn)
theorem tiny_of {d : D} (h : (d.fine && decide (d.wt ≤ 90000) && decide (d.dep ≤ 20)) = true) : Tiny d := by
  simp only [Bool.and_eq_true, decide_eq_true_eq] at h
  exact ⟨h.1.1, h.1.2, h.2⟩
theorem odd_w {b : Bag} (hb : BagOk b) {P : Po} (k : ∀ d b', Th d → BagOk b' → P.rt d [some (dBag b')]) : Ws (pf_L_odd [dBag b]) P := by
  refine W.runF (e0 := [some (dBag b), none, none, none]) rfl ?_
  unfold fb_L_odd
  rw [e_take]
  refine W.cut (fun e1 => e1 = [some (dBag b), some (.lst []), none, none]) ?_ fun e1 he => ?_
  · kts_caught
    rfl
  subst he
  refine W.cut (fun e1 => ∃ x, e1 = [some (dBag b), some (.lst [.lst [.lst [.lst [.lst [.lst []]]]]]), x, none]) ?_ fun e1 he => ?_
  · kts_caughtN
    refine W.each_cons ?_
    kts_caughtN
    refine W.each_cons ?_
    kts_caughtN
    refine W.each_cons ?_
    kts_caughtN
    refine W.each_cons ?_
    kts_caughtN
    refine W.each_cons ?_
    kts_caughtN
    refine W.each_nil ?_
    exact ⟨_, rfl⟩
  obtain ⟨x, rfl⟩ := he
  kts_caught
  refine W.dicv (ks := [.inl 0]) rfl (by decide) ?_
  kts_caught
  refine take_w hb (by decide) (by decide) fun n b' h0 h1 hb' => ?_
  kts_caughtN
  refine W.ix_mem h0 h1 fun z hz => ?_
  have hz : Th z := by
    simp only [List.mem_cons, List.mem_append, List.not_mem_nil, or_false] at hz
    rcases hz with (rfl | rfl | rfl | rfl | rfl | rfl | rfl | rfl | rfl | rfl | rfl | rfl | rfl | rfl | rfl | rfl) | rfl | rfl
    all_goals first | exact .inr (.inl rfl) | exact .inr (.inr (.inl rfl)) | exact .inl (tiny_of (by decide +kernel))
  exact k z b' hz hb'

theorem ix_str {z : Str} {i : Int} {K : D → Prop} (hz : z.length ≤ 100000) (h0 : 0 ≤ i) (h1 : i < z.length) (q : ∀ c ∈ z.cps.toList, K (.str ⟨#[c]⟩)) : Op2 opIx (.str z) (.int i) K := by
  have e := strLen_eq z
  have hl : i.toNat < z.cps.toList.length := by omega
  refine W.op2 (z := .str ⟨#[z.cps.toList[i.toNat]]⟩) ?_ (q _ (List.getElem_mem hl))
  show (if decide (z.length ≤ sizeLine) = true then (atI z.cps.toList i).map fun c => D.str ⟨#[c]⟩ else none) = _
  rw [sizeOk hz, if_pos rfl, atI_of (n := i.toNat) (by omega) (List.getElem?_eq_getElem hl)]
  rfl
theorem strsOf_map : ∀ ys : List Str, strsOf (ys.map .str) = some ys
  | [] => rfl
  | y :: ys => by rw [List.map_cons, strsOf, strsOf_map ys]; rfl
theorem join_w {ys : List Str} {n : Nat} {K : D → Prop} (h : ∀ y ∈ ys, SOk y n) (hn : ys.length * n ≤ 1000) (q : K (.str (Txt.join "" ys))) : OptV (hJoin "" [.lst (ys.map .str)]) K := by
  refine W.opt ?_ q
  simp only [hJoin, strsOf_map]
  have e : ((("" : String) : Str)).length = 0 := rfl
  have s : (ys.map (·.length)).sum ≤ ys.length * n := by
    clear q hn
    induction ys with
    | nil => exact Nat.zero_le _
    | cons y r ih =>
      have h1 := (h y List.mem_cons_self).l
      have h2 := ih fun z hz => h z (List.mem_cons_of_mem _ hz)
      rw [List.map_cons, List.sum_cons, List.length_cons, Nat.succ_mul]
      omega
  rw [e, decide_eq_true (by omega), if_pos rfl]
theorem tiny_str {s : Str} {n : Nat} (h : SOk s n) (hn : n ≤ 8000) : Tiny (.str s) := (T1.str h).up (by omega) (by decide)
theorem word_ok : ∀ n ∈ wordsA ++ wordsB ++ wordsC, SOk n 8 := fun n hn => SOk.of n 8 ((by decide +kernel : ∀ n ∈ wordsA ++ wordsB ++ wordsC, ((n.cps.toList.all fun c => decide (c < 0x110000)) && decide (n.length ≤ 8)) = true) n hn)
theorem nameIn_word {ns : List Str} (h : NameIn ns wordsA ∨ NameIn ns wordsB ∨ NameIn ns wordsC) : ∀ n ∈ ns, n ∈ wordsA ++ wordsB ++ wordsC := fun n hn => by
  rcases h with h | h | h
  · exact List.mem_append_left _ (List.mem_append_left _ (h.2.1 n hn))
  · exact List.mem_append_left _ (List.mem_append_right _ (h.2.1 n hn))
  · exact List.mem_append_right _ (h.2.1 n hn)
theorem flat_rep (d : D) : ∀ k : Nat, (List.replicate k [d]).flatten = List.replicate k d
  | 0 => rfl
  | k + 1 => by rw [List.replicate_succ, List.flatten_cons, flat_rep d k, List.replicate_succ]; rfl
def texts : List D := [.str "", .str "a", .str "abcdefgh", .str "abcdefghi", .str "A", .str "aB", .str "a b", .str "a1", .str "a_", .str " a", .str "a\n", .str "~", .str "begin", .str "{", .str "`", .str "zz"]
theorem texts_ok : ∀ d ∈ texts, Th d ∧ T1 d 1000 0 := fun d hd => by
  have : (d.fine && decide (d.wt ≤ 1000) && decide (d.dep ≤ 0)) = true := (by decide +kernel : ∀ d ∈ texts, (d.fine && decide (d.wt ≤ 1000) && decide (d.dep ≤ 0)) = true) d hd
  simp only [Bool.and_eq_true, decide_eq_true_eq] at this
  have h : T1 d 1000 0 := ⟨this.1.1, this.1.2, this.2⟩
  exact ⟨.inl (h.up (by decide) (by decide)), h⟩
theorem things_w {b : Bag} (hb : BagOk b) {P : Po} (k : ∀ ds b', (∀ d ∈ ds, Th d) → ds.length ≤ 1000 → BagOk b' → P.rt (.lst ds) [some (dBag b')]) : Ws (pf_L_things [dBag b]) P := by
  refine W.runF (e0 := [some (dBag b), none, none, none, none, none, none, none, none, none, none, none]) rfl ?_
  unfold fb_L_things
  rw [e_take, e_names]
  refine W.cut (fun e1 => e1 = [some (dBag b), some (.lst texts), none, none, none, none, none, none, none, none, none, none]) ?_ fun e1 he => ?_
  · kts_caught
    rfl
  subst he
  refine W.cut (fun e1 => ∃ b n, BagOk b ∧ n ∈ wordsA ++ wordsB ++ wordsC ∧ e1 = [some (dBag b), some (.lst texts), some (.str n), none, none, none, none, none, none, none, none, none]) ?_ fun e1 he => ?_
  · kts_caught
    refine names_w hb (by decide) (by decide) fun ns b' hl hn hb' => ?_
    kts_caughtN
    refine W.ix_mem (by decide) (by rw [List.length_map, hl]; decide) fun z hz => ?_
    obtain ⟨n, hn', rfl⟩ := List.mem_map.mp hz
    exact ⟨b', n, hb', nameIn_word hn n hn', rfl⟩
  obtain ⟨b, n, hb, hn, rfl⟩ := he
  have hn8 := word_ok n hn
  have tn : T1 (.str n) 82 0 := T1.str hn8
  refine W.cut (fun e1 => ∃ b m, BagOk b ∧ m ≤ 50 ∧ e1 = [some (dBag b), some (.lst texts), some (.str n), some (.tup (List.replicate m (.str n))), none, none, none, none, none, none, none, none]) ?_ fun e1 he => ?_
  · kts_caught
    refine take_w hb (by decide) (by decide) fun m b' h0 h1 hb' => ?_
    kts_caughtN
    rw [flat_rep]
    exact ⟨b', m.toNat, hb', by omega, rfl⟩
  obtain ⟨b, m, hb, hm, rfl⟩ := he
  have tw : TL (List.replicate m (D.str n)) 4200 0 := (TL.all (n := 82) (k := 0) fun x hx => by rw [(List.mem_replicate.mp hx).2]; exact tn).up (by rw [List.length_replicate]; omega) (by decide)
  generalize hw : List.replicate m (D.str n) = ws at tw
  have hwl : ws.length ≤ 50 := by rw [← hw, List.length_replicate]; exact hm
  refine W.cut (fun e1 => ∃ b i o, BagOk b ∧ 0 ≤ i ∧ T1 o 1000 1 ∧ e1 = [some (dBag b), some (.lst texts), some (.str n), some (.tup ws), some (.int i), some o, none, none, none, none, none, none]) ?_ fun e1 he => ?_
  · kts_caught
    refine take_w hb (by omega) ?_ fun i b' h0 h1 hb' => ?_
    · have h2 := Nat.log2_le_self (((ws.length : Nat) : Int) + 1).natAbs
      omega
    kts_caughtN
    refine W.add_lst (Nat.le_of_ble_eq_true rfl) ?_
    kts_caughtN
    refine take_w hb' (by decide) (by decide) fun j b'' h2 h3 hb'' => ?_
    kts_caughtN
    refine W.ix_mem h2 h3 fun z hz => ?_
    have hz : T1 z 1000 1 := by
      rcases List.mem_append.mp hz with hz | hz
      · exact (texts_ok z hz).2.up (by decide) (by decide)
      · simp only [List.mem_cons, List.not_mem_nil, or_false] at hz
        rcases hz with rfl | rfl | rfl | rfl | rfl
        · exact T1.non.up (by decide) (by decide)
        · exact (T1.int (by decide)).up (by decide) (by decide)
        · exact (T1.tup (TL.cons tn TL.nil)).up (by decide) (by decide)
        · exact (T1.lst (TL.cons tn TL.nil)).up (by decide) (by decide)
        · exact T1.bl.up (by decide) (by decide)
    kts_caughtN
    exact ⟨b'', i, z, hb'', h0, hz, rfl⟩
  obtain ⟨b, i, o, hb, hi, ho, rfl⟩ := he
  refine W.cut (fun e1 => ∃ s, (∀ d ∈ s, Th d) ∧ s.length = 11 ∧ e1 = [some (dBag b), some (.lst texts), some (.str n), some (.tup ws), some (.int i), some o, some (.lst s), none, none, none, none, none]) ?_ fun e1 he => ?_
  · kts_caught
    refine W.sl_tup ?_
    rw [cut_to hi]
    kts_caughtN
    refine W.add_tup (by rw [List.length_take]; simp only [List.length_cons, List.length_nil]; omega) ?_
    kts_caughtN
    refine W.sl_tup ?_
    rw [cut_from hi]
    refine W.add_tup (by rw [List.length_append, List.length_take, List.length_drop]; simp only [List.length_cons, List.length_nil]; omega) ?_
    kts_caughtN
    refine W.dicv (ks := [.inr n]) rfl (by simp [nodupK]) ?_
    kts_caughtN
    have t1 : Tiny (.tup ws) := (T1.tup tw).up (by decide) (by decide)
    refine ⟨_, ?_, ?_, rfl⟩
    · intro d hd
      simp only [List.mem_cons, List.not_mem_nil, or_false] at hd
      rcases hd with rfl | rfl | rfl | rfl | rfl | rfl | rfl | rfl | rfl | rfl | rfl
      · exact .inl t1
      · refine .inl ((T1.tup (n := 10000) (k := 1) ?_).up (by decide) (by decide))
        have a := (tw.sub (List.take_sublist i.toNat ws)).up (Nat.le_refl _) (Nat.zero_le 1)
        have c := (tw.sub (List.drop_sublist i.toNat ws)).up (Nat.le_refl _) (Nat.zero_le 1)
        exact ((a.append ((TL.cons ho (TL.nil.up (Nat.le_refl _) (Nat.zero_le 1))))).append c).up (by decide) (by decide)
      · exact .inl ((T1.lst tw).up (by decide) (by decide))
      · exact .inl ((T1.tup (TL.cons (T1.tup tw) (TL.nil.up (Nat.le_refl _) (Nat.zero_le 1)))).up (by decide) (by decide))
      · exact .inr (.inr (.inr ⟨n, hn, rfl⟩))
      all_goals exact .inl (tiny_of (by decide +kernel))
    · rfl
  obtain ⟨s, hs, hsl, rfl⟩ := he
  refine W.cut (fun e1 => ∃ b s x7 x8 x9 x10 x11, BagOk b ∧ (∀ d ∈ s, Th d) ∧ s.length ≤ 100 ∧ e1 = [some (dBag b), some (.lst texts), some (.str n), some (.tup ws), some (.int i), some o, some (.lst s), x7, x8, x9, x10, x11]) ?_ fun e1 he => ?_
  · kts_caughtN
    refine W.each (fun done e => ∃ b s x7 x8 x9 x10 x11, BagOk b ∧ (∀ d ∈ s, Th d) ∧ s.length = 11 + 4 * done.length ∧ e = [some (dBag b), some (.lst texts), some (.str n), some (.tup ws), some (.int i), some o, some (.lst s), x7, x8, x9, x10, x11]) ⟨b, s, none, none, none, none, none, hb, hs, hsl, rfl⟩ (fun done d e h ⟨rest, hr⟩ => ?_) fun e h => ?_
    · obtain ⟨b, s, x7, x8, x9, x10, x11, hb, hs, hsl, rfl⟩ := h
      have hdl : done.length < 4 := by
        have := congrArg List.length hr
        simp [rngD] at this
        omega
      refine W.bname ?_
      refine W.cut (fun e1 => ∃ (b : Bag) (ys : List Str), BagOk b ∧ (∀ y ∈ ys, SOk y 1) ∧ 1 ≤ ys.length ∧ ys.length ≤ 8 ∧ e1 = [some (dBag b), some (.lst texts), some (.str n), some (.tup ws), some (.int i), some o, some (.lst s), some d, some (.lst (ys.map .str)), none, x10, x11]) ?_ fun e1 he => ?_
      · kts_caughtN
        refine take_w hb (by decide) (by decide) fun m b' h0 h1 hb' => ?_
        kts_caughtN
        have hm : (1 + m).toNat ≤ 8 ∧ 1 ≤ (1 + m).toNat := by omega
        refine W.lcs (fun done acc e => ∃ (b : Bag) (ys : List Str), BagOk b ∧ acc = ys.map D.str ∧ (∀ y ∈ ys, SOk y 1) ∧ ys.length = done.length ∧ e = [some (dBag b), some (.lst texts), some (.str n), some (.tup ws), some (.int i), some o, some (.lst s), some d, x8, none, x10, x11]) ⟨b', [], hb', rfl, (fun y hy => by simp at hy), rfl, rfl⟩ (by simp [rngD]; omega) (fun done acc d' e h _ => ?_) fun acc e h => ?_
        · obtain ⟨b, ys, hb, rfl, hy, hl, rfl⟩ := h
          kts_caughtN
          refine take_w hb (by decide) (by decide) fun m b' h0 h1 hb' => ?_
          kts_caughtN
          refine ix_str (by decide) h0 h1 fun c hc => ?_
          refine ⟨b', ys ++ [⟨#[c]⟩], hb', by rw [List.map_append]; rfl, fun y hy' => ?_, by rw [List.length_append, List.length_append, hl]; rfl, rfl⟩
          rcases List.mem_append.mp hy' with h | h
          · exact hy y h
          · simp only [List.mem_cons, List.not_mem_nil, or_false] at h
            subst h
            exact SOk.sign ((by decide +kernel : ∀ c ∈ lowers.cps.toList, c < 0x110000) c hc)
        · obtain ⟨b, ys, hb, rfl, hy, hl, rfl⟩ := h
          have hl2 : ys.length = (1 + m).toNat := by rw [hl]; simp [rngD]
          exact ⟨b, ys, hb, hy, by omega, by omega, rfl⟩
      obtain ⟨b, ys, hb, hy, hl1, hl8, rfl⟩ := he
      have hj : SOk (Txt.join "" ys) 8 := (SOk.join0 hy).up (by omega)
      generalize hz : Txt.join "" ys = z at hj
      refine W.cut (fun e1 => ∃ b i2, BagOk b ∧ e1 = [some (dBag b), some (.lst texts), some (.str n), some (.tup ws), some (.int i), some o, some (.lst s), some d, some (.lst (ys.map .str)), none, some (.str z), some (.int i2)]) ?_ fun e1 he => ?_
      · kts_caughtN
        refine join_w hy (by omega) ?_
        kts_caughtN
        refine take_w hb ?_ ?_ fun m b' h0 h1 hb' => ?_
        · rw [List.length_map]; omega
        · have h2 := Nat.log2_le_self ((((ys.map D.str).length : Nat) : Int)).natAbs
          rw [List.length_map] at h2 ⊢
          omega
        kts_caughtN
        rw [hz]
        exact ⟨b', m, hb', rfl⟩
      obtain ⟨b, i2, hb, rfl⟩ := he
      kts_caughtN
      refine W.sl_str (by have := hj.l; omega) ?_
      kts_caughtN
      refine take_w hb (by decide) (by decide) fun m b' h0 h1 hb' => ?_
      kts_caughtN
      refine ix_str (by decide) h0 h1 fun c hc => ?_
      have hc : SOk ⟨#[c]⟩ 1 := SOk.sign ((by decide +kernel : ∀ c ∈ (("A0_{" : String) : Str).cps.toList, c < 0x110000) c hc)
      have c1 := hj.cut none (some i2)
      have c2 := hj.cut (some (i2 + 1)) none
      refine W.add_str (by have := c1.l; have := hc.l; omega) ?_
      kts_caughtN
      refine W.sl_str (by have := hj.l; omega) ?_
      refine W.add_str (by have := (c1.append hc).l; have := c2.l; omega) ?_
      kts_caughtN
      refine W.add_str (by have := hj.l; omega) ?_
      kts_caughtN
      refine ⟨b', _, _, _, _, _, _, hb', ?_, ?_, rfl⟩
      · intro d' hd'
        rcases List.mem_append.mp hd' with h | h
        · exact hs d' h
        · simp only [List.mem_cons, List.not_mem_nil, or_false] at h
          rcases h with rfl | rfl | rfl | rfl
          · exact .inl (tiny_str hj (by decide))
          · exact .inl (tiny_str ((c1.append hc).append c2) (by decide))
          · exact .inl ((T1.tup (TL.cons (T1.str hj) (TL.cons (T1.str hj) TL.nil))).up (by decide) (by decide))
          · exact .inl (tiny_str (hj.append hj) (by decide))
      · rw [List.length_append, List.length_append, hsl]
        simp only [List.length_cons, List.length_nil]
        omega
    · obtain ⟨b, s, x7, x8, x9, x10, x11, hb, hs, hsl, rfl⟩ := h
      exact ⟨b, s, x7, x8, x9, x10, x11, hb, hs, by rw [hsl]; simp [rngD], rfl⟩
  obtain ⟨b, s, x7, x8, x9, x10, x11, hb, hs, hsl, rfl⟩ := he
  kts_caughtN
  refine W.add_lst (by show 16 + s.length ≤ 100000; omega) ?_
  kts_caughtN
  have hts : ∀ d ∈ texts ++ s, Th d := fun d hd => (List.mem_append.mp hd).elim (fun h => (texts_ok d h).1) (hs d)
  have htl : (texts ++ s).length ≤ 116 := by rw [List.length_append]; show 16 + s.length ≤ 116; omega
  refine W.lcs (fun done acc e => ∃ b, BagOk b ∧ (∀ d ∈ acc, Th d) ∧ acc.length ≤ done.length ∧ e = [some (dBag b), some (.lst texts), some (.str n), some (.tup ws), some (.int i), some o, some (.lst s), none, x8, x9, x10, x11]) ⟨b, hb, (fun y hy => by simp at hy), Nat.le_refl _, rfl⟩ (by simp [rngD]) (fun done acc d' e h _ => ?_) fun acc e h => ?_
  · obtain ⟨b, hb, hy, hl, rfl⟩ := h
    kts_caughtN
    refine odd_w hb fun z b' hz hb' => ?_
    refine ⟨b', hb', fun y hy' => ?_, by rw [List.length_append, List.length_append]; simp only [List.length_cons, List.length_nil]; omega, rfl⟩
    rcases List.mem_append.mp hy' with h | h
    · exact hy y h
    · simp only [List.mem_cons, List.not_mem_nil, or_false] at h
      subst h
      exact hz
  · obtain ⟨b, hb, hy, hl, rfl⟩ := h
    have hl4 : acc.length ≤ 4 := by simpa [rngD] using hl
    refine W.add_lst (by omega) ?_
    refine k _ b (fun d hd => (List.mem_append.mp hd).elim (hts d) (hy d)) (by rw [List.length_append]; omega) hb
/-! the law -/
theorem bag0 (ns : List Int) : BagOk ⟨0, 1234567891, 0, cellsOf ns⟩ := ⟨Int.le_refl _, ⟨by show (0 : Int) ≤ 1234567891; decide, by show (1234567891 : Int) < 2147483647; decide⟩, Int.le_refl _, fun c hc => by
  obtain ⟨z, _, rfl⟩ := List.mem_map.mp hc
  unfold absI
  split <;> omega⟩
theorem th_tup {d : D} (h : Th d) : ∀ xs, d = .tup xs → Tiny d := fun xs e => by
  rcases h with h | rfl | rfl | ⟨n, _, rfl⟩
  · exact h
  all_goals cases e
theorem th_strs {d : D} (h : Th d) : ∀ s, d = .str s → SOk s 20000 := fun s e => by
  rcases h with h | rfl | rfl | ⟨n, _, rfl⟩
  · exact tiny_strs h s e
  all_goals cases e
theorem law_val (ns : List Int) (_ : Scr ns) : ∃ e, fb_law (lawE N_law ns) = .rt (.bl true) e := by
  have key : Ws (fb_law (lawE N_law ns)) ⟨fun _ => False, fun d _ => d = .bl true, fun _ => False, fun _ => False, fun _ _ => False⟩ := by
    show Ws (fb_law [none, some (dBag ⟨0, 1234567891, 0, cellsOf ns⟩), none, none, none, none, none, none, none]) _
    generalize hb0 : (⟨0, 1234567891, 0, cellsOf ns⟩ : Bag) = b
    have hb : BagOk b := hb0 ▸ bag0 ns
    clear hb0
    unfold fb_law
    rw [e_take, e_alike, e_mixed, e_int, e_name, e_word, e_num, e_plain]
    refine W.cut (fun _ => True) ?_ fun e1 _ => ?_
    · kts_caughtN
      refine things_w hb fun ds b' hd hl hb' => ?_
      kts_caughtN
      refine mixed_w hb' (by omega) fun ds' b'' hp hb'' => ?_
      kts_caughtN
      refine W.keep (fun e => ∃ b x2 x3 x4 x5 x6 x7 x8, BagOk b ∧ e = [none, some (dBag b), x2, x3, x4, x5, x6, x7, x8]) ⟨b'', _, _, _, _, _, _, _, hb'', rfl⟩ (fun d e hd' h => ?_) fun e _ => trivial
      obtain ⟨b, x2, x3, x4, x5, x6, x7, x8, hb, rfl⟩ := h
      have th : Th d := hd d (hp.mem_iff.mp hd')
      have nob := th_nob th
      have part : d.part := ⟨nob, by
        cases d with
        | str s => have := (th_strs th s rfl).l; show s.length ≤ 100000; omega
        | _ => trivial⟩
      obtain ⟨sh, hsh⟩ := th_repr th
      kts_caughtN
      refine W.cut (fun e1 => ∃ b m, BagOk b ∧ e1 = [none, some (dBag b), some d, some (.int m), some (.str sh), x5, x6, x7, x8]) ?_ fun e1 he => ?_
      · kts_caughtN
        refine take_w hb (by decide) (by decide) fun n b' h0 h1 hb' => ?_
        kts_caughtN
        refine W.ix_mem h0 h1 fun z hz => ?_
        have hz : ∃ m, z = .int m := by
          simp only [List.mem_cons, List.not_mem_nil, or_false] at hz
          rcases hz with rfl | rfl | rfl | rfl | rfl | rfl <;> exact ⟨_, rfl⟩
        obtain ⟨m, rfl⟩ := hz
        kts_caughtN
        refine W.opL hsh ?_
        kts_caughtN
        exact ⟨b', m, hb', rfl⟩
      obtain ⟨b, m, hb, rfl⟩ := he
      refine W.cut (fun e1 => e1 = [none, some (dBag b), some d, some (.int m), some (.str sh), some (.bl d.isI), x6, x7, x8]) ?_ fun e1 he => ?_
      · kts_caughtN
        refine isInteger_w nob ?_
        rfl
      subst he
      refine W.cut (fun e1 => e1 = [none, some (dBag b), some d, some (.int m), some (.str sh), some (.bl d.isI), some (.lst [.bl d.isI, .bl d.isN, .bl d.isW, .bl (d.isNum m)]), x7, x8]) ?_ fun e1 he => ?_
      · kts_caughtN
        refine lname_w nob (th_strs th) ?_
        kts_caughtN
        refine lword_w nob (th_tup th) ?_
        kts_caughtN
        refine W.condB (fun hi => ?_) fun hi => ?_
        · cases d with
          | int i =>
            kts_caughtN
            refine W.cond (fun h => ?_) fun h => ?_
            · kts_caughtN
              have e : D.isNum m (.int i) = decide (i < m) := by simp [D.isNum, h]
              rw [e]
              rfl
            · kts_caughtN
              have e : D.isNum m (.int i) = false := by simp [D.isNum, h]
              rw [e]
              rfl
          | _ => cases hi
        · kts_caughtN
          have e : D.isNum m d = false := by cases d <;> first | rfl | cases hi
          rw [e, hi]
          rfl
      subst he
      have al : (D.lst [.bl d.isI, .bl d.isN, .bl d.isW, .bl (d.isNum m)]).Ok := (T1.lst (TL.cons T1.bl (TL.cons T1.bl (TL.cons T1.bl (TL.cons T1.bl TL.nil))))).ok (by decide) (by decide)
      kts_caughtN
      refine W.keep (fun e => ∃ x7 x8, e = [none, some (dBag b), some d, some (.int m), some (.str sh), some (.bl d.isI), some (.lst [.bl d.isI, .bl d.isN, .bl d.isW, .bl (d.isNum m)]), x7, x8]) ⟨_, _, rfl⟩ (fun d2 e _ h => ?_) fun e h => ?_
      · obtain ⟨x7, x8, rfl⟩ := h
        kts_caught
        refine isInteger_w nob ?_
        kts_caughtN
        refine isName_w nob (D.strs_of part.2) ?_
        kts_caughtN
        refine isWord_w nob (fun xs e => ?_) ?_
        · have ht := th_tup th xs e
          obtain ⟨h1, h2⟩ := tiny_tup ht xs e
          exact ⟨h1, fun x hx => tiny_part (h2 x hx)⟩
        kts_caughtN
        refine isNumber_w nob ?_
        kts_caught
        refine alike_w al ?_
        kts_caughtN
        refine W.opL hsh ?_
        kts_caughtN
        refine W.condN (fun h => absurd rfl h) fun _ => ?_
        kts_caughtN
        exact ⟨_, _, rfl⟩
      · obtain ⟨x7, x8, rfl⟩ := h
        exact ⟨b, _, _, _, _, _, _, _, hb, rfl⟩
    · kts_caughtN
      rfl
  obtain ⟨d, e, h, rfl⟩ := W.of_ws key
  exact ⟨e, h⟩
end K11
open PySem PySem.W PyProof.Rows
set_option maxHeartbeats 0 in
theorem PySem.Challenge.cw_factflows_k11_kinds_holds : PySem.Challenge.rw_factflows_k11_kinds.Holds := by
  w_on; o_law; k_head; (case hw => w_witness2)
  k_fill
  refine G.walk_ofG (k := 5) (x := "_law_script") rfl rfl ⟨rfl, by decide, by decide⟩ (fun w h Y => PySem.W.kIn_of Y) ?F (fun _ _ _ _ _ z => by obtain ⟨_, _, _, z⟩ := z; simp at z)
  case F =>
    intro w mg fa h KX G hmg
    refine' K11.all_mk KX G hmg K11.law_val ?a_bag ?l_bag ?c_bag ?k_bag ?a_p_is_integer ?l_p_is_integer ?c_p_is_integer ?k_p_is_integer ?a_p_is_name ?l_p_is_name ?c_p_is_name ?k_p_is_name ?a_p_is_word ?l_p_is_word ?c_p_is_word ?k_p_is_word ?a_p_is_number ?l_p_is_number ?c_p_is_number ?k_p_is_number ?a_L_take ?l_L_take ?c_L_take ?k_L_take ?a_L_alike ?l_L_alike ?c_L_alike ?k_L_alike ?a_L_mixed ?l_L_mixed ?c_L_mixed ?k_L_mixed ?a_L_names ?l_L_names ?c_L_names ?k_L_names ?a_L_odd ?l_L_odd ?c_L_odd ?k_L_odd ?a_L_is_plain ?l_L_is_plain ?c_L_is_plain ?k_L_is_plain ?a_L_is_name ?l_L_is_name ?c_L_is_name ?k_L_is_name ?a_L_is_word ?l_L_is_word ?c_L_is_word ?k_L_is_word ?a_L_things ?l_L_things ?c_L_things ?k_L_things ?a_law ?l_law ?c_law ?k_law ?b_abs ?b_all ?b_bool ?b_int ?b_isinstance ?b_len ?b_list ?b_range ?b_repr ?b_sorted ?b_str ?b_tuple ?g_LETTERS ?g_MOST_LETTERS
    (case a_bag => k_is)
    (case l_bag => k_is)
    (case c_bag => k_is)
    (case k_bag => k_is)
    (case a_p_is_integer => k_is)
    (case l_p_is_integer => k_is)
    (case c_p_is_integer => k_is)
    (case k_p_is_integer => k_is)
    (case a_p_is_name => k_is)
    (case l_p_is_name => k_is)
    (case c_p_is_name => k_is)
    (case k_p_is_name => k_is)
    (case a_p_is_word => k_is)
    (case l_p_is_word => k_is)
    (case c_p_is_word => k_is)
    (case k_p_is_word => k_is)
    (case a_p_is_number => k_is)
    (case l_p_is_number => k_is)
    (case c_p_is_number => k_is)
    (case k_p_is_number => k_is)
    (case a_L_take => k_is)
    (case l_L_take => k_is)
    (case c_L_take => k_is)
    (case k_L_take => k_is)
    (case a_L_alike => k_is)
    (case l_L_alike => k_is)
    (case c_L_alike => k_is)
    (case k_L_alike => k_is)
    (case a_L_mixed => k_is)
    (case l_L_mixed => k_is)
    (case c_L_mixed => k_is)
    (case k_L_mixed => k_is)
    (case a_L_names => k_is)
    (case l_L_names => k_is)
    (case c_L_names => k_is)
    (case k_L_names => k_is)
    (case a_L_odd => k_is)
    (case l_L_odd => k_is)
    (case c_L_odd => k_is)
    (case k_L_odd => k_is)
    (case a_L_is_plain => k_is)
    (case l_L_is_plain => k_is)
    (case c_L_is_plain => k_is)
    (case k_L_is_plain => k_is)
    (case a_L_is_name => k_is)
    (case l_L_is_name => k_is)
    (case c_L_is_name => k_is)
    (case k_L_is_name => k_is)
    (case a_L_is_word => k_is)
    (case l_L_is_word => k_is)
    (case c_L_is_word => k_is)
    (case k_L_is_word => k_is)
    (case a_L_things => k_is)
    (case l_L_things => k_is)
    (case c_L_things => k_is)
    (case k_L_things => k_is)
    (case a_law => k_is)
    (case l_law => k_is)
    (case c_law => k_is)
    (case k_law => k_is)
    (case b_abs => k_is)
    (case b_all => k_is)
    (case b_bool => k_is)
    (case b_int => k_is)
    (case b_isinstance => k_is)
    (case b_len => k_is)
    (case b_list => k_is)
    (case b_range => k_is)
    (case b_repr => k_is)
    (case b_sorted => k_is)
    (case b_str => k_is)
    (case b_tuple => k_is)
    (case g_LETTERS => k_is)
    (case g_MOST_LETTERS => k_is)
