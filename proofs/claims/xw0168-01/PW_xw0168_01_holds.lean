import PyProof.Rows.All
import Wide.All
import OpenK.AllK
import Wide.FinOn
import PySem.Challenge.RW_xw0168_01
set_option Elab.async false
set_option maxRecDepth 100000
set_option autoImplicit false

section
open PySem PySem.W PyProof.Rows PySem.Calls PySem.Spec PySem.SeqAt
namespace Mine
inductive AV where
  | none
  | bool (b : Bool)
  | int (i : Int)
  | str (s : Str)
  | tup (vs : List AV)
  | obj (n : Nat)
inductive AO where
  | list (vs : List AV)
  | attrs (fs : List (Str × AV))
  | inst (C : Addr) (d : Nat)
  | dict (kvs : List (AV × AV))
  | res
  | frz (vs : List AV)
noncomputable def AO.fz : AO → Bool
  | .frz _ => true
  | _ => false
mutual
inductive RepV (h : Heap) (σ : List Addr) : AV → Value → Prop
  | none : RepV h σ .none .none
  | bool (b : Bool) : RepV h σ (.bool b) (.bool b)
  | int (i : Int) (t : Tok) : RepV h σ (.int i) (.int i t)
  | str (x : Str) (t : Tok) : PyData.strOk x = true → RepV h σ (.str x) (.str x t)
  | tup {a : Addr} {items : Array Value} {vs : List AV} : h.IsTuple a items → a ∉ σ → RepVs h σ vs items.toList → RepV h σ (.tup vs) (.ref a)
  | obj {n : Nat} {a : Addr} : σ[n]? = some a → RepV h σ (.obj n) (.ref a)
inductive RepVs (h : Heap) (σ : List Addr) : List AV → List Value → Prop
  | nil : RepVs h σ [] []
  | cons {V : AV} {v : Value} {Vs : List AV} {vs : List Value} : RepV h σ V v → RepVs h σ Vs vs → RepVs h σ (V :: Vs) (v :: vs)
end
section
variable {h : Heap} {σ : List Addr}
theorem RepV.both {m1 : AV → Value → Prop} {m2 : List AV → List Value → Prop} (none : m1 .none .none) (bool : ∀ b, m1 (.bool b) (.bool b)) (int : ∀ i t, m1 (.int i) (.int i t)) (str : ∀ x t, PyData.strOk x = true → m1 (.str x) (.str x t))
    (tup : ∀ {a : Addr} {items : Array Value} {vs : List AV}, h.IsTuple a items → a ∉ σ → m2 vs items.toList → m1 (.tup vs) (.ref a)) (obj : ∀ {n : Nat} {a : Addr}, σ[n]? = some a → m1 (.obj n) (.ref a)) (nil : m2 [] [])
    (cons : ∀ {V : AV} {v : Value} {Vs : List AV} {vs : List Value}, m1 V v → m2 Vs vs → m2 (V :: Vs) (v :: vs)) : (∀ {V v}, RepV h σ V v → m1 V v) ∧ (∀ {Vs vs}, RepVs h σ Vs vs → m2 Vs vs) :=
  ⟨fun r => RepV.rec (motive_1 := fun V v _ => m1 V v) (motive_2 := fun V v _ => m2 V v) none bool int str (fun t n _ q => tup t n q) obj nil (fun _ _ a b => cons a b) r,
   fun r => RepVs.rec (motive_1 := fun V v _ => m1 V v) (motive_2 := fun V v _ => m2 V v) none bool int str (fun t n _ q => tup t n q) obj nil (fun _ _ a b => cons a b) r⟩
theorem RepV.objE {n : Nat} {motive : ∀ v, RepV h σ (.obj n) v → Prop} {v : Value} (r : RepV h σ (.obj n) v) (mk : ∀ {a : Addr} (e : σ[n]? = some a), motive (.ref a) (.obj e)) : motive v r := by
  cases r with | obj e => exact mk e
theorem RepV.tupE {vs : List AV} {motive : ∀ v, RepV h σ (.tup vs) v → Prop} {v : Value} (r : RepV h σ (.tup vs) v) (mk : ∀ {a : Addr} {items : Array Value} (t : h.IsTuple a items) (n : a ∉ σ) (q : RepVs h σ vs items.toList), motive (.ref a) (.tup t n q)) : motive v r := by
  cases r with | tup t n q => exact mk t n q
theorem RepV.intE {i : Int} {motive : ∀ v, RepV h σ (.int i) v → Prop} {v : Value} (r : RepV h σ (.int i) v) (mk : ∀ (t : Tok), motive (.int i t) (.int i t)) : motive v r := by
  cases r with | int _ t => exact mk t
theorem RepV.boolE {b : Bool} {motive : ∀ v, RepV h σ (.bool b) v → Prop} {v : Value} (r : RepV h σ (.bool b) v) (mk : motive (.bool b) (.bool b)) : motive v r := by
  cases r with | bool _ => exact mk
theorem RepV.strE {x : Str} {motive : ∀ v, RepV h σ (.str x) v → Prop} {v : Value} (r : RepV h σ (.str x) v) (mk : ∀ (t : Tok) (k : PyData.strOk x = true), motive (.str x t) (.str x t k)) : motive v r := by
  cases r with | str _ t k => exact mk t k
theorem RepVs.consE {V : AV} {Vs : List AV} {motive : ∀ v, RepVs h σ (V :: Vs) v → Prop} {v : List Value} (r : RepVs h σ (V :: Vs) v) (mk : ∀ {u : Value} {us : List Value} (a : RepV h σ V u) (b : RepVs h σ Vs us), motive (u :: us) (.cons a b)) : motive v r := by
  cases r with | cons a b => exact mk a b
theorem RepVs.nilE {motive : ∀ v, RepVs h σ [] v → Prop} {v : List Value} (r : RepVs h σ [] v) (mk : motive [] .nil) : motive v r := by
  cases r with | nil => exact mk
end
noncomputable def TK (h : Heap) (σ : List Addr) (h' : Heap) (σ' : List Addr) : Prop := ∀ a items, h.IsTuple a items → a ∉ σ → h'.IsTuple a items ∧ a ∉ σ'
section
variable {h h' : Heap} {σ σ' : List Addr}
theorem RepV.mono2 (k : TK h σ h' σ') (s : ∀ (n : Nat) (x : Addr), σ[n]? = some x → σ'[n]? = some x) : (∀ {V : AV} {v : Value}, RepV h σ V v → RepV h' σ' V v) ∧ (∀ {V : List AV} {v : List Value}, RepVs h σ V v → RepVs h' σ' V v) :=
  RepV.both (m1 := RepV h' σ') (m2 := RepVs h' σ') .none .bool .int .str (fun t n q => .tup (k _ _ t n).1 (k _ _ t n).2 q) (fun e => .obj (s _ _ e)) .nil .cons
theorem RepV.mono (k : TK h σ h' σ') (s : ∀ (n : Nat) (x : Addr), σ[n]? = some x → σ'[n]? = some x) {V : AV} {v : Value} (r : RepV h σ V v) : RepV h' σ' V v := (RepV.mono2 k s).1 r
theorem RepVs.mono (k : TK h σ h' σ') (s : ∀ (n : Nat) (x : Addr), σ[n]? = some x → σ'[n]? = some x) {Vs : List AV} {vs : List Value} (r : RepVs h σ Vs vs) : RepVs h' σ' Vs vs := (RepV.mono2 k s).2 r
end
mutual
noncomputable def eqP : AV → AV → Bool
  | .none, .none => true
  | .bool a, .bool b => a == b
  | .bool a, .int j => (if a then 1 else 0) == j
  | .int i, .bool b => i == (if b then 1 else 0)
  | .int i, .int j => i == j
  | .str x, .str y => x == y
  | .tup a, .tup b => eqPs a b
  | _, _ => false
noncomputable def eqPs : List AV → List AV → Bool
  | [], [] => true
  | a :: as, b :: bs => eqP a b && eqPs as bs
  | _, _ => false
end
mutual
noncomputable def pureA : Nat → AV → Bool
  | _, .none => true
  | _, .bool _ => true
  | _, .int _ => true
  | _, .str _ => true
  | 0, .tup _ => false
  | n + 1, .tup vs => pureAs n vs
  | _, .obj _ => false
noncomputable def pureAs : Nat → List AV → Bool
  | _, [] => true
  | n, v :: vs => pureA n v && pureAs n vs
end
mutual
noncomputable def cleanA : AV → Bool
  | .none => true
  | .int _ => true
  | .str _ => true
  | .tup vs => cleanAs vs
  | .bool _ => false
  | .obj _ => false
noncomputable def cleanAs : List AV → Bool
  | [] => true
  | v :: vs => cleanA v && cleanAs vs
end
theorem eqP_tt (xs ys : List AV) : eqP (.tup xs) (.tup ys) = eqPs xs ys := rfl
theorem eqP_ss (x y : Str) : eqP (.str x) (.str y) = (x == y) := rfl
theorem eqP_ii (i j : Int) : eqP (.int i) (.int j) = (i == j) := rfl
theorem eqPs_cc (x y : AV) (xs ys : List AV) : eqPs (x :: xs) (y :: ys) = (eqP x y && eqPs xs ys) := rfl
theorem pureA_tup0 (vs : List AV) : pureA 0 (.tup vs) = false := rfl
theorem pureA_tup (n : Nat) (vs : List AV) : pureA (n + 1) (.tup vs) = pureAs n vs := rfl
theorem pureA_obj (n k : Nat) : pureA n (.obj k) = false := by cases n <;> rfl
theorem pureAs_cons (n : Nat) (v : AV) (vs : List AV) : pureAs n (v :: vs) = (pureA n v && pureAs n vs) := by cases n <;> rfl
theorem cleanAs_cons (v : AV) (vs : List AV) : cleanAs (v :: vs) = (cleanA v && cleanAs vs) := rfl
theorem pureA_ex {n : Nat} {vs : List AV} (h : pureA n (.tup vs) = true) : ∃ m, n = m + 1 ∧ pureAs m vs = true := by
  cases n with
  | zero => cases h
  | succ m => exact ⟨m, rfl, h⟩
theorem AV.both {m1 : AV → Prop} {m2 : List AV → Prop} (none : m1 .none) (bool : ∀ b, m1 (.bool b)) (int : ∀ i, m1 (.int i)) (str : ∀ x, m1 (.str x)) (tup : ∀ {vs}, m2 vs → m1 (.tup vs)) (obj : ∀ n, m1 (.obj n)) (nil : m2 []) (cons : ∀ {v vs}, m1 v → m2 vs → m2 (v :: vs)) : (∀ V, m1 V) ∧ (∀ Vs, m2 Vs) :=
  ⟨fun V => AV.rec (motive_1 := m1) (motive_2 := m2) none bool int str (fun _ q => tup q) obj nil (fun _ _ a b => cons a b) V, fun V => AV.rec_1 (motive_1 := m1) (motive_2 := m2) none bool int str (fun _ q => tup q) obj nil (fun _ _ a b => cons a b) V⟩
mutual
noncomputable def py : AV → PyData
  | .none => .none
  | .bool b => .bool b
  | .int i => .int i
  | .str s => .str s
  | .tup vs => .tuple (pys vs)
  | .obj _ => .none
noncomputable def pys : List AV → List PyData
  | [] => []
  | v :: vs => py v :: pys vs
end
section
variable {h : Heap} {σ : List Addr}
theorem RepV.reads2 : (∀ {V : AV} {v : Value}, RepV h σ V v → ∀ n, pureA n V = true → ∃ as, Reads h v (py V) as) ∧ (∀ {V : List AV} {v : List Value}, RepVs h σ V v → ∀ n, pureAs n V = true → ∃ as, ReadsAll h v (pys V) as) :=
  RepV.both (m1 := fun V v => ∀ n, pureA n V = true → ∃ as, Reads h v (py V) as) (m2 := fun V v => ∀ n, pureAs n V = true → ∃ as, ReadsAll h v (pys V) as)
    (fun _ _ => ⟨_, .none⟩) (fun b _ _ => ⟨_, .bool b⟩) (fun i t _ _ => ⟨_, .int i t⟩) (fun x t _ _ _ => ⟨_, .str x t⟩)
    (fun t _ r n k => by
      obtain ⟨m, rfl, k⟩ := pureA_ex k
      obtain ⟨as, q⟩ := r m k
      obtain ⟨o, e, c, m, dt⟩ := t
      exact ⟨as, reads_tuple_at e c dt q⟩) (fun _ n k => by rw [pureA_obj] at k; cases k) (fun _ _ => ⟨_, .nil⟩)
    (fun a r n k => by
      rw [pureAs_cons, Bool.and_eq_true] at k
      obtain ⟨as, q⟩ := a n k.1
      obtain ⟨bs, p⟩ := r n k.2
      exact ⟨_, .cons q p⟩)
theorem RepV.reads {V : AV} {v : Value} (n : Nat) (r : RepV h σ V v) (k : pureA n V = true) : ∃ as, Reads h v (py V) as := RepV.reads2.1 r n k
theorem RepVs.reads {Vs : List AV} {vs : List Value} (n : Nat) (r : RepVs h σ Vs vs) (k : pureAs n Vs = true) : ∃ as, ReadsAll h vs (pys Vs) as := RepV.reads2.2 r n k
theorem RepV.canLay2 : (∀ {V : AV} {v : Value}, RepV h σ V v → (py V).canLay0 = true) ∧ (∀ {V : List AV} {v : List Value}, RepVs h σ V v → PyData.canLayAll0 (pys V) = true) :=
  RepV.both (m1 := fun V _ => (py V).canLay0 = true) (m2 := fun V _ => PyData.canLayAll0 (pys V) = true) rfl (fun _ => rfl) (fun _ _ => rfl) (fun _ _ k => k) (fun _ _ r => by rw [py, PyData.canLay0]; exact r) (fun _ => rfl) rfl
    (fun a r => by rw [pys, PyData.canLayAll0, a, r]; rfl)
theorem RepV.canLay {V : AV} {v : Value} (r : RepV h σ V v) : (py V).canLay0 = true := RepV.canLay2.1 r
theorem RepVs.canLay {Vs : List AV} {vs : List Value} (r : RepVs h σ Vs vs) : PyData.canLayAll0 (pys Vs) = true := RepV.canLay2.2 r
theorem py_depth2 : (∀ V n, pureA n V = true → (py V).depth ≤ n) ∧ (∀ Vs n, pureAs n Vs = true → PyData.depthAll (pys Vs) ≤ n) :=
  AV.both (m1 := fun V => ∀ n, pureA n V = true → (py V).depth ≤ n) (m2 := fun Vs => ∀ n, pureAs n Vs = true → PyData.depthAll (pys Vs) ≤ n) (fun _ _ => Nat.zero_le _) (fun _ _ _ => Nat.zero_le _) (fun _ _ _ => Nat.zero_le _) (fun _ _ _ => Nat.zero_le _)
    (fun r n k => by
      obtain ⟨m, rfl, k⟩ := pureA_ex k
      exact Nat.succ_le_succ (r m k))
    (fun _ _ _ => Nat.zero_le _) (fun _ _ => Nat.zero_le _)
    (fun a r n k => by
      rw [pureAs_cons, Bool.and_eq_true] at k
      exact Nat.max_le.mpr ⟨a n k.1, r n k.2⟩)
theorem py_depth (V : AV) (n : Nat) (k : pureA n V = true) : (py V).depth ≤ n := py_depth2.1 V n k
theorem pys_depth (Vs : List AV) (n : Nat) (k : pureAs n Vs = true) : PyData.depthAll (pys Vs) ≤ n := py_depth2.2 Vs n k
theorem eqv_py2 : (∀ a b n m, pureA n a = true → pureA m b = true → PyData.eqv (py a) (py b) = eqP a b) ∧ (∀ xs ys n m, pureAs n xs = true → pureAs m ys = true → PyData.eqvAll (pys xs) (pys ys) = eqPs xs ys) :=
  AV.both (m1 := fun a => ∀ b n m, pureA n a = true → pureA m b = true → PyData.eqv (py a) (py b) = eqP a b) (m2 := fun xs => ∀ ys n m, pureAs n xs = true → pureAs m ys = true → PyData.eqvAll (pys xs) (pys ys) = eqPs xs ys)
    (fun b n m _ k => by
      cases b with
      | obj _ => rw [pureA_obj] at k; cases k
      | _ => rfl)
    (fun x b n m _ k => by
      cases b with
      | obj _ => rw [pureA_obj] at k; cases k
      | _ => rfl)
    (fun x b n m _ k => by
      cases b with
      | obj _ => rw [pureA_obj] at k; cases k
      | _ => rfl)
    (fun x b n m _ k => by
      cases b with
      | obj _ => rw [pureA_obj] at k; cases k
      | _ => rfl)
    (fun r b n m k k2 => by
      obtain ⟨n, rfl, k⟩ := pureA_ex k
      cases b with
      | tup ys =>
        obtain ⟨m, rfl, k2⟩ := pureA_ex k2
        exact r ys n m k k2
      | obj _ => rw [pureA_obj] at k2; cases k2
      | _ => rfl)
    (fun _ b n m k _ => by rw [pureA_obj] at k; cases k)
    (fun ys _ _ _ _ => by cases ys <;> rfl)
    (fun a r ys n m k k2 => by
      cases ys with
      | nil => rfl
      | cons y ys =>
        rw [pureAs_cons, Bool.and_eq_true] at k k2
        rw [eqPs_cc, ← a y n m k.1 k2.1, ← r ys n m k.2 k2.2]
        rfl)
theorem eqv_py (a b : AV) (n m : Nat) (k : pureA n a = true) (k2 : pureA m b = true) : PyData.eqv (py a) (py b) = eqP a b := eqv_py2.1 a b n m k k2
theorem eqvs_py (xs ys : List AV) (n m : Nat) (k : pureAs n xs = true) (k2 : pureAs m ys = true) : PyData.eqvAll (pys xs) (pys ys) = eqPs xs ys := eqv_py2.2 xs ys n m k k2
theorem any_py (x : AV) (n m : Nat) (hx : pureA n x = true) (ys : List AV) (k : pureAs m ys = true) : ((pys ys).any fun y => PyData.eqv y (py x)) = ys.any fun y => eqP y x := by
  induction ys with
  | nil => rfl
  | cons y ys ih =>
    rw [pureAs_cons, Bool.and_eq_true] at k
    rw [show pys (y :: ys) = py y :: pys ys from rfl, List.any_cons, List.any_cons, eqv_py y x m n k.1 hx, ih k.2]
end
mutual
noncomputable def hvA (w : World) : AV → Int
  | .none => 0xFCA86420
  | .bool b => if b then 1 else 0
  | .int i => hashInt i
  | .str s => hashStr w s
  | .tup vs => reduceHash (Builtin.Tuple.tupleHashOf (hvAs w vs))
  | .obj _ => 0
noncomputable def hvAs (w : World) : List AV → List Int
  | [] => []
  | v :: vs => hvA w v :: hvAs w vs
end
mutual
noncomputable def drawsA : AV → Nat
  | .tup vs => drawsAs vs + 1
  | _ => 1
noncomputable def drawsAs : List AV → Nat
  | [] => 0
  | v :: vs => drawsA v + drawsAs vs
end
section
variable {prog : Program} {w : World} {E : Value → Shared → Prop}
noncomputable def HashT (prog : Program) (w : World) (E : Value → Shared → Prop) (V : AV) : Prop := ∀ (v : Value) (n : Nat) (A : Around) (s : Shared) (Q : Int → Shared → Prop), RepV s.heap [] V v → pureA n V = true → cleanA V = true → A.units + n < cLine →
    Q (hvA w V) { s with toks := s.toks + drawsA V } → wpAny (model prog w) A (pyHash v) Q E s
noncomputable def HashTs (prog : Program) (w : World) (E : Value → Shared → Prop) (Vs : List AV) : Prop := ∀ (vs : List Value) (n : Nat) (A : Around) (s : Shared) (b : Array Int) (Q : Array Int → Shared → Prop), RepVs s.heap [] Vs vs → pureAs n Vs = true → cleanAs Vs = true → A.units + n < cLine →
    (∀ b' : Array Int, b'.toList = b.toList ++ hvAs w Vs → Q b' { s with toks := s.toks + drawsAs Vs }) →
    wpAny (model prog w) A (forIn vs b fun x r => do let h ← pyHash x; pure PUnit.unit; pure (ForInStep.yield (r.push h))) Q E s
theorem hash_none : HashT prog w E .none := fun v n A s Q r _ _ hu h => by
  cases r
  exact pyHash_slot (T := "NoneType") rfl F.slot_NoneType_hash F.entry_NoneType_hash (F.args_NoneType_hash_1 _) (beq_builtin_none _) (.inr (by omega)) (wpAny_bind (wpAny_pure (wpAny_bind (wpAny_mkInt (wpAny_pure ⟨_, _, rfl, h⟩)))))
theorem hash_tup {vs : List AV} (ih : HashTs prog w E vs) : HashT prog w E (.tup vs) := fun v n A s Q r hp hc hu h => by
  obtain ⟨n, rfl, hp⟩ := pureA_ex hp
  cases r using RepV.tupE with | @mk a items t _ rs =>
  obtain ⟨o, ho, hcl, m, hd⟩ := t
  refine pyHash_slot (T := "tuple") ⟨_, ho, hcl⟩ F.slot_tuple_hash F.entry_tuple_hash (F.args_tuple_hash_1 _) (beq_builtin_none _) (.inr (by omega)) ?_
  show wpAny _ _ (Builtin.Tuple.tupleItemsOf (.ref a) >>= _) _ _ s
  refine wpAny_bind (wpAny_tupleItemsOf ho hd ?_)
  refine wpAny_bind ?_
  rw [← Array.forIn_toList]
  refine ih items.toList n A.in1 s #[] _ rs hp hc (by rw [Around.in1_units, Nat.succ_add_eq_add_succ]; exact hu) fun b hb => ?_
  show wpAny _ _ (retInt (Builtin.Tuple.tupleHashOf b.toList)) _ _ _
  rw [hb]
  exact wpAny_bind (wpAny_mkInt (wpAny_pure ⟨_, _, rfl, h⟩))
theorem hash_cons {V : AV} {Vs : List AV} (h1 : HashT prog w E V) (h2 : HashTs prog w E Vs) : HashTs prog w E (V :: Vs) := fun vs n A s b Q r hp hc hu h => by
  cases r using RepVs.consE with | mk r1 r2 =>
  rw [pureAs_cons, Bool.and_eq_true] at hp
  rw [cleanAs_cons, Bool.and_eq_true] at hc
  rw [List.forIn_cons]
  refine wpAny_bind (wpAny_bind (h1 _ n A s _ r1 hp.1 hc.1 hu ?_))
  refine wpAny_bind (wpAny_pure (wpAny_pure ?_))
  refine h2 _ n A _ _ Q r2 hp.2 hc.2 hu fun b' hb => ?_
  have := h b' (by rw [hb, Array.toList_push, List.append_assoc]; rfl)
  rw [show drawsAs (V :: Vs) = drawsA V + drawsAs Vs from rfl, ← Nat.add_assoc] at this
  exact this
theorem hash_tree2 : (∀ V, HashT prog w E V) ∧ (∀ Vs, HashTs prog w E Vs) :=
  AV.both hash_none (fun _ _ _ _ _ _ _ _ hc _ _ => nomatch hc) (fun _ _ _ _ _ _ r _ _ _ h => by cases r using RepV.intE with | mk t => exact wpAny_pyHash_int h) (fun _ _ _ _ _ _ r _ _ _ h => by cases r using RepV.strE with | mk t k => exact wpAny_pyHash_str h)
    hash_tup (fun _ _ _ _ _ _ _ _ hc _ _ => nomatch hc) (fun _ _ _ _ b _ r _ _ _ h => by cases r using RepVs.nilE; exact wpAny_pure (h b (List.append_nil _).symm)) hash_cons
theorem hash_tree (V : AV) (v : Value) (n : Nat) (A : Around) (s : Shared) (Q : Int → Shared → Prop) (r : RepV s.heap [] V v) (hp : pureA n V = true) (hc : cleanA V = true) (hu : A.units + n < cLine) (h : Q (hvA w V) { s with toks := s.toks + drawsA V }) : wpAny (model prog w) A (pyHash v) Q E s :=
  hash_tree2.1 V v n A s Q r hp hc hu h
end
theorem RepV.inj2 {h : Heap} : (∀ {V : AV} {v : Value}, RepV h [] V v → ∀ W, RepV h [] W v → V = W) ∧ (∀ {V : List AV} {v : List Value}, RepVs h [] V v → ∀ W, RepVs h [] W v → V = W) :=
  RepV.both (m1 := fun V v => ∀ W, RepV h [] W v → V = W) (m2 := fun V v => ∀ W, RepVs h [] W v → V = W) (fun W q => by cases q; rfl) (fun _ W q => by cases q; rfl) (fun _ _ W q => by cases q; rfl) (fun _ _ _ W q => by cases q; rfl)
    (fun t _ r W q => by
      cases q with
      | tup t' _ r' =>
        obtain ⟨o, e, _, n, hd⟩ := t
        obtain ⟨o', e', _, n', hd'⟩ := t'
        rw [e] at e'; cases e'
        rw [hd] at hd'
        injection hd' with h1 h2
        subst h1
        rw [r _ r']
      | obj q => exact nomatch q) (fun e _ _ => nomatch e) (fun W q => by cases q; rfl)
    (fun a r W q => by
      cases q with
      | cons a' r' => rw [a _ a', r _ r'])
theorem RepV.inj {h : Heap} {V W : AV} {v : Value} (r : RepV h [] V v) (q : RepV h [] W v) : V = W := RepV.inj2.1 r W q
theorem RepV.bare2 {h : Heap} {σ : List Addr} : (∀ {V : AV} {v : Value}, RepV h σ V v → ∀ n, pureA n V = true → RepV h [] V v) ∧ (∀ {V : List AV} {v : List Value}, RepVs h σ V v → ∀ n, pureAs n V = true → RepVs h [] V v) :=
  RepV.both (m1 := fun V v => ∀ n, pureA n V = true → RepV h [] V v) (m2 := fun V v => ∀ n, pureAs n V = true → RepVs h [] V v) (fun _ _ => .none) (fun b _ _ => .bool b) (fun i t _ _ => .int i t) (fun x t k _ _ => .str x t k)
    (fun t _ r n k => by
      obtain ⟨m, rfl, k⟩ := pureA_ex k
      exact .tup t (fun m => nomatch m) (r m k)) (fun _ n k => by rw [pureA_obj] at k; cases k) (fun _ _ => .nil)
    (fun a r n k => by
      rw [pureAs_cons, Bool.and_eq_true] at k
      exact .cons (a n k.1) (r n k.2))
theorem RepV.bare {h : Heap} {σ : List Addr} {V : AV} {v : Value} (n : Nat) (r : RepV h σ V v) (k : pureA n V = true) : RepV h [] V v := RepV.bare2.1 r n k
theorem RepVs.bare {h : Heap} {σ : List Addr} {V : List AV} {v : List Value} (n : Nat) (r : RepVs h σ V v) (k : pureAs n V = true) : RepVs h [] V v := RepV.bare2.2 r n k
theorem eqP_iff2 : (∀ a b, cleanA a = true → cleanA b = true → (eqP a b = true ↔ a = b)) ∧ (∀ a b, cleanAs a = true → cleanAs b = true → (eqPs a b = true ↔ a = b)) :=
  AV.both (m1 := fun a => ∀ b, cleanA a = true → cleanA b = true → (eqP a b = true ↔ a = b)) (m2 := fun a => ∀ b, cleanAs a = true → cleanAs b = true → (eqPs a b = true ↔ a = b))
    (fun b _ k => by cases b <;> first | exact ⟨fun _ => rfl, fun _ => rfl⟩ | exact ⟨fun z => (nomatch z), fun z => (nomatch z)⟩)
    (fun _ b k _ => nomatch k)
    (fun i b _ k => by
      cases b with
      | int j => rw [eqP_ii, beq_iff_eq, AV.int.injEq]
      | bool _ => cases k
      | _ => exact ⟨fun z => (nomatch z), fun z => (nomatch z)⟩)
    (fun x b _ k => by
      cases b with
      | str j => rw [eqP_ss, beq_iff_eq, AV.str.injEq]
      | _ => exact ⟨fun z => (nomatch z), fun z => (nomatch z)⟩)
    (fun r b k k2 => by
      cases b with
      | tup ys => rw [eqP_tt, r ys k k2, AV.tup.injEq]
      | _ => exact ⟨fun z => (nomatch z), fun z => (nomatch z)⟩)
    (fun _ b k _ => nomatch k)
    (fun b _ _ => by cases b <;> first | exact ⟨fun _ => rfl, fun _ => rfl⟩ | exact ⟨fun z => (nomatch z), fun z => (nomatch z)⟩)
    (fun a r b k k2 => by
      cases b with
      | nil => exact ⟨fun z => (nomatch z), fun z => (nomatch z)⟩
      | cons y ys =>
        rw [cleanAs_cons, Bool.and_eq_true] at k k2
        rw [eqPs_cc, Bool.and_eq_true, a y k.1 k2.1, r ys k.2 k2.2, List.cons.injEq])
theorem eqP_iff (a b : AV) (k : cleanA a = true) (k2 : cleanA b = true) : eqP a b = true ↔ a = b := eqP_iff2.1 a b k k2
theorem pureA_le2 : (∀ V n m, n ≤ m → pureA n V = true → pureA m V = true) ∧ (∀ Vs n m, n ≤ m → pureAs n Vs = true → pureAs m Vs = true) :=
  AV.both (m1 := fun V => ∀ n m, n ≤ m → pureA n V = true → pureA m V = true) (m2 := fun Vs => ∀ n m, n ≤ m → pureAs n Vs = true → pureAs m Vs = true)
    (fun _ m _ _ => by cases m <;> rfl) (fun _ _ m _ _ => by cases m <;> rfl) (fun _ _ m _ _ => by cases m <;> rfl) (fun _ _ m _ _ => by cases m <;> rfl)
    (fun r n m h k => by
      obtain ⟨n, rfl, k⟩ := pureA_ex k
      cases m with
      | zero => exact absurd h (Nat.not_succ_le_zero _)
      | succ m => exact r n m (Nat.le_of_succ_le_succ h) k)
    (fun _ n m _ k => by rw [pureA_obj] at k; cases k) (fun _ m _ _ => by cases m <;> rfl)
    (fun a r n m h k => by
      rw [pureAs_cons, Bool.and_eq_true] at k ⊢
      exact ⟨a n m h k.1, r n m h k.2⟩)
theorem pureA_le (V : AV) (n m : Nat) (h : n ≤ m) (k : pureA n V = true) : pureA m V = true := pureA_le2.1 V n m h k
theorem pureAs_le (V : List AV) (n m : Nat) (h : n ≤ m) (k : pureAs n V = true) : pureAs m V = true := pureA_le2.2 V n m h k
section
variable {prog : Program} {w : World} {E : Value → Shared → Prop}
theorem quiet_tree : ∀ (n : Nat) (V : AV) (v : Value) (A : Around) (s : Shared) (Q : Bool → Shared → Prop), RepV s.heap [] V v → pureA n V = true → Q true s → wpAny (model prog w) A (eqIsQuiet n v) Q E s := by
  intro n
  induction n with
  | zero =>
    intro V v A s Q r hp h
    cases r with
    | tup _ _ _ => exact nomatch hp
    | obj _ => exact nomatch hp
    | _ => rw [eqIsQuiet_byValue 0 rfl]; exact wpAny_pure h
  | succ n ih =>
    intro V v A s Q r hp h
    cases r with
    | obj _ => rw [pureA_obj] at hp; cases hp
    | @tup a items vs t _ rs =>
      obtain ⟨o, ho, hcl, m, hd⟩ := t
      have hT : s.TypeIs (.ref a) "tuple" := ⟨o, ho, hcl⟩
      unfold eqIsQuiet
      refine wpAny_bind (wpAny_specialOf hT F.slot_tuple_eq.lookup ?_)
      show wpAny _ _ (isInstance (.ref a) (.type "tuple") >>= _) _ _ s
      refine wpAny_bind (wpAny_isInstance hT isSubtype_tuple_tuple ?_)
      simp only [Bool.not_true, Bool.false_eq_true, if_false]
      refine wpAny_bind (wpAny_seqItems ho hd ?_)
      refine wpAny_bind ?_
      show wpAny _ _ (forIn items _ _) _ _ s
      rw [← Array.forIn_toList]
      refine wpAny_forIn_list _ (fun rest r s' => r.1 = none ∧ s' = s ∧ ∃ Ws, RepVs s.heap [] Ws rest ∧ pureAs n Ws = true) _ ?_ ?_ _ _ ⟨rfl, rfl, vs, rs, hp⟩
      · rintro v rest r s' ⟨hr, rfl, Ws, rw', hq⟩
        cases rw' with
        | @cons V _ Vs _ r1 r2 =>
          rw [pureAs_cons, Bool.and_eq_true] at hq
          refine wpAny_bind (ih V v A _ _ r1 hq.1 ?_)
          simp only [Bool.not_true, Bool.false_eq_true, if_false]
          exact wpAny_pure ⟨rfl, rfl, Vs, r2, hq.2⟩
      · rintro ⟨r1, r2⟩ s' ⟨hr, rfl, _⟩
        simp only at hr
        subst hr
        exact wpAny_pure h
    | _ => rw [eqIsQuiet_byValue (n + 1) rfl]; exact wpAny_pure h
end
noncomputable def isStrKey : AV → Bool
  | .str _ => true
  | _ => false
noncomputable def isIntKey : AV → Bool
  | .int _ => true
  | _ => false
noncomputable def isTupKey : AV → Bool
  | .tup vs => cleanAs vs && pureAs 5 vs
  | _ => false
theorem tupKey_clean {k : AV} (h : isTupKey k = true) : cleanA k = true ∧ pureA 6 k = true := by
  cases k with
  | tup vs => rw [isTupKey, Bool.and_eq_true] at h; exact ⟨h.1, h.2⟩
  | _ => cases h
open Classical in
noncomputable def treeKind (prog : Program) (w : World) : HeapKind prog w AV where
  is := fun h k a => RepV h [] k (.ref a) ∧ isTupKey k = true
  hash := hvA w
  draws := drawsA
  room := fun A => A.units + 100 < cLine
  inj := fun hx hy => hx.1.inj hy.1
  keeps := fun {h h' k a d o es ep} x ho hd hs => ⟨x.1.mono (fun b items t _ => by
      obtain ⟨ob, e, c, n, q⟩ := t
      have ne : b ≠ d := by
        rintro rfl
        rw [e] at ho; cases ho
        rw [hd] at q; cases q
      exact ⟨⟨ob, (hs.2 b ne).trans e, c, n, q⟩, fun m => nomatch m⟩) (fun _ _ e => e), x.2⟩
  pyHash := fun {A E s k a Q} hu hk h => hash_tree k _ 6 A s Q hk.1 (tupKey_clean hk.2).2 (tupKey_clean hk.2).1 (by omega) h
  eqBool := fun {A E s x y a b Q} hu hx hy h => by
    obtain ⟨as, ra⟩ := hx.1.reads 6 (tupKey_clean hx.2).2
    obtain ⟨bs, rb⟩ := hy.1.reads 6 (tupKey_clean hy.2).2
    have d1 := py_depth _ _ (tupKey_clean hx.2).2
    have d2 := Nat.min_le_left (py x).depth (py y).depth
    refine PySem.SeqAt.eqAt_reads _ _ A s _ _ as bs ra rb hx.1.canLay hy.1.canLay (by omega) prog w E Q ?_
    rw [eqv_py x y 6 6 (tupKey_clean hx.2).2 (tupKey_clean hy.2).2]
    have e := eqP_iff x y (tupKey_clean hx.2).1 (tupKey_clean hy.2).1
    by_cases hq : x = y
    · rw [decide_eq_true hq] at h; rw [e.mpr hq]; exact h
    · rw [decide_eq_false hq] at h; rw [Bool.eq_false_iff.mpr fun z => hq (e.mp z)]; exact h
  quiet := fun {A E s k a Q} hk h => quiet_tree 8 k _ A s Q hk.1 (pureA_le _ 6 8 (by decide) (tupKey_clean hk.2).2) h
end Mine
end

set_option genSizeOf false
set_option genSizeOfSpec false
set_option genInjectivity false

section
open PySem PySem.W PyProof.Rows PySem.Calls PySem.Spec PySem.SeqAt
namespace Mine
structure Ext (h h' : Heap) (σ σ' : List Addr) : Prop where
  grow : ∃ ν, σ' = σ ++ ν ∧ ∀ a ∈ ν, h.get? a = none
  keep : ∀ b o, h.get? b = some o → b ∉ σ → h'.get? b = some o
  live : ∀ b o, h.get? b = some o → ∃ o', h'.get? b = some o'
inductive FRep (w : World) (h : Heap) (σ : List Addr) : List (Str × AV) → List DictEntry → Prop
  | nil : FRep w h σ [] []
  | cons {x : Str} {t : Tok} {V : AV} {v : Value} {n : Int} {fs : List (Str × AV)} {es : List DictEntry} : RepV h σ V v → FRep w h σ fs es → FRep w h σ ((x, V) :: fs) (⟨n, .str x t, v⟩ :: es)
inductive PRep {K : Type} (h : Heap) (σ : List Addr) : List (K × AV) → List (K × Value) → Prop
  | nil : PRep h σ [] []
  | cons {k : K} {V : AV} {v : Value} {ks : List (K × AV)} {kvs : List (K × Value)} : RepV h σ V v → PRep h σ ks kvs → PRep h σ ((k, V) :: ks) ((k, v) :: kvs)
inductive TRep (h : Heap) (σ : List Addr) : List (AV × AV) → List (AV × Addr × Value) → Prop
  | nil : TRep h σ [] []
  | cons {k : AV} {b : Addr} {V : AV} {v : Value} {ks : List (AV × AV)} {kvs : List (AV × Addr × Value)} : RepV h σ V v → TRep h σ ks kvs → TRep h σ ((k, V) :: ks) ((k, b, v) :: kvs)
open Classical in
noncomputable def DictT (prog : Program) (w : World) (h : Heap) (a : Addr) (xs : List (AV × Addr × Value)) : Prop := h.DictOfH (treeKind prog w) a xs
structure Gd where
  prog : Program
  w : World
  K : Frag
  hb : Heap
  mg : Str → Option Value
  mb : Str → Option Value
  /-- where the defs lie, by number -/
  fa : Nat → Addr
  /-- where the classes lie, by number -/
  ca : Nat → Addr
noncomputable def Gd.Off (G : Gd) (a : Addr) : Prop := G.hb.get? a = none ∧ sysModules < a
noncomputable def fieldNames : List Str := ["ended", "known", "is_number", "found", "number", "regions", "params", "trait", "trait_args", "self_type", "methods", "spot"]
noncomputable def mtTab : List (Nat × Str × Nat) := [(0, "fresh", 2), (0, "fresh_int", 3), (0, "shallow", 4), (0, "occurs", 5), (0, "bind", 6), (0, "are_alike", 7), (1, "seen", 11), (1, "holds_name", 12), (1, "bind", 13), (1, "unify", 14), (1, "all_unified", 15)]
noncomputable def initTab : List (Nat × Nat) := [(0, 1), (1, 10), (2, 19)]
noncomputable def clsTab : List (Str × Nat) := [("Infer", 0), ("Both", 1), ("ImplRow", 2)]
noncomputable def globTab : List (Str × Nat) := [("parts_of", 0), ("head_pairs", 8), ("filled", 9), ("own_names", 16), ("heads_meet", 17), ("inherent_clashes", 18), ("_law_pool", 20), ("_law_take", 21), ("_law_one", 22), ("_law_heads", 23), ("_law_alike_told", 24), ("_law_parts", 25), ("_law_is_within", 26), ("_law_unknowns_right", 27), ("_law_unknowns_told", 28), ("_law_closed", 29), ("_law_patterns", 30), ("_law_fits", 31), ("_law_impl", 32), ("_law_meet_told", 33), ("_law_impls_right", 34), ("law", 35)]
noncomputable def bltNames : List Str := ["len", "int", "max", "list", "zip", "tuple", "sorted", "dict", "range"]
structure ClsOk (K : Frag) (C : Addr) : Prop where
  ga : findIn K (.ref C) "__getattribute__" = some (some (.builtin "object.__getattribute__"))
  gk : findIn K (.ref C) "__getattr__" = some none
  hd : hasDictIn K C = true
  set : findIn K (.ref C) "__setattr__" = some (some (.builtin "object.__setattr__"))
  po : plainOver K C = true
  mkd : makesIn K C = true
  keep : keepIn K (.ref C) = true
  fld : ∀ f ∈ fieldNames, findIn K (.ref C) f = some none
structure GdOk (G : Gd) : Prop where
  K : G.K.In G.hb
  cls : ∀ c, c < 3 → ClsOk G.K (G.ca c)
  fns : ∀ f, f < 36 → typeIn G.K (.ref (G.fa f)) = some (.type "function") ∧ keepIn G.K (.ref (G.fa f)) = true
  mth : ∀ e ∈ mtTab, findIn G.K (.ref (G.ca e.1)) e.2.1 = some (some (.ref (G.fa e.2.2)))
  ini : ∀ e ∈ initTab, findIn G.K (.ref (G.ca e.1)) "__init__" = some (some (.ref (G.fa e.2)))
  glo : ∀ e ∈ globTab, nsIn G.K mainGlobals e.1 = some (some (.ref (G.fa e.2)))
  clg : ∀ e ∈ clsTab, nsIn G.K mainGlobals e.1 = some (some (.ref (G.ca e.2)))
  gbl : ∀ x ∈ bltNames, nsIn G.K mainGlobals x = some none
  mst : ∃ t, nsIn G.K mainGlobals "MOST_PARTS" = some (some (.int 4000 t))
  g : G.hb.Ns mainGlobals G.mg
  b : G.hb.Ns builtinsNs G.mb
  lim : G.hb.NoLimit
  top : ∃ b o, G.hb.get? b = some o ∧ sysModules < b
  blt : ∀ x : Str, x ≠ "__name__" → G.mb x = bootBuiltins x
inductive ORep (G : Gd) (h : Heap) (σ : List Addr) : AO → Addr → Prop
  | list {vs : List AV} {a : Addr} {items : Array Value} {n : Nat} : h.get? a = some (listOf items n) → RepVs h σ vs items.toList → ORep G h σ (.list vs) a
  | attrs {fs : List (Str × AV)} {a : Addr} {es : List DictEntry} {n : Nat} : h.get? a = some (dictOf es n) → FRep G.w h σ fs es → ORep G h σ (.attrs fs) a
  | inst {c : Nat} {a dx : Addr} {d : Nat} : c < 3 → σ[d]? = some dx → h.get? a = some (instObj (G.ca c) dx) → ORep G h σ (.inst c d) a
  | dictS {ks : List (Str × AV)} {kvs : List (Str × Value)} {a : Addr} : h.DictOf (PySem.strKind G.prog G.w) a kvs → PRep h σ ks kvs → (∀ p ∈ ks, PyData.strOk p.1 = true) → ORep G h σ (.dict (ks.map fun p => (.str p.1, p.2))) a
  | dictI {ks : List (Int × AV)} {kvs : List (Int × Value)} {a : Addr} : h.DictOf (PySem.intKind G.prog G.w) a kvs → PRep h σ ks kvs → ORep G h σ (.dict (ks.map fun p => (.int p.1, p.2))) a
  | dictT {ks : List (AV × AV)} {kvs : List (AV × Addr × Value)} {a : Addr} : DictT G.prog G.w h a kvs → TRep h σ ks kvs → (∀ p ∈ kvs, RepV h σ p.1 (.ref p.2.1)) → ORep G h σ (.dict ks) a
  | res {a : Addr} {x y : Value} : IsPair h a x y → ORep G h σ .res a
  | frz {vs : List AV} {a : Addr} {items : Array Value} : h.IsList a items → RepVs h σ vs items.toList → ORep G h σ (.frz vs) a
theorem ORep.listE {G : Gd} {h : Heap} {σ : List Addr} {vs : List AV} {a : Addr} {motive : ORep G h σ (.list vs) a → Prop} (r : ORep G h σ (.list vs) a) (mk : ∀ {items : Array Value} {n : Nat} (e : h.get? a = some (listOf items n)) (q : RepVs h σ vs items.toList), motive (.list e q)) : motive r := by
  cases r with | list e q => exact mk e q
theorem ORep.there {G : Gd} {h : Heap} {σ : List Addr} {o : AO} {a : Addr} (r : ORep G h σ o a) : ∃ ob, h.get? a = some ob := by
  cases r with
  | list e _ => exact ⟨_, e⟩
  | attrs e _ => exact ⟨_, e⟩
  | inst _ _ e => exact ⟨_, e⟩
  | dictS e _ _ => obtain ⟨o, _, _, e, x, _⟩ := e; exact ⟨o, e⟩
  | dictI e _ => obtain ⟨o, _, _, e, x, _⟩ := e; exact ⟨o, e⟩
  | dictT e _ _ => obtain ⟨o, _, _, e, x, _⟩ := e; exact ⟨o, e⟩
  | res e => exact ⟨_, e⟩
  | frz e _ => obtain ⟨o, e, _⟩ := e; exact ⟨o, e⟩
structure HRel (G : Gd) (σ : List Addr) (H : List AO) (h : Heap) : Prop where
  len : σ.length = H.length
  nd : σ.Nodup
  low : ∀ (i : Nat) (o : AO) (a : Addr), H[i]? = some o → σ[i]? = some a → o.fz = false → G.Off a
  base : ∀ b o, G.hb.get? b = some o → h.get? b = some o
  bnd : ∃ b o, G.hb.get? b = some o ∧ sysModules < b
  sz : G.Off h.objs.size
  rep : ∀ (i : Nat) (o : AO) (a : Addr), H[i]? = some o → σ[i]? = some a → ORep G h σ o a
section
variable {G : Gd} {h h' h'' : Heap} {σ σ' σ'' : List Addr} {H H' : List AO}
theorem HRel.at (R : HRel G σ H h) {i : Nat} {a : Addr} (e : σ[i]? = some a) : ∃ o, H[i]? = some o ∧ ORep G h σ o a := by
  have hl : i < H.length := by rw [← R.len]; exact (List.getElem?_eq_some_iff.mp e).1
  exact ⟨H[i], List.getElem?_eq_getElem hl, R.rep _ _ _ (List.getElem?_eq_getElem hl) e⟩
theorem HRel.addr (R : HRel G σ H h) {i : Nat} {o : AO} (e : H[i]? = some o) : ∃ a, σ[i]? = some a ∧ ORep G h σ o a := by
  have hl : i < σ.length := by rw [R.len]; exact (List.getElem?_eq_some_iff.mp e).1
  exact ⟨σ[i], List.getElem?_eq_getElem hl, R.rep _ _ _ e (List.getElem?_eq_getElem hl)⟩
theorem HRel.mem (R : HRel G σ H h) {a : Addr} (m : a ∈ σ) : ∃ ob, h.get? a = some ob := by
  obtain ⟨i, e⟩ := List.mem_iff_getElem?.mp m
  obtain ⟨o, _, r⟩ := R.at e
  exact r.there
theorem HRel.lt (R : HRel G σ H h) {a : Addr} (m : a ∈ σ) : a < h.objs.size := by
  obtain ⟨ob, e⟩ := R.mem m
  exact Heap.lt_size e
theorem HRel.offge (R : HRel G σ H h) {b : Addr} (l : h.objs.size ≤ b) : G.Off b := by
  obtain ⟨c, o, e, q⟩ := R.bnd
  refine ⟨?_, Nat.lt_of_lt_of_le (Nat.lt_trans q (Heap.lt_size (R.base _ _ e))) l⟩
  cases e : G.hb.get? b with
  | none => rfl
  | some o => exact absurd (Heap.lt_size (R.base _ _ e)) (Nat.not_lt.mpr l)
theorem sz_of (ok : GdOk G) (R : HRel G σ H h) (k : ∀ b o, h.get? b = some o → h'.get? b = some o) : G.Off h'.objs.size := by
  obtain ⟨c, o, e, q⟩ := ok.top
  refine ⟨?_, Nat.lt_trans q (Heap.lt_size (k _ _ (R.base _ _ e)))⟩
  cases e : G.hb.get? h'.objs.size with
  | none => rfl
  | some o => exact absurd (Heap.lt_size (k _ _ (R.base _ _ e))) (Nat.lt_irrefl _)
theorem push_keeps (o : Obj) : (∀ b x, h.get? b = some x → (h.push o).get? b = some x) ∧ h.objs.size ≤ (h.push o).objs.size := ⟨fun _ _ e => Heap.get?_push_of_some _ e, by rw [Heap.size_push]; omega⟩
theorem Ext.refl : Ext h h σ σ := ⟨⟨[], by simp, fun _ m => nomatch m⟩, fun _ _ e _ => e, fun _ o e => ⟨o, e⟩⟩
theorem get?_size (h : Heap) : h.get? h.objs.size = none := by
  cases e : h.get? h.objs.size with
  | none => rfl
  | some o => exact absurd (Heap.lt_size e) (Nat.lt_irrefl _)
theorem Ext.trans (a : Ext h h' σ σ') (b : Ext h' h'' σ' σ'') : Ext h h'' σ σ'' := by
  obtain ⟨ν, e, l⟩ := a.grow
  obtain ⟨ν', e', l'⟩ := b.grow
  subst e e'
  refine ⟨⟨ν ++ ν', by simp, fun x m => ?_⟩, fun x o q n => b.keep x o (a.keep x o q n) ?_, fun x o q => let ⟨o', q'⟩ := a.live x o q; b.live x o' q'⟩
  · rcases List.mem_append.mp m with m | m
    · exact l x m
    · cases e : h.get? x with
      | none => rfl
      | some o =>
        obtain ⟨o', q⟩ := a.live x o e
        rw [l' x m] at q
        cases q
  · rw [List.mem_append]
    rintro (m | m)
    · exact n m
    · rw [l x m] at q; cases q
theorem Ext.at (a : Ext h h' σ σ') {n : Nat} {x : Addr} (e : σ[n]? = some x) : σ'[n]? = some x := by
  obtain ⟨ν, rfl, _⟩ := a.grow
  rw [List.getElem?_append_left (List.getElem?_eq_some_iff.mp e).1]; exact e
theorem FRep.mono {w : World} (k : TK h σ h' σ') (s : ∀ (n : Nat) (x : Addr), σ[n]? = some x → σ'[n]? = some x) {fs : List (Str × AV)} {es : List DictEntry} (r : FRep w h σ fs es) : FRep w h' σ' fs es := by
  induction r with
  | nil => exact .nil
  | cons a _ ih => exact .cons (a.mono k s) ih
theorem PRep.mono {K : Type} (k : TK h σ h' σ') (s : ∀ (n : Nat) (x : Addr), σ[n]? = some x → σ'[n]? = some x) {ks : List (K × AV)} {kvs : List (K × Value)} (r : PRep h σ ks kvs) : PRep h' σ' ks kvs := by
  induction r with
  | nil => exact .nil
  | cons a _ ih => exact .cons (a.mono k s) ih
theorem TRep.mono (k : TK h σ h' σ') (s : ∀ (n : Nat) (x : Addr), σ[n]? = some x → σ'[n]? = some x) {ks : List (AV × AV)} {kvs : List (AV × Addr × Value)} (r : TRep h σ ks kvs) : TRep h' σ' ks kvs := by
  induction r with
  | nil => exact .nil
  | cons a _ ih => exact .cons (a.mono k s) ih
theorem dictOf_at {prog : Program} {w : World} {K : Type} [DecidableEq K] {knd : KeyKind prog w K} {a : Addr} {kvs : List (K × Value)} (e : h'.get? a = h.get? a) (r : h.DictOf knd a kvs) : h'.DictOf knd a kvs :=
  let ⟨o, es, ep, g, r⟩ := r; ⟨o, es, ep, e.trans g, r⟩
theorem dictT_at {prog : Program} {w : World} {a : Addr} {kvs : List (AV × Addr × Value)} (q : ∀ p ∈ kvs, RepV h' σ' p.1 (.ref p.2.1)) (e : h'.get? a = h.get? a) (r : DictT prog w h a kvs) : DictT prog w h' a kvs :=
  let ⟨o, es, ep, g, x, d, l, is, n⟩ := r; ⟨o, es, ep, e.trans g, x, d, l, fun p hp => ⟨(q p hp).bare 6 (tupKey_clean (is p hp).2).2, (is p hp).2⟩, n⟩
theorem ORep.mono (k : TK h σ h' σ') (s : ∀ (n : Nat) (x : Addr), σ[n]? = some x → σ'[n]? = some x) {o : AO} {a : Addr} (e : h'.get? a = h.get? a) (r : ORep G h σ o a) : ORep G h' σ' o a := by
  cases r with
  | list q r => exact .list (e.trans q) (r.mono k s)
  | attrs q r => exact .attrs (e.trans q) (r.mono k s)
  | inst l d q => exact .inst l (s _ _ d) (e.trans q)
  | dictS q r z => exact .dictS (dictOf_at e q) (r.mono k s) z
  | dictI q r => exact .dictI (dictOf_at e q) (r.mono k s)
  | dictT q r z =>
    have z' := fun p hp => (z p hp).mono k s
    exact .dictT (dictT_at z' e q) (r.mono k s) z'
  | res q => exact .res (e.trans q)
  | frz q r => obtain ⟨o, q, z⟩ := q; exact .frz ⟨o, e.trans q, z⟩ (r.mono k s)
theorem Ext.tup (x : Ext h h' σ σ') : TK h σ h' σ' := fun a items t n => by
  obtain ⟨o, e, c⟩ := t
  refine ⟨⟨o, x.keep _ _ e n, c⟩, ?_⟩
  obtain ⟨ν, rfl, l⟩ := x.grow
  rw [List.mem_append]
  rintro (m | m)
  · exact n m
  · rw [l a m] at e; cases e
theorem RepV.ext {V : AV} {v : Value} (r : RepV h σ V v) (x : Ext h h' σ σ') (R : HRel G σ H h) : RepV h' σ' V v := r.mono x.tup fun _ _ => x.at
theorem RepVs.ext {V : List AV} {v : List Value} (r : RepVs h σ V v) (x : Ext h h' σ σ') (R : HRel G σ H h) : RepVs h' σ' V v := r.mono x.tup fun _ _ => x.at
theorem HRel.same (R : HRel G σ H h) (k : ∀ b o, h.get? b = some o → h'.get? b = some o) (sz : G.Off h'.objs.size) : HRel G σ H h' where
  len := R.len
  nd := R.nd
  low := R.low
  bnd := R.bnd
  sz := sz
  base := fun b o e => k b o (R.base b o e)
  rep := fun i o a e q => by
    have r := R.rep i o a e q
    obtain ⟨ob, g⟩ := r.there
    exact r.mono (fun b items t n => let ⟨o, e, c⟩ := t; ⟨⟨o, k _ _ e, c⟩, n⟩) (fun _ _ x => x) ((k _ _ g).trans g.symm)
theorem Ext.same (k : ∀ b o, h.get? b = some o → h'.get? b = some o) : Ext h h' σ σ := ⟨⟨[], by simp, fun _ m => nomatch m⟩, fun b o e _ => k b o e, fun _ o e => ⟨o, k _ _ e⟩⟩
noncomputable def NT (h : Heap) (σ : List Addr) (L : Addr) : Prop := L ∈ σ ∨ ∀ items, ¬ h.IsTuple L items
theorem tup_but {L : Addr} (nt : NT h σ L) (s : Heap.SameBut L h h') : TK h σ h' σ := fun a items t n => by
  have ne : a ≠ L := fun z => by
    subst z
    exact nt.elim n fun q => q _ t
  obtain ⟨o, e, c⟩ := t
  exact ⟨⟨o, (s.2 a ne).trans e, c⟩, n⟩
theorem RepV.but {L : Addr} (nt : NT h σ L) (s : Heap.SameBut L h h') {V : AV} {v : Value} (r : RepV h σ V v) : RepV h' σ V v := r.mono (tup_but nt s) fun _ _ e => e
theorem RepVs.but {L : Addr} (nt : NT h σ L) (s : Heap.SameBut L h h') {V : List AV} {v : List Value} (r : RepVs h σ V v) : RepVs h' σ V v := r.mono (tup_but nt s) fun _ _ e => e
theorem HRel.but (R : HRel G σ H h) {L : Addr} (nL : L ∉ σ) (lb : G.Off L) (nt : NT h σ L) (s : Heap.SameBut L h h') : HRel G σ H h' where
  len := R.len
  nd := R.nd
  low := R.low
  bnd := R.bnd
  sz := by rw [s.1]; exact R.sz
  base := fun b o e => (s.2 b (fun q => by rw [q, lb.1] at e; cases e)).trans (R.base b o e)
  rep := fun i o a e q => by
    have r := R.rep i o a e q
    have ne : a ≠ L := fun z => nL (z ▸ List.mem_of_getElem? q)
    exact r.mono (tup_but nt s) (fun _ _ x => x) (s.2 a ne)
theorem HRel.set (R : HRel G σ H h) {i : Nat} {a : Addr} {o o' : AO} (e : σ[i]? = some a) (ei : H[i]? = some o) (nf : o.fz = false) (s : Heap.SameBut a h h') (r : ORep G h' σ o' a) : HRel G σ (H.set i o') h' where
  len := by rw [List.length_set]; exact R.len
  nd := R.nd
  low := fun j oj b hj hb nj => by
    by_cases ij : i = j
    · subst ij
      rw [e] at hb; cases hb
      exact R.low i o a ei e nf
    · rw [List.getElem?_set_ne ij] at hj
      exact R.low j oj b hj hb nj
  bnd := R.bnd
  sz := by rw [s.1]; exact R.sz
  base := fun b o q => (s.2 b (fun z => by rw [z, (R.low _ _ _ ei e nf).1] at q; cases q)).trans (R.base b o q)
  rep := fun j o b hj hb => by
    by_cases ij : i = j
    · subst ij
      rw [e] at hb; cases hb
      have hl : i < H.length := by rw [← R.len]; exact (List.getElem?_eq_some_iff.mp e).1
      rw [List.getElem?_set_self hl] at hj; cases hj
      exact r
    · rw [List.getElem?_set_ne ij] at hj
      have rb := R.rep j o b hj hb
      have ne : b ≠ a := fun z => ij ((List.getElem?_inj (List.getElem?_eq_some_iff.mp e).1 R.nd).mp (e.trans (z ▸ hb.symm)))
      exact rb.mono (tup_but (.inl (List.mem_of_getElem? e)) s) (fun _ _ x => x) (s.2 b ne)
theorem Ext.set {a : Addr} (m : a ∈ σ) (s : Heap.SameBut a h h') (l : ∃ o', h'.get? a = some o') : Ext h h' σ σ := ⟨⟨[], by simp, fun _ m => nomatch m⟩, fun b o e n => (s.2 b (fun z => n (z ▸ m))).trans e, fun b o e => by
  by_cases q : b = a
  · exact q ▸ l
  · exact ⟨o, (s.2 b q).trans e⟩⟩
theorem HRel.add (R : HRel G σ H h) {a : Addr} {o' : AO} (k : ∀ b o, h.get? b = some o → h'.get? b = some o) (f : h.get? a = none) (la : G.Off a) (sz : G.Off h'.objs.size) (r : ORep G h' (σ ++ [a]) o' a) : HRel G (σ ++ [a]) (H ++ [o']) h' where
  len := by simp [R.len]
  nd := List.nodup_append.mpr ⟨R.nd, by simp, fun x hx y hy => by
    rw [List.mem_singleton.mp hy]
    rintro rfl
    obtain ⟨o, e⟩ := R.mem hx
    rw [f] at e; cases e⟩
  low := fun i o b hi hb nf => by
    by_cases hl : i < σ.length
    · rw [List.getElem?_append_left hl] at hb
      rw [List.getElem?_append_left (by rw [← R.len]; exact hl)] at hi
      exact R.low i o b hi hb nf
    · have := (List.getElem?_eq_some_iff.mp hb).1
      simp at this
      have hi' : i = σ.length := by omega
      subst hi'
      rw [List.getElem?_append_right (Nat.le_refl _)] at hb
      simp at hb
      subst hb
      exact la
  base := fun b o e => k _ _ (R.base b o e)
  bnd := R.bnd
  sz := sz
  rep := fun i o b hi hb => by
    have x : Ext h h' σ (σ ++ [a]) := ⟨⟨[a], rfl, fun b m => by rw [List.mem_singleton.mp m]; exact f⟩, fun b o e _ => k b o e, fun _ o e => ⟨o, k _ _ e⟩⟩
    by_cases hl : i < σ.length
    · rw [List.getElem?_append_left hl] at hb
      rw [List.getElem?_append_left (by rw [← R.len]; exact hl)] at hi
      have rb := R.rep i o b hi hb
      obtain ⟨ob, g⟩ := rb.there
      exact rb.mono x.tup (fun _ _ => x.at) ((k _ _ g).trans g.symm)
    · have := (List.getElem?_eq_some_iff.mp hb).1
      simp at this
      have hi' : i = σ.length := by omega
      subst hi'
      rw [List.getElem?_append_right (Nat.le_refl _)] at hb
      rw [List.getElem?_append_right (by rw [R.len]; exact Nat.le_refl _)] at hi
      simp [R.len] at hb hi
      subst hb hi
      exact r
theorem HRel.push (R : HRel G σ H h) {ob : Obj} {o' : AO} (r : ORep G (h.push ob) (σ ++ [h.objs.size]) o' h.objs.size) : HRel G (σ ++ [h.objs.size]) (H ++ [o']) (h.push ob) :=
  R.add (push_keeps ob).1 (get?_size h) R.sz (R.offge (push_keeps ob).2) r
theorem Ext.push (ob : Obj) : Ext h (h.push ob) σ (σ ++ [h.objs.size]) :=
  ⟨⟨[h.objs.size], rfl, fun a m => by rw [List.mem_singleton.mp m]; exact get?_size _⟩, fun b o e _ => (push_keeps ob).1 b o e, fun _ o e => ⟨o, (push_keeps ob).1 _ _ e⟩⟩
theorem HRel.last (R : HRel G σ H h) {a : Addr} : (σ ++ [a])[H.length]? = some a := by rw [← R.len]; simp
theorem HRel.new (R : HRel G σ H h) : h.objs.size ∉ σ := fun m => Nat.lt_irrefl _ (R.lt m)
end
end Mine
end

section
open PySem PySem.W PyProof.Rows PySem.Calls
namespace Mine
inductive Src where
  | vals (v : AV)
  | rng (n : Int)
  | zip (a b : AV) (m : Nat)
inductive Op2 where
  | eq | ne | lt | gt | ge | le | isIn | notIn | add | sub | mul | mod | fdiv | pow | idx
inductive Op1 where
  | isNone | notNone
inductive Prim where
  | len | int | max | listZip | sortedD | dictOf | tupleOf
inductive PM where
  | append | extend | pop | get | setdefault
inductive C where
  | lit (v : AV)
  | var (i : Nat)
  | nil
  | cons (a r : C)
  | tupE (l : C)
  | listE (l : C)
  | dictE
  | fld (e : C) (f : Str)
  | op1 (o : Op1) (a : C)
  | op2 (o : Op2) (a b : C)
  | and (a b : C)
  | or (a b : C)
  | not (a : C)
  | ite (t a b : C)
  | callF (f : Nat) (l : C)
  | callM (e : C) (m : Str) (l : C)
  | new (k : Nat) (l : C)
  | prim (p : Prim) (l : C)
  | pm (p : PM) (e : C) (l : C)
  | comp (t s cond elt : C)
  | compL (t : C) (s : Src) (k : Nat) (cond elt : C) (acc : List AV)
  | sRng (e : C)
  | sZip (l : C)
  | skip
  | seq (a b : C)
  | expr (e : C)
  | asg (t e : C)
  | asgL (t e : C)
  | setF (o : C) (f : Str) (e : C)
  | setI (o k e : C)
  | ret (e : C)
  | iff (t a b : C)
  | whl (t b : C)
  | for (t s b : C)
  | forL (t : C) (s : Src) (k : Nat) (b : C)
  | cont
  | gc (e : C)
  | neN (n : Bool) (e : C)
  | callP (f : Nat) (l : C)
  | callL (f : Nat) (l : C)
  | comp2 (t1 s1 t2 s2 elt : C)
  | comp2L (t1 : C) (s : Src) (k : Nat) (t2 s2 elt : C) (acc : List AV)
inductive Res where
  | val (v : AV)
  | next
  | cont
  | ret (v : AV)
noncomputable abbrev Loc := List (Option AV)
noncomputable abbrev AH := List AO
noncomputable abbrev Out := Res × Loc × AH
structure FC where
  params : Nat
  locs : Nat
  body : C
  dflt : List AV := []
structure Pg where
  fc : Nat → Option FC
  mt : Addr → Str → Option Nat
  ct : Nat → Option (Addr × Nat)
noncomputable def vb (x : Option Out) (k : AV → AH → Option Out) : Option Out := match x with
  | some (.val v, _, H) => k v H
  | _ => none
noncomputable def eqH (H : AH) (a b : AV) : Option Bool := match a, b with
  | .obj i, .obj j => match H[i]?, H[j]? with
    | some (.list x), some (.list y) => if pureAs 50 x && pureAs 50 y then some (eqPs x y) else none
    | _, _ => none
  | .tup x, .tup y => if pureAs 50 x && pureAs 50 y then some (eqPs x y) else none
  | .bool x, .bool y => some (x == y)
  | .int x, .int y => some (x == y)
  | .str x, .str y => some (x == y)
  | _, _ => none
noncomputable def inVs (x : AV) (ys : List AV) : Option Bool := if pureA 50 x && pureAs 50 ys then some (ys.any fun y => eqP y x) else none
noncomputable def keysOk (k : AV) (kvs : List (AV × AV)) : Bool := match k with
  | .str _ => kvs.all fun e => isStrKey e.1
  | .int _ => kvs.all fun e => isIntKey e.1
  | .tup _ => isTupKey k && kvs.all fun e => isTupKey e.1
  | _ => false
noncomputable def dFind (k : AV) : List (AV × AV) → Option AV
  | [] => none
  | (x, v) :: r => if eqP x k then some v else dFind k r
noncomputable def dGet (k : AV) (kvs : List (AV × AV)) : Option (Option AV) := if keysOk k kvs then some (dFind k kvs) else none
noncomputable def dPut (k v : AV) : List (AV × AV) → List (AV × AV)
  | [] => [(k, v)]
  | (x, u) :: r => if eqP x k then (x, v) :: r else (x, u) :: dPut k v r
noncomputable def inH (H : AH) (x c : AV) : Option Bool := match c with
  | .tup vs => inVs x vs
  | .obj i => match H[i]? with
    | some (.list vs) => inVs x vs
    | some (.dict kvs) => (dGet x kvs).map (·.isSome)
    | _ => none
  | _ => none
noncomputable def bv (H : AH) (b : Option Bool) : Option (AV × AH) := b.map fun b => (.bool b, H)
noncomputable def op2F (o : Op2) (a b : AV) (H : AH) : Option (AV × AH) := match o with
  | .eq => bv H (eqH H a b)
  | .ne => bv H ((eqH H a b).map (!·))
  | .isIn => bv H (inH H a b)
  | .notIn => bv H ((inH H a b).map (!·))
  | .lt => match a, b with | .int x, .int y => some (.bool (decide (x < y)), H) | _, _ => none
  | .gt => match a, b with | .int x, .int y => some (.bool (decide (y < x)), H) | _, _ => none
  | .ge => match a, b with | .int x, .int y => some (.bool (decide (y ≤ x)), H) | _, _ => none
  | .le => match a, b with | .int x, .int y => some (.bool (decide (x ≤ y)), H) | _, _ => none
  | .add => match a, b with
    | .int x, .int y => some (.int (x + y), H)
    | .str x, .str y => if x.length + y.length ≤ 1000 then some (.str (x ++ y), H) else none
    | .tup x, .tup y => if x.length + y.length ≤ 60000 then some (.tup (x ++ y), H) else none
    | .obj i, .obj j => match H[i]?, H[j]? with
      | some (.list x), some (.list y) => if x.length + y.length ≤ 60000 then some (.obj H.length, H ++ [.list (x ++ y)]) else none
      | _, _ => none
    | _, _ => none
  | .sub => match a, b with | .int x, .int y => some (.int (x - y), H) | _, _ => none
  | .mul => match a, b with | .int x, .int y => if y.natAbs < 18446744073709551616 then some (.int (x * y), H) else none | _, _ => none
  | .mod => match a, b with | .int x, .int y => if y = 0 then none else some (.int (Int.fmod x y), H) | _, _ => none
  | .fdiv => match a, b with | .int x, .int y => if y = 0 then none else if y.natAbs < 1073741824 then some (.int (Int.fdiv x y), H) else none | _, _ => none
  | .pow => none
  | .idx => match a, b with
    | .tup vs, .int i => if 0 ≤ i ∧ i < 60000 then (vs[i.toNat]?).map fun v => (v, H) else none
    | .obj o, .int i => match H[o]? with
      | some (.list vs) => if 0 ≤ i ∧ i < 60000 then (vs[i.toNat]?).map fun v => (v, H) else none
      | some (.dict kvs) => match dGet (.int i) kvs with
        | some (some v) => some (v, H)
        | _ => none
      | some (.frz vs) => if 0 ≤ i ∧ i < 60000 then (vs[i.toNat]?).map fun v => (v, H) else none
      | _ => none
    | .obj o, k => match H[o]? with
      | some (.dict kvs) => match dGet k kvs with
        | some (some v) => some (v, H)
        | _ => none
      | _ => none
    | _, _ => none
noncomputable def op1F (o : Op1) (a : AV) : AV := match o, a with
  | .isNone, .none => .bool true
  | .isNone, _ => .bool false
  | .notNone, .none => .bool false
  | .notNone, _ => .bool true
noncomputable def zipT : List AV → List AV → List AV
  | a :: as, b :: bs => .tup [a, b] :: zipT as bs
  | _, _ => []
noncomputable def strLt (a b : Str) : Bool := PySem.Spec.ltCps a.cps.toList b.cps.toList
noncomputable def insS (x : Str) : List Str → List Str
  | [] => [x]
  | y :: ys => if strLt x y then x :: y :: ys else y :: insS x ys
noncomputable def sortS : List Str → List Str
  | [] => []
  | x :: xs => insS x (sortS xs)
noncomputable def keyStrs : List (AV × AV) → Option (List Str)
  | [] => some []
  | (.str x, _) :: r => (keyStrs r).map (x :: ·)
  | _ => none
noncomputable def dOfList : List AV → List (AV × AV) → Option (List (AV × AV))
  | [], acc => some acc
  | .tup [.str k, v] :: r, acc => dOfList r (dPut (.str k) v acc)
  | _, _ => none
noncomputable def lenF (vs : List AV) (H : AH) : Option (AV × AH) := match vs with
  | [.tup l] => if l.length ≤ 60000 then some (.int l.length, H) else none
  | [.obj i] => match H[i]? with
    | some (.list l) => if l.length ≤ 60000 then some (.int l.length, H) else none
    | some (.frz l) => if l.length ≤ 60000 then some (.int l.length, H) else none
    | _ => none
  | _ => none
noncomputable def intF (vs : List AV) (H : AH) : Option (AV × AH) := match vs with
  | [.int i] => some (.int i, H)
  | [.bool b] => some (.int (if b then 1 else 0), H)
  | _ => none
noncomputable def maxF (vs : List AV) (H : AH) : Option (AV × AH) := match vs with
  | [.int a, .int b] => some (.int (if a < b then b else a), H)
  | _ => none
noncomputable def listZipF (vs : List AV) (H : AH) : Option (AV × AH) := match vs with
  | [.tup a, .tup b] => if a.length = b.length ∧ a.length ≤ 60000 then some (.obj H.length, H ++ [.list (zipT a b)]) else none
  | _ => none
noncomputable def tupleOfF (vs : List AV) (H : AH) : Option (AV × AH) := match vs with
  | [.tup a] => some (.tup a, H)
  | [.obj i] => match H[i]? with
    | some (.list l) => if l.length ≤ 60000 then some (.tup l, H) else none
    | _ => none
  | _ => none
noncomputable def sortedDF (vs : List AV) (H : AH) : Option (AV × AH) := match vs with
  | [.obj i] => match H[i]? with
    | some (.dict kvs) => match keyStrs kvs with
      | some ks => if ks.length < 64 then some (.obj H.length, H ++ [.list ((sortS ks).map .str)]) else none
      | none => none
    | _ => none
  | _ => none
noncomputable def dictOfF (vs : List AV) (H : AH) : Option (AV × AH) := match vs with
  | [.obj i] => match H[i]? with
    | some (.list l) => if l.length ≤ 60000 then (dOfList l []).map fun kvs => (.obj H.length, H ++ [.dict kvs]) else none
    | _ => none
  | _ => none
noncomputable def primF (p : Prim) (vs : List AV) (H : AH) : Option (AV × AH) := match p with
  | .len => lenF vs H
  | .int => intF vs H
  | .max => maxF vs H
  | .listZip => listZipF vs H
  | .tupleOf => tupleOfF vs H
  | .sortedD => sortedDF vs H
  | .dictOf => dictOfF vs H
noncomputable def isL (v : AV) (H : AH) : Bool := match v with
  | .obj i => match H[i]? with
    | some (.list _) => true
    | _ => false
  | _ => false
noncomputable def isD (v : AV) (H : AH) : Bool := match v with
  | .obj i => match H[i]? with
    | some (.dict _) => true
    | _ => false
  | _ => false
noncomputable def pmOk (p : PM) (v : AV) (H : AH) : Bool := match p with
  | .append => isL v H
  | .extend => isL v H
  | .pop => isL v H
  | .get => isD v H
  | .setdefault => isD v H
noncomputable def onL (v : AV) (H : AH) (k : Nat → List AV → Option (AV × AH)) : Option (AV × AH) := match v with
  | .obj i => match H[i]? with
    | some (.list l) => k i l
    | _ => none
  | _ => none
noncomputable def onD (v : AV) (H : AH) (k : Nat → List (AV × AV) → Option (AV × AH)) : Option (AV × AH) := match v with
  | .obj i => match H[i]? with
    | some (.dict l) => k i l
    | _ => none
  | _ => none
noncomputable def appendF (v : AV) (args : List AV) (H : AH) : Option (AV × AH) := onL v H fun i l => match args with
  | [x] => if l.length ≤ 60000 then some (.none, H.set i (.list (l ++ [x]))) else none
  | _ => none
noncomputable def extendF (v : AV) (args : List AV) (H : AH) : Option (AV × AH) := onL v H fun i l => match args with
  | [.tup xs] => if l.length + xs.length ≤ 60000 then some (.none, H.set i (.list (l ++ xs))) else none
  | [.obj j] => if i = j then none else match H[j]? with
    | some (.list xs) => if l.length + xs.length ≤ 60000 then some (.none, H.set i (.list (l ++ xs))) else none
    | _ => none
  | _ => none
noncomputable def popF (v : AV) (args : List AV) (H : AH) : Option (AV × AH) := onL v H fun i l => match args with
  | [] => match l.getLast? with
    | some x => if l.length ≤ 60000 then some (x, H.set i (.list l.dropLast)) else none
    | none => none
  | _ => none
noncomputable def getF (v : AV) (args : List AV) (H : AH) : Option (AV × AH) := onD v H fun _ kvs => match args with
  | [.str k, x] => match dGet (.str k) kvs with
    | some (some v) => some (v, H)
    | some none => some (x, H)
    | none => none
  | _ => none
noncomputable def setdefF (v : AV) (args : List AV) (H : AH) : Option (AV × AH) := onD v H fun i kvs => match args with
  | [.str k, x] => if 60000 < kvs.length then none else match dGet (.str k) kvs with
    | some (some v) => some (v, H)
    | some none => some (x, H.set i (.dict (dPut (.str k) x kvs)))
    | none => none
  | _ => none
noncomputable def pmF (p : PM) (v : AV) (args : List AV) (H : AH) : Option (AV × AH) := match p with
  | .append => appendF v args H
  | .extend => extendF v args H
  | .pop => popF v args H
  | .get => getF v args H
  | .setdefault => setdefF v args H
noncomputable def asgV : C → AV → Loc → Option Loc
  | .var i, v, loc => if i < loc.length then some (loc.set i (some v)) else none
  | .nil, .tup [], loc => some loc
  | .cons t r, .tup (v :: vs), loc => match asgV t v loc with
    | some loc' => asgV r (.tup vs) loc'
    | none => none
  | _, _, _ => none
noncomputable def itemsOf (v : AV) (H : AH) : Option (List AV) := match v with
  | .tup vs => some vs
  | .obj i => match H[i]? with
    | some (.list vs) => some vs
    | _ => none
  | _ => none
noncomputable def listOfV (v : AV) (H : AH) : Option (List AV) := match v with
  | .obj i => match H[i]? with
    | some (.list vs) => some vs
    | _ => none
  | _ => none
noncomputable def isRes (m : Nat) (H : AH) : Bool := match H[m]? with
  | some .res => true
  | _ => false
noncomputable def srcNext (s : Src) (k : Nat) (H : AH) : Option (Option AV) := match s with
  | .vals v => match itemsOf v H with
    | some vs => if vs.length ≤ 60000 then some (vs[k]?) else none
    | none => none
  | .rng n => if n ≤ 60000 then some (if (k : Int) < n then some (.int k) else none) else none
  | .zip a b m => match isRes m H with
    | true => match listOfV a H, listOfV b H with
      | some x, some y => match x[k]?, y[k]? with
        | some u, some v => some (some (.tup [u, v]))
        | none, _ => some none
        | _, _ => none
      | _, _ => none
    | false => none
noncomputable def srcOk (s : Src) (H : AH) : Bool := match s with
  | .vals v => (itemsOf v H).isSome
  | .rng n => decide (n ≤ 60000)
  | .zip a b _ => (listOfV a H).isSome && (listOfV b H).isSome
noncomputable def bindA (F : FC) (vs : List AV) : Option Loc :=
  let all := vs ++ F.dflt
  if all.length = F.params then some (all.map some ++ List.replicate (F.locs - F.params) none) else none
noncomputable def setField (i : Nat) (f : Str) (v : AV) (H : AH) : Option AH := match H[i]? with
  | some (.inst _ d) => match H[d]? with
    | some (.attrs fs) => if (fs.lookup f).isNone ∧ fs.length < 900 then some (H.set d (.attrs (fs ++ [(f, v)]))) else none
    | _ => none
  | _ => none
noncomputable def setItemA (o k v : AV) (H : AH) : Option AH := match o with
  | .obj i => match H[i]?, k with
    | some (.list l), .int j => if 0 ≤ j ∧ j < (l.length : Int) ∧ j < 60000 then some (H.set i (.list (l.set j.toNat v))) else none
    | some (.dict kvs), k => match dGet k kvs with
      | some _ => if kvs.length ≤ 60000 then some (H.set i (.dict (dPut k v kvs))) else none
      | none => none
    | _, _ => none
  | _ => none
mutual
noncomputable def lowA (n : Nat) : AV → Bool
  | .obj k => k < n
  | .tup vs => lowAs n vs
  | _ => true
noncomputable def lowAs (n : Nat) : List AV → Bool
  | [] => true
  | v :: vs => lowA n v && lowAs n vs
end
noncomputable def lowO (n : Nat) : AO → Bool
  | .list vs => lowAs n vs
  | .attrs fs => fs.all fun p => lowA n p.2
  | .inst _ d => d < n
  | .dict kvs => kvs.all fun p => lowA n p.1 && lowA n p.2
  | .res => true
  | .frz vs => lowAs n vs
noncomputable def flatA : AV → Bool
  | .tup _ => false
  | .obj _ => false
  | _ => true
noncomputable def gcF (n : Nat) (loc : Loc) (o : Option Out) : Option Out := match o with
  | some (.val v, _, H) => if pureA 50 v && (H.take n).all (lowO n) then some (.val v, loc, H.take n) else none
  | _ => none
noncomputable def callPF (loc : Loc) (H : AH) (o : Option Out) : Option Out := match o with
  | some (.val r, _, _) => if flatA r then some (.val r, loc, H) else none
  | _ => none
noncomputable def callLF (k : Nat) (loc : Loc) (H : AH) (o : Option Out) : Option Out := match o with
  | some (.val r, _, H1) => match listOfV (.obj 0) H1 with
    | some ws => if flatA r && ws.all flatA then some (.val r, loc, H.set k (.list ws)) else none
    | none => none
  | _ => none
noncomputable def pickM (H : AH) (dd : Nat) (o : Option Nat) (m : Str) : Option Nat := match H[dd]? with
  | some (.attrs fs) => if (fs.lookup m).isNone then o else none
  | _ => none
section
variable (P : Pg)
noncomputable abbrev RunT := Nat → C → Loc → AH → Option Out
noncomputable def callBody (ih : RunT) (d : Nat) (f : Nat) (vs : List AV) (loc : Loc) (H : AH) : Option Out := match P.fc f with
  | some F => match bindA F vs with
    | some l0 => match ih d F.body l0 H with
      | some (.ret v, _, H') => some (.val v, loc, H')
      | some (.next, _, H') => some (.val .none, loc, H')
      | _ => none
    | none => none
  | none => none
noncomputable def srcF (ih : RunT) (d : Nat) (s : C) (loc : Loc) (H : AH) (k : Src → AH → Option Out) : Option Out := match s with
  | .sRng l => vb (ih d l loc H) fun v H => match v with
    | .tup [.int n] => if 0 ≤ n ∧ n ≤ 60000 then k (.rng n) H else none
    | _ => none
  | .sZip l => vb (ih d l loc H) fun v H => match v with
    | .tup [x, y] => match (listOfV x H).isSome && (listOfV y H).isSome with
      | true => k (.zip x y H.length) (H ++ [.res])
      | false => none
    | _ => none
  | e => vb (ih d e loc H) fun v H => match (itemsOf v H).isSome with
    | true => k (.vals v) H
    | false => none
noncomputable def slotsOf : C → List Nat
  | .var i => [i]
  | .cons a b => slotsOf a ++ slotsOf b
  | _ => []
noncomputable def slotsFree (t : C) (loc : Loc) : Bool := (slotsOf t).all fun i => match loc[i]? with
  | some none => true
  | _ => false
noncomputable def runStep (ih : RunT) (d : Nat) (c : C) (loc : Loc) (H : AH) : Option Out := match c with
  | .lit v => some (.val v, loc, H)
  | .var i => match loc[i]? with
    | some (some v) => some (.val v, loc, H)
    | _ => none
  | .nil => some (.val (.tup []), loc, H)
  | .cons a r => vb (ih d a loc H) fun v H => vb (ih d r loc H) fun w H => match w with
    | .tup vs => some (.val (.tup (v :: vs)), loc, H)
    | _ => none
  | .tupE l => vb (ih d l loc H) fun v H => match v with
    | .tup vs => some (.val (.tup vs), loc, H)
    | _ => none
  | .listE l => vb (ih d l loc H) fun v H => match v with
    | .tup vs => some (.val (.obj H.length), loc, H ++ [.list vs])
    | _ => none
  | .dictE => some (.val (.obj H.length), loc, H ++ [.dict []])
  | .fld e f => vb (ih d e loc H) fun v H => match v with
    | .obj i => match H[i]? with
      | some (.inst _ dd) => match H[dd]? with
        | some (.attrs fs) => match fs.lookup f with
          | some v => some (.val v, loc, H)
          | none => none
        | _ => none
      | _ => none
    | _ => none
  | .op1 o a => vb (ih d a loc H) fun v H => some (.val (op1F o v), loc, H)
  | .op2 o a b => vb (ih d a loc H) fun x H => vb (ih d b loc H) fun y H => match op2F o x y H with
    | some (v, H) => some (.val v, loc, H)
    | none => none
  | .and a b => vb (ih d a loc H) fun x H => match x with
    | .bool true => vb (ih d b loc H) fun y H => some (.val y, loc, H)
    | .bool false => some (.val (.bool false), loc, H)
    | _ => none
  | .or a b => vb (ih d a loc H) fun x H => match x with
    | .bool true => some (.val (.bool true), loc, H)
    | .bool false => vb (ih d b loc H) fun y H => some (.val y, loc, H)
    | _ => none
  | .not a => vb (ih d a loc H) fun x H => match x with
    | .bool b => some (.val (.bool (!b)), loc, H)
    | _ => none
  | .ite t a b => vb (ih d t loc H) fun x H => match x with
    | .bool true => vb (ih d a loc H) fun y H => some (.val y, loc, H)
    | .bool false => vb (ih d b loc H) fun y H => some (.val y, loc, H)
    | _ => none
  | .callF f l => vb (ih d l loc H) fun a H => match a, d with
    | .tup vs, d' + 1 => callBody P ih d' f vs loc H
    | _, _ => none
  | .callM e m l => vb (ih d e loc H) fun o H => match o with
    | .obj i => match H[i]? with
      | some (.inst C dd) => match pickM H dd (P.mt C m) m with
        | some f => vb (ih d l loc H) fun a H => match a, d with
          | .tup vs, d' + 1 => callBody P ih d' f (.obj i :: vs) loc H
          | _, _ => none
        | none => none
      | _ => none
    | _ => none
  | .new k l => match P.ct k with
    | some (C, f) => vb (ih d l loc H) fun a H => match a, d with
      | .tup vs, d' + 1 => match callBody P ih d' f (.obj (H.length + 1) :: vs) loc (H ++ [.attrs [], .inst C H.length]) with
        | some (.val .none, _, H') => some (.val (.obj (H.length + 1)), loc, H')
        | _ => none
      | _, _ => none
    | none => none
  | .prim p l => vb (ih d l loc H) fun a H => match a with
    | .tup vs => match primF p vs H with
      | some (v, H) => some (.val v, loc, H)
      | none => none
    | _ => none
  | .pm p e l => vb (ih d e loc H) fun o H => match pmOk p o H with
    | true => vb (ih d l loc H) fun a H => match a with
      | .tup vs => match pmF p o vs H with
        | some (v, H) => some (.val v, loc, H)
        | none => none
      | _ => none
    | false => none
  | .comp t s cond elt => if !slotsFree t loc then none else srcF ih d s loc H fun S H => match ih d (.compL t S 0 cond elt []) loc H with
    | some (.val (.tup vs), _, H) => some (.val (.obj H.length), loc, H ++ [.list vs])
    | _ => none
  | .compL t S k cond elt acc => match srcNext S k H with
    | none => none
    | some none => some (.val (.tup acc), loc, H)
    | some (some v) => match asgV t v loc with
      | none => none
      | some loc' => vb (ih d cond loc' H) fun b H => match b with
        | .bool true => if 60000 < acc.length then none else vb (ih d elt loc' H) fun x H => ih d (.compL t S (k + 1) cond elt (acc ++ [x])) loc H
        | .bool false => ih d (.compL t S (k + 1) cond elt acc) loc H
        | _ => none
  | .sRng _ => none
  | .sZip _ => none
  | .skip => some (.next, loc, H)
  | .seq a b => match ih d a loc H with
    | some (.next, loc, H) => ih d b loc H
    | some (.val _, _, _) => none
    | r => r
  | .expr e => vb (ih d e loc H) fun v H => match v with
    | .tup _ => none
    | .obj _ => none
    | _ => some (.next, loc, H)
  | .asg t e => vb (ih d e loc H) fun v H => match asgV t v loc with
    | some loc' => some (.next, loc', H)
    | none => none
  | .asgL t e => vb (ih d e loc H) fun v H => match v with
    | .obj i => match H[i]? with
      | some (.list vs) => match asgV t (.tup vs) loc with
        | some loc' => some (.next, loc', H)
        | none => none
      | _ => none
    | _ => none
  | .setF o f e => vb (ih d e loc H) fun v H => vb (ih d o loc H) fun x H => match x with
    | .obj i => match setField i f v H with
      | some H => some (.next, loc, H)
      | none => none
    | _ => none
  | .setI o k e => vb (ih d e loc H) fun v H => vb (ih d o loc H) fun x H => vb (ih d k loc H) fun y H => match setItemA x y v H with
    | some H => some (.next, loc, H)
    | none => none
  | .ret e => vb (ih d e loc H) fun v H => some (.ret v, loc, H)
  | .iff t a b => vb (ih d t loc H) fun x H => match x with
    | .bool true => ih d a loc H
    | .bool false => ih d b loc H
    | _ => none
  | .whl t b => vb (ih d t loc H) fun x H => match x with
    | .bool true => match ih d b loc H with
      | some (.next, loc, H) => ih d (.whl t b) loc H
      | some (.cont, loc, H) => ih d (.whl t b) loc H
      | some (.ret v, loc, H) => some (.ret v, loc, H)
      | _ => none
    | .bool false => some (.next, loc, H)
    | _ => none
  | .for t s b => srcF ih d s loc H fun S H => ih d (.forL t S 0 b) loc H
  | .forL t S k b => match srcNext S k H with
    | none => none
    | some none => some (.next, loc, H)
    | some (some v) => match asgV t v loc with
      | none => none
      | some loc => match ih d b loc H with
        | some (.next, loc, H) => ih d (.forL t S (k + 1) b) loc H
        | some (.cont, loc, H) => ih d (.forL t S (k + 1) b) loc H
        | some (.ret v, loc, H) => some (.ret v, loc, H)
        | _ => none
  | .cont => some (.cont, loc, H)
  | .gc e => gcF H.length loc (ih d e loc H)
  | .comp2 t1 s1 t2 s2 elt => if !slotsFree (.cons t1 t2) loc then none else srcF ih d s1 loc H fun S H => match ih d (.comp2L t1 S 0 t2 s2 elt []) loc H with
    | some (.val (.tup vs), _, H) => some (.val (.obj H.length), loc, H ++ [.list vs])
    | _ => none
  | .comp2L t1 S k t2 s2 elt acc => match srcNext S k H with
    | none => none
    | some none => some (.val (.tup acc), loc, H)
    | some (some v) => match asgV t1 v loc with
      | none => none
      | some loc' => if !slotsFree t2 loc' then none else srcF ih d s2 loc' H fun S2 H => match ih d (.compL t2 S2 0 (.lit (.bool true)) elt acc) loc' H with
        | some (.val (.tup acc'), _, H) => ih d (.comp2L t1 S (k + 1) t2 s2 elt acc') loc H
        | _ => none
  | .neN n e => vb (ih d e loc H) fun v H => match listOfV v H with
    | some vs => some (.val (.bool (n != vs.isEmpty)), loc, H)
    | none => none
  | .callP f l => vb (ih d l loc H) fun a H => match a, d with
    | .tup vs, d' + 1 => match pureAs 50 vs with
      | true => callPF loc H (callBody P ih d' f vs loc [])
      | false => none
    | _, _ => none
  | .callL f l => vb (ih d l loc H) fun a H => match a, d with
    | .tup [.obj k], d' + 1 => match listOfV (.obj k) H with
      | some vs => match vs.all flatA with
        | true => callLF k loc H (callBody P ih d' f [.obj 0] loc [.list vs])
        | false => none
      | none => none
    | _, _ => none
noncomputable def run : Nat → RunT
  | 0 => fun _ _ _ _ => none
  | n + 1 => runStep P (run n)
end
theorem run_succ (P : Pg) (n d : Nat) (c : C) (loc : Loc) (H : AH) : run P (n + 1) d c loc H = runStep P (run P n) d c loc H := rfl
theorem nS {α : Type} {x : α} {p : Prop} (h : (none : Option α) = some x) : p := nomatch h
theorem run_step {P : Pg} {n d : Nat} {c : C} {loc : Loc} {H : AH} {o : Out} (h : run P n d c loc H = some o) : ∃ m, runStep P (run P m) d c loc H = some o := by
  cases n with
  | zero => cases h
  | succ n => exact ⟨n, h⟩
theorem vb_some {x : Option Out} {k : AV → AH → Option Out} {o : Out} (h : vb x k = some o) : ∃ v l H, x = some (.val v, l, H) ∧ k v H = some o := by
  cases x with
  | none => exact nS h
  | some y =>
    obtain ⟨r, l, H⟩ := y
    cases r with
    | val v => exact ⟨v, l, H, rfl, h⟩
    | _ => exact nS h
theorem sn_some {x : Option (Option AV)} {a : Option Out} {f : AV → Option Out} {o : Out} (h : (match x with
  | none => none
  | some none => a
  | some (some v) => f v) = some o) : (x = some none ∧ a = some o) ∨ ∃ v, x = some (some v) ∧ f v = some o := by
  cases x with
  | none => exact nS h
  | some y => cases y with
    | none => exact .inl ⟨rfl, h⟩
    | some v => exact .inr ⟨v, rfl, h⟩
theorem am_some {x : Option Loc} {f : Loc → Option Out} {o : Out} (h : (match x with
  | none => none
  | some v => f v) = some o) : ∃ v, x = some v ∧ f v = some o := by
  cases x with
  | none => exact nS h
  | some v => exact ⟨v, rfl, h⟩
noncomputable def bodyK (k : Loc → AH → Option Out) : Res × Loc × AH → Option Out
  | (.next, loc, H) => k loc H
  | (.cont, loc, H) => k loc H
  | (.ret v, loc, H) => some (.ret v, loc, H)
  | (.val _, _, _) => none
theorem body_some {x : Option Out} {k : Loc → AH → Option Out} {o : Out} (h : (match x with
        | some (.next, loc, H) => k loc H
        | some (.cont, loc, H) => k loc H
        | some (.ret v, loc, H) => some (.ret v, loc, H)
        | _ => none) = some o) : ∃ y, x = some y ∧ bodyK k y = some o := by
  cases x with
  | none => exact nS h
  | some y =>
    obtain ⟨r, l, H⟩ := y
    refine ⟨_, rfl, ?_⟩
    cases r with
    | val _ => exact nS h
    | _ => exact h
noncomputable def callK (loc : Loc) : Out → Option Out
  | (.ret v, _, H') => some (.val v, loc, H')
  | (.next, _, H') => some (.val .none, loc, H')
  | _ => none
theorem callBody_inv {P : Pg} {ih : RunT} {d f : Nat} {vs : List AV} {loc : Loc} {H : AH} {o : Out} (h : callBody P ih d f vs loc H = some o) : ∃ F l0 z, P.fc f = some F ∧ bindA F vs = some l0 ∧ ih d F.body l0 H = some z ∧ callK loc z = some o := by
  unfold callBody at h
  cases e1 : P.fc f with
  | none => rw [e1] at h; exact nS h
  | some F =>
    rw [e1] at h
    dsimp only at h
    cases e2 : bindA F vs with
    | none => rw [e2] at h; exact nS h
    | some l0 =>
      rw [e2] at h
      dsimp only at h
      cases e3 : ih d F.body l0 H with
      | none => rw [e3] at h; exact nS h
      | some z =>
        rw [e3] at h
        obtain ⟨r, l2, H2⟩ := z
        refine ⟨F, l0, _, rfl, e2, e3, ?_⟩
        cases r <;> exact h
theorem callBody_of {P : Pg} {ih : RunT} {d f : Nat} {vs : List AV} {loc l0 : Loc} {H : AH} {o z : Out} {F : FC} (e1 : P.fc f = some F) (e2 : bindA F vs = some l0) (e3 : ih d F.body l0 H = some z) (h : callK loc z = some o) : callBody P ih d f vs loc H = some o := by
  unfold callBody
  rw [e1]
  dsimp only
  rw [e2]
  dsimp only
  rw [e3]
  obtain ⟨r, l2, H2⟩ := z
  cases r <;> exact h
theorem callK_loc {l l2 l' : Loc} {z : Out} {v : AV} {H' : AH} (h : callK l z = some (.val v, l', H')) : callK l2 z = some (.val v, l2, H') := by
  obtain ⟨r, l3, H3⟩ := z
  cases r with
  | ret w => cases h; rfl
  | next => cases h; rfl
  | _ => exact nS h
end Mine
end

section
open PySem PySem.W PyProof.Rows PySem.Calls
namespace Mine
noncomputable def c_parts_of : C := (.seq (.asg (.var 1) (.op2 .idx (.var 0) (.lit (.int 0))))
    (.seq (.iff (.op2 .eq (.var 1) (.lit (.str (Str.ofString "ref")))) (.seq (.ret (.tupE (.cons (.op2 .idx (.var 0) (.lit (.int 3))) .nil)))
    .skip) .skip)
    (.seq (.iff (.or (.op2 .eq (.var 1) (.lit (.str (Str.ofString "box")))) (.op2 .eq (.var 1) (.lit (.str (Str.ofString "array"))))) (.seq (.ret (.tupE (.cons (.op2 .idx (.var 0) (.lit (.int 1))) .nil)))
    .skip) .skip)
    (.seq (.iff (.op2 .eq (.var 1) (.lit (.str (Str.ofString "tuple")))) (.seq (.ret (.op2 .idx (.var 0) (.lit (.int 1))))
    .skip) .skip)
    (.seq (.ret (.ite (.op2 .eq (.var 1) (.lit (.str (Str.ofString "adt")))) (.op2 .idx (.var 0) (.lit (.int 3))) (.tupE .nil)))
    .skip)))))
noncomputable def f_parts_of : FC := { params := 1, locs := 2, body := c_parts_of, dflt := [] }
noncomputable def c_Infer_init : C := (.seq (.setF (.var 0) (Str.ofString "ended") (.listE .nil))
    (.seq (.setF (.var 0) (Str.ofString "known") (.listE .nil))
    (.seq (.setF (.var 0) (Str.ofString "is_number") (.listE .nil))
    .skip)))
noncomputable def f_Infer_init : FC := { params := 1, locs := 1, body := c_Infer_init, dflt := [] }
noncomputable def c_Infer_fresh : C := (.seq (.expr (.pm .append (.fld (.var 0) (Str.ofString "known")) (.cons (.lit .none) .nil)))
    (.seq (.expr (.pm .append (.fld (.var 0) (Str.ofString "is_number")) (.cons (.lit (.bool false)) .nil)))
    (.seq (.ret (.tupE (.cons (.lit (.str (Str.ofString "var"))) (.cons (.op2 .sub (.prim .len (.cons (.fld (.var 0) (Str.ofString "known")) .nil)) (.lit (.int 1))) .nil))))
    .skip)))
noncomputable def f_Infer_fresh : FC := { params := 1, locs := 1, body := c_Infer_fresh, dflt := [] }
noncomputable def c_Infer_fresh_int : C := (.seq (.expr (.pm .append (.fld (.var 0) (Str.ofString "known")) (.cons (.lit .none) .nil)))
    (.seq (.expr (.pm .append (.fld (.var 0) (Str.ofString "is_number")) (.cons (.lit (.bool true)) .nil)))
    (.seq (.ret (.tupE (.cons (.lit (.str (Str.ofString "intvar"))) (.cons (.op2 .sub (.prim .len (.cons (.fld (.var 0) (Str.ofString "known")) .nil)) (.lit (.int 1))) .nil))))
    .skip)))
noncomputable def f_Infer_fresh_int : FC := { params := 1, locs := 1, body := c_Infer_fresh_int, dflt := [] }
noncomputable def c_Infer_shallow : C := (.seq (.whl (.and (.op2 .isIn (.op2 .idx (.var 1) (.lit (.int 0))) (.tupE (.cons (.lit (.str (Str.ofString "var"))) (.cons (.lit (.str (Str.ofString "intvar"))) .nil)))) (.op1 .notNone (.op2 .idx (.fld (.var 0) (Str.ofString "known")) (.op2 .idx (.var 1) (.lit (.int 1)))))) (.seq (.asg (.var 1) (.op2 .idx (.fld (.var 0) (Str.ofString "known")) (.op2 .idx (.var 1) (.lit (.int 1)))))
    .skip))
    (.seq (.ret (.var 1))
    .skip))
noncomputable def f_Infer_shallow : FC := { params := 2, locs := 2, body := c_Infer_shallow, dflt := [] }
noncomputable def c_Infer_occurs : C := (.seq (.asg (.cons (.var 3) (.cons (.var 4) .nil)) (.tupE (.cons (.listE (.cons (.var 2) .nil)) (.cons (.lit (.int 0)) .nil))))
    (.seq (.whl (.neN true (.var 3)) (.seq (.asg (.var 5) (.callM (.var 0) (Str.ofString "shallow") (.cons (.pm .pop (.var 3) .nil) .nil)))
    (.seq (.iff (.op2 .eq (.var 5) (.var 1)) (.seq (.ret (.lit (.bool true)))
    .skip) .skip)
    (.seq (.asg (.var 4) (.op2 .add (.var 4) (.lit (.int 1))))
    (.seq (.iff (.op2 .gt (.var 4) (.lit (.int 4000))) (.seq (.sRng (.lit .none))
    .skip) .skip)
    (.seq (.expr (.pm .extend (.var 3) (.cons (.callF 0 (.cons (.var 5) .nil)) .nil)))
    .skip))))))
    (.seq (.ret (.lit (.bool false)))
    .skip)))
noncomputable def f_Infer_occurs : FC := { params := 3, locs := 6, body := c_Infer_occurs, dflt := [] }
noncomputable def c_Infer_bind : C := (.seq (.iff (.and (.op2 .eq (.op2 .idx (.var 1) (.lit (.int 0))) (.lit (.str (Str.ofString "intvar")))) (.op2 .notIn (.op2 .idx (.var 2) (.lit (.int 0))) (.tupE (.cons (.lit (.str (Str.ofString "int"))) (.cons (.lit (.str (Str.ofString "intvar"))) .nil))))) (.sRng (.lit .none)) .skip)
    (.seq (.iff (.gc (.callM (.var 0) (Str.ofString "occurs") (.cons (.var 1) (.cons (.var 2) .nil)))) (.sRng (.lit .none)) .skip)
    (.seq (.setI (.fld (.var 0) (Str.ofString "known")) (.op2 .idx (.var 1) (.lit (.int 1))) (.var 2))
    .skip)))
noncomputable def f_Infer_bind : FC := { params := 3, locs := 3, body := c_Infer_bind, dflt := [] }
noncomputable def c_Infer_are_alike : C := (.seq (.iff (.or (.op2 .ne (.op2 .idx (.var 1) (.lit (.int 0))) (.op2 .idx (.var 2) (.lit (.int 0)))) (.op2 .ne (.prim .len (.cons (.callF 0 (.cons (.var 1) .nil)) .nil)) (.prim .len (.cons (.callF 0 (.cons (.var 2) .nil)) .nil)))) (.seq (.ret (.lit (.bool false)))
    .skip) .skip)
    (.seq (.iff (.op2 .isIn (.op2 .idx (.var 1) (.lit (.int 0))) (.tupE (.cons (.lit (.str (Str.ofString "int"))) (.cons (.lit (.str (Str.ofString "param"))) (.cons (.lit (.str (Str.ofString "adt"))) .nil))))) (.seq (.ret (.op2 .eq (.op2 .idx (.var 1) (.lit (.int 1))) (.op2 .idx (.var 2) (.lit (.int 1)))))
    .skip) .skip)
    (.seq (.ret (.ite (.op2 .isIn (.op2 .idx (.var 1) (.lit (.int 0))) (.tupE (.cons (.lit (.str (Str.ofString "ref"))) (.cons (.lit (.str (Str.ofString "array"))) .nil)))) (.op2 .eq (.op2 .idx (.var 1) (.lit (.int 2))) (.op2 .idx (.var 2) (.lit (.int 2)))) (.lit (.bool true))))
    .skip)))
noncomputable def f_Infer_are_alike : FC := { params := 3, locs := 3, body := c_Infer_are_alike, dflt := [] }
noncomputable def c_head_pairs : C := (.seq (.iff (.op2 .ne (.op2 .idx (.var 0) (.lit (.int 0))) (.op2 .idx (.var 1) (.lit (.int 0)))) (.seq (.ret (.lit .none))
    .skip) .skip)
    (.seq (.asg (.var 2) (.op2 .idx (.var 0) (.lit (.int 0))))
    (.seq (.iff (.op2 .isIn (.var 2) (.tupE (.cons (.lit (.str (Str.ofString "int"))) (.cons (.lit (.str (Str.ofString "param"))) (.cons (.lit (.str (Str.ofString "var"))) (.cons (.lit (.str (Str.ofString "intvar"))) .nil)))))) (.seq (.ret (.ite (.op2 .eq (.op2 .idx (.var 0) (.lit (.int 1))) (.op2 .idx (.var 1) (.lit (.int 1)))) (.listE .nil) (.lit .none)))
    .skip) .skip)
    (.seq (.iff (.op2 .eq (.var 2) (.lit (.str (Str.ofString "tuple")))) (.seq (.ret (.ite (.op2 .eq (.prim .len (.cons (.op2 .idx (.var 0) (.lit (.int 1))) .nil)) (.prim .len (.cons (.op2 .idx (.var 1) (.lit (.int 1))) .nil))) (.prim .listZip (.cons (.op2 .idx (.var 0) (.lit (.int 1))) (.cons (.op2 .idx (.var 1) (.lit (.int 1))) .nil))) (.lit .none)))
    .skip) .skip)
    (.seq (.iff (.op2 .eq (.var 2) (.lit (.str (Str.ofString "ref")))) (.seq (.ret (.ite (.op2 .eq (.op2 .idx (.var 0) (.lit (.int 2))) (.op2 .idx (.var 1) (.lit (.int 2)))) (.listE (.cons (.tupE (.cons (.op2 .idx (.var 0) (.lit (.int 3))) (.cons (.op2 .idx (.var 1) (.lit (.int 3))) .nil))) .nil)) (.lit .none)))
    .skip) .skip)
    (.seq (.iff (.op2 .eq (.var 2) (.lit (.str (Str.ofString "box")))) (.seq (.ret (.listE (.cons (.tupE (.cons (.op2 .idx (.var 0) (.lit (.int 1))) (.cons (.op2 .idx (.var 1) (.lit (.int 1))) .nil))) .nil)))
    .skip) .skip)
    (.seq (.iff (.op2 .eq (.var 2) (.lit (.str (Str.ofString "array")))) (.seq (.ret (.ite (.op2 .eq (.op2 .idx (.var 0) (.lit (.int 2))) (.op2 .idx (.var 1) (.lit (.int 2)))) (.listE (.cons (.tupE (.cons (.op2 .idx (.var 0) (.lit (.int 1))) (.cons (.op2 .idx (.var 1) (.lit (.int 1))) .nil))) .nil)) (.lit .none)))
    .skip) .skip)
    (.seq (.iff (.op2 .eq (.var 2) (.lit (.str (Str.ofString "adt")))) (.seq (.asg (.var 3) (.and (.op2 .eq (.op2 .idx (.var 0) (.lit (.int 1))) (.op2 .idx (.var 1) (.lit (.int 1)))) (.op2 .eq (.prim .len (.cons (.op2 .idx (.var 0) (.lit (.int 3))) .nil)) (.prim .len (.cons (.op2 .idx (.var 1) (.lit (.int 3))) .nil)))))
    (.seq (.ret (.ite (.var 3) (.prim .listZip (.cons (.op2 .idx (.var 0) (.lit (.int 3))) (.cons (.op2 .idx (.var 1) (.lit (.int 3))) .nil))) (.lit .none)))
    .skip)) .skip)
    (.seq (.ret (.listE .nil))
    .skip)))))))))
noncomputable def f_head_pairs : FC := { params := 2, locs := 4, body := c_head_pairs, dflt := [] }
noncomputable def c_filled : C := (.seq (.asg (.var 2) (.op2 .idx (.var 0) (.lit (.int 0))))
    (.seq (.iff (.op2 .eq (.var 2) (.lit (.str (Str.ofString "param")))) (.seq (.ret (.pm .get (.var 1) (.cons (.op2 .idx (.var 0) (.lit (.int 1))) (.cons (.var 0) .nil))))
    .skip) .skip)
    (.seq (.iff (.op2 .eq (.var 2) (.lit (.str (Str.ofString "tuple")))) (.seq (.ret (.tupE (.cons (.lit (.str (Str.ofString "tuple"))) (.cons (.prim .tupleOf (.cons (.comp (.var 4) (.op2 .idx (.var 0) (.lit (.int 1))) (.lit (.bool true)) (.callF 9 (.cons (.var 4) (.cons (.var 1) .nil)))) .nil)) .nil))))
    .skip) .skip)
    (.seq (.iff (.op2 .eq (.var 2) (.lit (.str (Str.ofString "ref")))) (.seq (.ret (.tupE (.cons (.lit (.str (Str.ofString "ref"))) (.cons (.op2 .idx (.var 0) (.lit (.int 1))) (.cons (.op2 .idx (.var 0) (.lit (.int 2))) (.cons (.callF 9 (.cons (.op2 .idx (.var 0) (.lit (.int 3))) (.cons (.var 1) .nil))) .nil))))))
    .skip) .skip)
    (.seq (.iff (.op2 .eq (.var 2) (.lit (.str (Str.ofString "box")))) (.seq (.ret (.tupE (.cons (.lit (.str (Str.ofString "box"))) (.cons (.callF 9 (.cons (.op2 .idx (.var 0) (.lit (.int 1))) (.cons (.var 1) .nil))) .nil))))
    .skip) .skip)
    (.seq (.iff (.op2 .eq (.var 2) (.lit (.str (Str.ofString "array")))) (.seq (.ret (.tupE (.cons (.lit (.str (Str.ofString "array"))) (.cons (.callF 9 (.cons (.op2 .idx (.var 0) (.lit (.int 1))) (.cons (.var 1) .nil))) (.cons (.op2 .idx (.var 0) (.lit (.int 2))) .nil)))))
    .skip) .skip)
    (.seq (.iff (.op2 .eq (.var 2) (.lit (.str (Str.ofString "adt")))) (.seq (.ret (.tupE (.cons (.lit (.str (Str.ofString "adt"))) (.cons (.op2 .idx (.var 0) (.lit (.int 1))) (.cons (.op2 .idx (.var 0) (.lit (.int 2))) (.cons (.prim .tupleOf (.cons (.comp (.var 3) (.op2 .idx (.var 0) (.lit (.int 3))) (.lit (.bool true)) (.callF 9 (.cons (.var 3) (.cons (.var 1) .nil)))) .nil)) .nil))))))
    .skip) .skip)
    (.seq (.ret (.var 0))
    .skip))))))))
noncomputable def f_filled : FC := { params := 2, locs := 5, body := c_filled, dflt := [] }
noncomputable def c_Both_init : C := (.seq (.setF (.var 0) (Str.ofString "found") .dictE)
    .skip)
noncomputable def f_Both_init : FC := { params := 1, locs := 1, body := c_Both_init, dflt := [] }
noncomputable def c_Both_seen : C := (.seq (.whl (.and (.op2 .eq (.op2 .idx (.var 1) (.lit (.int 0))) (.lit (.str (Str.ofString "param")))) (.op2 .isIn (.op2 .idx (.var 1) (.lit (.int 1))) (.fld (.var 0) (Str.ofString "found")))) (.seq (.asg (.var 1) (.op2 .idx (.fld (.var 0) (Str.ofString "found")) (.op2 .idx (.var 1) (.lit (.int 1)))))
    .skip))
    (.seq (.ret (.var 1))
    .skip))
noncomputable def f_Both_seen : FC := { params := 2, locs := 2, body := c_Both_seen, dflt := [] }
noncomputable def c_Both_holds_name : C := (.seq (.asg (.cons (.var 3) (.cons (.var 4) .nil)) (.tupE (.cons (.listE (.cons (.var 1) .nil)) (.cons .dictE .nil))))
    (.seq (.whl (.neN true (.var 3)) (.seq (.asg (.var 5) (.pm .pop (.var 3) .nil))
    (.seq (.iff (.op2 .eq (.var 5) (.tupE (.cons (.lit (.str (Str.ofString "param"))) (.cons (.var 2) .nil)))) (.seq (.ret (.lit (.bool true)))
    .skip) .skip)
    (.seq (.iff (.op2 .ne (.op2 .idx (.var 5) (.lit (.int 0))) (.lit (.str (Str.ofString "param")))) (.seq (.expr (.pm .extend (.var 3) (.cons (.comp (.cons (.var 6) (.cons (.var 7) .nil)) (.callF 8 (.cons (.var 5) (.cons (.var 5) .nil))) (.lit (.bool true)) (.var 6)) .nil)))
    .skip) (.seq (.iff (.and (.op2 .isIn (.op2 .idx (.var 5) (.lit (.int 1))) (.fld (.var 0) (Str.ofString "found"))) (.op2 .notIn (.op2 .idx (.var 5) (.lit (.int 1))) (.var 4))) (.seq (.setI (.var 4) (.op2 .idx (.var 5) (.lit (.int 1))) (.lit (.bool true)))
    (.seq (.expr (.pm .append (.var 3) (.cons (.op2 .idx (.fld (.var 0) (Str.ofString "found")) (.op2 .idx (.var 5) (.lit (.int 1)))) .nil)))
    .skip)) .skip)
    .skip))
    .skip))))
    (.seq (.ret (.lit (.bool false)))
    .skip)))
noncomputable def f_Both_holds_name : FC := { params := 3, locs := 8, body := c_Both_holds_name, dflt := [] }
noncomputable def c_Both_bind : C := (.seq (.iff (.op2 .eq (.var 2) (.tupE (.cons (.lit (.str (Str.ofString "param"))) (.cons (.var 1) .nil)))) (.seq (.ret (.lit (.bool true)))
    .skip) .skip)
    (.seq (.iff (.callM (.var 0) (Str.ofString "holds_name") (.cons (.var 2) (.cons (.var 1) .nil))) (.seq (.ret (.lit (.bool false)))
    .skip) .skip)
    (.seq (.setI (.fld (.var 0) (Str.ofString "found")) (.var 1) (.var 2))
    (.seq (.ret (.lit (.bool true)))
    .skip))))
noncomputable def f_Both_bind : FC := { params := 3, locs := 3, body := c_Both_bind, dflt := [] }
noncomputable def c_Both_unify : C := (.seq (.asg (.cons (.var 3) (.cons (.var 4) .nil)) (.tupE (.cons (.listE (.cons (.tupE (.cons (.var 1) (.cons (.var 2) .nil))) .nil)) (.cons .dictE .nil))))
    (.seq (.whl (.neN true (.var 3)) (.seq (.asg (.cons (.var 5) (.cons (.var 6) .nil)) (.pm .pop (.var 3) .nil))
    (.seq (.asg (.cons (.var 5) (.cons (.var 6) .nil)) (.tupE (.cons (.callM (.var 0) (Str.ofString "seen") (.cons (.var 5) .nil)) (.cons (.callM (.var 0) (Str.ofString "seen") (.cons (.var 6) .nil)) .nil))))
    (.seq (.iff (.op2 .isIn (.tupE (.cons (.var 5) (.cons (.var 6) .nil))) (.var 4)) (.seq .cont
    .skip) .skip)
    (.seq (.setI (.var 4) (.tupE (.cons (.var 5) (.cons (.var 6) .nil))) (.lit (.bool true)))
    (.seq (.iff (.op2 .eq (.op2 .idx (.var 5) (.lit (.int 0))) (.lit (.str (Str.ofString "param")))) (.seq (.iff (.not (.callM (.var 0) (Str.ofString "bind") (.cons (.op2 .idx (.var 5) (.lit (.int 1))) (.cons (.var 6) .nil)))) (.seq (.ret (.lit (.bool false)))
    .skip) .skip)
    .skip) (.seq (.iff (.op2 .eq (.op2 .idx (.var 6) (.lit (.int 0))) (.lit (.str (Str.ofString "param")))) (.seq (.iff (.not (.callM (.var 0) (Str.ofString "bind") (.cons (.op2 .idx (.var 6) (.lit (.int 1))) (.cons (.var 5) .nil)))) (.seq (.ret (.lit (.bool false)))
    .skip) .skip)
    .skip) (.seq (.asg (.var 7) (.callF 8 (.cons (.var 5) (.cons (.var 6) .nil))))
    (.seq (.iff (.op1 .isNone (.var 7)) (.seq (.ret (.lit (.bool false)))
    .skip) .skip)
    (.seq (.expr (.pm .extend (.var 3) (.cons (.var 7) .nil)))
    .skip))))
    .skip))
    .skip))))))
    (.seq (.ret (.lit (.bool true)))
    .skip)))
noncomputable def f_Both_unify : FC := { params := 3, locs := 8, body := c_Both_unify, dflt := [] }
noncomputable def c_Both_all_unified : C := (.seq (.iff (.op2 .ne (.prim .len (.cons (.var 1) .nil)) (.prim .len (.cons (.var 2) .nil))) (.seq (.ret (.lit (.bool false)))
    .skip) .skip)
    (.seq (.for (.cons (.var 3) (.cons (.var 4) .nil)) (.sZip (.cons (.var 1) (.cons (.var 2) .nil))) (.seq (.iff (.not (.callM (.var 0) (Str.ofString "unify") (.cons (.var 3) (.cons (.var 4) .nil)))) (.seq (.ret (.lit (.bool false)))
    .skip) .skip)
    .skip))
    (.seq (.ret (.lit (.bool true)))
    .skip)))
noncomputable def f_Both_all_unified : FC := { params := 3, locs := 5, body := c_Both_all_unified, dflt := [] }
noncomputable def c_own_names : C := (.seq (.asg (.var 2) .dictE)
    (.seq (.for (.cons (.var 3) (.cons (.var 4) .nil)) (.fld (.var 0) (Str.ofString "params")) (.seq (.setI (.var 2) (.var 3) (.tupE (.cons (.lit (.str (Str.ofString "param"))) (.cons (.op2 .add (.var 1) (.var 3)) .nil))))
    .skip))
    (.seq (.ret (.comp (.var 5) (.op2 .add (.prim .tupleOf (.cons (.fld (.var 0) (Str.ofString "trait_args")) .nil)) (.tupE (.cons (.fld (.var 0) (Str.ofString "self_type")) .nil))) (.lit (.bool true)) (.callF 9 (.cons (.var 5) (.cons (.var 2) .nil)))))
    .skip)))
noncomputable def f_own_names : FC := { params := 2, locs := 6, body := c_own_names, dflt := [] }
noncomputable def c_heads_meet : C := (.seq (.ret (.callM (.new 1 .nil) (Str.ofString "all_unified") (.cons (.callF 16 (.cons (.var 0) (.cons (.lit (.str (Str.ofString "1 "))) .nil))) (.cons (.callF 16 (.cons (.var 1) (.cons (.lit (.str (Str.ofString "2 "))) .nil))) .nil))))
    .skip)
noncomputable def f_heads_meet : FC := { params := 2, locs := 2, body := c_heads_meet, dflt := [] }
noncomputable def c_inherent_clashes : C := (.seq (.iff (.or (.op1 .notNone (.fld (.var 0) (Str.ofString "trait"))) (.or (.op1 .notNone (.fld (.var 1) (Str.ofString "trait"))) (.not (.gc (.callF 17 (.cons (.var 0) (.cons (.var 1) .nil))))))) (.seq (.ret (.listE .nil))
    .skip) .skip)
    (.seq (.ret (.comp (.var 2) (.prim .sortedD (.cons (.fld (.var 0) (Str.ofString "methods")) .nil)) (.op2 .isIn (.var 2) (.fld (.var 1) (Str.ofString "methods"))) (.var 2)))
    .skip))
noncomputable def f_inherent_clashes : FC := { params := 2, locs := 3, body := c_inherent_clashes, dflt := [] }
noncomputable def c_ImplRow_init : C := (.seq (.setF (.var 0) (Str.ofString "number") (.var 1))
    (.seq (.setF (.var 0) (Str.ofString "regions") (.var 2))
    (.seq (.setF (.var 0) (Str.ofString "params") (.var 3))
    (.seq (.setF (.var 0) (Str.ofString "trait") (.var 4))
    (.seq (.setF (.var 0) (Str.ofString "trait_args") (.var 5))
    (.seq (.setF (.var 0) (Str.ofString "self_type") (.var 6))
    (.seq (.setF (.var 0) (Str.ofString "methods") (.var 7))
    (.seq (.setF (.var 0) (Str.ofString "spot") (.var 8))
    .skip))))))))
noncomputable def f_ImplRow_init : FC := { params := 9, locs := 9, body := c_ImplRow_init, dflt := [.int 0] }
noncomputable def c_law_pool : C := (.seq (.asg (.var 1) (.ite (.op2 .gt (.prim .len (.cons (.var 0) .nil)) (.lit (.int 0))) (.op2 .idx (.var 0) (.lit (.int 0))) (.lit (.int 0))))
    (.seq (.asg (.var 2) (.prim .max (.cons (.prim .int (.cons (.var 1) .nil)) (.cons (.prim .int (.cons (.op2 .sub (.lit (.int (-1))) (.var 1)) .nil)) .nil))))
    (.seq (.ret (.listE (.cons (.op2 .mul (.var 2) (.prim .int (.cons (.op2 .ge (.var 2) (.lit (.int (1000000000000000000)))) .nil))) (.cons (.op2 .mod (.prim .int (.cons (.op2 .mul (.op2 .add (.op2 .mod (.var 2) (.lit (.int 2147483629))) (.lit (.int 17))) (.lit (.int 48271))) .nil)) (.lit (.int 2147483647))) .nil))))
    .skip)))
noncomputable def f_law_pool : FC := { params := 1, locs := 3, body := c_law_pool, dflt := [] }
noncomputable def c_law_take : C := (.seq (.iff (.op2 .gt (.op2 .idx (.var 0) (.lit (.int 0))) (.lit (.int 0))) (.seq (.asg (.var 2) (.op2 .mod (.prim .int (.cons (.op2 .idx (.var 0) (.lit (.int 0))) .nil)) (.var 1)))
    (.seq (.setI (.var 0) (.lit (.int 0)) (.op2 .fdiv (.op2 .idx (.var 0) (.lit (.int 0))) (.var 1)))
    (.seq (.ret (.var 2))
    .skip))) .skip)
    (.seq (.setI (.var 0) (.lit (.int 1)) (.op2 .mod (.prim .int (.cons (.op2 .add (.op2 .mul (.op2 .idx (.var 0) (.lit (.int 1))) (.lit (.int 39373))) (.lit (.int 7))) .nil)) (.lit (.int 2147483647))))
    (.seq (.ret (.op2 .mod (.op2 .fdiv (.op2 .mod (.prim .int (.cons (.op2 .mul (.op2 .idx (.var 0) (.lit (.int 1))) (.op2 .idx (.var 0) (.lit (.int 1)))) .nil)) (.lit (.int 2147483629))) (.lit (.int 32))) (.var 1)))
    .skip)))
noncomputable def f_law_take : FC := { params := 2, locs := 3, body := c_law_take, dflt := [] }
noncomputable def c_law_one : C := (.seq (.ret (.op2 .idx (.var 1) (.callF 21 (.cons (.var 0) (.cons (.prim .len (.cons (.var 1) .nil)) .nil)))))
    .skip)
noncomputable def f_law_one : FC := { params := 2, locs := 2, body := c_law_one, dflt := [] }
noncomputable def c_law_heads : C := (.seq (.asg (.cons (.var 0) (.cons (.var 1) .nil)) (.tupE (.cons (.tupE (.cons (.lit (.str (Str.ofString "int"))) (.cons (.lit (.str (Str.ofString "u8"))) .nil))) (.cons (.tupE (.cons (.lit (.str (Str.ofString "bool"))) .nil)) .nil))))
    (.seq (.ret (.listE (.cons (.tupE (.cons (.lit (.str (Str.ofString "u8"))) (.cons (.var 0) .nil))) (.cons (.tupE (.cons (.lit (.str (Str.ofString "i8"))) (.cons (.tupE (.cons (.lit (.str (Str.ofString "int"))) (.cons (.lit (.str (Str.ofString "i8"))) .nil))) .nil))) (.cons (.tupE (.cons (.lit (.str (Str.ofString "bool"))) (.cons (.var 1) .nil))) (.cons (.tupE (.cons (.lit (.str (Str.ofString "never"))) (.cons (.tupE (.cons (.lit (.str (Str.ofString "never"))) .nil)) .nil))) (.cons (.tupE (.cons (.lit (.str (Str.ofString "T"))) (.cons (.tupE (.cons (.lit (.str (Str.ofString "param"))) (.cons (.lit (.str (Str.ofString "T"))) .nil))) .nil))) (.cons (.tupE (.cons (.lit (.str (Str.ofString "U"))) (.cons (.tupE (.cons (.lit (.str (Str.ofString "param"))) (.cons (.lit (.str (Str.ofString "U"))) .nil))) .nil))) (.cons (.tupE (.cons (.lit (.str (Str.ofString "0"))) (.cons (.tupE (.cons (.lit (.str (Str.ofString "tuple"))) (.cons (.tupE .nil) .nil))) .nil))) (.cons (.tupE (.cons (.lit (.str (Str.ofString "1"))) (.cons (.tupE (.cons (.lit (.str (Str.ofString "tuple"))) (.cons (.tupE (.cons (.var 0) .nil)) .nil))) .nil))) (.cons (.tupE (.cons (.lit (.str (Str.ofString "2"))) (.cons (.tupE (.cons (.lit (.str (Str.ofString "tuple"))) (.cons (.tupE (.cons (.var 0) (.cons (.var 1) .nil))) .nil))) .nil))) (.cons (.tupE (.cons (.lit (.str (Str.ofString "2"))) (.cons (.tupE (.cons (.lit (.str (Str.ofString "tuple"))) (.cons (.tupE (.cons (.var 1) (.cons (.var 1) .nil))) .nil))) .nil))) (.cons (.tupE (.cons (.lit (.str (Str.ofString "&"))) (.cons (.tupE (.cons (.lit (.str (Str.ofString "ref"))) (.cons (.lit .none) (.cons (.lit (.bool false)) (.cons (.var 0) .nil))))) .nil))) (.cons (.tupE (.cons (.lit (.str (Str.ofString "&"))) (.cons (.tupE (.cons (.lit (.str (Str.ofString "ref"))) (.cons (.lit (.str (Str.ofString "'a"))) (.cons (.lit (.bool false)) (.cons (.var 1) .nil))))) .nil))) (.cons (.tupE (.cons (.lit (.str (Str.ofString "&mut"))) (.cons (.tupE (.cons (.lit (.str (Str.ofString "ref"))) (.cons (.lit .none) (.cons (.lit (.bool true)) (.cons (.var 0) .nil))))) .nil))) (.cons (.tupE (.cons (.lit (.str (Str.ofString "box"))) (.cons (.tupE (.cons (.lit (.str (Str.ofString "box"))) (.cons (.var 0) .nil))) .nil))) (.cons (.tupE (.cons (.lit (.str (Str.ofString "box"))) (.cons (.tupE (.cons (.lit (.str (Str.ofString "box"))) (.cons (.var 1) .nil))) .nil))) (.cons (.tupE (.cons (.lit (.str (Str.ofString "3"))) (.cons (.tupE (.cons (.lit (.str (Str.ofString "array"))) (.cons (.var 0) (.cons (.lit (.int 3)) .nil)))) .nil))) (.cons (.tupE (.cons (.lit (.str (Str.ofString "4"))) (.cons (.tupE (.cons (.lit (.str (Str.ofString "array"))) (.cons (.var 0) (.cons (.lit (.int 4)) .nil)))) .nil))) (.cons (.tupE (.cons (.lit (.str (Str.ofString "S"))) (.cons (.tupE (.cons (.lit (.str (Str.ofString "adt"))) (.cons (.lit (.str (Str.ofString "S"))) (.cons (.tupE .nil) (.cons (.tupE (.cons (.var 0) .nil)) .nil))))) .nil))) (.cons (.tupE (.cons (.lit (.str (Str.ofString "SS"))) (.cons (.tupE (.cons (.lit (.str (Str.ofString "adt"))) (.cons (.lit (.str (Str.ofString "S"))) (.cons (.tupE .nil) (.cons (.tupE (.cons (.var 0) (.cons (.var 1) .nil))) .nil))))) .nil))) (.cons (.tupE (.cons (.lit (.str (Str.ofString "P"))) (.cons (.tupE (.cons (.lit (.str (Str.ofString "adt"))) (.cons (.lit (.str (Str.ofString "P"))) (.cons (.tupE .nil) (.cons (.tupE (.cons (.var 1) .nil)) .nil))))) .nil))) .nil))))))))))))))))))))))
    .skip))
noncomputable def f_law_heads : FC := { params := 0, locs := 2, body := c_law_heads, dflt := [] }
noncomputable def c_law_alike_told : C := (.seq (.asg (.var 1) (.callF 23 .nil))
    (.seq (.asg (.var 2) (.listE (.cons (.tupE (.cons (.lit (.int 0)) (.cons (.lit (.int 0)) .nil))) (.cons (.tupE (.cons (.lit (.int 0)) (.cons (.lit (.int 1)) .nil))) (.cons (.tupE (.cons (.lit (.int 2)) (.cons (.lit (.int 2)) .nil))) (.cons (.tupE (.cons (.lit (.int 2)) (.cons (.lit (.int 3)) .nil))) (.cons (.tupE (.cons (.lit (.int 4)) (.cons (.lit (.int 4)) .nil))) (.cons (.tupE (.cons (.lit (.int 4)) (.cons (.lit (.int 5)) .nil))) (.cons (.tupE (.cons (.lit (.int 6)) (.cons (.lit (.int 7)) .nil))) (.cons (.tupE (.cons (.lit (.int 8)) (.cons (.lit (.int 9)) .nil))) (.cons (.tupE (.cons (.lit (.int 10)) (.cons (.lit (.int 11)) .nil))) (.cons (.tupE (.cons (.lit (.int 13)) (.cons (.lit (.int 14)) .nil))) (.cons (.tupE (.cons (.lit (.int 15)) (.cons (.lit (.int 16)) .nil))) (.cons (.tupE (.cons (.lit (.int 15)) (.cons (.lit (.int 15)) .nil))) .nil))))))))))))))
    (.seq (.asg (.var 2) (.op2 .add (.var 2) (.listE (.cons (.tupE (.cons (.lit (.int 17)) (.cons (.lit (.int 17)) .nil))) (.cons (.tupE (.cons (.lit (.int 17)) (.cons (.lit (.int 18)) .nil))) (.cons (.tupE (.cons (.lit (.int 17)) (.cons (.lit (.int 19)) .nil))) (.cons (.tupE (.cons (.lit (.int 13)) (.cons (.lit (.int 15)) .nil))) (.cons (.tupE (.cons (.lit (.int 10)) (.cons (.lit (.int 13)) .nil))) .nil))))))))
    (.seq (.for (.cons (.var 3) (.cons (.var 4) .nil)) (.var 2) (.seq (.iff (.op2 .ne (.callM (.var 0) (Str.ofString "are_alike") (.cons (.op2 .idx (.op2 .idx (.var 1) (.var 3)) (.lit (.int 1))) (.cons (.op2 .idx (.op2 .idx (.var 1) (.var 4)) (.lit (.int 1))) .nil))) (.op2 .eq (.op2 .idx (.op2 .idx (.var 1) (.var 3)) (.lit (.int 0))) (.op2 .idx (.op2 .idx (.var 1) (.var 4)) (.lit (.int 0))))) (.seq (.ret (.lit (.bool false)))
    .skip) .skip)
    .skip))
    (.seq (.ret (.lit (.bool true)))
    .skip)))))
noncomputable def f_law_alike_told : FC := { params := 1, locs := 5, body := c_law_alike_told, dflt := [] }
noncomputable def c_law_parts : C := (.seq (.iff (.op2 .eq (.op2 .idx (.var 0) (.lit (.int 0))) (.lit (.str (Str.ofString "ref")))) (.seq (.ret (.tupE (.cons (.op2 .idx (.var 0) (.lit (.int 3))) .nil)))
    .skip) .skip)
    (.seq (.iff (.op2 .isIn (.op2 .idx (.var 0) (.lit (.int 0))) (.tupE (.cons (.lit (.str (Str.ofString "box"))) (.cons (.lit (.str (Str.ofString "array"))) .nil)))) (.seq (.ret (.tupE (.cons (.op2 .idx (.var 0) (.lit (.int 1))) .nil)))
    .skip) .skip)
    (.seq (.ret (.ite (.op2 .eq (.op2 .idx (.var 0) (.lit (.int 0))) (.lit (.str (Str.ofString "tuple")))) (.op2 .idx (.var 0) (.lit (.int 1))) (.ite (.op2 .eq (.op2 .idx (.var 0) (.lit (.int 0))) (.lit (.str (Str.ofString "adt")))) (.op2 .idx (.var 0) (.lit (.int 3))) (.tupE .nil))))
    .skip)))
noncomputable def f_law_parts : FC := { params := 1, locs := 1, body := c_law_parts, dflt := [] }
noncomputable def c_law_is_within : C := (.seq (.asg (.var 3) (.listE (.cons (.var 2) .nil)))
    (.seq (.whl (.neN true (.var 3)) (.seq (.asg (.var 4) (.pm .pop (.var 3) .nil))
    (.seq (.iff (.and (.op2 .eq (.op2 .idx (.var 4) (.lit (.int 0))) (.lit (.str (Str.ofString "var")))) (.op2 .isIn (.op2 .idx (.var 4) (.lit (.int 1))) (.var 0))) (.seq (.expr (.pm .append (.var 3) (.cons (.op2 .idx (.var 0) (.op2 .idx (.var 4) (.lit (.int 1)))) .nil)))
    .skip) (.seq (.iff (.op2 .eq (.var 4) (.tupE (.cons (.lit (.str (Str.ofString "var"))) (.cons (.var 1) .nil)))) (.seq (.ret (.lit (.bool true)))
    .skip) (.seq (.expr (.pm .extend (.var 3) (.cons (.callF 25 (.cons (.var 4) .nil)) .nil)))
    .skip))
    .skip))
    .skip)))
    (.seq (.ret (.lit (.bool false)))
    .skip)))
noncomputable def f_law_is_within : FC := { params := 3, locs := 5, body := c_law_is_within, dflt := [] }
noncomputable def c_law_unknowns_right : C := (.seq (.asg (.cons (.var 1) (.cons (.var 2) .nil)) (.tupE (.cons (.new 0 .nil) (.cons .dictE .nil))))
    (.seq (.asg (.var 3) (.op2 .add (.lit (.int 2)) (.callF 21 (.cons (.var 0) (.cons (.lit (.int 5)) .nil)))))
    (.seq (.asg (.var 4) (.comp (.var 12) (.sRng (.cons (.var 3) .nil)) (.lit (.bool true)) (.callM (.var 1) (Str.ofString "fresh") .nil)))
    (.seq (.for (.var 5) (.sRng (.cons (.op2 .sub (.var 3) (.lit (.int 1))) .nil)) (.seq (.asg (.var 6) (.op2 .idx (.var 4) (.op2 .add (.op2 .add (.var 5) (.lit (.int 1))) (.callF 21 (.cons (.var 0) (.cons (.op2 .sub (.op2 .sub (.var 3) (.lit (.int 1))) (.var 5)) .nil))))))
    (.seq (.asg (.var 7) (.gc (.callF 22 (.cons (.var 0) (.cons (.listE (.cons (.lit .none) (.cons (.var 6) (.cons (.var 6) (.cons (.tupE (.cons (.lit (.str (Str.ofString "box"))) (.cons (.var 6) .nil))) (.cons (.tupE (.cons (.lit (.str (Str.ofString "tuple"))) (.cons (.tupE (.cons (.tupE (.cons (.lit (.str (Str.ofString "bool"))) .nil)) (.cons (.var 6) .nil))) .nil))) (.cons (.tupE (.cons (.lit (.str (Str.ofString "int"))) (.cons (.lit (.str (Str.ofString "u8"))) .nil))) (.cons (.tupE (.cons (.lit (.str (Str.ofString "ref"))) (.cons (.lit (.str (Str.ofString "'a"))) (.cons (.lit (.bool true)) (.cons (.var 6) .nil))))) (.cons (.tupE (.cons (.lit (.str (Str.ofString "adt"))) (.cons (.lit (.str (Str.ofString "S"))) (.cons (.tupE .nil) (.cons (.tupE (.cons (.var 6) (.cons (.tupE (.cons (.lit (.str (Str.ofString "bool"))) .nil)) .nil))) .nil))))) .nil))))))))) .nil)))))
    (.seq (.iff (.op1 .notNone (.var 7)) (.seq (.expr (.gc (.callM (.var 1) (Str.ofString "bind") (.cons (.op2 .idx (.var 4) (.var 5)) (.cons (.var 7) .nil)))))
    (.seq (.setI (.var 2) (.var 5) (.var 7))
    .skip)) .skip)
    .skip))))
    (.seq (.for (.var 5) (.sRng (.cons (.var 3) .nil)) (.seq (.asg (.var 8) (.tupE (.cons (.lit (.str (Str.ofString "var"))) (.cons (.var 5) .nil))))
    (.seq (.whl (.and (.op2 .eq (.op2 .idx (.var 8) (.lit (.int 0))) (.lit (.str (Str.ofString "var")))) (.op2 .isIn (.op2 .idx (.var 8) (.lit (.int 1))) (.var 2))) (.seq (.asg (.var 8) (.op2 .idx (.var 2) (.op2 .idx (.var 8) (.lit (.int 1)))))
    .skip))
    (.seq (.iff (.op2 .ne (.callM (.var 1) (Str.ofString "shallow") (.cons (.op2 .idx (.var 4) (.var 5)) .nil)) (.var 8)) (.seq (.ret (.lit (.bool false)))
    .skip) .skip)
    .skip))))
    (.seq (.asg (.var 9) (.comp (.var 11) (.sRng (.cons (.var 3) .nil)) (.op2 .notIn (.var 11) (.var 2)) (.var 11)))
    (.seq (.asg (.var 10) (.tupE (.cons (.lit (.str (Str.ofString "tuple"))) (.cons (.tupE (.cons (.callF 22 (.cons (.var 0) (.cons (.var 4) .nil))) (.cons (.tupE (.cons (.lit (.str (Str.ofString "box"))) (.cons (.callF 22 (.cons (.var 0) (.cons (.var 4) .nil))) .nil))) (.cons (.tupE (.cons (.lit (.str (Str.ofString "bool"))) .nil)) .nil)))) .nil))))
    (.seq (.for (.var 5) (.var 9) (.seq (.iff (.or (.op2 .ne (.gc (.callM (.var 1) (Str.ofString "occurs") (.cons (.tupE (.cons (.lit (.str (Str.ofString "var"))) (.cons (.var 5) .nil))) (.cons (.var 10) .nil)))) (.gc (.callF 26 (.cons (.var 2) (.cons (.var 5) (.cons (.var 10) .nil)))))) (.not (.gc (.callM (.var 1) (Str.ofString "occurs") (.cons (.tupE (.cons (.lit (.str (Str.ofString "var"))) (.cons (.var 5) .nil))) (.cons (.op2 .idx (.var 4) (.var 5)) .nil)))))) (.seq (.ret (.lit (.bool false)))
    .skip) .skip)
    .skip))
    (.seq (.ret (.lit (.bool true)))
    .skip)))))))))
noncomputable def f_law_unknowns_right : FC := { params := 1, locs := 13, body := c_law_unknowns_right, dflt := [] }
noncomputable def c_law_unknowns_told : C := (.seq (.asg (.var 0) (.new 0 .nil))
    (.seq (.asg (.cons (.var 1) (.cons (.var 2) (.cons (.var 3) (.cons (.var 4) .nil)))) (.tupE (.cons (.callM (.var 0) (Str.ofString "fresh") .nil) (.cons (.callM (.var 0) (Str.ofString "fresh") .nil) (.cons (.callM (.var 0) (Str.ofString "fresh") .nil) (.cons (.callM (.var 0) (Str.ofString "fresh_int") .nil) .nil))))))
    (.seq (.expr (.gc (.callM (.var 0) (Str.ofString "bind") (.cons (.var 1) (.cons (.var 2) .nil)))))
    (.seq (.expr (.gc (.callM (.var 0) (Str.ofString "bind") (.cons (.var 2) (.cons (.tupE (.cons (.lit (.str (Str.ofString "box"))) (.cons (.var 3) .nil))) .nil)))))
    (.seq (.iff (.op2 .ne (.comp (.var 5) (.listE (.cons (.var 1) (.cons (.var 2) (.cons (.var 3) .nil)))) (.lit (.bool true)) (.callM (.var 0) (Str.ofString "shallow") (.cons (.var 5) .nil))) (.listE (.cons (.tupE (.cons (.lit (.str (Str.ofString "box"))) (.cons (.var 3) .nil))) (.cons (.tupE (.cons (.lit (.str (Str.ofString "box"))) (.cons (.var 3) .nil))) (.cons (.var 3) .nil))))) (.seq (.ret (.lit (.bool false)))
    .skip) .skip)
    (.seq (.iff (.or (.op2 .ne (.callM (.var 0) (Str.ofString "shallow") (.cons (.var 4) .nil)) (.var 4)) (.op2 .ne (.callM (.var 0) (Str.ofString "shallow") (.cons (.tupE (.cons (.lit (.str (Str.ofString "tuple"))) (.cons (.tupE (.cons (.var 1) .nil)) .nil))) .nil)) (.tupE (.cons (.lit (.str (Str.ofString "tuple"))) (.cons (.tupE (.cons (.var 1) .nil)) .nil))))) (.seq (.ret (.lit (.bool false)))
    .skip) .skip)
    (.seq (.expr (.gc (.callM (.var 0) (Str.ofString "bind") (.cons (.var 4) (.cons (.tupE (.cons (.lit (.str (Str.ofString "int"))) (.cons (.lit (.str (Str.ofString "i8"))) .nil))) .nil)))))
    (.seq (.iff (.or (.op2 .ne (.callM (.var 0) (Str.ofString "shallow") (.cons (.var 4) .nil)) (.tupE (.cons (.lit (.str (Str.ofString "int"))) (.cons (.lit (.str (Str.ofString "i8"))) .nil)))) (.or (.not (.gc (.callM (.var 0) (Str.ofString "occurs") (.cons (.var 3) (.cons (.var 1) .nil))))) (.gc (.callM (.var 0) (Str.ofString "occurs") (.cons (.var 3) (.cons (.var 4) .nil)))))) (.seq (.ret (.lit (.bool false)))
    .skip) .skip)
    (.seq (.ret (.and (.gc (.callM (.var 0) (Str.ofString "occurs") (.cons (.var 3) (.cons (.tupE (.cons (.lit (.str (Str.ofString "ref"))) (.cons (.lit .none) (.cons (.lit (.bool false)) (.cons (.tupE (.cons (.lit (.str (Str.ofString "tuple"))) (.cons (.tupE (.cons (.tupE (.cons (.lit (.str (Str.ofString "bool"))) .nil)) (.cons (.var 1) .nil))) .nil))) .nil))))) .nil)))) (.not (.gc (.callM (.var 0) (Str.ofString "occurs") (.cons (.var 3) (.cons (.tupE (.cons (.lit (.str (Str.ofString "bool"))) .nil)) .nil)))))))
    .skip)))))))))
noncomputable def f_law_unknowns_told : FC := { params := 0, locs := 6, body := c_law_unknowns_told, dflt := [] }
noncomputable def c_law_closed : C := (.seq (.asg (.var 0) (.listE (.cons (.tupE (.cons (.lit (.str (Str.ofString "int"))) (.cons (.lit (.str (Str.ofString "u8"))) .nil))) (.cons (.tupE (.cons (.lit (.str (Str.ofString "bool"))) .nil)) .nil))))
    (.seq (.asg (.var 1) (.comp2 (.var 4) (.var 0) (.var 5) (.var 0) (.tupE (.cons (.lit (.str (Str.ofString "tuple"))) (.cons (.tupE (.cons (.var 4) (.cons (.var 5) .nil))) .nil)))))
    (.seq (.ret (.op2 .add (.op2 .add (.op2 .add (.var 0) (.comp (.var 2) (.var 0) (.lit (.bool true)) (.tupE (.cons (.lit (.str (Str.ofString "box"))) (.cons (.var 2) .nil))))) (.var 1)) (.comp (.var 3) (.var 1) (.lit (.bool true)) (.tupE (.cons (.lit (.str (Str.ofString "box"))) (.cons (.var 3) .nil))))))
    .skip)))
noncomputable def f_law_closed : FC := { params := 0, locs := 6, body := c_law_closed, dflt := [] }
noncomputable def c_law_patterns : C := (.seq (.asg (.cons (.var 0) (.cons (.var 1) (.cons (.var 2) (.cons (.var 3) .nil)))) (.tupE (.cons (.tupE (.cons (.lit (.str (Str.ofString "param"))) (.cons (.lit (.str (Str.ofString "T"))) .nil))) (.cons (.tupE (.cons (.lit (.str (Str.ofString "param"))) (.cons (.lit (.str (Str.ofString "U"))) .nil))) (.cons (.tupE (.cons (.lit (.str (Str.ofString "int"))) (.cons (.lit (.str (Str.ofString "u8"))) .nil))) (.cons (.tupE (.cons (.lit (.str (Str.ofString "bool"))) .nil)) .nil))))))
    (.seq (.asg (.var 4) (.listE (.cons (.var 0) (.cons (.var 2) (.cons (.var 3) (.cons (.tupE (.cons (.lit (.str (Str.ofString "box"))) (.cons (.var 0) .nil))) (.cons (.tupE (.cons (.lit (.str (Str.ofString "box"))) (.cons (.var 2) .nil))) (.cons (.tupE (.cons (.lit (.str (Str.ofString "tuple"))) (.cons (.tupE (.cons (.var 0) (.cons (.var 2) .nil))) .nil))) (.cons (.tupE (.cons (.lit (.str (Str.ofString "tuple"))) (.cons (.tupE (.cons (.var 3) (.cons (.var 0) .nil))) .nil))) (.cons (.tupE (.cons (.lit (.str (Str.ofString "tuple"))) (.cons (.tupE (.cons (.var 0) (.cons (.var 0) .nil))) .nil))) .nil))))))))))
    (.seq (.ret (.op2 .add (.var 4) (.listE (.cons (.tupE (.cons (.lit (.str (Str.ofString "tuple"))) (.cons (.tupE (.cons (.var 0) (.cons (.var 1) .nil))) .nil))) (.cons (.tupE (.cons (.lit (.str (Str.ofString "box"))) (.cons (.tupE (.cons (.lit (.str (Str.ofString "tuple"))) (.cons (.tupE (.cons (.var 0) (.cons (.var 1) .nil))) .nil))) .nil))) (.cons (.tupE (.cons (.lit (.str (Str.ofString "box"))) (.cons (.tupE (.cons (.lit (.str (Str.ofString "tuple"))) (.cons (.tupE (.cons (.var 1) (.cons (.var 1) .nil))) .nil))) .nil))) (.cons (.tupE (.cons (.lit (.str (Str.ofString "box"))) (.cons (.tupE (.cons (.lit (.str (Str.ofString "tuple"))) (.cons (.tupE (.cons (.var 2) (.cons (.var 0) .nil))) .nil))) .nil))) (.cons (.tupE (.cons (.lit (.str (Str.ofString "tuple"))) (.cons (.tupE (.cons (.var 1) (.cons (.var 0) .nil))) .nil))) .nil))))))))
    .skip)))
noncomputable def f_law_patterns : FC := { params := 0, locs := 5, body := c_law_patterns, dflt := [] }
noncomputable def c_law_fits : C := (.seq (.asg (.cons (.var 2) (.cons (.var 3) .nil)) (.tupE (.cons (.listE (.cons (.tupE (.cons (.var 0) (.cons (.var 1) .nil))) .nil)) (.cons .dictE .nil))))
    (.seq (.whl (.neN true (.var 2)) (.seq (.asg (.cons (.var 4) (.cons (.var 5) .nil)) (.pm .pop (.var 2) .nil))
    (.seq (.iff (.op2 .eq (.op2 .idx (.var 4) (.lit (.int 0))) (.lit (.str (Str.ofString "param")))) (.seq (.iff (.op2 .ne (.pm .setdefault (.var 3) (.cons (.op2 .idx (.var 4) (.lit (.int 1))) (.cons (.var 5) .nil))) (.var 5)) (.seq (.ret (.lit (.bool false)))
    .skip) .skip)
    .skip) (.seq (.iff (.or (.op2 .ne (.op2 .idx (.var 4) (.lit (.int 0))) (.op2 .idx (.var 5) (.lit (.int 0)))) (.and (.op2 .eq (.op2 .idx (.var 4) (.lit (.int 0))) (.lit (.str (Str.ofString "int")))) (.op2 .ne (.var 4) (.var 5)))) (.seq (.ret (.lit (.bool false)))
    .skip) (.seq (.expr (.pm .extend (.var 2) (.cons (.prim .listZip (.cons (.callF 25 (.cons (.var 4) .nil)) (.cons (.callF 25 (.cons (.var 5) .nil)) .nil))) .nil)))
    .skip))
    .skip))
    .skip)))
    (.seq (.ret (.lit (.bool true)))
    .skip)))
noncomputable def f_law_fits : FC := { params := 2, locs := 6, body := c_law_fits, dflt := [] }
noncomputable def c_law_impl : C := (.seq (.asg (.var 5) (.listE (.cons (.tupE (.cons (.lit (.str (Str.ofString "T"))) (.cons (.tupE .nil) .nil))) (.cons (.tupE (.cons (.lit (.str (Str.ofString "U"))) (.cons (.tupE .nil) .nil))) .nil))))
    (.seq (.ret (.new 2 (.cons (.var 0) (.cons (.tupE .nil) (.cons (.var 5) (.cons (.var 1) (.cons (.var 2) (.cons (.var 3) (.cons (.prim .dictOf (.cons (.comp (.var 6) (.var 4) (.lit (.bool true)) (.tupE (.cons (.var 6) (.cons (.op2 .add (.lit (.str (Str.ofString "impl::"))) (.var 6)) .nil)))) .nil)) .nil)))))))))
    .skip))
noncomputable def f_law_impl : FC := { params := 5, locs := 7, body := c_law_impl, dflt := [] }
noncomputable def c_law_meet_told : C := (.seq (.asg (.cons (.var 0) (.cons (.var 1) (.cons (.var 2) .nil))) (.tupE (.cons (.tupE (.cons (.lit (.str (Str.ofString "int"))) (.cons (.lit (.str (Str.ofString "u8"))) .nil))) (.cons (.tupE (.cons (.lit (.str (Str.ofString "bool"))) .nil)) (.cons (.tupE (.cons (.lit (.str (Str.ofString "param"))) (.cons (.lit (.str (Str.ofString "T"))) .nil))) .nil)))))
    (.seq (.asg (.var 3) (.listE (.cons (.tupE (.cons (.tupE (.cons (.var 0) .nil)) (.cons (.var 2) (.cons (.tupE (.cons (.var 1) .nil)) (.cons (.var 1) (.cons (.lit (.bool false)) .nil)))))) (.cons (.tupE (.cons (.tupE (.cons (.var 0) .nil)) (.cons (.var 2) (.cons (.tupE (.cons (.var 2) .nil)) (.cons (.var 1) (.cons (.lit (.bool true)) .nil)))))) (.cons (.tupE (.cons (.tupE (.cons (.var 2) .nil)) (.cons (.var 2) (.cons (.tupE (.cons (.var 0) .nil)) (.cons (.var 1) (.cons (.lit (.bool false)) .nil)))))) .nil)))))
    (.seq (.asg (.var 3) (.op2 .add (.var 3) (.listE (.cons (.tupE (.cons (.tupE (.cons (.var 2) .nil)) (.cons (.tupE (.cons (.lit (.str (Str.ofString "box"))) (.cons (.var 2) .nil))) (.cons (.tupE (.cons (.var 0) .nil)) (.cons (.tupE (.cons (.lit (.str (Str.ofString "box"))) (.cons (.var 0) .nil))) (.cons (.lit (.bool true)) .nil)))))) (.cons (.tupE (.cons (.tupE (.cons (.var 0) .nil)) (.cons (.var 2) (.cons (.tupE .nil) (.cons (.var 1) (.cons (.lit (.bool false)) .nil)))))) .nil)))))
    (.seq (.asg (.var 3) (.op2 .add (.var 3) (.listE (.cons (.tupE (.cons (.tupE .nil) (.cons (.tupE (.cons (.lit (.str (Str.ofString "tuple"))) (.cons (.tupE (.cons (.var 2) (.cons (.var 2) .nil))) .nil))) (.cons (.tupE .nil) (.cons (.tupE (.cons (.lit (.str (Str.ofString "tuple"))) (.cons (.tupE (.cons (.var 0) (.cons (.var 1) .nil))) .nil))) (.cons (.lit (.bool false)) .nil)))))) (.cons (.tupE (.cons (.tupE .nil) (.cons (.tupE (.cons (.lit (.str (Str.ofString "box"))) (.cons (.var 2) .nil))) (.cons (.tupE .nil) (.cons (.var 2) (.cons (.lit (.bool true)) .nil)))))) .nil)))))
    (.seq (.for (.cons (.var 4) (.cons (.var 5) (.cons (.var 6) (.cons (.var 7) (.cons (.var 8) .nil))))) (.var 3) (.seq (.iff (.op2 .ne (.gc (.callF 17 (.cons (.callF 32 (.cons (.lit (.int 0)) (.cons (.lit (.str (Str.ofString "A"))) (.cons (.var 4) (.cons (.var 5) (.cons (.listE .nil) .nil)))))) (.cons (.callF 32 (.cons (.lit (.int 1)) (.cons (.lit (.str (Str.ofString "A"))) (.cons (.var 6) (.cons (.var 7) (.cons (.listE .nil) .nil)))))) .nil)))) (.var 8)) (.seq (.ret (.lit (.bool false)))
    .skip) .skip)
    .skip))
    (.seq (.asg (.cons (.var 5) (.cons (.var 7) .nil)) (.tupE (.cons (.callF 32 (.cons (.lit (.int 0)) (.cons (.lit .none) (.cons (.tupE .nil) (.cons (.var 2) (.cons (.listE (.cons (.lit (.str (Str.ofString "b"))) (.cons (.lit (.str (Str.ofString "a"))) (.cons (.lit (.str (Str.ofString "c"))) .nil)))) .nil)))))) (.cons (.callF 32 (.cons (.lit (.int 1)) (.cons (.lit .none) (.cons (.tupE .nil) (.cons (.var 0) (.cons (.listE (.cons (.lit (.str (Str.ofString "c"))) (.cons (.lit (.str (Str.ofString "b"))) .nil))) .nil)))))) .nil))))
    (.seq (.asg (.cons (.var 9) (.cons (.var 10) .nil)) (.tupE (.cons (.callF 32 (.cons (.lit (.int 0)) (.cons (.lit .none) (.cons (.tupE .nil) (.cons (.var 1) (.cons (.listE (.cons (.lit (.str (Str.ofString "b"))) .nil)) .nil)))))) (.cons (.callF 32 (.cons (.lit (.int 2)) (.cons (.lit (.str (Str.ofString "A"))) (.cons (.tupE .nil) (.cons (.var 2) (.cons (.listE (.cons (.lit (.str (Str.ofString "b"))) .nil)) .nil)))))) .nil))))
    (.seq (.iff (.or (.gc (.op2 .ne (.callF 18 (.cons (.var 5) (.cons (.var 7) .nil))) (.listE (.cons (.lit (.str (Str.ofString "b"))) (.cons (.lit (.str (Str.ofString "c"))) .nil))))) (.gc (.neN true (.callF 18 (.cons (.var 9) (.cons (.var 7) .nil)))))) (.seq (.ret (.lit (.bool false)))
    .skip) .skip)
    (.seq (.ret (.and (.gc (.neN false (.callF 18 (.cons (.var 10) (.cons (.var 7) .nil))))) (.gc (.neN false (.callF 18 (.cons (.var 5) (.cons (.var 10) .nil)))))))
    .skip)))))))))
noncomputable def f_law_meet_told : FC := { params := 0, locs := 11, body := c_law_meet_told, dflt := [] }
noncomputable def c_law_impls_right : C := (.seq (.asg (.cons (.var 1) (.cons (.var 2) .nil)) (.tupE (.cons (.callF 30 .nil) (.cons (.listE .nil) .nil))))
    (.seq (.for (.var 3) (.sRng (.cons (.lit (.int 2)) .nil)) (.seq (.asg (.var 4) (.comp (.var 14) (.listE (.cons (.lit (.str (Str.ofString "c"))) (.cons (.lit (.str (Str.ofString "a"))) (.cons (.lit (.str (Str.ofString "b"))) .nil)))) (.op2 .gt (.callF 21 (.cons (.var 0) (.cons (.lit (.int 3)) .nil))) (.lit (.int 0))) (.var 14)))
    (.seq (.asg (.var 5) (.gc (.callF 22 (.cons (.var 0) (.cons (.listE (.cons (.lit .none) (.cons (.lit .none) (.cons (.lit .none) (.cons (.lit (.str (Str.ofString "A"))) .nil))))) .nil)))))
    (.seq (.expr (.pm .append (.var 2) (.cons (.tupE (.cons (.callF 32 (.cons (.var 3) (.cons (.var 5) (.cons (.tupE .nil) (.cons (.callF 22 (.cons (.var 0) (.cons (.var 1) .nil))) (.cons (.var 4) .nil)))))) (.cons (.var 4) (.cons (.var 5) .nil)))) .nil)))
    .skip))))
    (.seq (.asgL (.cons (.cons (.var 6) (.cons (.var 4) (.cons (.var 5) .nil))) (.cons (.cons (.var 7) (.cons (.var 8) (.cons (.var 9) .nil))) .nil)) (.var 2))
    (.seq (.asg (.var 10) (.gc (.neN true (.comp (.var 13) (.callF 29 .nil) (.and (.callP 31 (.cons (.fld (.var 6) (Str.ofString "self_type")) (.cons (.var 13) .nil))) (.callP 31 (.cons (.fld (.var 7) (Str.ofString "self_type")) (.cons (.var 13) .nil)))) (.var 13)))))
    (.seq (.iff (.or (.op2 .ne (.gc (.callF 17 (.cons (.var 6) (.cons (.var 7) .nil)))) (.var 10)) (.op2 .ne (.gc (.callF 17 (.cons (.var 7) (.cons (.var 6) .nil)))) (.var 10))) (.seq (.ret (.lit (.bool false)))
    .skip) .skip)
    (.seq (.asg (.var 11) (.comp (.var 12) (.listE (.cons (.lit (.str (Str.ofString "a"))) (.cons (.lit (.str (Str.ofString "b"))) (.cons (.lit (.str (Str.ofString "c"))) .nil)))) (.and (.op2 .isIn (.var 12) (.var 4)) (.op2 .isIn (.var 12) (.var 8))) (.var 12)))
    (.seq (.ret (.op2 .eq (.callF 18 (.cons (.var 6) (.cons (.var 7) .nil))) (.ite (.and (.var 10) (.and (.op1 .isNone (.var 5)) (.op1 .isNone (.var 9)))) (.var 11) (.listE .nil))))
    .skip)))))))
noncomputable def f_law_impls_right : FC := { params := 1, locs := 15, body := c_law_impls_right, dflt := [] }
noncomputable def c_law : C := (.seq (.asg (.cons (.var 1) (.cons (.var 2) .nil)) (.tupE (.cons (.new 0 .nil) (.cons (.tupE (.cons (.lit (.str (Str.ofString "int"))) (.cons (.lit (.str (Str.ofString "u8"))) .nil))) .nil))))
    (.seq (.iff (.callM (.var 1) (Str.ofString "are_alike") (.cons (.tupE (.cons (.lit (.str (Str.ofString "ref"))) (.cons (.lit .none) (.cons (.lit (.bool false)) (.cons (.var 2) .nil))))) (.cons (.tupE (.cons (.lit (.str (Str.ofString "ref"))) (.cons (.lit .none) (.cons (.lit (.bool true)) (.cons (.var 2) .nil))))) .nil))) (.seq (.ret (.lit (.bool false)))
    .skip) .skip)
    (.seq (.iff (.or (.not (.gc (.callF 24 (.cons (.var 1) .nil)))) (.or (.not (.callP 28 .nil)) (.not (.callP 33 .nil)))) (.seq (.ret (.lit (.bool false)))
    .skip) .skip)
    (.seq (.asg (.cons (.var 3) (.cons (.var 4) .nil)) (.tupE (.cons (.callF 20 (.cons (.var 0) .nil)) (.cons (.callF 23 .nil) .nil))))
    (.seq (.for (.var 5) (.sRng (.cons (.lit (.int 4)) .nil)) (.seq (.asg (.cons (.var 6) (.cons (.var 7) .nil)) (.tupE (.cons (.callF 22 (.cons (.var 3) (.cons (.var 4) .nil))) (.cons (.callF 22 (.cons (.var 3) (.cons (.var 4) .nil))) .nil))))
    (.seq (.iff (.op2 .ne (.callM (.var 1) (Str.ofString "are_alike") (.cons (.op2 .idx (.var 6) (.lit (.int 1))) (.cons (.op2 .idx (.var 7) (.lit (.int 1))) .nil))) (.op2 .eq (.op2 .idx (.var 6) (.lit (.int 0))) (.op2 .idx (.var 7) (.lit (.int 0))))) (.seq (.ret (.lit (.bool false)))
    .skip) .skip)
    .skip)))
    (.seq (.ret (.and (.callL 27 (.cons (.var 3) .nil)) (.callL 34 (.cons (.var 3) .nil))))
    .skip))))))
noncomputable def f_law : FC := { params := 1, locs := 8, body := c_law, dflt := [] }
noncomputable def fcTab : List FC := [f_parts_of, f_Infer_init, f_Infer_fresh, f_Infer_fresh_int, f_Infer_shallow, f_Infer_occurs, f_Infer_bind, f_Infer_are_alike, f_head_pairs, f_filled, f_Both_init, f_Both_seen, f_Both_holds_name, f_Both_bind, f_Both_unify, f_Both_all_unified, f_own_names, f_heads_meet, f_inherent_clashes, f_ImplRow_init, f_law_pool, f_law_take, f_law_one, f_law_heads, f_law_alike_told, f_law_parts, f_law_is_within, f_law_unknowns_right, f_law_unknowns_told, f_law_closed, f_law_patterns, f_law_fits, f_law_impl, f_law_meet_told, f_law_impls_right, f_law]
noncomputable def lawP : Pg where
  fc := fun i => fcTab[i]?
  mt := fun a m => (mtTab.find? fun x => x.1 == a && x.2.1 == m).map (·.2.2)
  ct := fun k => (initTab[k]?).map fun e => (e.1, e.2)
end Mine
end

section
open PySem PySem.W PyProof.Rows PySem.Calls
namespace Mine
noncomputable def Room (A : Around) (d : Nat) : Prop := A.handled = none ∧ A.depth + 6 * d + 10 < recursionLimit ∧ A.units + 60 * d + 400 < cLine
structure EnvOk (sc : Scope) (env : Env) : Prop where
  scp : env.scope = sc
  k : sc.kind = .function
  g : env.globals = mainGlobals
  b : env.builtins = builtinsNs
theorem EnvOk.kindOf {sc : Scope} {env : Env} (e : EnvOk sc env) (x : Str) : env.kindOf x = sc.names.lookup x := by show List.lookup x env.scope.names = _; rw [e.scp]
theorem EnvOk.fk {sc : Scope} {env : Env} (e : EnvOk sc env) : env.scope.kind = .function := by rw [e.scp]; exact e.k
structure LRel (G : Gd) (env : Env) (ρ : List (Str × Nat)) (loc : Loc) (h : Heap) (σ : List Addr) : Prop where
  out : env.locals ∉ σ
  low : G.Off env.locals
  ns : ∃ m, h.Ns env.locals m ∧ ∀ (x : Str) (i : Nat) (V : AV), (x, i) ∈ ρ → env.kindOf x = some .local → loc[i]? = some (some V) → ∃ v, m x = some v ∧ RepV h σ V v
  cells : ∀ (x : Str) (c : Addr), env.cells.lookup x = some c → c ∉ σ ∧ c ≠ env.locals ∧ G.Off c ∧ ∃ ov, h.IsCell c ov
  cell : ∀ (x : Str) (i : Nat), (x, i) ∈ ρ → env.kindOf x = some .cell → ∃ c ov, env.cells.lookup x = some c ∧ h.IsCell c ov ∧ ∀ V, loc[i]? = some (some V) → ∃ v, ov = some v ∧ RepV h σ V v
  apart : ∀ (x y : Str) (c : Addr), env.cells.lookup x = some c → env.cells.lookup y = some c → x = y
structure St (G : Gd) (d : Nat) (sc : Scope) (ρ : List (Str × Nat)) (A : Around) (env : Env) (s : Shared) (σ : List Addr) (H : AH) (loc : Loc) : Prop where
  ok : GdOk G
  room : Room A d
  ev : EnvOk sc env
  rel : HRel G σ H s.heap
  lr : LRel G env ρ loc s.heap σ
noncomputable def EP (G : Gd) (s : Shared) (σ : List Addr) (H' : AH) (V : AV) (Q : Value → Shared → Prop) : Prop :=
  ∀ v h' tk σ', Ext s.heap h' σ σ' → HRel G σ' H' h' → RepV h' σ' V v → Q v { s with heap := h', toks := tk }
noncomputable def EPs (G : Gd) (s : Shared) (σ : List Addr) (H' : AH) (Vs : List AV) (n : Nat) (Q : List Value → Shared → Prop) : Prop :=
  ∀ vs h' tk σ', Ext s.heap h' σ σ' → HRel G σ' H' h' → RepVs h' σ' Vs vs → vs.length = n → Q vs { s with heap := h', toks := tk }
noncomputable def ESim (G : Gd) (P : Pg) (d : Nat) (sc : Scope) (ρ : List (Str × Nat)) (e : Expr) (c : C) : Prop :=
  ∀ (n : Nat) (A : Around) (env : Env) (s : Shared) (σ : List Addr) (H : AH) (loc : Loc) (V : AV) (loc' : Loc) (H' : AH),
    run P n d c loc H = some (.val V, loc', H') → St G d sc ρ A env s σ H loc → ∀ (Q E : Value → Shared → Prop), EP G s σ H' V Q → wpAny (model G.prog G.w) A (eval e env) Q E s
noncomputable def LSim (G : Gd) (P : Pg) (d : Nat) (sc : Scope) (ρ : List (Str × Nat)) (es : List Expr) (c : C) : Prop :=
  ∀ (n : Nat) (A : Around) (env : Env) (s : Shared) (σ : List Addr) (H : AH) (loc : Loc) (V : AV) (loc' : Loc) (H' : AH),
    run P n d c loc H = some (.val V, loc', H') → St G d sc ρ A env s σ H loc → ∀ (pos : Pos) (Q : List Value → Shared → Prop) (E : Value → Shared → Prop),
      (∀ Vs, V = .tup Vs → EPs G s σ H' Vs es.length Q) → wpAny (model G.prog G.w) A (spliced (backTo pos (starEach es env))) Q E s
noncomputable def TSim (G : Gd) (P : Pg) (d : Nat) (sc : Scope) (ρ : List (Str × Nat)) (e : Expr) (c : C) : Prop :=
  ∀ (n : Nat) (A : Around) (env : Env) (s : Shared) (σ : List Addr) (H : AH) (loc : Loc) (b : Bool) (loc' : Loc) (H' : AH),
    run P n d c loc H = some (.val (.bool b), loc', H') → St G d sc ρ A env s σ H loc → ∀ (Q : Bool → Shared → Prop) (E : Value → Shared → Prop),
      (∀ h' tk σ', Ext s.heap h' σ σ' → HRel G σ' H' h' → Q b { s with heap := h', toks := tk }) → wpAny (model G.prog G.w) A (isTrue e env (eval e env)) Q E s
noncomputable def Op2Ok (G : Gd) (o : Op2) (t : Value → Value → Sem Value) : Prop :=
  ∀ (A : Around) (d : Nat) (s : Shared) (σ : List Addr) (H : AH) (a b : AV) (av bv : Value) (V : AV) (H' : AH), GdOk G → Room A d → HRel G σ H s.heap → RepV s.heap σ a av → RepV s.heap σ b bv → op2F o a b H = some (V, H') →
    ∀ (Q E : Value → Shared → Prop), EP G s σ H' V Q → wpAny (model G.prog G.w) A (t av bv) Q E s
theorem EP.of {G : Gd} {s : Shared} {σ : List Addr} {H1 H' : AH} {v V : AV} {l l' : Loc} {Q : Value → Shared → Prop} (h : EP G s σ H' V Q) (e : some (Res.val v, l, H1) = some (Res.val V, l', H')) : EP G s σ H1 v Q := by
  cases e; exact h
theorem RepVs.length {h : Heap} {σ : List Addr} {Vs : List AV} {vs : List Value} (r : RepVs h σ Vs vs) : vs.length = Vs.length :=
  (RepV.both (h := h) (σ := σ) (m1 := fun _ _ => True) (m2 := fun Vs vs => vs.length = Vs.length) trivial (fun _ => trivial) (fun _ _ => trivial) (fun _ _ _ => trivial) (fun _ _ _ => trivial) (fun _ => trivial) rfl (fun _ e => congrArg (· + 1) e)).2 r
theorem RepVs.get {h : Heap} {σ : List Addr} {Vs : List AV} {vs : List Value} (r : RepVs h σ Vs vs) {i : Nat} {V : AV} (e : Vs[i]? = some V) : ∃ v, vs[i]? = some v ∧ RepV h σ V v := by
  induction Vs generalizing vs i with
  | nil => exact nS e
  | cons W Ws ih =>
    cases r using RepVs.consE with | mk a r =>
    cases i with
    | zero => cases e; exact ⟨_, rfl, a⟩
    | succ i => exact ih r e
theorem RepVs.append {h : Heap} {σ : List Addr} {Vs Ws : List AV} {vs ws : List Value} (r : RepVs h σ Vs vs) (q : RepVs h σ Ws ws) : RepVs h σ (Vs ++ Ws) (vs ++ ws) := by
  induction Vs generalizing vs with
  | nil => cases r; exact q
  | cons V Vs ih => cases r using RepVs.consE with | mk a r => exact .cons a (ih r)
section
variable {G : Gd} {P : Pg} {d : Nat} {sc : Scope} {ρ : List (Str × Nat)} {A : Around} {env : Env} {s : Shared} {σ σ' : List Addr} {H H' : AH} {loc : Loc} {h' : Heap} {tk : Nat}
theorem LRel.ext (L : LRel G env ρ loc s.heap σ) (x : Ext s.heap h' σ σ') (R : HRel G σ H s.heap) : LRel G env ρ loc h' σ' := by
  obtain ⟨m, hn, hv⟩ := L.ns
  obtain ⟨oL, es, ep, hL, r⟩ := hn
  have new : ∀ a o, a ∉ σ → s.heap.get? a = some o → a ∉ σ' := fun a o na la m => by
    obtain ⟨ν, rfl, lo⟩ := x.grow
    rcases List.mem_append.mp m with m | m
    · exact na m
    · exact nS (Eq.trans (Eq.symm (lo a m)) la)
  refine ⟨new _ _ L.out hL, L.low, ⟨m, ⟨oL, es, ep, x.keep _ _ hL L.out, r⟩, fun y i V a b c => ?_⟩, fun y c a => ?_, fun y i a b => ?_, L.apart⟩
  · obtain ⟨v, e, q⟩ := hv y i V a b c
    exact ⟨v, e, q.ext x R⟩
  · obtain ⟨e2, e3, e3', ov, ⟨o, e4, e5⟩⟩ := L.cells y c a
    exact ⟨new _ _ e2 e4, e3, e3', ov, ⟨o, x.keep _ _ e4 e2, e5⟩⟩
  · obtain ⟨c, ov, e1, ⟨o, e4, e5⟩, e6⟩ := L.cell y i a b
    have e2 := (L.cells y c e1).1
    refine ⟨c, ov, e1, ⟨o, x.keep _ _ e4 e2, e5⟩, fun V q => ?_⟩
    obtain ⟨v, f, r⟩ := e6 V q
    exact ⟨v, f, r.ext x R⟩
theorem St.ext (S : St G d sc ρ A env s σ H loc) (x : Ext s.heap h' σ σ') (R : HRel G σ' H' h') : St G d sc ρ A env { s with heap := h', toks := tk } σ' H' loc :=
  ⟨S.ok, S.room, S.ev, R, S.lr.ext x S.rel⟩
theorem EP.here {V : AV} {v : Value} {Q : Value → Shared → Prop} (S : HRel G σ H s.heap) (h : EP G s σ H V Q) (r : RepV s.heap σ V v) : Q v s := h v s.heap s.toks σ .refl S r
theorem EP.tick {V : AV} {v : Value} {Q : Value → Shared → Prop} (tk : Nat) (S : HRel G σ H s.heap) (h : EP G s σ H V Q) (r : RepV s.heap σ V v) : Q v { s with toks := tk } := h v s.heap tk σ .refl S r
theorem EP.ext {V : AV} {H'' : AH} {Q : Value → Shared → Prop} (h : EP G s σ H'' V Q) (x : Ext s.heap h' σ σ') : EP G { s with heap := h', toks := tk } σ' H'' V Q :=
  fun v h'' tk' σ'' x' R r => h v h'' tk' σ'' (x.trans x') R r
theorem ESim.none {k : Nat} {pos : Pos} : ESim G P d sc ρ (.Constant .none k pos) (.lit .none) := by
  intro n A env s σ H loc V loc' H' hr S Q E h
  obtain ⟨n, hr⟩ := run_step hr
  dsimp only [runStep] at hr
  replace h := EP.of h hr
  exact wpAny_Constant_none (h.here S.rel .none)
theorem ESim.bool {b : Bool} {k : Nat} {pos : Pos} : ESim G P d sc ρ (.Constant (.bool b) k pos) (.lit (.bool b)) := by
  intro n A env s σ H loc V loc' H' hr S Q E h
  obtain ⟨n, hr⟩ := run_step hr
  dsimp only [runStep] at hr
  replace h := EP.of h hr
  exact wpAny_Constant_bool (h.here S.rel (.bool b))
theorem ESim.int {i : Int} {k : Nat} {pos : Pos} : ESim G P d sc ρ (.Constant (.int i) k pos) (.lit (.int i)) := by
  intro n A env s σ H loc V loc' H' hr S Q E h
  obtain ⟨n, hr⟩ := run_step hr
  dsimp only [runStep] at hr
  replace h := EP.of h hr
  exact wpAny_Constant_int (h.tick _ S.rel (.int _ _))
theorem ESim.str {x : Str} {k : Nat} {pos : Pos} (hx : PyData.strOk x = true) : ESim G P d sc ρ (.Constant (.str x) k pos) (.lit (.str x)) := by
  intro n A env s σ H loc V loc' H' hr S Q E h
  obtain ⟨n, hr⟩ := run_step hr
  dsimp only [runStep] at hr
  replace h := EP.of h hr
  exact wpAny_Constant_str (h.tick _ S.rel (.str _ _ hx))
theorem ESim.var {x : Str} {i : Nat} {pos : Pos} (hm : (x, i) ∈ ρ) (hk : sc.names.lookup x = some .local) (hd : (x == ("__debug__" : Str)) = false) : ESim G P d sc ρ (.Name x pos) (.var i) := by
  intro n A env s σ H loc V loc' H' hr S Q E h
  obtain ⟨n, hr⟩ := run_step hr
  dsimp only [runStep] at hr
  split at hr
  · rename_i v e
    replace h := EP.of h hr
    obtain ⟨m, hn, hv⟩ := S.lr.ns
    obtain ⟨v, e', r⟩ := hv x i _ hm ((S.ev.kindOf x).trans hk) e
    exact wpAny_Name (wpAny_loadName_local S.ev.fk ((S.ev.kindOf x).trans hk) hn e' (h.here S.rel r)) hd
  · cases hr
theorem ESim.cell {x : Str} {i : Nat} {pos : Pos} (hm : (x, i) ∈ ρ) (hk : sc.names.lookup x = some .cell) (hd : (x == ("__debug__" : Str)) = false) : ESim G P d sc ρ (.Name x pos) (.var i) := by
  intro n A env s σ H loc V loc' H' hr S Q E h
  obtain ⟨n, hr⟩ := run_step hr
  dsimp only [runStep] at hr
  split at hr
  · rename_i v e
    replace h := EP.of h hr
    obtain ⟨c, ov, e1, hc, e6⟩ := S.lr.cell x i hm ((S.ev.kindOf x).trans hk)
    obtain ⟨v, rfl, r⟩ := e6 _ e
    exact wpAny_Name (wpAny_loadName_cell S.ev.fk ((S.ev.kindOf x).trans hk) e1 hc (h.here S.rel r)) hd
  · cases hr
theorem LSim.nil : LSim G P d sc ρ [] .nil := by
  intro n A env s σ H loc V loc' H' hr S pos Q E h
  obtain ⟨n, hr⟩ := run_step hr
  dsimp only [runStep] at hr
  cases hr
  exact wpAny_items_nil (h [] rfl [] s.heap s.toks σ .refl S.rel .nil rfl)
theorem LSim.cons {e : Expr} {es : List Expr} {a r : C} (he : ESim G P d sc ρ e a) (hes : LSim G P d sc ρ es r) (hs : ∀ env, starEach (e :: es) env = (false, eval e env) :: starEach es env) :
    LSim G P d sc ρ (e :: es) (.cons a r) := by
  intro n A env s σ H loc V loc' H' hr S pos Q E h
  obtain ⟨n, hr⟩ := run_step hr
  obtain ⟨v, l, H1, h1, hr⟩ := vb_some hr
  obtain ⟨w, l2, H2, h2, hr⟩ := vb_some hr
  split at hr
  · rename_i vs
    cases hr
    refine wpAny_items_cons (he n A env s σ H loc _ _ _ h1 S _ _ fun av h' tk σ' x R rv => ?_) (hs env)
    refine hes n A env _ σ' H1 loc _ _ _ h2 (S.ext x R) pos _ _ fun Vs e => ?_
    cases e
    intro bv h'' tk' σ'' x' R' rs hl
    exact h _ rfl _ _ _ _ (x.trans x') R' (.cons (rv.ext x' R) rs) (by rw [List.length_cons, hl]; rfl)
  · exact nS hr
theorem ESim.tup {es : List Expr} {k : Nat} {pos : Pos} {l : C} (hl : LSim G P d sc ρ es l) (hn : es.length ≤ 1000) : ESim G P d sc ρ (.Tuple es k pos) (.tupE l) := by
  intro n A env s σ H loc V loc' H' hr S Q E h
  obtain ⟨n, hr⟩ := run_step hr
  obtain ⟨v, l, H1, h1, hr⟩ := vb_some hr
  split at hr
  · rename_i vs
    replace h := EP.of h hr
    refine wpAny_Tuple (hl n A env s σ H loc _ _ _ h1 S pos _ _ fun Vs e => ?_)
    cases e
    intro bv h' tk σ' x R rs hb
    refine ⟨by rw [hb, sizeLine_eq]; omega, ?_⟩
    have k : ∀ b o, h'.get? b = some o → (h'.push { cls := .type "tuple", data := .seq bv.toArray }).get? b = some o := fun b o e => Heap.get?_push_of_some _ e
    have x2 : Ext h' (h'.push { cls := .type "tuple", data := .seq bv.toArray }) σ' σ' := .same k
    refine h _ _ _ _ (x.trans x2) (R.same k (R.offge (push_keeps _).2)) (.tup ⟨_, Heap.get?_push_size _ rfl, rfl, 0, rfl⟩ R.new ?_)
    exact (rs.ext x2 R)
  · exact nS hr
theorem ESim.lst {es : List Expr} {pos : Pos} {l : C} (hl : LSim G P d sc ρ es l) (hn : es.length ≤ 1000) : ESim G P d sc ρ (.List es pos) (.listE l) := by
  intro n A env s σ H loc V loc' H' hr S Q E h
  obtain ⟨n, hr⟩ := run_step hr
  obtain ⟨v, l, H1, h1, hr⟩ := vb_some hr
  split at hr
  · rename_i vs
    replace h := EP.of h hr
    refine wpAny_List (hl n A env s σ H loc _ _ _ h1 S pos _ _ fun Vs e => ?_)
    cases e
    intro bv h' tk σ' x R rs hb
    refine ⟨by rw [hb, sizeLine_eq]; omega, ?_⟩
    have x2 : Ext h' (h'.push { cls := .type "list", data := .seq bv.toArray }) σ' (σ' ++ [h'.objs.size]) := Ext.push _
    exact h _ _ _ _ (x.trans x2) (R.push (.list (n := 0) (Heap.get?_push_size _ rfl) (rs.ext x2 R))) (.obj R.last)
  · exact nS hr
end
end Mine
end

section
open PySem PySem.W PyProof.Rows PySem.Calls
namespace Mine
section
variable {G : Gd} {P : Pg} {d : Nat} {sc : Scope} {ρ : List (Str × Nat)}
theorem op1_sem {o : Op1} {cop : CmpOp} (hc : (o = .isNone ∧ cop = .Is) ∨ (o = .notNone ∧ cop = .IsNot)) {M : Model} {A : Around} {s : Shared} {h : Heap} {σ : List Addr} {V : AV} {v : Value} (r : RepV h σ V v) {Q E : Value → Shared → Prop}
    (k : ∀ b, op1F o V = .bool b → Q (.bool b) s) : wpAny M A (compareOp cop v .none) Q E s := by
  rcases hc with ⟨rfl, rfl⟩ | ⟨rfl, rfl⟩
  · cases r with
    | none => exact is_none (k _ rfl)
    | bool b => exact is_none (k _ rfl)
    | int i t => exact is_none (k _ rfl)
    | str x t _ => exact is_none (k _ rfl)
    | tup _ _ _ => exact is_none (k _ rfl)
    | obj _ => exact is_none (k _ rfl)
  · cases r with
    | none => exact isNot_none (k _ rfl)
    | bool b => exact isNot_none (k _ rfl)
    | int i t => exact isNot_none (k _ rfl)
    | str x t _ => exact isNot_none (k _ rfl)
    | tup _ _ _ => exact isNot_none (k _ rfl)
    | obj _ => exact isNot_none (k _ rfl)
theorem TSim.op1 {o : Op1} {cop : CmpOp} (hc : (o = .isNone ∧ cop = .Is) ∨ (o = .notNone ∧ cop = .IsNot)) {e : Expr} {c : C} {k : Nat} {p1 pos : Pos} (he : ESim G P d sc ρ e c)
    (hm : behindInMarks cop (.Constant .none k p1) = false) : TSim G P d sc ρ (.Compare e [cop] [.Constant .none k p1] pos) (.op1 o c) := by
  intro n A env s σ H loc b loc' H' hr S Q E h
  obtain ⟨n, hr⟩ := run_step hr
  obtain ⟨v, l, H1, h1, hr⟩ := vb_some hr
  refine wpAny_isTrue_Compare1 (he n A env s σ H loc _ _ _ h1 S _ _ fun av h' tk σ' x R rv => ?_) hm
  refine wpAny_Constant_none (op1_sem hc rv fun b' e => wpAny_truthy_bool ?_)
  rw [e] at hr; cases hr
  exact h _ _ _ x R
theorem ESim.cmp {o : Op2} {cop : CmpOp} (ho : Op2Ok G o (compareOp cop)) {e1 e2 : Expr} {a b : C} {pos : Pos} (h1 : ESim G P d sc ρ e1 a) (h2 : ESim G P d sc ρ e2 b)
    (hm : behindInMarks cop e2 = false) : ESim G P d sc ρ (.Compare e1 [cop] [e2] pos) (.op2 o a b) := by
  intro n A env s σ H loc V loc' H' hr S Q E h
  obtain ⟨n, hr⟩ := run_step hr
  dsimp only [runStep] at hr
  obtain ⟨x, l, H1, q1, hr⟩ := vb_some hr
  obtain ⟨y, l2, H2, q2, hr⟩ := vb_some hr
  split at hr
  · rename_i v H3 q3
    replace h := EP.of h hr
    refine wpAny_Compare1 (h1 n A env s σ H loc _ _ _ q1 S _ _ fun av h' tk σ' x R rv => ?_) hm
    refine h2 n A env _ σ' H1 loc _ _ _ q2 (S.ext x R) _ _ fun bv h'' tk' σ'' x' R' rv' => ?_
    exact ho A d _ σ'' _ _ _ _ _ _ _ S.ok S.room R' (rv.ext x' R) rv' q3 _ _ (EP.ext (EP.ext h x) x')
  · exact nS hr
theorem TSim.cmp {o : Op2} {cop : CmpOp} (ho : Op2Ok G o (compareOp cop)) {e1 e2 : Expr} {a b : C} {pos : Pos} (h1 : ESim G P d sc ρ e1 a) (h2 : ESim G P d sc ρ e2 b)
    (hm : behindInMarks cop e2 = false) : TSim G P d sc ρ (.Compare e1 [cop] [e2] pos) (.op2 o a b) := by
  intro n A env s σ H loc bb loc' H' hr S Q E h
  obtain ⟨n, hr⟩ := run_step hr
  dsimp only [runStep] at hr
  obtain ⟨x, l, H1, q1, hr⟩ := vb_some hr
  obtain ⟨y, l2, H2, q2, hr⟩ := vb_some hr
  split at hr
  · rename_i v H3 q3
    cases hr
    refine wpAny_isTrue_Compare1 (h1 n A env s σ H loc _ _ _ q1 S _ _ fun av h' tk σ' x R rv => ?_) hm
    refine h2 n A env _ σ' H1 loc _ _ _ q2 (S.ext x R) _ _ fun bv h'' tk' σ'' x' R' rv' => ?_
    refine ho A d _ σ'' _ _ _ _ _ _ _ S.ok S.room R' (rv.ext x' R) rv' q3 _ _ fun cv h3 tk3 σ3 x3 R3 r3 => ?_
    cases r3 using RepV.boolE
    exact wpAny_truthy_bool (h _ _ _ ((x.trans x').trans x3) R3)
  · exact nS hr
theorem ESim.binop {o : Op2} {op : Operator} (ho : Op2Ok G o (binaryOp op)) {e1 e2 : Expr} {a b : C} {pos : Pos} (h1 : ESim G P d sc ρ e1 a) (h2 : ESim G P d sc ρ e2 b) :
    ESim G P d sc ρ (.BinOp e1 op e2 pos) (.op2 o a b) := by
  intro n A env s σ H loc V loc' H' hr S Q E h
  obtain ⟨n, hr⟩ := run_step hr
  obtain ⟨x, l, H1, q1, hr⟩ := vb_some hr
  obtain ⟨y, l2, H2, q2, hr⟩ := vb_some hr
  split at hr
  · rename_i v H3 q3
    replace h := EP.of h hr
    refine wpAny_BinOp (h1 n A env s σ H loc _ _ _ q1 S _ _ fun av h' tk σ' x R rv => ?_)
    refine h2 n A env _ σ' H1 loc _ _ _ q2 (S.ext x R) _ _ fun bv h'' tk' σ'' x' R' rv' => ?_
    exact ho A d _ σ'' _ _ _ _ _ _ _ S.ok S.room R' (rv.ext x' R) rv' q3 _ _ (EP.ext (EP.ext h x) x')
  · exact nS hr
theorem ESim.sub {e1 e2 : Expr} {a b : C} {pos : Pos} (ho : Op2Ok G .idx (PyProof.Rows.subscriptTail e1 e2)) (h1 : ESim G P d sc ρ e1 a) (h2 : ESim G P d sc ρ e2 b) :
    ESim G P d sc ρ (.Subscript e1 e2 pos) (.op2 .idx a b) := by
  intro n A env s σ H loc V loc' H' hr S Q E h
  obtain ⟨n, hr⟩ := run_step hr
  obtain ⟨x, l, H1, q1, hr⟩ := vb_some hr
  obtain ⟨y, l2, H2, q2, hr⟩ := vb_some hr
  split at hr
  · rename_i v H3 q3
    replace h := EP.of h hr
    refine Subscript_ (h1 n A env s σ H loc _ _ _ q1 S _ _ fun av h' tk σ' x R rv => ?_)
    refine h2 n A env _ σ' H1 loc _ _ _ q2 (S.ext x R) _ _ fun bv h'' tk' σ'' x' R' rv' => ?_
    exact ho A d _ σ'' _ _ _ _ _ _ _ S.ok S.room R' (rv.ext x' R) rv' q3 _ _ (EP.ext (EP.ext h x) x')
  · exact nS hr
theorem TSim.val {e : Expr} {c : C} (he : ESim G P d sc ρ e c) (ht : ∀ env whole, isTrue e env whole = (do let v ← whole; standAt e.pos; holding [v] (truthy v))) : TSim G P d sc ρ e c := by
  intro n A env s σ H loc b loc' H' hr S Q E h
  refine wpAny_isTrue_value (he n A env s σ H loc _ _ _ hr S _ _ fun v h' tk σ' x R rv => ?_) (ht env _)
  cases rv using RepV.boolE
  exact wpAny_truthy_bool (h _ _ _ x R)
theorem TSim.not {e : Expr} {c : C} {pos : Pos} (he : TSim G P d sc ρ e c) : TSim G P d sc ρ (.UnaryOp .Not e pos) (.not c) := by
  intro n A env s σ H loc b loc' H' hr S Q E h
  obtain ⟨n, hr⟩ := run_step hr
  dsimp only [runStep] at hr
  obtain ⟨v, l, H1, h1, hr⟩ := vb_some hr
  split at hr
  · cases hr
    exact wpAny_isTrue_Not (he n A env s σ H loc _ _ _ h1 S _ _ fun h' tk σ' x R => h _ _ _ x R)
  · exact nS hr
noncomputable def BTSim (G : Gd) (P : Pg) (d : Nat) (sc : Scope) (ρ : List (Str × Nat)) (op : BoolOp) (es : List Expr) (c : C) : Prop :=
  ∀ (n : Nat) (A : Around) (env : Env) (s : Shared) (σ : List Addr) (H : AH) (loc : Loc) (b : Bool) (loc' : Loc) (H' : AH),
    run P n d c loc H = some (.val (.bool b), loc', H') → St G d sc ρ A env s σ H loc → ∀ (Q : Bool → Shared → Prop) (E : Value → Shared → Prop),
      (∀ h' tk σ', Ext s.heap h' σ σ' → HRel G σ' H' h' → Q b { s with heap := h', toks := tk }) → wpAny (model G.prog G.w) A (allTrue op es env) Q E s
theorem BTSim.last {op : BoolOp} {e : Expr} {c : C} (he : TSim G P d sc ρ e c) : BTSim G P d sc ρ op [e] c := by
  intro n A env s σ H loc b loc' H' hr S Q E h
  cases op with
  | And =>
    refine wpAny_allTrue_And_cons (he n A env s σ H loc _ _ _ hr S _ _ fun h' tk σ' x R => ?_)
    cases b with
    | true => exact wpAny_allTrue_And_nil (h _ _ _ x R)
    | false => exact h _ _ _ x R
  | Or =>
    refine wpAny_allTrue_Or_cons (he n A env s σ H loc _ _ _ hr S _ _ fun h' tk σ' x R => ?_)
    cases b with
    | true => exact h _ _ _ x R
    | false => exact wpAny_allTrue_Or_nil (h _ _ _ x R)
theorem BTSim.and {e e2 : Expr} {es : List Expr} {a b : C} (he : TSim G P d sc ρ e a) (hs : BTSim G P d sc ρ .And (e2 :: es) b) : BTSim G P d sc ρ .And (e :: e2 :: es) (.and a b) := by
  intro n A env s σ H loc bb loc' H' hr S Q E h
  obtain ⟨n, hr⟩ := run_step hr
  dsimp only [runStep] at hr
  obtain ⟨v, l, H1, h1, hr⟩ := vb_some hr
  split at hr
  · obtain ⟨w, l2, H2, h2, hr⟩ := vb_some hr
    cases hr
    refine wpAny_allTrue_And_cons (he n A env s σ H loc _ _ _ h1 S _ _ fun h' tk σ' x R => ?_)
    exact hs n A env _ σ' H1 loc _ _ _ h2 (S.ext x R) _ _ fun h'' tk' σ'' x' R' => h _ _ _ (x.trans x') R'
  · cases hr
    exact wpAny_allTrue_And_cons (he n A env s σ H loc _ _ _ h1 S _ _ fun h' tk σ' x R => h _ _ _ x R)
  · exact nS hr
theorem BTSim.or {e e2 : Expr} {es : List Expr} {a b : C} (he : TSim G P d sc ρ e a) (hs : BTSim G P d sc ρ .Or (e2 :: es) b) : BTSim G P d sc ρ .Or (e :: e2 :: es) (.or a b) := by
  intro n A env s σ H loc bb loc' H' hr S Q E h
  obtain ⟨n, hr⟩ := run_step hr
  dsimp only [runStep] at hr
  obtain ⟨v, l, H1, h1, hr⟩ := vb_some hr
  split at hr
  · cases hr
    exact wpAny_allTrue_Or_cons (he n A env s σ H loc _ _ _ h1 S _ _ fun h' tk σ' x R => h _ _ _ x R)
  · obtain ⟨w, l2, H2, h2, hr⟩ := vb_some hr
    cases hr
    refine wpAny_allTrue_Or_cons (he n A env s σ H loc _ _ _ h1 S _ _ fun h' tk σ' x R => ?_)
    exact hs n A env _ σ' H1 loc _ _ _ h2 (S.ext x R) _ _ fun h'' tk' σ'' x' R' => h _ _ _ (x.trans x') R'
  · exact nS hr
theorem TSim.boolop {op : BoolOp} {es : List Expr} {pos : Pos} {c : C} (h : BTSim G P d sc ρ op es c) : TSim G P d sc ρ (.BoolOp op es pos) c := by
  intro n A env s σ H loc b loc' H' hr S Q E k
  exact wpAny_isTrue_BoolOp (h n A env s σ H loc b loc' H' hr S Q E k)
noncomputable def BSim (G : Gd) (P : Pg) (d : Nat) (sc : Scope) (ρ : List (Str × Nat)) (op : BoolOp) (es : List Expr) (c : C) : Prop :=
  ∀ (n : Nat) (A : Around) (env : Env) (s : Shared) (σ : List Addr) (H : AH) (loc : Loc) (V : AV) (loc' : Loc) (H' : AH),
    run P n d c loc H = some (.val V, loc', H') → St G d sc ρ A env s σ H loc → ∀ (pos : Pos) (Q E : Value → Shared → Prop), EP G s σ H' V Q → wpAny (model G.prog G.w) A (PySem.boolOp pos op (evalEach es env)) Q E s
theorem BSim.last {op : BoolOp} {e : Expr} {c : C} (he : ESim G P d sc ρ e c) : BSim G P d sc ρ op [e] c := by
  intro n A env s σ H loc V loc' H' hr S pos Q E h
  exact he n A env s σ H loc _ _ _ hr S Q E h
theorem BSim.and {e e2 : Expr} {es : List Expr} {a b : C} (he : ESim G P d sc ρ e a) (hs : BSim G P d sc ρ .And (e2 :: es) b) : BSim G P d sc ρ .And (e :: e2 :: es) (.and a b) := by
  intro n A env s σ H loc V loc' H' hr S pos Q E h
  obtain ⟨n, hr⟩ := run_step hr
  dsimp only [runStep] at hr
  obtain ⟨v, l, H1, h1, hr⟩ := vb_some hr
  show wpAny _ _ (eval e env >>= fun v => standAt pos >>= fun _ => holding [v] (truthy v) >>= fun t => _) Q E s
  split at hr
  · obtain ⟨w, l2, H2, h2, hr⟩ := vb_some hr
    replace h := EP.of h hr
    refine wpAny_bind (he n A env s σ H loc _ _ _ h1 S _ _ fun av h' tk σ' x R rv => ?_)
    cases rv using RepV.boolE
    refine wpAny_bind (wpAny_standAt (wpAny_bind (wpAny_holding (wpAny_truthy_bool ?_))))
    exact hs n A env _ σ' H1 loc _ _ _ h2 (S.ext x R) pos _ _ (EP.ext h x)
  · replace h := EP.of h hr
    refine wpAny_bind (he n A env s σ H loc _ _ _ h1 S _ _ fun av h' tk σ' x R rv => ?_)
    cases rv using RepV.boolE
    refine wpAny_bind (wpAny_standAt (wpAny_bind (wpAny_holding (wpAny_truthy_bool ?_))))
    exact wpAny_pure (h _ _ _ _ x R (.bool _))
  · exact nS hr
theorem ESim.boolop {op : BoolOp} {es : List Expr} {pos : Pos} {c : C} (h : BSim G P d sc ρ op es c) : ESim G P d sc ρ (.BoolOp op es pos) c := by
  intro n A env s σ H loc V loc' H' hr S Q E k
  exact h n A env s σ H loc _ _ _ hr S pos Q E k
theorem ESim.not {e : Expr} {c : C} {pos : Pos} (he : ESim G P d sc ρ e c) : ESim G P d sc ρ (.UnaryOp .Not e pos) (.not c) := by
  intro n A env s σ H loc V loc' H' hr S Q E h
  obtain ⟨n, hr⟩ := run_step hr
  dsimp only [runStep] at hr
  obtain ⟨v, l, H1, h1, hr⟩ := vb_some hr
  split at hr
  · replace h := EP.of h hr
    refine wpAny_UnaryOp (he n A env s σ H loc _ _ _ h1 S _ _ fun av h' tk σ' x R rv => ?_)
    cases rv using RepV.boolE
    refine not_of (wpAny_truthy_bool ?_)
    exact h _ _ _ _ x R (.bool _)
  · exact nS hr
theorem ESim.neg {i : Int} {k : Nat} {p1 pos : Pos} : ESim G P d sc ρ (.UnaryOp .USub (.Constant (.int i) k p1) pos) (.lit (.int (-i))) := by
  intro n A env s σ H loc V loc' H' hr S Q E h
  obtain ⟨n, hr⟩ := run_step hr
  dsimp only [runStep] at hr
  replace h := EP.of h hr
  exact wpAny_UnaryOp (wpAny_Constant_int (neg_int (h.tick _ S.rel (.int _ _))))
theorem ESim.ite {t a b : Expr} {ct ca cb : C} {pos : Pos} (ht : TSim G P d sc ρ t ct) (ha : ESim G P d sc ρ a ca) (hb : ESim G P d sc ρ b cb) : ESim G P d sc ρ (.IfExp t a b pos) (.ite ct ca cb) := by
  intro n A env s σ H loc V loc' H' hr S Q E h
  obtain ⟨n, hr⟩ := run_step hr
  dsimp only [runStep] at hr
  obtain ⟨v, l, H1, h1, hr⟩ := vb_some hr
  split at hr
  · obtain ⟨w, l2, H2, h2, hr⟩ := vb_some hr
    cases hr
    refine wpAny_IfExp (ht n A env s σ H loc _ _ _ h1 S _ _ fun h' tk σ' x R => ?_)
    exact ha n A env _ σ' H1 loc _ _ _ h2 (S.ext x R) _ _ (EP.ext h x)
  · obtain ⟨w, l2, H2, h2, hr⟩ := vb_some hr
    cases hr
    refine wpAny_IfExp (ht n A env s σ H loc _ _ _ h1 S _ _ fun h' tk σ' x R => ?_)
    exact hb n A env _ σ' H1 loc _ _ _ h2 (S.ext x R) _ _ (EP.ext h x)
  · exact nS hr
end
end Mine
end

section
open PySem PySem.W PyProof.Rows PySem.Calls PySem.Spec PySem.SeqAt
namespace Mine
section
variable {G : Gd} {P : Pg} {d : Nat} {A : Around} {s : Shared} {σ : List Addr} {H : AH}
theorem Room.u {A : Around} {d : Nat} (r : Room A d) {k : Nat} (h : k ≤ 400) : A.units + k < cLine := by have := r.2.2; omega
theorem EP.val {V : AV} {v : Value} {Q : Value → Shared → Prop} (R : HRel G σ H s.heap) (h : EP G s σ H V Q) (r : RepV s.heap σ V v) : Q v s := h v s.heap s.toks σ .refl R r
theorem bv_some {H : AH} {b : Option Bool} {V : AV} {H' : AH} (h : bv H b = some (V, H')) : ∃ x, b = some x ∧ V = .bool x ∧ H' = H := by
  unfold bv at h
  cases b with
  | none => exact nS h
  | some x => cases h; exact ⟨x, rfl, rfl, rfl⟩
noncomputable def EqBoth (G : Gd) (A : Around) (s : Shared) (xv yv : Value) (b : Bool) : Prop :=
    (∀ (Q E : Value → Shared → Prop), Q (.bool b) s → wpAny (model G.prog G.w) A (compareOp .Eq xv yv) Q E s) ∧ (∀ (Q E : Value → Shared → Prop), Q (.bool (!b)) s → wpAny (model G.prog G.w) A (compareOp .NotEq xv yv) Q E s)
inductive EqT (H : AH) : AV → AV → Bool → Prop
  | lst {i j : Nat} {xs ys : List AV} (ei : H[i]? = some (.list xs)) (ej : H[j]? = some (.list ys)) (px : pureAs 50 xs = true) (py : pureAs 50 ys = true) : EqT H (.obj i) (.obj j) (eqPs xs ys)
  | tup {xs ys : List AV} (px : pureAs 50 xs = true) (py : pureAs 50 ys = true) : EqT H (.tup xs) (.tup ys) (eqPs xs ys)
  | bool (x y : Bool) : EqT H (.bool x) (.bool y) (x == y)
  | int (x y : Int) : EqT H (.int x) (.int y) (x == y)
  | str (x y : Str) : EqT H (.str x) (.str y) (x == y)
theorem if_and {p q b c : Bool} (e : (if (p && q) = true then some c else none) = some b) : p = true ∧ q = true ∧ c = b := by
  cases p with
  | false => exact nS e
  | true => cases q with
    | false => exact nS e
    | true => exact ⟨rfl, rfl, Option.some.inj e⟩
theorem eqH_inv {x y : AV} {b : Bool} (e : eqH H x y = some b) : EqT H x y b := by
  cases x with
  | obj i =>
    cases y with
    | obj j =>
      cases hi : H[i]? with
      | none => unfold eqH at e; dsimp only at e; rw [hi] at e; exact nS e
      | some o =>
        cases hj : H[j]? with
        | none => unfold eqH at e; dsimp only at e; rw [hi, hj] at e; cases o <;> exact nS e
        | some o' =>
          unfold eqH at e; dsimp only at e; rw [hi, hj] at e
          cases o with
          | list xs =>
            cases o' with
            | list ys =>
              obtain ⟨p, q, rfl⟩ := if_and e
              exact .lst hi hj p q
            | _ => exact nS e
          | _ => cases o' <;> exact nS e
    | _ => exact nS e
  | tup xs =>
    cases y with
    | tup ys =>
      obtain ⟨p, q, rfl⟩ := if_and e
      exact .tup p q
    | _ => exact nS e
  | bool x =>
    cases y with
    | bool y => cases e; exact .bool x y
    | _ => exact nS e
  | int x =>
    cases y with
    | int y => cases e; exact .int x y
    | _ => exact nS e
  | str x =>
    cases y with
    | str y => cases e; exact .str x y
    | _ => exact nS e
  | none => cases y <;> exact nS e
theorem eqH_key {xv yv : Value} {b : Bool} {d1 d2 : PyData} {as bs : List Addr} (room : Room A d) (r1 : Reads s.heap xv d1 as) (r2 : Reads s.heap yv d2 bs) (c1 : d1.canLay0 = true) (l1 : d1.depth ≤ 51) (c2 : d2.canLay0 = true) (l2 : d2.depth ≤ 51) (q : PyData.eqv d1 d2 = b) : EqBoth G A s xv yv b := by
  have sh : ∀ {d : PyData}, d.canLay0 = true → d.depth ≤ 51 → shaped d = true := fun a b => by unfold shaped; rw [a, decide_eq_true (Nat.le_trans b (by decide))]; rfl
  subst q
  exact And.intro (fun Q E k => eq_dataH r1 r2 (sh c1 l1) (sh c2 l2) (room.u (by decide)) k) (fun Q E k => ne_dataH r1 r2 (sh c1 l1) (sh c2 l2) (room.u (by decide)) k)
theorem eqH_ref {x y : AV} {xv yv : Value} {b : Bool} (R : HRel G σ H s.heap) (room : Room A d) (rx : RepV s.heap σ x xv) (ry : RepV s.heap σ y yv) (e : eqH H x y = some b) :
    EqBoth G A s xv yv b := by
  cases eqH_inv e with
  | lst ei ej px py =>
    cases rx using RepV.objE with | mk ea =>
    cases ry using RepV.objE with | mk eb =>
    cases R.rep _ _ _ ei ea using ORep.listE with | mk ga va =>
    cases R.rep _ _ _ ej eb using ORep.listE with | mk gb vb =>
    obtain ⟨as, qa⟩ := va.reads 50 px
    obtain ⟨bs, qb⟩ := vb.reads 50 py
    exact eqH_key room (reads_list_at ga rfl rfl qa) (reads_list_at gb rfl rfl qb) va.canLay (Nat.succ_le_succ (pys_depth _ 50 px)) vb.canLay (Nat.succ_le_succ (pys_depth _ 50 py)) (eqvs_py _ _ 50 50 px py)
  | @tup xs ys px py =>
    obtain ⟨as, qa⟩ := rx.reads 51 px
    obtain ⟨bs, qb⟩ := ry.reads 51 py
    exact eqH_key room qa qb rx.canLay (py_depth (.tup xs) 51 px) ry.canLay (py_depth (.tup ys) 51 py) (eqv_py (.tup xs) (.tup ys) 51 51 px py)
  | bool x y =>
    cases rx using RepV.boolE
    cases ry using RepV.boolE
    exact And.intro (fun Q E k => eq_bool k) (fun Q E k => ne_bool k)
  | int x y =>
    cases rx using RepV.intE with | mk t =>
    cases ry using RepV.intE with | mk u =>
    exact And.intro (fun Q E k => eq_int k) (fun Q E k => ne_int k)
  | str x y =>
    cases rx using RepV.strE with | mk t kx =>
    cases ry using RepV.strE with | mk u ky =>
    exact And.intro (fun Q E k => eq_str k) (fun Q E k => ne_str k)
theorem op2_eq : Op2Ok G .eq (compareOp .Eq) := by
  intro A d s σ H a b av bv V H' ok room R ra rb e Q E h
  obtain ⟨x, q, rfl, rfl⟩ := bv_some (show Mine.bv H (eqH H a b) = _ from e)
  exact (eqH_ref R room ra rb q).1 Q E (h.val R (.bool x))
theorem op2_ne : Op2Ok G .ne (compareOp .NotEq) := by
  intro A d s σ H a b av bv V H' ok room R ra rb e Q E h
  obtain ⟨x, q, rfl, rfl⟩ := bv_some (show Mine.bv H ((eqH H a b).map (!·)) = _ from e)
  obtain ⟨y, q2, q3⟩ := Option.map_eq_some_iff.mp q
  subst q3
  exact (eqH_ref R room ra rb q2).2 Q E (h.val R (.bool _))
theorem EP.of2 {H1 H' : AH} {v V : AV} {Q : Value → Shared → Prop} (h : EP G s σ H' V Q) (e : some (v, H1) = some (V, H')) : EP G s σ H1 v Q := by
  cases e; exact h
theorem if_some1 {α : Type} {c : Prop} {_ : Decidable c} {x : Option α} {y : α} (e : (if c then x else none) = some y) : c ∧ x = some y := by
  by_cases h : c
  · exact ⟨h, (if_pos h).symm.trans e⟩
  · exact nS ((if_neg h).symm.trans e)
theorem if_some2 {α : Type} {c : Prop} {_ : Decidable c} {x : Option α} {y : α} (e : (if c then none else x) = some y) : ¬ c ∧ x = some y := by
  by_cases h : c
  · exact nS ((if_pos h).symm.trans e)
  · exact ⟨h, (if_neg h).symm.trans e⟩
theorem ints_op {h : Heap} {f : Int → Int → Option (AV × AH)} {a b : AV} {av bv : Value} {o : AV × AH} {p : Value → Value → Prop} (ra : RepV h σ a av) (rb : RepV h σ b bv) (e : (match (generalizing := false) a, b with
    | .int x, .int y => f x y
    | _, _ => none) = some o) (k : ∀ x y t u, f x y = some o → p (.int x t) (.int y u)) : p av bv := by
  cases a with
  | int x =>
    cases b with
    | int y =>
      cases ra using RepV.intE with | mk t =>
      cases rb using RepV.intE with | mk u => exact k x y t u e
    | _ => exact nS e
  | _ => exact nS e
theorem op2_gt : Op2Ok G .gt (compareOp .Gt) := by
  intro A d s σ H a b av bv V H' ok room R ra rb e Q E h
  exact ints_op (p := fun av bv => wpAny _ A (compareOp .Gt av bv) Q E s) ra rb e fun x y t u e => PyProof.Rows.gt_int ((h.of2 e).val R (.bool _))
theorem op2_ge : Op2Ok G .ge (compareOp .GtE) := by
  intro A d s σ H a b av bv V H' ok room R ra rb e Q E h
  exact ints_op (p := fun av bv => wpAny _ A (compareOp .GtE av bv) Q E s) ra rb e fun x y t u e => PyProof.Rows.ge_int ((h.of2 e).val R (.bool _))
theorem op2_sub : Op2Ok G .sub (binaryOp .Sub) := by
  intro A d s σ H a b av bv V H' ok room R ra rb e Q E h
  exact ints_op (p := fun av bv => wpAny _ A (binaryOp .Sub av bv) Q E s) ra rb e fun x y t u e => PyProof.Rows.sub_int ((h.of2 e).tick _ R (.int _ _))
theorem op2_mul : Op2Ok G .mul (binaryOp .Mult) := by
  intro A d s σ H a b av bv V H' ok room R ra rb e Q E h
  refine ints_op (p := fun av bv => wpAny _ A (binaryOp .Mult av bv) Q E s) ra rb e fun x y t u e => ?_
  obtain ⟨hb, e⟩ := if_some1 e
  exact PyProof.Rows.mul_int ((h.of2 e).tick _ R (.int _ _)) (.of_right (intBits_le_64 (by omega) (by omega)))
theorem op2_mod : Op2Ok G .mod (binaryOp .Mod) := by
  intro A d s σ H a b av bv V H' ok room R ra rb e Q E h
  refine ints_op (p := fun av bv => wpAny _ A (binaryOp .Mod av bv) Q E s) ra rb e fun x y t u e => ?_
  obtain ⟨hb, e⟩ := if_some2 e
  exact PyProof.Rows.mod_int' hb ((h.of2 e).tick _ R (.int _ _))
theorem op2_fdiv : Op2Ok G .fdiv (binaryOp .FloorDiv) := by
  intro A d s σ H a b av bv V H' ok room R ra rb e Q E h
  refine ints_op (p := fun av bv => wpAny _ A (binaryOp .FloorDiv av bv) Q E s) ra rb e fun x y t u e => ?_
  obtain ⟨hb, e⟩ := if_some2 e
  obtain ⟨hs, e⟩ := if_some1 e
  exact PyProof.Rows.floordiv_int hb ((h.of2 e).tick _ R (.int _ _)) (.inl (PyProof.noPylong_small hs))
inductive AddT (H : AH) (o : AV × AH) : AV → AV → Prop
  | int {x y : Int} (e : some (.int (x + y), H) = some o) : AddT H o (.int x) (.int y)
  | str {x y : Str} (hl : x.length + y.length ≤ 1000) (e : some (.str (x ++ y), H) = some o) : AddT H o (.str x) (.str y)
  | tup {x y : List AV} (hl : x.length + y.length ≤ 60000) (e : some (.tup (x ++ y), H) = some o) : AddT H o (.tup x) (.tup y)
  | lst {i j : Nat} {x y : List AV} (ei : H[i]? = some (.list x)) (ej : H[j]? = some (.list y)) (hl : x.length + y.length ≤ 60000) (e : some (.obj H.length, H ++ [.list (x ++ y)]) = some o) : AddT H o (.obj i) (.obj j)
theorem add_inv {a b : AV} {o : AV × AH} (e : op2F .add a b H = some o) : AddT H o a b := by
  cases a with
  | int x =>
    cases b with
    | int y => exact .int e
    | _ => exact nS e
  | str x =>
    cases b with
    | str y => obtain ⟨hl, e⟩ := if_some1 e; exact .str hl e
    | _ => exact nS e
  | tup x =>
    cases b with
    | tup y => obtain ⟨hl, e⟩ := if_some1 e; exact .tup hl e
    | _ => exact nS e
  | obj i =>
    cases b with
    | obj j =>
      replace e : (match H[i]?, H[j]? with
        | some (.list x), some (.list y) => if x.length + y.length ≤ 60000 then some (.obj H.length, H ++ [.list (x ++ y)]) else none
        | _, _ => none) = some o := e
      cases hi : H[i]? with
      | none => rw [hi] at e; exact nS e
      | some q =>
        cases hj : H[j]? with
        | none => rw [hi, hj] at e; cases q <;> exact nS e
        | some q' =>
          rw [hi, hj] at e
          cases q with
          | list xs =>
            cases q' with
            | list ys => obtain ⟨hl, e⟩ := if_some1 e; exact .lst hi hj hl e
            | _ => exact nS e
          | _ => cases q' <;> exact nS e
    | _ => exact nS e
  | _ => exact nS e
theorem add_tup {xs ys : List AV} {ta tb : Addr} {items1 items2 : Array Value} {Q E : Value → Shared → Prop} (R : HRel G σ H s.heap) (t1 : s.heap.IsTuple ta items1) (n1 : ta ∉ σ) (r1 : RepVs s.heap σ xs items1.toList) (t2 : s.heap.IsTuple tb items2) (n2' : tb ∉ σ) (r2 : RepVs s.heap σ ys items2.toList) (hl : xs.length + ys.length ≤ 60000) (h : EP G s σ H (.tup (xs ++ ys)) Q) : wpAny (model G.prog G.w) A (binaryOp .Add (.ref ta) (.ref tb)) Q E s := by
  obtain ⟨⟨cls, dd, data, sl⟩, ho, hc, n, hd⟩ := id t1
  obtain ⟨⟨cls2, dd2, data2, sl2⟩, ho2, hc2, n2, hd2⟩ := id t2
  simp only at hc hd hc2 hd2
  subst hc hd hc2 hd2
  have l1 := r1.length
  have l2 := r2.length
  rw [Array.length_toList] at l1 l2
  by_cases hv : items1.isEmpty = true
  · have z : xs = [] := List.length_eq_zero_iff.mp (by rw [← l1]; simpa using hv)
    subst z
    exact concat_meets ⟨_, ho, rfl⟩ ⟨_, ho2, rfl⟩ noFill_tuple_add seq_tuple_add PySem.F.slot_tuple_add PySem.F.entry_tuple_add (PySem.F.args_tuple_add_2 _ _)
      (tuple_addW0 _ _ items1 items2 n n2 dd dd2 sl sl2 hv) ⟨ho, ho2, h.tick _ R (.tup t2 n2' r2)⟩
  · by_cases hw : items2.isEmpty = true
    · have z : ys = [] := List.length_eq_zero_iff.mp (by rw [← l2]; simpa using hw)
      subst z
      rw [List.append_nil] at h
      exact concat_meets ⟨_, ho, rfl⟩ ⟨_, ho2, rfl⟩ noFill_tuple_add seq_tuple_add PySem.F.slot_tuple_add PySem.F.entry_tuple_add (PySem.F.args_tuple_add_2 _ _)
        (tuple_addW1 _ _ items1 items2 n n2 dd dd2 sl sl2 hv hw) ⟨ho, ho2, h.tick _ R (.tup t1 n1 r1)⟩
    · refine concat_meets ⟨_, ho, rfl⟩ ⟨_, ho2, rfl⟩ noFill_tuple_add seq_tuple_add PySem.F.slot_tuple_add PySem.F.entry_tuple_add (PySem.F.args_tuple_add_2 _ _)
        (tuple_addW2 _ _ items1 items2 n n2 dd dd2 sl sl2 hv hw (by rw [sizeLine_eq, l1, l2]; exact Nat.le_trans hl (by decide))) ⟨ho, ho2, ?_⟩
      have k := push_keeps (h := s.heap) { cls := .type "tuple", data := .seq (items1 ++ items2) }
      refine h _ _ _ _ (.same k.1) (R.same k.1 (R.offge k.2)) (.tup ⟨_, Heap.get?_push_size _ rfl, rfl, 0, rfl⟩ R.new ?_)
      rw [Array.toList_append]
      exact (r1.append r2).ext (.same k.1) R
theorem add_lst {xs ys : List AV} {a b : Addr} {n n2 : Nat} {items1 items2 : Array Value} {Q E : Value → Shared → Prop} (R : HRel G σ H s.heap) (ga : s.heap.get? a = some (listOf items1 n)) (va : RepVs s.heap σ xs items1.toList) (gb : s.heap.get? b = some (listOf items2 n2)) (vb : RepVs s.heap σ ys items2.toList) (hl : xs.length + ys.length ≤ 60000) (h : EP G s σ (H ++ [.list (xs ++ ys)]) (.obj H.length) Q) : wpAny (model G.prog G.w) A (binaryOp .Add (.ref a) (.ref b)) Q E s := by
  have l1 := va.length
  have l2 := vb.length
  rw [Array.length_toList] at l1 l2
  refine concat_meets ⟨_, ga, rfl⟩ ⟨_, gb, rfl⟩ noFill_list_add seq_list_add PySem.F.slot_list_add PySem.F.entry_list_add (PySem.F.args_list_add_2 _ _) (list_addW _ _ items1 items2 n n2 none none #[] #[] (by rw [sizeLine_eq, l1, l2]; exact Nat.le_trans hl (by decide))) ⟨ga, gb, ?_⟩
  have x : Ext s.heap (s.heap.push { cls := .type "list", data := .seq (items1 ++ items2) }) σ (σ ++ [s.heap.objs.size]) := Ext.push _
  refine h _ _ _ _ x (R.push (.list (n := 0) (Heap.get?_push_size _ rfl) ?_)) (.obj R.last)
  rw [Array.toList_append]
  exact (va.append vb).ext x R
theorem op2_add : Op2Ok G .add (binaryOp .Add) := by
  intro A d s σ H a b av bv V H' ok room R ra rb e Q E h
  cases add_inv e with
  | int q =>
    cases ra using RepV.intE with | mk t =>
    cases rb using RepV.intE with | mk u => exact PyProof.Rows.add_int ((h.of2 q).tick _ R (.int _ _))
  | str hl q =>
    cases ra using RepV.strE with | mk t kx =>
    cases rb using RepV.strE with | mk u ky =>
    refine PyProof.Rows.add_str (fun t' tk => (h.of2 q).tick _ R (.str _ _ ?_)) (by rw [sizeLine_eq]; exact Nat.le_trans hl (by decide))
    unfold PyData.strOk at *
    rw [Str.cps_append, Array.all_append, kx, ky]; rfl
  | tup hl q =>
    cases ra using RepV.tupE with | @mk ta items1 t1 n1 r1 =>
    cases rb using RepV.tupE with | @mk tb items2 t2 n2' r2 => exact add_tup R t1 n1 r1 t2 n2' r2 hl (h.of2 q)
  | lst ei ej hl q =>
    cases ra using RepV.objE with | mk ea =>
    cases rb using RepV.objE with | mk eb =>
    cases R.rep _ _ _ ei ea using ORep.listE with | mk ga va =>
    cases R.rep _ _ _ ej eb using ORep.listE with | mk gb vb => exact add_lst R ga va gb vb hl (h.of2 q)
theorem in_seq {x : AV} {xv : Value} {ys : List AV} {c : Value} {b : Bool} (room : Room A d) (rx : RepV s.heap σ x xv) {vs : List Value} (ry : RepVs s.heap σ ys vs) (e : inVs x ys = some b)
    (hc : (∃ as, Reads s.heap c (.list (pys ys)) as) ∨ (∃ as, Reads s.heap c (.tuple (pys ys)) as)) :
    (∀ (Q E : Value → Shared → Prop), Q (.bool b) s → wpAny (model G.prog G.w) A (compareOp .In xv c) Q E s) ∧ (∀ (Q E : Value → Shared → Prop), Q (.bool (!b)) s → wpAny (model G.prog G.w) A (compareOp .NotIn xv c) Q E s) := by
  unfold inVs at e
  split at e
  · rename_i hp
    rw [Bool.and_eq_true] at hp
    cases e
    obtain ⟨bs, qx⟩ := rx.reads 50 hp.1
    have dx := py_depth _ _ hp.1
    have dy := pys_depth _ _ hp.2
    have hu : A.units + 1 + min (PyData.depthAll (pys ys)) (py x).depth < cLine := by
      have := room.u (k := 100) (by decide)
      have := Nat.min_le_right (PyData.depthAll (pys ys)) (py x).depth
      omega
    have e := any_py x 50 50 hp.1 ys hp.2
    rcases hc with ⟨as, hc⟩ | ⟨as, hc⟩
    · exact ⟨fun Q E k => in_list_reads hc qx ry.canLay rx.canLay hu (by rw [e]; exact k), fun Q E k => notIn_list_reads hc qx ry.canLay rx.canLay hu (by rw [e]; exact k)⟩
    · exact ⟨fun Q E k => in_tuple_reads hc qx ry.canLay rx.canLay hu (by rw [e]; exact k), fun Q E k => notIn_tuple_reads hc qx ry.canLay rx.canLay hu (by rw [e]; exact k)⟩
  · exact nS e
theorem inVs_pure {x : AV} {ys : List AV} {b : Bool} (e : inVs x ys = some b) : pureAs 50 ys = true := by
  unfold inVs at e
  split at e
  · rename_i hp; rw [Bool.and_eq_true] at hp; exact hp.2
  · exact nS e
theorem idx_tuple {value slice : PySem.Expr} {t : Addr} {items : Array Value} {i : Int} {u : Tok} {x : Value} {Q E : Value → Shared → Prop} (ht : s.heap.IsTuple t items) (h0 : 0 ≤ i) (h1 : i < 60000) (hx : items.toList[i.toNat]? = some x) (h : Q x s)
    (hs : ∀ a b c, subscripted slice false (.ref a) (.int b c) = operate [.ref a, .int b c] (getItem (.ref a) (.int b c))) :
    wpAny (model G.prog G.w) A (PyProof.Rows.subscriptTail value slice (.ref t) (.int i u)) Q E s := by
  have hl := (List.getElem?_eq_some_iff.mp hx).1
  refine item_tupleT (l := items.toList) (j := i.toNat) (by rw [Array.toArray_toList]; exact ht) (by omega) (by omega) ?_ hx h (hs _ _ _)
  unfold seqIndex?
  dsimp only
  rw [if_neg (by omega : ¬ i < 0), if_pos (by rw [decide_eq_true h0, decide_eq_true (by omega : i < (items.toList.length : Int))]; rfl)]
end
end Mine
end

section
open PySem PySem.W PyProof.Rows PySem.Calls PySem.Spec PySem.SeqAt
namespace Mine
noncomputable def sMap (ks : List (Str × AV)) : List (AV × AV) := ks.map fun p => (.str p.1, p.2)
noncomputable def iMap (ks : List (Int × AV)) : List (AV × AV) := ks.map fun p => (.int p.1, p.2)
section
variable {prog : Program} {w : World} {h : Heap} {σ : List Addr} {a : Addr}
theorem dictOf_nil {K K' : Type} [DecidableEq K] [DecidableEq K'] {knd : KeyKind prog w K} {knd' : KeyKind prog w K'} (r : h.DictOf knd a []) : h.DictOf knd' a [] := by
  obtain ⟨o, es, ep, g, x, d, _, p, _⟩ := r
  have e : es.toList = [] := by cases hq : es.toList with | nil => rfl | cons y ys => rw [hq] at p; cases p
  have e2 : es = #[] := by simpa using e
  subst e2
  exact ⟨o, #[], ep, g, x, d, fun _ he => by simp at he, .nil, List.nodup_nil⟩
theorem dictOf_ofT {K : Type} [DecidableEq K] {knd : KeyKind prog w K} (r : DictT prog w h a []) : h.DictOf knd a [] := by
  obtain ⟨o, es, ep, g, x, d, p, _, _⟩ := r
  have e2 : es = #[] := by simpa using p
  subst e2
  exact ⟨o, #[], ep, g, x, d, fun _ he => by simp at he, .nil, List.nodup_nil⟩
theorem dictT_of {K : Type} [DecidableEq K] {knd : KeyKind prog w K} (r : h.DictOf knd a []) : DictT prog w h a [] := by
  obtain ⟨o, es, ep, g, x, d, _, p, _⟩ := r
  have e : es.toList = [] := by cases hq : es.toList with | nil => rfl | cons y ys => rw [hq] at p; cases p
  exact ⟨o, es, ep, g, x, d, by rw [e]; rfl, (fun _ he => nomatch he), List.nodup_nil⟩
end
section
variable {G : Gd} {P : Pg} {d : Nat} {A : Around} {s : Shared} {h : Heap} {σ : List Addr} {H : AH} {a : Addr} {kvs : List (AV × AV)}
theorem tup_not_str {k : AV} (h : isTupKey k = true) : isStrKey k = false := by cases k <;> first | rfl | cases h
theorem tup_not_int {k : AV} (h : isTupKey k = true) : isIntKey k = false := by cases k <;> first | rfl | cases h
theorem dict_S (r : ORep G h σ (.dict kvs) a) (k : (kvs.all fun e => isStrKey e.1) = true) :
    ∃ ks vs, kvs = sMap ks ∧ h.DictOf (PySem.strKind G.prog G.w) a vs ∧ PRep h σ ks vs ∧ ∀ p ∈ ks, PyData.strOk p.1 = true := by
  cases r with
  | dictS x y z => exact ⟨_, _, rfl, x, y, z⟩
  | @dictI ks _ _ x y =>
    cases ks with
    | nil => cases y; exact ⟨[], [], rfl, dictOf_nil x, .nil, fun _ m => nomatch m⟩
    | cons p ks => simp [isStrKey] at k
  | @dictT _ vs _ x y _ =>
    cases kvs with
    | nil => cases y; exact ⟨[], [], rfl, dictOf_ofT x, .nil, fun _ m => nomatch m⟩
    | cons p ks =>
      exfalso
      cases y with
      | cons y1 y2 =>
        obtain ⟨o, es, ep, g, e, dd, q, is, _⟩ := x
        have := (is _ (.head _)).2
        simp only [List.all_cons, Bool.and_eq_true] at k
        exact absurd k.1 (by rw [tup_not_str this]; decide)
theorem dict_I (r : ORep G h σ (.dict kvs) a) (k : (kvs.all fun e => isIntKey e.1) = true) :
    ∃ ks vs, kvs = iMap ks ∧ h.DictOf (PySem.intKind G.prog G.w) a vs ∧ PRep h σ ks vs := by
  cases r with
  | dictI x y => exact ⟨_, _, rfl, x, y⟩
  | @dictS ks _ _ x y _ =>
    cases ks with
    | nil => cases y; exact ⟨[], [], rfl, dictOf_nil x, .nil⟩
    | cons p ks => simp [isIntKey] at k
  | @dictT _ vs _ x y _ =>
    cases kvs with
    | nil => cases y; exact ⟨[], [], rfl, dictOf_ofT x, .nil⟩
    | cons p ks =>
      exfalso
      cases y with
      | cons y1 y2 =>
        obtain ⟨o, es, ep, g, e, dd, q, is, _⟩ := x
        have := (is _ (.head _)).2
        simp only [List.all_cons, Bool.and_eq_true] at k
        exact absurd k.1 (by rw [tup_not_int this]; decide)
theorem dict_T (r : ORep G h σ (.dict kvs) a) (k : (kvs.all fun e => isTupKey e.1) = true) : ∃ vs, DictT G.prog G.w h a vs ∧ TRep h σ kvs vs ∧ ∀ p ∈ vs, RepV h σ p.1 (.ref p.2.1) := by
  cases r with
  | dictT x y z => exact ⟨_, x, y, z⟩
  | @dictS ks _ _ x y _ =>
    cases ks with
    | nil => cases y; exact ⟨[], dictT_of x, .nil, fun _ m => nomatch m⟩
    | cons p ks => simp [isTupKey] at k
  | @dictI ks _ _ x y =>
    cases ks with
    | nil => cases y; exact ⟨[], dictT_of x, .nil, fun _ m => nomatch m⟩
    | cons p ks => simp [isTupKey] at k
theorem find_P {K : Type} [DecidableEq K] (enc : K → AV) (he : ∀ x y, eqP (enc x) (enc y) = decide (x = y)) (x : K) {ks : List (K × AV)} {vs : List (K × Value)} (r : PRep h σ ks vs) :
    match dFind (enc x) (ks.map fun p => (enc p.1, p.2)) with
    | some V => ∃ v, valueAt vs x = some v ∧ RepV h σ V v
    | none => valueAt vs x = none := by
  induction r with
  | nil => rfl
  | @cons k V v ks vs a r ih =>
    rw [List.map_cons, dFind, he]
    by_cases hk : k = x
    · rw [decide_eq_true hk, if_pos rfl]
      exact ⟨v, by simp [valueAt, hk], a⟩
    · rw [decide_eq_false hk, if_neg Bool.false_ne_true]
      have e : valueAt ((k, v) :: vs) x = valueAt vs x := by simp [valueAt, List.find?_cons, hk]
      exact e ▸ ih
theorem put_P {K : Type} [DecidableEq K] (enc : K → AV) (he : ∀ x y, eqP (enc x) (enc y) = decide (x = y)) (x : K) {W : AV} {u : Value} (ru : RepV h σ W u) {ks : List (K × AV)} {vs : List (K × Value)} (r : PRep h σ ks vs) (hn : (vs.map (·.1)).Nodup) :
    ∃ ks', dPut (enc x) W (ks.map fun p => (enc p.1, p.2)) = ks'.map (fun p => (enc p.1, p.2)) ∧ PRep h σ ks' (stored vs x u) ∧ ∀ p ∈ ks', p.1 = x ∨ ∃ q ∈ ks, q.1 = p.1 := by
  induction r with
  | nil => exact ⟨[(x, W)], rfl, .cons ru .nil, fun p m => .inl (by rw [List.mem_singleton.mp m])⟩
  | @cons k V v ks vs a r ih =>
    rw [List.map_cons, List.nodup_cons] at hn
    rw [List.map_cons, dPut, he]
    by_cases hk : k = x
    · rw [decide_eq_true hk, if_pos rfl]
      subst hk
      have e : stored ((k, v) :: vs) k u = (k, u) :: vs := by
        unfold stored
        rw [if_pos (by simp), List.map_cons, if_pos rfl]
        congr 1
        have : ∀ p ∈ vs, ¬ p.1 = k := fun p m q => hn.1 (List.mem_map.mpr ⟨p, m, q⟩)
        conv => rhs; rw [← List.map_id vs]
        exact List.map_congr_left fun p m => by rw [if_neg (this p m)]; rfl
      exact ⟨(k, W) :: ks, rfl, e ▸ .cons ru r, fun p m => by
        cases m with
        | head => exact .inl rfl
        | tail _ m => exact .inr ⟨p, .tail _ m, rfl⟩⟩
    · rw [decide_eq_false hk, if_neg Bool.false_ne_true]
      obtain ⟨ks', e1, r', e2⟩ := ih hn.2
      have e : stored ((k, v) :: vs) x u = (k, v) :: stored vs x u := by
        unfold stored
        rw [List.any_cons]
        simp only [hk, decide_false, Bool.false_or]
        split
        · rw [List.map_cons, if_neg hk]
        · rfl
      refine ⟨(k, V) :: ks', by rw [e1]; rfl, e ▸ .cons a r', fun p m => ?_⟩
      cases m with
      | head => exact .inr ⟨(k, V), .head _, rfl⟩
      | tail _ m => exact (e2 p m).imp id fun ⟨q, m, z⟩ => ⟨q, .tail _ m, z⟩
theorem TRep.keys {vs : List (AV × Addr × Value)} (r : TRep h σ kvs vs) : vs.map (·.1) = kvs.map (·.1) := by
  induction r with
  | nil => rfl
  | cons _ _ ih => simp [ih]
open Classical in
theorem find_T (x : AV) (hx : cleanA x = true) {vs : List (AV × Addr × Value)} (r : TRep h σ kvs vs) (hc : ∀ p ∈ kvs, cleanA p.1 = true) :
    match dFind x kvs with
    | some V => ∃ b v, atKey vs x = some (b, v) ∧ RepV h σ V v
    | none => atKey vs x = none := by
  induction r with
  | nil => rfl
  | @cons k b V v ks vs a r ih =>
    have e := eqP_iff k x (hc _ (.head _)) hx
    rw [dFind]
    by_cases hk : k = x
    · rw [if_pos (e.mpr hk)]
      exact ⟨b, v, by simp [atKey, hk], a⟩
    · rw [if_neg (fun z => hk (e.mp z))]
      have e : atKey ((k, b, v) :: vs) x = atKey vs x := by simp [atKey, List.find?_cons, hk]
      exact e ▸ ih fun p m => hc p (.tail _ m)
open Classical in
theorem put_T (x : AV) (hx : cleanA x = true) {W : AV} {u : Value} {c : Addr} (ru : RepV h σ W u) {vs : List (AV × Addr × Value)} (r : TRep h σ kvs vs) (hc : ∀ p ∈ kvs, cleanA p.1 = true) (hn : (vs.map (·.1)).Nodup) :
    TRep h σ (dPut x W kvs) (storedH vs x c u) := by
  induction r with
  | nil => exact .cons ru .nil
  | @cons k b V v ks vs a r ih =>
    rw [List.map_cons, List.nodup_cons] at hn
    have e := eqP_iff k x (hc _ (.head _)) hx
    rw [dPut]
    by_cases hk : k = x
    · rw [if_pos (e.mpr hk)]
      subst hk
      have e : storedH ((k, b, v) :: vs) k c u = (k, b, u) :: vs := by
        unfold storedH
        rw [if_pos (by simp [atKey]), List.map_cons, map_putAt_of_not_mem vs k u hn.1]
        simp [putAt]
      rw [e]; exact .cons ru r
    · rw [if_neg (fun z => hk (e.mp z))]
      have e : storedH ((k, b, v) :: vs) x c u = (k, b, v) :: storedH vs x c u := by
        have q : atKey ((k, b, v) :: vs) x = atKey vs x := by simp [atKey, List.find?_cons, hk]
        unfold storedH
        rw [q]
        split
        · rw [List.map_cons]; simp [putAt, hk]
        · rfl
      rw [e]
      exact .cons a (ih (fun p m => hc p (.tail _ m)) hn.2)
theorem enc_str (x y : Str) : eqP (.str x) (.str y) = decide (x = y) := by
  rw [eqP_ss]
  by_cases h : x = y <;> simp [h]
theorem enc_int (x y : Int) : eqP (.int x) (.int y) = decide (x = y) := by
  rw [eqP_ii]
  by_cases h : x = y <;> simp [h]
theorem low_ne (R : HRel G σ H h) {a : Addr} {i : Nat} {o : AO} (ei : H[i]? = some o) (ea : σ[i]? = some a) (nf : o.fz = false) : (a == sysModules) = false := by
  rw [beq_eq_false_iff_ne]
  exact Nat.ne_of_gt (R.low _ _ _ ei ea nf).2
open Classical in
noncomputable def InBoth (G : Gd) (A : Around) (s : Shared) (xv c : Value) (b : Bool) : Prop :=
  (∀ (Q E : Value → Shared → Prop), (∀ tk, Q (.bool b) { s with toks := tk }) → wpAny (model G.prog G.w) A (compareOp .In xv c) Q E s) ∧
    (∀ (Q E : Value → Shared → Prop), (∀ tk, Q (.bool (!b)) { s with toks := tk }) → wpAny (model G.prog G.w) A (compareOp .NotIn xv c) Q E s)
noncomputable def Look (G : Gd) (A : Around) (s : Shared) (σ : List Addr) (kv : Value) (a : Addr) (o : Option AV) : Prop :=
  InBoth G A s kv (.ref a) o.isSome ∧ (∀ V, o = some V → ∀ (Q E : Value → Shared → Prop), (∀ v tk, RepV s.heap σ V v → Q v { s with toks := tk }) → wpAny (model G.prog G.w) A (getItem (.ref a) kv) Q E s)
theorem some_of {o : Option AV} {y : Option Value} (f : match o with
    | some V => ∃ v, y = some v ∧ RepV h σ V v
    | none => y = none) : y.isSome = o.isSome := by
  cases o with
  | none => rw [show y = none from f]; rfl
  | some V => obtain ⟨v, e, _⟩ := f; rw [e]; rfl
theorem some_ofT {o : Option AV} {y : Option (Addr × Value)} (f : match o with
    | some V => ∃ b v, y = some (b, v) ∧ RepV h σ V v
    | none => y = none) : y.isSome = o.isSome := by
  cases o with
  | none => rw [show y = none from f]; rfl
  | some V => obtain ⟨b, v, e, _⟩ := f; rw [e]; rfl
theorem look_S {x : Str} {t : Tok} (lo : (a == sysModules) = false) (r : ORep G s.heap σ (.dict kvs) a) (hk : (kvs.all fun e => isStrKey e.1) = true) : Look G A s σ (.str x t) a (dFind (.str x) kvs) := by
  obtain ⟨ks, vs, rfl, hD, rp, _⟩ := dict_S r hk
  have f := find_P (h := s.heap) (σ := σ) AV.str enc_str x rp
  have hm := hD.mapOf
  have e := some_of f
  refine ⟨⟨fun Q E h => wpAny_in_of (strKind_is _ _ _ _) lo hm (by rw [e]; exact h _), fun Q E h => wpAny_notIn_of (strKind_is _ _ _ _) lo hm (by rw [e]; exact h _)⟩, fun V q Q E h => ?_⟩
  rw [show dFind (.str x) (ks.map fun p => (.str p.1, p.2)) = some V from q] at f
  obtain ⟨v, e, rv⟩ := f
  exact wpAny_getItem_of (strKind_is _ _ _ _) hm e (h v _ rv)
theorem look_I {x : Int} {t : Tok} (lo : (a == sysModules) = false) (r : ORep G s.heap σ (.dict kvs) a) (hk : (kvs.all fun e => isIntKey e.1) = true) : Look G A s σ (.int x t) a (dFind (.int x) kvs) := by
  obtain ⟨ks, vs, rfl, hD, rp⟩ := dict_I r hk
  have f := find_P (h := s.heap) (σ := σ) AV.int enc_int x rp
  have hm := hD.mapOf
  have e := some_of f
  refine ⟨⟨fun Q E h => wpAny_in_of (intKind_is _ _ _ _) lo hm (by rw [e]; exact h _), fun Q E h => wpAny_notIn_of (intKind_is _ _ _ _) lo hm (by rw [e]; exact h _)⟩, fun V q Q E h => ?_⟩
  rw [show dFind (.int x) (ks.map fun p => (.int p.1, p.2)) = some V from q] at f
  obtain ⟨v, e, rv⟩ := f
  exact wpAny_getItem_of (intKind_is _ _ _ _) hm e (h v _ rv)
open Classical in
theorem look_T {xs : List AV} {b : Addr} (room : Room A d) (lo : (a == sysModules) = false) (r : ORep G s.heap σ (.dict kvs) a) (rk : RepV s.heap σ (.tup xs) (.ref b)) (hk : isTupKey (.tup xs) = true) (hk2 : (kvs.all fun e => isTupKey e.1) = true) : Look G A s σ (.ref b) a (dFind (.tup xs) kvs) := by
  have ck := tupKey_clean hk
  have hu : A.in1.units + 100 < cLine := by have := room.u (k := 300) (by decide); simp only [Around.in1_units]; omega
  have rk' : RepV s.heap [] (.tup xs) (.ref b) := RepV.bare 6 rk ck.2
  obtain ⟨vs, hD, rp, _⟩ := dict_T r hk2
  have f := find_T (h := s.heap) (σ := σ) _ ck.1 rp fun p m => (tupKey_clean (List.all_eq_true.mp hk2 p m)).1
  have e := some_ofT f
  refine ⟨⟨fun Q E h => wpAny_in_heap (knd := treeKind G.prog G.w) hu ⟨rk', hk⟩ lo hD (by rw [e]; exact h _), fun Q E h => PyProof.Rows.wpAny_notIn_heap (knd := treeKind G.prog G.w) hu ⟨rk', hk⟩ lo hD (by rw [e]; exact h _)⟩, fun V q Q E h => ?_⟩
  rw [q] at f
  obtain ⟨b', v, e, rv⟩ := f
  exact wpAny_getItem_heap (knd := treeKind G.prog G.w) hu ⟨rk', hk⟩ hD e (h v _ rv)
theorem dict_look {k : AV} {kv : Value} {o : Option AV} (ok : GdOk G) (room : Room A d) (R : HRel G σ H s.heap) {i : Nat} (ea : σ[i]? = some a) (ei : H[i]? = some (.dict kvs)) (rk : RepV s.heap σ k kv) (e : dGet k kvs = some o) : Look G A s σ kv a o := by
  have r := R.rep _ _ _ ei ea
  have lo := low_ne R ei ea rfl
  obtain ⟨hk, e⟩ := if_some1 (show (if keysOk k kvs = true then some (dFind k kvs) else none) = some o from e)
  obtain rfl := Option.some.inj e
  cases k with
  | str x => cases rk using RepV.strE with | mk t kx => exact look_S lo r hk
  | int x => cases rk using RepV.intE with | mk t => exact look_I lo r hk
  | tup xs =>
    have hk : (isTupKey (.tup xs) && kvs.all fun e => isTupKey e.1) = true := hk
    rw [Bool.and_eq_true] at hk
    have rk2 := rk
    cases rk using RepV.tupE with | @mk b items t nb rs => exact look_T room lo r rk2 hk.1 hk.2
  | _ => exact nomatch hk
inductive InT (H : AH) (a : AV) (x : Bool) : AV → Prop
  | tup {vs : List AV} (q : inVs a vs = some x) : InT H a x (.tup vs)
  | lst {i : Nat} {vs : List AV} (ei : H[i]? = some (.list vs)) (q : inVs a vs = some x) : InT H a x (.obj i)
  | dict {i : Nat} {kvs : List (AV × AV)} {o : Option AV} (ei : H[i]? = some (.dict kvs)) (q : dGet a kvs = some o) (e : o.isSome = x) : InT H a x (.obj i)
theorem inH_inv {a b : AV} {x : Bool} (q : inH H a b = some x) : InT H a x b := by
  cases b with
  | tup vs => exact .tup q
  | obj i =>
    replace q : (match H[i]? with
      | some (.list vs) => inVs a vs
      | some (.dict kvs) => (dGet a kvs).map (·.isSome)
      | _ => none) = some x := q
    cases hi : H[i]? with
    | none => rw [hi] at q; exact nS q
    | some o =>
      rw [hi] at q
      cases o with
      | list vs => exact .lst hi q
      | dict kvs => obtain ⟨o, q1, q2⟩ := Option.map_eq_some_iff.mp q; exact .dict hi q1 q2
      | _ => exact nS q
  | _ => exact nS q
theorem in_ref {a b : AV} {av bv : Value} {x : Bool} (ok : GdOk G) (room : Room A d) (R : HRel G σ H s.heap) (ra : RepV s.heap σ a av) (rb : RepV s.heap σ b bv) (q : inH H a b = some x) : InBoth G A s av bv x := by
  have seq : ∀ {vs : List AV} {us : List Value} {c : Value}, RepVs s.heap σ vs us → inVs a vs = some x → ((∃ as, Reads s.heap c (.list (pys vs)) as) ∨ (∃ as, Reads s.heap c (.tuple (pys vs)) as)) → InBoth G A s av c x := fun rs q hc =>
    And.intro (fun Q E k => (in_seq room ra rs q hc).1 Q E (k s.toks)) (fun Q E k => (in_seq room ra rs q hc).2 Q E (k s.toks))
  cases inH_inv q with
  | tup w =>
    cases rb using RepV.tupE with | @mk t items ht _ rs =>
    obtain ⟨as, qa⟩ := rs.reads 50 (inVs_pure w)
    obtain ⟨o, ho, hc, n, hd⟩ := ht
    exact seq rs w (.inr ⟨as, reads_tuple_at ho hc hd qa⟩)
  | lst ei w =>
    cases rb using RepV.objE with | mk eb =>
    cases R.rep _ _ _ ei eb using ORep.listE with | mk g rs =>
    obtain ⟨as, qa⟩ := rs.reads 50 (inVs_pure w)
    exact seq rs w (.inl ⟨_, reads_list_at g rfl rfl qa⟩)
  | dict ei w z =>
    cases rb using RepV.objE with | mk eb =>
    subst z
    exact (dict_look ok room R eb ei ra w).1
theorem op2_in : Op2Ok G .isIn (compareOp .In) := by
  intro A d s σ H a b av bv V H' ok room R ra rb e Q E h
  obtain ⟨x, q, rfl, rfl⟩ := bv_some (show Mine.bv H (inH H a b) = _ from e)
  exact (in_ref ok room R ra rb q).1 Q E (fun tk => h.tick tk R (.bool _))
theorem op2_notIn : Op2Ok G .notIn (compareOp .NotIn) := by
  intro A d s σ H a b av bv V H' ok room R ra rb e Q E h
  obtain ⟨x, q, rfl, rfl⟩ := bv_some (show Mine.bv H ((inH H a b).map (!·)) = _ from e)
  obtain ⟨y, q2, rfl⟩ := Option.map_eq_some_iff.mp q
  exact (in_ref ok room R ra rb q2).2 Q E (fun tk => h.tick tk R (.bool _))
inductive IdxT (H : AH) (o : AV × AH) : AV → AV → Prop
  | tup {vs : List AV} {i : Int} {v : AV} (hi : 0 ≤ i ∧ i < 60000) (q : vs[i.toNat]? = some v) (e : some (v, H) = some o) : IdxT H o (.tup vs) (.int i)
  | lst {j : Nat} {vs : List AV} {i : Int} {v : AV} (ei : H[j]? = some (.list vs)) (hi : 0 ≤ i ∧ i < 60000) (q : vs[i.toNat]? = some v) (e : some (v, H) = some o) : IdxT H o (.obj j) (.int i)
  | frz {j : Nat} {vs : List AV} {i : Int} {v : AV} (ei : H[j]? = some (.frz vs)) (hi : 0 ≤ i ∧ i < 60000) (q : vs[i.toNat]? = some v) (e : some (v, H) = some o) : IdxT H o (.obj j) (.int i)
  | dict {j : Nat} {kvs : List (AV × AV)} {k : AV} {v : AV} (ei : H[j]? = some (.dict kvs)) (q : dGet k kvs = some (some v)) (e : some (v, H) = some o) : IdxT H o (.obj j) k
theorem at_inv {vs : List AV} {i : Int} {o : AV × AH} (e : (if 0 ≤ i ∧ i < 60000 then (vs[i.toNat]?).map fun v => (v, H) else none) = some o) : (0 ≤ i ∧ i < 60000) ∧ ∃ v, vs[i.toNat]? = some v ∧ some (v, H) = some o := by
  obtain ⟨hi, e⟩ := if_some1 e
  obtain ⟨v, q, e⟩ := Option.map_eq_some_iff.mp e
  exact ⟨hi, v, q, congrArg some e⟩
theorem dg_inv {x : Option (Option AV)} {o : AV × AH} (e : (match x with
        | some (some v) => some (v, H)
        | _ => none) = some o) : ∃ v, x = some (some v) ∧ some (v, H) = some o := by
  cases x with
  | none => exact nS e
  | some y => cases y with
    | none => exact nS e
    | some v => exact ⟨v, rfl, e⟩
theorem idx_int {j : Nat} {i : Int} {o : AV × AH} (e : (match H[j]? with
      | some (.list vs) => if 0 ≤ i ∧ i < 60000 then (vs[i.toNat]?).map fun v => (v, H) else none
      | some (.dict kvs) => match dGet (.int i) kvs with
        | some (some v) => some (v, H)
        | _ => none
      | some (.frz vs) => if 0 ≤ i ∧ i < 60000 then (vs[i.toNat]?).map fun v => (v, H) else none
      | _ => none) = some o) : IdxT H o (.obj j) (.int i) := by
  cases hj : H[j]? with
  | none => rw [hj] at e; exact nS e
  | some x =>
    rw [hj] at e
    cases x with
    | dict kvs => obtain ⟨v, q, e⟩ := dg_inv e; exact .dict hj q e
    | list vs => obtain ⟨hi, v, q, e⟩ := at_inv e; exact .lst hj hi q e
    | frz vs => obtain ⟨hi, v, q, e⟩ := at_inv e; exact .frz hj hi q e
    | _ => exact nS e
theorem idx_oth {j : Nat} {k : AV} {o : AV × AH} (e : (match H[j]? with
      | some (.dict kvs) => match dGet k kvs with
        | some (some v) => some (v, H)
        | _ => none
      | _ => none) = some o) : IdxT H o (.obj j) k := by
  cases hj : H[j]? with
  | none => rw [hj] at e; exact nS e
  | some x =>
    rw [hj] at e
    cases x with
    | dict kvs => obtain ⟨v, q, e⟩ := dg_inv e; exact .dict hj q e
    | _ => exact nS e
theorem idx_inv {a b : AV} {o : AV × AH} (e : op2F .idx a b H = some o) : IdxT H o a b := by
  cases a with
  | tup vs =>
    cases b with
    | int i => obtain ⟨hi, v, q, e⟩ := at_inv e; exact .tup hi q e
    | _ => exact nS e
  | obj j =>
    cases b with
    | int i => exact idx_int e
    | _ => exact idx_oth e
  | _ => exact nS e
theorem idx_60 {i : Int} (h : i < 60000) : i < 2 ^ 63 := Int.lt_trans h (by decide)
theorem idx_dict {value slice : PySem.Expr} (hs : ∀ (a : Addr) (i : Value), subscripted slice false (.ref a) i = operate [.ref a, i] (getItem (.ref a) i)) (ok : GdOk G) (room : Room A d) (R : HRel G σ H s.heap) {o : Nat} {k V : AV} {kvs : List (AV × AV)} {a : Addr} {kv : Value} {Q E : Value → Shared → Prop} (ea : σ[o]? = some a) (ei : H[o]? = some (.dict kvs)) (rk : RepV s.heap σ k kv) (q : dGet k kvs = some (some V)) (h : EP G s σ H V Q) :
    wpAny (model G.prog G.w) A (PyProof.Rows.subscriptTail value slice (.ref a) kv) Q E s := by
  have hT : s.TypeIs (.ref a) "dict" := by
    cases R.rep _ _ _ ei ea with
    | dictS x _ _ => obtain ⟨o, _, _, e, x, _⟩ := x; exact ⟨o, e, x.1⟩
    | dictI x _ => obtain ⟨o, _, _, e, x, _⟩ := x; exact ⟨o, e, x.1⟩
    | dictT x _ _ => obtain ⟨o, _, _, e, x, _⟩ := x; exact ⟨o, e, x.1⟩
  exact tail_any hT slot_dict_getitem.lookup ((dict_look ok room R ea ei rk q).2 V rfl Q E fun v tk rv => h.tick tk R rv) (hs _ _)
theorem op2_idx {value slice : PySem.Expr} (hs : ∀ (a : Addr) (i : Value), subscripted slice false (.ref a) i = operate [.ref a, i] (getItem (.ref a) i)) : Op2Ok G .idx (PyProof.Rows.subscriptTail value slice) := by
  intro A d s σ H a b av bv V H' ok room R ra rb e Q E h
  cases idx_inv e with
  | tup hi q w =>
    cases ra using RepV.tupE with | @mk t items ht _ rs =>
    cases rb using RepV.intE with | mk tk =>
    obtain ⟨v, ev, rv⟩ := rs.get q
    exact idx_tuple ht hi.1 hi.2 ev ((h.of2 w).val R rv) fun _ _ _ => hs _ _
  | lst ei hi q w =>
    cases ra using RepV.objE with | mk ea =>
    cases rb using RepV.intE with | mk tk =>
    cases R.rep _ _ _ ei ea using ORep.listE with | @mk items n g rs =>
    obtain ⟨v, ev, rv⟩ := rs.get q
    rw [Array.getElem?_toList] at ev
    have hl : s.heap.IsList _ items := ⟨_, g, rfl, n, rfl⟩
    exact tail_any hl.typeIs slot_list_getitem.lookup (wpAny_getItem_list hl hi.1 (idx_60 hi.2) ev ((h.of2 w).val R rv)) (hs _ _)
  | frz ei hi q w =>
    cases ra using RepV.objE with | mk ea =>
    cases rb using RepV.intE with | mk tk =>
    cases R.rep _ _ _ ei ea with | @frz _ _ items g rs =>
    obtain ⟨v, ev, rv⟩ := rs.get q
    rw [Array.getElem?_toList] at ev
    exact tail_any (Heap.IsList.typeIs g) slot_list_getitem.lookup (wpAny_getItem_list g hi.1 (idx_60 hi.2) ev ((h.of2 w).val R rv)) (hs _ _)
  | dict ei q w =>
    cases ra using RepV.objE with | mk ea => exact idx_dict hs ok room R ea ei rb q (h.of2 w)
end
end Mine
end

section
open PySem PySem.W PyProof.Rows PySem.Calls PySem.Spec PySem.SeqAt
namespace Mine
section
variable {G : Gd} {P : Pg} {d : Nat} {sc : Scope} {ρ : List (Str × Nat)} {h : Heap} {σ : List Addr} {H : AH}
theorem FRep.look {w : World} {x : Str} {fs : List (Str × AV)} {es : List DictEntry} (r : FRep w h σ fs es) : match fs.lookup x with
    | some V => ∃ v, getL x es = some (some v) ∧ RepV h σ V v
    | none => getL x es = some none ∧ (es.any fun e => e.key.isStr x) = false := by
  have nk : es.any (·.refKey) = false := by
    induction r with
    | nil => rfl
    | cons _ _ ih => rw [List.any_cons, ih]; rfl
  have key : match fs.lookup x with
    | some V => ∃ e, es.find? (·.key.isStr x) = some e ∧ RepV h σ V e.val
    | none => es.find? (·.key.isStr x) = none := by
    clear nk
    induction r with
    | nil => rfl
    | @cons y t V v n fs es a r ih =>
      rw [List.lookup_cons]
      by_cases q : x = y
      · subst q
        simp only [beq_self_eq_true]
        refine ⟨_, List.find?_cons_of_pos ?_, a⟩
        show (x == x) = true
        exact beq_self_eq_true x
      · rw [beq_eq_false_iff_ne.mpr q]
        rw [List.find?_cons_of_neg (by show ¬ (y == x) = true; rw [beq_iff_eq]; exact fun z => q z.symm)]
        exact ih
  split at key
  · rename_i V q
    obtain ⟨e, a, b⟩ := key
    exact ⟨_, by unfold getL; rw [a], b⟩
  · refine ⟨by unfold getL; rw [key, nk]; rfl, ?_⟩
    rw [List.find?_eq_none] at key
    rw [List.any_eq_false]
    exact key
theorem RepV.handed {V : AV} {v : Value} (r : RepV h σ V v) : handedIn v = true := by cases r <;> rfl
theorem inst_at (R : HRel G σ H h) {i c dd : Nat} {a : Addr} {fs : List (Str × AV)} (ea : σ[i]? = some a) (ei : H[i]? = some (.inst c dd)) (ed : H[dd]? = some (.attrs fs)) :
    c < 3 ∧ ∃ dx es n, σ[dd]? = some dx ∧ h.get? dx = some (dictOf es n) ∧ FRep G.w h σ fs es ∧ h.get? a = some (instObj (G.ca c) dx) ∧ W.InstAt h a (instObj (G.ca c) dx) (G.ca c) (some (dictOf es n)) := by
  cases R.rep _ _ _ ei ea with
  | inst l q g =>
    cases R.rep _ _ _ ed q with
    | attrs g2 f => exact ⟨l, _, _, _, q, g2, f, g, ⟨g, rfl, rfl, g2⟩⟩
theorem HRel.K (R : HRel G σ H h) (ok : GdOk G) : G.K.In h := ok.K.keeps R.base
theorem ns_keeps {h h' : Heap} {a : Addr} {m : Str → Option Value} (k : ∀ b o, h.get? b = some o → h'.get? b = some o) (n : h.Ns a m) : h'.Ns a m :=
  let ⟨o, es, ep, e, r⟩ := n; ⟨o, es, ep, k _ _ e, r⟩
theorem ESim.fld {e : Expr} {attr : Str} {pos : Pos} {c : C} (he : ESim G P d sc ρ e c) (hf : attr ∈ fieldNames)
    (hv : ∀ env, eval (.Attribute e attr pos) env = (do
      let o ← eval e env
      standAt pos.atName
      let r ← holding [o] (getAttr o attr true)
      letTemporaryGo e o r
      pure r)) : ESim G P d sc ρ (.Attribute e attr pos) (.fld c attr) := by
  intro n A env s σ H loc V loc' H' hr S Q E h
  obtain ⟨n, hr⟩ := run_step hr
  obtain ⟨v, l, H1, h1, hr⟩ := vb_some hr
  split at hr
  · rename_i i
    split at hr
    · rename_i cc dd ei
      split at hr
      · rename_i fs ed
        split at hr
        · rename_i V' el
          replace h := EP.of h hr
          refine Attribute_any_ (he n A env s σ H loc _ _ _ h1 S _ _ fun av h' tk σ' x R rv => ?_) (hv env)
          cases rv using RepV.objE with | mk ea =>
          obtain ⟨l3, dx, es, m, q1, q2, q3, q4, I⟩ := inst_at R ea ei ed
          have fl := q3.look (x := attr)
          rw [el] at fl
          obtain ⟨v, f1, rv⟩ := fl
          have ck := S.ok.cls _ l3
          exact get_value (R.K S.ok) I ck.ga (findObj_own ck.hd (ck.fld _ hf) rfl f1) rv.handed (h _ _ _ _ x R rv)
        · exact nS hr
      · exact nS hr
    · exact nS hr
  · exact nS hr
theorem ESim.dict {pos : Pos} : ESim G P d sc ρ (.Dict [] [] pos) .dictE := by
  intro n A env s σ H loc V loc' H' hr S Q E h
  obtain ⟨n, hr⟩ := run_step hr
  dsimp only [runStep] at hr
  replace h := EP.of h hr
  refine wpAny_Dict_empty (h _ _ _ _ (Ext.push _) (S.rel.push (.dictS (ks := []) (Heap.DictOf.new _) .nil fun _ m => nomatch m)) (.obj S.rel.last))
noncomputable def RoomF (A : Around) (d : Nat) : Prop := A.handled = none ∧ A.depth + 6 * d + 14 < recursionLimit ∧ A.units + 60 * d + 440 < cLine
theorem Room.call {A : Around} {d : Nat} (r : Room A (d + 1)) : RoomF A d := ⟨r.1, by have := r.2.1; omega, by have := r.2.2; omega⟩
theorem RoomF.deeper {A : Around} {d : Nat} (r : RoomF A d) (env : Env) : Room (A.deeper env) d := ⟨r.1, by have := r.2.1; show A.depth + 1 + _ + _ < _; omega, by have := r.2.2; show A.units + 3 + _ + _ < _; omega⟩
theorem Room.made {A : Around} {d : Nat} (r : Room A (d + 1)) (C : Addr) (vs : List Value) : RoomF (A.under (.builtin "type.__call__" ⟨.ref C :: vs, []⟩)) d :=
  ⟨r.1, by have := r.2.1; show A.depth + 1 + _ + _ < _; omega, by
    have := r.2.2
    have e : (A.under (.builtin "type.__call__" ⟨.ref C :: vs, []⟩)).units = A.units + (Code.builtin "type.__call__" ⟨.ref C :: vs, []⟩).cUnits := rfl
    have e2 : (Code.builtin "type.__call__" ⟨.ref C :: vs, []⟩).cUnits ≤ 4 := by
      rw [Code.cUnits, show (Code.builtin "type.__call__" ⟨.ref C :: vs, []⟩).frames = 0 by kernel_rfl]
      decide
    omega⟩
noncomputable def FSim (G : Gd) (P : Pg) (d f : Nat) : Prop :=
  ∀ (n : Nat) (A : Around) (s : Shared) (σ : List Addr) (H : AH) (Vs : List AV) (vs : List Value) (loc : Loc) (V : AV) (loc' : Loc) (H' : AH),
    callBody P (run P n) d f Vs loc H = some (.val V, loc', H') → GdOk G → RoomF A d → HRel G σ H s.heap → RepVs s.heap σ Vs vs → ∀ (R : Result → Shared → Prop), EP G s σ H' V (fun v s' => R (.ok (.ret v)) s') →
      codeAny (model G.prog G.w) A (.call (.ref (G.fa f)) ⟨vs, []⟩) R s
noncomputable def AllF (G : Gd) (P : Pg) (d : Nat) : Prop := ∀ d', d = d' + 1 → ∀ f, FSim G P d' f
theorem FSim.call {f : Nat} (F : FSim G P d f) {n : Nat} {A : Around} {s : Shared} {σ : List Addr} {H : AH} {Vs : List AV} {vs : List Value} {loc : Loc} {V : AV} {loc' : Loc} {H' : AH}
    (e : callBody P (run P n) d f Vs loc H = some (.val V, loc', H')) (ok : GdOk G) (r : RoomF A d) (R : HRel G σ H s.heap) (rv : RepVs s.heap σ Vs vs) {Q E : Value → Shared → Prop} (k : EP G s σ H' V Q) :
    wpAny (model G.prog G.w) A (call (.ref (G.fa f)) vs) Q E s :=
  wpAny_call (F n A s σ H Vs vs loc V loc' H' e ok r R rv _ k)
structure Args (G : Gd) (P : Pg) (d : Nat) (sc : Scope) (ρ : List (Str × Nat)) (es : List Expr) (c : C) : Prop where
  sim : LSim G P d sc ρ es c
  nil : es = [] → c = .nil
  ways : ∀ env pos, (es = [] ∧ backTo pos (starEach es env) = []) ∨ ∃ x r, backTo pos (starEach es env) = (false, x) :: r ∧ r.any (·.1) = false
theorem Args.none : Args G P d sc ρ [] .nil := ⟨LSim.nil, fun _ => rfl, fun _ _ => .inl ⟨rfl, rfl⟩⟩
theorem Args.cons {e : Expr} {es : List Expr} {a r : C} (he : ESim G P d sc ρ e a) (hes : Args G P d sc ρ es r) (hs : ∀ env, starEach (e :: es) env = (false, eval e env) :: starEach es env) : Args G P d sc ρ (e :: es) (.cons a r) :=
  ⟨LSim.cons he hes.sim hs, (fun h => nomatch h), fun env pos => .inr ⟨eval e env, backTo pos (starEach es env), by rw [hs env]; rfl, by
    rcases hes.ways env pos with ⟨_, e⟩ | ⟨x, r, e, q⟩
    · rw [e]; rfl
    · rw [e, List.any_cons, q]; rfl⟩⟩
noncomputable def KeepOk (M : Model) (P : Heap → Prop) (f : Value) : Prop := (∀ h, P h → ∃ k, (k = Keeper.frame ∨ k = Keeper.machine ∨ k = Keeper.boundFrame) ∧ Looks M h (keeperOf f) k)
theorem Args.run {es : List Expr} {c : C} (a : Args G P d sc ρ es c) {n : Nat} {A : Around} {env : Env} {s : Shared} {σ : List Addr} {H : AH} {loc : Loc} {V : AV} {loc' : Loc} {H' : AH}
    (hr : Mine.run P n d c loc H = some (.val V, loc', H')) (S : St G d sc ρ A env s σ H loc) {pos : Pos} {f : Value} {PH : Heap → Prop} (hk : KeepOk (model G.prog G.w) PH f) {first : List Value} {Q E : Value → Shared → Prop}
    (h : ∀ Vs, V = .tup Vs → EPs G s σ H' Vs es.length (fun vs s₁ => PH s₁.heap ∧ wpAny (model G.prog G.w) A (call f (first ++ vs)) Q E s₁)) :
    wpAny (model G.prog G.w) A (callWith pos f first (backTo pos (starEach es env)) []) Q E s := by
  rcases a.ways env pos with ⟨e, q⟩ | ⟨x, r, q, p⟩
  · subst e
    have := a.nil rfl
    subst this
    rcases n with _ | n
    · exact nS hr
    dsimp only [run_succ, runStep] at hr
    cases hr
    rw [q]
    exact callWith_of rfl hk (evalArgs_nil3 (h [] rfl [] s.heap s.toks σ .refl S.rel .nil rfl))
  · have z := a.sim n A env s σ H loc V loc' H' hr S pos _ E h
    rw [q] at z ⊢
    exact callWith_of (by rw [List.any_cons, p]; rfl) hk (evalArgs_plain z)
end
end Mine
end

section
open PySem PySem.W PyProof.Rows PySem.Calls PySem.Spec PySem.SeqAt
namespace Mine
section
variable {G : Gd} {P : Pg} {d : Nat} {sc : Scope} {ρ : List (Str × Nat)} {h : Heap} {σ : List Addr} {H : AH}
theorem name_glob {A : Around} {env : Env} {s : Shared} {loc : Loc} {x : Str} {v : Value} {pos : Pos} {Q E : Value → Shared → Prop} (S : St G d sc ρ A env s σ H loc) (hk : sc.names.lookup x = some .globalImplicit)
    (e : nsIn G.K mainGlobals x = some (some v)) (hd : (x == ("__debug__" : Str)) = false) (h : Q v s) : wpAny (model G.prog G.w) A (eval (.Name x pos) env) Q E s := by
  have hg : s.heap.Ns env.globals G.mg := by rw [S.ev.g]; exact ns_keeps S.rel.base S.ok.g
  exact Name_function_global S.ev.fk ((S.ev.kindOf x).trans hk) (loadGlobal_global hg (mg_of S.ok.K S.ok.g e) h) hd
theorem name_blt {A : Around} {env : Env} {s : Shared} {loc : Loc} {x : Str} {v : Value} {pos : Pos} {Q E : Value → Shared → Prop} (S : St G d sc ρ A env s σ H loc) (hk : sc.names.lookup x = some .globalImplicit)
    (e : nsIn G.K mainGlobals x = some none) (hn : x ≠ "__name__") (hv : bootBuiltins x = some v) (hd : (x == ("__debug__" : Str)) = false) (h : Q v s) : wpAny (model G.prog G.w) A (eval (.Name x pos) env) Q E s := by
  have hg : s.heap.Ns env.globals G.mg := by rw [S.ev.g]; exact ns_keeps S.rel.base S.ok.g
  have hb : s.heap.Ns env.builtins G.mb := by rw [S.ev.b]; exact ns_keeps S.rel.base S.ok.b
  exact Name_function_global S.ev.fk ((S.ev.kindOf x).trans hk) (loadGlobal_builtin hg (mg_none_of S.ok.K S.ok.g e) hb ((S.ok.blt x hn).trans hv) h) hd
theorem ESim.most {pos : Pos} (hk : sc.names.lookup ("MOST_PARTS" : Str) = some .globalImplicit) : ESim G P d sc ρ (.Name "MOST_PARTS" pos) (.lit (.int 4000)) := by
  intro n A env s σ H loc V loc' H' hr S Q E h
  obtain ⟨n, hr⟩ := run_step hr
  dsimp only [runStep] at hr
  replace h := EP.of h hr
  obtain ⟨t, e⟩ := S.ok.mst
  exact name_glob S hk e (by decide) (h.here S.rel (.int _ _))
theorem EPs.ext {s : Shared} {σ' : List Addr} {h' : Heap} {tk : Nat} {H'' : AH} {Vs : List AV} {m : Nat} {Q : List Value → Shared → Prop} (h : EPs G s σ H'' Vs m Q) (x : Ext s.heap h' σ σ') : EPs G { s with heap := h', toks := tk } σ' H'' Vs m Q :=
  fun v h'' tk' σ'' x' R r => h v h'' tk' σ'' (x.trans x') R r
theorem keep_ok {M : Model} {f : Value} (hk : keepIn G.K f = true) : KeepOk M (fun h => G.K.In h) f := fun h X => keeps_K hk h X
theorem args_some {a : AV} {d : Nat} {k : List AV → Nat → Option Out} {o : Out} (h : (match a, d with | .tup vs, d' + 1 => k vs d' | _, _ => none) = some o) : ∃ vs d', a = .tup vs ∧ d = d' + 1 := by
  split at h
  · exact ⟨_, _, rfl, rfl⟩
  · exact nS h
theorem ESim.callF {x : Str} {f : Nat} {args : List Expr} {c : C} {p pos : Pos} (hF : AllF G P d) (hx : (x, f) ∈ globTab) (hk : sc.names.lookup x = some .globalImplicit) (hd : (x == ("__debug__" : Str)) = false) (ha : Args G P d sc ρ args c) :
    ESim G P d sc ρ (.Call (.Name x p) args [] pos) (.callF f c) := by
  intro n A env s σ H loc V loc' H' hr S Q E h
  obtain ⟨n, hr⟩ := run_step hr
  obtain ⟨v, l, H1, h1, hr⟩ := vb_some hr
  obtain ⟨vs, d', rfl, rfl⟩ := args_some hr
  · dsimp only at hr
    have hf : f < 36 := by
      have : ∀ e ∈ globTab, e.2 < 36 := by decide
      exact this _ hx
    refine wpAny_Call_NameR (name_glob S hk (S.ok.glo _ hx) hd ?_)
    refine ha.run h1 S (keep_ok (S.ok.fns f hf).2) fun Vs e => ?_
    cases e
    intro vv h' tk σ' x R rs _
    exact ⟨R.K S.ok, (hF d' rfl f).call hr S.ok S.room.call R rs (EP.ext h x)⟩
theorem lookup_mem {a : Nat} {m : Str} {f : Nat} (P0 : Nat → Str → Option Nat) (e : P0 a m = some f) (q : ∀ a m, P0 a m = (mtTab.find? fun x => x.1 == a && x.2.1 == m).map (·.2.2)) : (a, m, f) ∈ mtTab := by
  rw [q] at e
  obtain ⟨⟨u, w, z⟩, e1, rfl⟩ := Option.map_eq_some_iff.mp e
  have := List.find?_some e1
  simp only [Bool.and_eq_true, beq_iff_eq] at this
  obtain ⟨rfl, rfl⟩ := this
  exact List.mem_of_find?_eq_some e1
structure PgOk (P : Pg) : Prop where
  mt : ∀ a m, P.mt a m = (mtTab.find? fun x => x.1 == a && x.2.1 == m).map (·.2.2)
  ct : ∀ k, P.ct k = (initTab[k]?).map fun e => (e.1, e.2)
theorem ESim.callM {o : Expr} {name : Str} {args : List Expr} {co c : C} {apos pos : Pos} {pl : Env → Sem Bool} (hF : AllF G P d) (hP : PgOk P) (ho : ESim G P d sc ρ o co) (ha : Args G P d sc ρ args c)
    (he : ∀ env, eval (.Call (.Attribute o name apos) args [] pos) env = (do
      let ov ← eval o env
      standAt apos.atName
      let (f, first) ← holding [ov] (getMethod ov name (pl env))
      callWith pos f first (backTo pos (starEach args env)) (backToKw pos (keywordEach [] env)))) :
    ESim G P d sc ρ (.Call (.Attribute o name apos) args [] pos) (.callM co name c) := by
  intro n A env s σ H loc V loc' H' hr S Q E h
  obtain ⟨n, hr⟩ := run_step hr
  obtain ⟨v, l, H1, h1, hr⟩ := vb_some hr
  split at hr
  · rename_i i
    split at hr
    · rename_i cc dd ei
      split at hr
      · rename_i f ep
        unfold pickM at ep
        split at ep
        · rename_i fs ed
          split at ep
          · rename_i hn
            obtain ⟨w, l2, H2, h2, hr⟩ := vb_some hr
            obtain ⟨vs, d', rfl, rfl⟩ := args_some hr
            · dsimp only at hr
              refine methodCall_KW (ho n A env s σ H loc _ _ _ h1 S _ _ fun av h' tk σ' x R rv => ?_) (he env)
              cases rv using RepV.objE with | @mk a ea =>
              have hm := lookup_mem P.mt ep hP.mt
              obtain ⟨l3, dx, es, m, q1, q2, q3, q4, I⟩ := inst_at R ea ei ed
              have ck := S.ok.cls _ l3
              have hf : f < 36 := by
                have : ∀ e ∈ mtTab, e.2.2 < 36 := by decide
                exact this _ hm
              have fl := q3.look (x := name)
              rw [Option.isNone_iff_eq_none.mp hn] at fl
              refine method_fn (R.K S.ok) I ck.ga ck.gk (S.ok.mth _ hm) (S.ok.fns f hf).1 (by show (lookIn name (dictOf es m)).map _ = _; rw [lookIn_dict, fl.1]; rfl) ?_
              refine ha.run h2 (S.ext x R) (keep_ok (S.ok.fns f hf).2) fun Vs e => ?_
              cases e
              intro vv h'' tk' σ'' x' R' rs _
              exact ⟨R'.K S.ok, (hF d' rfl f).call hr S.ok S.room.call R' (.cons (.obj (x'.at ea)) rs) (EP.ext (EP.ext h x) x')⟩
          · cases ep
        · cases ep
      · exact nS hr
    · exact nS hr
  · exact nS hr
theorem codeAny_mono' {M : Model} {A : Around} {c : Code} {R R' : Result → Shared → Prop} {s : Shared} (h : codeAny M A c R s) (k : ∀ r s', R r s' → R' r s') : codeAny M A c R' s := codeAny_mono h k
theorem ESim.new {x : Str} {k : Nat} {args : List Expr} {c : C} {p pos : Pos} (hF : AllF G P d) (hP : PgOk P) (hx : (x, k) ∈ clsTab) (hk : sc.names.lookup x = some .globalImplicit) (hd : (x == ("__debug__" : Str)) = false) (ha : Args G P d sc ρ args c) :
    ESim G P d sc ρ (.Call (.Name x p) args [] pos) (.new k c) := by
  intro n A env s σ H loc V loc' H' hr S Q E h
  obtain ⟨n, hr⟩ := run_step hr
  dsimp only [runStep] at hr
  split at hr
  · rename_i cc f hct
    obtain ⟨v, l, H1, h1, hr⟩ := vb_some hr
    obtain ⟨vs, d', rfl, rfl⟩ := args_some hr
    · dsimp only at hr
      split at hr
      · rename_i l2 H2 hc
        replace h := EP.of h hr
        rw [hP.ct] at hct
        obtain ⟨e, he, hf⟩ := Option.map_eq_some_iff.mp hct
        have hm := List.mem_of_getElem? he
        obtain ⟨cc, f⟩ := e
        cases hf
        have hcc : cc = k ∧ cc < 3 ∧ f < 36 := by
          have : ∀ k, k < 3 → ∀ e, initTab[k]? = some e → e.1 = k ∧ e.1 < 3 ∧ e.2 < 36 := by decide
          have h3 : ∀ e ∈ clsTab, e.2 < 3 := by decide
          exact this k (h3 _ hx) _ he
        obtain ⟨rfl, l3, hf⟩ := hcc
        have ck := S.ok.cls _ l3
        refine wpAny_Call_NameR (name_glob S hk (S.ok.clg _ hx) hd ?_)
        refine ha.run h1 S (keep_ok ck.keep) fun Vs e => ?_
        cases e
        intro vv h' tk σ' x' R rs _
        refine ⟨R.K S.ok, wpAny_call ?_⟩
        have X := R.K S.ok
        have x2 : Ext h' ((h'.push emptyDict).push (instObj (G.ca cc) h'.objs.size)) σ' ((σ' ++ [h'.objs.size]) ++ [(h'.push emptyDict).objs.size]) := (Ext.push emptyDict).trans (Ext.push _)
        have R1 : HRel G (σ' ++ [h'.objs.size]) (H1 ++ [.attrs []]) (h'.push emptyDict) := R.push (.attrs (es := []) (n := 0) (Heap.get?_push_size _ rfl) .nil)
        have R2 : HRel G ((σ' ++ [h'.objs.size]) ++ [(h'.push emptyDict).objs.size]) ((H1 ++ [.attrs []]) ++ [.inst cc H1.length]) ((h'.push emptyDict).push (instObj (G.ca cc) h'.objs.size)) :=
          R1.push (.inst l3 (by rw [List.getElem?_append_left (by simp [R.len])]; exact R.last) (Heap.get?_push_size _ rfl))
        refine make_core (makes_of X ck.mkd) (looks_findIn X (S.ok.ini _ hm)) (fun self => bind_fn X self (S.ok.fns f hf).1) (.inl rfl) ?_
        have hl : H1 ++ [AO.attrs [], AO.inst cc H1.length] = (H1 ++ [.attrs []]) ++ [.inst cc H1.length] := by simp
        rw [hl] at hc
        have obj : ((σ' ++ [h'.objs.size]) ++ [(h'.push emptyDict).objs.size])[H1.length + 1]? = some (h'.objs.size + 1) := by
          have := R1.last (a := (h'.push emptyDict).objs.size)
          rw [Heap.size_push] at this ⊢
          rw [List.length_append] at this
          exact this
        refine codeAny_mono (hF d' rfl f _ _ ⟨_, s.gens, s.drawn, tk, s.os⟩ _ _ _ _ _ _ _ _ hc S.ok (S.room.made _ _) R2 (.cons (.obj obj) (rs.ext x2 R)) (InitBack (h'.objs.size + 1) _) ?_) fun _ _ z => z
        intro v h3 tk3 σ3 x3 R3 r3
        cases r3
        exact ⟨rfl, h _ _ _ _ ((x'.trans x2).trans x3) R3 (.obj (x3.at obj))⟩
      · exact nS hr
  · exact nS hr
end
end Mine
end

section
open PySem PySem.W PyProof.Rows PySem.Calls PySem.Spec PySem.SeqAt
namespace Mine
structure XExt (env : Env) (h h' : Heap) (σ σ' : List Addr) : Prop where
  grow : ∃ ν, σ' = σ ++ ν ∧ ∀ a ∈ ν, h.get? a = none
  keep : ∀ b o, h.get? b = some o → b ∉ σ → b ≠ env.locals → (∀ x, env.cells.lookup x ≠ some b) → h'.get? b = some o
  live : ∀ b o, h.get? b = some o → ∃ o', h'.get? b = some o'
inductive FlowIs (h : Heap) (σ : List Addr) : Res → Flow → Prop
  | next : FlowIs h σ .next .next
  | cont : FlowIs h σ .cont .cont
  | ret {V : AV} {v : Value} : RepV h σ V v → FlowIs h σ (.ret V) (.ret v)
section
variable {G : Gd} {P : Pg} {d : Nat} {sc : Scope} {ρ : List (Str × Nat)} {A : Around} {env : Env} {s : Shared} {h h' h'' : Heap} {σ σ' σ'' : List Addr} {H H' H'' : AH} {loc loc' : Loc} {tk : Nat}
theorem Ext.x (x : Ext h h' σ σ') : XExt env h h' σ σ' := ⟨x.grow, fun b o e n _ _ => x.keep b o e n, x.live⟩
theorem XExt.trans (a : XExt env h h' σ σ') (b : XExt env h' h'' σ' σ'') : XExt env h h'' σ σ'' := by
  obtain ⟨ν, e, l⟩ := a.grow
  obtain ⟨ν', e', l'⟩ := b.grow
  subst e e'
  refine ⟨⟨ν ++ ν', by simp, fun x m => ?_⟩, fun x o q n m1 m2 => b.keep x o (a.keep x o q n m1 m2) ?_ m1 m2, fun x o q => let ⟨o', q'⟩ := a.live x o q; b.live x o' q'⟩
  · rcases List.mem_append.mp m with m | m
    · exact l x m
    · cases e : h.get? x with
      | none => rfl
      | some o =>
        obtain ⟨o', q⟩ := a.live x o e
        rw [l' x m] at q
        exact nS q
  · rw [List.mem_append]
    rintro (m | m)
    · exact n m
    · rw [l x m] at q; cases q
theorem XExt.but (a : XExt env h h' σ σ') (k : ∀ b o, (∃ o', h.get? b = some o') → h'.get? b = some o → h''.get? b = some o) : XExt env h h'' σ σ' :=
  ⟨a.grow, fun b o e n m1 m2 => k b o ⟨o, e⟩ (a.keep b o e n m1 m2), fun b o e => let ⟨o', q⟩ := a.live b o e; ⟨o', k b o' ⟨o, e⟩ q⟩⟩
theorem Ext.but (a : Ext h h' σ σ') (k : ∀ b o, (∃ o', h.get? b = some o') → h'.get? b = some o → h''.get? b = some o) : Ext h h'' σ σ' :=
  ⟨a.grow, fun b o e n => k b o ⟨o, e⟩ (a.keep b o e n), fun b o e => let ⟨o', q⟩ := a.live b o e; ⟨o', k b o' ⟨o, e⟩ q⟩⟩
noncomputable def XP (G : Gd) (env : Env) (ρ : List (Str × Nat)) (s : Shared) (σ : List Addr) (r : Res) (loc' : Loc) (H' : AH) (Q : Flow → Shared → Prop) : Prop :=
  ∀ fl h' tk σ', XExt env s.heap h' σ σ' → HRel G σ' H' h' → LRel G env ρ loc' h' σ' → FlowIs h' σ' r fl → Q fl { s with heap := h', toks := tk }
theorem XP.of {r r1 : Res} {l : Loc} {H1 : AH} {Q : Flow → Shared → Prop} (h : XP G env ρ s σ r loc' H' Q) (e : some (r1, l, H1) = some (r, loc', H')) : XP G env ρ s σ r1 l H1 Q := by
  cases e; exact h
theorem XP.ext {r : Res} {Q : Flow → Shared → Prop} (p : XP G env ρ s σ r loc' H'' Q) (x : XExt env s.heap h' σ σ') : XP G env ρ { s with heap := h', toks := tk } σ' r loc' H'' Q :=
  fun fl h'' tk' σ'' x' R L f => p fl h'' tk' σ'' (x.trans x') R L f
theorem XP.here {r : Res} {fl : Flow} {Q : Flow → Shared → Prop} (p : XP G env ρ s σ r loc H Q) (S : St G d sc ρ A env s σ H loc) (f : FlowIs s.heap σ r fl) : Q fl s := p fl s.heap s.toks σ Ext.refl.x S.rel S.lr f
noncomputable def SSim (G : Gd) (P : Pg) (d : Nat) (sc : Scope) (ρ : List (Str × Nat)) (st : Stmt) (c : C) : Prop :=
  ∀ (n : Nat) (A : Around) (env : Env) (s : Shared) (σ : List Addr) (H : AH) (loc : Loc) (r : Res) (loc' : Loc) (H' : AH),
    run P n d c loc H = some (r, loc', H') → St G d sc ρ A env s σ H loc → ∀ (Q : Flow → Shared → Prop) (E : Value → Shared → Prop), XP G env ρ s σ r loc' H' Q → wpAny (model G.prog G.w) A (exec st env) Q E s
noncomputable def XSim (G : Gd) (P : Pg) (d : Nat) (sc : Scope) (ρ : List (Str × Nat)) (ss : List Stmt) (c : C) : Prop :=
  ∀ (n : Nat) (A : Around) (env : Env) (s : Shared) (σ : List Addr) (H : AH) (loc : Loc) (r : Res) (loc' : Loc) (H' : AH),
    run P n d c loc H = some (r, loc', H') → St G d sc ρ A env s σ H loc → ∀ (Q : Flow → Shared → Prop) (E : Value → Shared → Prop), XP G env ρ s σ r loc' H' Q → wpAny (model G.prog G.w) A (execs ss env) Q E s
theorem St.x (S : St G d sc ρ A env s σ H loc) (R : HRel G σ' H' h') (L : LRel G env ρ loc' h' σ') : St G d sc ρ A env { s with heap := h', toks := tk } σ' H' loc' := ⟨S.ok, S.room, S.ev, R, L⟩
theorem XSim.nil : XSim G P d sc ρ [] .skip := by
  intro n A env s σ H loc r loc' H' hr S Q E h
  obtain ⟨n, hr⟩ := run_step hr
  dsimp only [runStep] at hr
  replace h := XP.of h hr
  exact wpAny_execs_nil (h.here S .next)
theorem XSim.cons {st : Stmt} {ss : List Stmt} {a b : C} (h1 : SSim G P d sc ρ st a) (h2 : XSim G P d sc ρ ss b) : XSim G P d sc ρ (st :: ss) (.seq a b) := by
  intro n A env s σ H loc r loc' H' hr S Q E h
  obtain ⟨n, hr⟩ := run_step hr
  dsimp only [runStep] at hr
  split at hr
  · rename_i l2 H2 q
    refine wpAny_execs_cons (h1 n A env s σ H loc _ _ _ q S _ _ fun fl h' tk σ' x R L f => ?_)
    cases f
    exact h2 n A env _ σ' H2 l2 _ _ _ hr (S.x R L) _ _ (XP.ext h x)
  · exact nS hr
  · rename_i n1 n2
    refine wpAny_execs_cons (h1 n A env s σ H loc _ _ _ hr S _ _ fun fl h' tk σ' x R L f => ?_)
    cases f with
    | next => exact absurd hr (n1 _ _)
    | cont => exact h _ _ _ _ x R L .cont
    | ret rv => exact h _ _ _ _ x R L (.ret rv)
theorem SSim.ret {e : Expr} {c : C} {pos : Pos} (he : ESim G P d sc ρ e c) : SSim G P d sc ρ (.Return (some e) pos) (.ret c) := by
  intro n A env s σ H loc r loc' H' hr S Q E h
  obtain ⟨n, hr⟩ := run_step hr
  obtain ⟨v, l, H1, h1, hr⟩ := vb_some hr
  replace h := XP.of h hr
  exact wpAny_Return_some (he n A env s σ H loc _ _ _ h1 S _ _ fun v h' tk σ' x R rv => h _ _ _ _ x.x R (S.lr.ext x S.rel) (.ret rv))
theorem SSim.expr {e : Expr} {c : C} {pos : Pos} (he : ESim G P d sc ρ e c) (hi : ∀ env : Env, env.scope.kind = .function → interactive env = false) (hs : ∀ env, swapsWith e none pos.line env = pure false) : SSim G P d sc ρ (.Expr e pos) (.expr c) := by
  intro n A env s σ H loc r loc' H' hr S Q E h
  obtain ⟨n, hr⟩ := run_step hr
  obtain ⟨v, l, H1, h1, hr⟩ := vb_some hr
  refine wpAny_Expr (he n A env s σ H loc _ _ _ h1 S _ _ fun v h' tk σ' x R rv => ?_) (hi env S.ev.fk) (hs env)
  cases rv with
  | tup _ _ => exact nS hr
  | obj _ => exact nS hr
  | none => exact XP.of h hr _ _ _ _ x.x R (S.lr.ext x S.rel) .next
  | bool _ => exact XP.of h hr _ _ _ _ x.x R (S.lr.ext x S.rel) .next
  | int _ _ => exact XP.of h hr _ _ _ _ x.x R (S.lr.ext x S.rel) .next
  | str _ _ _ => exact XP.of h hr _ _ _ _ x.x R (S.lr.ext x S.rel) .next
theorem SSim.cont {pos : Pos} : SSim G P d sc ρ (.Continue pos) .cont := by
  intro n A env s σ H loc r loc' H' hr S Q E h
  obtain ⟨n, hr⟩ := run_step hr
  dsimp only [runStep] at hr
  replace h := XP.of h hr
  exact wpAny_Continue (h.here S .cont)
theorem SSim.iff {t : Expr} {a b : List Stmt} {ct ca cb : C} {pos : Pos} (ht : TSim G P d sc ρ t ct) (ha : XSim G P d sc ρ a ca) (hb : XSim G P d sc ρ b cb) : SSim G P d sc ρ (.If t a b pos) (.iff ct ca cb) := by
  intro n A env s σ H loc r loc' H' hr S Q E h
  obtain ⟨n, hr⟩ := run_step hr
  dsimp only [runStep] at hr
  obtain ⟨v, l, H1, h1, hr⟩ := vb_some hr
  split at hr
  · refine wpAny_If (ht n A env s σ H loc _ _ _ h1 S _ _ fun h' tk σ' x R => ?_)
    exact ha n A env _ σ' H1 loc _ _ _ hr (S.ext x R) _ _ (XP.ext h x.x)
  · refine wpAny_If (ht n A env s σ H loc _ _ _ h1 S _ _ fun h' tk σ' x R => ?_)
    exact hb n A env _ σ' H1 loc _ _ _ hr (S.ext x R) _ _ (XP.ext h x.x)
  · exact nS hr
theorem SSim.never {st : Stmt} {c : C} : SSim G P d sc ρ st (.sRng c) := by
  intro n A env s σ H loc r loc' H' hr S Q E h
  obtain ⟨n, hr⟩ := run_step hr
  dsimp only [runStep] at hr
  exact nS hr
theorem XSim.never {ss : List Stmt} {c : C} : XSim G P d sc ρ ss (.sRng c) := by
  intro n A env s σ H loc r loc' H' hr S Q E h
  obtain ⟨n, hr⟩ := run_step hr
  dsimp only [runStep] at hr
  exact nS hr
noncomputable def ForF (R : Result → Shared → Prop) (I : Shared → Prop) (f : Flow) (s₃ : Shared) : Prop := match f with
  | .next | .cont => I s₃
  | .brk => R (.ok .next) s₃
  | .ret v => R (.ok (.ret v)) s₃
noncomputable def NoR (G : Gd) (A : Around) (env : Env) (R : Result → Shared → Prop) : Value → Shared → Prop := notedBy (model G.prog G.w) A env fun e s' => R (.error e) s'
noncomputable def WhQ (G : Gd) (A : Around) (env : Env) (b : List Stmt) (R : Result → Shared → Prop) (I : Shared → Prop) (v : Bool) (s : Shared) : Prop := match v with
  | true => wpAny (model G.prog G.w) A (execs b env) (ForF R I) (NoR G A env R) s
  | false => R (.ok .next) s
theorem whl_of {t : Expr} {b : List Stmt} {R : Result → Shared → Prop} (I : Nat → Shared → Prop) (turn : ∀ n s, I n s → wpAny (model G.prog G.w) A (isTrue t env (eval t env)) (WhQ G A env b R fun s => ∃ m, m < n ∧ I m s) (NoR G A env R) s) (n : Nat) (h : I n s) :
    codeAny (model G.prog G.w) A (.whileLoop t b [] env) R s :=
  codeAny_whileLoop I (fun n s h => wpAny_mono (turn n s h) (fun v s h => by
    cases v with
    | true => exact wpAny_mono h (fun f _ h => by cases f <;> exact h) fun _ _ h => h
    | false => exact wpAny_execs_nil h) fun _ _ h => h) n h
inductive WInv (G : Gd) (P : Pg) (d : Nat) (ρ : List (Str × Nat)) (env : Env) (s : Shared) (σ : List Addr) (ct cb : C) (o : Out) (m : Nat) : Shared → Prop where
  | mk {h1 : Heap} {tk1 : Nat} {σ1 : List Addr} {H1 : AH} {loc1 : Loc} (x : XExt env s.heap h1 σ σ1) (R : HRel G σ1 H1 h1) (L : LRel G env ρ loc1 h1 σ1) (hr : run P m d (.whl ct cb) loc1 H1 = some o) : WInv G P d ρ env s σ ct cb o m { s with heap := h1, toks := tk1 }
theorem whl_inv {n : Nat} {ct cb : C} {o : Out} (hr : run P n d (.whl ct cb) loc H = some o) : ∃ m, m < n ∧ ∃ b l H2, run P m d ct loc H = some (.val (.bool b), l, H2) ∧ (b = false → some (Res.next, loc, H2) = some o) ∧
    (b = true → ∃ r l3 H3, run P m d cb loc H2 = some (r, l3, H3) ∧ bodyK (fun l H => run P m d (.whl ct cb) l H) (r, l3, H3) = some o) := by
  cases n with
  | zero => exact nS hr
  | succ m =>
    obtain ⟨v, l, H2, h2, hr⟩ := vb_some hr
    cases v with
    | bool b =>
      refine ⟨m, Nat.lt_succ_self m, b, l, H2, h2, ?_⟩
      cases b with
      | false => exact ⟨fun _ => hr, fun z => nomatch z⟩
      | true =>
        obtain ⟨⟨r, l3, H3⟩, qb, hr⟩ := body_some hr
        exact ⟨fun z => (nomatch z), fun _ => ⟨r, l3, H3, qb, hr⟩⟩
    | _ => exact nS hr
theorem SSim.whl {t : Expr} {b : List Stmt} {ct cb : C} {pos : Pos} (ht : TSim G P d sc ρ t ct) (hb : XSim G P d sc ρ b cb) : SSim G P d sc ρ (.While t b [] pos) (.whl ct cb) := by
  intro n A env s σ H loc r loc' H' hr S Q E h
  refine wpAny_While (whl_of (WInv G P d ρ env s σ ct cb (r, loc', H')) ?_ n (.mk Ext.refl.x S.rel S.lr hr))
  rintro m _ ⟨x1, R1, L1, hr⟩
  obtain ⟨m', lt, bv, l, H2, h2, no, yes⟩ := whl_inv hr
  refine ht m' A env _ _ _ _ _ _ _ h2 (S.x R1 L1) _ _ fun h' tk σ' x R => ?_
  cases bv with
  | false => exact XP.of h (no rfl) _ _ _ _ (x1.trans x.x) R (L1.ext x R1) .next
  | true =>
    obtain ⟨r3, l3, H3, qb, go⟩ := yes rfl
    refine hb m' A env _ _ _ _ _ _ _ qb (S.x R (L1.ext x R1)) _ _ fun fl h3 tk3 σ3 x3 R3 L3 f => ?_
    have x5 := (x1.trans x.x).trans x3
    cases f with
    | next => exact ⟨m', lt, .mk x5 R3 L3 go⟩
    | cont => exact ⟨m', lt, .mk x5 R3 L3 go⟩
    | ret rv => exact XP.of h go _ _ _ _ x5 R3 L3 (.ret rv)
end
end Mine
end

section
open PySem PySem.W PyProof.Rows PySem.Calls PySem.Spec PySem.SeqAt
namespace Mine
noncomputable def RhoOk (ρ : List (Str × Nat)) : Prop := ∀ p ∈ ρ, ∀ q ∈ ρ, (p.1 = q.1 ↔ p.2 = q.2)
section
variable {G : Gd} {P : Pg} {d : Nat} {sc : Scope} {ρ : List (Str × Nat)} {A : Around} {env : Env} {s : Shared} {h h' h'' : Heap} {σ σ' σ'' : List Addr} {H H' H'' : AH} {loc loc' : Loc} {tk : Nat}
theorem ns_notTup {a : Addr} {m : Str → Option Value} (n : h.Ns a m) : NT h σ a := .inr <| by
  rintro items ⟨o, e, _, k, q⟩
  obtain ⟨o', es, ep, e', q', _⟩ := n
  rw [e] at e'; cases e'
  rw [q] at q'; cases q'
theorem cell_notTup {a : Addr} {ov : Option Value} (n : h.IsCell a ov) : NT h σ a := .inr <| by
  rintro items ⟨o, e, _, k, q⟩
  obtain ⟨o', e', q'⟩ := n
  rw [e] at e'; cases e'
  rw [q] at q'; cases q'
noncomputable def XL (env : Env) (h h' : Heap) : Prop := ∀ b o, b ≠ env.locals → h.get? b = some o → h'.get? b = some o
noncomputable def TP (lb : Bool) (G : Gd) (env : Env) (ρ : List (Str × Nat)) (s : Shared) (σ : List Addr) (H : AH) (loc' : Loc) (Q : Unit → Shared → Prop) : Prop :=
  ∀ h' tk, XExt env s.heap h' σ σ → HRel G σ H h' → LRel G env ρ loc' h' σ → TK s.heap σ h' σ → (lb = true → XL env s.heap h') → Q () { s with heap := h', toks := tk }
noncomputable def TgSim (lb : Bool) (G : Gd) (d : Nat) (sc : Scope) (ρ : List (Str × Nat)) (t : Expr) (ct : C) : Prop :=
  ∀ (A : Around) (env : Env) (s : Shared) (σ : List Addr) (H : AH) (loc : Loc) (V : AV) (v : Value) (loc' : Loc), asgV ct V loc = some loc' → St G d sc ρ A env s σ H loc → RepV s.heap σ V v →
    ∀ (Q : Unit → Shared → Prop) (E : Value → Shared → Prop), TP lb G env ρ s σ H loc' Q → wpAny (model G.prog G.w) A (assign t env v) Q E s
theorem get_set {loc : Loc} {i j : Nat} {V W : AV} (h : (loc.set i (some V))[j]? = some (some W)) : (i = j ∧ W = V) ∨ (i ≠ j ∧ loc[j]? = some (some W)) := by
  by_cases e : i = j
  · subst e
    by_cases hl : i < loc.length
    · rw [List.getElem?_set_self hl] at h
      cases h; exact .inl ⟨rfl, rfl⟩
    · rw [List.getElem?_eq_none (by simpa using hl)] at h; cases h
  · rw [List.getElem?_set_ne e] at h; exact .inr ⟨e, h⟩
theorem store_local {lb : Bool} {x : Str} {i : Nat} {V : AV} {v : Value} (hm : (x, i) ∈ ρ) (hk : sc.names.lookup x = some .local) (hρ : RhoOk ρ) (S : St G d sc ρ A env s σ H loc) (rv : RepV s.heap σ V v)
    {Q : Unit → Shared → Prop} {E : Value → Shared → Prop} (k : TP lb G env ρ s σ H (loc.set i (some V)) Q) : wpAny (model G.prog G.w) A (storeName env x v) Q E s := by
  have hl : env.kindOf x = some .local := (S.ev.kindOf x).trans hk
  obtain ⟨m, hn, hv⟩ := S.lr.ns
  have nt := ns_notTup (σ := σ) hn
  refine wpAny_storeName_local hl hn (fun h' hn' sb => ?_) (by rw [S.ev.fk]; rfl)
  refine k h' _ ⟨⟨[], by simp, fun _ m => nomatch m⟩, fun b o e _ ne _ => (sb.2 b ne).trans e, fun b o e => ?_⟩ (S.rel.but S.lr.out S.lr.low nt sb) ⟨S.lr.out, S.lr.low, ⟨_, hn', fun y j W hy hky hW => ?_⟩, fun y c hc => ?_, fun y j hy hky => ?_, S.lr.apart⟩ (tup_but nt sb) fun _ b o ne e => (sb.2 b ne).trans e
  · by_cases q : b = env.locals
    · obtain ⟨o', _, _, e', _⟩ := hn'
      exact ⟨o', q ▸ e'⟩
    · exact ⟨o, (sb.2 b q).trans e⟩
  · rcases get_set hW with ⟨rfl, rfl⟩ | ⟨ne, hW⟩
    · have : y = x := ((hρ _ hm _ hy).mpr rfl).symm
      exact ⟨v, by rw [if_pos this], rv.but nt sb⟩
    · have : y ≠ x := fun z => ne ((hρ _ hm _ hy).mp z.symm)
      obtain ⟨v', e, r⟩ := hv y j W hy hky hW
      exact ⟨v', by rw [if_neg this]; exact e, r.but nt sb⟩
  · obtain ⟨e1, e2, e3, ov, o, e4, e5⟩ := S.lr.cells y c hc
    exact ⟨e1, e2, e3, ov, o, (sb.2 c e2).trans e4, e5⟩
  · obtain ⟨c, ov, e1, ⟨o, e4, e5⟩, e6⟩ := S.lr.cell y j hy hky
    have e2 := (S.lr.cells y c e1).2.1
    refine ⟨c, ov, e1, ⟨o, (sb.2 c e2).trans e4, e5⟩, fun W hW => ?_⟩
    rcases get_set hW with ⟨rfl, rfl⟩ | ⟨ne, hW⟩
    · have : y = x := ((hρ _ hm _ hy).mpr rfl).symm
      subst this
      rw [hl] at hky; cases hky
    · obtain ⟨v', e, r⟩ := e6 W hW
      exact ⟨v', e, r.but nt sb⟩
theorem store_cell {x : Str} {i : Nat} {V : AV} {v : Value} (hm : (x, i) ∈ ρ) (hk : sc.names.lookup x = some .cell) (hρ : RhoOk ρ) (S : St G d sc ρ A env s σ H loc) (rv : RepV s.heap σ V v)
    {Q : Unit → Shared → Prop} {E : Value → Shared → Prop} (k : TP false G env ρ s σ H (loc.set i (some V)) Q) : wpAny (model G.prog G.w) A (storeName env x v) Q E s := by
  have hl : env.kindOf x = some .cell := (S.ev.kindOf x).trans hk
  obtain ⟨c, ov, e1, hc, _⟩ := S.lr.cell x i hm hl
  have nt := cell_notTup (σ := σ) hc
  obtain ⟨c1, c2, c3, _⟩ := S.lr.cells x c e1
  refine wpAny_storeName_cell S.ev.fk hl e1 hc fun h' hc' sb => ?_
  obtain ⟨m, hn, hv⟩ := S.lr.ns
  refine k h' s.toks ⟨⟨[], by simp, fun _ m => nomatch m⟩, fun b o e _ _ ne => (sb.2 b (fun z => ne x (z ▸ e1))).trans e, fun b o e => ?_⟩ (S.rel.but c1 c3 nt sb) ⟨S.lr.out, S.lr.low, ⟨m, ?_, fun y j W hy hky hW => ?_⟩, fun y c' hc'' => ?_, fun y j hy hky => ?_, S.lr.apart⟩ (tup_but nt sb) fun z => by cases z
  · by_cases q : b = c
    · obtain ⟨o', e', _⟩ := hc'
      exact ⟨o', q ▸ e'⟩
    · exact ⟨o, (sb.2 b q).trans e⟩
  · obtain ⟨o, es, ep, e, r⟩ := hn
    exact ⟨o, es, ep, (sb.2 _ (Ne.symm c2)).trans e, r⟩
  · rcases get_set hW with ⟨rfl, rfl⟩ | ⟨ne, hW⟩
    · have : y = x := ((hρ _ hm _ hy).mpr rfl).symm
      subst this
      rw [hl] at hky; cases hky
    · obtain ⟨v', e, r⟩ := hv y j W hy hky hW
      exact ⟨v', e, r.but nt sb⟩
  · obtain ⟨e2, e3, e4, ov', o, e5, e6⟩ := S.lr.cells y c' hc''
    by_cases q : c' = c
    · exact ⟨e2, e3, e4, _, q ▸ hc'⟩
    · exact ⟨e2, e3, e4, ov', o, (sb.2 c' q).trans e5, e6⟩
  · obtain ⟨c', ov', f1, ⟨o, f4, f5⟩, f6⟩ := S.lr.cell y j hy hky
    by_cases q : c' = c
    · subst q
      have : y = x := S.lr.apart y x c' f1 e1
      subst this
      have : i = j := (hρ _ hm _ hy).mp rfl
      subst this
      refine ⟨c', _, f1, hc', fun W hW => ?_⟩
      rcases get_set hW with ⟨_, rfl⟩ | ⟨ne, _⟩
      · exact ⟨v, rfl, rv.but nt sb⟩
      · exact absurd rfl ne
    · refine ⟨c', ov', f1, ⟨o, (sb.2 c' q).trans f4, f5⟩, fun W hW => ?_⟩
      rcases get_set hW with ⟨rfl, rfl⟩ | ⟨ne, hW⟩
      · have : y = x := ((hρ _ hm _ hy).mpr rfl).symm
        subst this
        rw [e1] at f1; cases f1
        exact absurd rfl q
      · obtain ⟨v', e, r⟩ := f6 W hW
        exact ⟨v', e, r.but nt sb⟩
noncomputable def Stores (sc : Scope) (x : Str) : Prop := sc.names.lookup x = some .local ∨ sc.names.lookup x = some .cell
theorem store_name {x : Str} {i : Nat} {V : AV} {v : Value} (hm : (x, i) ∈ ρ) (hk : Stores sc x) (hρ : RhoOk ρ) (S : St G d sc ρ A env s σ H loc) (rv : RepV s.heap σ V v)
    {Q : Unit → Shared → Prop} {E : Value → Shared → Prop} (k : TP false G env ρ s σ H (loc.set i (some V)) Q) : wpAny (model G.prog G.w) A (storeName env x v) Q E s :=
  hk.elim (fun a => store_local hm a hρ S rv k) (fun a => store_cell hm a hρ S rv k)
theorem asgV_var {i : Nat} {V : AV} (h : asgV (.var i) V loc = some loc') : loc' = loc.set i (some V) := by
  unfold asgV at h
  split at h
  · cases h; rfl
  · exact nS h
theorem TgSim.name {x : Str} {i : Nat} {pos : Pos} (hm : (x, i) ∈ ρ) (hk : Stores sc x) (hρ : RhoOk ρ) : TgSim false G d sc ρ (.Name x pos) (.var i) := by
  intro A env s σ H loc V v loc' hr S rv Q E k
  cases asgV_var hr
  exact wpAny_assign_Name (store_name hm hk hρ S rv k)
theorem TgSim.own {x : Str} {i : Nat} {pos : Pos} (hm : (x, i) ∈ ρ) (hk : sc.names.lookup x = some .local) (hρ : RhoOk ρ) : TgSim true G d sc ρ (.Name x pos) (.var i) := by
  intro A env s σ H loc V v loc' hr S rv Q E k
  cases asgV_var hr
  exact wpAny_assign_Name (store_local hm hk hρ S rv k)
structure TgsSim (lb : Bool) (G : Gd) (d : Nat) (sc : Scope) (ρ : List (Str × Nat)) (ts : List Expr) (ct : C) : Prop where
  run : ∀ (A : Around) (env : Env) (s : Shared) (σ : List Addr) (H : AH) (loc : Loc) (Vs : List AV) (vs : List Value) (loc' : Loc), asgV ct (.tup Vs) loc = some loc' → St G d sc ρ A env s σ H loc → RepVs s.heap σ Vs vs →
    ∀ (Q : Unit → Shared → Prop) (E : Value → Shared → Prop), TP lb G env ρ s σ H loc' Q → wpAny (model G.prog G.w) A (assignInOrder ((assignEach ts env).map (·.2)) vs) Q E s
  len : ∀ (Vs : List AV) (loc loc' : Loc), asgV ct (.tup Vs) loc = some loc' → Vs.length = ts.length
  el : ∀ env, (assignEach ts env).length = ts.length ∧ (assignEach ts env).findIdx? (·.1) = none
theorem TgsSim.nil {lb : Bool} : TgsSim lb G d sc ρ [] .nil where
  run := by
    intro A env s σ H loc Vs vs loc' hr S rv Q E k
    cases Vs with
    | nil => unfold asgV at hr; cases hr; exact wpAny_pure (k _ _ Ext.refl.x S.rel S.lr (fun _ _ t n => ⟨t, n⟩) fun _ _ _ _ e => e)
    | cons _ _ => unfold asgV at hr; cases hr
  len := by
    intro Vs loc loc' hr
    cases Vs with
    | nil => rfl
    | cons _ _ => unfold asgV at hr; cases hr
  el := fun _ => ⟨rfl, rfl⟩
theorem TgsSim.cons {lb : Bool} {t : Expr} {ts : List Expr} {c r : C} (ht : TgSim lb G d sc ρ t c) (hts : TgsSim lb G d sc ρ ts r) (he : ∀ env, assignEach (t :: ts) env = (false, assign t env) :: assignEach ts env) : TgsSim lb G d sc ρ (t :: ts) (.cons c r) where
  run := by
    intro A env s σ H loc Vs vs loc' hr S rv Q E k
    cases Vs with
    | nil => unfold asgV at hr; cases hr
    | cons V Vs =>
      unfold asgV at hr
      split at hr
      · rename_i l2 q
        cases rv using RepVs.consE with | mk r1 r2 =>
        rw [he env]
        show wpAny _ _ (do holding _ (assign t env _); assignInOrder ((assignEach ts env).map (·.2)) _) Q E s
        refine wpAny_bind (wpAny_holding (ht A env s σ H loc _ _ _ q S r1 _ _ fun h' tk x R L tt xl => ?_))
        exact hts.run A env _ σ H l2 _ _ _ hr (S.x R L) (r2.mono tt fun _ _ e => e) _ _ fun h'' tk' x' R' L' tt' xl' => k _ _ (x.trans x') R' L' (fun a i t n => tt' a i (tt a i t n).1 n) fun z b o ne e => xl' z b o ne (xl z b o ne e)
      · exact nS hr
  len := by
    intro Vs loc loc' hr
    cases Vs with
    | nil => unfold asgV at hr; cases hr
    | cons V Vs =>
      unfold asgV at hr
      split at hr
      · rw [List.length_cons, List.length_cons, hts.len _ _ _ hr]
      · exact nS hr
  el := fun env => by
    obtain ⟨a, b⟩ := hts.el env
    rw [he env]
    exact ⟨by rw [List.length_cons, List.length_cons, a], by rw [List.findIdx?_cons, b]; rfl⟩
theorem size_of_live (S : St G d sc ρ A env s σ H loc) (k : ∀ b o, s.heap.get? b = some o → h'.get? b = some o) : G.Off h'.objs.size := by
  exact sz_of S.ok S.rel k
theorem St.keeps (S : St G d sc ρ A env s σ H loc) (k : ∀ b o, s.heap.get? b = some o → h'.get? b = some o) : St G d sc ρ A env { s with heap := h', toks := tk } σ H loc :=
  S.ext (Ext.same k) (S.rel.same k (size_of_live S k))
theorem TgSim.tup {lb : Bool} {ts : List Expr} {ct : C} {k : Nat} {pos : Pos} (hts : TgsSim lb G d sc ρ ts ct) (hc : ∀ V loc loc', asgV ct V loc = some loc' → ∃ Vs, V = .tup Vs) : TgSim lb G d sc ρ (.Tuple ts k pos) ct := by
  intro A env s σ H loc V v loc' hr S rv Q E kk
  obtain ⟨Vs, rfl⟩ := hc _ _ _ hr
  cases rv using RepV.tupE with | @mk t items ht _ rs =>
  have l := rs.length
  rw [Array.length_toList] at l
  refine wpAny_assign_Tuple S.room.1 ht (by rw [(hts.el env).1, ← hts.len _ _ _ hr, l]) (hts.el env).2 fun h' he => ?_
  have kk' : ∀ b o, s.heap.get? b = some o → h'.get? b = some o := fun b o e => he b o (Nat.ne_of_lt (Heap.lt_size e)) e
  have tt : TK s.heap σ h' σ := fun a i ⟨o, e, c⟩ n => ⟨⟨o, kk' _ _ e, c⟩, n⟩
  exact hts.run A env { s with heap := h' } σ H loc _ _ _ hr (S.keeps (tk := s.toks) kk') (rs.mono tt fun _ _ e => e) _ _ fun h'' tk' x' R' L' tt' xl' => kk _ _ ((Ext.same kk').x.trans x') R' L' (fun a i t n => tt' a i (tt a i t n).1 n) fun z b o ne e => xl' z b o ne (kk' b o e)
theorem pat_cons {c r : C} : ∀ V loc loc', asgV (.cons c r) V loc = some loc' → ∃ Vs, V = .tup Vs := by
  intro V loc loc' h
  cases V with
  | tup vs => exact ⟨_, rfl⟩
  | _ => unfold asgV at h; cases h
end
end Mine
end

section
open PySem PySem.W PyProof.Rows PySem.Calls PySem.Spec PySem.SeqAt
namespace Mine
section
variable {G : Gd} {P : Pg} {d : Nat} {sc : Scope} {ρ : List (Str × Nat)} {A : Around} {env : Env} {s : Shared} {h h' h'' : Heap} {σ σ' σ'' : List Addr} {H H' H'' : AH} {loc loc' : Loc} {tk : Nat}
theorem SSim.asgN {x : Str} {i : Nat} {e : Expr} {c : C} {p pos : Pos} (hm : (x, i) ∈ ρ) (hk : Stores sc x) (hρ : RhoOk ρ) (he : ESim G P d sc ρ e c) (hs : ∀ env : Env, env.scope = sc → swapsWith e (some (.Name x p)) pos.line env = pure false) :
    SSim G P d sc ρ (.Assign [.Name x p] e pos) (.asg (.var i) c) := by
  intro n A env s σ H loc r loc' H' hr S Q E h
  obtain ⟨n, hr⟩ := run_step hr
  obtain ⟨v, l, H1, h1, hr⟩ := vb_some hr
  split at hr
  · rename_i l2 q
    replace h := XP.of h hr
    refine wpAny_Assign_Name (he n A env s σ H loc _ _ _ h1 S _ _ fun v h' tk σ' x R rv => ?_) (hs env S.ev.scp)
    cases asgV_var q
    exact store_name hm hk hρ (S.ext x R) rv fun h'' tk' x' R' L' _ _ => h _ _ _ _ (x.x.trans x') R' L' .next
  · exact nS hr
theorem SSim.asgT {ts : List Expr} {e : Expr} {c ct : C} {k : Nat} {p pos : Pos} (ht : TgSim false G d sc ρ (.Tuple ts k p) ct) (he : ESim G P d sc ρ e c) (hs : ∀ env : Env, env.scope = sc → swapsWithSole [.Tuple ts k p] e pos.line env = pure false)
    (hw : ∀ env : Env, env.scope = sc → swappedStores [.Tuple ts k p] e env = pure none) :
    SSim G P d sc ρ (.Assign [.Tuple ts k p] e pos) (.asg ct c) := by
  intro n A env s σ H loc r loc' H' hr S Q E h
  obtain ⟨n, hr⟩ := run_step hr
  obtain ⟨v, l, H1, h1, hr⟩ := vb_some hr
  split at hr
  · rename_i l2 q
    replace h := XP.of h hr
    refine PyProof.Rows.Assign_Tuple (he n A env s σ H loc _ _ _ h1 S _ _ fun v h' tk σ' x R rv => ?_) (hs env S.ev.scp) (hw env S.ev.scp)
    exact ht A env _ σ' _ _ _ _ _ q (S.ext x R) rv _ _ fun h'' tk' x' R' L' _ _ => h _ _ _ _ (x.x.trans x') R' L' .next
  · exact nS hr
theorem inv_cons {t r : C} {Vs : List AV} (h : asgV (.cons t r) (.tup Vs) loc = some loc') : ∃ V Vs' l1, Vs = V :: Vs' ∧ asgV t V loc = some l1 ∧ asgV r (.tup Vs') l1 = some loc' := by
  cases Vs with
  | nil => unfold asgV at h; cases h
  | cons V Vs =>
    unfold asgV at h
    split at h
    · rename_i l1 q; exact ⟨_, _, l1, rfl, q, h⟩
    · exact nS h
theorem inv_nil {Vs : List AV} (h : asgV .nil (.tup Vs) loc = some loc') : Vs = [] ∧ loc' = loc := by
  cases Vs with
  | nil => unfold asgV at h; cases h; exact ⟨rfl, rfl⟩
  | cons V Vs => unfold asgV at h; cases h
theorem SSim.asg2 {x y : Str} {i j : Nat} {e : Expr} {c : C} {k : Nat} {p1 p2 p pos : Pos} (hx : (x, i) ∈ ρ) (kx : Stores sc x) (hy : (y, j) ∈ ρ) (ky : Stores sc y) (hij : i ≠ j) (hρ : RhoOk ρ) (he : ESim G P d sc ρ e c)
    (hs : ∀ env : Env, env.scope = sc → swapsWithSole [.Tuple [.Name x p1, .Name y p2] k p] e pos.line env = pure false)
    (hw : ∀ env : Env, env.scope = sc → env.blockKind = .function → swappedStores [.Tuple [.Name x p1, .Name y p2] k p] e env = pure (some [x, y])) (hb : ∀ env : Env, env.scope = sc → env.blockKind = .function) :
    SSim G P d sc ρ (.Assign [.Tuple [.Name x p1, .Name y p2] k p] e pos) (.asg (.cons (.var i) (.cons (.var j) .nil)) c) := by
  intro n A env s σ H loc r loc' H' hr S Q E h
  obtain ⟨n, hr⟩ := run_step hr
  obtain ⟨v, l, H1, h1, hr⟩ := vb_some hr
  split at hr
  · rename_i l2 q
    replace h := XP.of h hr
    refine PyProof.Rows.Assign_Tuple_swapped (he n A env s σ H loc _ _ _ h1 S _ _ fun v h' tk σ' xx R rv => ?_) (hs env S.ev.scp) (hw env S.ev.scp (hb env S.ev.scp))
    have S1 := S.ext (tk := tk) xx R
    obtain ⟨Vs, rfl⟩ := pat_cons _ _ _ q
    obtain ⟨V0, Vs1, lx, rfl, qx, q⟩ := inv_cons q
    obtain ⟨V1, Vs2, ly, rfl, qy, q⟩ := inv_cons q
    obtain ⟨rfl, rfl⟩ := inv_nil q
    have ex := asgV_var qx
    subst ex
    have ey := asgV_var qy
    subst ey
    cases rv using RepV.tupE with | @mk t items ht _ rs =>
    cases hi : items.toList with
    | nil => rw [hi] at rs; cases rs
    | cons v0 r0 =>
      rw [hi] at rs
      cases rs using RepVs.consE with | mk q0 rs =>
      cases rs using RepVs.consE with | mk q1 rs =>
      cases rs using RepVs.nilE
      have hsz : ([x, y] : List Str).length = items.size := by rw [← Array.length_toList, hi]; rfl
      refine wpAny_mono (Q := fun its s' => ∃ h2, its = items.toList ∧ s' = { s with heap := h2, toks := tk } ∧ (∀ b o, h'.get? b = some o → h2.get? b = some o)) ?_ ?_ fun _ _ e => e
      · rw [hsz]
        exact wpAny_unpackItems_tuple S.room.1 ht fun h2 he => ⟨h2, rfl, rfl, fun b o e => he b o (Nat.ne_of_lt (Heap.lt_size e)) e⟩
      · rintro its s' ⟨h2, rfl, rfl, kk⟩
        rw [hi]
        have S2 := S1.keeps (tk := tk) kk
        have tt : TK h' σ' h2 σ' := fun a i ⟨o, e, c⟩ n => ⟨⟨o, kk _ _ e, c⟩, n⟩
        show wpAny _ _ (do holding _ (bindName env y _); assignInOrder [fun v => bindName env x v] _) _ _ _
        refine wpAny_bind (wpAny_holding (wpAny_bindName (store_name hy ky hρ S2 (q1.mono tt fun _ _ e => e) fun h3 tk3 x3 R3 L3 t3 _ => ?_)))
        show wpAny _ _ (do holding _ (bindName env x _); assignInOrder [] []) _ _ _
        refine wpAny_bind (wpAny_holding (wpAny_bindName (store_name hx kx hρ (S2.x R3 L3) ((q0.mono tt fun _ _ e => e).mono t3 fun _ _ e => e) fun h4 tk4 x4 R4 L4 t4 _ => ?_)))
        refine wpAny_pure (h _ _ _ _ (((xx.x.trans (Ext.same kk).x).trans x3).trans x4) R4 ?_ .next)
        rw [List.set_comm _ _ hij]
        exact L4
  · exact nS hr
end
end Mine
end

section
open PySem PySem.W PyProof.Rows PySem.Calls PySem.Spec PySem.SeqAt Builtin Builtin.ObjectAttr
namespace Mine
section
variable {G : Gd} {P : Pg} {d : Nat} {sc : Scope} {ρ : List (Str × Nat)} {A : Around} {env : Env} {E : Value → Shared → Prop} {s : Shared} {h h' h'' : Heap} {σ σ' σ'' : List Addr} {H H' H'' : AH} {loc loc' : Loc} {tk : Nat}
theorem putL_new {name : Str} {hsh : Int} {key v : Value} : ∀ {es : List DictEntry}, (es.any fun e => e.key.isStr name) = false → putL name hsh key v es = es ++ [⟨hsh, key, v⟩]
  | [], _ => rfl
  | e :: r, q => by
    rw [List.any_cons, Bool.or_eq_false_iff] at q
    rw [putL, q.1, if_neg Bool.false_ne_true, putL_new q.2]; rfl
theorem osa_new {prog : Program} {w : World} {K : Frag} {x dx C : Addr} {ox : Obj} {es : List DictEntry} {n : Nat} {name : Str} {tk : Tok} {v : Value} {R : Result → Shared → Prop} (X : K.In s.heap) (I : W.InstAt s.heap x ox C (some (dictOf es n))) (hd : ox.dict = some dx)
    (ck : ClsOk K C) (ht : takerIn K C name = some none) (D : s.heap.get? dx = some (dictOf es n)) (hl : getL name es = some none) (hn : (es.any fun e => e.key.isStr name) = false) (hz : es.length ≤ 900)
    (h : ∀ h' hsh t, h'.get? dx = some (dictOf (es ++ [⟨hsh, .str name t, v⟩]) (n + 1)) → Heap.SameBut dx s.heap h' → R (.ok (.ret .none)) { s with heap := h', toks := s.toks + 1 }) :
    codeAny (model prog w) A (.call (.builtin "object.__setattr__") ⟨[.ref x, .str name tk, v], []⟩) R s := by
  refine osa_open X I ck.po ht fun b => ?_
  obtain ⟨cd, hc, hd'⟩ := any_some ck.hd
  have D' : (s.heap.update dx (Obj.putName name (PyData.keyHash w.params name) (.str name s.toks) v)).get? dx = some (dictOf (es ++ [⟨PyData.keyHash w.params name, .str name s.toks, v⟩]) (n + 1)) := by
    rw [Heap.get?_update_self _ D (by rw [putName_dict]; rfl), putName_dict, putL_new hn, putN, hn]; rfl
  obtain ⟨hx, hcl, hno, -⟩ := I
  obtain ⟨oc, odi, oda, osl⟩ := ox
  dsimp only at hcl hd
  subst hcl hd
  refine wpAny_bind (wpAny_pure (wpAny_bind (wpAny_bind (wpAny_loadPart hx (wpAny_bind ((looks_clsIn X hc).here ?_))))))
  rw [hd']
  refine wpAny_pure (a := some dx) (wpAny_bind (wpAny_pure (wpAny_bind ?_)))
  unfold nsSet
  refine wpAny_bind (wpAny_bind (wpAny_askSetting (wpAny_pure (wpAny_bind (wpAny_mkText (wpAny_bind (wpAny_loadPart D ?_)))))))
  unfold getL at hl
  dsimp only
  have c : (!es.toArray.any (·.key.isStr name) && es.toArray.any (·.refKey)) = false := by
    rw [← Array.any_toList, ← Array.any_toList]
    split at hl
    · cases hl
    · split at hl
      · exact nS hl
      · rename_i z; rw [Bool.not_eq_true] at z; rw [z, Bool.and_false]
  rw [aRefKeyMayBeTheName_at, c]
  refine wpAny_updatePart D ?_
  refine wpAny_bind (wpAny_lookBehind D' (pastItsLine_dict (by rw [List.size_toArray, sizeLine_eq, List.length_append, List.length_singleton]; omega)) ?_)
  exact wpAny_pure (h _ _ _ D' (Heap.SameBut.update ..))
theorem set_attr {prog : Program} {w : World} {K : Frag} {x dx C : Addr} {ox : Obj} {es : List DictEntry} {n : Nat} {name : Str} {v : Value} {Q : Unit → Shared → Prop} (X : K.In s.heap) (I : W.InstAt s.heap x ox C (some (dictOf es n))) (hd : ox.dict = some dx)
    (ck : ClsOk K C) (ht : takerIn K C name = some none) (D : s.heap.get? dx = some (dictOf es n)) (hl : getL name es = some none) (hn : (es.any fun e => e.key.isStr name) = false) (hz : es.length ≤ 900)
    (h : ∀ h' hsh t, h'.get? dx = some (dictOf (es ++ [⟨hsh, .str name t, v⟩]) (n + 1)) → Heap.SameBut dx s.heap h' → Q () { s with heap := h', toks := s.toks + 2 }) :
    wpAny (model prog w) A (setAttr (.ref x) name v) Q E s :=
  set_plain X I ck.set (osa_new (s := { s with toks := s.toks + 1 }) X I hd ck ht D hl hn hz h)
theorem FRep.len {w : World} {fs : List (Str × AV)} {es : List DictEntry} (r : FRep w h σ fs es) : es.length = fs.length := by
  induction r with
  | nil => rfl
  | cons _ _ ih => rw [List.length_cons, List.length_cons, ih]
theorem FRep.snoc {w : World} {fs : List (Str × AV)} {es : List DictEntry} {x : Str} {t : Tok} {V : AV} {v : Value} {n : Int} (r : FRep w h σ fs es) (rv : RepV h σ V v) : FRep w h σ (fs ++ [(x, V)]) (es ++ [⟨n, .str x t, v⟩]) := by
  induction r with
  | nil => exact .cons rv .nil
  | cons a _ ih => exact .cons a ih
theorem rep_notTup (_ : HRel G σ H h) {a : Addr} (m : a ∈ σ) : NT h σ a := .inl m
theorem SSim.setF {o e : Expr} {attr : Str} {co ce : C} {p pos : Pos} (ho : ESim G P d sc ρ o co) (he : ESim G P d sc ρ e ce) (hf : attr ∈ fieldNames) (hs : ∀ env : Env, env.scope = sc → swapsWith e (some (.Attribute o attr p)) pos.line env = pure false) :
    SSim G P d sc ρ (.Assign [.Attribute o attr p] e pos) (.setF co attr ce) := by
  intro n A env s σ H loc r loc' H' hr S Q E h
  obtain ⟨n, hr⟩ := run_step hr
  obtain ⟨v, l, H1, h1, hr⟩ := vb_some hr
  obtain ⟨x, l2, H2, h2, hr⟩ := vb_some hr
  split at hr
  · rename_i i
    split at hr
    · rename_i H3 hf3
      replace h := XP.of h hr
      refine plainObj_wpAny_Assign_Attribute (he n A env s σ H loc _ _ _ h1 S _ _ fun av h' tk σ' x R rv => ?_) (hs env S.ev.scp)
      refine ho n A env _ σ' H1 loc _ _ _ h2 (S.ext x R) _ _ fun ov h'' tk' σ'' x' R' rv' => ?_
      cases rv' using RepV.objE with | mk ea =>
      unfold setField at hf3
      split at hf3
      · rename_i cc dd ei
        split at hf3
        · rename_i fs ed
          split at hf3
          · rename_i hn
            cases hf3
            obtain ⟨l3, dx, es, m, q1, q2, q3, q4, I⟩ := inst_at R' ea ei ed
            have ck := S.ok.cls _ l3
            have fl := q3.look (x := attr)
            rw [Option.isNone_iff_eq_none.mp hn.1] at fl
            have le := q3.len
            have tk0 : takerIn G.K (G.ca cc) attr = some none := by unfold takerIn; rw [ck.fld _ hf]; rfl
            refine set_attr (R'.K S.ok) I rfl ck tk0 q2 fl.1 fl.2 (by omega) fun h3 hsh t D3 sb => ?_
            have md : dx ∈ σ'' := List.mem_of_getElem? q1
            have nt := rep_notTup R' md
            have x3 : Ext h'' h3 σ'' σ'' := .set md sb ⟨_, D3⟩
            refine h _ _ _ _ ((x.trans x').trans x3).x (R'.set q1 ed rfl sb (.attrs D3 ?_)) ((S.lr.ext x S.rel).ext (s := { s with heap := h', toks := tk }) (x'.trans x3) R) .next
            exact (q3.mono (tup_but nt sb) fun _ _ e => e).snoc ((rv.ext x' R).but nt sb)
          · exact nS hf3
        · exact nS hf3
      · exact nS hf3
    · exact nS hr
  · exact nS hr
theorem set_list {prog : Program} {w : World} {l : Addr} {items : Array Value} {n : Nat} {k : Int} {t : Tok} {v : Value} {Q : Unit → Shared → Prop} (ho : s.heap.get? l = some (listOf items n))
    (h0 : 0 ≤ k) (hfit : k < 2 ^ 63) (hn : k < items.size)
    (hQ : ∀ h' n', h'.get? l = some (listOf (items.setIfInBounds k.toNat v) n') → Heap.SameBut l s.heap h' → Q () { s with heap := h' }) :
    wpAny (model prog w) A (setItem (.ref l) (.int k t) v) Q E s := by
  have hl : s.heap.IsList l items := ⟨_, ho, rfl, n, rfl⟩
  unfold setItem
  try with_reducible refine wpAny_holding ?_
  first | refine wpAny_bind (wpAny_pure ?_) | skip
  refine wpAny_bind (wpAny_sequenceKey hl.typeIs (by decide) ?_)
  refine wpAny_bind (wpAny_callSpecial?_slot (name := Str.ofString "__setitem__") hl.typeIs slot_list_setitem
    (wpAny_call_entry slot_list_setitem hl.typeIs entry_list_setitem ?_ (args_list_setitem _ _ _)))
  show wpAny _ _ (Builtin.List.listSubscript? (.int k t) >>= _) _ _ s
  refine wpAny_bind (wpAny_listSubscript_int (fitsIndex_of h0 hfit) ?_)
  clear hfit
  obtain ⟨j, rfl⟩ := Int.eq_ofNat_of_zero_le h0
  have hj : j < items.size := by omega
  have hx' : items[j]? = some items[j] := Array.getElem?_eq_getElem hj
  show wpAny _ _ ((seqItemAt l j >>= fun r => pure (r.map (j, ·))) >>= _) _ _ s
  refine wpAny_bind (wpAny_bind (wpAny_seqItemAt ho rfl (wpAny_pure ?_)))
  rw [hx']
  show wpAny _ _ (setSeqItemAt l j v >>= _) _ _ s
  have hfin : ∃ n', (s.heap.update l (Obj.mapSeq (·.setIfInBounds j v))).get? l = some (listOf (items.setIfInBounds j v) n') := ⟨_, Heap.get?_update_self _ ho rfl⟩
  obtain ⟨n', hfin⟩ := hfin
  refine wpAny_bind (wpAny_setSeqItemAt ho rfl ?_)
  first
    | exact wpAny_bind (wpAny_pure (wpAny_pure ⟨.none, rfl, wpAny_pure (hQ _ _ hfin (Heap.SameBut.update ..))⟩))
    | exact wpAny_pure ⟨.none, rfl, wpAny_pure (hQ _ _ hfin (Heap.SameBut.update ..))⟩
end
end Mine
end

section
open PySem PySem.W PyProof.Rows PySem.Calls PySem.Spec PySem.SeqAt
namespace Mine
section
variable {G : Gd} {P : Pg} {d : Nat} {sc : Scope} {ρ : List (Str × Nat)} {A : Around} {env : Env} {s : Shared} {h h' h'' : Heap} {σ σ' σ'' : List Addr} {H H' H'' : AH} {loc loc' : Loc} {tk : Nat} {a : Addr} {kvs : List (AV × AV)}
theorem PRep.keysLen {K : Type} {ks : List (K × AV)} {vs : List (K × Value)} (r : PRep h σ ks vs) : vs.length = ks.length := by
  induction r with
  | nil => rfl
  | cons _ _ ih => rw [List.length_cons, List.length_cons, ih]
theorem TRep.len {vs : List (AV × Addr × Value)} (r : TRep h σ kvs vs) : vs.length = kvs.length := by
  induction r with
  | nil => rfl
  | cons _ _ ih => rw [List.length_cons, List.length_cons, ih]
theorem PRep.but {L : Addr} (nt : NT h σ L) (s : Heap.SameBut L h h') {K : Type} {ks : List (K × AV)} {vs : List (K × Value)} (r : PRep h σ ks vs) : PRep h' σ ks vs := r.mono (tup_but nt s) fun _ _ e => e
theorem TRep.but {L : Addr} (nt : NT h σ L) (s : Heap.SameBut L h h') {vs : List (AV × Addr × Value)} (r : TRep h σ kvs vs) : TRep h' σ kvs vs := r.mono (tup_but nt s) fun _ _ e => e
noncomputable def Put (G : Gd) (s : Shared) (σ : List Addr) (H : AH) (i : Nat) (a : Addr) (kvs' : List (AV × AV)) (Q : Unit → Shared → Prop) : Prop :=
  ∀ h' tk, Heap.SameBut a s.heap h' → (∃ o, h'.get? a = some o) → HRel G σ (H.set i (.dict kvs')) h' → Q () { s with heap := h', toks := tk }
open Classical in
theorem keys_storedH {xs : List (AV × Addr × Value)} {k : AV} {b : Addr} {u : Value} {p : AV × Addr × Value} (m : p ∈ storedH xs k b u) : (∃ q ∈ xs, q.1 = p.1 ∧ q.2.1 = p.2.1) ∨ (p.1 = k ∧ p.2.1 = b) := by
  unfold storedH at m
  split at m
  · obtain ⟨q, mq, rfl⟩ := List.mem_map.mp m
    refine .inl ⟨q, mq, ?_⟩
    unfold putAt
    split <;> exact ⟨rfl, rfl⟩
  · rcases List.mem_append.mp m with m | m
    · exact .inl ⟨p, m, rfl, rfl⟩
    · rw [List.mem_singleton.mp m]; exact .inr ⟨rfl, rfl⟩
open Classical in
theorem dict_put {k W : AV} {kv u : Value} {o : Option AV} (room : Room A d) (R : HRel G σ H s.heap) {i : Nat} (ea : σ[i]? = some a) (ei : H[i]? = some (.dict kvs)) (rk : RepV s.heap σ k kv) (rv : RepV s.heap σ W u) (e : dGet k kvs = some o) (hl : kvs.length ≤ 60000)
    {Q : Unit → Shared → Prop} {E : Value → Shared → Prop} (h : Put G s σ H i a (dPut k W kvs) Q) : wpAny (model G.prog G.w) A (setItem (.ref a) kv u) Q E s := by
  have r := R.rep _ _ _ ei ea
  have ma := List.mem_of_getElem? ea
  have nt := rep_notTup R ma
  have live : ∀ {h' : Heap} {o : AO}, ORep G h' σ o a → ∃ o, h'.get? a = some o := fun x => x.there
  unfold dGet at e
  split at e
  · rename_i hk
    unfold keysOk at hk
    split at hk
    · rename_i x
      cases rk using RepV.strE with | mk t kx =>
      obtain ⟨ks, vs, rfl, hD, rp, ok⟩ := dict_S r hk
      have nd : (vs.map (·.1)).Nodup := by obtain ⟨o, es, ep, g, x, dd, _, _, n⟩ := hD; exact n
      obtain ⟨ks', e1, rp', e2⟩ := put_P AV.str enc_str x rv rp nd
      have hz : vs.length ≤ sizeLine := by rw [rp.keysLen, sizeLine_eq]; unfold sMap at hl; rw [List.length_map] at hl; omega
      refine wpAny_setItem_pairs (strKind_is _ _ _ _) hD (fun h' hD' sb => ?_) hz
      have new : ORep G h' σ (.dict (dPut (.str x) W (sMap ks))) a := by
        unfold sMap
        rw [e1]
        exact .dictS hD' (rp'.but nt sb) fun p m => by
          rcases e2 p m with q | ⟨q, m, q2⟩
          · rw [q]; exact kx
          · rw [← q2]; exact ok q m
      exact h h' _ sb (live new) (R.set ea ei rfl sb new)
    · rename_i x
      cases rk using RepV.intE with | mk t =>
      obtain ⟨ks, vs, rfl, hD, rp⟩ := dict_I r hk
      have nd : (vs.map (·.1)).Nodup := by obtain ⟨o, es, ep, g, x, dd, _, _, n⟩ := hD; exact n
      obtain ⟨ks', e1, rp', e2⟩ := put_P AV.int enc_int x rv rp nd
      have hz : vs.length ≤ sizeLine := by rw [rp.keysLen, sizeLine_eq]; unfold iMap at hl; rw [List.length_map] at hl; omega
      refine wpAny_setItem_pairs (intKind_is _ _ _ _) hD (fun h' hD' sb => ?_) hz
      have new : ORep G h' σ (.dict (dPut (.int x) W (iMap ks))) a := by
        unfold iMap
        rw [e1]
        exact .dictI hD' (rp'.but nt sb)
      exact h h' _ sb (live new) (R.set ea ei rfl sb new)
    · rename_i xs
      rw [Bool.and_eq_true] at hk
      have ck := tupKey_clean hk.1
      have hu : A.in1.units + 100 < cLine := by have := room.u (k := 300) (by decide); show A.units + 1 + 100 < _; omega
      cases rk using RepV.tupE with | @mk b items t nb rs =>
      have rk' : RepV s.heap [] (.tup xs) (.ref b) := RepV.bare 6 (RepV.tup t nb rs) ck.2
      obtain ⟨vs, hD, rp, rkeys⟩ := dict_T r hk.2
      have hc : ∀ p ∈ kvs, cleanA p.1 = true := fun p m => (tupKey_clean (List.all_eq_true.mp hk.2 p m)).1
      have nd : (vs.map (·.1)).Nodup := by obtain ⟨o, es, ep, g, x, dd, _, _, n⟩ := hD; exact n
      have hz : vs.length ≤ sizeLine := by rw [rp.len, sizeLine_eq]; omega
      refine wpAny_setItem_heap (knd := treeKind G.prog G.w) hu ⟨rk', hk.1⟩ hD (fun h' hD' sb => ?_) hz
      have new : ORep G h' σ (.dict (dPut (.tup xs) W kvs)) a := .dictT hD' ((put_T _ ck.1 rv rp hc nd).but nt sb) fun p m => by
        rcases keys_storedH m with ⟨q, m, e1, e2⟩ | ⟨e1, e2⟩
        · rw [← e1, ← e2]; exact (rkeys q m).but nt sb
        · rw [e1, e2]; exact (RepV.tup t nb rs).but nt sb
      exact h h' _ sb (live new) (R.set ea ei rfl sb new)
    · cases hk
  · exact nS e
theorem RepVs.set {Vs : List AV} {vs : List Value} {W : AV} {u : Value} (rv : RepV h σ W u) : ∀ {i : Nat}, RepVs h σ Vs vs → RepVs h σ (Vs.set i W) (vs.set i u) := by
  intro i r
  induction Vs generalizing vs i with
  | nil => cases r; exact .nil
  | cons V Vs ih =>
    cases r using RepVs.consE with | mk a r =>
    cases i with
    | zero => exact .cons rv r
    | succ i => exact .cons a (ih r)
theorem SSim.setI {o k e : Expr} {co ck ce : C} {p pos : Pos} (ho : ESim G P d sc ρ o co) (hk : ESim G P d sc ρ k ck) (he : ESim G P d sc ρ e ce) (hs : ∀ env : Env, env.scope = sc → swapsWith e (some (.Subscript o k p)) pos.line env = pure false) :
    SSim G P d sc ρ (.Assign [.Subscript o k p] e pos) (.setI co ck ce) := by
  intro n A env s σ H loc r loc' H' hr S Q E h
  obtain ⟨n, hr⟩ := run_step hr
  obtain ⟨v, l, H1, h1, hr⟩ := vb_some hr
  obtain ⟨x, l2, H2, h2, hr⟩ := vb_some hr
  obtain ⟨y, l3, H3, h3, hr⟩ := vb_some hr
  split at hr
  · rename_i H4 q
    replace h := XP.of h hr
    refine wpAny_Assign_Subscript (he n A env s σ H loc _ _ _ h1 S _ _ fun av h' tk σ' x R rv => ?_) (hs env S.ev.scp)
    have S1 := S.ext (tk := tk) x R
    refine ho n A env _ σ' H1 loc _ _ _ h2 S1 _ _ fun ov h'' tk' σ'' x' R' ro => ?_
    have S2 := S1.ext (tk := tk') x' R'
    refine hk n A env _ σ'' H2 loc _ _ _ h3 S2 _ _ fun kv hp3 tk3 σ3 x3 R3 rk => ?_
    have S3 := S2.ext (tk := tk3) x3 R3
    have rv3 := (rv.ext x' R).ext x3 R'
    have ro3 := ro.ext x3 R'
    unfold setItemA at q
    split at q
    · rename_i i
      cases ro3 using RepV.objE with | @mk a ea =>
      have ma := List.mem_of_getElem? ea
      split at q
      · rename_i vs j ei
        split at q
        · rename_i hj
          cases q
          cases rk using RepV.intE with | mk t =>
          obtain ⟨a', ea', r⟩ := R3.addr ei
          rw [ea] at ea'; cases ea'
          cases r using ORep.listE with | @mk items m g rs =>
          have ll := rs.length
          rw [Array.length_toList] at ll
          refine set_list g hj.1 (by omega) (by omega) fun h4 n' g' sb => ?_
          have nt := rep_notTup R3 ma
          have x4 : Ext hp3 h4 σ3 σ3 := .set ma sb ⟨_, g'⟩
          refine h _ _ _ _ (((x.trans x').trans x3).trans x4).x (R3.set ea ei rfl sb (.list g' ?_)) (S3.lr.ext (s := { s with heap := hp3, toks := tk3 }) x4 R3) .next
          rw [Array.toList_setIfInBounds]
          exact (rs.but nt sb).set (rv3.but nt sb)
        · exact nS q
      · rename_i kvs k0 ei
        split at q
        · rename_i og eg
          split at q
          · rename_i hl
            cases q
            refine dict_put S.room R3 ea ei rk rv3 eg hl fun h4 tk4 sb lv R4 => ?_
            have x4 : Ext hp3 h4 σ3 σ3 := .set ma sb lv
            exact h _ _ _ _ (((x.trans x').trans x3).trans x4).x R4 (S3.lr.ext (s := { s with heap := hp3, toks := tk3 }) x4 R3) .next
          · exact nS q
        · exact nS q
      · exact nS q
    · exact nS q
  · exact nS hr
end
end Mine
end

section
open PySem PySem.W PyProof.Rows PySem.Calls PySem.Spec PySem.SeqAt
namespace Mine
section
variable {G : Gd} {P : Pg} {d : Nat} {sc : Scope} {ρ : List (Str × Nat)} {A : Around} {env : Env} {s : Shared} {h h' h'' : Heap} {σ σ' σ'' : List Addr} {H H' H'' : AH} {loc loc' : Loc} {tk : Nat} {a : Addr} {kvs : List (AV × AV)}
theorem keep_builtin {M : Model} {id : String} : KeepOk M (fun _ => True) (.builtin id) := fun _ _ => ⟨.machine, .inr (.inl rfl), Looks.of_pure rfl⟩
theorem keep_type {M : Model} {T : String} : KeepOk M (fun _ => True) (.type T) := fun _ _ => ⟨.machine, .inr (.inl rfl), Looks.of_pure rfl⟩
noncomputable def CallOk (G : Gd) (F : List AV → AH → Option (AV × AH)) (f : Value) : Prop :=
  ∀ (A : Around) (d : Nat) (s : Shared) (σ : List Addr) (H : AH) (Vs : List AV) (vs : List Value) (V : AV) (H' : AH), GdOk G → Room A d → HRel G σ H s.heap → RepVs s.heap σ Vs vs → F Vs H = some (V, H') →
    ∀ (Q E : Value → Shared → Prop), EP G s σ H' V Q → wpAny (model G.prog G.w) A (call f vs) Q E s
theorem prim_inv {P : Pg} {ih : RunT} {d : Nat} {p : Prim} {c : C} {loc : Loc} {H : AH} {o : Out} (hr : runStep P ih d (.prim p c) loc H = some o) : ∃ vs l H1 V H2, ih d c loc H = some (.val (.tup vs), l, H1) ∧ primF p vs H1 = some (V, H2) ∧ some (.val V, loc, H2) = some o := by
  obtain ⟨v, l, H1, h1, hr⟩ := vb_some hr
  cases v with
  | tup vs =>
    dsimp only at hr
    cases q : primF p vs H1 with
    | none => rw [q] at hr; exact nS hr
    | some z => rw [q] at hr; exact ⟨vs, l, H1, z.1, z.2, h1, q, hr⟩
  | _ => exact nS hr
theorem ESim.prim {x : Str} {pr : Prim} {f : Value} {args : List Expr} {c : C} {p pos : Pos} (hf : CallOk G (primF pr) f) (hkeep : KeepOk (model G.prog G.w) (fun _ => True) f) (hx : x ∈ bltNames) (hv : bootBuiltins x = some f) (hk : sc.names.lookup x = some .globalImplicit)
    (hd : (x == ("__debug__" : Str)) = false) (hn : x ≠ "__name__") (ha : Args G P d sc ρ args c) : ESim G P d sc ρ (.Call (.Name x p) args [] pos) (.prim pr c) := by
  intro n A env s σ H loc V loc' H' hr S Q E h
  obtain ⟨n, hr⟩ := run_step hr
  obtain ⟨vs, l, H1, v', H2, h1, q, hr⟩ := prim_inv hr
  replace h := EP.of h hr
  refine wpAny_Call_NameR (name_blt S hk (S.ok.gbl _ hx) hn hv hd ?_)
  refine ha.run h1 S hkeep fun Vs e => ?_
  cases e
  intro vv h' tk σ' x R rs _
  exact ⟨trivial, hf A d _ σ' _ _ _ _ _ S.ok S.room R rs q _ _ (EP.ext h x)⟩
theorem len_lst {A : Around} {s : Shared} {l : List AV} {items : Array Value} {b : Addr} {Q E : Value → Shared → Prop} (R : HRel G σ H s.heap) (hl : l.length ≤ 60000) (g : s.heap.IsList b items) (rs : RepVs s.heap σ l items.toList) (h : EP G s σ H (.int l.length) Q) : wpAny (model G.prog G.w) A (call (.builtin "len") [.ref b]) Q E s := by
  have ll := rs.length
  rw [Array.length_toList] at ll
  exact call_len_list g (by omega) (by rw [ll]; exact h.tick _ R (.int _ _))
theorem call_len : CallOk G (primF .len) (.builtin "len") := by
  intro A d s σ H Vs vs V H' ok room R rs e Q E h
  rcases Vs with _ | ⟨x, _ | ⟨y, l⟩⟩
  · exact nS e
  · cases rs using RepVs.consE with | mk r rs =>
    cases rs using RepVs.nilE
    cases x with
    | tup l =>
      obtain ⟨hl, e⟩ := if_some1 e
      cases r using RepV.tupE with | @mk t items ht nt rs =>
      have ll := rs.length
      rw [Array.length_toList] at ll
      exact PyProof.Rows.len_tuple ht (by omega) (by rw [ll]; exact (h.of2 e).tick _ R (.int _ _))
    | obj i =>
      replace e : (match H[i]? with
        | some (.list l) => if l.length ≤ 60000 then some (AV.int l.length, H) else none
        | some (.frz l) => if l.length ≤ 60000 then some (AV.int l.length, H) else none
        | _ => none) = some (V, H') := e
      cases r using RepV.objE with | @mk b ea =>
      cases hi : H[i]? with
      | none => rw [hi] at e; exact nS e
      | some q =>
        rw [hi] at e
        cases q with
        | list l =>
          obtain ⟨hl, e⟩ := if_some1 e
          cases R.rep _ _ _ hi ea using ORep.listE with | @mk items n g rs => exact len_lst R hl ⟨_, g, rfl, n, rfl⟩ rs (h.of2 e)
        | frz l =>
          obtain ⟨hl, e⟩ := if_some1 e
          cases R.rep _ _ _ hi ea with | frz g rs => exact len_lst R hl g rs (h.of2 e)
        | _ => exact nS e
    | _ => exact nS e
  · cases x <;> exact nS e
theorem call_int : CallOk G (primF .int) (.type "int") := by
  intro A d s σ H Vs vs V H' ok room R rs e Q E h
  rcases Vs with _ | ⟨x, _ | ⟨y, l⟩⟩
  · exact nS e
  · cases rs using RepVs.consE with | mk r rs =>
    cases rs using RepVs.nilE
    cases x with
    | int i => cases r using RepV.intE with | mk t => exact call_int_int ((h.of2 e).val R (.int _ _))
    | bool b => cases r using RepV.boolE; exact call_int_bool ((h.of2 e).tick _ R (.int _ _))
    | _ => exact nS e
  · cases x <;> exact nS e
theorem max_inv {vs : List AV} {H : AH} {o : AV × AH} (e : maxF vs H = some o) : ∃ x y, vs = [.int x, .int y] ∧ some (.int (if x < y then y else x), H) = some o := by
  rcases vs with _ | ⟨x, _ | ⟨y, _ | ⟨z, l⟩⟩⟩
  · exact nS e
  · cases x <;> exact nS e
  · cases x with
    | int x =>
      cases y with
      | int y => exact ⟨x, y, rfl, e⟩
      | _ => exact nS e
    | _ => exact nS e
  · cases x with
    | int x => cases y <;> exact nS e
    | _ => exact nS e
theorem call_max : CallOk G (primF .max) (.builtin "max") := by
  intro A d s σ H Vs vs V H' ok room R rs e Q E h
  obtain ⟨x, y, rfl, e⟩ := max_inv e
  replace h := h.of2 e
  cases rs using RepVs.consE with | mk r rs =>
  cases rs using RepVs.consE with | mk r2 rs =>
  cases rs using RepVs.nilE
  cases r using RepV.intE with | mk t =>
  cases r2 using RepV.intE with | mk u =>
  refine max_two_ints room.1 fun h' tk hk => ?_
  have sz := sz_of ok R hk
  by_cases q : x < y
  · rw [if_pos q] at h ⊢; exact h _ _ _ _ (.same hk) (R.same hk sz) (.int _ _)
  · rw [if_neg q] at h ⊢; exact h _ _ _ _ (.same hk) (R.same hk sz) (.int _ _)
theorem tup_lst {A : Around} {s : Shared} {l : List AV} {items : Array Value} {n : Nat} {b : Addr} {Q E : Value → Shared → Prop} (ok : GdOk G) (R : HRel G σ H s.heap) (hl : l.length ≤ 60000) (g : s.heap.get? b = some (listOf items n)) (rs : RepVs s.heap σ l items.toList) (h : EP G s σ H (.tup l) Q) : wpAny (model G.prog G.w) A (call (.type "tuple") [.ref b]) Q E s := by
  have ll := rs.length
  rw [Array.length_toList] at ll
  refine call_tuple_list ⟨_, g, rfl, n, rfl⟩ (fun h' hk => ?_) (by rw [sizeLine_eq, ll]; exact Nat.le_trans hl (by decide))
  have k2 : ∀ b o, s.heap.get? b = some o → (h'.push { cls := .type "tuple", data := .seq items }).get? b = some o := fun b o e => Heap.get?_push_of_some _ (hk b o e)
  have x : Ext s.heap (h'.push { cls := .type "tuple", data := .seq items }) σ σ := .same k2
  exact h _ _ _ _ x (R.same k2 (sz_of ok R k2)) (.tup ⟨_, Heap.get?_push_size _ rfl, rfl, 0, rfl⟩ (fun m => by obtain ⟨ob, e⟩ := R.mem m; exact Nat.lt_irrefl _ (Heap.lt_size (hk _ _ e))) (rs.ext x R))
theorem call_tupleOf : CallOk G (primF .tupleOf) (.type "tuple") := by
  intro A d s σ H Vs vs V H' ok room R rs e Q E h
  rcases Vs with _ | ⟨x, _ | ⟨y, l⟩⟩
  · exact nS e
  · cases rs using RepVs.consE with | mk r rs =>
    cases rs using RepVs.nilE
    cases x with
    | tup l => cases r using RepV.tupE with | @mk t items ht nt rs => exact call_tuple_same ht ((h.of2 e).val R (.tup ht nt rs))
    | obj i =>
      replace e : (match H[i]? with
        | some (.list l) => if l.length ≤ 60000 then some (AV.tup l, H) else none
        | _ => none) = some (V, H') := e
      cases r using RepV.objE with | @mk b ea =>
      cases hi : H[i]? with
      | none => rw [hi] at e; exact nS e
      | some q =>
        rw [hi] at e
        cases q with
        | list l =>
          obtain ⟨hl, e⟩ := if_some1 e
          cases R.rep _ _ _ hi ea using ORep.listE with | mk g rs => exact tup_lst ok R hl g rs (h.of2 e)
        | _ => exact nS e
    | _ => exact nS e
  · cases x <;> exact nS e
noncomputable def PmCallOk (G : Gd) (pr : PM) (id : String) : Prop :=
  ∀ (A : Around) (d : Nat) (s : Shared) (σ : List Addr) (H : AH) (v : AV) (vv : Value) (Vs : List AV) (vs : List Value) (V : AV) (H' : AH), GdOk G → Room A d → HRel G σ H s.heap → RepV s.heap σ v vv → RepVs s.heap σ Vs vs → pmF pr v Vs H = some (V, H') →
    ∀ (Q E : Value → Shared → Prop), EP G s σ H' V Q → wpAny (model G.prog G.w) A (call (.builtin id) (vv :: vs)) Q E s
noncomputable def pmT : PM → String
  | .append => "list"
  | .extend => "list"
  | .pop => "list"
  | .get => "dict"
  | .setdefault => "dict"
noncomputable def TyD (s : Shared) (vv : Value) (T : String) : Prop := s.TypeIs vv T ∧ (∀ a, vv = .ref a → ∃ o, s.heap.get? a = some o ∧ o.dict = none)
theorem tyD {s : Shared} {a : Addr} {o : Obj} {T : String} (g : s.heap.get? a = some o) (c : o.cls = .type T) (d : o.dict = none) : TyD s (.ref a) T := ⟨⟨o, g, c⟩, fun b hb => by cases hb; exact ⟨o, g, d⟩⟩
theorem nB {p : Prop} (h : false = true) : p := nomatch h
theorem isL_inv {v : AV} {H : AH} (e : isL v H = true) : ∃ i l, v = .obj i ∧ H[i]? = some (.list l) := by
  cases v with
  | obj i =>
    replace e : (match H[i]? with
      | some (.list _) => true
      | _ => false) = true := e
    cases hi : H[i]? with
    | none => rw [hi] at e; exact nB e
    | some q =>
      rw [hi] at e
      cases q with
      | list l => exact ⟨i, l, rfl, hi⟩
      | _ => exact nB e
  | _ => exact nB e
theorem isD_inv {v : AV} {H : AH} (e : isD v H = true) : ∃ i l, v = .obj i ∧ H[i]? = some (.dict l) := by
  cases v with
  | obj i =>
    replace e : (match H[i]? with
      | some (.dict _) => true
      | _ => false) = true := e
    cases hi : H[i]? with
    | none => rw [hi] at e; exact nB e
    | some q =>
      rw [hi] at e
      cases q with
      | dict l => exact ⟨i, l, rfl, hi⟩
      | _ => exact nB e
  | _ => exact nB e
theorem pm_type {pr : PM} {v : AV} {vv : Value} (R : HRel G σ H s.heap) (rv : RepV s.heap σ v vv) (e : pmOk pr v H = true) : TyD s vv (pmT pr) := by
  have L : isL v H = true → TyD s vv "list" := by
    intro e
    obtain ⟨i, l, rfl, ei⟩ := isL_inv e
    cases rv using RepV.objE with | @mk a ea =>
    cases R.rep _ _ _ ei ea using ORep.listE with | mk g2 _ => exact tyD g2 rfl rfl
  have D : isD v H = true → TyD s vv "dict" := by
    intro e
    obtain ⟨i, l, rfl, ei⟩ := isD_inv e
    cases rv using RepV.objE with | @mk a ea =>
    cases R.rep _ _ _ ei ea with
    | dictS x _ _ => obtain ⟨o, _, _, e, x, _⟩ := x; exact tyD e x.1 x.2.1
    | dictI x _ => obtain ⟨o, _, _, e, x, _⟩ := x; exact tyD e x.1 x.2.1
    | dictT x _ _ => obtain ⟨o, _, _, e, x, _⟩ := x; exact tyD e x.1 x.2.1
  cases pr with
  | append => exact L e
  | extend => exact L e
  | pop => exact L e
  | get => exact D e
  | setdefault => exact D e
theorem ESim.pm {o : Expr} {name : Str} {pr : PM} {id : String} {args : List Expr} {co c : C} {apos pos : Pos} {pl : Env → Sem Bool} (hc : PmCallOk G pr id) (pa : PlainAttrs (pmT pr)) (slot : Slot (pmT pr) name id) (hty : typeOf (.builtin id) = pure (.type "method_descriptor"))
    (ho : ESim G P d sc ρ o co) (ha : Args G P d sc ρ args c)
    (he : ∀ env, eval (.Call (.Attribute o name apos) args [] pos) env = (do
      let ov ← eval o env
      standAt apos.atName
      let (f, first) ← holding [ov] (getMethod ov name (pl env))
      callWith pos f first (backTo pos (starEach args env)) (backToKw pos (keywordEach [] env)))) :
    ESim G P d sc ρ (.Call (.Attribute o name apos) args [] pos) (.pm pr co c) := by
  intro n A env s σ H loc V loc' H' hr S Q E h
  obtain ⟨n, hr⟩ := run_step hr
  obtain ⟨v, l, H1, h1, hr⟩ := vb_some hr
  split at hr
  · rename_i ep
    obtain ⟨w, l2, H2, h2, hr⟩ := vb_some hr
    split at hr
    · rename_i vs
      split at hr
      · rename_i v' H3 q
        replace h := EP.of h hr
        refine methodCall_KW (ho n A env s σ H loc _ _ _ h1 S _ _ fun av h' tk σ' x R rv => ?_) (he env)
        obtain ⟨hT, hd⟩ := pm_type (s := { s with heap := h', toks := tk }) R rv ep
        refine getMethod_builtin hT pa slot hty hd ?_
        refine ha.run h2 (S.ext x R) keep_builtin fun Vs e => ?_
        cases e
        intro vv h'' tk' σ'' x' R' rs _
        exact ⟨trivial, hc A d _ σ'' _ _ _ _ _ _ _ S.ok S.room R' (rv.ext x' R) rs q _ _ (EP.ext (EP.ext h x) x')⟩
      · exact nS hr
    · exact nS hr
  · exact nS hr
theorem onL_some {v : AV} {k : Nat → List AV → Option (AV × AH)} {o : AV × AH} (e : onL v H k = some o) : ∃ i l, v = .obj i ∧ H[i]? = some (.list l) ∧ k i l = some o := by
  unfold onL at e
  split at e
  · split at e
    · rename_i q; exact ⟨_, _, rfl, q, e⟩
    · exact nS e
  · exact nS e
theorem onD_some {v : AV} {k : Nat → List (AV × AV) → Option (AV × AH)} {o : AV × AH} (e : onD v H k = some o) : ∃ i l, v = .obj i ∧ H[i]? = some (.dict l) ∧ k i l = some o := by
  unfold onD at e
  split at e
  · split at e
    · rename_i q; exact ⟨_, _, rfl, q, e⟩
    · exact nS e
  · exact nS e
theorem list_at (R : HRel G σ H h) {i : Nat} {l : List AV} (ea : σ[i]? = some a) (ei : H[i]? = some (.list l)) : ∃ items n, h.get? a = some (listOf items n) ∧ RepVs h σ l items.toList ∧ items.size = l.length := by
  obtain ⟨a', ea', r⟩ := R.addr ei
  rw [ea] at ea'; cases ea'
  cases r using ORep.listE with | @mk items n g rs =>
  have ll := rs.length
  rw [Array.length_toList] at ll
  exact ⟨items, n, g, rs, ll⟩
theorem RepVs.snoc {Vs : List AV} {vs : List Value} {V : AV} {v : Value} (r : RepVs h σ Vs vs) (rv : RepV h σ V v) : RepVs h σ (Vs ++ [V]) (vs ++ [v]) := r.append (.cons rv .nil)
theorem call_append : PmCallOk G .append "list.append" := by
  intro A d s σ H v vv Vs vs V H' ok room R rv rs e Q E h
  replace e : appendF v Vs H = some (V, H') := e
  unfold appendF at e
  obtain ⟨i, l, rfl, ei, e⟩ := onL_some e
  split at e
  · split at e
    · rename_i hl
      cases e
      cases rv using RepV.objE with | @mk a ea =>
      cases rs using RepVs.consE with | mk r rs =>
      cases rs using RepVs.nilE
      obtain ⟨items, n, g, rs, ll⟩ := list_at R ea ei
      have ma := List.mem_of_getElem? ea
      have nt := rep_notTup R ma
      refine append_at g (fun h' sb g' => ?_) (by rw [sizeLine_eq]; omega)
      refine h _ _ s.toks _ (.set ma sb ⟨_, g'⟩) (R.set ea ei rfl sb (.list g' ?_)) .none
      rw [Array.toList_push]
      exact (rs.but nt sb).snoc (r.but nt sb)
    · exact nS e
  · exact nS e
theorem mapSeq_exact {f : Array Value → Array Value} {its : Array Value} {n : Nat} : ∃ n', Obj.mapSeq f (listOf its n) = listOf (f its) n' := ⟨_, rfl⟩
theorem ext_seq {A : Around} {s : Shared} {a b : Addr} {ob : Obj} {T : String} {items its2 : Array Value} {n n2 i : Nat} {l xs : List AV} {Q E : Value → Shared → Prop} (R : HRel G σ H s.heap) (ea : σ[i]? = some a) (ei : H[i]? = some (.list l)) (g : s.heap.get? a = some (listOf items n)) (rl : RepVs s.heap σ l items.toList) (ho : s.heap.get? b = some ob) (hc : ob.cls = .type T) (hT : T = "list" ∨ T = "tuple") (hd : ob.data = .seq its2 n2) (rx : RepVs s.heap σ xs its2.toList) (hl : l.length + xs.length ≤ 60000)
    (h : EP G s σ (H.set i (.list (l ++ xs))) .none Q) : wpAny (model G.prog G.w) A (call (.builtin "list.extend") [.ref a, .ref b]) Q E s := by
  have ma := List.mem_of_getElem? ea
  have nt := rep_notTup R ma
  have ll := rl.length
  have lx := rx.length
  rw [Array.length_toList] at ll lx
  refine wpAny_call_entry PySem.F.slot_list_extend ⟨_, g, rfl⟩ PySem.F.entry_list_extend ?_ (PySem.F.args_list_extend_2 _ _)
  show wpAny _ A.in1 (Builtin.List.listExtendWith (.ref a) (.ref b) .none) _ _ s
  unfold Builtin.List.listExtendWith
  refine wpAny_bind (wpAny_typeOf ⟨ob, ho, hc⟩ ?_)
  have h1 : (Builtin.List.listSameRef (.ref a) (.ref b) || Value.type T == Value.type "list" || Value.type T == Value.type "tuple") = true := by
    rcases hT with rfl | rfl <;> simp
  simp only [h1, if_true]
  refine wpAny_bind ?_
  unfold Builtin.List.listItems
  refine wpAny_bind (wpAny_seqItems ho hd (wpAny_pure ?_))
  refine wpAny_bind ?_
  refine wpAny_bind (wpAny_seqItems g rfl (wpAny_pure ?_))
  have hs : items.size + its2.size ≤ sizeLine := by rw [ll, lx, sizeLine_eq]; exact Nat.le_trans hl (by decide)
  rw [if_neg (extend_door hs)]
  show wpAny _ A.in1 (updateSeq a (· ++ its2) >>= fun _ => ret .none) _ _ s
  obtain ⟨n', e'⟩ := mapSeq_exact (f := (· ++ its2)) (its := items) (n := n)
  have g' : (s.heap.update a (Obj.mapSeq (· ++ its2))).get? a = some (listOf (items ++ its2) n') := by rw [Heap.get?_update_self _ g rfl, e']
  have sb := Heap.SameBut.update s.heap a (Obj.mapSeq (· ++ its2))
  refine wpAny_bind (wpAny_updateSeq g rfl (wpAny_pure ⟨.none, rfl, ?_⟩) (Nat.le_trans (Nat.le_add_right _ _) hs) (by rw [Array.size_append]; exact Nat.le_succ_of_le hs))
  refine h _ _ s.toks _ (.set ma sb ⟨_, g'⟩) (R.set ea ei rfl sb (.list g' ?_)) .none
  rw [Array.toList_append]
  exact (rl.but nt sb).append (rx.but nt sb)
theorem call_extend : PmCallOk G .extend "list.extend" := by
  intro A d s σ H v vv Vs vs V H' ok room R rv rs e Q E h
  obtain ⟨i, l, rfl, ei, e⟩ := onL_some (show onL v H _ = some (V, H') from e)
  cases rv using RepV.objE with | @mk a ea =>
  obtain ⟨items, n, g, rl, ll⟩ := list_at R ea ei
  rcases Vs with _ | ⟨x, _ | ⟨y, r⟩⟩
  · exact nS e
  · cases rs using RepVs.consE with | mk r rs =>
    cases rs using RepVs.nilE
    cases x with
    | tup xs =>
      obtain ⟨hl, e⟩ := if_some1 e
      cases r using RepV.tupE with | @mk t its2 ht _ rx =>
      obtain ⟨o, ho, hc, n2, hd⟩ := ht
      exact ext_seq R ea ei g rl ho hc (.inr rfl) hd rx hl (h.of2 e)
    | obj j =>
      obtain ⟨ne, e⟩ := if_some2 e
      cases r using RepV.objE with | @mk b eb =>
      cases hj : H[j]? with
      | none => rw [hj] at e; exact nS e
      | some q =>
        rw [hj] at e
        cases q with
        | list xs =>
          obtain ⟨hl, e⟩ := if_some1 e
          obtain ⟨its2, n2, g2, rx, _⟩ := list_at R eb hj
          exact ext_seq R ea ei g rl g2 rfl (.inl rfl) rfl rx hl (h.of2 e)
        | _ => exact nS e
    | _ => exact nS e
  · cases x <;> exact nS e
theorem RepVs.unsnoc {Vs : List AV} {vs : List Value} {V : AV} (r : RepVs h σ Vs vs) (e : Vs.getLast? = some V) : ∃ v, vs.getLast? = some v ∧ RepV h σ V v ∧ RepVs h σ Vs.dropLast vs.dropLast := by
  induction Vs generalizing vs with
  | nil => exact nS e
  | cons W Ws ih =>
    cases r using RepVs.consE with | @mk w ws rw rws =>
    cases Ws with
    | nil =>
      cases rws using RepVs.nilE
      cases e
      exact ⟨w, rfl, rw, .nil⟩
    | cons X Xs =>
      cases ws with
      | nil => cases rws
      | cons y ys =>
        rw [List.getLast?_cons_cons] at e
        obtain ⟨v, e1, r1, r2⟩ := ih rws e
        exact ⟨v, by rw [List.getLast?_cons_cons]; exact e1, r1, .cons rw r2⟩
theorem call_pop : PmCallOk G .pop "list.pop" := by
  intro A d s σ H v vv Vs vs V H' ok room R rv rs e Q E h
  replace e : popF v Vs H = some (V, H') := e
  unfold popF at e
  obtain ⟨i, l, rfl, ei, e⟩ := onL_some e
  cases rv with | @obj _ a ea =>
  obtain ⟨items, n, g, rl, ll⟩ := list_at R ea ei
  have ma := List.mem_of_getElem? ea
  have nt := rep_notTup R ma
  split at e
  · split at e
    · rename_i x el
      split at e
      · rename_i hl
        cases e
        cases rs using RepVs.nilE
        obtain ⟨y, ey, ry, rd⟩ := rl.unsnoc el
        have ey' : items[items.size - 1]? = some y := by
          rw [List.getLast?_eq_getElem?, Array.length_toList] at ey
          rw [← Array.getElem?_toList]; exact ey
        refine PyProof.Rows.Copied.pop_at g ey' (fun h' sb g' => ?_) (by rw [sizeLine_eq]; omega)
        refine h _ _ s.toks _ (.set ma sb ⟨_, g'⟩) (R.set ea ei rfl sb (.list g' ?_)) (ry.but nt sb)
        rw [Array.toList_pop]
        exact rd.but nt sb
      · exact nS e
    · exact nS e
  · exact nS e
end
end Mine
end

section
open PySem PySem.W PyProof.Rows PySem.Calls PySem.Spec PySem.SeqAt
namespace Mine
section
variable {G : Gd} {P : Pg} {d : Nat} {sc : Scope} {ρ : List (Str × Nat)} {A : Around} {env : Env} {s : Shared} {h h' h'' : Heap} {σ σ' σ'' : List Addr} {H H' H'' : AH} {loc loc' : Loc} {tk : Nat} {a : Addr} {kvs : List (AV × AV)}
theorem dict_at (R : HRel G σ H h) {i : Nat} {o : AO} (ea : σ[i]? = some a) (ei : H[i]? = some o) : ORep G h σ o a := R.rep _ _ _ ei ea
theorem str_look {x : Str} {o : Option AV} (r : ORep G h σ (.dict kvs) a) (e : dGet (.str x) kvs = some o) :
    ∃ ks vs, kvs = sMap ks ∧ h.DictOf (PySem.strKind G.prog G.w) a vs ∧ PRep h σ ks vs ∧ (∀ p ∈ ks, PyData.strOk p.1 = true) ∧ (∀ V, o = some V → ∃ v, valueAt vs x = some v ∧ RepV h σ V v) ∧ (o = none → valueAt vs x = none) := by
  unfold dGet at e
  split at e
  · rename_i hk
    cases e
    unfold keysOk at hk
    obtain ⟨ks, vs, rfl, hD, rp, ok⟩ := dict_S r hk
    have f := find_P (h := h) (σ := σ) AV.str enc_str x rp
    refine ⟨ks, vs, rfl, hD, rp, ok, fun V q => ?_, fun q => ?_⟩
    · unfold sMap at q; rw [q] at f; exact f
    · unfold sMap at q; rw [q] at f; exact f
  · exact nS e
theorem call_get : PmCallOk G .get "dict.get" := by
  intro A d s σ H v vv Vs vs V H' ok room R rv rs e Q E h
  replace e : getF v Vs H = some (V, H') := e
  unfold getF at e
  obtain ⟨i, kvs, rfl, ei, e⟩ := onD_some e
  cases rv using RepV.objE with | @mk a ea =>
  have r := R.rep _ _ _ ei ea
  have lo := low_ne R ei ea rfl
  split at e
  · rename_i x X
    cases rs using RepVs.consE with | mk rk rs =>
    cases rs using RepVs.consE with | mk rx rs =>
    cases rs using RepVs.nilE
    cases rk using RepV.strE with | mk t kx =>
    split at e
    · rename_i W q
      cases e
      obtain ⟨ks, vs, rfl, hD, rp, _, f1, _⟩ := str_look r q
      obtain ⟨v, e1, r1⟩ := f1 _ rfl
      refine wpAny_call_entry PySem.F.slot_dict_get hD.typeIs PySem.F.entry_dict_get ?_ (PySem.F.args_dict_get_3 _ _ _)
      show wpAny _ _ (dictGet a _ >>= _) _ _ s
      refine wpAny_bind (wpAny_dictGet_of (strKind_is _ _ _ t) hD.mapOf ?_)
      rw [e1]
      exact wpAny_pure ⟨_, rfl, h.tick _ R r1⟩
    · rename_i q
      cases e
      obtain ⟨ks, vs, rfl, hD, rp, _, _, f2⟩ := str_look r q
      have e1 := f2 rfl
      refine wpAny_call_entry PySem.F.slot_dict_get hD.typeIs PySem.F.entry_dict_get ?_ (PySem.F.args_dict_get_3 _ _ _)
      show wpAny _ _ (dictGet a _ >>= _) _ _ s
      refine wpAny_bind (wpAny_dictGet_of (strKind_is _ _ _ t) hD.mapOf ?_)
      rw [e1]
      show wpAny _ _ (Builtin.Dict.missed a _ >>= _) _ _ _
      exact wpAny_bind (wpAny_missed_other lo (wpAny_pure ⟨_, rfl, h.tick _ R rx⟩))
    · exact nS e
  · exact nS e
theorem setdefault_new {prog : Program} {w : World} {K : Type} [DecidableEq K] {knd : KeyKind prog w K} {A : Around} {E : Value → Shared → Prop} {s : Shared} {d : Addr} {kvs : List (K × Value)} {k : K} {key v : Value} {Q : Value → Shared → Prop} (hkey : knd.is k key = true) (hm : s.heap.DictOf knd d kvs)
    (hv : valueAt kvs k = none) (hQ : ∀ h', h'.DictOf knd d (stored kvs k v) → Heap.SameBut d s.heap h' → Q v { s with heap := h', toks := s.toks + 1 })
    (hsz : kvs.length ≤ sizeLine) :
    wpAny (model prog w) A (dictSetDefault d key v) Q E s := by
  obtain ⟨o, es, ep, ho, hc, hd, hk, hp, hn⟩ := hm
  have hes : es.size ≤ sizeLine := by
    have e1 := hp.length
    have e2 : es.toList.length = es.size := by simp
    omega
  unfold dictSetDefault
  try with_reducible refine wpAny_holding ?_
  refine wpAny_bind (knd.pyHash hkey ?_)
  refine wpAny_bind (wpAny_dictFind_of (s := { s with toks := s.toks + 1 }) hkey ho hd hk ?_)
  have hany : ¬ (kvs.any fun kv => decide (kv.1 = k)) = true := by
    rw [List.any_eq_true]; rintro ⟨kv, hkv, he⟩
    unfold valueAt at hv
    rw [Option.map_eq_none_iff, List.find?_eq_none] at hv
    exact hv _ hkv he
  have hnot : k ∉ kvs.map (·.1) := fun m => by
    obtain ⟨kv, m, e⟩ := List.mem_map.mp m
    exact hany (List.any_eq_true.mpr ⟨kv, m, decide_eq_true e⟩)
  have hidx : (es.findIdx? fun e => knd.is k e.key) = kvs.findIdx? fun kv => decide (kv.1 = k) := by
    rw [← hp.findIdx k]; obtain ⟨l⟩ := es; simp
  have hi : (es.findIdx? fun e => knd.is k e.key) = none := by
    rw [hidx, List.findIdx?_eq_none_iff]
    intro x m
    cases q : decide (x.1 = k) with
    | false => rfl
    | true => exact absurd (List.any_eq_true.mpr ⟨x, m, q⟩) hany
  rw [hi]
  refine wpAny_bind (wpAny_rule (wpAny_bind (wpAny_updateDictKeys (hz := hes) (s := { s with toks := s.toks + 1 }) ho hd (wpAny_pure (hQ _ ⟨_, _, ep + 1, Heap.get?_update_self _ ho (Obj.isFreed_of_dict (Obj.data_mapDictKeys hd _)),
      hc.mapDictKeys _, Obj.data_mapDictKeys hd _, hk.push hkey _, ?_, ?_⟩ (Heap.SameBut.update ..))))))
  · rw [stored, if_neg hany]
    have := hp.append hkey (knd.hash k) v
    obtain ⟨l⟩ := es
    simpa using this
  · rw [stored, if_neg hany, List.map_append, List.nodup_append]
    refine ⟨hn, by simp, ?_⟩
    intro a ha b hb
    simp only [List.map_cons, List.map_nil, List.mem_singleton] at hb
    subst hb
    exact fun e => hnot (e ▸ ha)
theorem setdef_body (a : Addr) (key dflt : Value) (lo : (a == sysModules) = false) {prog : Program} {w : World} {A : Around} {E : Value → Shared → Prop} {s : Shared} {Q : Fin → Shared → Prop} (hT : s.TypeIs (.ref a) "dict")
    (h : wpAny (model prog w) A (dictSetDefault a key dflt) (fun v s' => Q (.done (.ret v)) s') E s) : wpAny (model prog w) A (Builtin.«dict.setdefault» ⟨[.ref a, key, dflt], []⟩) Q E s := by
  unfold Builtin.«dict.setdefault»
  refine wpAny_bind ?_
  unfold Builtin.Dict.keyAndDefault
  refine wpAny_bind (wpAny_notOrdered_dict hT ?_)
  show wpAny _ _ (pure (a, key, some dflt)) _ _ s
  refine wpAny_pure ?_
  show wpAny _ _ (if (a == sysModules) = true then _ else (dictSetDefault a key dflt >>= _)) _ _ s
  rw [if_neg (by rw [lo]; exact Bool.false_ne_true)]
  exact wpAny_bind (wpAny_mono h (fun v s' q => wpAny_pure q) fun _ _ e => e)
theorem dictLe_of {K : Type} [DecidableEq K] {prog : Program} {w : World} {knd : KeyKind prog w K} {a : Addr} {kvs : List (K × Value)} (r : h.DictOf knd a kvs) (hl : kvs.length ≤ sizeLine) : h.DictLe a sizeLine := by
  obtain ⟨o, es, ep, ho, hc, hd, hk, hp, hn⟩ := r
  intro o' es' ep' ho' hd'
  rw [ho] at ho'; cases ho'
  rw [hd] at hd'; cases hd'
  have e1 := hp.length
  have e2 : es.toList.length = es.size := by simp
  omega
theorem call_setdefault : PmCallOk G .setdefault "dict.setdefault" := by
  intro A d s σ H v vv Vs vs V H' ok room R rv rs e Q E h
  replace e : setdefF v Vs H = some (V, H') := e
  unfold setdefF at e
  obtain ⟨i, kvs, rfl, ei, e⟩ := onD_some e
  cases rv using RepV.objE with | @mk a ea =>
  have r := R.rep _ _ _ ei ea
  have ma := List.mem_of_getElem? ea
  have nt := rep_notTup R ma
  have lo := low_ne R ei ea rfl
  split at e
  · rename_i k0 x0 _
    cases rs using RepVs.consE with | mk rk rs =>
    cases rs using RepVs.consE with | mk rx rs =>
    cases rs using RepVs.nilE
    cases rk using RepV.strE with | @mk t kx =>
    split at e
    · exact nS e
    rename_i hl
    have hl2 : ∀ {ks : List (Str × AV)} {vs : List (Str × Value)}, kvs = sMap ks → PRep s.heap σ ks vs → vs.length ≤ sizeLine := fun e q => by
      rw [e] at hl
      rw [q.keysLen, sizeLine_eq]; unfold sMap at hl; rw [List.length_map] at hl; omega
    split at e
    · rename_i W q
      cases e
      obtain ⟨ks, vs, rfl, hD, rp, _, f1, _⟩ := str_look r q
      obtain ⟨v, e1, r1⟩ := f1 _ rfl
      refine wpAny_call_entry PySem.F.slot_dict_setdefault hD.typeIs PySem.F.entry_dict_setdefault (setdef_body _ _ _ lo hD.typeIs ?_) (PySem.F.args_dict_setdefault_3 _ _ _)
      refine wpAny_dictSetDefault_of (strKind_is _ _ _ t) hD.mapOf (fun u e2 => ?_) (fun e2 => ?_) ?_
      · rw [e1] at e2; cases e2
        exact ⟨_, rfl, h.tick _ R r1⟩
      · exact nS (Eq.trans (Eq.symm e2) e1)
      · exact dictLe_of hD (hl2 rfl rp)
    · rename_i q
      · cases e
        obtain ⟨ks, vs, rfl, hD, rp, ok', _, f2⟩ := str_look r q
        have e1 := f2 rfl
        have nd : (vs.map (·.1)).Nodup := by obtain ⟨o, es, ep, g, x, dd, _, _, n⟩ := hD; exact n
        obtain ⟨ks', e1', rp', e2⟩ := put_P AV.str enc_str _ rx rp nd
        have hz := hl2 rfl rp
        refine wpAny_call_entry PySem.F.slot_dict_setdefault hD.typeIs PySem.F.entry_dict_setdefault (setdef_body _ _ _ lo hD.typeIs ?_) (PySem.F.args_dict_setdefault_3 _ _ _)
        refine setdefault_new (s := s) (Q := fun v s' => ∃ u, Fin.done (.ret v) = .done (.ret u) ∧ Q u s') (strKind_is _ _ _ t) hD e1 (fun h' hD' sb => ⟨_, rfl, ?_⟩) hz
        have new : ORep G h' σ (.dict (dPut (.str k0) V (sMap ks))) a := by
          unfold sMap
          rw [e1']
          exact .dictS hD' (rp'.but nt sb) fun p m => by
            rcases e2 p m with q | ⟨q, m, q2⟩
            · rw [q]; exact kx
            · rw [← q2]; exact ok' q m
        exact h _ _ _ _ (.set ma sb new.there) (R.set ea ei rfl sb new) (rx.but nt sb)
    · exact nS e
  · exact nS e
end
end Mine
end

section
open PySem PySem.W PyProof.Rows PySem.Calls PySem.Spec PySem.SeqAt
namespace Mine
inductive ItAt (h : Heap) (σ : List Addr) : Src → Nat → List Addr → Addr → Prop
  | list {n l it k : Nat} : σ[n]? = some l → h.IsListIter it l k → it ∉ σ → ItAt h σ (.vals (.obj n)) k [it] it
  | tup {vs : List AV} {t it k : Nat} : RepV h σ (.tup vs) (.ref t) → h.IsTupleIter it t k → it ∉ σ → ItAt h σ (.vals (.tup vs)) k [it] it
  | rng {n : Int} {it k : Nat} : IsRangeIter h it k (n - k) 1 → it ∉ σ → ItAt h σ (.rng n) k [it] it
  | zip {n1 n2 m l1 l2 z TI TO i1 i2 k : Nat} : σ[n1]? = some l1 → σ[n2]? = some l2 → σ[m]? = some TO → IsZip h z TI TO .none → IsPair h TI (.ref i1) (.ref i2) → h.IsListIter i1 l1 k → h.IsListIter i2 l2 k → z ∉ σ → TI ∉ σ → i1 ∉ σ → i2 ∉ σ → ZipApart z TI TO i1 i2 l1 l2 →
      ItAt h σ (.zip (.obj n1) (.obj n2) m) k [z, TI, TO, i1, i2] z
section
variable {G : Gd} {P : Pg} {d : Nat} {sc : Scope} {ρ : List (Str × Nat)} {A : Around} {env : Env} {s : Shared} {h h' h'' : Heap} {σ σ' σ'' : List Addr} {H H' H'' : AH} {loc loc' : Loc} {tk : Nat} {a : Addr} {S : Src} {k : Nat} {fp : List Addr} {it : Addr}
theorem HRel.off (R : HRel G σ H h) (bad : List Addr) (sz : G.Off h'.objs.size) (kk : ∀ b o, b ∉ bad → h.get? b = some o → h'.get? b = some o) (nb : ∀ b ∈ bad, NT h σ b ∧ G.Off b)
    (rt : ∀ (i : Nat) (o : AO) (b : Addr), b ∈ bad → H[i]? = some o → σ[i]? = some b → ORep G h' σ o b) : HRel G σ H h' ∧ TK h σ h' σ := by
  have tt : TK h σ h' σ := fun a items t n => by
    have nm : a ∉ bad := fun m => (nb a m).1.elim n fun q => q _ t
    obtain ⟨o, e, c⟩ := t
    exact ⟨⟨o, kk _ _ nm e, c⟩, n⟩
  refine ⟨⟨R.len, R.nd, R.low, fun b o e => ?_, R.bnd, sz, fun i o b hi hb => ?_⟩, tt⟩
  · refine kk b o (fun m => ?_) (R.base b o e)
    have l := (nb b m).2
    exact nS (Eq.trans (Eq.symm l.1) e)
  · by_cases m : b ∈ bad
    · exact rt i o b m hi hb
    · have r := R.rep i o b hi hb
      obtain ⟨ob, g⟩ := r.there
      exact r.mono tt (fun _ _ e => e) ((kk _ _ m g).trans g.symm)
theorem fields_notTup {b : Addr} {o : Obj} {vs : Array Value} (g : h.get? b = some o) (hd : o.data = .fields vs) : NT h σ b := .inr <| by
  rintro items ⟨o', e, _, n, q⟩
  rw [g] at e; cases e
  rw [hd] at q; cases q
theorem notIn_grow (x : XExt env h h' σ σ') {b : Addr} {o : Obj} (e : h.get? b = some o) (n : b ∉ σ) : b ∉ σ' := by
  obtain ⟨ν, rfl, l⟩ := x.grow
  rw [List.mem_append]
  rintro (m | m)
  · exact n m
  · exact nS (Eq.trans (Eq.symm (l b m)) e)
theorem XExt.at (a : XExt env h h' σ σ') {n : Nat} {x : Addr} (e : σ[n]? = some x) : σ'[n]? = some x := by
  obtain ⟨ν, rfl, _⟩ := a.grow
  rw [List.getElem?_append_left (List.getElem?_eq_some_iff.mp e).1]; exact e
theorem XExt.fields (x : XExt env h h' σ σ') (L : LRel G env ρ loc h σ) {b : Addr} {o : Obj} (g : h.get? b = some o) (hd : (∀ es n, o.data ≠ .dict es n) ∧ ∀ v, o.data ≠ .cell v) (n : b ∉ σ) : h'.get? b = some o := by
  refine x.keep _ _ g n (fun e => ?_) (fun y e => ?_)
  · subst e
    obtain ⟨m, ⟨o', es, ep, e', q, _⟩, _⟩ := L.ns
    rw [g] at e'; cases e'
    exact hd.1 _ _ q
  · obtain ⟨_, _, _, ov, o', e', q⟩ := L.cells y b e
    rw [g] at e'; cases e'
    exact hd.2 _ q
theorem XExt.tup (x : XExt env h h' σ σ') (L : LRel G env ρ loc h σ) : TK h σ h' σ' := fun a items t n => by
  obtain ⟨o, e, c, m, q⟩ := t
  exact ⟨⟨o, x.fields L e ⟨fun _ _ z => by rw [q] at z; (cases z), fun _ z => by rw [q] at z; (cases z)⟩ n, c, m, q⟩, notIn_grow x e n⟩
theorem RepV.xext {V : AV} {v : Value} (r : RepV h σ V v) (x : XExt env h h' σ σ') (L : LRel G env ρ loc h σ) : RepV h' σ' V v := r.mono (x.tup L) fun _ _ => x.at
theorem ItAt.xext (I : ItAt h σ S k fp it) (x : XExt env h h' σ σ') (L : LRel G env ρ loc h σ) : ItAt h' σ' S k fp it := by
  have kf : ∀ {b : Addr} {o : Obj} {vs : Array Value}, h.get? b = some o → o.data = .fields vs → b ∉ σ → h'.get? b = some o ∧ b ∉ σ' := fun g q n =>
    ⟨x.fields L g ⟨fun _ _ z => by rw [q] at z; (cases z), fun _ z => by rw [q] at z; (cases z)⟩ n, notIn_grow x g n⟩
  cases I with
  | list e g n =>
    obtain ⟨o, g, c, q⟩ := g
    have z := kf g q n
    exact .list (x.at e) ⟨o, z.1, c, q⟩ z.2
  | tup r g n =>
    obtain ⟨o, g, c, q⟩ := g
    have z := kf g q n
    exact .tup (r.xext x L) ⟨o, z.1, c, q⟩ z.2
  | rng g n =>
    have z := kf g rfl n
    exact .rng z.1 z.2
  | zip e1 e2 e3 gz gi g1 g2 nz nTI n1 n2 D =>
    obtain ⟨o1, g1, c1, q1⟩ := g1
    obtain ⟨o2, g2, c2, q2⟩ := g2
    have z1 := kf g1 q1 n1
    have z2 := kf g2 q2 n2
    have zz := kf gz rfl nz
    have zt : h'.get? _ = some _ ∧ _ := ⟨x.fields L gi ⟨fun _ _ z => by (cases z), fun _ z => by (cases z)⟩ nTI, notIn_grow x gi nTI⟩
    exact .zip (x.at e1) (x.at e2) (x.at e3) zz.1 zt.1 ⟨o1, z1.1, c1, q1⟩ ⟨o2, z2.1, c2, q2⟩ zz.2 zt.2 z1.2 z2.2 D
noncomputable def ItNext (G : Gd) (s : Shared) (σ : List Addr) (H : AH) (S : Src) (k : Nat) (fp : List Addr) (it : Addr) (V : AV) (Q : Value → Shared → Prop) : Prop :=
  ∀ v h' tk, (∀ b o, b ∉ fp → s.heap.get? b = some o → h'.get? b = some o) → (∀ b o, s.heap.get? b = some o → ∃ o', h'.get? b = some o') → HRel G σ H h' → TK s.heap σ h' σ → RepV h' σ V v → ItAt h' σ S (k + 1) fp it → Q v { s with heap := h', toks := tk }
inductive SK where
  | vals | rng | zip
noncomputable def Src.sk : Src → SK
  | .vals _ => .vals
  | .rng _ => .rng
  | .zip _ _ _ => .zip
inductive TgtOk : Expr → SK → Prop
  | nv {x : Str} {p : Pos} : TgtOk (.Name x p) .vals
  | nr {x : Str} {p : Pos} : TgtOk (.Name x p) .rng
  | tv {es c p} : TgtOk (.Tuple es c p) .vals
  | tz {es c p} : TgtOk (.Tuple es c p) .zip
theorem letGo_tupleiter {prog : Program} {w : World} {E : Value → Shared → Prop} {elts : List Expr} {x1} {pos : Pos} {I l T : Addr} {i : Nat} {Q : Unit → Shared → Prop} (hit : s.heap.IsTupleIter I l i) (hQ : Q () s) :
    wpAny (model prog w) A (letOwnedTupleGo (.Tuple elts x1 pos) (.ref I) (.ref T)) Q E s := by
  obtain ⟨o, ho, hc, hd⟩ := hit
  unfold letOwnedTupleGo
  refine wpAny_bind (wpAny_load ho ?_)
  rw [hc, hd]
  show wpAny _ A (if (["enumerate", "zip", "dict_itemiterator", "dict_reverseitemiterator", "odict_iterator", "itertools.zip_longest", "itertools.pairwise"].contains "tuple_iterator" &&
      (#[.ref l, .int i 0] : Array Value)[0]? == some (rawInt T)) = true then _ else _) Q E s
  rw [if_neg (by
    intro h
    rw [show (["enumerate", "zip", "dict_itemiterator", "dict_reverseitemiterator", "odict_iterator", "itertools.zip_longest", "itertools.pairwise"].contains "tuple_iterator") = false from by decide, Bool.false_and] at h
    cases h)]
  exact wpAny_pure hQ
theorem live_same {b : Addr} (sb : Heap.SameBut b h h') (l : ∃ o, h'.get? b = some o) : ∀ c o, h.get? c = some o → ∃ o', h'.get? c = some o' := fun c o e => by
  by_cases q : c = b
  · exact q ▸ l
  · exact ⟨o, (sb.2 c q).trans e⟩
theorem goL {prog : Program} {w : World} {t : Expr} {E : Value → Shared → Prop} {Q : Unit → Shared → Prop} {v : Value} {l i : Nat} (ht : TgtOk t .vals) (g : s.heap.IsListIter it l i) (hQ : Q () s) : wpAny (model prog w) A (letOwnedTupleGo t (.ref it) v) Q E s := by
  cases ht with
  | nv => exact wpAny_of_eq (a := ()) rfl hQ
  | tv =>
    cases v with
    | ref _ => exact wpAny_letOwnedTupleGo_listiter g hQ
    | _ => exact wpAny_of_eq (a := ()) rfl hQ
theorem goT {prog : Program} {w : World} {t : Expr} {E : Value → Shared → Prop} {Q : Unit → Shared → Prop} {v : Value} {l i : Nat} (ht : TgtOk t .vals) (g : s.heap.IsTupleIter it l i) (hQ : Q () s) : wpAny (model prog w) A (letOwnedTupleGo t (.ref it) v) Q E s := by
  cases ht with
  | nv => exact wpAny_of_eq (a := ()) rfl hQ
  | tv =>
    cases v with
    | ref _ => exact letGo_tupleiter g hQ
    | _ => exact wpAny_of_eq (a := ()) rfl hQ
theorem goR {prog : Program} {w : World} {t : Expr} {E : Value → Shared → Prop} {Q : Unit → Shared → Prop} {x v : Value} (ht : TgtOk t .rng) (hQ : Q () s) : wpAny (model prog w) A (letOwnedTupleGo t x v) Q E s := by
  cases ht
  exact wpAny_of_eq (a := ()) rfl hQ
theorem if_some {α : Type} {c : Prop} {_ : Decidable c} {x y : α} (e : (if c then some x else none) = some y) : x = y := by
  by_cases h : c
  · exact Option.some.inj ((if_pos h).symm.trans e)
  · exact nS ((if_neg h).symm.trans e)
theorem srcL {n : Nat} {x : Option AV} (e : srcNext (.vals (.obj n)) k H = some x) : ∃ vs, H[n]? = some (.list vs) ∧ vs[k]? = x := by
  unfold srcNext itemsOf at e
  dsimp only at e
  cases q : H[n]? with
  | none => rw [q] at e; exact nS e
  | some o =>
    rw [q] at e
    cases o with
    | list vs => exact ⟨vs, rfl, if_some e⟩
    | _ => exact nS e
theorem srcT {vs : List AV} {x : Option AV} (e : srcNext (.vals (.tup vs)) k H = some x) : vs[k]? = x := by
  exact if_some e
theorem srcR {n : Int} {x : Option AV} (e : srcNext (.rng n) k H = some x) : (if (k : Int) < n then some (.int k) else none) = x := by
  exact if_some e
theorem listOfV_obj {n : Nat} {xs : List AV} (e : listOfV (.obj n) H = some xs) : H[n]? = some (.list xs) := by
  unfold listOfV at e
  dsimp only at e
  cases q : H[n]? with
  | none => rw [q] at e; exact nS e
  | some o =>
    rw [q] at e
    cases o with
    | list vs => exact congrArg (fun l => some (AO.list l)) (Option.some.inj e)
    | _ => exact nS e
theorem isRes_at {m : Nat} (e : isRes m H = true) : H[m]? = some .res := by
  unfold isRes at e
  cases q : H[m]? with
  | none => rw [q] at e; cases e
  | some o =>
    rw [q] at e
    cases o with
    | res => rfl
    | _ => cases e
theorem srcZ {n1 n2 m : Nat} {x : Option AV} (e : srcNext (.zip (.obj n1) (.obj n2) m) k H = some x) : ∃ xs ys, H[m]? = some .res ∧ H[n1]? = some (.list xs) ∧ H[n2]? = some (.list ys) ∧
    (match xs[k]?, ys[k]? with
        | some u, some v => some (some (.tup [u, v]))
        | none, _ => some none
        | _, _ => none) = some x := by
  replace e : (match isRes m H with
    | true => match listOfV (.obj n1) H, listOfV (.obj n2) H with
      | some x, some y => match x[k]?, y[k]? with
        | some u, some v => some (some (.tup [u, v]))
        | none, _ => some none
        | _, _ => none
      | _, _ => none
    | false => none) = some x := e
  cases qr : isRes m H with
  | false => rw [qr] at e; exact nS e
  | true =>
    rw [qr] at e
    cases q1 : listOfV (.obj n1) H with
    | none => rw [q1] at e; exact nS e
    | some xs =>
      cases q2 : listOfV (.obj n2) H with
      | none => rw [q1, q2] at e; exact nS e
      | some ys =>
        rw [q1, q2] at e
        exact ⟨xs, ys, isRes_at qr, listOfV_obj q1, listOfV_obj q2, e⟩
theorem one_step {s : Shared} {V : AV} {v : Value} {F : Value → Shared → Prop} (R : HRel G σ H s.heap) (ni : it ∉ σ) (lb : G.Off it) (nt : NT s.heap σ it) (sb : Heap.SameBut it s.heap h') (ex : ∃ o, h'.get? it = some o) (hQ : ItNext G s σ H S k [it] it V F) (rv : RepV s.heap σ V v) (I : ItAt h' σ S (k + 1) [it] it) : F v { s with heap := h', toks := tk } :=
  hQ v h' tk (fun b o nb e => (sb.2 b (fun z => nb (z ▸ .head _))).trans e) (live_same sb ex) (R.but ni lb nt sb) (tup_but nt sb) (rv.but nt sb) I
theorem li_nt {l i : Nat} (g : h.IsListIter it l i) : NT h σ it := let ⟨_, gi, _, qi⟩ := g; fields_notTup gi qi
theorem ti_nt {l i : Nat} (g : h.IsTupleIter it l i) : NT h σ it := let ⟨_, gi, _, qi⟩ := g; fields_notTup gi qi
theorem li_at {l i : Nat} (g : h.IsListIter it l i) : ∃ o, h.get? it = some o := let ⟨o, gi, _⟩ := g; ⟨o, gi⟩
theorem ti_at {l i : Nat} (g : h.IsTupleIter it l i) : ∃ o, h.get? it = some o := let ⟨o, gi, _⟩ := g; ⟨o, gi⟩
theorem zip_moved {n1 n2 m l1 l2 TI TO i1 i2 : Nat} (R : HRel G σ H s.heap) (e3 : σ[m]? = some TO) (gz : IsZip s.heap it TI TO .none) (gi : IsPair s.heap TI (.ref i1) (.ref i2)) (g1 : s.heap.IsListIter i1 l1 k) (g2 : s.heap.IsListIter i2 l2 k) (nz : it ∉ σ) (nTI : TI ∉ σ) (ni1 : i1 ∉ σ) (ni2 : i2 ∉ σ) (D : ZipApart it TI TO i1 i2 l1 l2)
    (fl : ∀ b ∈ [it, TI, TO, i1, i2], G.Off b) (er : H[m]? = some .res) {h' h3 : Heap} {uv vv : Value} (gz3 : IsZip h3 it TI TO .none) (gTO' : IsPair h' TO uv vv) (g1' : h'.IsListIter i1 l1 (k + 1)) (g2' : h'.IsListIter i2 l2 (k + 1)) (gT : IsPair h' s.heap.objs.size uv vv) (hs : h'.objs.size = s.heap.objs.size + 1)
    (kk : ∀ c o, c ≠ it → c ≠ TO → c ≠ i1 → c ≠ i2 → s.heap.get? c = some o → h'.get? c = some o) (sb : Heap.SameBut it h' h3) {u v : AV} {F : Value → Shared → Prop} (hQ : ItNext G s σ H (.zip (.obj n1) (.obj n2) m) k [it, TI, TO, i1, i2] it (.tup [u, v]) F) (e1 : σ[n1]? = some l1) (e2 : σ[n2]? = some l2) (ru : RepV s.heap σ u uv) (rv : RepV s.heap σ v vv) : F (.ref s.heap.objs.size) { s with heap := h3 } := by
  have zT : it ≠ s.heap.objs.size := Nat.ne_of_lt (Heap.lt_size gz)
  have k3 : ∀ b o, b ∉ [it, TI, TO, i1, i2] → s.heap.get? b = some o → h3.get? b = some o := fun b o nb e => by
    simp only [List.mem_cons, List.not_mem_nil, or_false, not_or] at nb
    exact (sb.2 b nb.1).trans (kk b o nb.1 nb.2.2.1 nb.2.2.2.1 nb.2.2.2.2 e)
  have gi3 : IsPair h3 TI (.ref i1) (.ref i2) := (sb.2 _ D.TIz).trans (kk _ _ D.TIz D.TITO D.TIi1 D.TIi2 gi)
  have gTO3 : IsPair h3 TO uv vv := (sb.2 _ D.TOz).trans gTO'
  have g13 : h3.IsListIter i1 l1 (k + 1) := by obtain ⟨o, e, r⟩ := g1'; exact ⟨o, (sb.2 _ D.i1z).trans e, r⟩
  have g23 : h3.IsListIter i2 l2 (k + 1) := by obtain ⟨o, e, r⟩ := g2'; exact ⟨o, (sb.2 _ D.i2z).trans e, r⟩
  have gT3 : IsPair h3 s.heap.objs.size uv vv := (sb.2 _ zT.symm).trans gT
  have sz3 : G.Off h3.objs.size := by rw [sb.1, hs]; exact R.offge (Nat.le_succ _)
  have k4 : ∀ b o, b ∉ [it, TO, i1, i2] → s.heap.get? b = some o → h3.get? b = some o := fun b o nb e => by
    simp only [List.mem_cons, List.not_mem_nil, or_false, not_or] at nb
    exact (sb.2 b nb.1).trans (kk b o nb.1 nb.2.1 nb.2.2.1 nb.2.2.2 e)
  obtain ⟨o1, h1, c1, q1⟩ := id g1
  obtain ⟨o2, h2, c2, q2⟩ := id g2
  obtain ⟨R3, t3⟩ := R.off (h' := h3) [it, TO, i1, i2] sz3 k4 (by
    intro b m
    simp only [List.mem_cons, List.not_mem_nil, or_false] at m
    rcases m with q | q | q | q
    · rw [q]; exact ⟨fields_notTup gz rfl, fl _ (.head _)⟩
    · rw [q]; exact ⟨.inl (List.mem_of_getElem? e3), fl _ (by simp)⟩
    · rw [q]; exact ⟨fields_notTup h1 q1, fl _ (by simp)⟩
    · rw [q]; exact ⟨fields_notTup h2 q2, fl _ (by simp)⟩) (by
    intro i o b m hi hb
    simp only [List.mem_cons, List.not_mem_nil, or_false] at m
    rcases m with q | q | q | q <;> rw [q] at hb ⊢
    · exact absurd (List.mem_of_getElem? hb) nz
    · have : i = _ := (List.getElem?_inj (List.getElem?_eq_some_iff.mp hb).1 R.nd).mp (hb.trans e3.symm)
      subst this
      cases er.symm.trans hi
      exact .res gTO3
    · exact absurd (List.mem_of_getElem? hb) ni1
    · exact absurd (List.mem_of_getElem? hb) ni2)
  refine hQ _ h3 s.toks k3 (fun b o e => ?_) R3 t3 (.tup ⟨_, gT3, rfl, 0, rfl⟩ R.new (.cons (ru.mono t3 fun _ _ e => e) (.cons (rv.mono t3 fun _ _ e => e) .nil))) (.zip e1 e2 e3 gz3 gi3 g13 g23 nz nTI ni1 ni2 D)
  by_cases nb : b ∈ [it, TO, i1, i2]
  · simp only [List.mem_cons, List.not_mem_nil, or_false] at nb
    rcases nb with q | q | q | q <;> rw [q]
    · exact ⟨_, gz3⟩
    · exact ⟨_, gTO3⟩
    · obtain ⟨o, e, _⟩ := g13; exact ⟨o, e⟩
    · obtain ⟨o, e, _⟩ := g23; exact ⟨o, e⟩
  · exact ⟨o, k4 b o nb e⟩
theorem it_zip {n1 n2 m l1 l2 TI TO i1 i2 : Nat} (R : HRel G σ H s.heap) (e1 : σ[n1]? = some l1) (e2 : σ[n2]? = some l2) (e3 : σ[m]? = some TO) (gz : IsZip s.heap it TI TO .none) (gi : IsPair s.heap TI (.ref i1) (.ref i2)) (g1 : s.heap.IsListIter i1 l1 k) (g2 : s.heap.IsListIter i2 l2 k) (nz : it ∉ σ) (nTI : TI ∉ σ) (ni1 : i1 ∉ σ) (ni2 : i2 ∉ σ) (D : ZipApart it TI TO i1 i2 l1 l2)
    (fl : ∀ b ∈ [it, TI, TO, i1, i2], G.Off b) {V : AV} (e : srcNext (.zip (.obj n1) (.obj n2) m) k H = some (some V)) {t : Expr} (ht : TgtOk t .zip) {N : Value → Shared → Prop} {Q : Option Value → Shared → Prop} {F : Value → Shared → Prop}
    (hk : ∀ v s1, wpAny (model G.prog G.w) A (letOwnedTupleGo t (.ref it) v) (fun _ s => F v s) N s1 → Q (some v) s1) (hQ : ItNext G s σ H (.zip (.obj n1) (.obj n2) m) k [it, TI, TO, i1, i2] it V F) : wpAny (model G.prog G.w) A (pyNext (.ref it)) Q N s := by
  obtain ⟨xs, ys, er, ex, ey, e⟩ := srcZ e
  obtain ⟨u, v, eu, ev, rfl⟩ : ∃ u v, xs[k]? = some u ∧ ys[k]? = some v ∧ V = .tup [u, v] := by
    revert e
    cases xs[k]? with
    | none => exact fun e => by cases e
    | some u => cases ys[k]? with
      | none => exact fun e => nS e
      | some v => exact fun e => ⟨u, v, rfl, rfl, (Option.some.inj (Option.some.inj e)).symm⟩
  obtain ⟨it1, m1, gl1, rs1, _⟩ := list_at R e1 ex
  obtain ⟨it2, m2, gl2, rs2, _⟩ := list_at R e2 ey
  obtain ⟨uv, euv, ru⟩ := rs1.get eu
  obtain ⟨vv, evv, rv⟩ := rs2.get ev
  rw [Array.getElem?_toList] at euv evv
  cases ht
  cases R.rep _ _ _ er e3 with | @res _ p1 p2 gTO =>
  refine wpAny_pyNext_zip_item D gz gi gTO g1 g2 ⟨_, gl1, rfl, m1, rfl⟩ ⟨_, gl2, rfl, m2, rfl⟩ euv evv fun h' gz' gTO' g1' g2' gT hs kk => hk _ _ (wpAny_letOwnedTupleGo_zip gz' fun h3 gz3 sb => ?_)
  exact zip_moved R e3 gz gi g1 g2 nz nTI ni1 ni2 D fl er gz3 gTO' g1' g2' gT hs kk sb hQ e1 e2 ru rv
theorem it_step {s' : Shared} (I : ItAt s.heap σ S k fp it) (R : HRel G σ H s.heap) (fl : ∀ b ∈ fp, s'.heap.get? b = none ∧ G.Off b) {V : AV} (e : srcNext S k H = some (some V)) {t : Expr} (ht : TgtOk t S.sk) {N : Value → Shared → Prop} {Q : Option Value → Shared → Prop} (F : Value → Shared → Prop)
    (hk : ∀ v s1, wpAny (model G.prog G.w) A (letOwnedTupleGo t (.ref it) v) (fun _ s => F v s) N s1 → Q (some v) s1) (hQ : ItNext G s σ H S k fp it V F) : wpAny (model G.prog G.w) A (pyNext (.ref it)) Q N s := by
  cases I with
  | @list n l _ _ e1 g ni =>
    obtain ⟨vs, ei, e⟩ := srcL e
    obtain ⟨items, m, gl, rs, ll⟩ := list_at R e1 ei
    obtain ⟨v, ev, rv⟩ := rs.get e
    rw [Array.getElem?_toList] at ev
    exact wpAny_pyNext_list_item g ⟨_, gl, rfl, m, rfl⟩ ev fun h' g' sb => hk v _ (goL ht g' (one_step R ni (fl _ (.head _)).2 (li_nt g) sb (li_at g') hQ rv (.list e1 g' ni)))
  | @tup vs t0 _ _ r g ni =>
    have tt := r
    cases tt using RepV.tupE with | @mk _ items tt nt0 rs =>
    obtain ⟨v, ev, rv⟩ := rs.get (srcT e)
    rw [Array.getElem?_toList] at ev
    exact wpAny_pyNext_tuple_item g tt ev fun h' g' sb => hk v _ (goT ht g' (one_step R ni (fl _ (.head _)).2 (ti_nt g) sb (ti_at g') hQ rv (.tup (r.but (ti_nt g) sb) g' ni)))
  | @rng n _ _ g ni =>
    have e := srcR e
    by_cases hn : (k : Int) < n
    · rw [if_pos hn] at e
      cases e
      have e1 : n - ((k : Int) + 1) = n - (k : Int) - 1 := (Int.sub_sub _ _ _).symm
      exact wpAny_pyNext_range_item g (Int.sub_pos.mpr hn) fun h' g' sb => hk _ _ (goR ht (one_step R ni (fl _ (.head _)).2 (fields_notTup g rfl) sb ⟨_, g'⟩ hQ (.int _ _) (.rng (by rw [Int.natCast_succ, e1]; exact g') ni)))
    · rw [if_neg hn] at e
      exact nS e
  | @zip n1 n2 m l1 l2 z TI TO i1 i2 _ e1 e2 e3 gz gi g1 g2 nz nTI ni1 ni2 D =>
    exact it_zip R e1 e2 e3 gz gi g1 g2 nz nTI ni1 ni2 D (fun b m => (fl b m).2) e ht hk hQ
end
end Mine
end

section
open PySem PySem.W PyProof.Rows PySem.Calls PySem.Spec PySem.SeqAt
namespace Mine
section
variable {prog : Program} {w : World} {A : Around} {E : Value → Shared → Prop} {s : Shared}
theorem zip_end1 {z TI TO i1 i2 l1 : Addr} {k1 : Nat} {xs : Array Value} {Q : Fin → Shared → Prop} (hh : A.handled = none) (i1z : i1 ≠ z) (l1z : l1 ≠ z)
    (hz : IsZip s.heap z TI TO .none) (hTI : IsPair s.heap TI (.ref i1) (.ref i2))
    (h1 : s.heap.IsListIter i1 l1 k1) (hl1 : s.heap.IsList l1 xs) (hx : xs[k1]? = none)
    (hE : ∀ h' e, (∀ c o, c ≠ z → c ≠ i1 → s.heap.get? c = some o → h'.get? c = some o) → (∃ o, h'.get? e = some o ∧ o.cls = .type "StopIteration") → (∃ o, h'.get? z = some o) → E (.ref e) { s with heap := h' }) :
    wpAny (model prog w) A (Builtin.«zip.__next__» ⟨[.ref z], []⟩) Q E s := by
  show wpAny _ _ (field (.ref z) 2 >>= _) _ _ _
  refine wpAny_bind (wpAny_field hz rfl (x := .bool false) rfl ?_)
  show wpAny _ _ (field (.ref z) 3 >>= _) _ _ _
  refine wpAny_bind (wpAny_field hz rfl (x := .ref TI) rfl ?_)
  refine wpAny_bind (wpAny_seqItems hTI rfl ?_)
  show wpAny _ _ (Builtin.SmallTypes.ownedTupleIsFree (.ref z) >>= _) _ _ _
  refine wpAny_bind ?_
  unfold Builtin.SmallTypes.ownedTupleIsFree
  refine wpAny_bind (wpAny_field hz rfl (x := .none) rfl (wpAny_pure ?_))
  simp only [if_true]
  refine wpAny_bind (wpAny_rule ?_)
  refine wpAny_bind (wpAny_field hz rfl (x := .ref TO) rfl ?_)
  refine wpAny_bind (wpAny_setField_rec hz (by simp) fun h₁ hz₁ hs₁ => ?_)
  replace hz₁ : IsZip h₁ z TI TO .ellipsis := hz₁
  refine wpAny_bind ?_
  simp only [List.zipIdx_cons, List.zipIdx_nil, List.forIn_cons, List.forIn_nil]
  refine wpAny_bind (wpAny_bind (wpAny_onRaise ?_))
  show wpAny _ _ (Builtin.SmallTypes.nextOf (.ref i1) >>= _) _ _ _
  refine wpAny_bind (wpAny_nextOf_list_end hh (h1.extBut hs₁.extBut i1z) (hl1.extBut hs₁.extBut l1z) hx fun h₂ e hs₂ he => ?_)
  obtain ⟨oe, hoe, hce⟩ := he
  have hz₂ : IsZip h₂ z TI TO .ellipsis := hs₂ _ _ i1z.symm hz₁
  have hez : e ≠ z := fun x => by subst x; rw [hz₂] at hoe; cases hoe; simp at hce
  refine wpAny_setField_rec hz₂ (by simp) fun h₃ hz₃ hs₃ => hE h₃ e (fun c o c1 c3 x => hs₃.extBut _ _ c1 (hs₂ _ _ c3 (hs₁.extBut _ _ c1 x))) ⟨oe, hs₃.extBut _ _ hez hoe, hce⟩ ⟨_, hz₃⟩
theorem pyNext_zip_end1 {z TI TO i1 i2 l1 : Addr} {k1 : Nat} {xs : Array Value} {Q : Option Value → Shared → Prop} (hh : A.handled = none) (i1z : i1 ≠ z) (l1z : l1 ≠ z)
    (hz : IsZip s.heap z TI TO .none) (hTI : IsPair s.heap TI (.ref i1) (.ref i2))
    (h1 : s.heap.IsListIter i1 l1 k1) (hl1 : s.heap.IsList l1 xs) (hx : xs[k1]? = none)
    (hQ : ∀ h', (∀ c o, c ≠ z → c ≠ i1 → s.heap.get? c = some o → h'.get? c = some o) → Q none { s with heap := h' }) : wpAny (model prog w) A (pyNext (.ref z)) Q E s := by
  have hT : s.TypeIs (.ref z) "zip" := ⟨_, hz, rfl⟩
  unfold pyNext
  refine wpAny_bind (wpAny_attempt (wpAny_callSpecial?_slot (name := Str.ofString "__next__") hT F.slot_zip_next
    (wpAny_call_entry F.slot_zip_next hT F.entry_zip_next (zip_end1 hh i1z l1z hz hTI h1 hl1 hx fun h' e hk he _ => ?_) (F.args_zip_next_1 _))))
  obtain ⟨o, ho, hc⟩ := he
  refine wpAny_bind (wpAny_isInstance (T := "StopIteration") (b := true) ⟨o, ho, hc⟩ isSubtype_stop ?_)
  exact wpAny_pure (hQ _ hk)
end
section
variable {G : Gd} {P : Pg} {d : Nat} {sc : Scope} {ρ : List (Str × Nat)} {A : Around} {env : Env} {s : Shared} {h h' h'' : Heap} {σ σ' σ'' : List Addr} {H H' H'' : AH} {loc loc' : Loc} {tk : Nat} {a : Addr} {S : Src} {k : Nat} {fp : List Addr} {it : Addr}
theorem sz_off (ok : GdOk G) (R : HRel G σ H h) {bad : List Addr} (fl : ∀ b ∈ bad, G.Off b) (kk : ∀ b o, b ∉ bad → h.get? b = some o → h'.get? b = some o) : G.Off h'.objs.size := by
  have nb : ∀ {b : Addr} {o : Obj}, G.hb.get? b = some o → b ∉ bad := fun e m => by
    rw [(fl _ m).1] at e; cases e
  obtain ⟨b, o, e, q⟩ := ok.top
  refine ⟨?_, Nat.lt_trans q (Heap.lt_size (kk _ _ (nb e) (R.base _ _ e)))⟩
  cases e : G.hb.get? h'.objs.size with
  | none => rfl
  | some o => exact absurd (Heap.lt_size (kk _ _ (nb e) (R.base _ _ e))) (Nat.lt_irrefl _)
theorem off1 (ok : GdOk G) (R : HRel G σ H h) {b : Addr} (nb : b ∉ σ) (lb : G.Off b) (nt : NT h σ b) (he : Heap.ExtBut b h h') : HRel G σ H h' ∧ TK h σ h' σ := by
  have kk : ∀ c o, c ∉ [b] → h.get? c = some o → h'.get? c = some o := fun c o n e => he c o (fun z => n (z ▸ .head _)) e
  refine R.off [b] (sz_off ok R (fun c m => by rw [List.mem_singleton.mp m]; exact lb) kk) kk (fun c m => by rw [List.mem_singleton.mp m]; exact ⟨nt, lb⟩) fun i o c m _ hc => ?_
  rw [List.mem_singleton.mp m] at hc
  exact absurd (List.mem_of_getElem? hc) nb
theorem none_at {items : Array Value} {vs : List AV} (l : items.size = vs.length) (e : vs[k]? = none) : items[k]? = none := by
  rw [Array.getElem?_eq_none_iff, l]
  exact List.getElem?_eq_none_iff.mp e
theorem end1 (ok : GdOk G) (R : HRel G σ H s.heap) (ni : it ∉ σ) (lb : G.Off it) (nt : NT s.heap σ it) (he : Heap.ExtBut it s.heap h') {Q : Option Value → Shared → Prop}
    (hQ : ∀ h', (∀ b o, b ∉ [it] → s.heap.get? b = some o → h'.get? b = some o) → HRel G σ H h' → TK s.heap σ h' σ → Q none { s with heap := h' }) : Q none { s with heap := h' } :=
  have q := off1 ok R ni lb nt he
  hQ h' (fun b o n e => he b o (fun z => n (z ▸ .head _)) e) q.1 q.2
theorem zip_end0 {i1 : Nat} {l1 : Nat} (ok : GdOk G) (R : HRel G σ H s.heap) (nz : it ∉ σ) (ni1 : i1 ∉ σ) (f1 : G.Off it) (f2 : G.Off i1) (n1 : NT s.heap σ it) (g1 : s.heap.IsListIter i1 l1 k) (he : ∀ c o, c ≠ it → c ≠ i1 → s.heap.get? c = some o → h'.get? c = some o) :
    (∀ c o, c ∉ [it, i1] → s.heap.get? c = some o → h'.get? c = some o) ∧ HRel G σ H h' ∧ TK s.heap σ h' σ := by
  have kk : ∀ c o, c ∉ [it, i1] → s.heap.get? c = some o → h'.get? c = some o := fun c o n e => he c o (fun z => n (z ▸ .head _)) (fun z => n (z ▸ .tail _ (.head _))) e
  have two : ∀ {p : Addr → Prop}, p it → p i1 → ∀ c ∈ [it, i1], p c := fun a b c m => by
    cases m with
    | head => exact a
    | tail _ m => cases m with
      | head => exact b
      | tail _ m => cases m
  refine ⟨kk, R.off [it, i1] (sz_off ok R (two f1 f2) kk) kk (two ⟨n1, f1⟩ ⟨li_nt g1, f2⟩) fun i o c m _ hc => ?_⟩
  exact absurd (List.mem_of_getElem? hc) (two (p := fun c => c ∉ σ) nz ni1 c m)
theorem it_end (ok : GdOk G) (room : Room A d) (I : ItAt s.heap σ S k fp it) (R : HRel G σ H s.heap) (fl : ∀ b ∈ fp, G.Off b) (e : srcNext S k H = some none) {Q : Option Value → Shared → Prop} {E : Value → Shared → Prop}
    (hQ : ∀ h', (∀ b o, b ∉ fp → s.heap.get? b = some o → h'.get? b = some o) → HRel G σ H h' → TK s.heap σ h' σ → Q none { s with heap := h' }) : wpAny (model G.prog G.w) A (pyNext (.ref it)) Q E s := by
  cases I with
  | @list n l _ _ e1 g ni =>
    obtain ⟨vs, ei, e⟩ := srcL e
    obtain ⟨items, m, gl, rs, ll⟩ := list_at R e1 ei
    exact wpAny_pyNext_list_end room.1 g ⟨_, gl, rfl, m, rfl⟩ (none_at ll e) fun h' he => end1 ok R ni (fl _ (.head _)) (li_nt g) he hQ
  | @tup vs t0 _ _ r g ni =>
    cases r using RepV.tupE with | @mk _ items tt nt0 rs =>
    have ll := rs.length
    rw [Array.length_toList] at ll
    exact wpAny_pyNext_tuple_end room.1 g tt (none_at ll (srcT e)) fun h' he => end1 ok R ni (fl _ (.head _)) (ti_nt g) he hQ
  | @rng n _ _ g ni =>
    have e := srcR e
    by_cases hn : (k : Int) < n
    · rw [if_pos hn] at e
      exact nS e.symm
    · exact wpAny_pyNext_range_end room.1 g (Int.not_lt.mp fun z => hn (Int.sub_pos.mp z)) fun h' he => end1 ok R ni (fl _ (.head _)) (fields_notTup g rfl) he hQ
  | @zip n1 n2 m l1 l2 z TI TO i1 i2 _ e1 e2 e3 gz gi g1 g2 nz nTI ni1 ni2 D =>
    obtain ⟨xs, ys, er, ex, ey, e⟩ := srcZ e
    have eu : xs[k]? = none := by
      revert e
      cases xs[k]? with
      | none => exact fun _ => rfl
      | some u => cases ys[k]? with
        | none => exact fun e => nS e
        | some v => exact fun e => nS (Option.some.inj e).symm
    obtain ⟨items, m', gl, rs, ll⟩ := list_at R e1 ex
    refine pyNext_zip_end1 room.1 D.i1z D.l1z gz gi g1 ⟨_, gl, rfl, m', rfl⟩ (none_at ll eu) fun h' he => ?_
    have q := zip_end0 ok R nz ni1 (fl _ (.head _)) (fl _ (.tail _ (.tail _ (.tail _ (.head _))))) (fields_notTup gz rfl) g1 he
    refine hQ h' (fun b o n e => q.1 b o (fun m => n ?_) e) q.2.1 q.2.2
    cases m with
    | head => exact .head _
    | tail _ m => cases m with
      | head => exact .tail _ (.tail _ (.tail _ (.head _)))
      | tail _ m => cases m
end
end Mine
end

section
open PySem PySem.W PyProof.Rows PySem.Calls PySem.Spec PySem.SeqAt
namespace Mine
noncomputable def SrcSim (G : Gd) (P : Pg) (d : Nat) (sc : Scope) (ρ : List (Str × Nat)) (kd : SK) (e : Expr) (c : C) : Prop :=
  ∀ (n : Nat) (A : Around) (env : Env) (s : Shared) (σ : List Addr) (H : AH) (loc : Loc) (k : Src → AH → Option Out) (o : Out),
    srcF (run P n) d c loc H k = some o → St G d sc ρ A env s σ H loc → ∃ S H1, k S H1 = some o ∧ S.sk = kd ∧
      ∀ (Q E : Value → Shared → Prop), (∀ it fp h' tk σ', Ext s.heap h' σ σ' → HRel G σ' H1 h' → ItAt h' σ' S 0 fp it → (∀ b ∈ fp, s.heap.get? b = none ∧ G.Off b) → Q (.ref it) { s with heap := h', toks := tk }) →
        wpAny (model G.prog G.w) A (eval e env) (fun x s₁ => wpAny (model G.prog G.w) A (pyIter x) Q E s₁) E s
section
variable {G : Gd} {P : Pg} {d : Nat} {sc : Scope} {ρ : List (Str × Nat)} {A : Around} {env : Env} {s : Shared} {h h' h'' : Heap} {σ σ' σ'' : List Addr} {H H' H'' : AH} {loc loc' : Loc} {tk : Nat} {a : Addr} {S : Src} {k : Nat} {fp : List Addr} {it : Addr}
theorem fresh_none (x : Ext h h' σ σ') {b : Addr} (n : h'.get? b = none) : h.get? b = none := by
  cases e : h.get? b with
  | none => rfl
  | some o =>
    obtain ⟨o', q⟩ := x.live b o e
    exact nS (Eq.trans (Eq.symm n) q)
theorem SrcSim.vals {e : Expr} {c : C} (he : ESim G P d sc ρ e c) (hc : ∀ (ih : RunT) (d : Nat) (loc : Loc) (H : AH) (k : Src → AH → Option Out), srcF ih d c loc H k = vb (ih d c loc H) fun v H => match (itemsOf v H).isSome with
    | true => k (.vals v) H
    | false => none) : SrcSim G P d sc ρ .vals e c := by
  intro n A env s σ H loc k o hr S
  rw [hc] at hr
  obtain ⟨v, l, H1, h1, hr⟩ := vb_some hr
  split at hr
  · rename_i hi
    refine ⟨.vals v, H1, hr, rfl, fun Q E h => he n A env s σ H loc _ _ _ h1 S _ _ fun av h' tk σ' x R rv => ?_⟩
    unfold itemsOf at hi
    split at hi
    · rename_i vs
      cases rv using RepV.tupE with | @mk t items tt nt rs =>
      refine wpAny_pyIter_tuple tt ?_
      have k2 := push_keeps (h := h') { cls := .type "tuple_iterator", data := .fields #[.ref t, .int 0 0] }
      have x2 : Ext h' (h'.push { cls := .type "tuple_iterator", data := .fields #[.ref t, .int 0 0] }) σ' σ' := .same k2.1
      exact h _ [h'.objs.size] _ tk _ (x.trans x2) (R.same k2.1 (R.offge k2.2)) (.tup ((RepV.tup tt nt rs).ext x2 R) ⟨_, Heap.get?_push_size _ rfl, rfl, rfl⟩ R.new) fun b m => by
        rw [List.mem_singleton.mp m]
        exact ⟨fresh_none x (get?_size h'), R.sz⟩
    · rename_i i
      split at hi
      · rename_i vs ei
        cases rv using RepV.objE with | @mk a ea =>
        obtain ⟨items, m, g, rs, ll⟩ := list_at R ea ei
        refine wpAny_pyIter_list ⟨_, g, rfl, m, rfl⟩ ?_
        have k2 := push_keeps (h := h') { cls := .type "list_iterator", data := .fields #[.ref a, .int 0 0] }
        have x2 : Ext h' (h'.push { cls := .type "list_iterator", data := .fields #[.ref a, .int 0 0] }) σ' σ' := .same k2.1
        exact h _ [h'.objs.size] _ tk _ (x.trans x2) (R.same k2.1 (R.offge k2.2)) (.list ea ⟨_, Heap.get?_push_size _ rfl, rfl, rfl⟩ R.new) fun b m => by
          rw [List.mem_singleton.mp m]
          exact ⟨fresh_none x (get?_size h'), R.sz⟩
      · cases hi
    · cases hi
  · exact nS hr
theorem range_size {n : Int} (h0 : 0 ≤ n) : Builtin.Range.rangeSize 0 n 1 = n := by
  unfold Builtin.Range.rangeSize
  rw [if_pos (by decide)]
  split
  · rw [Int.ediv_one]; omega
  · omega
theorem range_small {n : Int} (h0 : 0 ≤ n) (h1 : n ≤ 60000) : Builtin.Range.small 0 n 1 = true := by
  unfold Builtin.Range.small
  rw [range_size h0]
  unfold Builtin.Range.rangeFitsLong
  simp only [Bool.and_eq_true, Bool.or_eq_true, decide_eq_true_eq, gt_iff_lt, Int.reduceLT, if_true]
  refine ⟨⟨⟨⟨?_, ?_⟩, ?_⟩, ?_⟩, .inr ?_⟩ <;> constructor <;> omega
theorem SrcSim.rng {e : Expr} {c : C} {p pos : Pos} (he : Args G P d sc ρ [e] c) (hk : sc.names.lookup ("range" : Str) = some .globalImplicit) :
    SrcSim G P d sc ρ .rng (.Call (.Name "range" p) [e] [] pos) (.sRng c) := by
  intro n A env s σ H loc k o hr S
  obtain ⟨v, l, H1, h1, hr⟩ := vb_some (show vb (run P n d c loc H) _ = some o from hr)
  split at hr
  · rename_i nn
    split at hr
    · rename_i hl
      refine ⟨.rng nn, H1, hr, rfl, fun Q E h => ?_⟩
      refine wpAny_Call_NameR (name_blt S hk (S.ok.gbl _ (by decide)) (by decide) boot_range (by decide) ?_)
      refine he.run h1 S keep_type fun Vs e => ?_
      cases e
      intro vv h' tk σ' x R rs _
      refine ⟨trivial, ?_⟩
      cases rs using RepVs.consE with | mk r rs =>
      cases rs using RepVs.nilE
      cases r using RepV.intE with | mk t
      refine call_range_1 ?_
      refine wpAny_pyIter_range (Heap.get?_push_size _ rfl) (range_small hl.1 hl.2) ?_
      generalize hob : ({ cls := .type "range", data := .fields #[.int 0 tk, .int nn _, .int 1 (tk + 1)] } : Obj) = ob
      have k1 := push_keeps (h := h') ob
      have k2 := push_keeps (h := h'.push ob) { cls := .type "range_iterator", data := .fields #[rawInt 0, rawInt (Builtin.Range.rangeSize 0 nn 1), rawInt 1] }
      have kk : ∀ b o, h'.get? b = some o → ((h'.push ob).push { cls := .type "range_iterator", data := .fields #[rawInt 0, rawInt (Builtin.Range.rangeSize 0 nn 1), rawInt 1] }).get? b = some o := fun b o e => k2.1 _ _ (k1.1 _ _ e)
      have nn1 : h'.get? (h'.push ob).objs.size = none := by
        cases e : h'.get? (h'.push ob).objs.size with
        | none => rfl
        | some o => exact absurd (Heap.lt_size (k1.1 _ _ e)) (Nat.lt_irrefl _)
      have x2 : Ext h' ((h'.push ob).push { cls := .type "range_iterator", data := .fields #[rawInt 0, rawInt (Builtin.Range.rangeSize 0 nn 1), rawInt 1] }) σ' σ' := .same kk
      refine h _ [(h'.push ob).objs.size] _ (tk + 1 + 1) _ (x.trans x2) (R.same kk (R.offge (Nat.le_trans k1.2 k2.2))) (.rng ?_ ?_) fun b m => by
        rw [List.mem_singleton.mp m]
        exact ⟨fresh_none x nn1, R.offge k1.2⟩
      · have e : IsRangeIter ((h'.push ob).push { cls := .type "range_iterator", data := .fields #[rawInt 0, rawInt (Builtin.Range.rangeSize 0 nn 1), rawInt 1] }) (h'.push ob).objs.size 0 (Builtin.Range.rangeSize 0 nn 1) 1 := Heap.get?_push_size _ rfl
        have q : nn - ((0 : Nat) : Int) = Builtin.Range.rangeSize 0 nn 1 := by rw [range_size hl.1]; omega
        rw [q]
        exact e
      · intro m
        obtain ⟨o, e⟩ := R.mem m
        exact nS (Eq.trans (Eq.symm nn1) e)
    · exact nS hr
  · exact nS hr
theorem list_of {v : AV} (hi : (listOfV v H).isSome = true) : ∃ i vs, v = .obj i ∧ H[i]? = some (.list vs) := by
  unfold listOfV at hi
  split at hi
  · split at hi
    · rename_i q; exact ⟨_, _, rfl, q⟩
    · cases hi
  · cases hi
theorem SrcSim.zip {e1 e2 : Expr} {c : C} {p pos : Pos} (he : Args G P d sc ρ [e1, e2] c) (hk : sc.names.lookup ("zip" : Str) = some .globalImplicit) :
    SrcSim G P d sc ρ .zip (.Call (.Name "zip" p) [e1, e2] [] pos) (.sZip c) := by
  intro n A env s σ H loc k o hr S
  obtain ⟨v, l, H2, h3, hr⟩ := vb_some (show vb (run P n d c loc H) _ = some o from hr)
  split at hr
  · split at hr
    · rename_i hi
      rw [Bool.and_eq_true] at hi
      obtain ⟨i1, xs, rfl, ei1⟩ := list_of hi.1
      obtain ⟨i2, ys, rfl, ei2⟩ := list_of hi.2
      refine ⟨_, _, hr, rfl, fun Q E h => ?_⟩
      refine wpAny_Call_NameR (name_blt S hk (S.ok.gbl _ (by decide)) (by decide) boot_zip (by decide) ?_)
      refine he.run h3 S keep_type fun Vs e => ?_
      cases e
      intro vv h' tk σ' x R rs _
      refine ⟨trivial, ?_⟩
      cases rs using RepVs.consE with | mk r rs =>
      cases rs using RepVs.consE with | mk r2 rs =>
      cases rs using RepVs.nilE
      cases r using RepV.objE with | @mk a1 ea1 =>
      cases r2 using RepV.objE with | @mk a2 ea2 =>
      obtain ⟨items1, m1, g1, rs1, ll1⟩ := list_at R ea1 ei1
      obtain ⟨items2, m2, g2, rs2, ll2⟩ := list_at R ea2 ei2
      refine call_zip_2 ⟨_, g1, rfl, m1, rfl⟩ ⟨_, g2, rfl, m2, rfl⟩ fun h3 gz gi gt gi1 gi2 hs kk => ?_
      refine wpAny_pyIter_zip gz ?_
      have new : ∀ j, h'.get? (h'.objs.size + j) = none := fun j => by
        cases e : h'.get? (h'.objs.size + j) with
        | none => rfl
        | some o => exact absurd (Heap.lt_size e) (Nat.not_lt.mpr (Nat.le_add_right _ _))
      have sz3 : G.Off h3.objs.size := by rw [hs]; exact R.offge (Nat.le_add_right _ _)
      have R3 := R.add (a := h'.objs.size + 3) kk (new 3) (R.offge (Nat.le_add_right _ _)) sz3 (.res gt)
      have x3 : Ext h' h3 σ' (σ' ++ [h'.objs.size + 3]) := ⟨⟨_, rfl, fun b m => by rw [List.mem_singleton.mp m]; exact new 3⟩, fun b o e _ => kk b o e, fun _ o e => ⟨o, kk _ _ e⟩⟩
      have out : ∀ j, j ≠ 3 → h'.objs.size + j ∉ σ' ++ [h'.objs.size + 3] := fun j nj m => by
        rcases List.mem_append.mp m with m | m
        · obtain ⟨o, e⟩ := R.mem m
          exact nS (Eq.trans (Eq.symm (new j)) e)
        · exact nj (Nat.add_left_cancel (List.mem_singleton.mp m))
      have a1l : a1 < h'.objs.size := Heap.lt_size g1
      have a2l : a2 < h'.objs.size := Heap.lt_size g2
      refine h _ [h'.objs.size + 4, h'.objs.size + 2, h'.objs.size + 3, h'.objs.size, h'.objs.size + 1] h3 tk _ (x.trans x3) R3
        (.zip (x3.at ea1) (x3.at ea2) R.last gz gi gi1 gi2 (out 4 (by decide)) (out 2 (by decide)) (out 0 (by decide)) (out 1 (by decide)) (zipApart_new a1l a2l)) fun b m => ?_
      have fl : ∀ j, s.heap.get? (h'.objs.size + j) = none ∧ G.Off (h'.objs.size + j) := fun j => ⟨fresh_none x (new j), R.offge (Nat.le_add_right _ _)⟩
      simp only [List.mem_cons, List.not_mem_nil, or_false] at m
      rcases m with q | q | q | q | q <;> rw [q]
      · exact fl 4
      · exact fl 2
      · exact fl 3
      · exact fl 0
      · exact fl 1
    · exact nS hr
  · exact nS hr
theorem ItAt.not_own (I : ItAt h σ S k fp it) {b : Addr} {o : Obj} (g : h.get? b = some o) (c : (∃ es n, o.data = .dict es n) ∨ ∃ v, o.data = .cell v) (nb : b ∉ σ) : b ∉ fp := fun m => by
  have bad : ∀ {o' : Obj} {vs : Array Value}, h.get? b = some o' → o'.data = .fields vs → False := fun g' q => by
    rw [g] at g'; cases g'
    rcases c with ⟨_, _, c⟩ | ⟨_, c⟩ <;> rw [q] at c <;> cases c
  cases I with
  | list _ q _ =>
    obtain ⟨o', q, _, z⟩ := q
    rw [← List.mem_singleton.mp m] at q
    exact bad q z
  | tup _ q _ =>
    obtain ⟨o', q, _, z⟩ := q
    rw [← List.mem_singleton.mp m] at q
    exact bad q z
  | rng q _ =>
    have q : h.get? _ = some _ := q
    rw [← List.mem_singleton.mp m] at q
    exact bad q rfl
  | zip e1 e2 e3 gz gi g1 g2 _ _ _ _ D =>
    obtain ⟨o1, h1, _, p1⟩ := g1
    obtain ⟨o2, h2, _, p2⟩ := g2
    have gz : h.get? _ = some _ := gz
    have gi : h.get? _ = some _ := gi
    simp only [List.mem_cons, List.not_mem_nil, or_false] at m
    rcases m with q | q | q | q | q
    · rw [← q] at gz; exact bad gz rfl
    · rw [← q] at gi
      rw [g] at gi; cases gi
      rcases c with ⟨_, _, c⟩ | ⟨_, c⟩ <;> cases c
    · exact nb (q ▸ List.mem_of_getElem? e3)
    · rw [← q] at h1; exact bad h1 p1
    · rw [← q] at h2; exact bad h2 p2
theorem LRel.off (L : LRel G env ρ loc h σ) (own : ∀ b o, h.get? b = some o → ((∃ es n, o.data = .dict es n) ∨ ∃ v, o.data = .cell v) → b ∉ σ → b ∉ fp) (kk : ∀ b o, b ∉ fp → h.get? b = some o → h'.get? b = some o) (tt : TK h σ h' σ) : LRel G env ρ loc h' σ := by
  obtain ⟨m, ⟨oL, es, ep, hL, hd, r⟩, hv⟩ := L.ns
  refine ⟨L.out, L.low, ⟨m, ⟨oL, es, ep, kk _ _ (own _ _ hL (.inl ⟨_, _, hd⟩) L.out) hL, hd, r⟩, fun y i V a b c => ?_⟩, fun y c a => ?_, fun y i a b => ?_, L.apart⟩
  · obtain ⟨v, e, q⟩ := hv y i V a b c
    exact ⟨v, e, q.mono tt fun _ _ e => e⟩
  · obtain ⟨e2, e3, e3', ov, ⟨o, e4, e5⟩⟩ := L.cells y c a
    exact ⟨e2, e3, e3', ov, ⟨o, kk _ _ (own _ _ e4 (.inr ⟨_, e5⟩) e2) e4, e5⟩⟩
  · obtain ⟨c, ov, e1, ⟨o, e4, e5⟩, e6⟩ := L.cell y i a b
    have e2 := (L.cells y c e1).1
    refine ⟨c, ov, e1, ⟨o, kk _ _ (own _ _ e4 (.inr ⟨_, e5⟩) e2) e4, e5⟩, fun V q => ?_⟩
    obtain ⟨v, f, r⟩ := e6 V q
    exact ⟨v, f, r.mono tt fun _ _ e => e⟩
noncomputable def ForA (G : Gd) (A : Around) (env : Env) (t : Expr) (b : List Stmt) (R : Result → Shared → Prop) (I : Shared → Prop) (v : Value) (s : Shared) : Prop :=
  wpAny (model G.prog G.w) A (assign t env v) (fun _ s₂ => wpAny (model G.prog G.w) A (execs b env) (ForF R I) (NoR G A env R) s₂) (NoR G A env R) s
noncomputable def ForQ (G : Gd) (A : Around) (env : Env) (t : Expr) (it : Addr) (b : List Stmt) (R : Result → Shared → Prop) (I : Shared → Prop) (r : Option Value) (s₁ : Shared) : Prop := match r with
  | none => R (.ok .next) s₁
  | some v => wpAny (model G.prog G.w) A (letOwnedTupleGo t (.ref it) v) (fun _ s => ForA G A env t b R I v s) (NoR G A env R) s₁
theorem for_of {t : Expr} {b : List Stmt} {R : Result → Shared → Prop} (I : Nat → Shared → Prop) (turn : ∀ n s, I n s → wpAny (model G.prog G.w) A (pyNext (.ref it)) (ForQ G A env t it b R fun s => ∃ m, m < n ∧ I m s) (NoR G A env R) s) (n : Nat) (h : I n s) :
    codeAny (model G.prog G.w) A (.forLoop t (.ref it) b [] env) R s :=
  codeAny_forLoop_any I (fun n s h => wpAny_mono (turn n s h) (fun r s₁ h => by
    cases r with
    | none => exact wpAny_execs_nil h
    | some v => exact wpAny_mono h (fun _ _ h => wpAny_mono h (fun _ _ h => wpAny_mono h (fun f _ h => by cases f <;> exact h) fun _ _ h => h) fun _ _ h => h) fun _ _ h => h) fun _ _ h => h) n h
inductive ForInv (G : Gd) (P : Pg) (d : Nat) (ρ : List (Str × Nat)) (env : Env) (s : Shared) (σ : List Addr) (SS : Src) (fp : List Addr) (it : Addr) (ct cb : C) (o : Out) (m : Nat) : Shared → Prop where
  | mk {h1 : Heap} {tk1 : Nat} {σ1 : List Addr} {H1 : AH} {loc1 : Loc} {k : Nat} (x : XExt env s.heap h1 σ σ1) (R : HRel G σ1 H1 h1) (L : LRel G env ρ loc1 h1 σ1) (I : ItAt h1 σ1 SS k fp it) (hr : run P m d (.forL ct SS k cb) loc1 H1 = some o) : ForInv G P d ρ env s σ SS fp it ct cb o m { s with heap := h1, toks := tk1 }
inductive ForT (P : Pg) (m d : Nat) (ct cb : C) (S : Src) (k : Nat) (loc : Loc) (H : AH) (o : Out) : Prop where
  | stop (q : srcNext S k H = some none) (e : some (Res.next, loc, H) = some o)
  | turn (V : AV) (l2 : Loc) (r : Res) (l3 : Loc) (H3 : AH) (q : srcNext S k H = some (some V)) (qa : asgV ct V loc = some l2) (qb : run P m d cb l2 H = some (r, l3, H3))
      (go : bodyK (fun l H => run P m d (.forL ct S (k + 1) cb) l H) (r, l3, H3) = some o)
theorem forL_inv {P : Pg} {d : Nat} {S : Src} {k : Nat} {loc : Loc} {H : AH} {n : Nat} {ct cb : C} {o : Out} (hr : run P n d (.forL ct S k cb) loc H = some o) : ∃ m, m < n ∧ ForT P m d ct cb S k loc H o := by
  cases n with
  | zero => exact nS hr
  | succ m =>
    refine ⟨m, Nat.lt_succ_self m, ?_⟩
    rcases sn_some hr with ⟨q, e⟩ | ⟨V, q, hr⟩
    · exact .stop q e
    · obtain ⟨l2, qa, hr⟩ := am_some hr
      obtain ⟨⟨r, l3, H3⟩, qb, hr⟩ := body_some hr
      exact .turn V l2 r l3 H3 q qa qb hr
theorem keep_fresh {fp : List Addr} {h1 h2 : Heap} (fl : ∀ b ∈ fp, s.heap.get? b = none ∧ G.Off b) (kk : ∀ b o, b ∉ fp → h1.get? b = some o → h2.get? b = some o) : ∀ b o, (∃ o', s.heap.get? b = some o') → h1.get? b = some o → h2.get? b = some o := fun b o e q => by
  refine kk b o (fun m => ?_) q
  obtain ⟨o', e⟩ := e
  exact nS ((fl b m).1.symm.trans e)
theorem SSim.for {t e : Expr} {ct cs cb : C} {b : List Stmt} {pos : Pos} {kd : SK} (ht : TgSim false G d sc ρ t ct) (hs : SrcSim G P d sc ρ kd e cs) (hb : XSim G P d sc ρ b cb) (hf : TgtOk t kd) (hfold : ∀ env x, foldedSetIterable e env x = pure x) :
    SSim G P d sc ρ (.For t e b [] pos) (.for ct cs cb) := by
  intro n A env s σ H loc r loc' H' hr S Q E h
  obtain ⟨n, hr⟩ := run_step hr
  obtain ⟨SS, H1, hr, hkd, hsrc⟩ := hs n A env s σ H loc (fun S H => run P n d (.forL ct S 0 cb) loc H) _ hr S
  refine wpAny_For (hsrc _ E fun it fp h' tk σ' x R I fl => ?_) (hfold env)
  refine for_of (ForInv G P d ρ env s σ SS fp it ct cb (r, loc', H')) ?_ n (.mk x.x R (S.lr.ext x S.rel) I hr)
  rintro m _ ⟨x1, R1, L1, I1, hr⟩
  obtain ⟨m', lt, T⟩ := forL_inv hr
  have fll : ∀ b ∈ fp, G.Off b := fun b m => (fl b m).2
  cases T with
  | stop q e => exact it_end S.ok S.room I1 R1 fll q fun h2 kk R2 t2 => XP.of h e _ _ _ _ (x1.but (keep_fresh fl kk)) R2 (L1.off (fun b o g c n => I1.not_own g c n) kk t2) .next
  | turn V l2 r3 l3 H3 q qa qb go =>
    refine it_step I1 R1 fl q (hkd ▸ hf) (ForA G A env t b _ _) (fun _ _ z => z) fun v h2 tk2 kk lv R2 t2 rv I2 => ?_
    have L2 := L1.off (fun b o g c n => I1.not_own g c n) kk t2
    refine ht A env _ _ _ _ V v l2 qa (S.x R2 L2) rv _ _ fun h3 tk3 x3 R3 L3 t3 _ => ?_
    refine hb m' A env _ _ _ l2 _ _ _ qb (S.x R3 L3) _ _ fun fl4 h4 tk4 σ4 x4 R4 L4 f => ?_
    have x5 := ((x1.but (keep_fresh fl kk)).trans x3).trans x4
    have I5 := (I2.xext x3 L2).xext x4 L3
    cases f with
    | next => exact ⟨m', lt, .mk x5 R4 L4 I5 go⟩
    | cont => exact ⟨m', lt, .mk x5 R4 L4 I5 go⟩
    | ret rv => exact XP.of h go _ _ _ _ x5 R4 L4 (.ret rv)
end
end Mine
end

section
open PySem PySem.W PyProof.Rows PySem.Calls PySem.Spec PySem.SeqAt
namespace Mine
noncomputable def scRel (scope sc : Scope) : Scope :=
  { scope with names := scope.names.map fun (n, k) => if (k == .free && sc.kind == .function && sc.names.lookup n == some .cell) then (n, .cell) else (n, k) }
theorem relabel_eq {scope sc : Scope} {env : Env} (e : env.scope = sc) : relabel scope env = scRel scope sc := by
  subst e; rfl
noncomputable def clos (cells : List (Str × Addr)) : List (Str × NameKind) → List (Str × Addr) → List (Str × Addr)
  | [], cs => cs
  | (x, k) :: r, cs => if k == .free then clos cells r ((x, (cells.lookup x).getD 0) :: cs) else clos cells r cs
theorem closure_run {env : Env} : ∀ (names : List (Str × NameKind)) (cs : List (Str × Addr)), (∀ x ∈ names, x.2 = .free → ∃ c, env.cells.lookup x.1 = some c) →
    (forIn names cs (fun (p : Str × NameKind) (r : List (Str × Addr)) => if (p.2 == .free) = true then (do let c ← cellOf env p.1; pure (ForInStep.yield ((p.1, c) :: r))) else (pure (ForInStep.yield r) : Sem (ForInStep (List (Str × Addr)))))) = (pure (clos env.cells names cs) : Sem (List (Str × Addr)))
  | [], cs, _ => rfl
  | (x, k) :: r, cs, h => by
    rw [List.forIn_cons]
    have ih := fun cs => closure_run r cs fun y m => h y (.tail _ m)
    by_cases q : (k == NameKind.free) = true
    · obtain ⟨c, e⟩ := h (x, k) (.head _) (beq_iff_eq.mp q)
      have e1 : cellOf env x = pure c := by unfold cellOf; rw [e]
      simp only [q, if_true, e1, pure_bind, clos, e, Option.getD_some]
      exact ih _
    · simp only [q, Bool.false_eq_true, if_false, pure_bind, clos]
      exact ih _
theorem clos_lookup {cells : List (Str × Addr)} : ∀ (names : List (Str × NameKind)) (cs : List (Str × Addr)) (x : Str) (c : Addr), (∀ x ∈ names, x.2 = .free → ∃ c, cells.lookup x.1 = some c) → (∀ y d, cs.lookup y = some d → cells.lookup y = some d) →
    (clos cells names cs).lookup x = some c → cells.lookup x = some c
  | [], cs, x, c, _, h, e => h x c e
  | (y, k) :: r, cs, x, c, hn, h, e => by
    unfold clos at e
    split at e
    · rename_i q
      obtain ⟨d, hd⟩ := hn (y, k) (.head _) (beq_iff_eq.mp q)
      refine clos_lookup r _ x c (fun z m => hn z (.tail _ m)) (fun z u e => ?_) e
      rw [List.lookup_cons] at e
      split at e
      · rename_i zq
        have := beq_iff_eq.mp zq
        subst this
        rw [hd] at e; cases e
        exact hd
      · exact h z u e
    · exact clos_lookup r _ x c (fun z m => hn z (.tail _ m)) h e
theorem clos_has {cells : List (Str × Addr)} : ∀ (names : List (Str × NameKind)) (cs : List (Str × Addr)) (x : Str), ((x, NameKind.free) ∈ names ∨ ∃ d, cs.lookup x = some d) → ∃ c, (clos cells names cs).lookup x = some c
  | [], cs, x, h => h.elim (fun m => nomatch m) id
  | (y, k) :: r, cs, x, h => by
    unfold clos
    by_cases xy : x = y
    · subst xy
      split
      · exact clos_has r _ x (.inr ⟨_, by rw [List.lookup_cons, beq_self_eq_true]⟩)
      · rename_i q
        refine clos_has r _ x ?_
        rcases h with m | m
        · rcases List.mem_cons.mp m with e | m
          · cases e; exact absurd rfl q
          · exact .inl m
        · exact .inr m
    · have h' : (x, NameKind.free) ∈ r ∨ ∃ d, cs.lookup x = some d := by
        rcases h with m | m
        · rcases List.mem_cons.mp m with e | m
          · cases e; exact absurd rfl xy
          · exact .inl m
        · exact .inr m
      split
      · refine clos_has r _ x (h'.imp id fun ⟨d, e⟩ => ⟨d, ?_⟩)
        rw [List.lookup_cons, beq_eq_false_iff_ne.mpr xy]; exact e
      · exact clos_has r _ x h'
section
variable {G : Gd} {P : Pg} {d : Nat} {sc : Scope} {ρ ρ' : List (Str × Nat)} {A : Around} {env : Env} {s : Shared} {h h' h'' : Heap} {σ σ' σ'' : List Addr} {H H' H'' : AH} {loc loc' : Loc} {tk : Nat} {a : Addr} {S : Src} {k : Nat} {fp : List Addr} {it : Addr}
theorem it_self {prog : Program} {w : World} {E : Value → Shared → Prop} {Q : Value → Shared → Prop} (I : ItAt s.heap σ S k fp it) (h : Q (.ref it) s) : wpAny (model prog w) A (pyIter (.ref it)) Q E s := by
  cases I with
  | list _ g _ => exact wpAny_pyIter_listiter g h
  | tup _ g _ => exact wpAny_pyIter_tupleiter g h
  | rng g _ => exact wpAny_pyIter_rangeiter g h
  | zip _ _ _ gz _ _ _ _ _ _ _ _ => exact wpAny_pyIter_zip gz h
theorem ItAt.keeps (I : ItAt h σ S k fp it) (kk : ∀ b o, b ∈ fp → h.get? b = some o → h'.get? b = some o) (tt : TK h σ h' σ) : ItAt h' σ S k fp it := by
  cases I with
  | list e g n => obtain ⟨o, g, c⟩ := g; exact .list e ⟨o, kk _ _ (by simp) g, c⟩ n
  | tup r g n => obtain ⟨o, g, c⟩ := g; exact .tup (r.mono tt fun _ _ e => e) ⟨o, kk _ _ (by simp) g, c⟩ n
  | rng g n => exact .rng (kk _ _ (.head _) g) n
  | zip e1 e2 e3 gz gi g1 g2 nz nTI n1 n2 D =>
    obtain ⟨o1, g1, c1⟩ := g1
    obtain ⟨o2, g2, c2⟩ := g2
    exact .zip e1 e2 e3 (kk _ _ (.head _) gz) (kk _ _ (by simp) gi) ⟨o1, kk _ _ (by simp) g1, c1⟩ ⟨o2, kk _ _ (by simp) g2, c2⟩ nz nTI n1 n2 D
theorem ItAt.not_list (I : ItAt h σ S k fp it) {b : Addr} {items : Array Value} {n : Nat} (g : h.get? b = some (listOf items n)) (nb : b ∉ σ) : b ∉ fp := fun m => by
  have bad : ∀ {o' : Obj} {vs : Array Value}, h.get? b = some o' → o'.data = .fields vs → False := fun g' q => by
    rw [g] at g'; cases g'
    cases q
  cases I with
  | list _ q _ =>
    obtain ⟨o', q, _, z⟩ := q
    rw [← List.mem_singleton.mp m] at q
    exact bad q z
  | tup _ q _ =>
    obtain ⟨o', q, _, z⟩ := q
    rw [← List.mem_singleton.mp m] at q
    exact bad q z
  | rng q _ =>
    have q : h.get? _ = some _ := q
    rw [← List.mem_singleton.mp m] at q
    exact bad q rfl
  | zip e1 e2 e3 gz gi g1 g2 _ _ _ _ D =>
    obtain ⟨o1, h1, _, p1⟩ := g1
    obtain ⟨o2, h2, _, p2⟩ := g2
    have gz : h.get? _ = some _ := gz
    have gi : h.get? _ = some _ := gi
    simp only [List.mem_cons, List.not_mem_nil, or_false] at m
    rcases m with q | q | q | q | q
    · rw [← q] at gz; exact bad gz rfl
    · rw [← q] at gi
      rw [g] at gi; exact absurd (congrArg Obj.cls (Option.some.inj gi)) (by show ¬ Value.type "list" = Value.type "tuple"; decide)
    · exact nb (q ▸ List.mem_of_getElem? e3)
    · rw [← q] at h1; exact bad h1 p1
    · rw [← q] at h2; exact bad h2 p2
theorem HRel.track (R : HRel G σ H h) {D : Addr} {o' : AO} (na : D ∉ σ) (la : G.Off D) (nt : ∀ items, ¬ h.IsTuple D items) (r : ORep G h (σ ++ [D]) o' D) : HRel G (σ ++ [D]) (H ++ [o']) h where
  len := by simp [R.len]
  nd := List.nodup_append.mpr ⟨R.nd, by simp, fun x hx y hy => by
    rw [List.mem_singleton.mp hy]
    rintro rfl
    exact na hx⟩
  low := fun i o b hi hb nf => by
    by_cases hl : i < σ.length
    · rw [List.getElem?_append_left hl] at hb
      rw [List.getElem?_append_left (by rw [← R.len]; exact hl)] at hi
      exact R.low i o b hi hb nf
    · have := (List.getElem?_eq_some_iff.mp hb).1
      simp at this
      have hi' : i = σ.length := by omega
      subst hi'
      rw [List.getElem?_append_right (Nat.le_refl _)] at hb
      simp at hb
      subst hb
      exact la
  base := R.base
  bnd := R.bnd
  sz := R.sz
  rep := fun i o b hi hb => by
    by_cases hl : i < σ.length
    · rw [List.getElem?_append_left hl] at hb
      rw [List.getElem?_append_left (by rw [← R.len]; exact hl)] at hi
      refine (R.rep i o b hi hb).mono (fun c items t n => ⟨t, fun m => ?_⟩) (fun n x e => ?_) rfl
      · rcases List.mem_append.mp m with m | m
        · exact n m
        · exact nt items (List.mem_singleton.mp m ▸ t)
      · rw [List.getElem?_append_left (List.getElem?_eq_some_iff.mp e).1]; exact e
    · have := (List.getElem?_eq_some_iff.mp hb).1
      simp at this
      have hi' : i = σ.length := by omega
      subst hi'
      rw [List.getElem?_append_right (Nat.le_refl _)] at hb
      rw [List.getElem?_append_right (by rw [R.len]; exact Nat.le_refl _)] at hi
      simp [R.len] at hb hi
      subst hb hi
      exact r
theorem list_notTup {D : Addr} {items : Array Value} {n : Nat} (g : h.get? D = some (listOf items n)) (it : Array Value) : ¬ h.IsTuple D it := by
  rintro ⟨o, e, c, _⟩
  rw [g] at e; cases e
  exact absurd c (by show ¬ Value.type "list" = Value.type "tuple"; decide)
noncomputable def CondSim (G : Gd) (P : Pg) (d : Nat) (sc : Scope) (ρ : List (Str × Nat)) (ifs : List Expr) (c : C) : Prop :=
  ∀ (n : Nat) (A : Around) (env : Env) (s : Shared) (σ : List Addr) (H : AH) (loc : Loc) (b : Bool) (loc' : Loc) (H' : AH),
    run P n d c loc H = some (.val (.bool b), loc', H') → St G d sc ρ A env s σ H loc → ∀ (Q : Bool → Shared → Prop) (E : Value → Shared → Prop),
      (∀ h' tk σ', Ext s.heap h' σ σ' → HRel G σ' H' h' → Q b { s with heap := h', toks := tk }) →
      wpAny (model G.prog G.w) A (forIn ifs true fun c r => if r = true then do let ok ← isTrue c env (eval c env); pure (ForInStep.yield ok) else pure (ForInStep.yield r)) Q E s
theorem CondSim.none : CondSim G P d sc ρ [] (.lit (.bool true)) := by
  intro n A env s σ H loc b loc' H' hr S Q E h
  obtain ⟨n, hr⟩ := run_step hr
  dsimp only [runStep] at hr
  cases hr
  exact wpAny_tests_nil (h _ _ _ .refl S.rel)
theorem CondSim.one {e : Expr} {c : C} (ht : TSim G P d sc ρ e c) : CondSim G P d sc ρ [e] c := by
  intro n A env s σ H loc b loc' H' hr S Q E h
  exact wpAny_tests_one (ht n A env s σ H loc _ _ _ hr S Q E h)
noncomputable def PatOk (t : C) : Prop := ∀ (V : AV) (loc loc' : Loc), asgV t V loc = some loc' → ∀ j, j ∉ slotsOf t → loc'[j]? = loc[j]?
theorem PatOk.var {i : Nat} : PatOk (.var i) := fun V loc loc' e j n => by
  rw [asgV_var e]
  have : i ≠ j := fun z => n (by unfold slotsOf; simp [z])
  rw [List.getElem?_set_ne this]
theorem PatOk.nil : PatOk .nil := fun V loc loc' e j n => by
  cases V with
  | tup Vs => rw [(inv_nil e).2]
  | _ => unfold asgV at e; cases e
theorem PatOk.cons {t r : C} (ht : PatOk t) (hr : PatOk r) : PatOk (.cons t r) := fun V loc loc' e j n => by
  obtain ⟨Vs, rfl⟩ := pat_cons _ _ _ e
  obtain ⟨V0, Vs', l1, rfl, e1, e2⟩ := inv_cons e
  unfold slotsOf at n
  rw [List.mem_append, not_or] at n
  rw [hr _ _ _ e2 j n.2, ht _ _ _ e1 j n.1]
theorem LRel.weak (L : LRel G env ρ loc' h σ) (k : ∀ (j : Nat) (V : AV), loc[j]? = some (some V) → loc'[j]? = some (some V)) : LRel G env ρ loc h σ := by
  obtain ⟨m, hn, hv⟩ := L.ns
  refine ⟨L.out, L.low, ⟨m, hn, fun x i V a b c => hv x i V a b (k _ _ c)⟩, L.cells, fun x i a b => ?_, L.apart⟩
  obtain ⟨c, ov, e1, e2, e3⟩ := L.cell x i a b
  exact ⟨c, ov, e1, e2, fun V q => e3 V (k _ _ q)⟩
structure CompOk (scope sc : Scope) (ρ ρ' : List (Str × Nat)) (ct : C) : Prop where
  kind : scope.kind = .function
  nocell : ∀ y ∈ scope.names, y.2 ≠ .cell
  loc : ∀ y ∈ scope.names, y.2 = .local → scope.names.lookup y.1 = some .local
  free : ∀ y ∈ scope.names, y.2 = .free → sc.names.lookup y.1 = some .cell ∧ ∃ p ∈ ρ, p.1 = y.1
  own : ∀ p ∈ ρ', (scRel scope sc).names.lookup p.1 = some .local → p.2 ∈ slotsOf ct
  out : ∀ p ∈ ρ', (scRel scope sc).names.lookup p.1 = some .cell → p ∈ ρ ∧ sc.names.lookup p.1 = some .cell ∧ (p.1, NameKind.free) ∈ scope.names
structure C2 (G : Gd) (s : Shared) (σ : List Addr) (cenv : Env) (ρ' : List (Str × Nat)) (D : Addr) (pas : Bool) (S1 : Src) (k1 : Nat) (fp1 : List Addr) (it1 : Addr) (loc : Loc) (h1 : Heap) (σ1 : List Addr) (H1 : AH) (acc : List AV) (items : Array Value) (n : Nat) : Prop where
  x : Ext s.heap h1 σ σ1
  R : HRel G σ1 H1 h1
  I : pas = true → ItAt h1 σ1 S1 k1 fp1 it1
  L : LRel G cenv ρ' loc h1 σ1
  at_ : h1.get? D = some (listOf items n)
  nD : D ∉ σ1
  ra : RepVs h1 σ1 acc items.toList
theorem C2.next {pas : Bool} {cenv : Env} {scr : Scope} {D Cc : Addr} {S1 S2 : Src} {k1 k2 : Nat} {fp1 fp2 : List Addr} {it1 it2 : Addr} {acc : List AV} {items : Array Value} {n : Nat} {t : Expr} {ct : C} {V : AV} {loc2 : Loc} {s0 : Shared} {σ1 : List Addr} {H1 : AH} {h1 : Heap} {tk1 : Nat}
    (ok : GdOk G) (room : Room A d) (ev : EnvOk scr cenv) (hC : cenv.locals = Cc) (fC : s0.heap.get? Cc = none) (fl2 : ∀ b ∈ fp2, s0.heap.get? b = none ∧ G.Off b) (dj : pas = true → ∀ b ∈ fp1, b ∉ fp2)
    (ht : TgSim true G d scr ρ' t ct) (hf : TgtOk t S2.sk) (T : C2 G s0 σ cenv ρ' D pas S1 k1 fp1 it1 loc h1 σ1 H1 acc items n) (I2 : ItAt h1 σ1 S2 k2 fp2 it2) (q : srcNext S2 k2 H1 = some (some V)) (qa : asgV ct V loc = some loc2)
    {N : Value → Shared → Prop} {Q : Option Value → Shared → Prop} (F : Shared → Prop) (hk : ∀ v s1, wpAny (model G.prog G.w) A (letOwnedTupleGo t (.ref it2) v) (fun _ s => wpAny (model G.prog G.w) A (assign t cenv v) (fun _ s => F s) N s) N s1 → Q (some v) s1)
    (K : ∀ h2 tk2, C2 G s0 σ cenv ρ' D pas S1 k1 fp1 it1 loc2 h2 σ1 H1 acc items n → ItAt h2 σ1 S2 (k2 + 1) fp2 it2 → F { s0 with heap := h2, toks := tk2 }) :
    wpAny (model G.prog G.w) A (pyNext (.ref it2)) Q N { s0 with heap := h1, toks := tk1 } := by
  refine it_step (s := { s0 with heap := h1, toks := tk1 }) I2 T.R fl2 q hf (fun v s => wpAny (model G.prog G.w) A (assign t cenv v) (fun _ s => F s) N s) hk fun v h2 tk2 kk lv R2 t2 rv I3 => ?_
  have L2 : LRel G cenv ρ' loc h2 σ1 := T.L.off (fun b o g c n => I2.not_own g c n) kk t2
  have x2 : Ext s0.heap h2 σ σ1 := T.x.but (keep_fresh fl2 kk)
  refine ht A _ _ σ1 H1 loc V v loc2 qa ⟨ok, room, ev, R2, L2⟩ rv _ _ fun h3 tk3 x3 R3 L3 t3 xl => K h3 tk3 ⟨?_, R3, fun z => ((T.I z).keeps (fun b o m e => kk b o (dj z b m) e) t2).xext x3 L2, L3, ?_, T.nD, (T.ra.mono t2 fun _ _ e => e).mono t3 fun _ _ e => e⟩ (I3.xext x3 L2)
  · refine ⟨x2.grow, fun b o e n => xl rfl b o (fun eb => ?_) (x2.keep _ _ e n), fun b o e => let ⟨o', e'⟩ := x2.live b o e; x3.live b o' e'⟩
    rw [eb, hC, fC] at e; cases e
  · exact x3.fields L2 (kk _ _ (I2.not_list T.at_ T.nD) T.at_) ⟨fun _ _ z => by (cases z), fun _ z => by (cases z)⟩ T.nD
theorem C2.weak {pas : Bool} {cenv : Env} {D : Addr} {S1 : Src} {k1 : Nat} {fp1 : List Addr} {it1 : Addr} {acc : List AV} {items : Array Value} {n : Nat} {ct : C} {V : AV} {loc2 : Loc} {σ1 : List Addr} {H1 : AH} {h1 : Heap}
    (hp : PatOk ct) (hfr : slotsFree ct loc = true) (qa : asgV ct V loc = some loc2) (T : C2 G s σ cenv ρ' D pas S1 k1 fp1 it1 loc2 h1 σ1 H1 acc items n) : C2 G s σ cenv ρ' D pas S1 k1 fp1 it1 loc h1 σ1 H1 acc items n :=
  ⟨T.x, T.R, T.I, T.L.weak (fun j W e => by
      by_cases mj : j ∈ slotsOf ct
      · have := List.all_eq_true.mp hfr j mj
        rw [e] at this; cases this
      · rw [hp _ _ _ qa j mj]; exact e), T.at_, T.nD, T.ra⟩
theorem C2.ext {pas : Bool} {cenv : Env} {D : Addr} {S1 : Src} {k1 : Nat} {fp1 : List Addr} {it1 : Addr} {acc : List AV} {items : Array Value} {n : Nat} {σ1 σ2 : List Addr} {H1 H2 : AH} {h1 h2 : Heap}
    (T : C2 G s σ cenv ρ' D pas S1 k1 fp1 it1 loc h1 σ1 H1 acc items n) (x : Ext h1 h2 σ1 σ2) (R : HRel G σ2 H2 h2) : C2 G s σ cenv ρ' D pas S1 k1 fp1 it1 loc h2 σ2 H2 acc items n :=
  ⟨T.x.trans x, R, fun z => (T.I z).xext (x.x (env := cenv)) T.L, T.L.ext (s := { s with heap := h1 }) x T.R, x.keep _ _ T.at_ T.nD, notIn_grow (env := cenv) x.x T.at_ T.nD, T.ra.ext x T.R⟩
inductive CT (P : Pg) (m d : Nat) (ct cc ce : C) (S : Src) (k : Nat) (acc : List AV) (loc : Loc) (H : AH) (o : Out) : Prop where
  | stop (q : srcNext S k H = some none) (e : some (Res.val (.tup acc), loc, H) = some o)
  | turn (V : AV) (l2 : Loc) (b : Bool) (lb : Loc) (H3 : AH) (q : srcNext S k H = some (some V)) (qa : asgV ct V loc = some l2) (hb : run P m d cc l2 H = some (.val (.bool b), lb, H3))
      (no : b = false → run P m d (.compL ct S (k + 1) cc ce acc) loc H3 = some o)
      (yes : b = true → acc.length ≤ 60000 ∧ ∃ x lx H4, run P m d ce l2 H3 = some (.val x, lx, H4) ∧ run P m d (.compL ct S (k + 1) cc ce (acc ++ [x])) loc H4 = some o)
theorem compL_inv {P : Pg} {d : Nat} {S : Src} {k : Nat} {loc : Loc} {H : AH} {n : Nat} {ct cc ce : C} {acc : List AV} {o : Out} (hr : run P n d (.compL ct S k cc ce acc) loc H = some o) : ∃ m, m < n ∧ CT P m d ct cc ce S k acc loc H o := by
  cases n with
  | zero => exact nS hr
  | succ m =>
    refine ⟨m, Nat.lt_succ_self m, ?_⟩
    rcases sn_some hr with ⟨q, e⟩ | ⟨V, q, hr⟩
    · exact .stop q e
    · obtain ⟨l2, qa, hr⟩ := am_some hr
      obtain ⟨v, lb, H3, hb, hr⟩ := vb_some hr
      cases v with
      | bool b =>
        cases b with
        | false => exact .turn V l2 false lb H3 q qa hb (fun _ => hr) (fun z => nomatch z)
        | true =>
          refine .turn V l2 true lb H3 q qa hb (fun z => nomatch z) fun _ => ?_
          dsimp only at hr
          by_cases l : 60000 < acc.length
          · rw [if_pos l] at hr; exact nS hr
          · rw [if_neg l] at hr
            exact ⟨Nat.le_of_not_lt l, vb_some hr⟩
      | _ => exact nS hr
theorem comp_out {x : Option Out} {loc loc' : Loc} {V : AV} {H' : AH} (h : (match x with
    | some (.val (.tup vs), _, H) => some (Res.val (.obj H.length), loc, H ++ [.list vs])
    | _ => none) = some (.val V, loc', H')) : ∃ vs l2 H2, x = some (.val (.tup vs), l2, H2) ∧ V = .obj H2.length ∧ H' = H2 ++ [.list vs] := by
  cases x with
  | none => exact nS h
  | some y =>
    obtain ⟨r, l, H⟩ := y
    cases r with
    | val v =>
      cases v with
      | tup vs => cases h; exact ⟨vs, l, H, rfl, rfl, rfl⟩
      | _ => exact nS h
    | _ => exact nS h
theorem if_free {c : Bool} {x : Option Out} {o : Out} (h : (if (!c) = true then none else x) = some o) : c = true ∧ x = some o := by
  cases c with
  | true => exact ⟨rfl, h⟩
  | false => exact nS h
noncomputable def LastC (L elt t iter : Expr) (ifs : List Expr) (i : Nat) : Prop := ∀ (it acc : Value) (env : Env),
    compTurn L i it acc env = (do
      standAt iter.pos
      match ← pyNext it with
      | none => pure (.done .next)
      | some v =>
        letOwnedTupleGo t it v
        assign t env v
        let mut ok := true
        for c in ifs do
          if ok then ok ← isTrue c env (eval c env)
        if ok then
          (do let _ ← call (.builtin "list.append") [acc, ← eval elt env])
        again (.compLoop L i it acc env))
noncomputable def CondE (G : Gd) (A : Around) (elt : Expr) (D : Addr) (env : Env) (I : Shared → Prop) (N : Value → Shared → Prop) (b : Bool) (s₃ : Shared) : Prop := match b with
  | true => wpAny (model G.prog G.w) A (eval elt env) (fun x s₄ => wpAny (model G.prog G.w) A (call (.builtin "list.append") [.ref D, x]) (fun _ s => I s) N s₄) N s₃
  | false => I s₃
noncomputable def CondQ (G : Gd) (A : Around) (elt : Expr) (ifs : List Expr) (D : Addr) (env : Env) (I : Shared → Prop) (N : Value → Shared → Prop) (s₂ : Shared) : Prop :=
  wpAny (model G.prog G.w) A (forIn ifs true fun c r => if r = true then do let ok ← isTrue c env (eval c env); pure (ForInStep.yield ok) else pure (ForInStep.yield r)) (CondE G A elt D env I N) N s₂
noncomputable def LastQ (G : Gd) (A : Around) (elt t : Expr) (ifs : List Expr) (it D : Addr) (env : Env) (R : Result → Shared → Prop) (I : Shared → Prop) (N : Value → Shared → Prop) (r : Option Value) (s₁ : Shared) : Prop := match r with
  | none => R (.ok .next) s₁
  | some v => wpAny (model G.prog G.w) A (letOwnedTupleGo t (.ref it) v) (fun _ s => wpAny (model G.prog G.w) A (assign t env v) (fun _ s => CondQ G A elt ifs D env I N s) N s) N s₁
theorem codeAny_last {elt t iter : Expr} {gens : List Comprehension} {scope : Scope} {pos : Pos} {ifs : List Expr} {i : Nat} {it D : Addr} {R : Result → Shared → Prop} (hL : LastC (.ListComp elt gens scope pos) elt t iter ifs i) (I : Nat → Shared → Prop)
    (turn : ∀ n s, I n s → ∀ N, wpAny (model G.prog G.w) A (pyNext (.ref it)) (LastQ G A elt t ifs it D env R (fun s => ∃ m, m < n ∧ I m s) N) N s) (n : Nat) (h : I n s) :
    codeAny (model G.prog G.w) A (.compLoop (.ListComp elt gens scope pos) i (.ref it) (.ref D) env) R s := by
  refine codeAny_loop rfl I (fun n s hI => ?_) n h
  show wpAny _ A ((compTurn (.ListComp elt gens scope pos) i (.ref it) (.ref D) env).onRaise (fun x => do noteFrame x env; theTreesLotGoes x)) _ _ s
  refine wpAny_noted ?_
  rw [hL]
  refine wpAny_bind (wpAny_standAt (wpAny_bind (wpAny_mono (turn n s hI _) (fun r s₁ h₁ => ?_) fun _ _ h' => h')))
  cases r with
  | none => exact wpAny_pure h₁
  | some v =>
    refine wpAny_bind (wpAny_mono h₁ (fun _ s₁' h₁' => ?_) fun _ _ h' => h')
    refine wpAny_bind (wpAny_mono h₁' (fun _ s₂ h₂ => wpAny_bind (wpAny_mono h₂ (fun ok s₃ h₃ => ?_) fun _ _ h' => h')) fun _ _ h' => h')
    cases ok with
    | false => exact wpAny_pure ⟨rfl, h₃⟩
    | true => exact wpAny_bind (wpAny_bind (wpAny_mono h₃ (fun x s₄ h₄ => wpAny_bind (wpAny_mono h₄ (fun _ s₅ h₅ => wpAny_pure (wpAny_pure ⟨rfl, h₅⟩)) fun _ _ h' => h')) fun _ _ h' => h'))
inductive CInv (G : Gd) (P : Pg) (d : Nat) (s : Shared) (σ : List Addr) (cenv : Env) (ρ' : List (Str × Nat)) (D : Addr) (pas : Bool) (S1 : Src) (k1 : Nat) (fp1 : List Addr) (it1 : Addr) (loc : Loc) (S2 : Src) (fp2 : List Addr) (it2 : Addr) (ct cc ce : C) (o : Out) (m : Nat) : Shared → Prop where
  | mk {h1 : Heap} {tk1 : Nat} {σ1 : List Addr} {H1 : AH} {k2 : Nat} {acc : List AV} {items : Array Value} {n : Nat} (T : C2 G s σ cenv ρ' D pas S1 k1 fp1 it1 loc h1 σ1 H1 acc items n) (I2 : ItAt h1 σ1 S2 k2 fp2 it2)
      (hl : run P m d (.compL ct S2 k2 cc ce acc) loc H1 = some o) : CInv G P d s σ cenv ρ' D pas S1 k1 fp1 it1 loc S2 fp2 it2 ct cc ce o m { s with heap := h1, toks := tk1 }
theorem C2.push {pas : Bool} {cenv : Env} {D : Addr} {S1 S2 : Src} {k1 k2 : Nat} {fp1 fp2 : List Addr} {it1 it2 : Addr} {acc : List AV} {items : Array Value} {n : Nat} {σ1 : List Addr} {H1 : AH} {h1 : Heap} {x : AV} {v : Value} {s0 : Shared} {N : Value → Shared → Prop} {Q : Shared → Prop}
    (T : C2 G s0 σ cenv ρ' D pas S1 k1 fp1 it1 loc h1 σ1 H1 acc items n) (I2 : ItAt h1 σ1 S2 k2 fp2 it2) (rx : RepV h1 σ1 x v) (fD : s0.heap.get? D = none) (lD : G.Off D) (hl : acc.length ≤ 60000)
    (K : ∀ h6, C2 G s0 σ cenv ρ' D pas S1 k1 fp1 it1 loc h6 σ1 H1 (acc ++ [x]) (items.push v) (n + 1) → ItAt h6 σ1 S2 k2 fp2 it2 → Q { s0 with heap := h6, toks := tk }) :
    wpAny (model G.prog G.w) A (call (.builtin "list.append") [.ref D, v]) (fun _ s => Q s) N { s0 with heap := h1, toks := tk } := by
  have ll := T.ra.length
  rw [Array.length_toList] at ll
  refine append_at T.at_ (fun h6 sb D6 => ?_) (by rw [sizeLine_eq, ll]; exact Nat.le_trans hl (by decide))
  have nt : NT h1 σ1 D := .inr (list_notTup T.at_)
  have x6 : Ext s0.heap h6 σ σ1 := T.x.but fun b o e q => (sb.2 b fun z => by obtain ⟨o', e⟩ := e; exact nS (fD.symm.trans (z ▸ e))).trans q
  have L6 : LRel G cenv ρ' loc h6 σ1 := T.L.off (fp := [D]) (fun b o g c n mb => by
    rw [List.mem_singleton.mp mb, T.at_] at g; cases g
    rcases c with ⟨_, _, c⟩ | ⟨_, c⟩ <;> cases c) (fun b o nb e => (sb.2 b (fun z => nb (z ▸ .head _))).trans e) (tup_but nt sb)
  have kx : ∀ {S : Src} {k : Nat} {fp : List Addr} {it : Addr}, ItAt h1 σ1 S k fp it → ItAt h6 σ1 S k fp it := fun I => I.keeps (fun b o mb e => (sb.2 b (fun z => I.not_list T.at_ T.nD (z ▸ mb))).trans e) (tup_but nt sb)
  refine K h6 ⟨x6, T.R.but T.nD lD nt sb, fun z => kx (T.I z), L6, D6, T.nD, ?_⟩ (kx I2)
  rw [Array.toList_push]
  exact (T.ra.but nt sb).snoc (rx.but nt sb)
theorem C2.end_ {pas : Bool} {cenv : Env} {D : Addr} {S1 S2 : Src} {k1 k2 : Nat} {fp1 fp2 : List Addr} {it1 it2 : Addr} {acc : List AV} {items : Array Value} {n : Nat} {σ1 : List Addr} {H1 : AH} {h1 h3 : Heap} {s0 : Shared}
    (T : C2 G s0 σ cenv ρ' D pas S1 k1 fp1 it1 loc h1 σ1 H1 acc items n) (I2 : ItAt h1 σ1 S2 k2 fp2 it2) (fl2 : ∀ b ∈ fp2, s0.heap.get? b = none ∧ G.Off b) (dj : pas = true → ∀ b ∈ fp1, b ∉ fp2)
    (kk : ∀ b o, b ∉ fp2 → h1.get? b = some o → h3.get? b = some o) (R3 : HRel G σ1 H1 h3) (t3 : TK h1 σ1 h3 σ1) : C2 G s0 σ cenv ρ' D pas S1 k1 fp1 it1 loc h3 σ1 H1 acc items n :=
  ⟨T.x.but (keep_fresh fl2 kk), R3, fun z => (T.I z).keeps (fun b o m e => kk b o (dj z b m) e) t3, T.L.off (fun b o g c n => I2.not_own g c n) kk t3, kk _ _ (I2.not_list T.at_ T.nD) T.at_, T.nD, T.ra.mono t3 fun _ _ e => e⟩
theorem C2.done {pas : Bool} {cenv : Env} {D : Addr} {S1 : Src} {k1 : Nat} {fp1 : List Addr} {it1 : Addr} {acc vs : List AV} {items : Array Value} {n : Nat} {σ1 : List Addr} {H1 H2 : AH} {h1 : Heap} {l l2 : Loc} {s0 : Shared}
    (T : C2 G s0 σ cenv ρ' D pas S1 k1 fp1 it1 loc h1 σ1 H1 acc items n) (e : some (Res.val (.tup acc), l, H1) = some (.val (.tup vs), l2, H2)) : C2 G s0 σ cenv ρ' D pas S1 k1 fp1 it1 loc h1 σ1 H2 vs items n := by
  cases e; exact T
theorem comp_inner {pas : Bool} {elt t iter : Expr} {gens : List Comprehension} {scope : Scope} {pos : Pos} {ifs : List Expr} {i : Nat} {ct cc ce : C} {cenv : Env} {scr : Scope} {D Cc : Addr} {S1 S2 : Src} {k1 : Nat} {fp1 fp2 : List Addr} {it1 it2 : Addr} {R : Result → Shared → Prop} {s0 : Shared} {vs : List AV} {l2 : Loc} {H2 : AH}
    (hL : LastC (.ListComp elt gens scope pos) elt t iter ifs i) (ok : GdOk G) (room : Room A d) (ev : EnvOk scr cenv) (hC : cenv.locals = Cc) (fC : s0.heap.get? Cc = none) (fD : s0.heap.get? D = none) (lD : G.Off D) (fl2 : ∀ b ∈ fp2, s0.heap.get? b = none ∧ G.Off b) (dj : pas = true → ∀ b ∈ fp1, b ∉ fp2)
    (ht : TgSim true G d scr ρ' t ct) (hp : PatOk ct) (hfr : slotsFree ct loc = true) (hf : TgtOk t S2.sk) (hc : CondSim G P d scr ρ' ifs cc) (he : ESim G P d scr ρ' elt ce)
    (hR : ∀ h2 tk2 σ2 items n, C2 G s0 σ cenv ρ' D pas S1 k1 fp1 it1 loc h2 σ2 H2 vs items n → R (.ok .next) { s0 with heap := h2, toks := tk2 })
    {m k2 : Nat} {h1 : Heap} {tk1 : Nat} {σ1 : List Addr} {H1 : AH} {acc : List AV} {items : Array Value} {n : Nat} (T : C2 G s0 σ cenv ρ' D pas S1 k1 fp1 it1 loc h1 σ1 H1 acc items n) (I2 : ItAt h1 σ1 S2 k2 fp2 it2)
    (hl : run P m d (.compL ct S2 k2 cc ce acc) loc H1 = some (.val (.tup vs), l2, H2)) : codeAny (model G.prog G.w) A (.compLoop (.ListComp elt gens scope pos) i (.ref it2) (.ref D) cenv) R { s0 with heap := h1, toks := tk1 } := by
  refine codeAny_last hL (CInv G P d s0 σ cenv ρ' D pas S1 k1 fp1 it1 loc S2 fp2 it2 ct cc ce (.val (.tup vs), l2, H2)) ?_ m (.mk T I2 hl)
  rintro m _ ⟨T, I2, hl⟩ N
  obtain ⟨m', lt, X⟩ := compL_inv hl
  cases X with
  | stop q e => exact it_end ok room I2 T.R (fun b m => (fl2 b m).2) q fun h3 kk R3 t3 => hR h3 _ _ _ _ ((T.end_ I2 fl2 dj kk R3 t3).done e)
  | turn V loc2 b lb H3 q qa hb no yes =>
    refine T.next ok room ev hC fC fl2 dj ht hf I2 q qa (CondQ G A elt ifs D cenv _ N) (fun _ _ z => z) fun h3 tk3 T3 I3 => ?_
    refine hc m' A _ _ _ _ loc2 b _ _ hb ⟨ok, room, ev, T3.R, T3.L⟩ _ _ fun h4 tk4 σ4 x4 R4 => ?_
    have T4 := T3.ext x4 R4
    have I4 := I3.xext (x4.x (env := cenv)) T3.L
    cases b with
    | false => exact ⟨m', lt, .mk (C2.weak hp hfr qa T4) I4 (no rfl)⟩
    | true =>
      obtain ⟨hacc, xv, lx, H4, hx, hl⟩ := yes rfl
      refine he m' A _ _ _ _ loc2 _ _ _ hx ⟨ok, room, ev, T4.R, T4.L⟩ _ _ fun av h5 tk5 σ5 x5 R5 rx => ?_
      exact C2.push (s0 := s0) (T4.ext x5 R5) (I4.xext (x5.x (env := cenv)) T4.L) rx fD lD hacc fun h6 T6 I6 => ⟨m', lt, .mk (C2.weak hp hfr qa T6) I6 hl⟩
noncomputable def cE (scope : Scope) (env : Env) (C : Addr) : Env := compEnvC scope (clos env.cells scope.names []) C env
structure CSt (G : Gd) (s : Shared) (σ : List Addr) (sc scope : Scope) (ρ' : List (Str × Nat)) (env : Env) (SS : Src) (H1 : AH) (loc : Loc) (D C : Addr) (fp : List Addr) (it : Addr) (h2 : Heap) (σ1 : List Addr) : Prop where
  T : C2 G s σ (cE scope env C) ρ' D false SS 0 [] it loc h2 σ1 H1 [] #[] 0
  I : ItAt h2 σ1 SS 0 fp it
  fD : s.heap.get? D = none
  lD : G.Off D
  fC : s.heap.get? C = none
  lC : G.Off C
  DC : D ≠ C
  ev : EnvOk (scRel scope sc) (cE scope env C)
theorem comp_cells {scope : Scope} {ct : C} (ok : CompOk scope sc ρ ρ' ct) (S : St G d sc ρ A env s σ H loc) : ∀ y ∈ scope.names, y.2 = .free → ∃ c, env.cells.lookup y.1 = some c := fun y m q => by
  obtain ⟨k1, ⟨z, i⟩, m2, qz⟩ := ok.free y m q
  obtain ⟨c, ov, e1, _⟩ := S.lr.cell z i m2 (by rw [S.ev.kindOf, show z = y.1 from qz]; exact k1)
  exact ⟨c, (show z = y.1 from qz) ▸ e1⟩
theorem comp_lrel {scope : Scope} {ct : C} {σ1 : List Addr} {h2 : Heap} {C : Addr} (ok : CompOk scope sc ρ ρ' ct) (hfr : slotsFree ct loc = true) (S : St G d sc ρ A env s σ H loc) (L0 : LRel G env ρ loc h2 σ1) (fC : s.heap.get? C = none) (nC : C ∉ σ1) (lC : G.Off C) {f : Str → Option Value} (hns : h2.Ns C f) : LRel G (cE scope env C) ρ' loc h2 σ1 := by
  have hsc : relabel scope env = scRel scope sc := relabel_eq S.ev.scp
  have cellsAt := comp_cells ok S
  have look : ∀ x c, (clos env.cells scope.names []).lookup x = some c → env.cells.lookup x = some c := fun x c e => clos_lookup scope.names [] x c cellsAt (fun _ _ z => nS z) e
  refine ⟨nC, lC, ⟨_, hns, fun x i V m q e => ?_⟩, fun x c e => ?_, fun x i m q => ?_, fun x y c e1 e2 => S.lr.apart x y c (look _ _ e1) (look _ _ e2)⟩
  · have q' : (scRel scope sc).names.lookup x = some .local := hsc ▸ q
    have := List.all_eq_true.mp hfr i (ok.own _ m q')
    rw [e] at this
    cases this
  · obtain ⟨a1, a2, a3, ov, a4⟩ := L0.cells x c (look _ _ e)
    refine ⟨a1, fun z => ?_, a3, ov, a4⟩
    obtain ⟨_, _, _, ov', o', g', _⟩ := S.lr.cells x c (look _ _ e)
    rw [show c = C from z, fC] at g'
    cases g'
  · have q' : (scRel scope sc).names.lookup x = some .cell := hsc ▸ q
    obtain ⟨m1, m2, m3⟩ := ok.out _ m q'
    obtain ⟨c, ov, e1, e2, e3⟩ := L0.cell x i m1 ((S.ev.kindOf x).trans m2)
    obtain ⟨c', e4⟩ := clos_has scope.names [] x (.inl m3) (cells := env.cells)
    have e5 := look _ _ e4
    rw [e1] at e5; cases e5
    exact ⟨c, ov, e4, e2, e3⟩
theorem comp_laid {scope : Scope} {ct : C} {SS : Src} {σ1 : List Addr} {H1 : AH} {h1 h2 : Heap} {f : Str → Option Value} (ok : CompOk scope sc ρ ρ' ct) (hfr : slotsFree ct loc = true) (S : St G d sc ρ A env s σ H loc) (x1 : Ext s.heap h1 σ σ1) (R1 : HRel G σ1 H1 h1) (I1 : ItAt h1 σ1 SS 0 fp it)
    (hns : h2.Ns (h1.push (listOf #[] 0)).objs.size f) {cb : Obj} (hsb : Heap.SameBut (h1.push (listOf #[] 0)).objs.size ((h1.push (listOf #[] 0)).push cb) h2) : CSt G s σ sc scope ρ' env SS H1 loc h1.objs.size (h1.push (listOf #[] 0)).objs.size fp it h2 σ1 := by
  have kp := push_keeps (h := h1) (listOf #[] 0)
  have szL : (h1.push (listOf #[] 0)).objs.size = h1.objs.size + 1 := Heap.size_push ..
  have newC2 : (h1.push (listOf #[] 0)).get? (h1.push (listOf #[] 0)).objs.size = none := get?_size _
  have newC1 : h1.get? (h1.push (listOf #[] 0)).objs.size = none := by
    cases e : h1.get? (h1.push (listOf #[] 0)).objs.size with
    | none => rfl
    | some o => exact absurd (Heap.lt_size (kp.1 _ _ e)) (Nat.lt_irrefl _)
  have kC : ∀ b o, (h1.push (listOf #[] 0)).get? b = some o → h2.get? b = some o := fun b o e =>
    (hsb.2 b fun z => nS (newC2.symm.trans (z ▸ e))).trans (Heap.get?_push_of_some _ e)
  have k2 : ∀ b o, h1.get? b = some o → h2.get? b = some o := fun b o e => kC _ _ (kp.1 _ _ e)
  have x2 : Ext s.heap h2 σ σ1 := x1.trans (Ext.same k2)
  have nC : (h1.push (listOf #[] 0)).objs.size ∉ σ1 := fun m => by obtain ⟨o, e⟩ := R1.mem m; exact nS (newC1.symm.trans e)
  have lC : G.Off (h1.push (listOf #[] 0)).objs.size := szL ▸ R1.offge (Nat.le_succ _)
  have fC := fresh_none x1 newC1
  exact ⟨⟨x2, R1.same k2 (sz_of S.ok R1 k2), (fun z => nomatch z), comp_lrel ok hfr S (S.lr.ext x2 S.rel) fC nC lC hns, kC _ _ (Heap.get?_push_size _ rfl), R1.new, .nil⟩, I1.keeps (fun b o _ e => k2 b o e) fun a i ⟨o, e, c⟩ n => ⟨⟨o, k2 _ _ e, c⟩, n⟩,
    fresh_none x1 (get?_size _), R1.sz, fC, lC, by rw [szL]; exact Nat.ne_of_lt (Nat.lt_succ_self _), ⟨relabel_eq S.ev.scp, ok.kind, S.ev.g, S.ev.b⟩⟩
theorem comp_open {elt t iter : Expr} {ifs : List Expr} {gs : List Comprehension} {scope : Scope} {pos p : Pos} {ct : C} {SS : Src} {H1 : AH} (ok : CompOk scope sc ρ ρ' ct) (hfr : slotsFree ct loc = true) (S : St G d sc ρ A env s σ H loc) (hfold : ∀ env x, foldedSetIterable iter env x = pure x) {use : Option (Value → Sem Unit)} {Q E : Value → Shared → Prop}
    (hsrc : ∀ (Q E : Value → Shared → Prop), (∀ it fp h' tk σ', Ext s.heap h' σ σ' → HRel G σ' H1 h' → ItAt h' σ' SS 0 fp it → (∀ b ∈ fp, s.heap.get? b = none ∧ G.Off b) → Q (.ref it) { s with heap := h', toks := tk }) →
        wpAny (model G.prog G.w) A (eval iter env) (fun x s₁ => wpAny (model G.prog G.w) A (pyIter x) Q E s₁) E s)
    (K : ∀ D C fp it h2 tk2 σ1, CSt G s σ sc scope ρ' env SS H1 loc D C fp it h2 σ1 → (∀ b ∈ fp, s.heap.get? b = none ∧ G.Off b) →
      codeAny (model G.prog G.w) A (.compLoop (.ListComp elt (⟨t, iter, ifs, 0⟩ :: gs) scope pos) 0 (.ref it) (.ref D) (cE scope env C)) (compPost (model G.prog G.w) A E use Q (.ref D) C) { s with heap := h2, toks := tk2 }) :
    wpAny (model G.prog G.w) A (comprehension (.ListComp elt (⟨t, iter, ifs, 0⟩ :: gs) scope pos) scope env p (newList []) false (eval iter env) use) Q E s := by
  have hclos : closureFor scope env = pure (clos env.cells scope.names []) := by
    simp only [closureFor]
    rw [closure_run scope.names [] (comp_cells ok S)]
    rfl
  refine wpAny_comprehension_free (g := ⟨t, iter, ifs, 0⟩) (gs := gs) rfl (hfold env) hclos ok.kind ok.loc ?_
  refine hsrc _ E fun it fp h1 tk1 σ1 x1 R1 I1 fl => ?_
  refine wpAny_newList ?_ (by rw [sizeLine_eq]; exact Nat.zero_le _)
  refine wpAny_newFunctionEnv ok.nocell (fun _ m => nomatch m) (fun h2 hns hsb => ?_) ok.kind
  have T := comp_laid ok hfr S x1 R1 I1 hns hsb
  have loop := K _ _ fp it h2 tk1 σ1 T fl
  exact codeAny_compStart_list loop (it_self T.I loop)
theorem comp_close {cenv : Env} {D C : Addr} {S1 : Src} {k1 : Nat} {fp1 : List Addr} {it1 : Addr} {pas : Bool} {vs : List AV} {items : Array Value} {n : Nat} {σ3 : List Addr} {H3 : AH} {h3 : Heap} (T : C2 G s σ cenv ρ' D pas S1 k1 fp1 it1 loc h3 σ3 H3 vs items n) (hC : cenv.locals = C) (fD : s.heap.get? D = none) (lD : G.Off D) (DC : D ≠ C)
    {p : Prop} (K : Ext s.heap h3 σ (σ3 ++ [D]) → HRel G (σ3 ++ [D]) (H3 ++ [.list vs]) h3 → RepV h3 (σ3 ++ [D]) (.obj H3.length) (.ref D) → C ∉ σ3 ++ [D] → (∃ m, h3.Ns C m) → p) : p := by
  subst hC
  refine K ?_ (T.R.track T.nD lD (list_notTup T.at_) (.list T.at_ (T.ra.mono (fun a it t n => ⟨t, fun mm => ?_⟩) fun n x e => ?_))) (.obj T.R.last) (fun mm => ?_) ?_
  · obtain ⟨ν, e, lo⟩ := T.x.grow
    refine ⟨⟨ν ++ [D], by rw [e, List.append_assoc], fun b mm => ?_⟩, T.x.keep, T.x.live⟩
    rcases List.mem_append.mp mm with mm | mm
    · exact lo b mm
    · rw [List.mem_singleton.mp mm]; exact fD
  · rcases List.mem_append.mp mm with mm | mm
    · exact n mm
    · exact list_notTup T.at_ it (List.mem_singleton.mp mm ▸ t)
  · rw [List.getElem?_append_left (List.getElem?_eq_some_iff.mp e).1]; exact e
  · rcases List.mem_append.mp mm with mm | mm
    · exact T.L.out mm
    · exact DC (List.mem_singleton.mp mm).symm
  · obtain ⟨m, a, _⟩ := T.L.ns
    exact ⟨m, a⟩
noncomputable def CompSim (G : Gd) (P : Pg) (d : Nat) (sc : Scope) (ρ : List (Str × Nat)) (L iter : Expr) (scope : Scope) (c : C) : Prop :=
  ∀ {n : Nat} {A : Around} {env : Env} {s : Shared} {σ : List Addr} {H : AH} {loc : Loc} {V : AV} {loc' : Loc} {H' : AH} {p : Pos}, run P n d c loc H = some (.val V, loc', H') → St G d sc ρ A env s σ H loc → ∀ {use : Option (Value → Sem Unit)} {Q E : Value → Shared → Prop},
    (∀ D C h' tk σ' i, V = .obj i → Ext s.heap h' σ σ' → HRel G σ' H' h' → RepV h' σ' V (.ref D) → s.heap.get? C = none → C ∉ σ' → G.Off C → (∃ m, h'.Ns C m) → compPost (model G.prog G.w) A E use Q (.ref D) C (.ok .next) { s with heap := h', toks := tk }) →
    wpAny (model G.prog G.w) A (comprehension L scope env p (newList []) false (eval iter env) use) Q E s
theorem comp_core {target iter elt : Expr} {ifs : List Expr} {scope : Scope} {pos : Pos} {ct cs cc ce : C} {kd : SK} (ok : CompOk scope sc ρ ρ' ct) (hp : PatOk ct)
    (ht : TgSim true G d (scRel scope sc) ρ' target ct) (hs : SrcSim G P d sc ρ kd iter cs) (hc : CondSim G P d (scRel scope sc) ρ' ifs cc) (he : ESim G P d (scRel scope sc) ρ' elt ce) (hf : TgtOk target kd)
    (hfold : ∀ env x, foldedSetIterable iter env x = pure x) : CompSim G P d sc ρ (.ListComp elt [⟨target, iter, ifs, 0⟩] scope pos) iter scope (.comp ct cs cc ce) := by
  intro n A env s σ H loc V loc' H' p hr S use Q E hQ
  obtain ⟨n, hr⟩ := run_step hr
  obtain ⟨hfr, hr⟩ := if_free hr
  obtain ⟨SS, H1, hr, hkd, hsrc⟩ := hs n A env s σ H loc _ _ hr S
  obtain ⟨vs, l2, H2, hl, rfl, rfl⟩ := comp_out hr
  refine comp_open ok hfr S hfold hsrc fun D C fp it h2 tk2 σ1 T fl => ?_
  exact comp_inner (pas := false) (fun it acc env => compTurn_list elt target iter ifs scope pos it acc env) S.ok S.room T.ev rfl T.fC T.fD T.lD fl (fun z => nomatch z) ht hp hfr (hkd ▸ hf) hc he
    (fun h3 tk3 σ3 items n T3 => comp_close T3 rfl T.fD T.lD T.DC fun a b c e f => hQ D C h3 tk3 _ _ rfl a b c T.fC e T.lC f) T.T T.I hl
end
end Mine
end

section
open PySem PySem.W PyProof.Rows PySem.Calls PySem.Spec PySem.SeqAt
namespace Mine
section
variable {G : Gd} {P : Pg} {d : Nat} {sc : Scope} {ρ ρ' : List (Str × Nat)}
theorem LRel.off2 {env : Env} {loc : Loc} {h h' : Heap} {σ : List Addr} {fp : List Addr} (L : LRel G env ρ loc h σ) (o1 : env.locals ∉ fp) (o2 : ∀ x c, env.cells.lookup x = some c → c ∉ fp) (kk : ∀ b o, b ∉ fp → h.get? b = some o → h'.get? b = some o) (tt : TK h σ h' σ) : LRel G env ρ loc h' σ := by
  obtain ⟨m, ⟨oL, es, ep, hL, hd, r⟩, hv⟩ := L.ns
  refine ⟨L.out, L.low, ⟨m, ⟨oL, es, ep, kk _ _ o1 hL, hd, r⟩, fun y i V a b c => ?_⟩, fun y c a => ?_, fun y i a b => ?_, L.apart⟩
  · obtain ⟨v, e, q⟩ := hv y i V a b c
    exact ⟨v, e, q.mono tt fun _ _ e => e⟩
  · obtain ⟨e2, e3, e3', ov, ⟨o, e4, e5⟩⟩ := L.cells y c a
    exact ⟨e2, e3, e3', ov, ⟨o, kk _ _ (o2 y c a) e4, e5⟩⟩
  · obtain ⟨c, ov, e1, ⟨o, e4, e5⟩, e6⟩ := L.cell y i a b
    refine ⟨c, ov, e1, ⟨o, kk _ _ (o2 y c e1) e4, e5⟩, fun V q => ?_⟩
    obtain ⟨v, f, r⟩ := e6 V q
    exact ⟨v, f, r.mono tt fun _ _ e => e⟩
theorem ESim.ofComp {t iter elt : Expr} {ifs : List Expr} {gs : List Comprehension} {scope : Scope} {pos : Pos} {c : C} (cs : CompSim G P d sc ρ (.ListComp elt (⟨t, iter, ifs, 0⟩ :: gs) scope pos) iter scope c) : ESim G P d sc ρ (.ListComp elt (⟨t, iter, ifs, 0⟩ :: gs) scope pos) c := by
  intro n A env s σ H loc V loc' H' hr S Q E h
  rw [eval_ListComp]
  refine cs hr S (use := Option.none) fun D C h' tk σ' i hv x R rv fC nC lC ⟨m, hm⟩ => ?_
  refine ⟨m, hm, fun h'' sb => ?_⟩
  have nt : NT h' σ' C := ns_notTup hm
  exact h _ h'' tk σ' (x.but fun b o e q => (sb.2 b fun z => by obtain ⟨o', e⟩ := e; exact nS (fC.symm.trans (z ▸ e))).trans q) (R.but nC lC nt sb) (rv.but nt sb)
theorem ESim.comp {target iter elt : Expr} {ifs : List Expr} {scope : Scope} {pos : Pos} {ct cs cc ce : C} {kd : SK} (ok : CompOk scope sc ρ ρ' ct) (hp : PatOk ct)
    (ht : TgSim true G d (scRel scope sc) ρ' target ct) (hs : SrcSim G P d sc ρ kd iter cs) (hc : CondSim G P d (scRel scope sc) ρ' ifs cc) (he : ESim G P d (scRel scope sc) ρ' elt ce) (hf : TgtOk target kd)
    (hfold : ∀ env x, foldedSetIterable iter env x = pure x) : ESim G P d sc ρ (.ListComp elt [⟨target, iter, ifs, 0⟩] scope pos) (.comp ct cs cc ce) := .ofComp (comp_core ok hp ht hs hc he hf hfold)
theorem asg_inv {n i : Nat} {c : C} {loc : Loc} {H : AH} {r : Res} {loc' : Loc} {H' : AH} (hr : run P n d (.asg (.var i) c) loc H = some (r, loc', H')) : ∃ m v l H1, run P m d c loc H = some (.val v, l, H1) ∧ some (Res.next, loc.set i (some v), H1) = some (r, loc', H') := by
  obtain ⟨m, hr⟩ := run_step hr
  dsimp only [runStep] at hr
  obtain ⟨v, l, H1, h1, hr⟩ := vb_some hr
  refine ⟨m, v, l, H1, h1, ?_⟩
  cases q : asgV (.var i) v loc with
  | none => rw [q] at hr; exact nS hr
  | some l2 => rw [q] at hr; exact asgV_var q ▸ hr
theorem SSim.asgOf {x : Str} {i : Nat} {t iter elt : Expr} {ifs : List Expr} {gs : List Comprehension} {scope : Scope} {pos p spos : Pos} {c : C} (hm : (x, i) ∈ ρ) (hk : Stores sc x) (hρ : RhoOk ρ) (cs : CompSim G P d sc ρ (.ListComp elt (⟨t, iter, ifs, 0⟩ :: gs) scope pos) iter scope c)
    (hsw : ∀ env : Env, env.scope = sc → swapsWith (.ListComp elt (⟨t, iter, ifs, 0⟩ :: gs) scope pos) (some (.Name x p)) spos.line env = pure true) :
    SSim G P d sc ρ (.Assign [.Name x p] (.ListComp elt (⟨t, iter, ifs, 0⟩ :: gs) scope pos) spos) (.asg (.var i) c) := by
  intro n A env s σ H loc r loc' H' hr S Q E h
  obtain ⟨n, v, l, H1, h1, hr⟩ := asg_inv hr
  replace h := XP.of h hr
  rw [exec_Assign_Name_used _ _ _ _ (hsw env S.ev.scp)]
  refine wpAny_bind (wpAny_standAt (wpAny_bind ?_))
  show wpAny _ A (do let _ ← comprehension (.ListComp elt (⟨t, iter, ifs, 0⟩ :: gs) scope pos) scope env _ (newList []) false (eval iter env) (some (assign (.Name x p) env))) _ _ s
  refine wpAny_bind (wpAny_mono (Q := fun _ s' => Q .next s') (E := E) (cs h1 S (use := some (assign (.Name x p) env)) fun D C h' tk σ' i' hv xx R rv fC nC lC ⟨m, hmm⟩ => ?_)
    (fun _ s' hq => wpAny_pure (wpAny_pure hq)) fun _ _ e => e)
  show wpAny _ A (assign (.Name x p) env (.ref D)) _ _ _
  refine wpAny_assign_Name (store_name hm hk hρ (S.ext (tk := tk) xx R) rv fun h2 tk2 x2 R2 L2 t2 _ => ?_)
  have Cl : C ≠ env.locals := fun z => by
    obtain ⟨_, ⟨o, es, ep, e, _⟩, _⟩ := S.lr.ns
    exact nS (fC.symm.trans (z ▸ e))
  have Cc : ∀ y, env.cells.lookup y ≠ some C := fun y ey => by
    obtain ⟨_, _, _, ov, o, e, _⟩ := S.lr.cells y C ey
    exact nS (fC.symm.trans e)
  have hm2 : h2.Ns C m := by
    obtain ⟨o, es, ep, e, r⟩ := hmm
    exact ⟨o, es, ep, x2.keep _ _ e nC Cl Cc, r⟩
  refine ⟨m, hm2, fun h3 sb => ?_⟩
  have nt : NT h2 σ' C := ns_notTup hm2
  exact h _ h3 tk2 σ' ((xx.x.trans x2).but fun b o e q => (sb.2 b fun z => by obtain ⟨o', e⟩ := e; exact nS (fC.symm.trans (z ▸ e))).trans q) (R2.but nC lC nt sb) (L2.off2 (fp := [C]) (fun mb => Cl (List.mem_singleton.mp mb).symm) (fun y c ec mb => Cc y (List.mem_singleton.mp mb ▸ ec)) (fun b o nb e => (sb.2 b (fun z => nb (z ▸ .head _))).trans e) (tup_but nt sb)) .next
theorem SSim.asgComp {x : Str} {i : Nat} {target iter elt : Expr} {ifs : List Expr} {scope : Scope} {pos p spos : Pos} {ct cs cc ce : C} {kd : SK} (hm : (x, i) ∈ ρ) (hk : Stores sc x) (hρ : RhoOk ρ) (ok : CompOk scope sc ρ ρ' ct) (hp : PatOk ct)
    (ht : TgSim true G d (scRel scope sc) ρ' target ct) (hs : SrcSim G P d sc ρ kd iter cs) (hc : CondSim G P d (scRel scope sc) ρ' ifs cc) (he : ESim G P d (scRel scope sc) ρ' elt ce) (hf : TgtOk target kd)
    (hfold : ∀ env x, foldedSetIterable iter env x = pure x) (hsw : ∀ env : Env, env.scope = sc → swapsWith (.ListComp elt [⟨target, iter, ifs, 0⟩] scope pos) (some (.Name x p)) spos.line env = pure true) :
    SSim G P d sc ρ (.Assign [.Name x p] (.ListComp elt [⟨target, iter, ifs, 0⟩] scope pos) spos) (.asg (.var i) (.comp ct cs cc ce)) := .asgOf hm hk hρ (comp_core ok hp ht hs hc he hf hfold) hsw
end
end Mine
end

section
open PySem PySem.W PyProof.Rows PySem.Calls PySem.Spec PySem.SeqAt
namespace Mine
theorem cellsFrom_has {x : Str} : ∀ (names : List (Str × NameKind)) (n : Nat) (acc : List (Str × Addr)), ((x, NameKind.cell) ∈ names ∨ ∃ c, acc.lookup x = some c) → ∃ c, (cellsFrom n names acc).lookup x = some c
  | [], n, acc, h => h.elim (fun m => nomatch m) id
  | (y, k) :: r, n, acc, h => by
    unfold cellsFrom
    by_cases xy : x = y
    · subst xy
      split
      · exact cellsFrom_has r _ _ (.inr ⟨_, by rw [List.lookup_cons, beq_self_eq_true]⟩)
      · rename_i q
        refine cellsFrom_has r _ _ ?_
        rcases h with m | m
        · rcases List.mem_cons.mp m with e | m
          · cases e; exact absurd rfl q
          · exact .inl m
        · exact .inr m
    · have h' : (x, NameKind.cell) ∈ r ∨ ∃ d, acc.lookup x = some d := by
        rcases h with m | m
        · rcases List.mem_cons.mp m with e | m
          · cases e; exact absurd rfl xy
          · exact .inl m
        · exact .inr m
      split
      · refine cellsFrom_has r _ _ (h'.imp id fun ⟨d, e⟩ => ⟨d, ?_⟩)
        rw [List.lookup_cons, beq_eq_false_iff_ne.mpr xy]; exact e
      · exact cellsFrom_has r _ _ h'
theorem mem_of_lookup' {α : Type} {x : Str} {k : α} : ∀ {l : List (Str × α)}, l.lookup x = some k → (x, k) ∈ l
  | [], e => by cases e
  | (y, j) :: r, e => by
    rw [List.lookup_cons] at e
    split at e
    · rename_i q
      cases e
      rw [beq_iff_eq.mp q]
      exact .head _
    · exact .tail _ (mem_of_lookup' e)
theorem bindL_keep {kf : Str → Option NameKind} {x : Str} : ∀ (b : List (Str × Value)) (m : Str → Option Value), x ∉ b.map (·.1) → bindL kf b m x = m x
  | [], m, _ => rfl
  | (n, v) :: r, m, h => by
    rw [List.map_cons, List.mem_cons, not_or] at h
    unfold bindL
    rw [bindL_keep r _ h.2]
    split
    · exact if_neg h.1
    · rfl
theorem bindC_keep {kf : Str → Option NameKind} {x : Str} : ∀ (b : List (Str × Value)) (m : Str → Option Value), x ∉ b.map (·.1) → bindC kf b m x = m x
  | [], m, _ => rfl
  | (n, v) :: r, m, h => by
    rw [List.map_cons, List.mem_cons, not_or] at h
    unfold bindC
    rw [bindC_keep r _ h.2]
    split
    · rfl
    · exact if_neg h.1
theorem bindL_get {kf : Str → Option NameKind} {x : Str} {v : Value} (hk : kf x = some .local) : ∀ (b : List (Str × Value)) (m : Str → Option Value), (b.map (·.1)).Nodup → (x, v) ∈ b → bindL kf b m x = some v
  | (n, u) :: r, m, h, hm => by
    rw [List.map_cons, List.nodup_cons] at h
    unfold bindL
    rcases List.mem_cons.mp hm with e | hm
    · cases e
      rw [bindL_keep r _ h.1, if_pos hk, if_pos rfl]
    · exact bindL_get hk r _ h.2 hm
theorem bindC_get {kf : Str → Option NameKind} {x : Str} {v : Value} (hk : kf x = some .cell) : ∀ (b : List (Str × Value)) (m : Str → Option Value), (b.map (·.1)).Nodup → (x, v) ∈ b → bindC kf b m x = some v
  | (n, u) :: r, m, h, hm => by
    rw [List.map_cons, List.nodup_cons] at h
    unfold bindC
    rcases List.mem_cons.mp hm with e | hm
    · cases e
      rw [bindC_keep r _ h.1, if_neg (by rw [hk]; decide), if_pos rfl]
    · exact bindC_get hk r _ h.2 hm
theorem call_cells {prog : Program} {w : World} {A : Around} {s : Shared} {R : Result → Shared → Prop} {a : Addr} {o : Obj} {fd : FuncData} {body : List Stmt} {vals : List Value} {binds : List (Str × Value)}
    (hroom : A.depth < recursionLimit) (ho : s.heap.get? a = some o) (hdata : o.data = .func fd) (hlim : s.heap.NoLimit) (hcd : s.heap.CodeRec fd.code fd.qualname)
    (hbody : fd.body = .stmts body) (hbind : BindsTo s fd ⟨vals, []⟩ binds) (hclo : fd.closure = [])
    (hkind : ∀ x ∈ binds, fd.scope.names.lookup x.1 = some .local ∨ (fd.scope.names.lookup x.1 = some .cell ∧ ((cellsFrom (s.heap.objs.size + 1) fd.scope.names []).lookup x.1).isSome = true))
    (h : ∀ s₁, InCallC s (callEnvC fd s.heap.objs.size a).locals (bindL (callEnvC fd s.heap.objs.size a).kindOf binds fun _ => none) (callEnvC fd s.heap.objs.size a).cells
        (bindC (callEnvC fd s.heap.objs.size a).kindOf binds fun _ => none) s₁ →
      wpAny (model prog w) (A.deeper (callEnvC fd s.heap.objs.size a)) (execs body (callEnvC fd s.heap.objs.size a)) (fun f s' => R (.ok (.ret (match f with | .ret v => v | _ => .none))) s')
        (fun e s' => wpAny (model prog w) (A.deeper (callEnvC fd s.heap.objs.size a)) (leaving (callEnvC fd s.heap.objs.size a) e) (fun _ s'' => R (.error e) s'') (fun e' s'' => R (.error e') s'') s') s₁)
    (hco : fd.scope.isCoroutine = false) (hgen : fd.scope.isGenerator = false) (hk : fd.scope.kind = .function) :
    codeAny (model prog w) A (.call (.ref a) ⟨vals, []⟩) R s := by
  refine codeAny_call_function hroom ho hdata hco hgen hbody hcd (hbind _ _ _ _ ?_)
  rw [hclo]
  refine wpAny_newFunctionEnv_cells hk hkind fun env he s' x => ?_
  subst he
  exact ⟨hlim.keeps x.toInCall.keep, codeAny_func (h s' x)⟩
structure FRow (G : Gd) (f : Nat) (sc : Scope) (body : List Stmt) (names : List Str) (dv : List AV) : Prop where
  at_ : ∃ o fd ext, G.K.lookup (G.fa f) = some o ∧ o.data = .func fd ∧ G.hb.CodeRec fd.code fd.qualname ∧ fd.body = .stmts body ∧ fd.scope = sc ∧ fd.closure = [] ∧ fd.globals = mainGlobals ∧ fd.builtins = builtinsNs ∧
    (∀ h σ, RepVs h σ dv ext) ∧ ∀ vals : List Value, vals.length + ext.length = names.length → ∀ s : Shared, G.K.In s.heap → BindsTo s fd ⟨vals, []⟩ (names.zip (vals ++ ext))
structure NameOk (sc : Scope) (ρ : List (Str × Nat)) (names : List Str) : Prop where
  kind : sc.kind = .function
  co : sc.isCoroutine = false
  gen : sc.isGenerator = false
  nd : names.Nodup
  par : ∀ x ∈ names, sc.names.lookup x = some .local ∨ sc.names.lookup x = some .cell
  at_ : ∀ p ∈ ρ, p.2 < names.length → names[p.2]? = some p.1
section
variable {G : Gd} {P : Pg} {d : Nat} {sc : Scope} {ρ : List (Str × Nat)}
theorem zip_map_fst : ∀ (names : List Str) (vals : List Value), vals.length = names.length → (names.zip vals).map (·.1) = names
  | [], [], _ => rfl
  | n :: ns, v :: vs, h => by rw [List.zip_cons_cons, List.map_cons, zip_map_fst ns vs (by simpa using h)]
  | [], _ :: _, h => by simp at h
  | _ :: _, [], h => by simp at h
theorem zip_mem : ∀ (names : List Str) (vals : List Value) (i : Nat) (x : Str) (v : Value), names[i]? = some x → vals[i]? = some v → (x, v) ∈ names.zip vals
  | n :: ns, v :: vs, 0, x, u, h1, h2 => by cases h1; cases h2; exact .head _
  | n :: ns, v :: vs, i + 1, x, u, h1, h2 => by rw [List.zip_cons_cons]; exact .tail _ (zip_mem ns vs i x u (by simpa using h1) (by simpa using h2))
  | [], _, _, _, _, h, _ => by simp at h
  | _ :: _, [], _, _, _, _, h => by simp at h
theorem bindA_inv {F : FC} {vs : List AV} {l0 : Loc} (h : bindA F vs = some l0) : (vs ++ F.dflt).length = F.params ∧ (vs ++ F.dflt).map some ++ List.replicate (F.locs - F.params) none = l0 := by
  replace h : (if (vs ++ F.dflt).length = F.params then some ((vs ++ F.dflt).map some ++ List.replicate (F.locs - F.params) none) else none) = some l0 := h
  by_cases q : (vs ++ F.dflt).length = F.params
  · exact ⟨q, Option.some.inj ((if_pos q).symm.trans h)⟩
  · exact nS ((if_neg q).symm.trans h)
structure Laid (G : Gd) (sc : Scope) (ρ : List (Str × Nat)) (env : Env) (h0 : Heap) (σ : List Addr) (H : AH) (loc : Loc) (h1 : Heap) : Prop where
  R : HRel G σ H h1
  L : LRel G env ρ loc h1 σ
  ev : EnvOk sc env
  back : ∀ {h' : Heap} {σ' : List Addr}, XExt env h1 h' σ σ' → Ext h0 h' σ σ'
theorem call_at {names : List Str} {Vs : List AV} {vs' : List Value} {k : Nat} {h1 : Heap} {σ : List Addr} (no : NameOk sc ρ names) (rs1 : RepVs h1 σ Vs vs') (hlen : Vs.length = names.length) {x : Str} {i : Nat} {V : AV} (m : (x, i) ∈ ρ) (e : (Vs.map some ++ List.replicate k none)[i]? = some (some V)) : ∃ v, (x, v) ∈ names.zip vs' ∧ RepV h1 σ V v := by
  have hi : i < Vs.length := by
    by_cases q : i < Vs.length
    · exact q
    · rw [List.getElem?_append_right (by rw [List.length_map]; exact Nat.le_of_not_lt q), List.getElem?_replicate] at e
      split at e <;> cases e
  rw [List.getElem?_append_left (by rw [List.length_map]; exact hi), List.getElem?_map] at e
  obtain ⟨W, e', q⟩ := Option.map_eq_some_iff.mp e
  cases q
  obtain ⟨v, ev', rv⟩ := rs1.get e'
  exact ⟨v, zip_mem _ _ i _ _ (no.at_ _ m (show i < names.length from hlen ▸ hi)) ev', rv⟩
theorem call_laid {names : List Str} {Vs : List AV} {vs' : List Value} {k : Nat} {s s₁ : Shared} {σ : List Addr} {H : AH} {fd : FuncData} {env : Env} (ok : GdOk G) (R : HRel G σ H s.heap) (rs : RepVs s.heap σ Vs vs') (no : NameOk sc ρ names) (hlen : Vs.length = names.length) (e5 : fd.scope = sc) (e7 : fd.globals = mainGlobals) (e8 : fd.builtins = builtinsNs) {a : Addr} (he : callEnvC fd s.heap.objs.size a = env)
    (C : InCallC s env.locals (bindL env.kindOf (names.zip vs') fun _ => none) env.cells (bindC env.kindOf (names.zip vs') fun _ => none) s₁) : ∃ h1 tk1, s₁ = { s with heap := h1, toks := tk1 } ∧ Laid G sc ρ env s.heap σ H (Vs.map some ++ List.replicate k none) h1 := by
  obtain ⟨h1, tk1, rfl⟩ := C.toInCall.same
  refine ⟨h1, tk1, rfl, ?_⟩
  have hlv : vs'.length = names.length := rs.length.trans hlen
  have kk := C.toInCall.keep
  have eloc : env.locals = s.heap.objs.size := by rw [← he]; rfl
  have ecells : env.cells = cellsFrom (s.heap.objs.size + 1) fd.scope.names [] := by rw [← he]; rfl
  have ev : EnvOk sc env := ⟨by rw [← he]; exact e5, no.kind, by rw [← he]; exact e7, by rw [← he]; exact e8⟩
  have rs1 := rs.ext (.same kk) R
  have nd : ((names.zip vs').map (·.1)).Nodup := by rw [zip_map_fst names vs' hlv]; exact no.nd
  have above : ∀ x c, env.cells.lookup x = some c → s.heap.objs.size < c := fun x c e => eloc ▸ C.above x c (PySem.mem_of_lookup e)
  refine ⟨R.same kk (sz_of ok R kk), ⟨eloc ▸ R.new, eloc ▸ R.sz, ⟨_, C.toInCall.ns, fun x i W m q e => ?_⟩, fun x c e => ?_, fun x i m q => ?_, fun x y c e1 e2 => name_of_addr C.apart (PySem.mem_of_lookup e1) (PySem.mem_of_lookup e2)⟩, ev, fun x => ⟨?_, fun b o e n => x.keep _ _ (kk _ _ e) n (fun z => ?_) (fun y ey => Nat.lt_asymm (above y b ey) (Heap.lt_size e)), fun b o e => x.live b o (kk _ _ e)⟩⟩
  · obtain ⟨v, hm, rv⟩ := call_at no rs1 hlen m e
    exact ⟨v, bindL_get q _ _ nd hm, rv⟩
  · have ab := above x c e
    exact ⟨fun m => Nat.lt_asymm ab (R.lt m), fun z => Nat.lt_irrefl _ (eloc ▸ z ▸ ab), R.offge (Nat.le_of_lt ab), _, C.cell x c e⟩
  · have q' : fd.scope.names.lookup x = some .cell := by rw [e5, ← ev.kindOf]; exact q
    obtain ⟨c, e⟩ := cellsFrom_has fd.scope.names (s.heap.objs.size + 1) [] (.inl (mem_of_lookup' q'))
    rw [← ecells] at e
    refine ⟨c, _, e, C.cell x c e, fun W eW => ?_⟩
    obtain ⟨v, hm, rv⟩ := call_at no rs1 hlen m eW
    exact ⟨v, bindC_get q _ _ nd hm, rv⟩
  · obtain ⟨ν, e, l⟩ := x.grow
    exact ⟨ν, e, fun a m => fresh_none (σ := σ) (σ' := σ) (.same kk) (l a m)⟩
  · rw [z, eloc] at e; exact Nat.lt_irrefl _ (Heap.lt_size e)
theorem FSim.of {f : Nat} {F : FC} {body : List Stmt} {names : List Str} (hfc : P.fc f = some F) {dv : List AV} (row : FRow G f sc body names dv) (no : NameOk sc ρ names) (hp : F.params = names.length) (hd : F.dflt = dv) (hb : XSim G P d sc ρ body F.body) : FSim G P d f := by
  intro n A s σ H Vs vs loc V loc' H' hr ok room R rs Rr k
  obtain ⟨F', l0, ⟨r, l2, H2⟩, e0, eb, eh, hz⟩ := callBody_inv hr
  obtain rfl : F = F' := Option.some.inj (hfc.symm.trans e0)
  obtain ⟨hlen, rfl⟩ := bindA_inv eb
  obtain ⟨o, fd, ext, e1, e2, e3, e4, e5, e6, e7, e8, e90, e9⟩ := row.at_
  have rs := rs.append (e90 s.heap σ)
  rw [hd] at hlen eh
  rw [hp] at hlen
  have hlv : (vs ++ ext).length = names.length := rs.length.trans hlen
  refine call_cells (Nat.lt_of_le_of_lt (Nat.le_trans (Nat.le_add_right _ _) (Nat.le_add_right _ _)) room.2.1) (R.K ok _ _ e1) e2 (ok.lim.keeps R.base) (e3.keeps R.base) e4 (e9 vs (by rw [← List.length_append]; exact hlv) s (R.K ok)) e6 (fun x m => ?_) (fun s₁ C => ?_) (by rw [e5]; exact no.co) (by rw [e5]; exact no.gen) (by rw [e5]; exact no.kind)
  · have : x.1 ∈ names := by rw [← zip_map_fst names _ hlv]; exact List.mem_map_of_mem m
    rw [e5]
    rcases no.par _ this with q | q
    · exact .inl q
    · refine .inr ⟨q, ?_⟩
      obtain ⟨c, e⟩ := cellsFrom_has sc.names (s.heap.objs.size + 1) [] (.inl (mem_of_lookup' q))
      rw [e]; rfl
  · obtain ⟨h1, tk1, rfl, T⟩ := call_laid ok R rs no hlen e5 e7 e8 rfl C
    refine hb n _ _ _ σ H _ _ _ _ eh ⟨ok, room.deeper _, T.ev, T.R, T.L⟩ _ _ fun fl h' tk σ' x R' L' fi => ?_
    cases fi with
    | ret rv => exact EP.of k hz _ _ _ _ (T.back x) R' rv
    | next => exact EP.of k hz _ _ _ _ (T.back x) R' .none
    | cont => exact nS hz
end
end Mine
end

section
open PySem PySem.W PyProof.Rows PySem.Calls PySem.Spec PySem.SeqAt
namespace Mine
structure KRow (K : Params → Frag) (a : Addr) (sc : Scope) (body : List Stmt) (names : List Str) (dv : List AV) : Prop where
  at_ : ∀ P : Params, ∃ o fd ext, (K P).lookup a = some o ∧ o.data = .func fd ∧ codeIn (K P) fd.code fd.qualname = true ∧ fd.body = .stmts body ∧ fd.scope = sc ∧ fd.closure = [] ∧ fd.globals = mainGlobals ∧ fd.builtins = builtinsNs ∧
    (∀ h σ, RepVs h σ dv ext) ∧ ∀ vals : List Value, vals.length + ext.length = names.length → ∀ s : Shared, (K P).In s.heap → BindsTo s fd ⟨vals, []⟩ (names.zip (vals ++ ext))
theorem lawP_ok : PgOk lawP := ⟨fun _ _ => rfl, fun _ => rfl⟩
theorem no_inter (env : Env) (h : env.scope.kind = .function) : interactive env = false := by unfold interactive; rw [h]; rfl
theorem boot_len : bootBuiltins "len" = some (.builtin "len") := by decide +kernel
theorem boot_int : bootBuiltins "int" = some (.type "int") := by decide +kernel
theorem boot_max : bootBuiltins "max" = some (.builtin "max") := by decide +kernel
theorem boot_tuple : bootBuiltins "tuple" = some (.type "tuple") := by decide +kernel
theorem boot_dict : bootBuiltins "dict" = some (.type "dict") := by decide +kernel
noncomputable def nameOk (sc : Scope) (ρ : List (Str × Nat)) (x : Str) (i : Nat) : Bool :=
  decide ((x, i) ∈ ρ) && (decide (sc.names.lookup x = some .local) || decide (sc.names.lookup x = some .cell)) && !(x == ("__debug__" : Str))
section
variable {G : Gd} {P : Pg} {d : Nat} {sc : Scope} {ρ : List (Str × Nat)}
theorem ESim.nameOf {x : Str} {i : Nat} {p : Pos} (h : nameOk sc ρ x i = true) : ESim G P d sc ρ (.Name x p) (.var i) := by
  unfold nameOk at h
  simp only [Bool.and_eq_true, Bool.or_eq_true, decide_eq_true_eq, Bool.not_eq_true'] at h
  rcases h.1.2 with q | q
  · exact ESim.var h.1.1 q h.2
  · exact ESim.cell h.1.1 q h.2
end
end Mine
end

section
open PySem PySem.W PyProof.Rows PySem.Calls PySem.Spec PySem.SeqAt
namespace Mine
section
variable {h h' : Heap} {σ σ' ν : List Addr}
mutual
theorem pure_low : ∀ (V : AV) (k n : Nat), pureA k V = true → lowA n V = true
  | .none, _, _, _ => rfl
  | .bool _, _, _, _ => rfl
  | .int _, _, _, _ => rfl
  | .str _, _, _, _ => rfl
  | .obj _, _, _, k => by rw [pureA_obj] at k; cases k
  | .tup vs, 0, _, k => nomatch k
  | .tup vs, m + 1, n, k => by rw [lowA]; exact pures_low vs m n k
theorem pures_low : ∀ (V : List AV) (k n : Nat), pureAs k V = true → lowAs n V = true
  | [], _, _, _ => rfl
  | v :: vs, m, n, k => by
    rw [pureAs_cons, Bool.and_eq_true] at k
    rw [lowAs, pure_low v m n k.1, pures_low vs m n k.2]; rfl
end
theorem lowA_obj (m n : Nat) : lowA m (.obj n) = decide (n < m) := rfl
theorem lowAs_cons (m : Nat) (v : AV) (vs : List AV) : lowAs m (v :: vs) = (lowA m v && lowAs m vs) := rfl
theorem RepV.low2 : (∀ {V : AV} {v : Value}, RepV h (σ ++ ν) V v → lowA σ.length V = true → RepV h σ V v) ∧ (∀ {V : List AV} {v : List Value}, RepVs h (σ ++ ν) V v → lowAs σ.length V = true → RepVs h σ V v) :=
  RepV.both (m1 := fun V v => lowA σ.length V = true → RepV h σ V v) (m2 := fun V v => lowAs σ.length V = true → RepVs h σ V v) (fun _ => .none) (fun b _ => .bool b) (fun i t _ => .int i t) (fun x t k _ => .str x t k)
    (fun t n r k => .tup t (fun m => n (List.mem_append_left _ m)) (r k)) (fun e k => .obj (by rw [lowA_obj, decide_eq_true_eq] at k; rw [List.getElem?_append_left k] at e; exact e)) (fun _ => .nil)
    (fun a r k => by rw [lowAs_cons, Bool.and_eq_true] at k; exact .cons (a k.1) (r k.2))
theorem RepV.low {V : AV} {v : Value} (r : RepV h (σ ++ ν) V v) (k : lowA σ.length V = true) : RepV h σ V v := RepV.low2.1 r k
theorem RepVs.low {V : List AV} {v : List Value} (r : RepVs h (σ ++ ν) V v) (k : lowAs σ.length V = true) : RepVs h σ V v := RepV.low2.2 r k
theorem FRep.low {w : World} {fs : List (Str × AV)} {es : List DictEntry} (r : FRep w h (σ ++ ν) fs es) (k : (fs.all fun p => lowA σ.length p.2) = true) : FRep w h σ fs es := by
  induction r with
  | nil => exact .nil
  | cons a _ ih => rw [List.all_cons, Bool.and_eq_true] at k; exact .cons (a.low k.1) (ih k.2)
theorem PRep.low {K : Type} {ks : List (K × AV)} {vs : List (K × Value)} (r : PRep h (σ ++ ν) ks vs) (k : ∀ p ∈ ks, lowA σ.length p.2 = true) : PRep h σ ks vs := by
  induction r with
  | nil => exact .nil
  | cons a _ ih => exact .cons (a.low (k _ (.head _))) (ih fun p m => k p (.tail _ m))
theorem TRep.low {ks : List (AV × AV)} {vs : List (AV × Addr × Value)} (r : TRep h (σ ++ ν) ks vs) (k : ∀ p ∈ ks, lowA σ.length p.2 = true) : TRep h σ ks vs := by
  induction r with
  | nil => exact .nil
  | cons a _ ih => exact .cons (a.low (k _ (.head _))) (ih fun p m => k p (.tail _ m))
theorem ORep.low {G : Gd} {o : AO} {a : Addr} (r : ORep G h (σ ++ ν) o a) (k : lowO σ.length o = true) : ORep G h σ o a := by
  cases r with
  | list e r => exact .list e (r.low k)
  | attrs e r => exact .attrs e (r.low k)
  | inst l e q =>
    have k' : _ < σ.length := of_decide_eq_true k
    exact .inst l (by rw [List.getElem?_append_left k'] at e; exact e) q
  | dictS e r z =>
    refine .dictS e (r.low fun p m => ?_) z
    have := List.all_eq_true.mp k (.str p.1, p.2) (List.mem_map_of_mem m)
    rw [Bool.and_eq_true] at this; exact this.2
  | dictI e r =>
    refine .dictI e (r.low fun p m => ?_)
    have := List.all_eq_true.mp k (.int p.1, p.2) (List.mem_map_of_mem m)
    rw [Bool.and_eq_true] at this; exact this.2
  | @dictT ks kvs _ e r z =>
    have kk : ∀ p ∈ ks, lowA σ.length p.1 = true ∧ lowA σ.length p.2 = true := fun p m => by
      have := List.all_eq_true.mp k p m
      rw [Bool.and_eq_true] at this; exact this
    refine .dictT e (r.low fun p m => (kk p m).2) fun p m => (z p m).low ?_
    have e := r.keys
    have m2 : p.1 ∈ ks.map (·.1) := by rw [← e]; exact List.mem_map_of_mem m
    obtain ⟨q, mq, eq⟩ := List.mem_map.mp m2
    rw [← eq]; exact (kk q mq).1
  | res e => exact .res e
  | frz e r => exact .frz e (r.low k)
theorem HRel.take {G : Gd} {H : AH} (R : HRel G (σ ++ ν) H h) (k : ((H.take σ.length).all (lowO σ.length)) = true) : HRel G σ (H.take σ.length) h where
  len := by
    have := R.len
    rw [List.length_append] at this
    rw [List.length_take]; omega
  nd := (List.nodup_append.mp R.nd).1
  low := fun i o a hi ha nf => by
    have hl := (List.getElem?_eq_some_iff.mp ha).1
    rw [List.getElem?_take_of_lt hl] at hi
    exact R.low i o a hi (by rw [List.getElem?_append_left hl]; exact ha) nf
  base := R.base
  bnd := R.bnd
  sz := R.sz
  rep := fun i o a hi ha => by
    have hl := (List.getElem?_eq_some_iff.mp ha).1
    have mo : o ∈ H.take σ.length := List.mem_of_getElem? hi
    rw [List.getElem?_take_of_lt hl] at hi
    exact (R.rep i o a hi (by rw [List.getElem?_append_left hl]; exact ha)).low (List.all_eq_true.mp k o mo)
theorem RepV.flat {V : AV} {v : Value} (r : RepV h σ V v) (k : flatA V = true) : RepV h' σ' V v := by
  cases r with
  | none => exact .none
  | bool b => exact .bool b
  | int i t => exact .int i t
  | str x t kx => exact .str x t kx
  | tup _ _ _ => cases k
  | obj _ => cases k
theorem RepVs.flat {V : List AV} {v : List Value} (r : RepVs h σ V v) (k : V.all flatA = true) : RepVs h' σ' V v := by
  induction V generalizing v with
  | nil => cases r; exact .nil
  | cons V Vs ih =>
    cases r using RepVs.consE with | mk a r =>
    rw [List.all_cons, Bool.and_eq_true] at k
    exact .cons (a.flat k.1) (ih r k.2)
end
theorem gc_some {n : Nat} {loc loc' : Loc} {o : Option Out} {V : AV} {H' : AH} (h : gcF n loc o = some (.val V, loc', H')) : ∃ l H1, o = some (.val V, l, H1) ∧ pureA 50 V = true ∧ ((H1.take n).all (lowO n)) = true ∧ H' = H1.take n := by
  unfold gcF at h
  split at h
  · split at h
    · rename_i q
      rw [Bool.and_eq_true] at q
      cases h
      exact ⟨_, _, rfl, q.1, q.2, rfl⟩
    · exact nS h
  · exact nS h
theorem callP_some {loc loc' : Loc} {H H' : AH} {o : Option Out} {V : AV} (h : callPF loc H o = some (.val V, loc', H')) : ∃ l H1, o = some (.val V, l, H1) ∧ flatA V = true ∧ H' = H := by
  unfold callPF at h
  split at h
  · split at h
    · rename_i q
      cases h
      exact ⟨_, _, rfl, q, rfl⟩
    · exact nS h
  · exact nS h
theorem callL_some {k : Nat} {loc loc' : Loc} {H H' : AH} {o : Option Out} {V : AV} (h : callLF k loc H o = some (.val V, loc', H')) : ∃ l H1 ws, o = some (.val V, l, H1) ∧ H1[0]? = some (.list ws) ∧ flatA V = true ∧ ws.all flatA = true ∧ H' = H.set k (.list ws) := by
  unfold callLF at h
  split at h
  · split at h
    · rename_i ws q
      split at h
      · rename_i q2
        rw [Bool.and_eq_true] at q2
        cases h
        unfold listOfV at q
        dsimp only at q
        split at q
        · rename_i q3
          cases q
          exact ⟨_, _, _, rfl, q3, q2.1, q2.2, rfl⟩
        · exact nS q
      · exact nS h
    · exact nS h
  · exact nS h
section
variable {G : Gd} {P : Pg} {d : Nat} {sc : Scope} {ρ : List (Str × Nat)}
theorem gc_end {h h' : Heap} {σ σ' : List Addr} {H H1 : AH} (R0 : HRel G σ H h) (x : Ext h h' σ σ') (R : HRel G σ' H1 h') (k : ((H1.take H.length).all (lowO H.length)) = true) : Ext h h' σ σ ∧ HRel G σ (H1.take H.length) h' ∧ ∃ ν, σ' = σ ++ ν := by
  obtain ⟨ν, rfl, l⟩ := x.grow
  rw [← R0.len] at k ⊢
  exact ⟨⟨⟨[], by simp, fun _ m => nomatch m⟩, x.keep, x.live⟩, R.take k, ν, rfl⟩
theorem ESim.gc {e : Expr} {c : C} (he : ESim G P d sc ρ e c) : ESim G P d sc ρ e (.gc c) := by
  intro n A env s σ H loc V loc' H' hr S Q E h
  obtain ⟨n, hr⟩ := run_step hr
  dsimp only [runStep] at hr
  obtain ⟨l, H1, h1, hp, hl, rfl⟩ := gc_some hr
  refine he n A env s σ H loc _ _ _ h1 S _ _ fun v h' tk σ' x R rv => ?_
  obtain ⟨x', R', ν, rfl⟩ := gc_end S.rel x R hl
  exact h _ _ _ _ x' R' (rv.low (pure_low _ _ _ hp))
theorem TSim.gc {e : Expr} {c : C} (he : TSim G P d sc ρ e c) : TSim G P d sc ρ e (.gc c) := by
  intro n A env s σ H loc b loc' H' hr S Q E h
  obtain ⟨n, hr⟩ := run_step hr
  dsimp only [runStep] at hr
  obtain ⟨l, H1, h1, hp, hl, rfl⟩ := gc_some hr
  refine he n A env s σ H loc _ _ _ h1 S _ _ fun h' tk σ' x R => ?_
  obtain ⟨x', R', ν, rfl⟩ := gc_end S.rel x R hl
  exact h _ _ _ x' R'
theorem nil_cmp {A : Around} {s : Shared} {a b : Addr} {items : Array Value} {m : Nat} (hu : A.units + 64 < cLine) (ha : s.heap.get? a = some (listOf items m)) (hb : s.heap.get? b = some (listOf #[] 0)) :
    (∀ (Q E : Value → Shared → Prop), Q (.bool items.toList.isEmpty) s → wpAny (model G.prog G.w) A (compareOp .Eq (.ref a) (.ref b)) Q E s) ∧ (∀ (Q E : Value → Shared → Prop), Q (.bool (!items.toList.isEmpty)) s → wpAny (model G.prog G.w) A (compareOp .NotEq (.ref a) (.ref b)) Q E s) := by
  have hl : s.heap.IsList a items := ⟨_, ha, rfl, m, rfl⟩
  have hb' : s.heap.IsList b #[] := ⟨_, hb, rfl, 0, rfl⟩
  by_cases e : items = #[]
  · subst e
    have r : ∀ {c : Addr} {m : Nat}, s.heap.get? c = some (listOf #[] m) → Reads s.heap (.ref c) (.list []) [c] := fun g => by
      have := reads_list_at g rfl rfl (ReadsAll.nil)
      exact this
    exact ⟨fun Q E k => eq_dataH (r ha) (r hb) rfl rfl hu k, fun Q E k => ne_dataH (r ha) (r hb) rfl rfl hu k⟩
  · have hs : (items.size != (#[] : Array Value).size) = true := by
      rw [bne_iff_ne]
      intro z
      exact e (Array.eq_empty_of_size_eq_zero z)
    have he : items.toList.isEmpty = false := by
      rw [List.isEmpty_eq_false_iff]
      intro z
      exact e (by simpa using z)
    rw [he]
    exact ⟨fun Q E k => eq_list_lengthsAt hl hb' hs (by omega) k, fun Q E k => RcNeAt.lists_lengths hl hb' hs (by omega) _ _ E Q k⟩
theorem neN_core {n0 : Bool} {cop : CmpOp} (hc : (n0 = true ∧ cop = .NotEq) ∨ (n0 = false ∧ cop = .Eq)) {p1 : Pos} {A : Around} {env : Env} {s : Shared} {σ : List Addr} {H : AH} {loc : Loc} {V : AV} {v : Value} {vs : List AV} (S : St G d sc ρ A env s σ H loc) (rv : RepV s.heap σ V v) (q : listOfV V H = some vs)
    {Q E : Value → Shared → Prop} (h : EP G s σ H (.bool (n0 != vs.isEmpty)) Q) : wpAny (model G.prog G.w) A (eval (.List [] p1) env) (fun b s₁ => wpAny (model G.prog G.w) A (compareOp cop v b) Q E s₁) E s := by
  refine wpAny_List (wpAny_items_nil ⟨by rw [sizeLine_eq]; exact Nat.zero_le _, ?_⟩)
  obtain ⟨i, vs', rfl, ei⟩ := list_of (v := V) (H := H) (by rw [q]; rfl)
  have q' : vs = vs' := by unfold listOfV at q; dsimp only at q; rw [ei] at q; cases q; rfl
  subst q'
  cases rv using RepV.objE with | @mk a ea =>
  obtain ⟨items, m, g, rs, ll⟩ := list_at S.rel ea ei
  have k2 := push_keeps (h := s.heap) { cls := .type "list", data := .seq #[] }
  have key := nil_cmp (G := G) (A := A) (s := { s with heap := s.heap.push { cls := .type "list", data := .seq #[] } }) (S.room.u (k := 64) (by decide)) (k2.1 _ _ g) (Heap.get?_push_size _ rfl)
  have em : items.toList.isEmpty = vs.isEmpty := by
    have := rs.length
    cases hi : items.toList with
    | nil => rw [hi] at rs; cases rs; rfl
    | cons _ _ => rw [hi] at rs; cases rs; rfl
  rw [em] at key
  have fin : ∀ b, b = (n0 != vs.isEmpty) → Q (.bool b) { s with heap := s.heap.push { cls := .type "list", data := .seq #[] } } := fun b e => by
    rw [e]; exact h _ _ s.toks _ (.same k2.1) (S.rel.same k2.1 (S.rel.offge k2.2)) (.bool _)
  rcases hc with ⟨rfl, rfl⟩ | ⟨rfl, rfl⟩
  · exact key.2 Q E (fin _ (by cases vs.isEmpty <;> rfl))
  · exact key.1 Q E (fin _ (by cases vs.isEmpty <;> rfl))
theorem neN_some {n0 : Bool} {loc loc' : Loc} {v : AV} {V : AV} {H H' : AH} (h : (match listOfV v H with
    | some vs => some (.val (.bool (n0 != vs.isEmpty)), loc, H)
    | none => none) = some ((.val V, loc', H') : Out)) : ∃ vs, listOfV v H = some vs ∧ V = .bool (n0 != vs.isEmpty) ∧ H' = H := by
  split at h
  · rename_i q; cases h; exact ⟨_, q, rfl, rfl⟩
  · exact nS h
theorem ESim.neN {n0 : Bool} {cop : CmpOp} (hc : (n0 = true ∧ cop = .NotEq) ∨ (n0 = false ∧ cop = .Eq)) {e : Expr} {c : C} {p1 pos : Pos} (he : ESim G P d sc ρ e c)
    (hm : behindInMarks cop (.List [] p1) = false) : ESim G P d sc ρ (.Compare e [cop] [.List [] p1] pos) (.neN n0 c) := by
  intro n A env s σ H loc V loc' H' hr S Q E h
  obtain ⟨n, hr⟩ := run_step hr
  obtain ⟨v, l, H1, h1, hr⟩ := vb_some hr
  obtain ⟨vs, q, rfl, rfl⟩ := neN_some hr
  refine wpAny_Compare1 (he n A env s σ H loc _ _ _ h1 S _ _ fun av h' tk σ' x R rv => ?_) hm
  exact neN_core hc (S.ext x R) rv q (EP.ext h x)
theorem TSim.neN {n0 : Bool} {cop : CmpOp} (hc : (n0 = true ∧ cop = .NotEq) ∨ (n0 = false ∧ cop = .Eq)) {e : Expr} {c : C} {p1 pos : Pos} (he : ESim G P d sc ρ e c)
    (hm : behindInMarks cop (.List [] p1) = false) : TSim G P d sc ρ (.Compare e [cop] [.List [] p1] pos) (.neN n0 c) := by
  intro n A env s σ H loc b loc' H' hr S Q E h
  obtain ⟨n, hr⟩ := run_step hr
  obtain ⟨v, l, H1, h1, hr⟩ := vb_some hr
  obtain ⟨vs, q, q2, rfl⟩ := neN_some hr
  cases q2
  refine wpAny_isTrue_Compare1 (he n A env s σ H loc _ _ _ h1 S _ _ fun av h' tk σ' x R rv => ?_) hm
  refine neN_core hc (S.ext x R) rv q fun w h'' tk' σ'' x' R' r' => ?_
  cases r'
  exact wpAny_truthy_bool (h _ _ _ (x.trans x') R')
theorem HRel.none {h : Heap} {σ : List Addr} {H : AH} (R : HRel G σ H h) : HRel G [] [] h := ⟨rfl, List.nodup_nil, (fun _ _ _ e => by simp at e), R.base, R.bnd, R.sz, (fun _ _ _ e => by simp at e)⟩
theorem ESim.callP {x : Str} {f : Nat} {args : List Expr} {c : C} {p pos : Pos} (hF : AllF G P d) (hx : (x, f) ∈ globTab) (hk : sc.names.lookup x = some .globalImplicit) (hd : (x == ("__debug__" : Str)) = false) (ha : Args G P d sc ρ args c) :
    ESim G P d sc ρ (.Call (.Name x p) args [] pos) (.callP f c) := by
  intro n A env s σ H loc V loc' H' hr S Q E h
  obtain ⟨n, hr⟩ := run_step hr
  obtain ⟨v, l, H1, h1, hr⟩ := vb_some hr
  obtain ⟨vs, d', rfl, rfl⟩ := args_some hr
  dsimp only at hr
  split at hr
  · rename_i hp
    obtain ⟨l2, H2, hc, hv, rfl⟩ := callP_some hr
    have hf : f < 36 := by
      have : ∀ e ∈ globTab, e.2 < 36 := by decide
      exact this _ hx
    refine wpAny_Call_NameR (name_glob S hk (S.ok.glo _ hx) hd ?_)
    refine ha.run h1 S (keep_ok (S.ok.fns f hf).2) fun Vs e => ?_
    cases e
    intro vv h' tk σ' x R rs _
    refine ⟨R.K S.ok, (hF d' rfl f).call hc S.ok S.room.call R.none (rs.bare 50 hp) fun v h'' tk' σ'' x' R' r' => ?_⟩
    have kk : ∀ b o, h'.get? b = some o → h''.get? b = some o := fun b o e => x'.keep b o e fun m => nomatch m
    exact h v h'' tk' σ' (x.trans (.same kk)) (R.same kk (sz_of S.ok R kk)) (r'.flat hv)
  · exact nS hr
theorem list_at2 {h : Heap} {σ : List Addr} {H : AH} {a : Addr} {l : List AV} (R : HRel G σ H h) {i : Nat} (ea : σ[i]? = some a) (ei : H[i]? = some (.list l)) : ∃ items n, h.get? a = some (listOf items n) ∧ RepVs h σ l items.toList := by
  obtain ⟨items, n, g, rs, _⟩ := list_at R ea ei
  exact ⟨items, n, g, rs⟩
theorem args_obj {a : AV} {d : Nat} {k : Nat → Nat → Option Out} {o : Out} (h : (match a, d with | .tup [.obj i], d' + 1 => k i d' | _, _ => none) = some o) : ∃ i d', a = .tup [.obj i] ∧ d = d' + 1 ∧ k i d' = some o := by
  split at h
  · exact ⟨_, _, rfl, rfl, h⟩
  · exact nS h
theorem callL_inv {n d k f : Nat} {loc loc' : Loc} {H1 H' : AH} {V : AV} (hr : (match listOfV (.obj k) H1 with
      | some vs => match vs.all flatA with
        | true => callLF k loc H1 (callBody P (run P n) d f [.obj 0] loc [.list vs])
        | false => none
      | none => none) = some (.val V, loc', H')) : ∃ vs l2 H2 ws, H1[k]? = some (.list vs) ∧ vs.all flatA = true ∧ callBody P (run P n) d f [.obj 0] loc [.list vs] = some (.val V, l2, H2) ∧ H2[0]? = some (.list ws) ∧ flatA V = true ∧ ws.all flatA = true ∧ H1.set k (.list ws) = H' := by
  cases q : listOfV (.obj k) H1 with
  | none => rw [q] at hr; exact nS hr
  | some vs =>
    rw [q] at hr
    dsimp only at hr
    cases hp : vs.all flatA with
    | false => rw [hp] at hr; exact nS hr
    | true =>
      rw [hp] at hr
      obtain ⟨l2, H2, ws, hc, h0, hv, hw, e⟩ := callL_some hr
      exact ⟨vs, l2, H2, ws, listOfV_obj q, hp, hc, h0, hv, hw, e.symm⟩
theorem callL_back {σ σ2 : List Addr} {H1 H2 : AH} {h h2 : Heap} {k : Nat} {a : Addr} {vs ws : List AV} (R : HRel G σ H1 h) (ea : σ[k]? = some a) (ek : H1[k]? = some (.list vs)) (R' : HRel G σ2 H2 h2) (x' : Ext h h2 [a] σ2) (h0 : H2[0]? = some (.list ws)) (hw : ws.all flatA = true) : Ext h h2 σ σ ∧ HRel G σ (H1.set k (.list ws)) h2 := by
  have ma := List.mem_of_getElem? ea
  have off := R.low _ _ _ ek ea rfl
  have kk : ∀ b o, b ≠ a → h.get? b = some o → h2.get? b = some o := fun b o n e => x'.keep b o e fun m => n (List.mem_singleton.mp m)
  have O := R'.rep 0 _ a h0 (x'.at (n := 0) rfl)
  have tt : TK h σ h2 σ := fun b its t n => by
    obtain ⟨o, e, z⟩ := t
    exact ⟨⟨o, kk b o (fun z => n (z ▸ ma)) e, z⟩, n⟩
  refine ⟨⟨⟨[], (List.append_nil _).symm, fun _ m => nomatch m⟩, fun b o e n => kk b o (fun z => n (z ▸ ma)) e, x'.live⟩, ⟨by rw [List.length_set]; exact R.len, R.nd, (fun i o b hi hb nf => ?_), fun b o e => kk b o (fun z => nS (off.1.symm.trans (z ▸ e))) (R.base b o e), R.bnd, R'.sz, fun i o b hi hb => ?_⟩⟩
  · by_cases ik : k = i
    · subst ik
      rw [ea] at hb; cases hb
      exact off
    · rw [List.getElem?_set_ne ik] at hi
      exact R.low i o b hi hb nf
  · by_cases ik : k = i
    · subst ik
      rw [ea] at hb; cases hb
      rw [List.getElem?_set_self (List.getElem?_eq_some_iff.mp ek).1] at hi; cases hi
      cases O using ORep.listE with | mk g2 rw2 => exact .list g2 (rw2.flat hw)
    · rw [List.getElem?_set_ne ik] at hi
      have rb := R.rep i o b hi hb
      have ne : b ≠ a := fun z => ik ((List.getElem?_inj (List.getElem?_eq_some_iff.mp ea).1 R.nd).mp (ea.trans (z ▸ hb.symm)))
      obtain ⟨ob, gb⟩ := rb.there
      exact rb.mono tt (fun _ _ e => e) ((kk _ _ ne gb).trans gb.symm)
theorem callL_in {σ : List Addr} {H1 : AH} {h : Heap} {k : Nat} {a : Addr} {vs : List AV} (R : HRel G σ H1 h) (ea : σ[k]? = some a) (ek : H1[k]? = some (.list vs)) (hp : vs.all flatA = true) : HRel G [a] [.list vs] h := by
  obtain ⟨items, m, g, rl⟩ := list_at2 R ea ek
  refine ⟨rfl, (by simp), (fun i o b hi hb _ => ?_), R.base, R.bnd, R.sz, fun i o b hi hb => ?_⟩
  · cases i with
    | zero => cases hb; exact R.low _ _ _ ek ea rfl
    | succ i => exact nS hi
  · cases i with
    | zero => cases hi; cases hb; exact .list g (rl.flat hp)
    | succ i => exact nS hi
theorem glob36 {x : Str} {f : Nat} (hx : (x, f) ∈ globTab) : f < 36 := (show ∀ e ∈ globTab, e.2 < 36 by decide) _ hx
theorem ESim.callL {x : Str} {f : Nat} {args : List Expr} {c : C} {p pos : Pos} (hF : AllF G P d) (hx : (x, f) ∈ globTab) (hk : sc.names.lookup x = some .globalImplicit) (hd : (x == ("__debug__" : Str)) = false) (ha : Args G P d sc ρ args c) :
    ESim G P d sc ρ (.Call (.Name x p) args [] pos) (.callL f c) := by
  intro n A env s σ H loc V loc' H' hr S Q E h
  obtain ⟨n, hr⟩ := run_step hr
  obtain ⟨v, l, H1, h1, hr⟩ := vb_some hr
  obtain ⟨k, d', rfl, rfl, hr⟩ := args_obj hr
  obtain ⟨vs, l2, H2, ws, ek, hp, hc, h0, hv, hw, rfl⟩ := callL_inv hr
  refine wpAny_Call_NameR (name_glob S hk (S.ok.glo _ hx) hd ?_)
  refine ha.run h1 S (keep_ok (S.ok.fns f (glob36 hx)).2) fun Vs e => ?_
  cases e
  intro vv h' tk σ' x R rs _
  cases rs using RepVs.consE with | mk r rs =>
  cases rs using RepVs.nilE
  cases r using RepV.objE with | @mk a ea =>
  refine ⟨R.K S.ok, (hF d' rfl f).call hc S.ok S.room.call (callL_in R ea ek hp) (.cons (.obj rfl) .nil) fun v h'' tk' σ'' x' R' r' => ?_⟩
  have b := callL_back R ea ek R' x' h0 hw
  exact h v h'' tk' σ' (x.trans b.1) b.2 (r'.flat hv)
end
end Mine
end

section
open PySem PySem.W PyProof.Rows PySem.Calls PySem.Spec PySem.SeqAt
namespace Mine
section
variable {prog : Program} {w : World} {A : Around} {E : Value → Shared → Prop} {s : Shared}
theorem wpAny_loadIfAlive {α : Type} {M : Model} {a : Addr} {k : Option Obj → Sem α} {Q : α → Shared → Prop} (h : wpAny M A (k (s.heap.get? a)) Q E s) : wpAny M A (loadIfAlive a >>= k) Q E s := fun Γ p hΓ => by
  show Sem.wp M Γ (Sem.loadIfAlive a fun x => k x) (fun v _ s' => Q v s') (fun e _ s' => E e s') p s
  rw [Sem.wp_loadIfAlive]
  exact h Γ p hΓ
theorem nextOf_tup_item {it l : Addr} {i : Nat} {items : Array Value} {x : Value} {Q : Value → Shared → Prop} (hit : s.heap.IsTupleIter it l i)
    (hl : s.heap.IsTuple l items) (hx : items[i]? = some x)
    (hQ : ∀ h', h'.IsTupleIter it l (i + 1) → Heap.SameBut it s.heap h' → Q x { s with heap := h' }) :
    wpAny (model prog w) A (Builtin.SmallTypes.nextOf (.ref it)) Q E s := by
  obtain ⟨o, ho, hc, hd⟩ := id hit
  obtain ⟨ol, hol, _, nl, hdl⟩ := hl
  unfold Builtin.SmallTypes.nextOf
  refine wpAny_bind (wpAny_callSpecial?_slot (name := Str.ofString "__next__") hit.typeIs F.slot_tuple_iterator_next
    (wpAny_call_entry F.slot_tuple_iterator_next hit.typeIs F.entry_tuple_iterator_next ?_ (F.args_tuple_iterator_next_1 _)))
  show wpAny _ _ (field (.ref it) 0 >>= _) _ _ s
  refine wpAny_bind (wpAny_field ho hd (x := .ref l) rfl ?_)
  show wpAny _ _ (if (Value.ref l == Value.none) = true then _ else _) _ _ s
  rw [if_neg (show ¬ ((Value.ref l == Value.none) = true) from Bool.false_ne_true)]
  show wpAny _ _ (field (.ref it) 1 >>= _) _ _ s
  refine wpAny_bind (wpAny_field ho hd (x := .int i 0) rfl ?_)
  show wpAny _ _ (seqItems? (.ref l) >>= _) _ _ s
  refine wpAny_bind (wpAny_seqItems hol hdl ?_)
  simp only [Int.toNat_natCast, hx]
  refine wpAny_bind (wpAny_setField ho hd (by simp) (wpAny_pure ⟨x, rfl, wpAny_pure (hQ _ ?_ (Heap.SameBut.update ..))⟩))
  exact ⟨_, Heap.get?_update_self _ ho (Obj.isFreed_of_fields (Obj.data_mapFields hd _)), (Obj.cls_mapFields ..).trans hc, by
    rw [Obj.data_mapFields hd]; simp [rawInt]⟩
theorem nextOf_tup_end {it l : Addr} {i : Nat} {items : Array Value} {Q : Value → Shared → Prop} (hh : A.handled = none)
    (hit : s.heap.IsTupleIter it l i) (hl : s.heap.IsTuple l items) (hx : items[i]? = none)
    (hE : ∀ h' e, Heap.ExtBut it s.heap h' → (∃ o, h'.get? e = some o ∧ o.cls = .type "StopIteration") → E (.ref e) { s with heap := h' }) :
    wpAny (model prog w) A (Builtin.SmallTypes.nextOf (.ref it)) Q E s := by
  obtain ⟨o, ho, hc, hd⟩ := id hit
  obtain ⟨ol, hol, _, nl, hdl⟩ := hl
  unfold Builtin.SmallTypes.nextOf
  refine wpAny_bind (wpAny_callSpecial?_slot (name := Str.ofString "__next__") hit.typeIs F.slot_tuple_iterator_next
    (wpAny_call_entry F.slot_tuple_iterator_next hit.typeIs F.entry_tuple_iterator_next ?_ (F.args_tuple_iterator_next_1 _)))
  show wpAny _ _ (field (.ref it) 0 >>= _) _ _ s
  refine wpAny_bind (wpAny_field ho hd (x := .ref l) rfl ?_)
  show wpAny _ _ (if (Value.ref l == Value.none) = true then _ else _) _ _ s
  rw [if_neg (show ¬ ((Value.ref l == Value.none) = true) from Bool.false_ne_true)]
  show wpAny _ _ (field (.ref it) 1 >>= _) _ _ s
  refine wpAny_bind (wpAny_field ho hd (x := .int i 0) rfl ?_)
  show wpAny _ _ (seqItems? (.ref l) >>= _) _ _ s
  refine wpAny_bind (wpAny_seqItems hol hdl ?_)
  simp only [Int.toNat_natCast, hx]
  refine wpAny_bind (wpAny_rule (wpAny_bind (wpAny_setField ho hd (by simp) ?_)))
  show wpAny _ _ (newExc (.type "StopIteration") [] >>= _) _ _ _
  refine wpAny_bind ?_
  simp only [newExc, newTuple]
  refine wpAny_bind (wpAny_newObj_type ?_ (by size_fits))
  refine wpAny_bind (m := firstArgMember _ _) (wpAny_of_eq (a := Value.none) (by first | rfl | (simp only [firstArgMember]; rfl)) ?_)
  refine wpAny_newObj_type ?_ (by size_fits)
  simp only [raiseNew]
  refine wpAny_bind (wpAny_handled ?_)
  first | rw [show A.in1.handled = none from hh] | rw [hh]
  refine wpAny_bind (wpAny_pure (wpAny_throw ?_))
  exact hE _ _ (((Heap.SameBut.update ..).extBut.push _).push _) ⟨_, Heap.get?_push_size _ rfl, rfl⟩
noncomputable abbrev ZipG (h : Heap) (z TI TO : Addr) (f0 f1 : Value) : Prop :=
  h.get? z = some { cls := .type "zip", dict := none, data := .fields #[f0, f1, .bool false, .ref TI, .ref TO], slots := #[] }
structure ZT (h : Heap) (z TI TO i1 i2 t1 t2 : Addr) (k : Nat) (xs ys : Array Value) : Prop where
  D : ZipApart z TI TO i1 i2 t1 t2
  z : ∃ f0 f1, ZipG h z TI TO f0 f1 ∧ (f0 = .none ∨ (f1 = .bool true ∨ f1 = .bool false) ∧ ∃ T o, f0 = rawInt (T : Nat) ∧ h.get? T = some o)
  I : IsPair h TI (.ref i1) (.ref i2)
  O : ∃ a b, IsPair h TO a b
  a1 : h.IsTupleIter i1 t1 k
  a2 : h.IsTupleIter i2 t2 k
  l1 : h.IsTuple t1 xs
  l2 : h.IsTuple t2 ys
theorem zipT_item {z TI TO i1 i2 t1 t2 : Addr} {k : Nat} {xs ys : Array Value} {x y : Value} {Q : Value → Shared → Prop} (Z : ZT s.heap z TI TO i1 i2 t1 t2 k xs ys) (hx : xs[k]? = some x) (hy : ys[k]? = some y)
    (hQ : ∀ h', ZT h' z TI TO i1 i2 t1 t2 (k + 1) xs ys → IsPair h' s.heap.objs.size x y → h'.objs.size = s.heap.objs.size + 1 →
      (∀ c o, c ≠ z → c ≠ TO → c ≠ i1 → c ≠ i2 → s.heap.get? c = some o → h'.get? c = some o) → Q (.ref s.heap.objs.size) { s with heap := h' }) :
    wpAny (model prog w) A (Builtin.«zip.__next__» ⟨[.ref z], []⟩) (fun fin s' => ∃ v, fin = .done (.ret v) ∧ Q v s') E s := by
  obtain ⟨D, ⟨f0, f1, hz, hf⟩, hTI, ⟨a, b, hTO⟩, h1, h2, hl1, hl2⟩ := Z
  have tne : ∀ {c : Addr} {its : Array Value} {h : Heap}, h.IsTuple c its → ∀ {o : Obj}, h.get? c = some o → o.cls = .type "tuple" := fun t o e => by
    obtain ⟨o', e', q, _⟩ := t
    rw [e] at e'; cases e'; exact q
  show wpAny _ _ (field (.ref z) 2 >>= _) _ _ _
  refine wpAny_bind (wpAny_field hz rfl (x := .bool false) rfl ?_)
  show wpAny _ _ (field (.ref z) 3 >>= _) _ _ _
  refine wpAny_bind (wpAny_field hz rfl (x := .ref TI) rfl ?_)
  refine wpAny_bind (wpAny_seqItems hTI rfl ?_)
  show wpAny _ _ (Builtin.SmallTypes.ownedTupleIsFree (.ref z) >>= _) _ _ _
  refine wpAny_bind ?_
  unfold Builtin.SmallTypes.ownedTupleIsFree
  rcases hf with rfl | ⟨hf1, T, oT, rfl, hT⟩
  · refine wpAny_bind (wpAny_field hz rfl (x := .none) rfl (wpAny_pure ?_))
    simp only [if_true]
    refine wpAny_bind (wpAny_rule ?_)
    refine wpAny_bind (wpAny_field hz rfl (x := .ref TO) rfl ?_)
    refine wpAny_bind (wpAny_setField_rec hz (by simp) fun h₁ hz₁ hs₁ => ?_)
    replace hz₁ : ZipG h₁ z TI TO .ellipsis f1 := hz₁
    refine wpAny_bind ?_
    simp only [List.zipIdx_cons, List.zipIdx_nil, List.forIn_cons, List.forIn_nil]
    refine wpAny_bind (wpAny_bind (wpAny_onRaise ?_))
    show wpAny _ _ (Builtin.SmallTypes.nextOf (.ref i1) >>= _) _ _ _
    refine wpAny_bind (nextOf_tup_item (h1.extBut hs₁.extBut D.i1z) (hl1.extBut hs₁.extBut D.l1z) hx fun h₂ h1₂ hs₂ => wpAny_pure ?_)
    have hTO₂ : IsPair h₂ TO a b := hs₂.extBut _ _ D.TOi1 (hs₁.extBut _ _ D.TOz hTO)
    refine wpAny_bind (wpAny_seqItems hTO₂ rfl ?_)
    refine wpAny_bind (wpAny_updateSeq_pair hTO₂ fun h₃ hTO₃ hs₃ => ?_)
    replace hTO₃ : IsPair h₃ TO x b := hTO₃
    refine wpAny_bind (wpAny_letGo (wpAny_pure ?_))
    refine wpAny_bind (wpAny_bind (wpAny_onRaise ?_))
    show wpAny _ _ (Builtin.SmallTypes.nextOf (.ref i2) >>= _) _ _ _
    refine wpAny_bind (nextOf_tup_item (((h2.extBut hs₁.extBut D.i2z).extBut hs₂.extBut D.i12.symm).extBut hs₃.extBut D.TOi2.symm)
      (((hl2.extBut hs₁.extBut D.l2z).extBut hs₂.extBut D.l2i1).extBut hs₃.extBut D.l2TO) hy fun h₄ h2₄ hs₄ => wpAny_pure ?_)
    have hTO₄ : IsPair h₄ TO x b := hs₄.extBut _ _ D.TOi2 hTO₃
    refine wpAny_bind (wpAny_seqItems hTO₄ rfl ?_)
    refine wpAny_bind (wpAny_updateSeq_pair hTO₄ fun h₅ hTO₅ hs₅ => ?_)
    replace hTO₅ : IsPair h₅ TO x y := hTO₅
    refine wpAny_bind (wpAny_letGo (wpAny_pure (wpAny_pure ?_)))
    refine wpAny_bind (wpAny_seqItems hTO₅ rfl ?_)
    refine wpAny_bind (wpAny_newTuple ?_)
    have hsz : h₅.objs.size = s.heap.objs.size := by rw [hs₅.1, hs₄.1, hs₃.1, hs₂.1, hs₁.1]
    have hz₅ : ZipG h₅ z TI TO .ellipsis f1 := hs₅.extBut _ _ D.TOz.symm (hs₄.extBut _ _ D.i2z.symm (hs₃.extBut _ _ D.TOz.symm (hs₂.extBut _ _ D.i1z.symm hz₁)))
    have hk₅ : ∀ c o, c ≠ z → c ≠ TO → c ≠ i1 → c ≠ i2 → s.heap.get? c = some o → h₅.get? c = some o := fun c o c1 c2 c3 c4 e =>
      hs₅.extBut _ _ c2 (hs₄.extBut _ _ c4 (hs₃.extBut _ _ c2 (hs₂.extBut _ _ c3 (hs₁.extBut _ _ c1 e))))
    have h1₅ : h₅.IsTupleIter i1 t1 (k + 1) := ((h1₂.extBut hs₃.extBut D.TOi1.symm).extBut hs₄.extBut D.i12).extBut hs₅.extBut D.TOi1.symm
    have h2₅ : h₅.IsTupleIter i2 t2 (k + 1) := h2₄.extBut hs₅.extBut D.TOi2.symm
    have hzlt : z < h₅.objs.size := Heap.lt_size hz₅
    show wpAny _ _ (Builtin.SmallTypes.ownedTupleHandOut (.ref z) (.ref h₅.objs.size) >>= _) _ _ _
    refine wpAny_bind ?_
    unfold Builtin.SmallTypes.ownedTupleHandOut
    have hz₆ : ZipG (h₅.push { cls := .type "tuple", data := .seq #[x, y] }) z TI TO .ellipsis f1 := Heap.get?_push_of_some _ hz₅
    refine wpAny_bind (wpAny_setField_rec hz₆ (by simp) fun h₇ hz₇ hs₇ => ?_)
    replace hz₇ : ZipG h₇ z TI TO (rawInt h₅.objs.size) f1 := hz₇
    refine wpAny_setField_rec hz₇ (by simp) fun h₈ hz₈ hs₈ => ?_
    replace hz₈ : ZipG h₈ z TI TO (rawInt h₅.objs.size) (.bool false) := hz₈
    have up : ∀ c o, c ≠ z → h₅.get? c = some o → h₈.get? c = some o := fun c o c1 e => hs₈.extBut _ _ c1 (hs₇.extBut _ _ c1 (Heap.get?_push_of_some _ e))
    have hT₈ : IsPair h₈ h₅.objs.size x y := hs₈.extBut _ _ (Nat.ne_of_gt hzlt) (hs₇.extBut _ _ (Nat.ne_of_gt hzlt) (Heap.get?_push_size _ rfl))
    have hz8 : h₈.objs.size = h₅.objs.size + 1 := by rw [hs₈.1, hs₇.1, Heap.size_push]
    rw [hsz] at hz₈ hT₈ hz8
    refine wpAny_pure ⟨_, rfl, ?_⟩
    show Q (.ref h₅.objs.size) _
    rw [hsz]
    have kk : ∀ c o, c ≠ z → c ≠ TO → c ≠ i1 → c ≠ i2 → s.heap.get? c = some o → h₈.get? c = some o := fun c o c1 c2 c3 c4 e => up c o c1 (hk₅ c o c1 c2 c3 c4 e)
    refine hQ h₈ ⟨D, ⟨_, _, hz₈, .inr ⟨.inr rfl, _, _, rfl, hT₈⟩⟩, kk _ _ D.TIz D.TITO D.TIi1 D.TIi2 hTI, ⟨_, _, up _ _ D.TOz hTO₅⟩, ?_, ?_, ?_, ?_⟩ hT₈ hz8 kk
    · obtain ⟨o, e, r⟩ := h1₅; exact ⟨o, up _ _ D.i1z e, r⟩
    · obtain ⟨o, e, r⟩ := h2₅; exact ⟨o, up _ _ D.i2z e, r⟩
    · obtain ⟨o, e, r⟩ := hl1; exact ⟨o, kk _ _ D.l1z D.l1TO D.l1i1 D.l1i2 e, r⟩
    · obtain ⟨o, e, r⟩ := hl2; exact ⟨o, kk _ _ D.l2z D.l2TO D.l2i1 D.l2i2 e, r⟩
  · refine wpAny_bind (wpAny_field hz rfl (x := rawInt (T : Nat)) rfl ?_)
    show wpAny _ _ (loadIfAlive ((T : Int)).toNat >>= _) _ _ _
    refine wpAny_loadIfAlive ?_
    rw [Int.toNat_natCast, hT]
    simp only [Option.isNone_some, Bool.false_eq_true, if_false]
    refine wpAny_mono (Q := fun b s' => b = false ∧ ∃ h₁, s' = { s with heap := h₁ } ∧ ZipG h₁ z TI TO (rawInt (T : Nat)) (.bool true) ∧ Heap.SameBut z s.heap h₁) ?_ ?_ fun _ _ e => e
    · rcases hf1 with rfl | rfl
      · refine wpAny_bind (wpAny_field hz rfl (x := .bool true) rfl ?_)
        rw [if_neg (show ¬ (Value.bool true != Value.bool true) = true by decide)]
        exact wpAny_pure ⟨rfl, _, rfl, hz, Heap.SameBut.refl ..⟩
      · refine wpAny_bind (wpAny_field hz rfl (x := .bool false) rfl ?_)
        rw [if_pos (show (Value.bool false != Value.bool true) = true by decide)]
        refine wpAny_bind (wpAny_setField_rec hz (by simp) fun h₁ hz₁ hs₁ => wpAny_pure ⟨rfl, h₁, rfl, hz₁, hs₁⟩)
    · rintro _ _ ⟨rfl, h₁, rfl, hz₁, hs₁⟩
      simp only [Bool.false_eq_true, if_false]
      refine wpAny_bind ?_
      rw [← Array.forIn_toList]
      simp only [List.forIn_cons, List.forIn_nil]
      refine wpAny_bind (wpAny_bind (wpAny_holding ?_))
      show wpAny _ _ (Builtin.SmallTypes.nextOf (.ref i1) >>= _) _ _ _
      refine wpAny_bind (nextOf_tup_item (h1.extBut hs₁.extBut D.i1z) (hl1.extBut hs₁.extBut D.l1z) hx fun h₂ h1₂ hs₂ => wpAny_pure ?_)
      refine wpAny_pure ?_
      refine wpAny_bind (wpAny_bind (wpAny_holding ?_))
      show wpAny _ _ (Builtin.SmallTypes.nextOf (.ref i2) >>= _) _ _ _
      refine wpAny_bind (nextOf_tup_item ((h2.extBut hs₁.extBut D.i2z).extBut hs₂.extBut D.i12.symm) ((hl2.extBut hs₁.extBut D.l2z).extBut hs₂.extBut D.l2i1) hy fun h₃ h2₃ hs₃ => wpAny_pure ?_)
      refine wpAny_pure (wpAny_pure ?_)
      refine wpAny_bind (wpAny_newTuple ?_ (hsz := by show (2 : Nat) ≤ sizeLine; rw [sizeLine_eq]; decide))
      have hsz : h₃.objs.size = s.heap.objs.size := by rw [hs₃.1, hs₂.1, hs₁.1]
      have k3 : ∀ c o, c ≠ z → c ≠ TO → c ≠ i1 → c ≠ i2 → s.heap.get? c = some o → h₃.get? c = some o := fun c o c1 _ c3 c4 e => hs₃.extBut _ _ c4 (hs₂.extBut _ _ c3 (hs₁.extBut _ _ c1 e))
      have kk : ∀ c o, c ≠ z → c ≠ TO → c ≠ i1 → c ≠ i2 → s.heap.get? c = some o → (h₃.push { cls := .type "tuple", data := .seq #[x, y] }).get? c = some o := fun c o c1 c2 c3 c4 e => Heap.get?_push_of_some _ (k3 c o c1 c2 c3 c4 e)
      have hT3 : IsPair (h₃.push { cls := .type "tuple", data := .seq #[x, y] }) h₃.objs.size x y := Heap.get?_push_size _ rfl
      refine wpAny_pure ⟨_, rfl, ?_⟩
      show Q (.ref h₃.objs.size) _
      rw [hsz] at hT3 ⊢
      have hz₃ : ZipG h₃ z TI TO (rawInt (T : Nat)) (.bool true) := hs₃.extBut _ _ D.i2z.symm (hs₂.extBut _ _ D.i1z.symm hz₁)
      have tok : ∃ o, (h₃.push { cls := .type "tuple", data := .seq #[x, y] }).get? T = some o := by
        have a1 : ∃ o, h₁.get? T = some o := by
          by_cases q : T = z
          · exact ⟨_, by rw [q]; exact hz₁⟩
          · exact ⟨_, hs₁.extBut _ _ q hT⟩
        obtain ⟨o1, a1⟩ := a1
        have a2 : ∃ o, h₂.get? T = some o := by
          by_cases q : T = i1
          · obtain ⟨o, e, _⟩ := h1₂; exact ⟨o, by rw [q]; exact e⟩
          · exact ⟨_, hs₂.extBut _ _ q a1⟩
        obtain ⟨o2, a2⟩ := a2
        have a3 : ∃ o, h₃.get? T = some o := by
          by_cases q : T = i2
          · obtain ⟨o, e, _⟩ := h2₃; exact ⟨o, by rw [q]; exact e⟩
          · exact ⟨_, hs₃.extBut _ _ q a2⟩
        obtain ⟨o3, a3⟩ := a3
        exact ⟨o3, Heap.get?_push_of_some _ a3⟩
      obtain ⟨oT', hT'⟩ := tok
      have h1₃ := h1₂.extBut hs₃.extBut D.i12
      refine hQ _ ⟨D, ⟨_, _, Heap.get?_push_of_some _ hz₃, .inr ⟨.inl rfl, T, oT', rfl, hT'⟩⟩, kk _ _ D.TIz D.TITO D.TIi1 D.TIi2 hTI, ⟨a, b, Heap.get?_push_of_some _ (hs₃.extBut _ _ D.TOi2 (hs₂.extBut _ _ D.TOi1 (hs₁.extBut _ _ D.TOz hTO)))⟩, ?_, ?_, ?_, ?_⟩ hT3 (by rw [Heap.size_push, hsz]) kk
      · obtain ⟨o, e, r⟩ := h1₃; exact ⟨o, Heap.get?_push_of_some _ e, r⟩
      · obtain ⟨o, e, r⟩ := h2₃; exact ⟨o, Heap.get?_push_of_some _ e, r⟩
      · obtain ⟨o, e, r⟩ := hl1; exact ⟨o, kk _ _ D.l1z D.l1TO D.l1i1 D.l1i2 e, r⟩
      · obtain ⟨o, e, r⟩ := hl2; exact ⟨o, kk _ _ D.l2z D.l2TO D.l2i1 D.l2i2 e, r⟩
theorem zipT_end {z TI TO i1 i2 t1 t2 : Addr} {k : Nat} {xs ys : Array Value} {Q : Fin → Shared → Prop} (hh : A.handled = none) (Z : ZT s.heap z TI TO i1 i2 t1 t2 k xs ys) (hx : xs[k]? = none)
    (hE : ∀ h' e, (∀ c o, c ≠ z → c ≠ i1 → s.heap.get? c = some o → h'.get? c = some o) → (∃ o, h'.get? e = some o ∧ o.cls = .type "StopIteration") → E (.ref e) { s with heap := h' }) :
    wpAny (model prog w) A (Builtin.«zip.__next__» ⟨[.ref z], []⟩) Q E s := by
  obtain ⟨D, ⟨f0, f1, hz, hf⟩, hTI, ⟨a, b, hTO⟩, h1, h2, hl1, hl2⟩ := Z
  show wpAny _ _ (field (.ref z) 2 >>= _) _ _ _
  refine wpAny_bind (wpAny_field hz rfl (x := .bool false) rfl ?_)
  show wpAny _ _ (field (.ref z) 3 >>= _) _ _ _
  refine wpAny_bind (wpAny_field hz rfl (x := .ref TI) rfl ?_)
  refine wpAny_bind (wpAny_seqItems hTI rfl ?_)
  show wpAny _ _ (Builtin.SmallTypes.ownedTupleIsFree (.ref z) >>= _) _ _ _
  refine wpAny_bind ?_
  unfold Builtin.SmallTypes.ownedTupleIsFree
  rcases hf with rfl | ⟨hf1, T, oT, rfl, hT⟩
  · refine wpAny_bind (wpAny_field hz rfl (x := .none) rfl (wpAny_pure ?_))
    simp only [if_true]
    refine wpAny_bind (wpAny_rule ?_)
    refine wpAny_bind (wpAny_field hz rfl (x := .ref TO) rfl ?_)
    refine wpAny_bind (wpAny_setField_rec hz (by simp) fun h₁ hz₁ hs₁ => ?_)
    replace hz₁ : ZipG h₁ z TI TO .ellipsis f1 := hz₁
    refine wpAny_bind ?_
    simp only [List.zipIdx_cons, List.zipIdx_nil, List.forIn_cons, List.forIn_nil]
    refine wpAny_bind (wpAny_bind (wpAny_onRaise ?_))
    show wpAny _ _ (Builtin.SmallTypes.nextOf (.ref i1) >>= _) _ _ _
    refine wpAny_bind (nextOf_tup_end hh (h1.extBut hs₁.extBut D.i1z) (hl1.extBut hs₁.extBut D.l1z) hx fun h₂ e hs₂ he => ?_)
    obtain ⟨oe, hoe, hce⟩ := he
    have hz₂ : ZipG h₂ z TI TO .ellipsis f1 := hs₂ _ _ D.i1z.symm hz₁
    have hez : e ≠ z := fun x => by subst x; rw [hz₂] at hoe; cases hoe; simp at hce
    refine wpAny_setField_rec hz₂ (by simp) fun h₃ hz₃ hs₃ => hE h₃ e (fun c o c1 c3 x => hs₃.extBut _ _ c1 (hs₂ _ _ c3 (hs₁.extBut _ _ c1 x))) ⟨oe, hs₃.extBut _ _ hez hoe, hce⟩
  · refine wpAny_bind (wpAny_field hz rfl (x := rawInt (T : Nat)) rfl ?_)
    show wpAny _ _ (loadIfAlive ((T : Int)).toNat >>= _) _ _ _
    refine wpAny_loadIfAlive ?_
    rw [Int.toNat_natCast, hT]
    simp only [Option.isNone_some, Bool.false_eq_true, if_false]
    refine wpAny_mono (Q := fun b s' => b = false ∧ ∃ h₁, s' = { s with heap := h₁ } ∧ ZipG h₁ z TI TO (rawInt (T : Nat)) (.bool true) ∧ Heap.SameBut z s.heap h₁) ?_ ?_ fun _ _ e => e
    · rcases hf1 with rfl | rfl
      · refine wpAny_bind (wpAny_field hz rfl (x := .bool true) rfl ?_)
        rw [if_neg (show ¬ (Value.bool true != Value.bool true) = true by decide)]
        exact wpAny_pure ⟨rfl, _, rfl, hz, Heap.SameBut.refl ..⟩
      · refine wpAny_bind (wpAny_field hz rfl (x := .bool false) rfl ?_)
        rw [if_pos (show (Value.bool false != Value.bool true) = true by decide)]
        refine wpAny_bind (wpAny_setField_rec hz (by simp) fun h₁ hz₁ hs₁ => wpAny_pure ⟨rfl, h₁, rfl, hz₁, hs₁⟩)
    · rintro _ _ ⟨rfl, h₁, rfl, hz₁, hs₁⟩
      simp only [Bool.false_eq_true, if_false]
      refine wpAny_bind ?_
      rw [← Array.forIn_toList]
      simp only [List.forIn_cons, List.forIn_nil]
      refine wpAny_bind (wpAny_bind (wpAny_holding ?_))
      show wpAny _ _ (Builtin.SmallTypes.nextOf (.ref i1) >>= _) _ _ _
      refine wpAny_bind (nextOf_tup_end hh (h1.extBut hs₁.extBut D.i1z) (hl1.extBut hs₁.extBut D.l1z) hx fun h₂ e hs₂ he => ?_)
      exact hE h₂ e (fun c o c1 c3 x => hs₂ _ _ c3 (hs₁.extBut _ _ c1 x)) he
theorem pyNext_zipT_item {z TI TO i1 i2 t1 t2 : Addr} {k : Nat} {xs ys : Array Value} {x y : Value} {Q : Option Value → Shared → Prop} (Z : ZT s.heap z TI TO i1 i2 t1 t2 k xs ys) (hx : xs[k]? = some x) (hy : ys[k]? = some y)
    (hQ : ∀ h', ZT h' z TI TO i1 i2 t1 t2 (k + 1) xs ys → IsPair h' s.heap.objs.size x y → h'.objs.size = s.heap.objs.size + 1 →
      (∀ c o, c ≠ z → c ≠ TO → c ≠ i1 → c ≠ i2 → s.heap.get? c = some o → h'.get? c = some o) → Q (some (.ref s.heap.objs.size)) { s with heap := h' }) :
    wpAny (model prog w) A (pyNext (.ref z)) Q E s := by
  have hT : s.TypeIs (.ref z) "zip" := by obtain ⟨f0, f1, hz, _⟩ := Z.z; exact ⟨_, hz, rfl⟩
  unfold pyNext
  exact wpAny_bind (wpAny_attempt (wpAny_callSpecial?_slot (name := Str.ofString "__next__") hT F.slot_zip_next
    (wpAny_call_entry F.slot_zip_next hT F.entry_zip_next
      (zipT_item Z hx hy fun h' a1 a2 a3 a4 => wpAny_pure (hQ h' a1 a2 a3 a4)) (F.args_zip_next_1 _))))
theorem pyNext_zipT_end {z TI TO i1 i2 t1 t2 : Addr} {k : Nat} {xs ys : Array Value} {Q : Option Value → Shared → Prop} (hh : A.handled = none) (Z : ZT s.heap z TI TO i1 i2 t1 t2 k xs ys) (hx : xs[k]? = none)
    (hQ : ∀ h', (∀ c o, c ≠ z → c ≠ i1 → s.heap.get? c = some o → h'.get? c = some o) → Q none { s with heap := h' }) : wpAny (model prog w) A (pyNext (.ref z)) Q E s := by
  have hT : s.TypeIs (.ref z) "zip" := by obtain ⟨f0, f1, hz, _⟩ := Z.z; exact ⟨_, hz, rfl⟩
  unfold pyNext
  refine wpAny_bind (wpAny_attempt (wpAny_callSpecial?_slot (name := Str.ofString "__next__") hT F.slot_zip_next
    (wpAny_call_entry F.slot_zip_next hT F.entry_zip_next (zipT_end hh Z hx fun h' e hk he => ?_) (F.args_zip_next_1 _))))
  obtain ⟨o, ho, hc⟩ := he
  refine wpAny_bind (wpAny_isInstance (T := "StopIteration") (b := true) ⟨o, ho, hc⟩ isSubtype_stop ?_)
  exact wpAny_pure (hQ _ hk)
end
end Mine
end

section
open PySem PySem.W PyProof.Rows PySem.Calls PySem.Spec PySem.SeqAt
namespace Mine
noncomputable abbrev ztH1 (h : Heap) (l1 : Addr) : Heap := h.push { cls := .type "tuple_iterator", data := .fields #[.ref l1, .int 0 0] }
noncomputable abbrev ztH2 (h : Heap) (l1 l2 : Addr) : Heap := (ztH1 h l1).push { cls := .type "tuple_iterator", data := .fields #[.ref l2, .int 0 0] }
noncomputable abbrev ztH3 (h : Heap) (l1 l2 : Addr) : Heap := (ztH2 h l1 l2).push { cls := .type "tuple", data := .seq #[.ref h.objs.size, .ref (ztH1 h l1).objs.size] }
noncomputable abbrev ztH4 (h : Heap) (l1 l2 : Addr) : Heap := (ztH3 h l1 l2).push { cls := .type "tuple", data := .seq #[.none, .none] }
noncomputable abbrev ztH5 (h : Heap) (l1 l2 : Addr) : Heap := (ztH4 h l1 l2).push { cls := .type "zip", data := .fields #[.none, .bool false, .bool false, .ref (ztH2 h l1 l2).objs.size, .ref (ztH3 h l1 l2).objs.size] }
theorem meets_zip_newT (l1 l2 : Addr) (xs ys : Array Value) :
    Meets (Builtin.«zip.__new__» ⟨[.type "zip", .ref l1, .ref l2], []⟩) (fun _ R s => s.heap.IsTuple l1 xs ∧ s.heap.IsTuple l2 ys ∧
      R (.ok (.ret (.ref (ztH4 s.heap l1 l2).objs.size))) { s with heap := ztH5 s.heap l1 l2 }) :=
  .of_wp fun prog w A R s h => by
    obtain ⟨hp, g, d, tk, os⟩ := s; obtain ⟨hl1, hl2, h⟩ := h
    have hsub := sub_zip
    have hL1 : Heap.IsTuple (Shared.heap ⟨hp, g, d, tk, os⟩) l1 xs := hl1
    have hL2 : Heap.IsTuple (Shared.heap ⟨hp.push { cls := .type "tuple_iterator", data := .fields #[.ref l1, .int 0 0] }, g, d, tk, os⟩) l2 ys := Heap.IsTuple.push hl2 _
    wp_walk using wpAny_pyIter_tuple hL1, wpAny_pyIter_tuple hL2
    exact ⟨_, rfl, h⟩
section
variable {prog : Program} {w : World} {A : Around} {E : Value → Shared → Prop} {s : Shared}
theorem far {T z base : Addr} (h1 : z < base) (h2 : base ≤ T) : T ≠ z := Nat.ne_of_gt (Nat.lt_of_lt_of_le h1 h2)
theorem call_zip_T {l1 l2 : Addr} {xs ys : Array Value} {Q : Value → Shared → Prop} (hl1 : s.heap.IsTuple l1 xs) (hl2 : s.heap.IsTuple l2 ys)
    (h : ∀ h', ZipG h' (s.heap.objs.size + 4) (s.heap.objs.size + 2) (s.heap.objs.size + 3) .none (.bool false) → ZT h' (s.heap.objs.size + 4) (s.heap.objs.size + 2) (s.heap.objs.size + 3) s.heap.objs.size (s.heap.objs.size + 1) l1 l2 0 xs ys → h'.objs.size = s.heap.objs.size + 5 →
      (∀ c o, s.heap.get? c = some o → h'.get? c = some o) → Q (.ref (s.heap.objs.size + 4)) { s with heap := h' }) :
    wpAny (model prog w) A (call (.type "zip") [.ref l1, .ref l2]) Q E s := by
  refine callType_new F.called_zip (by decide) (F.typeCall_zip_2 _ _) (F.newCall_zip_2 _ _) (fun obj => F.args_object_init_3 obj _ _) F.entry_zip_new
    (meets_zip_newT l1 l2 xs ys) ⟨hl1, hl2, ?_⟩
  have z1 : (ztH1 s.heap l1).objs.size = s.heap.objs.size + 1 := Heap.size_push ..
  have z2 : (ztH2 s.heap l1 l2).objs.size = s.heap.objs.size + 2 := by rw [Heap.size_push, z1]
  have z3 : (ztH3 s.heap l1 l2).objs.size = s.heap.objs.size + 3 := by rw [Heap.size_push, z2]
  have z4 : (ztH4 s.heap l1 l2).objs.size = s.heap.objs.size + 4 := by rw [Heap.size_push, z3]
  have z5 : (ztH5 s.heap l1 l2).objs.size = s.heap.objs.size + 5 := by rw [Heap.size_push, z4]
  have g5 : (ztH5 s.heap l1 l2).get? (ztH4 s.heap l1 l2).objs.size = some _ := Heap.get?_push_size _ rfl
  have g4 : (ztH5 s.heap l1 l2).get? (ztH3 s.heap l1 l2).objs.size = some _ := Heap.get?_push_of_some _ (Heap.get?_push_size _ rfl)
  have g3 : (ztH5 s.heap l1 l2).get? (ztH2 s.heap l1 l2).objs.size = some _ := Heap.get?_push_of_some _ (Heap.get?_push_of_some _ (Heap.get?_push_size _ rfl))
  have g2 : (ztH5 s.heap l1 l2).get? (ztH1 s.heap l1).objs.size = some _ := Heap.get?_push_of_some _ (Heap.get?_push_of_some _ (Heap.get?_push_of_some _ (Heap.get?_push_size _ rfl)))
  have g1 : (ztH5 s.heap l1 l2).get? s.heap.objs.size = some _ := Heap.get?_push_of_some _ (Heap.get?_push_of_some _ (Heap.get?_push_of_some _ (Heap.get?_push_of_some _ (Heap.get?_push_size _ rfl))))
  have kk : ∀ c o, s.heap.get? c = some o → (ztH5 s.heap l1 l2).get? c = some o := fun c o x =>
    Heap.get?_push_of_some _ (Heap.get?_push_of_some _ (Heap.get?_push_of_some _ (Heap.get?_push_of_some _ (Heap.get?_push_of_some _ x))))
  show _ ∧ _
  rw [z2, z3, z4] at g5
  rw [z1, z2] at g3
  rw [z3] at g4
  rw [z1] at g2
  rw [z4]
  have a1 : l1 < s.heap.objs.size := by obtain ⟨_, e, _⟩ := hl1; exact Heap.lt_size e
  have a2 : l2 < s.heap.objs.size := by obtain ⟨_, e, _⟩ := hl2; exact Heap.lt_size e
  refine ⟨⟨_, g5, rfl⟩, h _ g5 ⟨zipApart_new a1 a2, ⟨_, _, g5, .inl rfl⟩, g3, ⟨_, _, g4⟩, ⟨_, g1, rfl, rfl⟩, ⟨_, g2, rfl, rfl⟩, ?_, ?_⟩ z5 kk⟩
  · obtain ⟨o, e, r⟩ := hl1; exact ⟨o, kk _ _ e, r⟩
  · obtain ⟨o, e, r⟩ := hl2; exact ⟨o, kk _ _ e, r⟩
theorem zip_no_len : typeLookup (.type "zip") "__len__" = pure none := by rw [typeLookup_type, builtinLookup_eq_fast]; kernel_rfl
theorem zip_no_hint : typeLookup (.type "zip") "__length_hint__" = pure none := by rw [typeLookup_type, builtinLookup_eq_fast]; kernel_rfl
theorem hint_zip {z : Addr} {Q : Bool → Shared → Prop} (hT : s.TypeIs (.ref z) "zip") (h : Q true s) : wpAny (model prog w) A (Builtin.List.listLengthHint (.ref z)) Q E s := by
  unfold Builtin.List.listLengthHint
  refine wpAny_bind (wpAny_specialOf hT zip_no_len ?_)
  refine wpAny_bind (wpAny_specialOf hT zip_no_hint ?_)
  exact wpAny_pure h
theorem ZT.but {h h' : Heap} {z TI TO i1 i2 t1 t2 : Addr} {k : Nat} {xs ys : Array Value} (Z : ZT h z TI TO i1 i2 t1 t2 k xs ys) {S : Addr} (sb : Heap.SameBut S h h') (lv : ∃ o, h'.get? S = some o)
    (n : S ≠ z ∧ S ≠ TI ∧ S ≠ TO ∧ S ≠ i1 ∧ S ≠ i2 ∧ S ≠ t1 ∧ S ≠ t2) : ZT h' z TI TO i1 i2 t1 t2 k xs ys := by
  obtain ⟨D, ⟨f0, f1, hz, hf⟩, hTI, ⟨a, b, hTO⟩, h1, h2, hl1, hl2⟩ := Z
  obtain ⟨n1, n2, n3, n4, n5, n6, n7⟩ := n
  have up : ∀ c o, S ≠ c → h.get? c = some o → h'.get? c = some o := fun c o q e => (sb.2 c (Ne.symm q)).trans e
  have hf' : f0 = .none ∨ (f1 = .bool true ∨ f1 = .bool false) ∧ ∃ T o, f0 = rawInt (T : Nat) ∧ h'.get? T = some o := by
    rcases hf with hf | ⟨a, T, o, e, q⟩
    · exact .inl hf
    · refine .inr ⟨a, T, ?_⟩
      by_cases st : S = T
      · obtain ⟨o', e'⟩ := lv
        exact ⟨o', e, by rw [← st]; exact e'⟩
      · exact ⟨o, e, up _ _ st q⟩
  refine ⟨D, ⟨f0, f1, up _ _ n1 hz, hf'⟩, up _ _ n2 hTI, ⟨a, b, up _ _ n3 hTO⟩, ?_, ?_, ?_, ?_⟩
  · obtain ⟨o, e, r⟩ := h1; exact ⟨o, up _ _ n4 e, r⟩
  · obtain ⟨o, e, r⟩ := h2; exact ⟨o, up _ _ n5 e, r⟩
  · obtain ⟨o, e, r⟩ := hl1; exact ⟨o, up _ _ n6 e, r⟩
  · obtain ⟨o, e, r⟩ := hl2; exact ⟨o, up _ _ n7 e, r⟩
theorem ZT.keep {h h' : Heap} {z TI TO i1 i2 t1 t2 : Addr} {k : Nat} {xs ys : Array Value} (Z : ZT h z TI TO i1 i2 t1 t2 k xs ys) (up : ∀ b o, h.get? b = some o → h'.get? b = some o) : ZT h' z TI TO i1 i2 t1 t2 k xs ys := by
  obtain ⟨D, ⟨f0, f1, hz, hf⟩, hTI, ⟨a, b, hTO⟩, h1, h2, hl1, hl2⟩ := Z
  have hf' : f0 = .none ∨ (f1 = .bool true ∨ f1 = .bool false) ∧ ∃ T o, f0 = rawInt (T : Nat) ∧ h'.get? T = some o := by
    rcases hf with hf | ⟨a, T, o, e, q⟩
    · exact .inl hf
    · exact .inr ⟨a, T, o, e, up _ _ q⟩
  refine ⟨D, ⟨f0, f1, up _ _ hz, hf'⟩, up _ _ hTI, ⟨a, b, up _ _ hTO⟩, ?_, ?_, ?_, ?_⟩
  · obtain ⟨o, e, r⟩ := h1; exact ⟨o, up _ _ e, r⟩
  · obtain ⟨o, e, r⟩ := h2; exact ⟨o, up _ _ e, r⟩
  · obtain ⟨o, e, r⟩ := hl1; exact ⟨o, up _ _ e, r⟩
  · obtain ⟨o, e, r⟩ := hl2; exact ⟨o, up _ _ e, r⟩
noncomputable def PA (h : Heap) (xs ys : Array Value) (base : Nat) (acc : Array Value) (k : Nat) : Prop :=
  acc.size = k ∧ ∀ j, j < k → ∃ T x y, acc[j]? = some (.ref T) ∧ xs[j]? = some x ∧ ys[j]? = some y ∧ IsPair h T x y ∧ base ≤ T
theorem zipT_loop {R : Result → Shared → Prop} {z TI TO i1 i2 t1 t2 : Addr} {xs ys : Array Value} (hh : A.handled = none) (hn : xs.size = ys.size) (hl : xs.size ≤ 60000) (S : Addr) (base : Nat)
    (n : S ≠ z ∧ S ≠ TI ∧ S ≠ TO ∧ S ≠ i1 ∧ S ≠ i2 ∧ S ≠ t1 ∧ S ≠ t2) (hb : S < base ∧ z < base ∧ TO < base ∧ i1 < base ∧ i2 < base) :
    ∀ (m k : Nat) (s : Shared) (acc : Array Value) (c : Nat), xs.size - k = m → k ≤ xs.size → ZT s.heap z TI TO i1 i2 t1 t2 k xs ys → s.heap.get? S = some (listOf acc c) → PA s.heap xs ys base acc k → base ≤ s.heap.objs.size →
      (∀ h' acc' c', (∀ b o, b ≠ S → b ≠ z → b ≠ TO → b ≠ i1 → b ≠ i2 → s.heap.get? b = some o → h'.get? b = some o) → h'.get? S = some (listOf acc' c') → PA h' xs ys base acc' xs.size → R (.ok (.ret .none)) { s with heap := h' }) →
      codeAny (model prog w) A (.builtin "list.extend.loop" ⟨[.ref S, .ref z, .none], []⟩) R s := by
  obtain ⟨n1, n2, n3, n4, n5, n6, n7⟩ := n
  obtain ⟨b0, b1, b2, b3, b4⟩ := hb
  intro m
  induction m with
  | zero =>
    intro k s acc c hm hk Z hS P hbs hR
    have kx := Nat.sub_eq_zero_iff_le.mp hm
    have hx : xs[k]? = none := Array.getElem?_eq_none_iff.mpr kx
    have ek : k = xs.size := Nat.le_antisymm hk kx
    refine codeAny_builtin F.entry_extend_loop ?_
    rw [Around.under_plainId F.plain_extend_loop _]
    show wpAny _ A.in1 (pyNext (.ref z) >>= _) _ _ s
    refine wpAny_bind (pyNext_zipT_end (A := A.in1) hh Z hx fun h' kk => ?_)
    refine wpAny_pure (hR h' acc c (fun b o _ c2 _ c4 _ e => kk b o c2 c4 e) (kk _ _ n1 n4 hS) ⟨P.1.trans ek, fun j hj => ?_⟩)
    obtain ⟨T, x, y, e1, e2, e3, e4, e5⟩ := P.2 j (ek ▸ hj)
    exact ⟨T, x, y, e1, e2, e3, kk _ _ (far b1 e5) (far b3 e5) e4, e5⟩
  | succ m ih =>
    intro k s acc c hm hk Z hS P hbs hR
    have lt : k < xs.size := Nat.lt_of_sub_eq_succ hm
    have hx : xs[k]? = some xs[k] := Array.getElem?_eq_getElem lt
    have hy : ys[k]? = some (ys[k]'(hn ▸ lt)) := Array.getElem?_eq_getElem (hn ▸ lt)
    refine codeAny_builtin F.entry_extend_loop ?_
    rw [Around.under_plainId F.plain_extend_loop _]
    show wpAny _ A.in1 (pyNext (.ref z) >>= _) _ _ s
    refine wpAny_bind (pyNext_zipT_item (A := A.in1) Z hx hy fun h' Z' hT hs kk => ?_)
    have hS' := kk _ _ n1 n3 n4 n5 hS
    show wpAny _ A.in1 (updateSeq S (·.push (.ref s.heap.objs.size)) >>= _) _ _ _
    obtain ⟨c2, e2⟩ := mapSeq_exact (f := (·.push (.ref s.heap.objs.size))) (its := acc) (n := c)
    have hS2 : (h'.update S (Obj.mapSeq (·.push (.ref s.heap.objs.size)))).get? S = some (listOf (acc.push (.ref s.heap.objs.size)) c2) := by rw [Heap.get?_update_self _ hS' rfl, e2]
    have sb := Heap.SameBut.update h' S (Obj.mapSeq (·.push (.ref s.heap.objs.size)))
    have sT : s.heap.objs.size ≠ S := far b0 hbs
    refine wpAny_bind (wpAny_updateSeq hS' rfl (wpAny_pure ⟨plainId_quiet F.plain_extend_loop _, ih (k + 1) _ (acc.push (.ref s.heap.objs.size)) c2 (by rw [Nat.sub_add_eq, hm]; rfl) lt (Z'.but sb ⟨_, hS2⟩ ⟨n1, n2, n3, n4, n5, n6, n7⟩) hS2 ⟨by rw [Array.size_push, P.1], fun j hj => ?_⟩ ?_ fun h'' acc' c' kk' hS'' P' => ?_⟩) ?_ ?_)
    · by_cases q : j = k
      · subst q
        refine ⟨s.heap.objs.size, _, _, ?_, hx, hy, (sb.2 _ sT).trans hT, hbs⟩
        rw [← P.1, Array.getElem?_push_size]
      · obtain ⟨T, x, y, e1, e2, e3, e4, e5⟩ := P.2 j (Nat.lt_of_le_of_ne (Nat.le_of_lt_succ hj) q)
        have : acc.size = k := P.1
        refine ⟨T, x, y, ?_, e2, e3, (sb.2 _ (far b0 e5)).trans (kk _ _ (far b1 e5) (far b2 e5) (far b3 e5) (far b4 e5) e4), e5⟩
        rw [Array.getElem?_push, if_neg (fun z => q (z.trans this))]; exact e1
    · show base ≤ (h'.update S _).objs.size
      rw [sb.1, hs]; exact Nat.le_succ_of_le hbs
    · exact hR h'' acc' c' (fun b o c1 c2 c3 c4 c5 e => kk' b o c1 c2 c3 c4 c5 ((sb.2 b c1).trans (kk b o c2 c3 c4 c5 e))) hS'' P'
    · rw [P.1, sizeLine_eq]; exact Nat.le_trans hk (Nat.le_trans hl (by decide))
    · show (acc.push _).size ≤ sizeLine + 1
      rw [Array.size_push, P.1, sizeLine_eq]; exact Nat.succ_le_succ (Nat.le_trans hk (Nat.le_trans hl (by decide)))
theorem call_list_zipT {Q : Value → Shared → Prop} {z TI TO i1 i2 t1 t2 : Addr} {xs ys : Array Value} (hh : A.handled = none) (Z : ZT s.heap z TI TO i1 i2 t1 t2 0 xs ys) (hz0 : ZipG s.heap z TI TO .none (.bool false)) (hn : xs.size = ys.size) (hl : xs.size ≤ 60000)
    (hQ : ∀ h' acc n, (∀ b o, b ≠ z → b ≠ TO → b ≠ i1 → b ≠ i2 → s.heap.get? b = some o → h'.get? b = some o) → h'.get? s.heap.objs.size = some (listOf acc n) → PA h' xs ys (s.heap.objs.size + 1) acc xs.size → Q (.ref s.heap.objs.size) { s with heap := h' }) :
    wpAny (model prog w) A (call (.type "list") [.ref z]) Q E s := by
  refine callType_codes (Q₁ := fun obj s₁ => obj = .ref s.heap.objs.size ∧ s₁ = { s with heap := s.heap.push { cls := .type "list", data := .seq #[] } }) F.called_list (F.typeCall_list_1 _) F.entry_list_init
    (code_list_new _ ⟨rfl, rfl⟩) fun obj s₁ h₁ => ?_
  obtain ⟨rfl, rfl⟩ := h₁
  have hS : (s.heap.push { cls := .type "list", data := .seq #[] }).get? s.heap.objs.size = some { cls := .type "list", data := .seq #[] } := Heap.get?_push_size _ rfl
  refine ⟨⟨_, hS, rfl⟩, F.args_list_init_2 _ _, ?_⟩
  generalize hSS : s.heap.objs.size = S at *
  have lt : ∀ {b : Addr} {o : Obj}, s.heap.get? b = some o → b < S := fun e => by rw [← hSS]; exact Heap.lt_size e
  obtain ⟨f0, f1, gz, hf⟩ := Z.z
  obtain ⟨ta, tb, gO⟩ := Z.O
  have z0 := lt gz
  have z1 := lt Z.I
  have z2 := lt gO
  have z3 : i1 < S := by obtain ⟨o, e, _⟩ := Z.a1; exact lt e
  have z4 : i2 < S := by obtain ⟨o, e, _⟩ := Z.a2; exact lt e
  have z5 : t1 < S := by obtain ⟨o, e, _⟩ := Z.l1; exact lt e
  have z6 : t2 < S := by obtain ⟨o, e, _⟩ := Z.l2; exact lt e
  show wpAny _ _ (do let old ← Builtin.List.listItems (.ref S); Builtin.List.listUpdate (.ref S) (fun _ => #[]); letGo old.toList.reverse; Builtin.List.listExtendWith (.ref S) (.ref z) .none) _ _ _
  refine wpAny_bind ?_
  unfold Builtin.List.listItems
  refine wpAny_bind (wpAny_seqItems hS rfl (wpAny_pure ?_))
  show wpAny _ _ (updateSeq S (fun _ => #[]) >>= fun _ => letGo (#[] : Array Value).toList.reverse >>= fun _ => Builtin.List.listExtendWith (.ref S) (.ref z) .none) _ _ _
  refine wpAny_bind (wpAny_updateSeq hS rfl ?_)
  have hS₂ := Heap.get?_update_self (Obj.mapSeq (fun _ => (#[] : Array Value))) hS rfl
  have oth : ∀ b o, s.heap.get? b = some o → ((s.heap.push { cls := .type "list", data := .seq #[] }).update S (Obj.mapSeq (fun _ => (#[] : Array Value)))).get? b = some o :=
    fun b o e => (Heap.get?_update_other _ _ (Nat.ne_of_gt (lt e))).trans (Heap.get?_push_of_some _ e)
  have hsz2 : ((s.heap.push { cls := .type "list", data := .seq #[] }).update S (Obj.mapSeq (fun _ => (#[] : Array Value)))).objs.size = S + 1 := by rw [Heap.size_update, Heap.size_push, hSS]
  generalize (s.heap.push { cls := .type "list", data := .seq #[] }).update S (Obj.mapSeq (fun _ => (#[] : Array Value))) = hA at hS₂ oth hsz2 ⊢
  clear hS
  refine wpAny_bind (wpAny_letGo ?_)
  unfold Builtin.List.listExtendWith
  refine wpAny_bind (wpAny_typeOf (T := "zip") ⟨_, oth _ _ hz0, rfl⟩ ?_)
  have h1 : Builtin.List.listSameRef (.ref S) (.ref z) = false := by simp [Builtin.List.listSameRef, Nat.ne_of_gt z0]
  have h2 : (Value.type "zip" == Value.type "list") = false := by decide
  have h3 : (Value.type "zip" == Value.type "tuple") = false := by decide
  simp only [h1, h2, h3, Bool.or_false, Bool.false_eq_true, if_false]
  refine wpAny_bind (wpAny_pyIter_zip (oth _ _ hz0) ?_)
  refine wpAny_bind (wpAny_holding (hint_zip ⟨_, oth _ _ hz0, rfl⟩ ?_))
  refine wpAny_ite_split (fun _ => ?_) (fun hab => absurd rfl hab)
  refine wpAny_bind (wpAny_rule ?_)
  refine wpAny_bind ?_
  show wpAny _ _ (updateSeq S (·.push .none) >>= fun _ => updateSeq S (·.pop)) _ _ _
  refine wpAny_bind (wpAny_updateSeq hS₂ rfl ?_)
  obtain ⟨c3, hS₃⟩ : ∃ c, (hA.update S (Obj.mapSeq (·.push Value.none))).get? S = some (listOf #[.none] c) := ⟨_, Heap.get?_update_self (Obj.mapSeq (·.push Value.none)) hS₂ rfl⟩
  have sb3 := Heap.SameBut.update hA S (Obj.mapSeq (·.push Value.none))
  generalize hA.update S (Obj.mapSeq (·.push Value.none)) = hB at hS₃ sb3 ⊢
  refine wpAny_updateSeq (hz := by seq_fits) hS₃ rfl ?_
  obtain ⟨c4, hS₄⟩ : ∃ c, (hB.update S (Obj.mapSeq (·.pop))).get? S = some (listOf #[] c) := ⟨_, Heap.get?_update_self (Obj.mapSeq (·.pop)) hS₃ rfl⟩
  have sb4 := Heap.SameBut.update hB S (Obj.mapSeq (·.pop))
  generalize hB.update S (Obj.mapSeq (·.pop)) = hC at hS₄ sb4 ⊢
  have up : ∀ b o, s.heap.get? b = some o → hC.get? b = some o := fun b o e =>
    (sb4.2 b (Nat.ne_of_lt (lt e))).trans ((sb3.2 b (Nat.ne_of_lt (lt e))).trans (oth b o e))
  have ne : ∀ {b : Addr}, b < S → S ≠ b := fun h => Nat.ne_of_gt h
  have l1 : ∀ {b : Addr}, b < S → b < S + 1 := fun h => Nat.lt_succ_of_lt h
  have Z4 := Z.keep up
  have lp := zipT_loop (prog := prog) (w := w) (A := A.in1) (R := fun r s' => r = .ok (.ret .none) ∧ Q (.ref S) s') (show A.in1.handled = none from hh) hn hl S (S + 1) ⟨ne z0, ne z1, ne z2, ne z3, ne z4, ne z5, ne z6⟩ ⟨Nat.lt_succ_self S, l1 z0, l1 z2, l1 z3, l1 z4⟩ xs.size 0 { s with heap := hC } #[] c4 rfl (Nat.zero_le _) Z4 hS₄ ⟨rfl, fun j hj => absurd hj (Nat.not_lt_zero _)⟩
    (by show S + 1 ≤ hC.objs.size; rw [sb4.1, sb3.1, hsz2]; exact Nat.le_refl _) fun h' acc' c' kk g P => ⟨rfl, hQ h' acc' c' (fun b o c1 c2 c3 c4 e => kk b o (Nat.ne_of_lt (lt e)) c1 c2 c3 c4 (up b o e)) g P⟩
  refine wpAny_pure ⟨plainId_quiet F.plain_extend_loop _, ?_⟩
  exact codeAny_mono lp fun r s' ⟨e, q⟩ => by subst e; exact ⟨rfl, q⟩
end
theorem zipT_rep {h : Heap} {σ : List Addr} {As Bs : List AV} {xs ys vs : List Value} (ra : RepVs h σ As xs) (rb : RepVs h σ Bs ys) (hv : vs.length = xs.length) (hl : xs.length = ys.length)
    (hp : ∀ j, j < xs.length → ∃ T x y, vs[j]? = some (.ref T) ∧ xs[j]? = some x ∧ ys[j]? = some y ∧ IsPair h T x y ∧ T ∉ σ) : RepVs h σ (zipT As Bs) vs := by
  induction As generalizing Bs xs ys vs with
  | nil =>
    cases ra using RepVs.nilE
    cases vs with
    | nil => cases Bs <;> exact .nil
    | cons _ _ => cases hv
  | cons V Vs ih =>
    cases ra using RepVs.consE with | @mk v us a ra =>
    cases Bs with
    | nil => cases rb using RepVs.nilE; cases hl
    | cons W Ws =>
      cases rb using RepVs.consE with | @mk u ws b rb =>
      cases vs with
      | nil => cases hv
      | cons p ps =>
        obtain ⟨T, x, y, e1, e2, e3, e4, e5⟩ := hp 0 (Nat.succ_pos _)
        cases e1; cases e2; cases e3
        exact .cons (.tup ⟨_, e4, rfl, 0, rfl⟩ e5 (.cons a (.cons b .nil))) (ih ra rb (Nat.succ.inj hv) (Nat.succ.inj hl) fun j hj => hp (j + 1) (Nat.succ_lt_succ hj))
theorem boot_list : bootBuiltins "list" = some (.type "list") := by decide +kernel
section
variable {G : Gd} {P : Pg} {d : Nat} {sc : Scope} {ρ : List (Str × Nat)}
theorem listZip_inv {vs : List AV} {H : AH} {o : AV × AH} (e : listZipF vs H = some o) : ∃ as bs, vs = [.tup as, .tup bs] ∧ (as.length = bs.length ∧ as.length ≤ 60000) ∧ some (.obj H.length, H ++ [.list (zipT as bs)]) = some o := by
  rcases vs with _ | ⟨x, _ | ⟨y, _ | ⟨z, l⟩⟩⟩
  · exact nS e
  · cases x <;> exact nS e
  · cases x with
    | tup as =>
      cases y with
      | tup bs => obtain ⟨hl, e⟩ := if_some1 e; exact ⟨as, bs, rfl, hl, e⟩
      | _ => exact nS e
    | _ => exact nS e
  · cases x with
    | tup as => cases y <;> exact nS e
    | _ => exact nS e
theorem ESim.listZip {e1 e2 : Expr} {c : C} {p1 p2 p3 pos : Pos} (ha : Args G P d sc ρ [e1, e2] c) (hk : sc.names.lookup ("list" : Str) = some .globalImplicit) (hk2 : sc.names.lookup ("zip" : Str) = some .globalImplicit) :
    ESim G P d sc ρ (.Call (.Name "list" p1) [.Call (.Name "zip" p2) [e1, e2] [] p3] [] pos) (.prim .listZip c) := by
  intro n A env s σ H loc V loc' H' hr S Q E h
  obtain ⟨n, hr⟩ := run_step hr
  obtain ⟨vs, l, H1, V1, H2, h1, q, hr⟩ := prim_inv hr
  replace h := EP.of h hr
  obtain ⟨as, bs, rfl, hl, q⟩ := listZip_inv q
  replace h := h.of2 q
  refine wpAny_Call_NameR (name_blt S hk (S.ok.gbl _ (by decide)) (by decide) boot_list (by decide) ?_)
  suffices z : wpAny (model G.prog G.w) A (spliced (backTo pos (starEach [.Call (.Name "zip" p2) [e1, e2] [] p3] env))) (fun vs s' => True ∧ wpAny (model G.prog G.w) A (call (.type "list") ([] ++ vs)) Q E s') E s from callWith_of rfl keep_type (evalArgs_plain z)
  refine wpAny_items_cons ?_ rfl
  refine wpAny_Call_NameR (name_blt S hk2 (S.ok.gbl _ (by decide)) (by decide) boot_zip (by decide) ?_)
  refine ha.run h1 S keep_type fun Vs e => ?_
  cases e
  intro vv h' tk σ' x R rs _
  refine ⟨trivial, ?_⟩
  cases rs using RepVs.consE with | mk r rs =>
  cases rs using RepVs.consE with | mk r2 rs =>
  cases rs using RepVs.nilE
  cases r using RepV.tupE with | @mk t1 xs ht1 nt1 rs1 =>
  cases r2 using RepV.tupE with | @mk t2 ys ht2 nt2 rs2 =>
  have l1 := rs1.length
  have l2 := rs2.length
  rw [Array.length_toList] at l1 l2
  refine call_zip_T ht1 ht2 fun h3 gz Z hs kk => wpAny_items_nil ⟨trivial, ?_⟩
  have ge : ∀ {b : Addr} {o : Obj} (j : Nat), h'.get? b = some o → b ≠ h'.objs.size + j := fun j e => Nat.ne_of_lt (Nat.lt_add_right j (Heap.lt_size e))
  refine call_list_zipT S.room.1 Z gz (l1.trans (hl.1.trans l2.symm)) (l1 ▸ hl.2) fun h4 acc m kk4 g4 P4 => ?_
  have up : ∀ b o, h'.get? b = some o → h4.get? b = some o := fun b o e => kk4 b o (ge 4 e) (ge 3 e) (ge 0 e) (ge 1 e) (kk b o e)
  have szR : h'.objs.size ≤ h3.objs.size := by rw [hs]; exact Nat.le_add_right _ _
  have fr : h'.get? h3.objs.size = Option.none := by
    cases e : h'.get? h3.objs.size with
    | none => rfl
    | some o => exact absurd (Heap.lt_size e) (Nat.not_lt.mpr szR)
  have x4 : Ext h' h4 σ' (σ' ++ [h3.objs.size]) := ⟨⟨_, rfl, fun b m => by rw [List.mem_singleton.mp m]; exact fr⟩, fun b o e _ => up b o e, fun _ o e => ⟨o, up _ _ e⟩⟩
  refine h _ h4 tk _ (x.trans x4) (R.add up fr (R.offge szR) (sz_of S.ok R up) (.list g4 ?_)) (.obj R.last)
  refine zipT_rep (rs1.ext x4 R) (rs2.ext x4 R) (by rw [Array.length_toList, Array.length_toList, P4.1]) (by rw [Array.length_toList, Array.length_toList]; exact l1.trans (hl.1.trans l2.symm)) fun j hj => ?_
  rw [Array.length_toList] at hj
  obtain ⟨T, x, y, e1, e2, e3, e4, e5⟩ := P4.2 j hj
  refine ⟨T, x, y, by rw [Array.getElem?_toList]; exact e1, by rw [Array.getElem?_toList]; exact e2, by rw [Array.getElem?_toList]; exact e3, e4, fun m => ?_⟩
  rcases List.mem_append.mp m with m | m
  · exact absurd (R.lt m) (Nat.not_lt.mpr (Nat.le_trans szR (Nat.le_of_succ_le e5)))
  · rw [List.mem_singleton.mp m] at e5; exact absurd e5 (Nat.not_succ_le_self _)
end
end Mine
end

section
open PySem PySem.W PyProof.Rows PySem.Calls PySem.Spec PySem.SeqAt
namespace Mine
theorem entry_upd_loop : entryFor table "dict.update.loop" = some Builtin.«dict.update.loop» := entryFor_of_tree (by kernel_rfl)
theorem plain_upd_loop : plainId "dict.update.loop" = true := by decide +kernel
theorem list_keys_miss : typeLookup (.type "list") "keys" = pure none := by rw [typeLookup_type, builtinLookup_eq_fast]; kernel_rfl
section
variable {prog : Program} {w : World} {A : Around} {E : Value → Shared → Prop} {s : Shared}
theorem no_keys {a : Addr} {xs : Array Value} {k : Nat} {Q : Option Value → Shared → Prop} (hx : s.heap.get? a = some (listOf xs k)) (hA : A.handled = none)
    (h : ∀ h' tk, (∀ b o, s.heap.get? b = some o → h'.get? b = some o) → Q none { s with heap := h', toks := tk }) : wpAny (model prog w) A (getAttr? (.ref a) "keys") Q E s := by
  obtain ⟨hp, g, d, tk, os⟩ := s
  have hT : ∀ tk', (⟨hp, g, d, tk', os⟩ : Shared).TypeIs (.ref a) "list" := fun _ => ⟨_, hx, rfl⟩
  have f1 := sub_AttributeError
  have f3 := PySem.F.slot_list_getattribute.lookup
  have f4 := PySem.F.slot_list_getattribute.bind (.ref a)
  have f5 := am_list_getattr_none
  unfold getAttr? getAttrBy? getAttrBy
  repeat (any_goals (first | assumption | exact hT _ | ((with_reducible show wpAny _ _ (call (Value.builtin "list.__getattribute__") _ _) _ _ _); refine call_meets PySem.F.slot_list_getattribute (hT _) am_entry_list_getattribute (PySem.F.args_list_getattribute_2 _ _) (meets_getattribute_miss_list a xs k #[] _ _ list_keys_miss (by decide +kernel)) ⟨hx, hA, fun h' tk' e hx' => ?_⟩) | wp_step))
  obtain ⟨t', u', he⟩ := hx'.there
  show wpAny _ _ (getattributeRaised _ _ _ _ _ _ _) _ _ _
  unfold getattributeRaised
  repeat (any_goals (first | assumption | wp_step))
  exact h _ _ hx'.keeps
end
section
variable {G : Gd} {P : Pg} {d : Nat} {sc : Scope} {ρ : List (Str × Nat)} {A : Around} {h0 : Heap} {σ : List Addr}
theorem dOf_cons {V : AV} {r : List AV} {acc out : List (AV × AV)} (h : dOfList (V :: r) acc = some out) : ∃ k v, V = .tup [.str k, v] ∧ dOfList r (dPut (.str k) v acc) = some out := by
  cases V with
  | tup vs =>
    rcases vs with _ | ⟨x, _ | ⟨y, _ | ⟨z, l⟩⟩⟩
    · exact nS h
    · cases x <;> exact nS h
    · cases x with
      | str k => exact ⟨k, y, rfl, h⟩
      | _ => exact nS h
    · cases x <;> exact nS h
  | _ => exact nS h
inductive PairT (h0 : Heap) (σ : List Addr) (x : Str) (W : AV) : Value → Prop
  | mk {T : Addr} {its : Array Value} {n : Nat} {t : Tok} {w : Value} {o : Obj} (g : h0.get? T = some o) (c : o.cls = .type "tuple") (dt : o.data = .seq its n) (hi : its.toList = [.str x t, w]) (q : RepV h0 σ W w) (kx : PyData.strOk x = true) : PairT h0 σ x W (.ref T)
theorem pair_of {x : Str} {W : AV} {u : Value} (r : RepV h0 σ (.tup [.str x, W]) u) : PairT h0 σ x W u := by
  cases r using RepV.tupE with | @mk T its hT nT rs =>
  obtain ⟨o, g, c, n, dt⟩ := hT
  generalize hi : its.toList = l at rs
  cases rs using RepVs.consE with | mk q0 rs =>
  cases rs using RepVs.consE with | mk q1 rs =>
  cases rs using RepVs.nilE
  cases q0 using RepV.strE with | mk t kx => exact .mk g c dt hi q1 kx
theorem isList_keep {h h' : Heap} {l : Addr} {items : Array Value} (hl : h.IsList l items) (kk : ∀ b o, h.get? b = some o → h'.get? b = some o) : h'.IsList l items := let ⟨o, e, r⟩ := hl; ⟨o, kk _ _ e, r⟩
theorem dictOf_keep {h h' : Heap} {D : Addr} {vs : List (Str × Value)} (hD : h.DictOf (PySem.strKind G.prog G.w) D vs) (kk : ∀ o, h.get? D = some o → h'.get? D = some o) : h'.DictOf (PySem.strKind G.prog G.w) D vs := let ⟨o, es, ep, g, r⟩ := hD; ⟨o, es, ep, kk _ g, r⟩
theorem dict_end {l D it : Addr} {items : Array Value} {k : Nat} {s : Shared} {R : Result → Shared → Prop} (hh : A.handled = none) (hit : s.heap.IsListIter it l k) (hl : s.heap.IsList l items) (hx : items[k]? = none) (K : ∀ h', Heap.ExtBut it s.heap h' → R (.ok (.ret .none)) { s with heap := h' }) :
    codeAny (model G.prog G.w) A (.builtin "dict.update.loop" ⟨[.ref D, .ref it, .int (k : Nat) 0, .none], []⟩) R s := by
  refine codeAny_builtin entry_upd_loop ?_
  rw [Around.under_plainId plain_upd_loop _]
  show wpAny _ A.in1 (pyNext (.ref it) >>= _) _ _ s
  refine wpAny_bind (wpAny_pyNext_list_end (A := A.in1) hh hit hl hx fun h' he => ?_)
  show wpAny _ _ (Builtin.Dict.addKeywords D [] >>= _) _ _ _
  exact wpAny_bind (wpAny_pure (wpAny_pure (K h' he)))
theorem dict_turn {l D it : Addr} {items : Array Value} {k : Nat} {s : Shared} {R : Result → Shared → Prop} {x : Str} {W : AV} {u : Value} {vs : List (Str × Value)} (hit : s.heap.IsListIter it l k) (hl : s.heap.IsList l items) (hx : items[k]? = some u) (DI : it ≠ D) (hD : s.heap.DictOf (PySem.strKind G.prog G.w) D vs) (hz : vs.length ≤ sizeLine) (p : PairT h0 σ x W u) (live : ∀ {b : Addr} {o : Obj}, h0.get? b = some o → b ≠ D ∧ b ≠ it) (kk : ∀ b o, h0.get? b = some o → s.heap.get? b = some o)
    (K : ∀ h' w, RepV h0 σ W w → PyData.strOk x = true → (∀ b o, h0.get? b = some o → h'.get? b = some o) → h'.IsListIter it l (k + 1) → h'.DictOf (PySem.strKind G.prog G.w) D (stored vs x w) → codeAny (model G.prog G.w) A (.builtin "dict.update.loop" ⟨[.ref D, .ref it, .int (k + 1 : Nat) 0, .none], []⟩) R { s with heap := h', toks := s.toks + 1 }) :
    codeAny (model G.prog G.w) A (.builtin "dict.update.loop" ⟨[.ref D, .ref it, .int (k : Nat) 0, .none], []⟩) R s := by
  cases p with | @mk T its n t w oT gT cT dT hi q kx =>
  refine codeAny_builtin entry_upd_loop ?_
  rw [Around.under_plainId plain_upd_loop _]
  show wpAny _ A.in1 (pyNext (.ref it) >>= _) _ _ s
  refine wpAny_bind (wpAny_pyNext_list_item (A := A.in1) hit hl hx fun h' hit' hs' => ?_)
  have k1 : ∀ b o, h0.get? b = some o → h'.get? b = some o := fun b o e => (hs'.2 b (live e).2).trans (kk b o e)
  refine wpAny_bind (wpAny_holding ?_)
  refine wpAny_bind (wpAny_tryCatch ?_)
  unfold Builtin.Dict.pairItems
  refine wpAny_bind (wpAny_typeOf (T := "tuple") ⟨oT, k1 _ _ gT, cT⟩ ?_)
  rw [if_pos (by decide)]
  refine wpAny_bind (wpAny_seqItems (k1 _ _ gT) dT ?_)
  refine wpAny_pure ?_
  show wpAny _ _ (match its.toList with | [k, v] => _ | l => _) _ _ _
  rw [hi]
  refine wpAny_holding (wpAny_dictSet_pairs (hsz := hz) (strKind_is _ _ x t) (dictOf_keep hD fun o e => (hs'.2 _ DI.symm).trans e) fun h'' hD'' hs'' => ?_)
  refine wpAny_pure ⟨plainId_quiet plain_upd_loop _, K h'' w q kx (fun b o e => (hs''.2 b (live e).1).trans (k1 b o e)) ?_ hD''⟩
  obtain ⟨o, e, r⟩ := hit'
  exact ⟨o, (hs''.2 _ DI).trans e, r⟩
theorem stored_len (vs : List (Str × Value)) (x : Str) (w : Value) : (stored vs x w).length ≤ vs.length + 1 := by
  unfold stored
  split <;> simp
theorem dict_loop {l D it : Addr} {items : Array Value} {L : List AV} {out : List (AV × AV)} {R : Result → Shared → Prop} (hh : A.handled = none) (rl : RepVs h0 σ L items.toList) (fD : h0.get? D = none) (fI : h0.get? it = none) (DI : it ≠ D) (hl : h0.IsList l items) (hz : L.length ≤ 60000) :
    ∀ (m k : Nat) (s : Shared) (ks : List (Str × AV)) (vs : List (Str × Value)), L.length - k = m → k ≤ L.length → (∀ b o, h0.get? b = some o → s.heap.get? b = some o) → s.heap.IsListIter it l k → s.heap.DictOf (PySem.strKind G.prog G.w) D vs → PRep h0 σ ks vs →
      (∀ p ∈ ks, PyData.strOk p.1 = true) → ks.length ≤ k → dOfList (L.drop k) (sMap ks) = some out →
      (∀ h' tk ks' vs', (∀ b o, h0.get? b = some o → h'.get? b = some o) → h'.DictOf (PySem.strKind G.prog G.w) D vs' → PRep h0 σ ks' vs' → (∀ p ∈ ks', PyData.strOk p.1 = true) → out = sMap ks' → R (.ok (.ret .none)) { s with heap := h', toks := tk }) →
      codeAny (model G.prog G.w) A (.builtin "dict.update.loop" ⟨[.ref D, .ref it, .int (k : Nat) 0, .none], []⟩) R s := by
  have le := rl.length
  rw [Array.length_toList] at le
  have live : ∀ {b : Addr} {o : Obj}, h0.get? b = some o → b ≠ D ∧ b ≠ it := fun e => ⟨(fun z => nS (fD.symm.trans (z ▸ e))), (fun z => nS (fI.symm.trans (z ▸ e)))⟩
  intro m
  induction m with
  | zero =>
    intro k s ks vs hm hk kk hit hD rp ok hlen ho hR
    have ek : L.length ≤ k := Nat.sub_eq_zero_iff_le.mp hm
    refine dict_end hh hit (isList_keep hl kk) (Array.getElem?_eq_none_iff.mpr (le ▸ ek)) fun h' he => ?_
    rw [List.drop_eq_nil_of_le ek] at ho
    exact hR h' s.toks ks vs (fun b o e => he b o (live e).2 (kk b o e)) (dictOf_keep hD fun o e => he _ _ DI.symm e) rp ok (Option.some.inj ho).symm
  | succ m ih =>
    intro k s ks vs hm hk kk hit hD rp ok hlen ho hR
    have hkl : k < L.length := Nat.lt_of_sub_eq_succ hm
    rw [List.drop_eq_getElem_cons hkl] at ho
    obtain ⟨x, W, eV, ho2⟩ := dOf_cons ho
    obtain ⟨u, ev, rv⟩ := rl.get ((List.getElem?_eq_getElem hkl).trans (congrArg some eV))
    rw [Array.getElem?_toList] at ev
    have nd : (vs.map (·.1)).Nodup := by obtain ⟨o, es, ep, g, x, dd, _, _, n⟩ := hD; exact n
    have hzl : vs.length ≤ sizeLine := by rw [rp.keysLen, sizeLine_eq]; exact Nat.le_trans hlen (Nat.le_trans hk (Nat.le_trans hz (by decide)))
    refine dict_turn hit (isList_keep hl kk) ev DI hD hzl (pair_of rv) live kk fun h' w q kx k2 hit' hD' => ?_
    obtain ⟨ks', e1, rp', e2⟩ := put_P AV.str enc_str x q rp nd
    have lk : ks'.length ≤ k + 1 := by
      rw [← rp'.keysLen]
      exact Nat.le_trans (stored_len vs x w) (Nat.succ_le_succ (rp.keysLen ▸ hlen))
    rw [show dPut (.str x) W (sMap ks) = sMap ks' from e1] at ho2
    refine ih (k + 1) _ ks' _ (by rw [Nat.sub_add_eq, hm]; rfl) hkl k2 hit' hD' rp' (fun p m => ?_) lk ho2 fun h3 tk ks3 vs3 a1 a2 a3 a4 a5 => hR h3 tk ks3 vs3 a1 a2 a3 a4 a5
    rcases e2 p m with q | ⟨q, m, q2⟩
    · rw [q]; exact kx
    · rw [← q2]; exact ok q m
theorem PRep.toHeap {K : Type} {h' : Heap} {σ' : List Addr} {ks : List (K × AV)} {vs : List (K × Value)} (r : PRep h0 σ ks vs) (x : Ext h0 h' σ σ') : PRep h' σ' ks vs := r.mono x.tup fun _ _ => x.at
theorem dictOf_inv {vs : List AV} {H : AH} {o : AV × AH} (e : dictOfF vs H = some o) : ∃ i L kvs, vs = [.obj i] ∧ H[i]? = some (.list L) ∧ L.length ≤ 60000 ∧ dOfList L [] = some kvs ∧ some (.obj H.length, H ++ [.dict kvs]) = some o := by
  rcases vs with _ | ⟨x, _ | ⟨y, l⟩⟩
  · exact nS e
  · cases x with
    | obj i =>
      replace e : (match H[i]? with
        | some (.list l) => if l.length ≤ 60000 then (dOfList l []).map fun kvs => (AV.obj H.length, H ++ [.dict kvs]) else none
        | _ => none) = some o := e
      cases hi : H[i]? with
      | none => rw [hi] at e; exact nS e
      | some q =>
        rw [hi] at e
        cases q with
        | list L =>
          obtain ⟨hl, e⟩ := if_some1 e
          obtain ⟨kvs, e1, e2⟩ := Option.map_eq_some_iff.mp e
          exact ⟨i, L, kvs, rfl, hi, hl, e1, congrArg some e2⟩
        | _ => exact nS e
    | _ => exact nS e
  · cases x <;> exact nS e
theorem call_dictOf : CallOk G (primF .dictOf) (.type "dict") := by
  intro A d s σ H Vs vs V H' ok room R rs e Q E h
  obtain ⟨i, L, kvs, rfl, ei, hl, e1, e⟩ := dictOf_inv e
  replace h := h.of2 e
  cases rs using RepVs.consE with | mk r rs =>
  cases rs using RepVs.nilE
  cases r using RepV.objE with | @mk a ea =>
  obtain ⟨items, n, g, rl, ll⟩ := list_at R ea ei
  refine callType_codes (Q₁ := fun obj s₁ => obj = .ref s.heap.objs.size ∧ s₁ = { s with heap := s.heap.push { cls := .type "dict", data := .dict #[] } }) PySem.F.kt_called_dict (PySem.F.kt_typeCall_dict_1 _) PySem.F.entry_dict_init (kt_code_dict_new _ ⟨rfl, rfl⟩) ?_
  rintro obj s₁ ⟨rfl, rfl⟩
  have hnew : (s.heap.push { cls := .type "dict", data := .dict #[] }).DictOf (PySem.strKind G.prog G.w) s.heap.objs.size [] := Heap.DictOf.new s.heap
  have g1 : (s.heap.push { cls := .type "dict", data := .dict #[] }).get? a = some (listOf items n) := Heap.get?_push_of_some _ g
  refine ⟨hnew.typeIs, PySem.F.args_dict_init_2 _ _, ?_⟩
  unfold Builtin.«dict.__init__»
  refine wpAny_bind ?_
  unfold Builtin.Dict.selfAndRest
  refine wpAny_bind (wpAny_notOrdered_dict hnew.typeIs ?_)
  show wpAny _ _ (pure (s.heap.objs.size, [Value.ref a])) _ _ _
  refine wpAny_pure ?_
  show wpAny _ _ (Builtin.Dict.updateFrom "dict.__init__" s.heap.objs.size (.ref a) [] .none) _ _ _
  unfold Builtin.Dict.updateFrom
  refine wpAny_bind (wpAny_typeOf (T := "list") ⟨_, g1, rfl⟩ ?_)
  rw [if_pos (by decide)]
  refine wpAny_bind (no_keys g1 room.1 fun h1 tk1 k1 => ?_)
  rw [if_pos (show (none : Option Value).isNone = true from rfl)]
  refine wpAny_bind (wpAny_rule ?_)
  have D1 : h1.DictOf (PySem.strKind G.prog G.w) s.heap.objs.size [] := by obtain ⟨o, es, ep, g, r⟩ := hnew; exact ⟨o, es, ep, k1 _ _ g, r⟩
  have hl1 : h1.IsList a items := ⟨_, k1 _ _ g1, rfl, n, rfl⟩
  refine wpAny_bind (wpAny_pyIter_list hl1 ?_)
  have kk : ∀ b o, s.heap.get? b = some o → (h1.push { cls := .type "list_iterator", data := .fields #[.ref a, .int 0 0] }).get? b = some o := fun b o e => Heap.get?_push_of_some _ (k1 _ _ (Heap.get?_push_of_some _ e))
  have dl : s.heap.objs.size < h1.objs.size := by obtain ⟨o, es, ep, g, r⟩ := D1; exact Heap.lt_size g
  have fI : s.heap.get? h1.objs.size = none := by
    cases e : s.heap.get? h1.objs.size with
    | none => rfl
    | some o => exact absurd (Heap.lt_size e) (Nat.not_lt.mpr (Nat.le_of_lt dl))
  refine wpAny_pure ⟨plainId_quiet plain_upd_loop _, ?_⟩
  have hit0 : (h1.push { cls := .type "list_iterator", data := .fields #[.ref a, .int 0 0] }).IsListIter h1.objs.size a 0 := ⟨_, Heap.get?_push_size _ rfl, rfl, rfl⟩
  refine dict_loop (G := G) (A := A.in1) (h0 := s.heap) (σ := σ) (L := L) (out := kvs) (show A.in1.handled = none from room.1) rl (get?_size _) fI (Nat.ne_of_gt dl) ⟨_, g, rfl, n, rfl⟩ hl L.length 0 { s with heap := h1.push { cls := .type "list_iterator", data := .fields #[.ref a, .int 0 0] }, toks := tk1 } [] [] (by omega) (Nat.zero_le _) kk hit0 ?_ .nil (fun _ m => nomatch m) (Nat.zero_le _) e1 ?_
  · obtain ⟨o, es, ep, g, r⟩ := D1; exact ⟨o, es, ep, Heap.get?_push_of_some _ g, r⟩
  · rintro h' tk ks' vs' k' hD' rp' ok' rfl
    refine ⟨rfl, ?_⟩
    have x : Ext s.heap h' σ (σ ++ [s.heap.objs.size]) := ⟨⟨_, rfl, fun b m => by rw [List.mem_singleton.mp m]; exact get?_size _⟩, fun b o e _ => k' b o e, fun _ o e => ⟨o, k' _ _ e⟩⟩
    exact h _ h' tk _ x (R.add k' (get?_size _) R.sz (sz_of ok R k') (.dictS hD' (rp'.toHeap x) ok')) (.obj R.last)
end
end Mine
end

section
open PySem PySem.W PyProof.Rows PySem.Calls PySem.Spec PySem.SeqAt
namespace Mine
theorem strLt_eq (a b : Str) : strLt a b = decide (a.cps.toList < b.cps.toList) := by unfold strLt; rw [ltCps_eq]
theorem strLt_tri {a b : Str} (h1 : strLt a b = false) (h2 : strLt b a = false) : a = b := by
  rw [strLt_eq, decide_eq_false_iff_not] at h1 h2
  have e : a.cps.toList = b.cps.toList := List.le_antisymm (List.not_lt.mp h2) (List.not_lt.mp h1)
  cases a; cases b
  congr
  exact Array.toList_inj.mp e
theorem strLt_trans' {a b c : Str} (h1 : strLt b a = false) (h2 : strLt c b = false) : strLt c a = false := by
  rw [strLt_eq, decide_eq_false_iff_not] at h1 h2 ⊢
  exact List.not_lt.mpr (List.le_trans (List.not_lt.mp h1) (List.not_lt.mp h2))
theorem strLt_asymm {a b : Str} (h : strLt a b = true) : strLt b a = false := by
  rw [strLt_eq, decide_eq_true_eq] at h
  rw [strLt_eq, decide_eq_false_iff_not]
  exact List.lt_asymm h
noncomputable def Srt (l : List Str) : Prop := l.Pairwise fun a b => strLt b a = false
theorem insS_perm (x : Str) : ∀ l, (insS x l).Perm (x :: l)
  | [] => List.Perm.refl _
  | y :: ys => by
    unfold insS
    split
    · exact List.Perm.refl _
    · exact ((insS_perm x ys).cons y).trans (List.Perm.swap x y ys)
theorem sortS_perm : ∀ l, (sortS l).Perm l
  | [] => List.Perm.refl _
  | x :: xs => (insS_perm x _).trans ((sortS_perm xs).cons x)
theorem insS_srt (x : Str) : ∀ l, Srt l → Srt (insS x l)
  | [], _ => List.pairwise_singleton ..
  | y :: ys, h => by
    unfold insS
    have h1 := List.pairwise_cons.mp h
    split
    · rename_i q
      refine List.pairwise_cons.mpr ⟨fun z m => ?_, h⟩
      have a := strLt_asymm q
      rcases List.mem_cons.mp m with e | m
      · rw [e]; exact a
      · exact strLt_trans' a (h1.1 z m)
    · rename_i q
      refine List.pairwise_cons.mpr ⟨fun z m => ?_, insS_srt x ys h1.2⟩
      rcases List.mem_cons.mp ((insS_perm x ys).mem_iff.mp m) with e | m
      · rw [e]; exact Bool.eq_false_iff.mpr q
      · exact h1.1 z m
theorem sortS_srt : ∀ l, Srt (sortS l)
  | [] => List.Pairwise.nil
  | x :: xs => insS_srt x _ (sortS_srt xs)
theorem rising_srt : ∀ (p : Str) (l : List Str), risingS p l = true → Srt (p :: l)
  | p, [], _ => List.pairwise_singleton ..
  | p, x :: r, h => by
    unfold risingS at h
    rw [Bool.and_eq_true, Bool.not_eq_true'] at h
    have ih := rising_srt x r h.2
    refine List.pairwise_cons.mpr ⟨fun z m => ?_, ih⟩
    have a : strLt x p = false := h.1
    rcases List.mem_cons.mp m with e | m
    · rw [e]; exact a
    · exact strLt_trans' a ((List.pairwise_cons.mp ih).1 z m)
theorem sorted_is {l l' : List Str} (p : l'.Perm l) (s : sortedS l' = true) : l' = sortS l := by
  have h : Srt l' := by
    cases l' with
    | nil => exact List.Pairwise.nil
    | cons x r => exact rising_srt x r s
  exact List.Perm.eq_of_pairwise (le := fun a b => strLt b a = false) (fun a b _ _ h1 h2 => strLt_tri h2 h1) h (sortS_srt l) (p.trans (sortS_perm l).symm)
theorem strsAre_of : ∀ (vs : List Value) (ks : List Str), vs.length = ks.length → (∀ (i : Nat) (v : Value), vs[i]? = some v → ∃ k t, ks[i]? = some k ∧ v = .str k t) → StrsAre vs ks
  | [], [], _, _ => .nil
  | v :: vs, k :: ks, hl, h => by
    obtain ⟨k', t, e1, rfl⟩ := h 0 v rfl
    cases e1
    exact .cons _ _ (strsAre_of vs ks (by simpa using hl) fun i v e => h (i + 1) v e)
  | [], _ :: _, hl, _ => by cases hl
  | _ :: _, [], hl, _ => by cases hl
theorem keyStrs_S : ∀ (ks : List (Str × AV)), keyStrs (sMap ks) = some (ks.map (·.1))
  | [] => rfl
  | (k, v) :: r => by
    show (keyStrs (sMap r)).map (k :: ·) = _
    rw [keyStrs_S r]; rfl
theorem keyStrs_all : ∀ (kvs : List (AV × AV)) (l : List Str), keyStrs kvs = some l → (kvs.all fun e => isStrKey e.1) = true
  | [], _, _ => rfl
  | (k, v) :: r, l, h => by
    unfold keyStrs at h
    split at h
    · rename_i e; cases e
    · rename_i e; cases e
      obtain ⟨l', e1, _⟩ := Option.map_eq_some_iff.mp h
      rw [List.all_cons, keyStrs_all r l' e1]; rfl
    · exact nS h
theorem strsAre_rep {h : Heap} {σ : List Addr} : ∀ {vs : List Value} {ks : List Str}, StrsAre vs ks → (∀ k ∈ ks, PyData.strOk k = true) → RepVs h σ (ks.map .str) vs
  | _, _, .nil, _ => .nil
  | _, _, .cons y t r, h => .cons (.str y t (h y (.head _))) (strsAre_rep r fun k m => h k (.tail _ m))
section
variable {G : Gd} {P : Pg} {d : Nat} {sc : Scope} {ρ : List (Str × Nat)}
theorem boot_sorted : bootBuiltins "sorted" = some (.builtin "sorted") := by decide +kernel
theorem call_sortedD : CallOk G (primF .sortedD) (.builtin "sorted") := by
  intro A d s σ H Vs vs V H' ok room R rs e Q E h
  replace e : sortedDF Vs H = some (V, H') := e
  unfold sortedDF at e
  split at e
  · split at e
    · rename_i kvs ei
      split at e
      · rename_i ks ek
        split at e
        · rename_i hl
          cases e
          cases rs using RepVs.consE with | mk r rs =>
          cases rs using RepVs.nilE
          cases r using RepV.objE with | @mk a ea =>
          have r := R.rep _ _ _ ei ea
          have lo := low_ne R ei ea rfl
          obtain ⟨ks', vs', rfl, hD, rp, okk⟩ := dict_S r (keyStrs_all _ _ ek)
          rw [keyStrs_S] at ek
          cases ek
          obtain ⟨ep, hat⟩ := hD.dictAt
          have lk := rp.keysLen
          rw [List.length_map] at hl
          refine call_function_entry kind_sorted plain_sorted entry_sorted (args_sorted1 _) ?_
          unfold Builtin.«sorted»
          refine wpAny_bind (m := checkCount "sorted" 1 1 _) (wpAny_pure ?_)
          refine wpAny_bind (kdu_collect (A := A.in1) (kdl_dict (knd := PySem.strKind G.prog G.w) (kvs := vs') (ep := ep) lo) room.1 hat (by rw [sizeLine_eq]; omega) fun h1 tk acc hk hacc => ?_)
          have hal : acc.toList.length = vs'.length := by exact Eq.trans Array.length_toList (hacc.1)
          refine wpAny_bind (wpAny_newList ?_ (by rw [hal, sizeLine_eq]; omega))
          have hS : StrsAre acc.toList (ks'.map (·.1)) := strsAre_of _ _ (by rw [hal, List.length_map, lk]) fun i v e => by
            rw [Array.getElem?_toList] at e
            obtain ⟨k, x, hx, hk⟩ := hacc.2 i v e
            have : ∃ t, v = .str k t := by
              obtain ⟨t, e⟩ := Value.isStrOf_shape hk
              exact ⟨t, e⟩
            obtain ⟨t, rfl⟩ := this
            refine ⟨k, t, ?_, rfl⟩
            rw [List.getElem?_map]
            have key : ∀ {ks : List (Str × AV)} {vs : List (Str × Value)}, PRep s.heap σ ks vs → ∀ i : Nat, vs[i]? = some (k, x) → Option.map (fun p : Str × AV => p.1) ks[i]? = some k := by
              intro ks vs r
              induction r with
              | nil => intro i e; simp at e
              | cons _ _ ih =>
                intro i e
                cases i with
                | zero => cases e; rfl
                | succ i => exact ih i e
            exact key rp i hx
          have gL : (h1.push { cls := .type "list", data := .seq acc.toList.toArray }).get? h1.objs.size = some (seqObj "list" acc.toList.toArray 0) := Heap.get?_push_size _ rfl
          refine wpAny_bind (wpAny_holding (wpAny_call_entry slot_list_sort ⟨_, gL, rfl⟩ entry_list_sort (list_sort_treeK strKind_oneLt gL hS.keysOf (fun v₁ v₂ rest e => keyKind_strs (by rw [← e]; exact hS)) (by rw [hal]; omega) fun st' a1 a2 => ⟨_, rfl, ?_⟩) (args_list_sort _)))
          obtain ⟨ss', q1, q2, q3⟩ := sorted_out_str hS a1 a2
          have q4 := sorted_is q2 q3
          subst q4
          obtain ⟨e', g'⟩ := sortedHeap_at (vs := acc.toList) (out := (arrOf st').map (·.2)) gL
          have kk : ∀ b o, s.heap.get? b = some o → (sortedHeap (h1.push { cls := .type "list", data := .seq acc.toList.toArray }) h1.objs.size acc.toList ((arrOf st').map (·.2))).get? b = some o := fun b o e => by
            have l1 := Heap.lt_size (hk b o e)
            rw [sortedHeap_old (Nat.ne_of_lt l1) (by rw [Heap.size_push]; exact Nat.lt_succ_of_lt l1)]
            exact Heap.get?_push_of_some _ (hk b o e)
          have fr : s.heap.get? h1.objs.size = Option.none := by
            cases e : s.heap.get? h1.objs.size with
            | none => rfl
            | some o => exact absurd (Heap.lt_size (hk _ _ e)) (Nat.lt_irrefl _)
          refine wpAny_pure ⟨_, rfl, ?_⟩
          have x : Ext s.heap (sortedHeap (h1.push { cls := .type "list", data := .seq acc.toList.toArray }) h1.objs.size acc.toList ((arrOf st').map (·.2))) σ (σ ++ [h1.objs.size]) := ⟨⟨_, rfl, fun b m => by rw [List.mem_singleton.mp m]; exact fr⟩, fun b o e _ => kk b o e, fun _ o e => ⟨o, kk _ _ e⟩⟩
          refine h _ _ tk _ x (R.add kk fr (sz_of ok R hk) (sz_of ok R kk) (.list g' ?_)) (.obj R.last)
          refine strsAre_rep q1 fun k m => ?_
          obtain ⟨p, mp, rfl⟩ := List.mem_map.mp ((sortS_perm _).mem_iff.mp m)
          exact okk p mp
        · exact nS e
      · exact nS e
    · exact nS e
  · exact nS e
end
end Mine
end

section
open PySem PySem.W PyProof.Rows PySem.Calls PySem.Spec PySem.SeqAt
namespace Mine
section
variable {prog : Program} {w : World} {A : Around} {E : Value → Shared → Prop} {s : Shared}
theorem draw_lst {it t : Addr} {items : Array Value} (hne : t ≠ it) : ∀ (n i : Nat) (s : Shared) (Q : List Value → Shared → Prop), s.heap.IsListIter it t i → s.heap.IsList t items → i + n ≤ items.size →
    (∀ h', h'.IsListIter it t (i + n) → Heap.SameBut it s.heap h' → Q ((items.toList.drop i).take n) { s with heap := h' }) → wpAny (model prog w) A (draw (.ref it) n) Q E s
  | 0, i, s, Q, hit, _, _, hQ => by
    show wpAny _ _ (pure []) Q E s
    exact wpAny_pure (by simpa using hQ s.heap hit (Heap.SameBut.refl ..))
  | n + 1, i, s, Q, hit, ht, hle, hQ => by
    have hlt : i < items.size := by omega
    show wpAny _ _ (pyNext (.ref it) >>= _) Q E s
    refine wpAny_bind (wpAny_pyNext_list_item hit ht (x := items[i]) (by simp [hlt]) fun h₁ hit₁ hs₁ => ?_)
    have ht₁ : h₁.IsList t items := by obtain ⟨o, e, r⟩ := ht; exact ⟨o, (hs₁.2 t hne).trans e, r⟩
    refine wpAny_bind (wpAny_holding (draw_lst hne n (i + 1) _ _ hit₁ ht₁ (by omega) fun h₂ hit₂ hs₂ => wpAny_pure ?_))
    have hd : items.toList.drop i = items[i] :: items.toList.drop (i + 1) := by simp [List.drop_eq_getElem_cons, hlt]
    have := hQ h₂ (by rw [show i + (n + 1) = i + 1 + n by omega]; exact hit₂) (hs₁.trans hs₂)
    rw [hd, List.take_succ_cons] at this
    exact this
theorem unpack_lst {t : Addr} {items : Array Value} {Q : List Value → Shared → Prop} (hh : A.handled = none) (ht : s.heap.IsList t items)
    (hQ : ∀ h', (∀ b o, s.heap.get? b = some o → h'.get? b = some o) → Q items.toList { s with heap := h' }) : wpAny (model prog w) A (unpackItems (.ref t) items.size none) Q E s := by
  have hlt : t ≠ s.heap.objs.size := by obtain ⟨o, ho, _⟩ := ht; exact Nat.ne_of_lt (Heap.lt_size ho)
  have up : ∀ b o, s.heap.get? b = some o → b ≠ s.heap.objs.size := fun b o e => Nat.ne_of_lt (Heap.lt_size e)
  unfold unpackItems
  refine wpAny_bind ?_
  · unfold notIterableAtAll
    refine wpAny_bind (wpAny_specialOf ht.typeIs slot_list_iter.lookup ?_)
    refine wpAny_pure ?_
    simp only [Bool.false_eq_true, if_false]
    refine wpAny_bind (wpAny_holding (wpAny_pyIter_list ht ?_))
    have ht0 : (s.heap.push { cls := .type "list_iterator", data := .fields #[.ref t, .int 0 0] }).IsList t items := by obtain ⟨o, e, r⟩ := ht; exact ⟨o, Heap.get?_push_of_some _ e, r⟩
    refine wpAny_bind (wpAny_holding (draw_lst hlt items.size 0 _ _ ⟨_, Heap.get?_push_size _ rfl, rfl, rfl⟩ ht0 (by omega) fun h₁ hit₁ hs₁ => ?_))
    have hall : List.take items.size (List.drop 0 items.toList) = items.toList := by
      rw [List.drop_zero]; exact List.take_of_length_le (by simp)
    rw [hall]
    rw [if_neg (by simp)]
    have ht₁ : h₁.IsList t items := by obtain ⟨o, e, r⟩ := ht0; exact ⟨o, (hs₁.2 t hlt).trans e, r⟩
    refine wpAny_bind (wpAny_holding (wpAny_pyNext_list_end hh hit₁ ht₁ (by simp) fun h₂ he₂ => ?_))
    simp only [Option.isSome_none, Bool.false_eq_true, if_false]
    refine wpAny_pure (hQ h₂ fun b o e => he₂ b o (up b o e) ((hs₁.2 b (up b o e)).trans (Heap.get?_push_of_some _ e)))
theorem assign_lst {env : Env} {elts : List Expr} {x1} {pos : Pos} {t : Addr} {items : Array Value} {Q : Unit → Shared → Prop} (hh : A.handled = none) (ht : s.heap.IsList t items)
    (hn : (assignEach elts env).length = items.size) (hstar : (assignEach elts env).findIdx? (·.1) = none)
    (h : ∀ h', (∀ b o, s.heap.get? b = some o → h'.get? b = some o) → wpAny (model prog w) A (assignInOrder ((assignEach elts env).map (·.2)) items.toList) Q E { s with heap := h' }) :
    wpAny (model prog w) A (assign (.Tuple elts x1 pos) env (.ref t)) Q E s := by
  rw [arm_assign_Tuple]
  refine wpAny_bind (wpAny_standAt ?_)
  unfold unpack
  rw [hn, hstar]
  exact wpAny_bind (wpAny_holding (unpack_lst hh ht h))
end
section
variable {G : Gd} {P : Pg} {d : Nat} {sc : Scope} {ρ : List (Str × Nat)}
theorem ESim.pow18 {k1 k2 : Nat} {p1 p2 pos : Pos} : ESim G P d sc ρ (.BinOp (.Constant (.int 10) k1 p1) .Pow (.Constant (.int 18) k2 p2) pos) (.lit (.int 1000000000000000000)) := by
  intro n A env s σ H loc V loc' H' hr S Q E h
  obtain ⟨n, hr⟩ := run_step hr
  dsimp only [runStep] at hr
  replace h := EP.of h hr
  refine wpAny_BinOp (wpAny_Constant_int (wpAny_Constant_int ?_))
  exact AutoIntOps.pow_4 (by decide) (by decide) (by decide) (by decide) (by decide +kernel) (h.tick _ S.rel (.int _ _))
theorem SSim.asgL {ts : List Expr} {e : Expr} {c ct : C} {k : Nat} {p pos : Pos} (ht : TgsSim false G d sc ρ ts ct) (he : ESim G P d sc ρ e c) (hs : ∀ env : Env, env.scope = sc → swapsWithSole [.Tuple ts k p] e pos.line env = pure false)
    (hw : ∀ env : Env, env.scope = sc → swappedStores [.Tuple ts k p] e env = pure none) :
    SSim G P d sc ρ (.Assign [.Tuple ts k p] e pos) (.asgL ct c) := by
  intro n A env s σ H loc r loc' H' hr S Q E h
  obtain ⟨n, hr⟩ := run_step hr
  obtain ⟨v, l, H1, h1, hr⟩ := vb_some hr
  split at hr
  · rename_i i
    split at hr
    · rename_i vs ei
      split at hr
      · rename_i l2 q
        replace h := XP.of h hr
        refine PyProof.Rows.Assign_Tuple (he n A env s σ H loc _ _ _ h1 S _ _ fun v h' tk σ' x R rv => ?_) (hs env S.ev.scp) (hw env S.ev.scp)
        cases rv using RepV.objE with | @mk a ea =>
        obtain ⟨items, m, g, rs, ll⟩ := list_at R ea ei
        have S1 := S.ext (tk := tk) x R
        refine assign_lst S.room.1 ⟨_, g, rfl, m, rfl⟩ (by rw [(ht.el env).1, ll, ht.len _ _ _ q]) (ht.el env).2 fun h2 kk => ?_
        have x2 : Ext h' h2 σ' σ' := .same kk
        exact ht.run A env _ σ' _ _ _ _ _ q (S1.keeps (tk := tk) kk) (rs.ext x2 R) _ _ fun h3 tk3 x3 R3 L3 _ _ => h _ _ _ _ ((x.x.trans x2.x).trans x3) R3 L3 .next
      · exact nS hr
    · exact nS hr
  · exact nS hr
end
end Mine
end

section
open PySem PySem.W PyProof.Rows PySem.Calls PySem.Spec PySem.SeqAt
namespace Mine
noncomputable abbrev comp2E (elt t1 i1 t2 i2 : Expr) (scope : Scope) (pos : Pos) : Expr := .ListComp elt [⟨t1, i1, [], 0⟩, ⟨t2, i2, [], 0⟩] scope pos
theorem compTurn2_0 (elt t1 i1 t2 i2 : Expr) (scope : Scope) (pos : Pos) (it acc : Value) (env : Env) :
    compTurn (comp2E elt t1 i1 t2 i2 scope pos) 0 it acc env = (do
      standAt i1.pos
      match ← pyNext it with
      | none => pure (.done .next)
      | some v =>
        letOwnedTupleGo t1 it v
        assign t1 env v
        let x ← eval i2 env
        standAt i2.pos
        let x ← foldedSetIterable i2 env x
        let it2 ← holding [x] (pyIter x)
        let _ ← runOwn (.compStart (comp2E elt t1 i1 t2 i2 scope pos) 1 it2 acc env) env
        again (.compLoop (comp2E elt t1 i1 t2 i2 scope pos) 0 it acc env)) := by rfl
section
variable {prog : Program} {w : World} {A : Around} {E : Value → Shared → Prop} {R : Result → Shared → Prop} {s : Shared}
theorem codeAny_comp2_0 {elt t1 i1 t2 i2 : Expr} {scope : Scope} {pos : Pos} {it acc : Value} {env : Env} (hfold : ∀ x, foldedSetIterable i2 env x = pure x) (I : Nat → Shared → Prop)
    (turn : ∀ n s, I n s → ∀ N : Value → Shared → Prop, wpAny (model prog w) A (pyNext it) (fun r s₁ => match r with
      | none => R (.ok .next) s₁
      | some v => wpAny (model prog w) A (letOwnedTupleGo t1 it v) (fun _ s₁' => wpAny (model prog w) A (assign t1 env v) (fun _ s₂ =>
          wpAny (model prog w) A (eval i2 env) (fun x s₃ => wpAny (model prog w) A (pyIter x) (fun it2 s₄ => wpAny (model prog w) A (runOwn (.compStart (comp2E elt t1 i1 t2 i2 scope pos) 1 it2 acc env) env) (fun _ s₅ => ∃ m, m < n ∧ I m s₅) N s₄) N s₃) N s₂) N s₁') N s₁) N s)
    (n : Nat) (h : I n s) :
    codeAny (model prog w) A (.compLoop (comp2E elt t1 i1 t2 i2 scope pos) 0 it acc env) R s := by
  refine codeAny_loop rfl I (fun n s hI => ?_) n h
  show wpAny _ A ((compTurn (comp2E elt t1 i1 t2 i2 scope pos) 0 it acc env).onRaise (fun x => do noteFrame x env; theTreesLotGoes x)) _ _ s
  refine wpAny_noted ?_
  rw [compTurn2_0]
  refine wpAny_bind (wpAny_standAt (wpAny_bind (wpAny_mono (turn n s hI _) (fun r s₁ h₁ => ?_) fun _ _ h' => h')))
  cases r with
  | none => exact wpAny_pure h₁
  | some v =>
    refine wpAny_bind (wpAny_mono h₁ (fun _ s₁' h₁' => ?_) fun _ _ h' => h')
    refine wpAny_bind (wpAny_mono h₁' (fun _ s₂ h₂ => ?_) fun _ _ h' => h')
    refine wpAny_bind (wpAny_mono h₂ (fun x s₃ h₃ => wpAny_bind (wpAny_standAt ?_)) fun _ _ h' => h')
    refine wpAny_bind (wpAny_of_eq (hfold x) (wpAny_bind (wpAny_holding (wpAny_mono h₃ (fun it2 s₄ h₄ => ?_) fun _ _ h' => h'))))
    exact wpAny_bind (wpAny_mono h₄ (fun _ s₅ h₅ => wpAny_pure ⟨rfl, h₅⟩) fun _ _ h' => h')
theorem codeAny_compStart2_1 {elt t1 i1 t2 i2 : Expr} {scope : Scope} {pos : Pos} {it acc : Value} {env : Env}
    (h0 : codeAny (model prog w) A (.compLoop (comp2E elt t1 i1 t2 i2 scope pos) 1 it acc env) R s)
    (h : ∀ N : Value → Shared → Prop, wpAny (model prog w) A (pyIter it) (fun it' s' => codeAny (model prog w) A (.compLoop (comp2E elt t1 i1 t2 i2 scope pos) 1 it' acc env) R s') N s) :
    codeAny (model prog w) A (.compStart (comp2E elt t1 i1 t2 i2 scope pos) 1 it acc env) R s := by
  refine codeAny_of_tree ?_
  show wpAny _ _ ((compStart (comp2E elt t1 i1 t2 i2 scope pos) 1 it acc env).onRaise (fun x => do noteFrame x env; standAt theWindowsPlace)) _ _ s
  refine wpAny_notedAt ?_
  unfold compStart
  show wpAny _ _ (ask >>= _) _ _ s
  refine wpAny_bind (wpAny_askSetting (wpAny_ite ?_))
  split
  · first
      | exact wpAny_bind (wpAny_pure (wpAny_pure (And.intro rfl h0)))
      | exact wpAny_pure (And.intro rfl h0)
  · first
      | exact wpAny_bind (wpAny_rule (wpAny_bind (wpAny_standAt (wpAny_bind (wpAny_mono (h _) (fun it' s' h' => wpAny_pure (And.intro rfl h')) fun _ _ x => x)))))
end
section
variable {G : Gd} {P : Pg} {d : Nat} {sc : Scope} {ρ ρ' : List (Str × Nat)} {A : Around} {env : Env} {s : Shared} {h h' h'' : Heap} {σ σ' σ'' : List Addr} {H H' H'' : AH} {loc loc' : Loc} {tk : Nat} {a : Addr} {S : Src} {k : Nat} {fp : List Addr} {it : Addr}
theorem ItAt.alive (R : HRel G σ H h) (I : ItAt h σ S k fp it) : ∀ b ∈ fp, ∃ o, h.get? b = some o := by
  intro b m
  cases I with
  | list _ q _ => obtain ⟨o, e, _⟩ := q; rw [List.mem_singleton.mp m]; exact ⟨o, e⟩
  | tup _ q _ => obtain ⟨o, e, _⟩ := q; rw [List.mem_singleton.mp m]; exact ⟨o, e⟩
  | rng q _ => rw [List.mem_singleton.mp m]; exact ⟨_, q⟩
  | zip e1 e2 e3 gz gi g1 g2 _ _ _ _ D =>
    obtain ⟨o1, h1, _⟩ := g1
    obtain ⟨o2, h2, _⟩ := g2
    simp only [List.mem_cons, List.not_mem_nil, or_false] at m
    rcases m with q | q | q | q | q <;> rw [q]
    · exact ⟨_, gz⟩
    · exact ⟨_, gi⟩
    · exact R.mem (List.mem_of_getElem? e3)
    · exact ⟨o1, h1⟩
    · exact ⟨o2, h2⟩
inductive CT2 (P : Pg) (m d : Nat) (ct1 ct2 cs2 ce : C) (S : Src) (k : Nat) (acc : List AV) (loc : Loc) (H : AH) (o : Out) : Prop where
  | stop (q : srcNext S k H = some none) (e : some (Res.val (.tup acc), loc, H) = some o)
  | turn (V : AV) (l2 : Loc) (q : srcNext S k H = some (some V)) (qa : asgV ct1 V loc = some l2) (hfr : slotsFree ct2 l2 = true)
      (go : srcF (run P m) d cs2 l2 H (fun S2 H => match run P m d (.compL ct2 S2 0 (.lit (.bool true)) ce acc) l2 H with
        | some (.val (.tup acc'), _, H) => run P m d (.comp2L ct1 S (k + 1) ct2 cs2 ce acc') loc H
        | _ => none) = some o)
theorem comp2L_inv {n : Nat} {ct1 ct2 cs2 ce : C} {acc : List AV} {o : Out} (hr : run P n d (.comp2L ct1 S k ct2 cs2 ce acc) loc H = some o) : ∃ m, m < n ∧ CT2 P m d ct1 ct2 cs2 ce S k acc loc H o := by
  cases n with
  | zero => exact nS hr
  | succ m =>
    refine ⟨m, Nat.lt_succ_self m, ?_⟩
    rcases sn_some hr with ⟨q, e⟩ | ⟨V, q, hr⟩
    · exact .stop q e
    · obtain ⟨l2, qa, hr⟩ := am_some hr
      obtain ⟨f, hr⟩ := if_free hr
      exact .turn V l2 q qa f hr
theorem inner_out {x : Option Out} {f : List AV → AH → Option Out} {o : Out} (h : (match x with
    | some (.val (.tup acc'), _, H) => f acc' H
    | _ => none) = some o) : ∃ vs l2 H2, x = some (.val (.tup vs), l2, H2) ∧ f vs H2 = some o := by
  cases x with
  | none => exact nS h
  | some y =>
    obtain ⟨r, l, H⟩ := y
    cases r with
    | val v =>
      cases v with
      | tup vs => exact ⟨vs, l, H, rfl, h⟩
      | _ => exact nS h
    | _ => exact nS h
inductive CInv2 (G : Gd) (P : Pg) (d : Nat) (s : Shared) (σ : List Addr) (cenv : Env) (ρ' : List (Str × Nat)) (D : Addr) (S1 S2 : Src) (it1 : Addr) (loc : Loc) (fp2 : List Addr) (it2 : Addr) (ct1 ct2 cs2 ce : C) (o : Out) (m : Nat) : Shared → Prop where
  | mk {h1 : Heap} {tk1 : Nat} {σ1 : List Addr} {H1 : AH} {k2 : Nat} {acc : List AV} {items : Array Value} {n : Nat} (T : C2 G s σ cenv ρ' D false S1 0 [] it1 loc h1 σ1 H1 acc items n) (I2 : ItAt h1 σ1 S2 k2 fp2 it2)
      (hl : run P m d (.comp2L ct1 S2 k2 ct2 cs2 ce acc) loc H1 = some o) : CInv2 G P d s σ cenv ρ' D S1 S2 it1 loc fp2 it2 ct1 ct2 cs2 ce o m { s with heap := h1, toks := tk1 }
noncomputable def OutF (G : Gd) (A : Around) (elt t1 i1 t2 i2 : Expr) (scope : Scope) (pos : Pos) (D : Addr) (cenv : Env) (I : Shared → Prop) (N : Value → Shared → Prop) (s : Shared) : Prop :=
  wpAny (model G.prog G.w) A (eval i2 cenv) (fun x s₃ => wpAny (model G.prog G.w) A (pyIter x) (fun it2 s₄ => wpAny (model G.prog G.w) A (runOwn (.compStart (comp2E elt t1 i1 t2 i2 scope pos) 1 it2 (.ref D) cenv) cenv) (fun _ s₅ => I s₅) N s₄) N s₃) N s
noncomputable def OutR (G : Gd) (A : Around) (cenv : Env) (I : Shared → Prop) (N : Value → Shared → Prop) (r : Result) (s : Shared) : Prop := match r with
  | .ok _ => I s
  | .error e => cameBackBy (model G.prog G.w) A cenv N e s
theorem comp2_outer {elt t1 i1 t2 i2 : Expr} {scope : Scope} {pos : Pos} {ct1 ct2 cs2 ce : C} {cenv : Env} {scr : Scope} {D Cc : Addr} {SS : Src} {fp : List Addr} {it : Addr} {kd2 : SK} {R : Result → Shared → Prop} {s0 : Shared} {vs : List AV} {l2 : Loc} {H2 : AH}
    (ok : GdOk G) (room : Room A d) (ev : EnvOk scr cenv) (hC : cenv.locals = Cc) (fC : s0.heap.get? Cc = none) (fD : s0.heap.get? D = none) (lD : G.Off D) (fl : ∀ b ∈ fp, s0.heap.get? b = none ∧ G.Off b)
    (ht1 : TgSim true G d scr ρ' t1 ct1) (hp1 : PatOk ct1) (hp2 : PatOk ct2) (hfr1 : slotsFree ct1 loc = true) (hf1 : TgtOk t1 SS.sk) (ht2 : TgSim true G d scr ρ' t2 ct2) (hs2 : SrcSim G P d scr ρ' kd2 i2 cs2) (hf2 : TgtOk t2 kd2) (hfold2 : ∀ env x, foldedSetIterable i2 env x = pure x) (he : ESim G P d scr ρ' elt ce)
    (hR : ∀ h2 tk2 σ2 items n, C2 G s0 σ cenv ρ' D false SS 0 [] it loc h2 σ2 H2 vs items n → R (.ok .next) { s0 with heap := h2, toks := tk2 })
    {m k2 : Nat} {h1 : Heap} {tk1 : Nat} {σ1 : List Addr} {H1 : AH} {acc : List AV} {items : Array Value} {n : Nat} (T : C2 G s0 σ cenv ρ' D false SS 0 [] it loc h1 σ1 H1 acc items n) (I2 : ItAt h1 σ1 SS k2 fp it)
    (hl : run P m d (.comp2L ct1 SS k2 ct2 cs2 ce acc) loc H1 = some (.val (.tup vs), l2, H2)) : codeAny (model G.prog G.w) A (.compLoop (comp2E elt t1 i1 t2 i2 scope pos) 0 (.ref it) (.ref D) cenv) R { s0 with heap := h1, toks := tk1 } := by
  refine codeAny_comp2_0 (hfold2 _) (CInv2 G P d s0 σ cenv ρ' D SS SS it loc fp it ct1 ct2 cs2 ce (.val (.tup vs), l2, H2)) ?_ m (.mk T I2 hl)
  rintro m _ ⟨T, I1, hl⟩ N
  obtain ⟨m', lt, X⟩ := comp2L_inv hl
  cases X with
  | stop q e => exact it_end ok room I1 T.R (fun b m => (fl b m).2) q fun h3 kk R3 t3 => hR h3 _ _ _ _ ((T.end_ I1 fl (fun z => nomatch z) kk R3 t3).done e)
  | turn V loc2 q qa hfr2 go =>
    refine T.next (pas := false) ok room ev hC fC fl (fun z => nomatch z) ht1 hf1 I1 q qa (OutF G A elt t1 i1 t2 i2 scope pos D cenv _ N) (fun _ _ z => z) fun h3 tk3 T3 I3 => ?_
    obtain ⟨S2, H5, hl, hkd2, hsrc2⟩ := hs2 m' A _ { s0 with heap := h3, toks := tk3 } _ _ loc2 _ _ go ⟨ok, room, ev, T3.R, T3.L⟩
    obtain ⟨acc', l6, H6, hl6, hl⟩ := inner_out hl
    refine hsrc2 _ N fun it2 fp2 h5 tk5 σ5 x5 R5 J5 fl2 => wpAny_runOwn ?_
    have T5a := T3.ext x5 R5
    have fin : codeAny (model G.prog G.w) A (.compLoop (comp2E elt t1 i1 t2 i2 scope pos) 1 (.ref it2) (.ref D) cenv) (OutR G A cenv (fun s => ∃ m', m' < m ∧ CInv2 G P d s0 σ cenv ρ' D SS SS it loc fp it ct1 ct2 cs2 ce (.val (.tup vs), l2, H2) m' s) N) { s0 with heap := h5, toks := tk5 } :=
      comp_inner (s0 := s0) (pas := true) (S1 := SS) (ifs := []) (fun _ _ _ => rfl) ok room ev hC fC fD lD (fun b m => ⟨fresh_none T3.x (fl2 b m).1, (fl2 b m).2⟩)
        (fun _ b m1 m2 => by obtain ⟨o, e⟩ := I3.alive T3.R b m1; exact nS ((fl2 b m2).1.symm.trans e)) ht2 hp2 hfr2 (hkd2 ▸ hf2) CondSim.none he
        (fun h7 tk7 σ7 items7 n7 T7 => by
          have T8 := T7.weak hp1 hfr1 qa
          exact ⟨m', lt, .mk ⟨T8.x, T8.R, (fun z => nomatch z), T8.L, T8.at_, T8.nD, T8.ra⟩ (T8.I rfl) hl⟩)
        ⟨T5a.x, T5a.R, fun _ => I3.xext (x5.x (env := cenv)) T3.L, T5a.L, T5a.at_, T5a.nD, T5a.ra⟩ J5 hl6
    exact codeAny_compStart2_1 fin fun N' => it_self J5 fin
theorem comp2_core {target1 iter1 target2 iter2 elt : Expr} {scope : Scope} {pos : Pos} {ct1 cs1 ct2 cs2 ce : C} {kd1 kd2 : SK} (ok : CompOk scope sc ρ ρ' (.cons ct1 ct2)) (hp1 : PatOk ct1) (hp2 : PatOk ct2)
    (ht1 : TgSim true G d (scRel scope sc) ρ' target1 ct1) (hs1 : SrcSim G P d sc ρ kd1 iter1 cs1) (ht2 : TgSim true G d (scRel scope sc) ρ' target2 ct2) (hs2 : SrcSim G P d (scRel scope sc) ρ' kd2 iter2 cs2) (he : ESim G P d (scRel scope sc) ρ' elt ce)
    (hf1 : TgtOk target1 kd1) (hf2 : TgtOk target2 kd2) (hfold1 : ∀ env x, foldedSetIterable iter1 env x = pure x) (hfold2 : ∀ env x, foldedSetIterable iter2 env x = pure x) : CompSim G P d sc ρ (comp2E elt target1 iter1 target2 iter2 scope pos) iter1 scope (.comp2 ct1 cs1 ct2 cs2 ce) := by
  intro n A env s σ H loc V loc' H' p hr S use Q E hQ
  obtain ⟨n, hr⟩ := run_step hr
  obtain ⟨hfr, hr⟩ := if_free hr
  have hfr1 : slotsFree ct1 loc = true := by
    unfold slotsFree at hfr ⊢
    unfold slotsOf at hfr
    rw [List.all_append, Bool.and_eq_true] at hfr
    exact hfr.1
  obtain ⟨SS, H1, hr, hkd, hsrc⟩ := hs1 n A env s σ H loc _ _ hr S
  obtain ⟨vs, l2, H2, hl, rfl, rfl⟩ := comp_out hr
  refine comp_open ok hfr S hfold1 hsrc fun D C fp it h2 tk2 σ1 T fl => ?_
  exact comp2_outer S.ok S.room T.ev rfl T.fC T.fD T.lD fl ht1 hp1 hp2 hfr1 (hkd ▸ hf1) ht2 hs2 hf2 hfold2 he
    (fun h3 tk3 σ3 items n T3 => comp_close T3 rfl T.fD T.lD T.DC fun a b c e f => hQ D C h3 tk3 _ _ rfl a b c T.fC e T.lC f) T.T T.I hl
end
end Mine
end

section
open PySem PySem.W PyProof.Rows PySem.Calls PySem.Spec PySem.SeqAt
namespace Mine
section
variable {G : Gd} {P : Pg} {d : Nat} {sc : Scope} {ρ ρ' : List (Str × Nat)}
theorem SSim.asgComp2 {x : Str} {i : Nat} {target1 iter1 target2 iter2 elt : Expr} {scope : Scope} {pos p spos : Pos} {ct1 cs1 ct2 cs2 ce : C} {kd1 kd2 : SK} (hm : (x, i) ∈ ρ) (hk : Stores sc x) (hρ : RhoOk ρ) (ok : CompOk scope sc ρ ρ' (.cons ct1 ct2)) (hp1 : PatOk ct1) (hp2 : PatOk ct2)
    (ht1 : TgSim true G d (scRel scope sc) ρ' target1 ct1) (hs1 : SrcSim G P d sc ρ kd1 iter1 cs1) (ht2 : TgSim true G d (scRel scope sc) ρ' target2 ct2) (hs2 : SrcSim G P d (scRel scope sc) ρ' kd2 iter2 cs2) (he : ESim G P d (scRel scope sc) ρ' elt ce)
    (hf1 : TgtOk target1 kd1) (hf2 : TgtOk target2 kd2) (hfold1 : ∀ env x, foldedSetIterable iter1 env x = pure x) (hfold2 : ∀ env x, foldedSetIterable iter2 env x = pure x)
    (hsw : ∀ env : Env, env.scope = sc → swapsWith (comp2E elt target1 iter1 target2 iter2 scope pos) (some (.Name x p)) spos.line env = pure true) :
    SSim G P d sc ρ (.Assign [.Name x p] (comp2E elt target1 iter1 target2 iter2 scope pos) spos) (.asg (.var i) (.comp2 ct1 cs1 ct2 cs2 ce)) := .asgOf hm hk hρ (comp2_core ok hp1 hp2 ht1 hs1 ht2 hs2 he hf1 hf2 hfold1 hfold2) hsw
end
end Mine
end

section
open PySem PySem.W PyProof.Rows PySem.Calls PySem.Spec PySem.SeqAt
namespace Mine
section
variable {G : Gd} {P : Pg} {d : Nat} {sc : Scope} {ρ : List (Str × Nat)}
theorem TSim.inL {e : Expr} {es : List Expr} {a l : C} {p1 pos : Pos} (he : ESim G P d sc ρ e a) (hl : LSim G P d sc ρ es l) (hn : es.length ≤ 1000) (hm : behindInMarks .In (.List es p1) = false) :
    TSim G P d sc ρ (.Compare e [.In] [.List es p1] pos) (.op2 .isIn a (.tupE l)) := by
  intro n A env s σ H loc b loc' H' hr S Q E h
  obtain ⟨n, hr⟩ := run_step hr
  obtain ⟨x, l1, H1, q1, hr⟩ := vb_some hr
  obtain ⟨y, l2, H2, q2, hr⟩ := vb_some hr
  rcases n with _ | n
  · cases q2
  obtain ⟨w, l3, H3, q3, q2⟩ := vb_some q2
  split at q2
  · rename_i vs
    cases q2
    split at hr
    · rename_i v H4 q4
      cases hr
      obtain ⟨z, q, e1, e2⟩ := bv_some (show Mine.bv H2 (inH H2 x (.tup vs)) = _ from q4)
      cases e1; cases e2
      refine wpAny_isTrue_Compare1 (he _ A env s σ H loc _ _ _ q1 S _ _ fun av h' tk σ' xx R rv => ?_) hm
      have S1 := S.ext (tk := tk) xx R
      refine wpAny_List (hl _ A env _ σ' H1 loc _ _ _ q3 S1 p1 _ _ fun Vs e => ?_)
      cases e
      intro bv h2 tk2 σ2 x2 R2 rs hb
      refine ⟨by rw [hb, sizeLine_eq]; omega, ?_⟩
      have k2 := push_keeps (h := h2) { cls := .type "list", data := .seq bv.toArray }
      have x3 : Ext h2 (h2.push { cls := .type "list", data := .seq bv.toArray }) σ2 σ2 := .same k2.1
      have R3 : HRel G σ2 H' (h2.push { cls := .type "list", data := .seq bv.toArray }) := R2.same k2.1 (R2.offge k2.2)
      have rs3 := rs.ext x3 R2
      have rv3 := (rv.ext x2 R).ext x3 R2
      obtain ⟨as, qa⟩ := rs3.reads 50 (inVs_pure q)
      have g : (h2.push { cls := .type "list", data := .seq bv.toArray }).get? h2.objs.size = some (listOf bv.toArray 0) := Heap.get?_push_size _ rfl
      refine (in_seq (s := { s with heap := h2.push { cls := .type "list", data := .seq bv.toArray }, toks := tk2 }) S.room rv3 rs3 q (.inl ⟨_, reads_list_at g rfl rfl (by simpa using qa)⟩)).1 _ E (wpAny_truthy_bool ?_)
      exact h _ _ _ ((xx.trans x2).trans x3) R3
    · exact nS hr
  · cases q2
end
end Mine
end

section
set_option maxHeartbeats 8000000
open PySem PySem.W PyProof.Rows PySem.Calls PySem.Spec PySem.SeqAt
namespace Mine
noncomputable def addrF : List Addr := [61,94,101,108,115,127,134,141,169,174,188,195,200,207,214,221,243,250,255,270,284,291,298,305,312,319,326,331,336,341,348,355,360,367,372,379]
noncomputable def faN (i : Nat) : Addr := addrF.getD i 0
noncomputable def caN (i : Nat) : Addr := ([158, 229, 273] : List Addr).getD i 0
noncomputable def nthS : List Stmt → Nat → Option Stmt
  | [], _ => none
  | x :: _, 0 => some x
  | _ :: xs, n + 1 => nthS xs n
noncomputable def inC (k : Nat) : Option Stmt → Option Stmt
  | some (.ClassDef _ _ _ b _ _ _ _ _ _ _) => nthS b k
  | _ => none
noncomputable def fnD : Option Stmt → Option (Scope × List Stmt)
  | some (.FunctionDef _ _ b _ _ _ sc _ _ _) => some (sc, b)
  | _ => none
noncomputable def topS (k : Nat) : Option Stmt := nthS PySem.Challenge.pw_xw0168_01.main.body k
noncomputable def defOf : Nat → Option (Scope × List Stmt)
  | 0 => fnD (topS 5)
  | 1 => fnD (inC 0 (topS 12))
  | 2 => fnD (inC 1 (topS 12))
  | 3 => fnD (inC 2 (topS 12))
  | 4 => fnD (inC 3 (topS 12))
  | 5 => fnD (inC 5 (topS 12))
  | 6 => fnD (inC 6 (topS 12))
  | 7 => fnD (inC 7 (topS 12))
  | 8 => fnD (topS 14)
  | 9 => fnD (topS 15)
  | 10 => fnD (inC 0 (topS 17))
  | 11 => fnD (inC 1 (topS 17))
  | 12 => fnD (inC 2 (topS 17))
  | 13 => fnD (inC 3 (topS 17))
  | 14 => fnD (inC 4 (topS 17))
  | 15 => fnD (inC 5 (topS 17))
  | 16 => fnD (topS 19)
  | 17 => fnD (topS 20)
  | 18 => fnD (topS 21)
  | 19 => fnD (inC 0 (topS 23))
  | 20 => fnD (topS 25)
  | 21 => fnD (topS 26)
  | 22 => fnD (topS 27)
  | 23 => fnD (topS 28)
  | 24 => fnD (topS 29)
  | 25 => fnD (topS 30)
  | 26 => fnD (topS 31)
  | 27 => fnD (topS 32)
  | 28 => fnD (topS 33)
  | 29 => fnD (topS 34)
  | 30 => fnD (topS 35)
  | 31 => fnD (topS 36)
  | 32 => fnD (topS 37)
  | 33 => fnD (topS 38)
  | 34 => fnD (topS 39)
  | 35 => fnD (topS 40)
  | _ => none
noncomputable def nmOf : Nat → List Str
  | 0 => ["told"]
  | 1 => ["self"]
  | 2 => ["self"]
  | 3 => ["self"]
  | 4 => ["self", "told"]
  | 5 => ["self", "unknown", "told"]
  | 6 => ["self", "unknown", "told"]
  | 7 => ["self", "one", "other"]
  | 8 => ["one", "other"]
  | 9 => ["T", "found"]
  | 10 => ["self"]
  | 11 => ["self", "T"]
  | 12 => ["self", "T", "name"]
  | 13 => ["self", "name", "T"]
  | 14 => ["self", "one", "other"]
  | 15 => ["self", "some", "others"]
  | 16 => ["impl", "side"]
  | 17 => ["one", "other"]
  | 18 => ["one", "other"]
  | 19 => ["self", "number", "regions", "params", "trait", "trait_args", "self_type", "methods", "spot"]
  | 20 => ["script"]
  | 21 => ["source", "top"]
  | 22 => ["source", "things"]
  | 23 => []
  | 24 => ["found"]
  | 25 => ["T"]
  | 26 => ["book", "number", "T"]
  | 27 => ["source"]
  | 28 => []
  | 29 => []
  | 30 => []
  | 31 => ["pattern", "T"]
  | 32 => ["number", "trait", "args", "T", "names"]
  | 33 => []
  | 34 => ["source"]
  | 35 => ["script"]
  | _ => []
noncomputable def dvOf : Nat → List AV
  | 19 => [.int 0]
  | _ => []
noncomputable def scOf (i : Nat) : Scope := match defOf i with
  | some (sc, _) => sc
  | none => default
noncomputable def bodyOf (i : Nat) : List Stmt := match defOf i with
  | some (_, b) => b
  | none => []
structure KFacts (K : Params → Frag) : Prop where
  cls : ∀ P, ∀ c, c < 3 → ClsOk (K P) (caN c)
  mth : ∀ P, ∀ e ∈ mtTab, findIn (K P) (.ref (caN e.1)) e.2.1 = some (some (.ref (faN e.2.2)))
  ini : ∀ P, ∀ e ∈ initTab, findIn (K P) (.ref (caN e.1)) "__init__" = some (some (.ref (faN e.2)))
  glo : ∀ P, ∀ e ∈ globTab, nsIn (K P) mainGlobals e.1 = some (some (.ref (faN e.2)))
  clg : ∀ P, ∀ e ∈ clsTab, nsIn (K P) mainGlobals e.1 = some (some (.ref (caN e.2)))
  gbl : ∀ P, ∀ e ∈ bltNames, nsIn (K P) mainGlobals e = some none
  mst : ∀ P, ∃ t, nsIn (K P) mainGlobals "MOST_PARTS" = some (some (.int 4000 t))
  fns : ∀ P, ∀ a ∈ addrF, typeIn (K P) (.ref a) = some (.type "function") ∧ keepIn (K P) (.ref a) = true
  row : ∀ f, f < 36 → KRow K (faN f) (scOf f) (bodyOf f) (nmOf f) (dvOf f)
theorem KFacts.fnsN {K : Params → Frag} (h : KFacts K) (P : Params) : ∀ f, f < 36 → typeIn (K P) (.ref (faN f)) = some (.type "function") ∧ keepIn (K P) (.ref (faN f)) = true := by
  intro f hf
  refine h.fns P _ ?_
  unfold faN
  rw [List.getD_eq_getElem?_getD, List.getElem?_eq_getElem (show f < addrF.length from hf)]
  exact List.getElem_mem _
end Mine
end

section
set_option maxHeartbeats 8000000
open PySem PySem.W PyProof.Rows PySem.Calls PySem.Spec PySem.SeqAt
namespace Mine
noncomputable def r_parts_of : List (Str × Nat) := [("told", 0), ("kind", 1)]
theorem rho_parts_of : RhoOk r_parts_of := by unfold RhoOk; decide +kernel
theorem k_parts_of : ∃ sc body, defOf 0 = some (sc, body) ∧ NameOk sc r_parts_of ["told"] ∧ ∀ (G : Gd) (d : Nat), AllF G lawP d → XSim G lawP d sc r_parts_of body c_parts_of := by
 refine ⟨_, _, rfl, ?_, ?_⟩
 exact ⟨rfl, rfl, rfl, by decide, by decide, by decide⟩
 intro G d hF
 unfold c_parts_of
 refine XSim.cons ?_ ?_
 refine SSim.asgN ?_ ?_ ?_ ?_ ?_
 decide
 first | exact .inl (by decide) | exact .inr (by decide)
 exact rho_parts_of
 refine ESim.sub (op2_idx (fun _ _ => rfl)) ?_ ?_
 refine ESim.nameOf ?_
 decide +kernel
 exact ESim.int
 first | exact fun _ _ => rfl | (intro env h; cases env; cases h; rfl)
 refine XSim.cons ?_ ?_
 refine SSim.iff ?_ ?_ ?_
 refine TSim.cmp op2_eq ?_ ?_ rfl
 refine ESim.nameOf ?_
 decide +kernel
 refine ESim.str ?_
 decide +kernel
 refine XSim.cons ?_ ?_
 refine SSim.ret ?_
 refine ESim.tup ?_ ?_
 refine LSim.cons ?_ ?_ ?_
 refine ESim.sub (op2_idx (fun _ _ => rfl)) ?_ ?_
 refine ESim.nameOf ?_
 decide +kernel
 exact ESim.int
 exact LSim.nil
 intro; rfl
 decide
 exact XSim.nil
 exact XSim.nil
 refine XSim.cons ?_ ?_
 refine SSim.iff ?_ ?_ ?_
 refine TSim.boolop ?_
 refine BTSim.or ?_ ?_
 refine TSim.cmp op2_eq ?_ ?_ rfl
 refine ESim.nameOf ?_
 decide +kernel
 refine ESim.str ?_
 decide +kernel
 refine BTSim.last ?_
 refine TSim.cmp op2_eq ?_ ?_ rfl
 refine ESim.nameOf ?_
 decide +kernel
 refine ESim.str ?_
 decide +kernel
 refine XSim.cons ?_ ?_
 refine SSim.ret ?_
 refine ESim.tup ?_ ?_
 refine LSim.cons ?_ ?_ ?_
 refine ESim.sub (op2_idx (fun _ _ => rfl)) ?_ ?_
 refine ESim.nameOf ?_
 decide +kernel
 exact ESim.int
 exact LSim.nil
 intro; rfl
 decide
 exact XSim.nil
 exact XSim.nil
 refine XSim.cons ?_ ?_
 refine SSim.iff ?_ ?_ ?_
 refine TSim.cmp op2_eq ?_ ?_ rfl
 refine ESim.nameOf ?_
 decide +kernel
 refine ESim.str ?_
 decide +kernel
 refine XSim.cons ?_ ?_
 refine SSim.ret ?_
 refine ESim.sub (op2_idx (fun _ _ => rfl)) ?_ ?_
 refine ESim.nameOf ?_
 decide +kernel
 exact ESim.int
 exact XSim.nil
 exact XSim.nil
 refine XSim.cons ?_ ?_
 refine SSim.ret ?_
 refine ESim.ite ?_ ?_ ?_
 refine TSim.cmp op2_eq ?_ ?_ rfl
 refine ESim.nameOf ?_
 decide +kernel
 refine ESim.str ?_
 decide +kernel
 refine ESim.sub (op2_idx (fun _ _ => rfl)) ?_ ?_
 refine ESim.nameOf ?_
 decide +kernel
 exact ESim.int
 refine ESim.tup ?_ ?_
 exact LSim.nil
 decide
 exact XSim.nil
noncomputable def r_Infer_init : List (Str × Nat) := [("self", 0)]
theorem rho_Infer_init : RhoOk r_Infer_init := by unfold RhoOk; decide +kernel
theorem k_Infer_init : ∃ sc body, defOf 1 = some (sc, body) ∧ NameOk sc r_Infer_init ["self"] ∧ ∀ (G : Gd) (d : Nat), AllF G lawP d → XSim G lawP d sc r_Infer_init body c_Infer_init := by
 refine ⟨_, _, rfl, ?_, ?_⟩
 exact ⟨rfl, rfl, rfl, by decide, by decide, by decide⟩
 intro G d hF
 unfold c_Infer_init
 refine XSim.cons ?_ ?_
 refine SSim.setF ?_ ?_ ?_ ?_
 refine ESim.nameOf ?_
 decide +kernel
 refine ESim.lst ?_ ?_
 exact LSim.nil
 decide
 decide
 first | exact fun _ _ => rfl | (intro env h; cases env; cases h; rfl)
 refine XSim.cons ?_ ?_
 refine SSim.setF ?_ ?_ ?_ ?_
 refine ESim.nameOf ?_
 decide +kernel
 refine ESim.lst ?_ ?_
 exact LSim.nil
 decide
 decide
 first | exact fun _ _ => rfl | (intro env h; cases env; cases h; rfl)
 refine XSim.cons ?_ ?_
 refine SSim.setF ?_ ?_ ?_ ?_
 refine ESim.nameOf ?_
 decide +kernel
 refine ESim.lst ?_ ?_
 exact LSim.nil
 decide
 decide
 first | exact fun _ _ => rfl | (intro env h; cases env; cases h; rfl)
 exact XSim.nil
noncomputable def r_Infer_fresh : List (Str × Nat) := [("self", 0)]
theorem rho_Infer_fresh : RhoOk r_Infer_fresh := by unfold RhoOk; decide +kernel
theorem k_Infer_fresh : ∃ sc body, defOf 2 = some (sc, body) ∧ NameOk sc r_Infer_fresh ["self"] ∧ ∀ (G : Gd) (d : Nat), AllF G lawP d → XSim G lawP d sc r_Infer_fresh body c_Infer_fresh := by
 refine ⟨_, _, rfl, ?_, ?_⟩
 exact ⟨rfl, rfl, rfl, by decide, by decide, by decide⟩
 intro G d hF
 unfold c_Infer_fresh
 refine XSim.cons ?_ ?_
 refine SSim.expr ?_ no_inter (fun _ => rfl)
 refine ESim.pm call_append PySem.F.plainAttrs_list PySem.F.slot_list_append PySem.F.type_list_append ?_ ?_ (fun _ => rfl)
 refine ESim.fld ?_ ?_ (fun _ => rfl)
 refine ESim.nameOf ?_
 decide +kernel
 decide
 refine Args.cons ?_ ?_ (fun _ => rfl)
 exact ESim.none
 exact Args.none
 refine XSim.cons ?_ ?_
 refine SSim.expr ?_ no_inter (fun _ => rfl)
 refine ESim.pm call_append PySem.F.plainAttrs_list PySem.F.slot_list_append PySem.F.type_list_append ?_ ?_ (fun _ => rfl)
 refine ESim.fld ?_ ?_ (fun _ => rfl)
 refine ESim.nameOf ?_
 decide +kernel
 decide
 refine Args.cons ?_ ?_ (fun _ => rfl)
 exact ESim.bool
 exact Args.none
 refine XSim.cons ?_ ?_
 refine SSim.ret ?_
 refine ESim.tup ?_ ?_
 refine LSim.cons ?_ ?_ ?_
 refine ESim.str ?_
 decide +kernel
 refine LSim.cons ?_ ?_ ?_
 refine ESim.binop op2_sub ?_ ?_
 refine ESim.prim call_len keep_builtin ?_ boot_len ?_ ?_ ?_ ?_
 decide
 decide
 decide
 decide
 refine Args.cons ?_ ?_ (fun _ => rfl)
 refine ESim.fld ?_ ?_ (fun _ => rfl)
 refine ESim.nameOf ?_
 decide +kernel
 decide
 exact Args.none
 exact ESim.int
 exact LSim.nil
 intro; rfl
 intro; rfl
 decide
 exact XSim.nil
noncomputable def r_Infer_fresh_int : List (Str × Nat) := [("self", 0)]
theorem rho_Infer_fresh_int : RhoOk r_Infer_fresh_int := by unfold RhoOk; decide +kernel
theorem k_Infer_fresh_int : ∃ sc body, defOf 3 = some (sc, body) ∧ NameOk sc r_Infer_fresh_int ["self"] ∧ ∀ (G : Gd) (d : Nat), AllF G lawP d → XSim G lawP d sc r_Infer_fresh_int body c_Infer_fresh_int := by
 refine ⟨_, _, rfl, ?_, ?_⟩
 exact ⟨rfl, rfl, rfl, by decide, by decide, by decide⟩
 intro G d hF
 unfold c_Infer_fresh_int
 refine XSim.cons ?_ ?_
 refine SSim.expr ?_ no_inter (fun _ => rfl)
 refine ESim.pm call_append PySem.F.plainAttrs_list PySem.F.slot_list_append PySem.F.type_list_append ?_ ?_ (fun _ => rfl)
 refine ESim.fld ?_ ?_ (fun _ => rfl)
 refine ESim.nameOf ?_
 decide +kernel
 decide
 refine Args.cons ?_ ?_ (fun _ => rfl)
 exact ESim.none
 exact Args.none
 refine XSim.cons ?_ ?_
 refine SSim.expr ?_ no_inter (fun _ => rfl)
 refine ESim.pm call_append PySem.F.plainAttrs_list PySem.F.slot_list_append PySem.F.type_list_append ?_ ?_ (fun _ => rfl)
 refine ESim.fld ?_ ?_ (fun _ => rfl)
 refine ESim.nameOf ?_
 decide +kernel
 decide
 refine Args.cons ?_ ?_ (fun _ => rfl)
 exact ESim.bool
 exact Args.none
 refine XSim.cons ?_ ?_
 refine SSim.ret ?_
 refine ESim.tup ?_ ?_
 refine LSim.cons ?_ ?_ ?_
 refine ESim.str ?_
 decide +kernel
 refine LSim.cons ?_ ?_ ?_
 refine ESim.binop op2_sub ?_ ?_
 refine ESim.prim call_len keep_builtin ?_ boot_len ?_ ?_ ?_ ?_
 decide
 decide
 decide
 decide
 refine Args.cons ?_ ?_ (fun _ => rfl)
 refine ESim.fld ?_ ?_ (fun _ => rfl)
 refine ESim.nameOf ?_
 decide +kernel
 decide
 exact Args.none
 exact ESim.int
 exact LSim.nil
 intro; rfl
 intro; rfl
 decide
 exact XSim.nil
noncomputable def r_Infer_shallow : List (Str × Nat) := [("self", 0), ("told", 1)]
theorem rho_Infer_shallow : RhoOk r_Infer_shallow := by unfold RhoOk; decide +kernel
theorem k_Infer_shallow : ∃ sc body, defOf 4 = some (sc, body) ∧ NameOk sc r_Infer_shallow ["self", "told"] ∧ ∀ (G : Gd) (d : Nat), AllF G lawP d → XSim G lawP d sc r_Infer_shallow body c_Infer_shallow := by
 refine ⟨_, _, rfl, ?_, ?_⟩
 exact ⟨rfl, rfl, rfl, by decide, by decide, by decide⟩
 intro G d hF
 unfold c_Infer_shallow
 refine XSim.cons ?_ ?_
 refine SSim.whl ?_ ?_
 refine TSim.boolop ?_
 refine BTSim.and ?_ ?_
 refine TSim.cmp op2_in ?_ ?_ rfl
 refine ESim.sub (op2_idx (fun _ _ => rfl)) ?_ ?_
 refine ESim.nameOf ?_
 decide +kernel
 exact ESim.int
 refine ESim.tup ?_ ?_
 refine LSim.cons ?_ ?_ ?_
 refine ESim.str ?_
 decide +kernel
 refine LSim.cons ?_ ?_ ?_
 refine ESim.str ?_
 decide +kernel
 exact LSim.nil
 intro; rfl
 intro; rfl
 decide
 refine BTSim.last ?_
 refine TSim.op1 (.inr ⟨rfl, rfl⟩) ?_ rfl
 refine ESim.sub (op2_idx (fun _ _ => rfl)) ?_ ?_
 refine ESim.fld ?_ ?_ (fun _ => rfl)
 refine ESim.nameOf ?_
 decide +kernel
 decide
 refine ESim.sub (op2_idx (fun _ _ => rfl)) ?_ ?_
 refine ESim.nameOf ?_
 decide +kernel
 exact ESim.int
 refine XSim.cons ?_ ?_
 refine SSim.asgN ?_ ?_ ?_ ?_ ?_
 decide
 first | exact .inl (by decide) | exact .inr (by decide)
 exact rho_Infer_shallow
 refine ESim.sub (op2_idx (fun _ _ => rfl)) ?_ ?_
 refine ESim.fld ?_ ?_ (fun _ => rfl)
 refine ESim.nameOf ?_
 decide +kernel
 decide
 refine ESim.sub (op2_idx (fun _ _ => rfl)) ?_ ?_
 refine ESim.nameOf ?_
 decide +kernel
 exact ESim.int
 first | exact fun _ _ => rfl | (intro env h; cases env; cases h; rfl)
 exact XSim.nil
 refine XSim.cons ?_ ?_
 refine SSim.ret ?_
 refine ESim.nameOf ?_
 decide +kernel
 exact XSim.nil
noncomputable def r_Infer_occurs : List (Str × Nat) := [("self", 0), ("unknown", 1), ("told", 2), ("left", 3), ("many", 4), ("here", 5)]
theorem rho_Infer_occurs : RhoOk r_Infer_occurs := by unfold RhoOk; decide +kernel
theorem k_Infer_occurs : ∃ sc body, defOf 5 = some (sc, body) ∧ NameOk sc r_Infer_occurs ["self", "unknown", "told"] ∧ ∀ (G : Gd) (d : Nat), AllF G lawP d → XSim G lawP d sc r_Infer_occurs body c_Infer_occurs := by
 refine ⟨_, _, rfl, ?_, ?_⟩
 exact ⟨rfl, rfl, rfl, by decide, by decide, by decide⟩
 intro G d hF
 unfold c_Infer_occurs
 refine XSim.cons ?_ ?_
 refine SSim.asg2 ?_ ?_ ?_ ?_ ?_ rho_Infer_occurs ?_ ?_ ?_ ?_
 decide
 first | exact .inl (by decide) | exact .inr (by decide)
 decide
 first | exact .inl (by decide) | exact .inr (by decide)
 decide
 refine ESim.tup ?_ ?_
 refine LSim.cons ?_ ?_ ?_
 refine ESim.lst ?_ ?_
 refine LSim.cons ?_ ?_ ?_
 refine ESim.nameOf ?_
 decide +kernel
 exact LSim.nil
 intro; rfl
 decide
 refine LSim.cons ?_ ?_ ?_
 exact ESim.int
 exact LSim.nil
 intro; rfl
 intro; rfl
 decide
 first | exact fun _ _ => rfl | (intro env h; cases env; cases h; rfl)
 (intro env h _; cases env; cases h; rfl)
 (intro env h; cases env; cases h; rfl)
 refine XSim.cons ?_ ?_
 refine SSim.whl ?_ ?_
 refine TSim.neN (.inl ⟨rfl, rfl⟩) ?_ rfl
 refine ESim.nameOf ?_
 decide +kernel
 refine XSim.cons ?_ ?_
 refine SSim.asgN ?_ ?_ ?_ ?_ ?_
 decide
 first | exact .inl (by decide) | exact .inr (by decide)
 exact rho_Infer_occurs
 refine ESim.callM hF lawP_ok ?_ ?_ (fun _ => rfl)
 refine ESim.nameOf ?_
 decide +kernel
 refine Args.cons ?_ ?_ (fun _ => rfl)
 refine ESim.pm call_pop PySem.F.plainAttrs_list PySem.F.slot_list_pop PySem.F.type_list_pop ?_ ?_ (fun _ => rfl)
 refine ESim.nameOf ?_
 decide +kernel
 exact Args.none
 exact Args.none
 first | exact fun _ _ => rfl | (intro env h; cases env; cases h; rfl)
 refine XSim.cons ?_ ?_
 refine SSim.iff ?_ ?_ ?_
 refine TSim.cmp op2_eq ?_ ?_ rfl
 refine ESim.nameOf ?_
 decide +kernel
 refine ESim.nameOf ?_
 decide +kernel
 refine XSim.cons ?_ ?_
 refine SSim.ret ?_
 exact ESim.bool
 exact XSim.nil
 exact XSim.nil
 refine XSim.cons ?_ ?_
 refine SSim.asgN ?_ ?_ ?_ ?_ ?_
 decide
 first | exact .inl (by decide) | exact .inr (by decide)
 exact rho_Infer_occurs
 refine ESim.binop op2_add ?_ ?_
 refine ESim.nameOf ?_
 decide +kernel
 exact ESim.int
 first | exact fun _ _ => rfl | (intro env h; cases env; cases h; rfl)
 refine XSim.cons ?_ ?_
 refine SSim.iff ?_ ?_ ?_
 refine TSim.cmp op2_gt ?_ ?_ rfl
 refine ESim.nameOf ?_
 decide +kernel
 refine ESim.most ?_
 decide
 refine XSim.cons ?_ ?_
 exact SSim.never
 exact XSim.nil
 exact XSim.nil
 refine XSim.cons ?_ ?_
 refine SSim.expr ?_ no_inter (fun _ => rfl)
 refine ESim.pm call_extend PySem.F.plainAttrs_list PySem.F.slot_list_extend PySem.F.type_list_extend ?_ ?_ (fun _ => rfl)
 refine ESim.nameOf ?_
 decide +kernel
 refine Args.cons ?_ ?_ (fun _ => rfl)
 refine ESim.callF hF ?_ ?_ ?_ ?_
 decide
 decide
 decide
 refine Args.cons ?_ ?_ (fun _ => rfl)
 refine ESim.nameOf ?_
 decide +kernel
 exact Args.none
 exact Args.none
 exact XSim.nil
 refine XSim.cons ?_ ?_
 refine SSim.ret ?_
 exact ESim.bool
 exact XSim.nil
noncomputable def r_Infer_bind : List (Str × Nat) := [("self", 0), ("unknown", 1), ("told", 2)]
theorem rho_Infer_bind : RhoOk r_Infer_bind := by unfold RhoOk; decide +kernel
theorem k_Infer_bind : ∃ sc body, defOf 6 = some (sc, body) ∧ NameOk sc r_Infer_bind ["self", "unknown", "told"] ∧ ∀ (G : Gd) (d : Nat), AllF G lawP d → XSim G lawP d sc r_Infer_bind body c_Infer_bind := by
 refine ⟨_, _, rfl, ?_, ?_⟩
 exact ⟨rfl, rfl, rfl, by decide, by decide, by decide⟩
 intro G d hF
 unfold c_Infer_bind
 refine XSim.cons ?_ ?_
 refine SSim.iff ?_ XSim.never XSim.nil
 refine TSim.boolop ?_
 refine BTSim.and ?_ ?_
 refine TSim.cmp op2_eq ?_ ?_ rfl
 refine ESim.sub (op2_idx (fun _ _ => rfl)) ?_ ?_
 refine ESim.nameOf ?_
 decide +kernel
 exact ESim.int
 refine ESim.str ?_
 decide +kernel
 refine BTSim.last ?_
 refine TSim.cmp op2_notIn ?_ ?_ rfl
 refine ESim.sub (op2_idx (fun _ _ => rfl)) ?_ ?_
 refine ESim.nameOf ?_
 decide +kernel
 exact ESim.int
 refine ESim.tup ?_ ?_
 refine LSim.cons ?_ ?_ ?_
 refine ESim.str ?_
 decide +kernel
 refine LSim.cons ?_ ?_ ?_
 refine ESim.str ?_
 decide +kernel
 exact LSim.nil
 intro; rfl
 intro; rfl
 decide
 refine XSim.cons ?_ ?_
 refine SSim.iff ?_ XSim.never XSim.nil
 refine TSim.val ?_ (fun _ _ => rfl)
 refine ESim.gc ?_
 refine ESim.callM hF lawP_ok ?_ ?_ (fun _ => rfl)
 refine ESim.nameOf ?_
 decide +kernel
 refine Args.cons ?_ ?_ (fun _ => rfl)
 refine ESim.nameOf ?_
 decide +kernel
 refine Args.cons ?_ ?_ (fun _ => rfl)
 refine ESim.nameOf ?_
 decide +kernel
 exact Args.none
 refine XSim.cons ?_ XSim.nil
 refine SSim.setI ?_ ?_ ?_ ?_
 refine ESim.fld ?_ ?_ (fun _ => rfl)
 refine ESim.nameOf ?_
 decide +kernel
 decide
 refine ESim.sub (op2_idx (fun _ _ => rfl)) ?_ ?_
 refine ESim.nameOf ?_
 decide +kernel
 exact ESim.int
 refine ESim.nameOf ?_
 decide +kernel
 first | exact fun _ _ => rfl | (intro env h; cases env; cases h; rfl)
noncomputable def r_Infer_are_alike : List (Str × Nat) := [("self", 0), ("one", 1), ("other", 2)]
theorem rho_Infer_are_alike : RhoOk r_Infer_are_alike := by unfold RhoOk; decide +kernel
theorem k_Infer_are_alike : ∃ sc body, defOf 7 = some (sc, body) ∧ NameOk sc r_Infer_are_alike ["self", "one", "other"] ∧ ∀ (G : Gd) (d : Nat), AllF G lawP d → XSim G lawP d sc r_Infer_are_alike body c_Infer_are_alike := by
 refine ⟨_, _, rfl, ?_, ?_⟩
 exact ⟨rfl, rfl, rfl, by decide, by decide, by decide⟩
 intro G d hF
 unfold c_Infer_are_alike
 refine XSim.cons ?_ ?_
 refine SSim.iff ?_ ?_ ?_
 refine TSim.boolop ?_
 refine BTSim.or ?_ ?_
 refine TSim.cmp op2_ne ?_ ?_ rfl
 refine ESim.sub (op2_idx (fun _ _ => rfl)) ?_ ?_
 refine ESim.nameOf ?_
 decide +kernel
 exact ESim.int
 refine ESim.sub (op2_idx (fun _ _ => rfl)) ?_ ?_
 refine ESim.nameOf ?_
 decide +kernel
 exact ESim.int
 refine BTSim.last ?_
 refine TSim.cmp op2_ne ?_ ?_ rfl
 refine ESim.prim call_len keep_builtin ?_ boot_len ?_ ?_ ?_ ?_
 decide
 decide
 decide
 decide
 refine Args.cons ?_ ?_ (fun _ => rfl)
 refine ESim.callF hF ?_ ?_ ?_ ?_
 decide
 decide
 decide
 refine Args.cons ?_ ?_ (fun _ => rfl)
 refine ESim.nameOf ?_
 decide +kernel
 exact Args.none
 exact Args.none
 refine ESim.prim call_len keep_builtin ?_ boot_len ?_ ?_ ?_ ?_
 decide
 decide
 decide
 decide
 refine Args.cons ?_ ?_ (fun _ => rfl)
 refine ESim.callF hF ?_ ?_ ?_ ?_
 decide
 decide
 decide
 refine Args.cons ?_ ?_ (fun _ => rfl)
 refine ESim.nameOf ?_
 decide +kernel
 exact Args.none
 exact Args.none
 refine XSim.cons ?_ ?_
 refine SSim.ret ?_
 exact ESim.bool
 exact XSim.nil
 exact XSim.nil
 refine XSim.cons ?_ ?_
 refine SSim.iff ?_ ?_ ?_
 refine TSim.cmp op2_in ?_ ?_ rfl
 refine ESim.sub (op2_idx (fun _ _ => rfl)) ?_ ?_
 refine ESim.nameOf ?_
 decide +kernel
 exact ESim.int
 refine ESim.tup ?_ ?_
 refine LSim.cons ?_ ?_ ?_
 refine ESim.str ?_
 decide +kernel
 refine LSim.cons ?_ ?_ ?_
 refine ESim.str ?_
 decide +kernel
 refine LSim.cons ?_ ?_ ?_
 refine ESim.str ?_
 decide +kernel
 exact LSim.nil
 intro; rfl
 intro; rfl
 intro; rfl
 decide
 refine XSim.cons ?_ ?_
 refine SSim.ret ?_
 refine ESim.cmp op2_eq ?_ ?_ rfl
 refine ESim.sub (op2_idx (fun _ _ => rfl)) ?_ ?_
 refine ESim.nameOf ?_
 decide +kernel
 exact ESim.int
 refine ESim.sub (op2_idx (fun _ _ => rfl)) ?_ ?_
 refine ESim.nameOf ?_
 decide +kernel
 exact ESim.int
 exact XSim.nil
 exact XSim.nil
 refine XSim.cons ?_ ?_
 refine SSim.ret ?_
 refine ESim.ite ?_ ?_ ?_
 refine TSim.cmp op2_in ?_ ?_ rfl
 refine ESim.sub (op2_idx (fun _ _ => rfl)) ?_ ?_
 refine ESim.nameOf ?_
 decide +kernel
 exact ESim.int
 refine ESim.tup ?_ ?_
 refine LSim.cons ?_ ?_ ?_
 refine ESim.str ?_
 decide +kernel
 refine LSim.cons ?_ ?_ ?_
 refine ESim.str ?_
 decide +kernel
 exact LSim.nil
 intro; rfl
 intro; rfl
 decide
 refine ESim.cmp op2_eq ?_ ?_ rfl
 refine ESim.sub (op2_idx (fun _ _ => rfl)) ?_ ?_
 refine ESim.nameOf ?_
 decide +kernel
 exact ESim.int
 refine ESim.sub (op2_idx (fun _ _ => rfl)) ?_ ?_
 refine ESim.nameOf ?_
 decide +kernel
 exact ESim.int
 exact ESim.bool
 exact XSim.nil
noncomputable def r_head_pairs : List (Str × Nat) := [("one", 0), ("other", 1), ("kind", 2), ("alike", 3)]
theorem rho_head_pairs : RhoOk r_head_pairs := by unfold RhoOk; decide +kernel
theorem k_head_pairs : ∃ sc body, defOf 8 = some (sc, body) ∧ NameOk sc r_head_pairs ["one", "other"] ∧ ∀ (G : Gd) (d : Nat), AllF G lawP d → XSim G lawP d sc r_head_pairs body c_head_pairs := by
 refine ⟨_, _, rfl, ?_, ?_⟩
 exact ⟨rfl, rfl, rfl, by decide, by decide, by decide⟩
 intro G d hF
 unfold c_head_pairs
 refine XSim.cons ?_ ?_
 refine SSim.iff ?_ ?_ ?_
 refine TSim.cmp op2_ne ?_ ?_ rfl
 refine ESim.sub (op2_idx (fun _ _ => rfl)) ?_ ?_
 refine ESim.nameOf ?_
 decide +kernel
 exact ESim.int
 refine ESim.sub (op2_idx (fun _ _ => rfl)) ?_ ?_
 refine ESim.nameOf ?_
 decide +kernel
 exact ESim.int
 refine XSim.cons ?_ ?_
 refine SSim.ret ?_
 exact ESim.none
 exact XSim.nil
 exact XSim.nil
 refine XSim.cons ?_ ?_
 refine SSim.asgN ?_ ?_ ?_ ?_ ?_
 decide
 first | exact .inl (by decide) | exact .inr (by decide)
 exact rho_head_pairs
 refine ESim.sub (op2_idx (fun _ _ => rfl)) ?_ ?_
 refine ESim.nameOf ?_
 decide +kernel
 exact ESim.int
 first | exact fun _ _ => rfl | (intro env h; cases env; cases h; rfl)
 refine XSim.cons ?_ ?_
 refine SSim.iff ?_ ?_ ?_
 refine TSim.cmp op2_in ?_ ?_ rfl
 refine ESim.nameOf ?_
 decide +kernel
 refine ESim.tup ?_ ?_
 refine LSim.cons ?_ ?_ ?_
 refine ESim.str ?_
 decide +kernel
 refine LSim.cons ?_ ?_ ?_
 refine ESim.str ?_
 decide +kernel
 refine LSim.cons ?_ ?_ ?_
 refine ESim.str ?_
 decide +kernel
 refine LSim.cons ?_ ?_ ?_
 refine ESim.str ?_
 decide +kernel
 exact LSim.nil
 intro; rfl
 intro; rfl
 intro; rfl
 intro; rfl
 decide
 refine XSim.cons ?_ ?_
 refine SSim.ret ?_
 refine ESim.ite ?_ ?_ ?_
 refine TSim.cmp op2_eq ?_ ?_ rfl
 refine ESim.sub (op2_idx (fun _ _ => rfl)) ?_ ?_
 refine ESim.nameOf ?_
 decide +kernel
 exact ESim.int
 refine ESim.sub (op2_idx (fun _ _ => rfl)) ?_ ?_
 refine ESim.nameOf ?_
 decide +kernel
 exact ESim.int
 refine ESim.lst ?_ ?_
 exact LSim.nil
 decide
 exact ESim.none
 exact XSim.nil
 exact XSim.nil
 refine XSim.cons ?_ ?_
 refine SSim.iff ?_ ?_ ?_
 refine TSim.cmp op2_eq ?_ ?_ rfl
 refine ESim.nameOf ?_
 decide +kernel
 refine ESim.str ?_
 decide +kernel
 refine XSim.cons ?_ ?_
 refine SSim.ret ?_
 refine ESim.ite ?_ ?_ ?_
 refine TSim.cmp op2_eq ?_ ?_ rfl
 refine ESim.prim call_len keep_builtin ?_ boot_len ?_ ?_ ?_ ?_
 decide
 decide
 decide
 decide
 refine Args.cons ?_ ?_ (fun _ => rfl)
 refine ESim.sub (op2_idx (fun _ _ => rfl)) ?_ ?_
 refine ESim.nameOf ?_
 decide +kernel
 exact ESim.int
 exact Args.none
 refine ESim.prim call_len keep_builtin ?_ boot_len ?_ ?_ ?_ ?_
 decide
 decide
 decide
 decide
 refine Args.cons ?_ ?_ (fun _ => rfl)
 refine ESim.sub (op2_idx (fun _ _ => rfl)) ?_ ?_
 refine ESim.nameOf ?_
 decide +kernel
 exact ESim.int
 exact Args.none
 refine ESim.listZip ?_ ?_ ?_
 refine Args.cons ?_ ?_ (fun _ => rfl)
 refine ESim.sub (op2_idx (fun _ _ => rfl)) ?_ ?_
 refine ESim.nameOf ?_
 decide +kernel
 exact ESim.int
 refine Args.cons ?_ ?_ (fun _ => rfl)
 refine ESim.sub (op2_idx (fun _ _ => rfl)) ?_ ?_
 refine ESim.nameOf ?_
 decide +kernel
 exact ESim.int
 exact Args.none
 decide
 decide
 exact ESim.none
 exact XSim.nil
 exact XSim.nil
 refine XSim.cons ?_ ?_
 refine SSim.iff ?_ ?_ ?_
 refine TSim.cmp op2_eq ?_ ?_ rfl
 refine ESim.nameOf ?_
 decide +kernel
 refine ESim.str ?_
 decide +kernel
 refine XSim.cons ?_ ?_
 refine SSim.ret ?_
 refine ESim.ite ?_ ?_ ?_
 refine TSim.cmp op2_eq ?_ ?_ rfl
 refine ESim.sub (op2_idx (fun _ _ => rfl)) ?_ ?_
 refine ESim.nameOf ?_
 decide +kernel
 exact ESim.int
 refine ESim.sub (op2_idx (fun _ _ => rfl)) ?_ ?_
 refine ESim.nameOf ?_
 decide +kernel
 exact ESim.int
 refine ESim.lst ?_ ?_
 refine LSim.cons ?_ ?_ ?_
 refine ESim.tup ?_ ?_
 refine LSim.cons ?_ ?_ ?_
 refine ESim.sub (op2_idx (fun _ _ => rfl)) ?_ ?_
 refine ESim.nameOf ?_
 decide +kernel
 exact ESim.int
 refine LSim.cons ?_ ?_ ?_
 refine ESim.sub (op2_idx (fun _ _ => rfl)) ?_ ?_
 refine ESim.nameOf ?_
 decide +kernel
 exact ESim.int
 exact LSim.nil
 intro; rfl
 intro; rfl
 decide
 exact LSim.nil
 intro; rfl
 decide
 exact ESim.none
 exact XSim.nil
 exact XSim.nil
 refine XSim.cons ?_ ?_
 refine SSim.iff ?_ ?_ ?_
 refine TSim.cmp op2_eq ?_ ?_ rfl
 refine ESim.nameOf ?_
 decide +kernel
 refine ESim.str ?_
 decide +kernel
 refine XSim.cons ?_ ?_
 refine SSim.ret ?_
 refine ESim.lst ?_ ?_
 refine LSim.cons ?_ ?_ ?_
 refine ESim.tup ?_ ?_
 refine LSim.cons ?_ ?_ ?_
 refine ESim.sub (op2_idx (fun _ _ => rfl)) ?_ ?_
 refine ESim.nameOf ?_
 decide +kernel
 exact ESim.int
 refine LSim.cons ?_ ?_ ?_
 refine ESim.sub (op2_idx (fun _ _ => rfl)) ?_ ?_
 refine ESim.nameOf ?_
 decide +kernel
 exact ESim.int
 exact LSim.nil
 intro; rfl
 intro; rfl
 decide
 exact LSim.nil
 intro; rfl
 decide
 exact XSim.nil
 exact XSim.nil
 refine XSim.cons ?_ ?_
 refine SSim.iff ?_ ?_ ?_
 refine TSim.cmp op2_eq ?_ ?_ rfl
 refine ESim.nameOf ?_
 decide +kernel
 refine ESim.str ?_
 decide +kernel
 refine XSim.cons ?_ ?_
 refine SSim.ret ?_
 refine ESim.ite ?_ ?_ ?_
 refine TSim.cmp op2_eq ?_ ?_ rfl
 refine ESim.sub (op2_idx (fun _ _ => rfl)) ?_ ?_
 refine ESim.nameOf ?_
 decide +kernel
 exact ESim.int
 refine ESim.sub (op2_idx (fun _ _ => rfl)) ?_ ?_
 refine ESim.nameOf ?_
 decide +kernel
 exact ESim.int
 refine ESim.lst ?_ ?_
 refine LSim.cons ?_ ?_ ?_
 refine ESim.tup ?_ ?_
 refine LSim.cons ?_ ?_ ?_
 refine ESim.sub (op2_idx (fun _ _ => rfl)) ?_ ?_
 refine ESim.nameOf ?_
 decide +kernel
 exact ESim.int
 refine LSim.cons ?_ ?_ ?_
 refine ESim.sub (op2_idx (fun _ _ => rfl)) ?_ ?_
 refine ESim.nameOf ?_
 decide +kernel
 exact ESim.int
 exact LSim.nil
 intro; rfl
 intro; rfl
 decide
 exact LSim.nil
 intro; rfl
 decide
 exact ESim.none
 exact XSim.nil
 exact XSim.nil
 refine XSim.cons ?_ ?_
 refine SSim.iff ?_ ?_ ?_
 refine TSim.cmp op2_eq ?_ ?_ rfl
 refine ESim.nameOf ?_
 decide +kernel
 refine ESim.str ?_
 decide +kernel
 refine XSim.cons ?_ ?_
 refine SSim.asgN ?_ ?_ ?_ ?_ ?_
 decide
 first | exact .inl (by decide) | exact .inr (by decide)
 exact rho_head_pairs
 refine ESim.boolop ?_
 refine BSim.and ?_ ?_
 refine ESim.cmp op2_eq ?_ ?_ rfl
 refine ESim.sub (op2_idx (fun _ _ => rfl)) ?_ ?_
 refine ESim.nameOf ?_
 decide +kernel
 exact ESim.int
 refine ESim.sub (op2_idx (fun _ _ => rfl)) ?_ ?_
 refine ESim.nameOf ?_
 decide +kernel
 exact ESim.int
 refine BSim.last ?_
 refine ESim.cmp op2_eq ?_ ?_ rfl
 refine ESim.prim call_len keep_builtin ?_ boot_len ?_ ?_ ?_ ?_
 decide
 decide
 decide
 decide
 refine Args.cons ?_ ?_ (fun _ => rfl)
 refine ESim.sub (op2_idx (fun _ _ => rfl)) ?_ ?_
 refine ESim.nameOf ?_
 decide +kernel
 exact ESim.int
 exact Args.none
 refine ESim.prim call_len keep_builtin ?_ boot_len ?_ ?_ ?_ ?_
 decide
 decide
 decide
 decide
 refine Args.cons ?_ ?_ (fun _ => rfl)
 refine ESim.sub (op2_idx (fun _ _ => rfl)) ?_ ?_
 refine ESim.nameOf ?_
 decide +kernel
 exact ESim.int
 exact Args.none
 first | exact fun _ _ => rfl | (intro env h; cases env; cases h; rfl)
 refine XSim.cons ?_ ?_
 refine SSim.ret ?_
 refine ESim.ite ?_ ?_ ?_
 refine TSim.val ?_ (fun _ _ => rfl)
 refine ESim.nameOf ?_
 decide +kernel
 refine ESim.listZip ?_ ?_ ?_
 refine Args.cons ?_ ?_ (fun _ => rfl)
 refine ESim.sub (op2_idx (fun _ _ => rfl)) ?_ ?_
 refine ESim.nameOf ?_
 decide +kernel
 exact ESim.int
 refine Args.cons ?_ ?_ (fun _ => rfl)
 refine ESim.sub (op2_idx (fun _ _ => rfl)) ?_ ?_
 refine ESim.nameOf ?_
 decide +kernel
 exact ESim.int
 exact Args.none
 decide
 decide
 exact ESim.none
 exact XSim.nil
 exact XSim.nil
 refine XSim.cons ?_ ?_
 refine SSim.ret ?_
 refine ESim.lst ?_ ?_
 exact LSim.nil
 decide
 exact XSim.nil
noncomputable def r_filled : List (Str × Nat) := [("T", 0), ("found", 1), ("kind", 2)]
theorem rho_filled : RhoOk r_filled := by unfold RhoOk; decide +kernel
noncomputable def r_filled_0 : List (Str × Nat) := [("part", 3), ("found", 1)]
theorem rho_filled_0 : RhoOk r_filled_0 := by unfold RhoOk; decide +kernel
noncomputable def r_filled_1 : List (Str × Nat) := [("part", 4), ("found", 1)]
theorem rho_filled_1 : RhoOk r_filled_1 := by unfold RhoOk; decide +kernel
theorem k_filled : ∃ sc body, defOf 9 = some (sc, body) ∧ NameOk sc r_filled ["T", "found"] ∧ ∀ (G : Gd) (d : Nat), AllF G lawP d → XSim G lawP d sc r_filled body c_filled := by
 refine ⟨_, _, rfl, ?_, ?_⟩
 exact ⟨rfl, rfl, rfl, by decide, by decide, by decide⟩
 intro G d hF
 unfold c_filled
 refine XSim.cons ?_ ?_
 refine SSim.asgN ?_ ?_ ?_ ?_ ?_
 decide
 first | exact .inl (by decide) | exact .inr (by decide)
 exact rho_filled
 refine ESim.sub (op2_idx (fun _ _ => rfl)) ?_ ?_
 refine ESim.nameOf ?_
 decide +kernel
 exact ESim.int
 first | exact fun _ _ => rfl | (intro env h; cases env; cases h; rfl)
 refine XSim.cons ?_ ?_
 refine SSim.iff ?_ ?_ ?_
 refine TSim.cmp op2_eq ?_ ?_ rfl
 refine ESim.nameOf ?_
 decide +kernel
 refine ESim.str ?_
 decide +kernel
 refine XSim.cons ?_ ?_
 refine SSim.ret ?_
 refine ESim.pm call_get PySem.F.plainAttrs_dict PySem.F.slot_dict_get PySem.F.type_dict_get ?_ ?_ (fun _ => rfl)
 refine ESim.nameOf ?_
 decide +kernel
 refine Args.cons ?_ ?_ (fun _ => rfl)
 refine ESim.sub (op2_idx (fun _ _ => rfl)) ?_ ?_
 refine ESim.nameOf ?_
 decide +kernel
 exact ESim.int
 refine Args.cons ?_ ?_ (fun _ => rfl)
 refine ESim.nameOf ?_
 decide +kernel
 exact Args.none
 exact XSim.nil
 exact XSim.nil
 refine XSim.cons ?_ ?_
 refine SSim.iff ?_ ?_ ?_
 refine TSim.cmp op2_eq ?_ ?_ rfl
 refine ESim.nameOf ?_
 decide +kernel
 refine ESim.str ?_
 decide +kernel
 refine XSim.cons ?_ ?_
 refine SSim.ret ?_
 refine ESim.tup ?_ ?_
 refine LSim.cons ?_ ?_ ?_
 refine ESim.str ?_
 decide +kernel
 refine LSim.cons ?_ ?_ ?_
 refine ESim.prim call_tupleOf keep_type ?_ boot_tuple ?_ ?_ ?_ ?_
 decide
 decide
 decide
 decide
 refine Args.cons ?_ ?_ (fun _ => rfl)
 refine ESim.comp (kd := .vals) (ρ' := r_filled_1) ⟨rfl, by decide, by decide, by decide, by decide, by decide⟩ PatOk.var ?_ ?_ ?_ ?_ ?_ (fun _ _ => rfl)
 refine TgSim.own ?_ ?_ rho_filled_1
 decide
 decide
 refine SrcSim.vals ?_ (fun _ _ _ _ _ => rfl)
 refine ESim.sub (op2_idx (fun _ _ => rfl)) ?_ ?_
 refine ESim.nameOf ?_
 decide +kernel
 exact ESim.int
 exact CondSim.none
 refine ESim.callF hF ?_ ?_ ?_ ?_
 decide
 decide
 decide
 refine Args.cons ?_ ?_ (fun _ => rfl)
 refine ESim.nameOf ?_
 decide +kernel
 refine Args.cons ?_ ?_ (fun _ => rfl)
 refine ESim.nameOf ?_
 decide +kernel
 exact Args.none
 constructor
 exact Args.none
 exact LSim.nil
 intro; rfl
 intro; rfl
 decide
 exact XSim.nil
 exact XSim.nil
 refine XSim.cons ?_ ?_
 refine SSim.iff ?_ ?_ ?_
 refine TSim.cmp op2_eq ?_ ?_ rfl
 refine ESim.nameOf ?_
 decide +kernel
 refine ESim.str ?_
 decide +kernel
 refine XSim.cons ?_ ?_
 refine SSim.ret ?_
 refine ESim.tup ?_ ?_
 refine LSim.cons ?_ ?_ ?_
 refine ESim.str ?_
 decide +kernel
 refine LSim.cons ?_ ?_ ?_
 refine ESim.sub (op2_idx (fun _ _ => rfl)) ?_ ?_
 refine ESim.nameOf ?_
 decide +kernel
 exact ESim.int
 refine LSim.cons ?_ ?_ ?_
 refine ESim.sub (op2_idx (fun _ _ => rfl)) ?_ ?_
 refine ESim.nameOf ?_
 decide +kernel
 exact ESim.int
 refine LSim.cons ?_ ?_ ?_
 refine ESim.callF hF ?_ ?_ ?_ ?_
 decide
 decide
 decide
 refine Args.cons ?_ ?_ (fun _ => rfl)
 refine ESim.sub (op2_idx (fun _ _ => rfl)) ?_ ?_
 refine ESim.nameOf ?_
 decide +kernel
 exact ESim.int
 refine Args.cons ?_ ?_ (fun _ => rfl)
 refine ESim.nameOf ?_
 decide +kernel
 exact Args.none
 exact LSim.nil
 intro; rfl
 intro; rfl
 intro; rfl
 intro; rfl
 decide
 exact XSim.nil
 exact XSim.nil
 refine XSim.cons ?_ ?_
 refine SSim.iff ?_ ?_ ?_
 refine TSim.cmp op2_eq ?_ ?_ rfl
 refine ESim.nameOf ?_
 decide +kernel
 refine ESim.str ?_
 decide +kernel
 refine XSim.cons ?_ ?_
 refine SSim.ret ?_
 refine ESim.tup ?_ ?_
 refine LSim.cons ?_ ?_ ?_
 refine ESim.str ?_
 decide +kernel
 refine LSim.cons ?_ ?_ ?_
 refine ESim.callF hF ?_ ?_ ?_ ?_
 decide
 decide
 decide
 refine Args.cons ?_ ?_ (fun _ => rfl)
 refine ESim.sub (op2_idx (fun _ _ => rfl)) ?_ ?_
 refine ESim.nameOf ?_
 decide +kernel
 exact ESim.int
 refine Args.cons ?_ ?_ (fun _ => rfl)
 refine ESim.nameOf ?_
 decide +kernel
 exact Args.none
 exact LSim.nil
 intro; rfl
 intro; rfl
 decide
 exact XSim.nil
 exact XSim.nil
 refine XSim.cons ?_ ?_
 refine SSim.iff ?_ ?_ ?_
 refine TSim.cmp op2_eq ?_ ?_ rfl
 refine ESim.nameOf ?_
 decide +kernel
 refine ESim.str ?_
 decide +kernel
 refine XSim.cons ?_ ?_
 refine SSim.ret ?_
 refine ESim.tup ?_ ?_
 refine LSim.cons ?_ ?_ ?_
 refine ESim.str ?_
 decide +kernel
 refine LSim.cons ?_ ?_ ?_
 refine ESim.callF hF ?_ ?_ ?_ ?_
 decide
 decide
 decide
 refine Args.cons ?_ ?_ (fun _ => rfl)
 refine ESim.sub (op2_idx (fun _ _ => rfl)) ?_ ?_
 refine ESim.nameOf ?_
 decide +kernel
 exact ESim.int
 refine Args.cons ?_ ?_ (fun _ => rfl)
 refine ESim.nameOf ?_
 decide +kernel
 exact Args.none
 refine LSim.cons ?_ ?_ ?_
 refine ESim.sub (op2_idx (fun _ _ => rfl)) ?_ ?_
 refine ESim.nameOf ?_
 decide +kernel
 exact ESim.int
 exact LSim.nil
 intro; rfl
 intro; rfl
 intro; rfl
 decide
 exact XSim.nil
 exact XSim.nil
 refine XSim.cons ?_ ?_
 refine SSim.iff ?_ ?_ ?_
 refine TSim.cmp op2_eq ?_ ?_ rfl
 refine ESim.nameOf ?_
 decide +kernel
 refine ESim.str ?_
 decide +kernel
 refine XSim.cons ?_ ?_
 refine SSim.ret ?_
 refine ESim.tup ?_ ?_
 refine LSim.cons ?_ ?_ ?_
 refine ESim.str ?_
 decide +kernel
 refine LSim.cons ?_ ?_ ?_
 refine ESim.sub (op2_idx (fun _ _ => rfl)) ?_ ?_
 refine ESim.nameOf ?_
 decide +kernel
 exact ESim.int
 refine LSim.cons ?_ ?_ ?_
 refine ESim.sub (op2_idx (fun _ _ => rfl)) ?_ ?_
 refine ESim.nameOf ?_
 decide +kernel
 exact ESim.int
 refine LSim.cons ?_ ?_ ?_
 refine ESim.prim call_tupleOf keep_type ?_ boot_tuple ?_ ?_ ?_ ?_
 decide
 decide
 decide
 decide
 refine Args.cons ?_ ?_ (fun _ => rfl)
 refine ESim.comp (kd := .vals) (ρ' := r_filled_0) ⟨rfl, by decide, by decide, by decide, by decide, by decide⟩ PatOk.var ?_ ?_ ?_ ?_ ?_ (fun _ _ => rfl)
 refine TgSim.own ?_ ?_ rho_filled_0
 decide
 decide
 refine SrcSim.vals ?_ (fun _ _ _ _ _ => rfl)
 refine ESim.sub (op2_idx (fun _ _ => rfl)) ?_ ?_
 refine ESim.nameOf ?_
 decide +kernel
 exact ESim.int
 exact CondSim.none
 refine ESim.callF hF ?_ ?_ ?_ ?_
 decide
 decide
 decide
 refine Args.cons ?_ ?_ (fun _ => rfl)
 refine ESim.nameOf ?_
 decide +kernel
 refine Args.cons ?_ ?_ (fun _ => rfl)
 refine ESim.nameOf ?_
 decide +kernel
 exact Args.none
 constructor
 exact Args.none
 exact LSim.nil
 intro; rfl
 intro; rfl
 intro; rfl
 intro; rfl
 decide
 exact XSim.nil
 exact XSim.nil
 refine XSim.cons ?_ ?_
 refine SSim.ret ?_
 refine ESim.nameOf ?_
 decide +kernel
 exact XSim.nil
noncomputable def r_Both_init : List (Str × Nat) := [("self", 0)]
theorem rho_Both_init : RhoOk r_Both_init := by unfold RhoOk; decide +kernel
theorem k_Both_init : ∃ sc body, defOf 10 = some (sc, body) ∧ NameOk sc r_Both_init ["self"] ∧ ∀ (G : Gd) (d : Nat), AllF G lawP d → XSim G lawP d sc r_Both_init body c_Both_init := by
 refine ⟨_, _, rfl, ?_, ?_⟩
 exact ⟨rfl, rfl, rfl, by decide, by decide, by decide⟩
 intro G d hF
 unfold c_Both_init
 refine XSim.cons ?_ ?_
 refine SSim.setF ?_ ?_ ?_ ?_
 refine ESim.nameOf ?_
 decide +kernel
 exact ESim.dict
 decide
 first | exact fun _ _ => rfl | (intro env h; cases env; cases h; rfl)
 exact XSim.nil
noncomputable def r_Both_seen : List (Str × Nat) := [("self", 0), ("T", 1)]
theorem rho_Both_seen : RhoOk r_Both_seen := by unfold RhoOk; decide +kernel
theorem k_Both_seen : ∃ sc body, defOf 11 = some (sc, body) ∧ NameOk sc r_Both_seen ["self", "T"] ∧ ∀ (G : Gd) (d : Nat), AllF G lawP d → XSim G lawP d sc r_Both_seen body c_Both_seen := by
 refine ⟨_, _, rfl, ?_, ?_⟩
 exact ⟨rfl, rfl, rfl, by decide, by decide, by decide⟩
 intro G d hF
 unfold c_Both_seen
 refine XSim.cons ?_ ?_
 refine SSim.whl ?_ ?_
 refine TSim.boolop ?_
 refine BTSim.and ?_ ?_
 refine TSim.cmp op2_eq ?_ ?_ rfl
 refine ESim.sub (op2_idx (fun _ _ => rfl)) ?_ ?_
 refine ESim.nameOf ?_
 decide +kernel
 exact ESim.int
 refine ESim.str ?_
 decide +kernel
 refine BTSim.last ?_
 refine TSim.cmp op2_in ?_ ?_ rfl
 refine ESim.sub (op2_idx (fun _ _ => rfl)) ?_ ?_
 refine ESim.nameOf ?_
 decide +kernel
 exact ESim.int
 refine ESim.fld ?_ ?_ (fun _ => rfl)
 refine ESim.nameOf ?_
 decide +kernel
 decide
 refine XSim.cons ?_ ?_
 refine SSim.asgN ?_ ?_ ?_ ?_ ?_
 decide
 first | exact .inl (by decide) | exact .inr (by decide)
 exact rho_Both_seen
 refine ESim.sub (op2_idx (fun _ _ => rfl)) ?_ ?_
 refine ESim.fld ?_ ?_ (fun _ => rfl)
 refine ESim.nameOf ?_
 decide +kernel
 decide
 refine ESim.sub (op2_idx (fun _ _ => rfl)) ?_ ?_
 refine ESim.nameOf ?_
 decide +kernel
 exact ESim.int
 first | exact fun _ _ => rfl | (intro env h; cases env; cases h; rfl)
 exact XSim.nil
 refine XSim.cons ?_ ?_
 refine SSim.ret ?_
 refine ESim.nameOf ?_
 decide +kernel
 exact XSim.nil
end Mine
end

section
set_option maxHeartbeats 8000000
open PySem PySem.W PyProof.Rows PySem.Calls PySem.Spec PySem.SeqAt
namespace Mine
noncomputable def r_Both_holds_name : List (Str × Nat) := [("self", 0), ("T", 1), ("name", 2), ("left", 3), ("gone", 4), ("here", 5)]
theorem rho_Both_holds_name : RhoOk r_Both_holds_name := by unfold RhoOk; decide +kernel
noncomputable def r_Both_holds_name_0 : List (Str × Nat) := [("part", 6), ("same", 7)]
theorem rho_Both_holds_name_0 : RhoOk r_Both_holds_name_0 := by unfold RhoOk; decide +kernel
theorem k_Both_holds_name : ∃ sc body, defOf 12 = some (sc, body) ∧ NameOk sc r_Both_holds_name ["self", "T", "name"] ∧ ∀ (G : Gd) (d : Nat), AllF G lawP d → XSim G lawP d sc r_Both_holds_name body c_Both_holds_name := by
 refine ⟨_, _, rfl, ?_, ?_⟩
 exact ⟨rfl, rfl, rfl, by decide, by decide, by decide⟩
 intro G d hF
 unfold c_Both_holds_name
 refine XSim.cons ?_ ?_
 refine SSim.asg2 ?_ ?_ ?_ ?_ ?_ rho_Both_holds_name ?_ ?_ ?_ ?_
 decide
 first | exact .inl (by decide) | exact .inr (by decide)
 decide
 first | exact .inl (by decide) | exact .inr (by decide)
 decide
 refine ESim.tup ?_ ?_
 refine LSim.cons ?_ ?_ ?_
 refine ESim.lst ?_ ?_
 refine LSim.cons ?_ ?_ ?_
 refine ESim.nameOf ?_
 decide +kernel
 exact LSim.nil
 intro; rfl
 decide
 refine LSim.cons ?_ ?_ ?_
 exact ESim.dict
 exact LSim.nil
 intro; rfl
 intro; rfl
 decide
 first | exact fun _ _ => rfl | (intro env h; cases env; cases h; rfl)
 (intro env h _; cases env; cases h; rfl)
 (intro env h; cases env; cases h; rfl)
 refine XSim.cons ?_ ?_
 refine SSim.whl ?_ ?_
 refine TSim.neN (.inl ⟨rfl, rfl⟩) ?_ rfl
 refine ESim.nameOf ?_
 decide +kernel
 refine XSim.cons ?_ ?_
 refine SSim.asgN ?_ ?_ ?_ ?_ ?_
 decide
 first | exact .inl (by decide) | exact .inr (by decide)
 exact rho_Both_holds_name
 refine ESim.pm call_pop PySem.F.plainAttrs_list PySem.F.slot_list_pop PySem.F.type_list_pop ?_ ?_ (fun _ => rfl)
 refine ESim.nameOf ?_
 decide +kernel
 exact Args.none
 first | exact fun _ _ => rfl | (intro env h; cases env; cases h; rfl)
 refine XSim.cons ?_ ?_
 refine SSim.iff ?_ ?_ ?_
 refine TSim.cmp op2_eq ?_ ?_ rfl
 refine ESim.nameOf ?_
 decide +kernel
 refine ESim.tup ?_ ?_
 refine LSim.cons ?_ ?_ ?_
 refine ESim.str ?_
 decide +kernel
 refine LSim.cons ?_ ?_ ?_
 refine ESim.nameOf ?_
 decide +kernel
 exact LSim.nil
 intro; rfl
 intro; rfl
 decide
 refine XSim.cons ?_ ?_
 refine SSim.ret ?_
 exact ESim.bool
 exact XSim.nil
 exact XSim.nil
 refine XSim.cons ?_ ?_
 refine SSim.iff ?_ ?_ ?_
 refine TSim.cmp op2_ne ?_ ?_ rfl
 refine ESim.sub (op2_idx (fun _ _ => rfl)) ?_ ?_
 refine ESim.nameOf ?_
 decide +kernel
 exact ESim.int
 refine ESim.str ?_
 decide +kernel
 refine XSim.cons ?_ ?_
 refine SSim.expr ?_ no_inter (fun _ => rfl)
 refine ESim.pm call_extend PySem.F.plainAttrs_list PySem.F.slot_list_extend PySem.F.type_list_extend ?_ ?_ (fun _ => rfl)
 refine ESim.nameOf ?_
 decide +kernel
 refine Args.cons ?_ ?_ (fun _ => rfl)
 refine ESim.comp (kd := .vals) (ρ' := r_Both_holds_name_0) ⟨rfl, by decide, by decide, by decide, by decide, by decide⟩ (PatOk.cons PatOk.var (PatOk.cons PatOk.var PatOk.nil)) ?_ ?_ ?_ ?_ ?_ (fun _ _ => rfl)
 refine TgSim.tup ?_ pat_cons
 refine TgsSim.cons ?_ ?_ (fun _ => rfl)
 refine TgSim.own ?_ ?_ rho_Both_holds_name_0
 decide
 decide
 refine TgsSim.cons ?_ ?_ (fun _ => rfl)
 refine TgSim.own ?_ ?_ rho_Both_holds_name_0
 decide
 decide
 exact TgsSim.nil
 refine SrcSim.vals ?_ (fun _ _ _ _ _ => rfl)
 refine ESim.callF hF ?_ ?_ ?_ ?_
 decide
 decide
 decide
 refine Args.cons ?_ ?_ (fun _ => rfl)
 refine ESim.nameOf ?_
 decide +kernel
 refine Args.cons ?_ ?_ (fun _ => rfl)
 refine ESim.nameOf ?_
 decide +kernel
 exact Args.none
 exact CondSim.none
 refine ESim.nameOf ?_
 decide +kernel
 constructor
 exact Args.none
 exact XSim.nil
 refine XSim.cons ?_ ?_
 refine SSim.iff ?_ ?_ ?_
 refine TSim.boolop ?_
 refine BTSim.and ?_ ?_
 refine TSim.cmp op2_in ?_ ?_ rfl
 refine ESim.sub (op2_idx (fun _ _ => rfl)) ?_ ?_
 refine ESim.nameOf ?_
 decide +kernel
 exact ESim.int
 refine ESim.fld ?_ ?_ (fun _ => rfl)
 refine ESim.nameOf ?_
 decide +kernel
 decide
 refine BTSim.last ?_
 refine TSim.cmp op2_notIn ?_ ?_ rfl
 refine ESim.sub (op2_idx (fun _ _ => rfl)) ?_ ?_
 refine ESim.nameOf ?_
 decide +kernel
 exact ESim.int
 refine ESim.nameOf ?_
 decide +kernel
 refine XSim.cons ?_ ?_
 refine SSim.setI ?_ ?_ ?_ ?_
 refine ESim.nameOf ?_
 decide +kernel
 refine ESim.sub (op2_idx (fun _ _ => rfl)) ?_ ?_
 refine ESim.nameOf ?_
 decide +kernel
 exact ESim.int
 exact ESim.bool
 first | exact fun _ _ => rfl | (intro env h; cases env; cases h; rfl)
 refine XSim.cons ?_ ?_
 refine SSim.expr ?_ no_inter (fun _ => rfl)
 refine ESim.pm call_append PySem.F.plainAttrs_list PySem.F.slot_list_append PySem.F.type_list_append ?_ ?_ (fun _ => rfl)
 refine ESim.nameOf ?_
 decide +kernel
 refine Args.cons ?_ ?_ (fun _ => rfl)
 refine ESim.sub (op2_idx (fun _ _ => rfl)) ?_ ?_
 refine ESim.fld ?_ ?_ (fun _ => rfl)
 refine ESim.nameOf ?_
 decide +kernel
 decide
 refine ESim.sub (op2_idx (fun _ _ => rfl)) ?_ ?_
 refine ESim.nameOf ?_
 decide +kernel
 exact ESim.int
 exact Args.none
 exact XSim.nil
 exact XSim.nil
 exact XSim.nil
 exact XSim.nil
 refine XSim.cons ?_ ?_
 refine SSim.ret ?_
 exact ESim.bool
 exact XSim.nil
noncomputable def r_Both_bind : List (Str × Nat) := [("self", 0), ("name", 1), ("T", 2)]
theorem rho_Both_bind : RhoOk r_Both_bind := by unfold RhoOk; decide +kernel
theorem k_Both_bind : ∃ sc body, defOf 13 = some (sc, body) ∧ NameOk sc r_Both_bind ["self", "name", "T"] ∧ ∀ (G : Gd) (d : Nat), AllF G lawP d → XSim G lawP d sc r_Both_bind body c_Both_bind := by
 refine ⟨_, _, rfl, ?_, ?_⟩
 exact ⟨rfl, rfl, rfl, by decide, by decide, by decide⟩
 intro G d hF
 unfold c_Both_bind
 refine XSim.cons ?_ ?_
 refine SSim.iff ?_ ?_ ?_
 refine TSim.cmp op2_eq ?_ ?_ rfl
 refine ESim.nameOf ?_
 decide +kernel
 refine ESim.tup ?_ ?_
 refine LSim.cons ?_ ?_ ?_
 refine ESim.str ?_
 decide +kernel
 refine LSim.cons ?_ ?_ ?_
 refine ESim.nameOf ?_
 decide +kernel
 exact LSim.nil
 intro; rfl
 intro; rfl
 decide
 refine XSim.cons ?_ ?_
 refine SSim.ret ?_
 exact ESim.bool
 exact XSim.nil
 exact XSim.nil
 refine XSim.cons ?_ ?_
 refine SSim.iff ?_ ?_ ?_
 refine TSim.val ?_ (fun _ _ => rfl)
 refine ESim.callM hF lawP_ok ?_ ?_ (fun _ => rfl)
 refine ESim.nameOf ?_
 decide +kernel
 refine Args.cons ?_ ?_ (fun _ => rfl)
 refine ESim.nameOf ?_
 decide +kernel
 refine Args.cons ?_ ?_ (fun _ => rfl)
 refine ESim.nameOf ?_
 decide +kernel
 exact Args.none
 refine XSim.cons ?_ ?_
 refine SSim.ret ?_
 exact ESim.bool
 exact XSim.nil
 exact XSim.nil
 refine XSim.cons ?_ ?_
 refine SSim.setI ?_ ?_ ?_ ?_
 refine ESim.fld ?_ ?_ (fun _ => rfl)
 refine ESim.nameOf ?_
 decide +kernel
 decide
 refine ESim.nameOf ?_
 decide +kernel
 refine ESim.nameOf ?_
 decide +kernel
 first | exact fun _ _ => rfl | (intro env h; cases env; cases h; rfl)
 refine XSim.cons ?_ ?_
 refine SSim.ret ?_
 exact ESim.bool
 exact XSim.nil
noncomputable def r_Both_unify : List (Str × Nat) := [("self", 0), ("one", 1), ("other", 2), ("left", 3), ("gone", 4), ("here", 5), ("there", 6), ("pairs", 7)]
theorem rho_Both_unify : RhoOk r_Both_unify := by unfold RhoOk; decide +kernel
theorem k_Both_unify : ∃ sc body, defOf 14 = some (sc, body) ∧ NameOk sc r_Both_unify ["self", "one", "other"] ∧ ∀ (G : Gd) (d : Nat), AllF G lawP d → XSim G lawP d sc r_Both_unify body c_Both_unify := by
 refine ⟨_, _, rfl, ?_, ?_⟩
 exact ⟨rfl, rfl, rfl, by decide, by decide, by decide⟩
 intro G d hF
 unfold c_Both_unify
 refine XSim.cons ?_ ?_
 refine SSim.asg2 ?_ ?_ ?_ ?_ ?_ rho_Both_unify ?_ ?_ ?_ ?_
 decide
 first | exact .inl (by decide) | exact .inr (by decide)
 decide
 first | exact .inl (by decide) | exact .inr (by decide)
 decide
 refine ESim.tup ?_ ?_
 refine LSim.cons ?_ ?_ ?_
 refine ESim.lst ?_ ?_
 refine LSim.cons ?_ ?_ ?_
 refine ESim.tup ?_ ?_
 refine LSim.cons ?_ ?_ ?_
 refine ESim.nameOf ?_
 decide +kernel
 refine LSim.cons ?_ ?_ ?_
 refine ESim.nameOf ?_
 decide +kernel
 exact LSim.nil
 intro; rfl
 intro; rfl
 decide
 exact LSim.nil
 intro; rfl
 decide
 refine LSim.cons ?_ ?_ ?_
 exact ESim.dict
 exact LSim.nil
 intro; rfl
 intro; rfl
 decide
 first | exact fun _ _ => rfl | (intro env h; cases env; cases h; rfl)
 (intro env h _; cases env; cases h; rfl)
 (intro env h; cases env; cases h; rfl)
 refine XSim.cons ?_ ?_
 refine SSim.whl ?_ ?_
 refine TSim.neN (.inl ⟨rfl, rfl⟩) ?_ rfl
 refine ESim.nameOf ?_
 decide +kernel
 refine XSim.cons ?_ ?_
 refine SSim.asgT ?_ ?_ ?_ ?_
 refine TgSim.tup ?_ pat_cons
 refine TgsSim.cons ?_ ?_ (fun _ => rfl)
 refine TgSim.name ?_ ?_ rho_Both_unify
 decide
 first | exact .inl (by decide) | exact .inr (by decide)
 refine TgsSim.cons ?_ ?_ (fun _ => rfl)
 refine TgSim.name ?_ ?_ rho_Both_unify
 decide
 first | exact .inl (by decide) | exact .inr (by decide)
 exact TgsSim.nil
 refine ESim.pm call_pop PySem.F.plainAttrs_list PySem.F.slot_list_pop PySem.F.type_list_pop ?_ ?_ (fun _ => rfl)
 refine ESim.nameOf ?_
 decide +kernel
 exact Args.none
 first | exact fun _ _ => rfl | (intro env h; cases env; cases h; rfl)
 first | exact fun _ _ => rfl | (intro env h; cases env; cases h; rfl)
 refine XSim.cons ?_ ?_
 refine SSim.asg2 ?_ ?_ ?_ ?_ ?_ rho_Both_unify ?_ ?_ ?_ ?_
 decide
 first | exact .inl (by decide) | exact .inr (by decide)
 decide
 first | exact .inl (by decide) | exact .inr (by decide)
 decide
 refine ESim.tup ?_ ?_
 refine LSim.cons ?_ ?_ ?_
 refine ESim.callM hF lawP_ok ?_ ?_ (fun _ => rfl)
 refine ESim.nameOf ?_
 decide +kernel
 refine Args.cons ?_ ?_ (fun _ => rfl)
 refine ESim.nameOf ?_
 decide +kernel
 exact Args.none
 refine LSim.cons ?_ ?_ ?_
 refine ESim.callM hF lawP_ok ?_ ?_ (fun _ => rfl)
 refine ESim.nameOf ?_
 decide +kernel
 refine Args.cons ?_ ?_ (fun _ => rfl)
 refine ESim.nameOf ?_
 decide +kernel
 exact Args.none
 exact LSim.nil
 intro; rfl
 intro; rfl
 decide
 first | exact fun _ _ => rfl | (intro env h; cases env; cases h; rfl)
 (intro env h _; cases env; cases h; rfl)
 (intro env h; cases env; cases h; rfl)
 refine XSim.cons ?_ ?_
 refine SSim.iff ?_ ?_ ?_
 refine TSim.cmp op2_in ?_ ?_ rfl
 refine ESim.tup ?_ ?_
 refine LSim.cons ?_ ?_ ?_
 refine ESim.nameOf ?_
 decide +kernel
 refine LSim.cons ?_ ?_ ?_
 refine ESim.nameOf ?_
 decide +kernel
 exact LSim.nil
 intro; rfl
 intro; rfl
 decide
 refine ESim.nameOf ?_
 decide +kernel
 refine XSim.cons ?_ ?_
 exact SSim.cont
 exact XSim.nil
 exact XSim.nil
 refine XSim.cons ?_ ?_
 refine SSim.setI ?_ ?_ ?_ ?_
 refine ESim.nameOf ?_
 decide +kernel
 refine ESim.tup ?_ ?_
 refine LSim.cons ?_ ?_ ?_
 refine ESim.nameOf ?_
 decide +kernel
 refine LSim.cons ?_ ?_ ?_
 refine ESim.nameOf ?_
 decide +kernel
 exact LSim.nil
 intro; rfl
 intro; rfl
 decide
 exact ESim.bool
 first | exact fun _ _ => rfl | (intro env h; cases env; cases h; rfl)
 refine XSim.cons ?_ ?_
 refine SSim.iff ?_ ?_ ?_
 refine TSim.cmp op2_eq ?_ ?_ rfl
 refine ESim.sub (op2_idx (fun _ _ => rfl)) ?_ ?_
 refine ESim.nameOf ?_
 decide +kernel
 exact ESim.int
 refine ESim.str ?_
 decide +kernel
 refine XSim.cons ?_ ?_
 refine SSim.iff ?_ ?_ ?_
 refine TSim.not ?_
 refine TSim.val ?_ (fun _ _ => rfl)
 refine ESim.callM hF lawP_ok ?_ ?_ (fun _ => rfl)
 refine ESim.nameOf ?_
 decide +kernel
 refine Args.cons ?_ ?_ (fun _ => rfl)
 refine ESim.sub (op2_idx (fun _ _ => rfl)) ?_ ?_
 refine ESim.nameOf ?_
 decide +kernel
 exact ESim.int
 refine Args.cons ?_ ?_ (fun _ => rfl)
 refine ESim.nameOf ?_
 decide +kernel
 exact Args.none
 refine XSim.cons ?_ ?_
 refine SSim.ret ?_
 exact ESim.bool
 exact XSim.nil
 exact XSim.nil
 exact XSim.nil
 refine XSim.cons ?_ ?_
 refine SSim.iff ?_ ?_ ?_
 refine TSim.cmp op2_eq ?_ ?_ rfl
 refine ESim.sub (op2_idx (fun _ _ => rfl)) ?_ ?_
 refine ESim.nameOf ?_
 decide +kernel
 exact ESim.int
 refine ESim.str ?_
 decide +kernel
 refine XSim.cons ?_ ?_
 refine SSim.iff ?_ ?_ ?_
 refine TSim.not ?_
 refine TSim.val ?_ (fun _ _ => rfl)
 refine ESim.callM hF lawP_ok ?_ ?_ (fun _ => rfl)
 refine ESim.nameOf ?_
 decide +kernel
 refine Args.cons ?_ ?_ (fun _ => rfl)
 refine ESim.sub (op2_idx (fun _ _ => rfl)) ?_ ?_
 refine ESim.nameOf ?_
 decide +kernel
 exact ESim.int
 refine Args.cons ?_ ?_ (fun _ => rfl)
 refine ESim.nameOf ?_
 decide +kernel
 exact Args.none
 refine XSim.cons ?_ ?_
 refine SSim.ret ?_
 exact ESim.bool
 exact XSim.nil
 exact XSim.nil
 exact XSim.nil
 refine XSim.cons ?_ ?_
 refine SSim.asgN ?_ ?_ ?_ ?_ ?_
 decide
 first | exact .inl (by decide) | exact .inr (by decide)
 exact rho_Both_unify
 refine ESim.callF hF ?_ ?_ ?_ ?_
 decide
 decide
 decide
 refine Args.cons ?_ ?_ (fun _ => rfl)
 refine ESim.nameOf ?_
 decide +kernel
 refine Args.cons ?_ ?_ (fun _ => rfl)
 refine ESim.nameOf ?_
 decide +kernel
 exact Args.none
 first | exact fun _ _ => rfl | (intro env h; cases env; cases h; rfl)
 refine XSim.cons ?_ ?_
 refine SSim.iff ?_ ?_ ?_
 refine TSim.op1 (.inl ⟨rfl, rfl⟩) ?_ rfl
 refine ESim.nameOf ?_
 decide +kernel
 refine XSim.cons ?_ ?_
 refine SSim.ret ?_
 exact ESim.bool
 exact XSim.nil
 exact XSim.nil
 refine XSim.cons ?_ ?_
 refine SSim.expr ?_ no_inter (fun _ => rfl)
 refine ESim.pm call_extend PySem.F.plainAttrs_list PySem.F.slot_list_extend PySem.F.type_list_extend ?_ ?_ (fun _ => rfl)
 refine ESim.nameOf ?_
 decide +kernel
 refine Args.cons ?_ ?_ (fun _ => rfl)
 refine ESim.nameOf ?_
 decide +kernel
 exact Args.none
 exact XSim.nil
 exact XSim.nil
 exact XSim.nil
 refine XSim.cons ?_ ?_
 refine SSim.ret ?_
 exact ESim.bool
 exact XSim.nil
noncomputable def r_Both_all_unified : List (Str × Nat) := [("self", 0), ("some", 1), ("others", 2), ("here", 3), ("there", 4)]
theorem rho_Both_all_unified : RhoOk r_Both_all_unified := by unfold RhoOk; decide +kernel
theorem k_Both_all_unified : ∃ sc body, defOf 15 = some (sc, body) ∧ NameOk sc r_Both_all_unified ["self", "some", "others"] ∧ ∀ (G : Gd) (d : Nat), AllF G lawP d → XSim G lawP d sc r_Both_all_unified body c_Both_all_unified := by
 refine ⟨_, _, rfl, ?_, ?_⟩
 exact ⟨rfl, rfl, rfl, by decide, by decide, by decide⟩
 intro G d hF
 unfold c_Both_all_unified
 refine XSim.cons ?_ ?_
 refine SSim.iff ?_ ?_ ?_
 refine TSim.cmp op2_ne ?_ ?_ rfl
 refine ESim.prim call_len keep_builtin ?_ boot_len ?_ ?_ ?_ ?_
 decide
 decide
 decide
 decide
 refine Args.cons ?_ ?_ (fun _ => rfl)
 refine ESim.nameOf ?_
 decide +kernel
 exact Args.none
 refine ESim.prim call_len keep_builtin ?_ boot_len ?_ ?_ ?_ ?_
 decide
 decide
 decide
 decide
 refine Args.cons ?_ ?_ (fun _ => rfl)
 refine ESim.nameOf ?_
 decide +kernel
 exact Args.none
 refine XSim.cons ?_ ?_
 refine SSim.ret ?_
 exact ESim.bool
 exact XSim.nil
 exact XSim.nil
 refine XSim.cons ?_ ?_
 refine SSim.for (kd := .zip) ?_ ?_ ?_ ?_ (fun _ _ => rfl)
 refine TgSim.tup ?_ pat_cons
 refine TgsSim.cons ?_ ?_ (fun _ => rfl)
 refine TgSim.name ?_ ?_ rho_Both_all_unified
 decide
 first | exact .inl (by decide) | exact .inr (by decide)
 refine TgsSim.cons ?_ ?_ (fun _ => rfl)
 refine TgSim.name ?_ ?_ rho_Both_all_unified
 decide
 first | exact .inl (by decide) | exact .inr (by decide)
 exact TgsSim.nil
 refine SrcSim.zip ?_ ?_
 refine Args.cons ?_ ?_ (fun _ => rfl)
 refine ESim.nameOf ?_
 decide +kernel
 refine Args.cons ?_ ?_ (fun _ => rfl)
 refine ESim.nameOf ?_
 decide +kernel
 exact Args.none
 decide
 refine XSim.cons ?_ ?_
 refine SSim.iff ?_ ?_ ?_
 refine TSim.not ?_
 refine TSim.val ?_ (fun _ _ => rfl)
 refine ESim.callM hF lawP_ok ?_ ?_ (fun _ => rfl)
 refine ESim.nameOf ?_
 decide +kernel
 refine Args.cons ?_ ?_ (fun _ => rfl)
 refine ESim.nameOf ?_
 decide +kernel
 refine Args.cons ?_ ?_ (fun _ => rfl)
 refine ESim.nameOf ?_
 decide +kernel
 exact Args.none
 refine XSim.cons ?_ ?_
 refine SSim.ret ?_
 exact ESim.bool
 exact XSim.nil
 exact XSim.nil
 exact XSim.nil
 constructor
 refine XSim.cons ?_ ?_
 refine SSim.ret ?_
 exact ESim.bool
 exact XSim.nil
noncomputable def r_own_names : List (Str × Nat) := [("impl", 0), ("side", 1), ("told", 2), ("name", 3), ("bounds", 4)]
theorem rho_own_names : RhoOk r_own_names := by unfold RhoOk; decide +kernel
noncomputable def r_own_names_0 : List (Str × Nat) := [("T", 5), ("told", 2)]
theorem rho_own_names_0 : RhoOk r_own_names_0 := by unfold RhoOk; decide +kernel
theorem k_own_names : ∃ sc body, defOf 16 = some (sc, body) ∧ NameOk sc r_own_names ["impl", "side"] ∧ ∀ (G : Gd) (d : Nat), AllF G lawP d → XSim G lawP d sc r_own_names body c_own_names := by
 refine ⟨_, _, rfl, ?_, ?_⟩
 exact ⟨rfl, rfl, rfl, by decide, by decide, by decide⟩
 intro G d hF
 unfold c_own_names
 refine XSim.cons ?_ ?_
 refine SSim.asgN ?_ ?_ ?_ ?_ ?_
 decide
 first | exact .inl (by decide) | exact .inr (by decide)
 exact rho_own_names
 exact ESim.dict
 first | exact fun _ _ => rfl | (intro env h; cases env; cases h; rfl)
 refine XSim.cons ?_ ?_
 refine SSim.for (kd := .vals) ?_ ?_ ?_ ?_ (fun _ _ => rfl)
 refine TgSim.tup ?_ pat_cons
 refine TgsSim.cons ?_ ?_ (fun _ => rfl)
 refine TgSim.name ?_ ?_ rho_own_names
 decide
 first | exact .inl (by decide) | exact .inr (by decide)
 refine TgsSim.cons ?_ ?_ (fun _ => rfl)
 refine TgSim.name ?_ ?_ rho_own_names
 decide
 first | exact .inl (by decide) | exact .inr (by decide)
 exact TgsSim.nil
 refine SrcSim.vals ?_ (fun _ _ _ _ _ => rfl)
 refine ESim.fld ?_ ?_ (fun _ => rfl)
 refine ESim.nameOf ?_
 decide +kernel
 decide
 refine XSim.cons ?_ ?_
 refine SSim.setI ?_ ?_ ?_ ?_
 refine ESim.nameOf ?_
 decide +kernel
 refine ESim.nameOf ?_
 decide +kernel
 refine ESim.tup ?_ ?_
 refine LSim.cons ?_ ?_ ?_
 refine ESim.str ?_
 decide +kernel
 refine LSim.cons ?_ ?_ ?_
 refine ESim.binop op2_add ?_ ?_
 refine ESim.nameOf ?_
 decide +kernel
 refine ESim.nameOf ?_
 decide +kernel
 exact LSim.nil
 intro; rfl
 intro; rfl
 decide
 first | exact fun _ _ => rfl | (intro env h; cases env; cases h; rfl)
 exact XSim.nil
 constructor
 refine XSim.cons ?_ ?_
 refine SSim.ret ?_
 refine ESim.comp (kd := .vals) (ρ' := r_own_names_0) ⟨rfl, by decide, by decide, by decide, by decide, by decide⟩ PatOk.var ?_ ?_ ?_ ?_ ?_ (fun _ _ => rfl)
 refine TgSim.own ?_ ?_ rho_own_names_0
 decide
 decide
 refine SrcSim.vals ?_ (fun _ _ _ _ _ => rfl)
 refine ESim.binop op2_add ?_ ?_
 refine ESim.prim call_tupleOf keep_type ?_ boot_tuple ?_ ?_ ?_ ?_
 decide
 decide
 decide
 decide
 refine Args.cons ?_ ?_ (fun _ => rfl)
 refine ESim.fld ?_ ?_ (fun _ => rfl)
 refine ESim.nameOf ?_
 decide +kernel
 decide
 exact Args.none
 refine ESim.tup ?_ ?_
 refine LSim.cons ?_ ?_ ?_
 refine ESim.fld ?_ ?_ (fun _ => rfl)
 refine ESim.nameOf ?_
 decide +kernel
 decide
 exact LSim.nil
 intro; rfl
 decide
 exact CondSim.none
 refine ESim.callF hF ?_ ?_ ?_ ?_
 decide
 decide
 decide
 refine Args.cons ?_ ?_ (fun _ => rfl)
 refine ESim.nameOf ?_
 decide +kernel
 refine Args.cons ?_ ?_ (fun _ => rfl)
 refine ESim.nameOf ?_
 decide +kernel
 exact Args.none
 constructor
 exact XSim.nil
noncomputable def r_heads_meet : List (Str × Nat) := [("one", 0), ("other", 1)]
theorem rho_heads_meet : RhoOk r_heads_meet := by unfold RhoOk; decide +kernel
theorem k_heads_meet : ∃ sc body, defOf 17 = some (sc, body) ∧ NameOk sc r_heads_meet ["one", "other"] ∧ ∀ (G : Gd) (d : Nat), AllF G lawP d → XSim G lawP d sc r_heads_meet body c_heads_meet := by
 refine ⟨_, _, rfl, ?_, ?_⟩
 exact ⟨rfl, rfl, rfl, by decide, by decide, by decide⟩
 intro G d hF
 unfold c_heads_meet
 refine XSim.cons ?_ ?_
 refine SSim.ret ?_
 refine ESim.callM hF lawP_ok ?_ ?_ (fun _ => rfl)
 refine ESim.new hF lawP_ok ?_ ?_ ?_ ?_
 decide
 decide
 decide
 exact Args.none
 refine Args.cons ?_ ?_ (fun _ => rfl)
 refine ESim.callF hF ?_ ?_ ?_ ?_
 decide
 decide
 decide
 refine Args.cons ?_ ?_ (fun _ => rfl)
 refine ESim.nameOf ?_
 decide +kernel
 refine Args.cons ?_ ?_ (fun _ => rfl)
 refine ESim.str ?_
 decide +kernel
 exact Args.none
 refine Args.cons ?_ ?_ (fun _ => rfl)
 refine ESim.callF hF ?_ ?_ ?_ ?_
 decide
 decide
 decide
 refine Args.cons ?_ ?_ (fun _ => rfl)
 refine ESim.nameOf ?_
 decide +kernel
 refine Args.cons ?_ ?_ (fun _ => rfl)
 refine ESim.str ?_
 decide +kernel
 exact Args.none
 exact Args.none
 exact XSim.nil
noncomputable def r_inherent_clashes : List (Str × Nat) := [("one", 0), ("other", 1)]
theorem rho_inherent_clashes : RhoOk r_inherent_clashes := by unfold RhoOk; decide +kernel
noncomputable def r_inherent_clashes_0 : List (Str × Nat) := [("name", 2), ("other", 1)]
theorem rho_inherent_clashes_0 : RhoOk r_inherent_clashes_0 := by unfold RhoOk; decide +kernel
theorem k_inherent_clashes : ∃ sc body, defOf 18 = some (sc, body) ∧ NameOk sc r_inherent_clashes ["one", "other"] ∧ ∀ (G : Gd) (d : Nat), AllF G lawP d → XSim G lawP d sc r_inherent_clashes body c_inherent_clashes := by
 refine ⟨_, _, rfl, ?_, ?_⟩
 exact ⟨rfl, rfl, rfl, by decide, by decide, by decide⟩
 intro G d hF
 unfold c_inherent_clashes
 refine XSim.cons ?_ ?_
 refine SSim.iff ?_ ?_ ?_
 refine TSim.boolop ?_
 refine BTSim.or ?_ ?_
 refine TSim.op1 (.inr ⟨rfl, rfl⟩) ?_ rfl
 refine ESim.fld ?_ ?_ (fun _ => rfl)
 refine ESim.nameOf ?_
 decide +kernel
 decide
 refine BTSim.or ?_ ?_
 refine TSim.op1 (.inr ⟨rfl, rfl⟩) ?_ rfl
 refine ESim.fld ?_ ?_ (fun _ => rfl)
 refine ESim.nameOf ?_
 decide +kernel
 decide
 refine BTSim.last ?_
 refine TSim.not ?_
 refine TSim.val ?_ (fun _ _ => rfl)
 refine ESim.gc ?_
 refine ESim.callF hF ?_ ?_ ?_ ?_
 decide
 decide
 decide
 refine Args.cons ?_ ?_ (fun _ => rfl)
 refine ESim.nameOf ?_
 decide +kernel
 refine Args.cons ?_ ?_ (fun _ => rfl)
 refine ESim.nameOf ?_
 decide +kernel
 exact Args.none
 refine XSim.cons ?_ ?_
 refine SSim.ret ?_
 refine ESim.lst ?_ ?_
 exact LSim.nil
 decide
 exact XSim.nil
 exact XSim.nil
 refine XSim.cons ?_ ?_
 refine SSim.ret ?_
 refine ESim.comp (kd := .vals) (ρ' := r_inherent_clashes_0) ⟨rfl, by decide, by decide, by decide, by decide, by decide⟩ PatOk.var ?_ ?_ ?_ ?_ ?_ (fun _ _ => rfl)
 refine TgSim.own ?_ ?_ rho_inherent_clashes_0
 decide
 decide
 refine SrcSim.vals ?_ (fun _ _ _ _ _ => rfl)
 refine ESim.prim call_sortedD keep_builtin ?_ boot_sorted ?_ ?_ ?_ ?_
 decide
 decide
 decide
 decide
 refine Args.cons ?_ ?_ (fun _ => rfl)
 refine ESim.fld ?_ ?_ (fun _ => rfl)
 refine ESim.nameOf ?_
 decide +kernel
 decide
 exact Args.none
 refine CondSim.one ?_
 refine TSim.cmp op2_in ?_ ?_ rfl
 refine ESim.nameOf ?_
 decide +kernel
 refine ESim.fld ?_ ?_ (fun _ => rfl)
 refine ESim.nameOf ?_
 decide +kernel
 decide
 refine ESim.nameOf ?_
 decide +kernel
 constructor
 exact XSim.nil
noncomputable def r_ImplRow_init : List (Str × Nat) := [("self", 0), ("number", 1), ("regions", 2), ("params", 3), ("trait", 4), ("trait_args", 5), ("self_type", 6), ("methods", 7), ("spot", 8)]
theorem rho_ImplRow_init : RhoOk r_ImplRow_init := by unfold RhoOk; decide +kernel
theorem k_ImplRow_init : ∃ sc body, defOf 19 = some (sc, body) ∧ NameOk sc r_ImplRow_init ["self", "number", "regions", "params", "trait", "trait_args", "self_type", "methods", "spot"] ∧ ∀ (G : Gd) (d : Nat), AllF G lawP d → XSim G lawP d sc r_ImplRow_init body c_ImplRow_init := by
 refine ⟨_, _, rfl, ?_, ?_⟩
 exact ⟨rfl, rfl, rfl, by decide, by decide, by decide⟩
 intro G d hF
 unfold c_ImplRow_init
 refine XSim.cons ?_ ?_
 refine SSim.setF ?_ ?_ ?_ ?_
 refine ESim.nameOf ?_
 decide +kernel
 refine ESim.nameOf ?_
 decide +kernel
 decide
 first | exact fun _ _ => rfl | (intro env h; cases env; cases h; rfl)
 refine XSim.cons ?_ ?_
 refine SSim.setF ?_ ?_ ?_ ?_
 refine ESim.nameOf ?_
 decide +kernel
 refine ESim.nameOf ?_
 decide +kernel
 decide
 first | exact fun _ _ => rfl | (intro env h; cases env; cases h; rfl)
 refine XSim.cons ?_ ?_
 refine SSim.setF ?_ ?_ ?_ ?_
 refine ESim.nameOf ?_
 decide +kernel
 refine ESim.nameOf ?_
 decide +kernel
 decide
 first | exact fun _ _ => rfl | (intro env h; cases env; cases h; rfl)
 refine XSim.cons ?_ ?_
 refine SSim.setF ?_ ?_ ?_ ?_
 refine ESim.nameOf ?_
 decide +kernel
 refine ESim.nameOf ?_
 decide +kernel
 decide
 first | exact fun _ _ => rfl | (intro env h; cases env; cases h; rfl)
 refine XSim.cons ?_ ?_
 refine SSim.setF ?_ ?_ ?_ ?_
 refine ESim.nameOf ?_
 decide +kernel
 refine ESim.nameOf ?_
 decide +kernel
 decide
 first | exact fun _ _ => rfl | (intro env h; cases env; cases h; rfl)
 refine XSim.cons ?_ ?_
 refine SSim.setF ?_ ?_ ?_ ?_
 refine ESim.nameOf ?_
 decide +kernel
 refine ESim.nameOf ?_
 decide +kernel
 decide
 first | exact fun _ _ => rfl | (intro env h; cases env; cases h; rfl)
 refine XSim.cons ?_ ?_
 refine SSim.setF ?_ ?_ ?_ ?_
 refine ESim.nameOf ?_
 decide +kernel
 refine ESim.nameOf ?_
 decide +kernel
 decide
 first | exact fun _ _ => rfl | (intro env h; cases env; cases h; rfl)
 refine XSim.cons ?_ ?_
 refine SSim.setF ?_ ?_ ?_ ?_
 refine ESim.nameOf ?_
 decide +kernel
 refine ESim.nameOf ?_
 decide +kernel
 decide
 first | exact fun _ _ => rfl | (intro env h; cases env; cases h; rfl)
 exact XSim.nil
noncomputable def r_law_pool : List (Str × Nat) := [("script", 0), ("cell", 1), ("large", 2)]
theorem rho_law_pool : RhoOk r_law_pool := by unfold RhoOk; decide +kernel
theorem k_law_pool : ∃ sc body, defOf 20 = some (sc, body) ∧ NameOk sc r_law_pool ["script"] ∧ ∀ (G : Gd) (d : Nat), AllF G lawP d → XSim G lawP d sc r_law_pool body c_law_pool := by
 refine ⟨_, _, rfl, ?_, ?_⟩
 exact ⟨rfl, rfl, rfl, by decide, by decide, by decide⟩
 intro G d hF
 unfold c_law_pool
 refine XSim.cons ?_ ?_
 refine SSim.asgN ?_ ?_ ?_ ?_ ?_
 decide
 first | exact .inl (by decide) | exact .inr (by decide)
 exact rho_law_pool
 refine ESim.ite ?_ ?_ ?_
 refine TSim.cmp op2_gt ?_ ?_ rfl
 refine ESim.prim call_len keep_builtin ?_ boot_len ?_ ?_ ?_ ?_
 decide
 decide
 decide
 decide
 refine Args.cons ?_ ?_ (fun _ => rfl)
 refine ESim.nameOf ?_
 decide +kernel
 exact Args.none
 exact ESim.int
 refine ESim.sub (op2_idx (fun _ _ => rfl)) ?_ ?_
 refine ESim.nameOf ?_
 decide +kernel
 exact ESim.int
 exact ESim.int
 first | exact fun _ _ => rfl | (intro env h; cases env; cases h; rfl)
 refine XSim.cons ?_ ?_
 refine SSim.asgN ?_ ?_ ?_ ?_ ?_
 decide
 first | exact .inl (by decide) | exact .inr (by decide)
 exact rho_law_pool
 refine ESim.prim call_max keep_builtin ?_ boot_max ?_ ?_ ?_ ?_
 decide
 decide
 decide
 decide
 refine Args.cons ?_ ?_ (fun _ => rfl)
 refine ESim.prim call_int keep_type ?_ boot_int ?_ ?_ ?_ ?_
 decide
 decide
 decide
 decide
 refine Args.cons ?_ ?_ (fun _ => rfl)
 refine ESim.nameOf ?_
 decide +kernel
 exact Args.none
 refine Args.cons ?_ ?_ (fun _ => rfl)
 refine ESim.prim call_int keep_type ?_ boot_int ?_ ?_ ?_ ?_
 decide
 decide
 decide
 decide
 refine Args.cons ?_ ?_ (fun _ => rfl)
 refine ESim.binop op2_sub ?_ ?_
 exact ESim.neg
 refine ESim.nameOf ?_
 decide +kernel
 exact Args.none
 exact Args.none
 first | exact fun _ _ => rfl | (intro env h; cases env; cases h; rfl)
 refine XSim.cons ?_ ?_
 refine SSim.ret ?_
 refine ESim.lst ?_ ?_
 refine LSim.cons ?_ ?_ ?_
 refine ESim.binop op2_mul ?_ ?_
 refine ESim.nameOf ?_
 decide +kernel
 refine ESim.prim call_int keep_type ?_ boot_int ?_ ?_ ?_ ?_
 decide
 decide
 decide
 decide
 refine Args.cons ?_ ?_ (fun _ => rfl)
 refine ESim.cmp op2_ge ?_ ?_ rfl
 refine ESim.nameOf ?_
 decide +kernel
 exact ESim.pow18
 exact Args.none
 refine LSim.cons ?_ ?_ ?_
 refine ESim.binop op2_mod ?_ ?_
 refine ESim.prim call_int keep_type ?_ boot_int ?_ ?_ ?_ ?_
 decide
 decide
 decide
 decide
 refine Args.cons ?_ ?_ (fun _ => rfl)
 refine ESim.binop op2_mul ?_ ?_
 refine ESim.binop op2_add ?_ ?_
 refine ESim.binop op2_mod ?_ ?_
 refine ESim.nameOf ?_
 decide +kernel
 exact ESim.int
 exact ESim.int
 exact ESim.int
 exact Args.none
 exact ESim.int
 exact LSim.nil
 intro; rfl
 intro; rfl
 decide
 exact XSim.nil
noncomputable def r_law_take : List (Str × Nat) := [("source", 0), ("top", 1), ("digit", 2)]
theorem rho_law_take : RhoOk r_law_take := by unfold RhoOk; decide +kernel
theorem k_law_take : ∃ sc body, defOf 21 = some (sc, body) ∧ NameOk sc r_law_take ["source", "top"] ∧ ∀ (G : Gd) (d : Nat), AllF G lawP d → XSim G lawP d sc r_law_take body c_law_take := by
 refine ⟨_, _, rfl, ?_, ?_⟩
 exact ⟨rfl, rfl, rfl, by decide, by decide, by decide⟩
 intro G d hF
 unfold c_law_take
 refine XSim.cons ?_ ?_
 refine SSim.iff ?_ ?_ ?_
 refine TSim.cmp op2_gt ?_ ?_ rfl
 refine ESim.sub (op2_idx (fun _ _ => rfl)) ?_ ?_
 refine ESim.nameOf ?_
 decide +kernel
 exact ESim.int
 exact ESim.int
 refine XSim.cons ?_ ?_
 refine SSim.asgN ?_ ?_ ?_ ?_ ?_
 decide
 first | exact .inl (by decide) | exact .inr (by decide)
 exact rho_law_take
 refine ESim.binop op2_mod ?_ ?_
 refine ESim.prim call_int keep_type ?_ boot_int ?_ ?_ ?_ ?_
 decide
 decide
 decide
 decide
 refine Args.cons ?_ ?_ (fun _ => rfl)
 refine ESim.sub (op2_idx (fun _ _ => rfl)) ?_ ?_
 refine ESim.nameOf ?_
 decide +kernel
 exact ESim.int
 exact Args.none
 refine ESim.nameOf ?_
 decide +kernel
 first | exact fun _ _ => rfl | (intro env h; cases env; cases h; rfl)
 refine XSim.cons ?_ ?_
 refine SSim.setI ?_ ?_ ?_ ?_
 refine ESim.nameOf ?_
 decide +kernel
 exact ESim.int
 refine ESim.binop op2_fdiv ?_ ?_
 refine ESim.sub (op2_idx (fun _ _ => rfl)) ?_ ?_
 refine ESim.nameOf ?_
 decide +kernel
 exact ESim.int
 refine ESim.nameOf ?_
 decide +kernel
 first | exact fun _ _ => rfl | (intro env h; cases env; cases h; rfl)
 refine XSim.cons ?_ ?_
 refine SSim.ret ?_
 refine ESim.nameOf ?_
 decide +kernel
 exact XSim.nil
 exact XSim.nil
 refine XSim.cons ?_ ?_
 refine SSim.setI ?_ ?_ ?_ ?_
 refine ESim.nameOf ?_
 decide +kernel
 exact ESim.int
 refine ESim.binop op2_mod ?_ ?_
 refine ESim.prim call_int keep_type ?_ boot_int ?_ ?_ ?_ ?_
 decide
 decide
 decide
 decide
 refine Args.cons ?_ ?_ (fun _ => rfl)
 refine ESim.binop op2_add ?_ ?_
 refine ESim.binop op2_mul ?_ ?_
 refine ESim.sub (op2_idx (fun _ _ => rfl)) ?_ ?_
 refine ESim.nameOf ?_
 decide +kernel
 exact ESim.int
 exact ESim.int
 exact ESim.int
 exact Args.none
 exact ESim.int
 first | exact fun _ _ => rfl | (intro env h; cases env; cases h; rfl)
 refine XSim.cons ?_ ?_
 refine SSim.ret ?_
 refine ESim.binop op2_mod ?_ ?_
 refine ESim.binop op2_fdiv ?_ ?_
 refine ESim.binop op2_mod ?_ ?_
 refine ESim.prim call_int keep_type ?_ boot_int ?_ ?_ ?_ ?_
 decide
 decide
 decide
 decide
 refine Args.cons ?_ ?_ (fun _ => rfl)
 refine ESim.binop op2_mul ?_ ?_
 refine ESim.sub (op2_idx (fun _ _ => rfl)) ?_ ?_
 refine ESim.nameOf ?_
 decide +kernel
 exact ESim.int
 refine ESim.sub (op2_idx (fun _ _ => rfl)) ?_ ?_
 refine ESim.nameOf ?_
 decide +kernel
 exact ESim.int
 exact Args.none
 exact ESim.int
 exact ESim.int
 refine ESim.nameOf ?_
 decide +kernel
 exact XSim.nil
noncomputable def r_law_one : List (Str × Nat) := [("source", 0), ("things", 1)]
theorem rho_law_one : RhoOk r_law_one := by unfold RhoOk; decide +kernel
theorem k_law_one : ∃ sc body, defOf 22 = some (sc, body) ∧ NameOk sc r_law_one ["source", "things"] ∧ ∀ (G : Gd) (d : Nat), AllF G lawP d → XSim G lawP d sc r_law_one body c_law_one := by
 refine ⟨_, _, rfl, ?_, ?_⟩
 exact ⟨rfl, rfl, rfl, by decide, by decide, by decide⟩
 intro G d hF
 unfold c_law_one
 refine XSim.cons ?_ ?_
 refine SSim.ret ?_
 refine ESim.sub (op2_idx (fun _ _ => rfl)) ?_ ?_
 refine ESim.nameOf ?_
 decide +kernel
 refine ESim.callF hF ?_ ?_ ?_ ?_
 decide
 decide
 decide
 refine Args.cons ?_ ?_ (fun _ => rfl)
 refine ESim.nameOf ?_
 decide +kernel
 refine Args.cons ?_ ?_ (fun _ => rfl)
 refine ESim.prim call_len keep_builtin ?_ boot_len ?_ ?_ ?_ ?_
 decide
 decide
 decide
 decide
 refine Args.cons ?_ ?_ (fun _ => rfl)
 refine ESim.nameOf ?_
 decide +kernel
 exact Args.none
 exact Args.none
 exact XSim.nil
end Mine
end

section
set_option maxHeartbeats 8000000
open PySem PySem.W PyProof.Rows PySem.Calls PySem.Spec PySem.SeqAt
namespace Mine
noncomputable def r_law_heads : List (Str × Nat) := [("byte", 0), ("truth", 1)]
theorem rho_law_heads : RhoOk r_law_heads := by unfold RhoOk; decide +kernel
theorem k_law_heads : ∃ sc body, defOf 23 = some (sc, body) ∧ NameOk sc r_law_heads [] ∧ ∀ (G : Gd) (d : Nat), AllF G lawP d → XSim G lawP d sc r_law_heads body c_law_heads := by
 refine ⟨_, _, rfl, ?_, ?_⟩
 exact ⟨rfl, rfl, rfl, by decide, by decide, by decide⟩
 intro G d hF
 unfold c_law_heads
 refine XSim.cons ?_ ?_
 refine SSim.asgT ?_ ?_ ?_ ?_
 refine TgSim.tup ?_ pat_cons
 refine TgsSim.cons ?_ ?_ (fun _ => rfl)
 refine TgSim.name ?_ ?_ rho_law_heads
 decide
 first | exact .inl (by decide) | exact .inr (by decide)
 refine TgsSim.cons ?_ ?_ (fun _ => rfl)
 refine TgSim.name ?_ ?_ rho_law_heads
 decide
 first | exact .inl (by decide) | exact .inr (by decide)
 exact TgsSim.nil
 refine ESim.tup ?_ ?_
 refine LSim.cons ?_ ?_ ?_
 refine ESim.tup ?_ ?_
 refine LSim.cons ?_ ?_ ?_
 refine ESim.str ?_
 decide +kernel
 refine LSim.cons ?_ ?_ ?_
 refine ESim.str ?_
 decide +kernel
 exact LSim.nil
 intro; rfl
 intro; rfl
 decide
 refine LSim.cons ?_ ?_ ?_
 refine ESim.tup ?_ ?_
 refine LSim.cons ?_ ?_ ?_
 refine ESim.str ?_
 decide +kernel
 exact LSim.nil
 intro; rfl
 decide
 exact LSim.nil
 intro; rfl
 intro; rfl
 decide
 first | exact fun _ _ => rfl | (intro env h; cases env; cases h; rfl)
 first | exact fun _ _ => rfl | (intro env h; cases env; cases h; rfl)
 refine XSim.cons ?_ ?_
 refine SSim.ret ?_
 refine ESim.lst ?_ ?_
 refine LSim.cons ?_ ?_ ?_
 refine ESim.tup ?_ ?_
 refine LSim.cons ?_ ?_ ?_
 refine ESim.str ?_
 decide +kernel
 refine LSim.cons ?_ ?_ ?_
 refine ESim.nameOf ?_
 decide +kernel
 exact LSim.nil
 intro; rfl
 intro; rfl
 decide
 refine LSim.cons ?_ ?_ ?_
 refine ESim.tup ?_ ?_
 refine LSim.cons ?_ ?_ ?_
 refine ESim.str ?_
 decide +kernel
 refine LSim.cons ?_ ?_ ?_
 refine ESim.tup ?_ ?_
 refine LSim.cons ?_ ?_ ?_
 refine ESim.str ?_
 decide +kernel
 refine LSim.cons ?_ ?_ ?_
 refine ESim.str ?_
 decide +kernel
 exact LSim.nil
 intro; rfl
 intro; rfl
 decide
 exact LSim.nil
 intro; rfl
 intro; rfl
 decide
 refine LSim.cons ?_ ?_ ?_
 refine ESim.tup ?_ ?_
 refine LSim.cons ?_ ?_ ?_
 refine ESim.str ?_
 decide +kernel
 refine LSim.cons ?_ ?_ ?_
 refine ESim.nameOf ?_
 decide +kernel
 exact LSim.nil
 intro; rfl
 intro; rfl
 decide
 refine LSim.cons ?_ ?_ ?_
 refine ESim.tup ?_ ?_
 refine LSim.cons ?_ ?_ ?_
 refine ESim.str ?_
 decide +kernel
 refine LSim.cons ?_ ?_ ?_
 refine ESim.tup ?_ ?_
 refine LSim.cons ?_ ?_ ?_
 refine ESim.str ?_
 decide +kernel
 exact LSim.nil
 intro; rfl
 decide
 exact LSim.nil
 intro; rfl
 intro; rfl
 decide
 refine LSim.cons ?_ ?_ ?_
 refine ESim.tup ?_ ?_
 refine LSim.cons ?_ ?_ ?_
 refine ESim.str ?_
 decide +kernel
 refine LSim.cons ?_ ?_ ?_
 refine ESim.tup ?_ ?_
 refine LSim.cons ?_ ?_ ?_
 refine ESim.str ?_
 decide +kernel
 refine LSim.cons ?_ ?_ ?_
 refine ESim.str ?_
 decide +kernel
 exact LSim.nil
 intro; rfl
 intro; rfl
 decide
 exact LSim.nil
 intro; rfl
 intro; rfl
 decide
 refine LSim.cons ?_ ?_ ?_
 refine ESim.tup ?_ ?_
 refine LSim.cons ?_ ?_ ?_
 refine ESim.str ?_
 decide +kernel
 refine LSim.cons ?_ ?_ ?_
 refine ESim.tup ?_ ?_
 refine LSim.cons ?_ ?_ ?_
 refine ESim.str ?_
 decide +kernel
 refine LSim.cons ?_ ?_ ?_
 refine ESim.str ?_
 decide +kernel
 exact LSim.nil
 intro; rfl
 intro; rfl
 decide
 exact LSim.nil
 intro; rfl
 intro; rfl
 decide
 refine LSim.cons ?_ ?_ ?_
 refine ESim.tup ?_ ?_
 refine LSim.cons ?_ ?_ ?_
 refine ESim.str ?_
 decide +kernel
 refine LSim.cons ?_ ?_ ?_
 refine ESim.tup ?_ ?_
 refine LSim.cons ?_ ?_ ?_
 refine ESim.str ?_
 decide +kernel
 refine LSim.cons ?_ ?_ ?_
 refine ESim.tup ?_ ?_
 exact LSim.nil
 decide
 exact LSim.nil
 intro; rfl
 intro; rfl
 decide
 exact LSim.nil
 intro; rfl
 intro; rfl
 decide
 refine LSim.cons ?_ ?_ ?_
 refine ESim.tup ?_ ?_
 refine LSim.cons ?_ ?_ ?_
 refine ESim.str ?_
 decide +kernel
 refine LSim.cons ?_ ?_ ?_
 refine ESim.tup ?_ ?_
 refine LSim.cons ?_ ?_ ?_
 refine ESim.str ?_
 decide +kernel
 refine LSim.cons ?_ ?_ ?_
 refine ESim.tup ?_ ?_
 refine LSim.cons ?_ ?_ ?_
 refine ESim.nameOf ?_
 decide +kernel
 exact LSim.nil
 intro; rfl
 decide
 exact LSim.nil
 intro; rfl
 intro; rfl
 decide
 exact LSim.nil
 intro; rfl
 intro; rfl
 decide
 refine LSim.cons ?_ ?_ ?_
 refine ESim.tup ?_ ?_
 refine LSim.cons ?_ ?_ ?_
 refine ESim.str ?_
 decide +kernel
 refine LSim.cons ?_ ?_ ?_
 refine ESim.tup ?_ ?_
 refine LSim.cons ?_ ?_ ?_
 refine ESim.str ?_
 decide +kernel
 refine LSim.cons ?_ ?_ ?_
 refine ESim.tup ?_ ?_
 refine LSim.cons ?_ ?_ ?_
 refine ESim.nameOf ?_
 decide +kernel
 refine LSim.cons ?_ ?_ ?_
 refine ESim.nameOf ?_
 decide +kernel
 exact LSim.nil
 intro; rfl
 intro; rfl
 decide
 exact LSim.nil
 intro; rfl
 intro; rfl
 decide
 exact LSim.nil
 intro; rfl
 intro; rfl
 decide
 refine LSim.cons ?_ ?_ ?_
 refine ESim.tup ?_ ?_
 refine LSim.cons ?_ ?_ ?_
 refine ESim.str ?_
 decide +kernel
 refine LSim.cons ?_ ?_ ?_
 refine ESim.tup ?_ ?_
 refine LSim.cons ?_ ?_ ?_
 refine ESim.str ?_
 decide +kernel
 refine LSim.cons ?_ ?_ ?_
 refine ESim.tup ?_ ?_
 refine LSim.cons ?_ ?_ ?_
 refine ESim.nameOf ?_
 decide +kernel
 refine LSim.cons ?_ ?_ ?_
 refine ESim.nameOf ?_
 decide +kernel
 exact LSim.nil
 intro; rfl
 intro; rfl
 decide
 exact LSim.nil
 intro; rfl
 intro; rfl
 decide
 exact LSim.nil
 intro; rfl
 intro; rfl
 decide
 refine LSim.cons ?_ ?_ ?_
 refine ESim.tup ?_ ?_
 refine LSim.cons ?_ ?_ ?_
 refine ESim.str ?_
 decide +kernel
 refine LSim.cons ?_ ?_ ?_
 refine ESim.tup ?_ ?_
 refine LSim.cons ?_ ?_ ?_
 refine ESim.str ?_
 decide +kernel
 refine LSim.cons ?_ ?_ ?_
 exact ESim.none
 refine LSim.cons ?_ ?_ ?_
 exact ESim.bool
 refine LSim.cons ?_ ?_ ?_
 refine ESim.nameOf ?_
 decide +kernel
 exact LSim.nil
 intro; rfl
 intro; rfl
 intro; rfl
 intro; rfl
 decide
 exact LSim.nil
 intro; rfl
 intro; rfl
 decide
 refine LSim.cons ?_ ?_ ?_
 refine ESim.tup ?_ ?_
 refine LSim.cons ?_ ?_ ?_
 refine ESim.str ?_
 decide +kernel
 refine LSim.cons ?_ ?_ ?_
 refine ESim.tup ?_ ?_
 refine LSim.cons ?_ ?_ ?_
 refine ESim.str ?_
 decide +kernel
 refine LSim.cons ?_ ?_ ?_
 refine ESim.str ?_
 decide +kernel
 refine LSim.cons ?_ ?_ ?_
 exact ESim.bool
 refine LSim.cons ?_ ?_ ?_
 refine ESim.nameOf ?_
 decide +kernel
 exact LSim.nil
 intro; rfl
 intro; rfl
 intro; rfl
 intro; rfl
 decide
 exact LSim.nil
 intro; rfl
 intro; rfl
 decide
 refine LSim.cons ?_ ?_ ?_
 refine ESim.tup ?_ ?_
 refine LSim.cons ?_ ?_ ?_
 refine ESim.str ?_
 decide +kernel
 refine LSim.cons ?_ ?_ ?_
 refine ESim.tup ?_ ?_
 refine LSim.cons ?_ ?_ ?_
 refine ESim.str ?_
 decide +kernel
 refine LSim.cons ?_ ?_ ?_
 exact ESim.none
 refine LSim.cons ?_ ?_ ?_
 exact ESim.bool
 refine LSim.cons ?_ ?_ ?_
 refine ESim.nameOf ?_
 decide +kernel
 exact LSim.nil
 intro; rfl
 intro; rfl
 intro; rfl
 intro; rfl
 decide
 exact LSim.nil
 intro; rfl
 intro; rfl
 decide
 refine LSim.cons ?_ ?_ ?_
 refine ESim.tup ?_ ?_
 refine LSim.cons ?_ ?_ ?_
 refine ESim.str ?_
 decide +kernel
 refine LSim.cons ?_ ?_ ?_
 refine ESim.tup ?_ ?_
 refine LSim.cons ?_ ?_ ?_
 refine ESim.str ?_
 decide +kernel
 refine LSim.cons ?_ ?_ ?_
 refine ESim.nameOf ?_
 decide +kernel
 exact LSim.nil
 intro; rfl
 intro; rfl
 decide
 exact LSim.nil
 intro; rfl
 intro; rfl
 decide
 refine LSim.cons ?_ ?_ ?_
 refine ESim.tup ?_ ?_
 refine LSim.cons ?_ ?_ ?_
 refine ESim.str ?_
 decide +kernel
 refine LSim.cons ?_ ?_ ?_
 refine ESim.tup ?_ ?_
 refine LSim.cons ?_ ?_ ?_
 refine ESim.str ?_
 decide +kernel
 refine LSim.cons ?_ ?_ ?_
 refine ESim.nameOf ?_
 decide +kernel
 exact LSim.nil
 intro; rfl
 intro; rfl
 decide
 exact LSim.nil
 intro; rfl
 intro; rfl
 decide
 refine LSim.cons ?_ ?_ ?_
 refine ESim.tup ?_ ?_
 refine LSim.cons ?_ ?_ ?_
 refine ESim.str ?_
 decide +kernel
 refine LSim.cons ?_ ?_ ?_
 refine ESim.tup ?_ ?_
 refine LSim.cons ?_ ?_ ?_
 refine ESim.str ?_
 decide +kernel
 refine LSim.cons ?_ ?_ ?_
 refine ESim.nameOf ?_
 decide +kernel
 refine LSim.cons ?_ ?_ ?_
 exact ESim.int
 exact LSim.nil
 intro; rfl
 intro; rfl
 intro; rfl
 decide
 exact LSim.nil
 intro; rfl
 intro; rfl
 decide
 refine LSim.cons ?_ ?_ ?_
 refine ESim.tup ?_ ?_
 refine LSim.cons ?_ ?_ ?_
 refine ESim.str ?_
 decide +kernel
 refine LSim.cons ?_ ?_ ?_
 refine ESim.tup ?_ ?_
 refine LSim.cons ?_ ?_ ?_
 refine ESim.str ?_
 decide +kernel
 refine LSim.cons ?_ ?_ ?_
 refine ESim.nameOf ?_
 decide +kernel
 refine LSim.cons ?_ ?_ ?_
 exact ESim.int
 exact LSim.nil
 intro; rfl
 intro; rfl
 intro; rfl
 decide
 exact LSim.nil
 intro; rfl
 intro; rfl
 decide
 refine LSim.cons ?_ ?_ ?_
 refine ESim.tup ?_ ?_
 refine LSim.cons ?_ ?_ ?_
 refine ESim.str ?_
 decide +kernel
 refine LSim.cons ?_ ?_ ?_
 refine ESim.tup ?_ ?_
 refine LSim.cons ?_ ?_ ?_
 refine ESim.str ?_
 decide +kernel
 refine LSim.cons ?_ ?_ ?_
 refine ESim.str ?_
 decide +kernel
 refine LSim.cons ?_ ?_ ?_
 refine ESim.tup ?_ ?_
 exact LSim.nil
 decide
 refine LSim.cons ?_ ?_ ?_
 refine ESim.tup ?_ ?_
 refine LSim.cons ?_ ?_ ?_
 refine ESim.nameOf ?_
 decide +kernel
 exact LSim.nil
 intro; rfl
 decide
 exact LSim.nil
 intro; rfl
 intro; rfl
 intro; rfl
 intro; rfl
 decide
 exact LSim.nil
 intro; rfl
 intro; rfl
 decide
 refine LSim.cons ?_ ?_ ?_
 refine ESim.tup ?_ ?_
 refine LSim.cons ?_ ?_ ?_
 refine ESim.str ?_
 decide +kernel
 refine LSim.cons ?_ ?_ ?_
 refine ESim.tup ?_ ?_
 refine LSim.cons ?_ ?_ ?_
 refine ESim.str ?_
 decide +kernel
 refine LSim.cons ?_ ?_ ?_
 refine ESim.str ?_
 decide +kernel
 refine LSim.cons ?_ ?_ ?_
 refine ESim.tup ?_ ?_
 exact LSim.nil
 decide
 refine LSim.cons ?_ ?_ ?_
 refine ESim.tup ?_ ?_
 refine LSim.cons ?_ ?_ ?_
 refine ESim.nameOf ?_
 decide +kernel
 refine LSim.cons ?_ ?_ ?_
 refine ESim.nameOf ?_
 decide +kernel
 exact LSim.nil
 intro; rfl
 intro; rfl
 decide
 exact LSim.nil
 intro; rfl
 intro; rfl
 intro; rfl
 intro; rfl
 decide
 exact LSim.nil
 intro; rfl
 intro; rfl
 decide
 refine LSim.cons ?_ ?_ ?_
 refine ESim.tup ?_ ?_
 refine LSim.cons ?_ ?_ ?_
 refine ESim.str ?_
 decide +kernel
 refine LSim.cons ?_ ?_ ?_
 refine ESim.tup ?_ ?_
 refine LSim.cons ?_ ?_ ?_
 refine ESim.str ?_
 decide +kernel
 refine LSim.cons ?_ ?_ ?_
 refine ESim.str ?_
 decide +kernel
 refine LSim.cons ?_ ?_ ?_
 refine ESim.tup ?_ ?_
 exact LSim.nil
 decide
 refine LSim.cons ?_ ?_ ?_
 refine ESim.tup ?_ ?_
 refine LSim.cons ?_ ?_ ?_
 refine ESim.nameOf ?_
 decide +kernel
 exact LSim.nil
 intro; rfl
 decide
 exact LSim.nil
 intro; rfl
 intro; rfl
 intro; rfl
 intro; rfl
 decide
 exact LSim.nil
 intro; rfl
 intro; rfl
 decide
 exact LSim.nil
 intro; rfl
 intro; rfl
 intro; rfl
 intro; rfl
 intro; rfl
 intro; rfl
 intro; rfl
 intro; rfl
 intro; rfl
 intro; rfl
 intro; rfl
 intro; rfl
 intro; rfl
 intro; rfl
 intro; rfl
 intro; rfl
 intro; rfl
 intro; rfl
 intro; rfl
 intro; rfl
 decide
 exact XSim.nil
noncomputable def r_law_parts : List (Str × Nat) := [("T", 0)]
theorem rho_law_parts : RhoOk r_law_parts := by unfold RhoOk; decide +kernel
theorem k_law_parts : ∃ sc body, defOf 25 = some (sc, body) ∧ NameOk sc r_law_parts ["T"] ∧ ∀ (G : Gd) (d : Nat), AllF G lawP d → XSim G lawP d sc r_law_parts body c_law_parts := by
 refine ⟨_, _, rfl, ?_, ?_⟩
 exact ⟨rfl, rfl, rfl, by decide, by decide, by decide⟩
 intro G d hF
 unfold c_law_parts
 refine XSim.cons ?_ ?_
 refine SSim.iff ?_ ?_ ?_
 refine TSim.cmp op2_eq ?_ ?_ rfl
 refine ESim.sub (op2_idx (fun _ _ => rfl)) ?_ ?_
 refine ESim.nameOf ?_
 decide +kernel
 exact ESim.int
 refine ESim.str ?_
 decide +kernel
 refine XSim.cons ?_ ?_
 refine SSim.ret ?_
 refine ESim.tup ?_ ?_
 refine LSim.cons ?_ ?_ ?_
 refine ESim.sub (op2_idx (fun _ _ => rfl)) ?_ ?_
 refine ESim.nameOf ?_
 decide +kernel
 exact ESim.int
 exact LSim.nil
 intro; rfl
 decide
 exact XSim.nil
 exact XSim.nil
 refine XSim.cons ?_ ?_
 refine SSim.iff ?_ ?_ ?_
 refine TSim.inL ?_ ?_ ?_ rfl
 refine ESim.sub (op2_idx (fun _ _ => rfl)) ?_ ?_
 refine ESim.nameOf ?_
 decide +kernel
 exact ESim.int
 refine LSim.cons ?_ ?_ ?_
 refine ESim.str ?_
 decide +kernel
 refine LSim.cons ?_ ?_ ?_
 refine ESim.str ?_
 decide +kernel
 exact LSim.nil
 intro; rfl
 intro; rfl
 decide
 refine XSim.cons ?_ ?_
 refine SSim.ret ?_
 refine ESim.tup ?_ ?_
 refine LSim.cons ?_ ?_ ?_
 refine ESim.sub (op2_idx (fun _ _ => rfl)) ?_ ?_
 refine ESim.nameOf ?_
 decide +kernel
 exact ESim.int
 exact LSim.nil
 intro; rfl
 decide
 exact XSim.nil
 exact XSim.nil
 refine XSim.cons ?_ ?_
 refine SSim.ret ?_
 refine ESim.ite ?_ ?_ ?_
 refine TSim.cmp op2_eq ?_ ?_ rfl
 refine ESim.sub (op2_idx (fun _ _ => rfl)) ?_ ?_
 refine ESim.nameOf ?_
 decide +kernel
 exact ESim.int
 refine ESim.str ?_
 decide +kernel
 refine ESim.sub (op2_idx (fun _ _ => rfl)) ?_ ?_
 refine ESim.nameOf ?_
 decide +kernel
 exact ESim.int
 refine ESim.ite ?_ ?_ ?_
 refine TSim.cmp op2_eq ?_ ?_ rfl
 refine ESim.sub (op2_idx (fun _ _ => rfl)) ?_ ?_
 refine ESim.nameOf ?_
 decide +kernel
 exact ESim.int
 refine ESim.str ?_
 decide +kernel
 refine ESim.sub (op2_idx (fun _ _ => rfl)) ?_ ?_
 refine ESim.nameOf ?_
 decide +kernel
 exact ESim.int
 refine ESim.tup ?_ ?_
 exact LSim.nil
 decide
 exact XSim.nil
noncomputable def r_law_is_within : List (Str × Nat) := [("book", 0), ("number", 1), ("T", 2), ("left", 3), ("here", 4)]
theorem rho_law_is_within : RhoOk r_law_is_within := by unfold RhoOk; decide +kernel
theorem k_law_is_within : ∃ sc body, defOf 26 = some (sc, body) ∧ NameOk sc r_law_is_within ["book", "number", "T"] ∧ ∀ (G : Gd) (d : Nat), AllF G lawP d → XSim G lawP d sc r_law_is_within body c_law_is_within := by
 refine ⟨_, _, rfl, ?_, ?_⟩
 exact ⟨rfl, rfl, rfl, by decide, by decide, by decide⟩
 intro G d hF
 unfold c_law_is_within
 refine XSim.cons ?_ ?_
 refine SSim.asgN ?_ ?_ ?_ ?_ ?_
 decide
 first | exact .inl (by decide) | exact .inr (by decide)
 exact rho_law_is_within
 refine ESim.lst ?_ ?_
 refine LSim.cons ?_ ?_ ?_
 refine ESim.nameOf ?_
 decide +kernel
 exact LSim.nil
 intro; rfl
 decide
 first | exact fun _ _ => rfl | (intro env h; cases env; cases h; rfl)
 refine XSim.cons ?_ ?_
 refine SSim.whl ?_ ?_
 refine TSim.neN (.inl ⟨rfl, rfl⟩) ?_ rfl
 refine ESim.nameOf ?_
 decide +kernel
 refine XSim.cons ?_ ?_
 refine SSim.asgN ?_ ?_ ?_ ?_ ?_
 decide
 first | exact .inl (by decide) | exact .inr (by decide)
 exact rho_law_is_within
 refine ESim.pm call_pop PySem.F.plainAttrs_list PySem.F.slot_list_pop PySem.F.type_list_pop ?_ ?_ (fun _ => rfl)
 refine ESim.nameOf ?_
 decide +kernel
 exact Args.none
 first | exact fun _ _ => rfl | (intro env h; cases env; cases h; rfl)
 refine XSim.cons ?_ ?_
 refine SSim.iff ?_ ?_ ?_
 refine TSim.boolop ?_
 refine BTSim.and ?_ ?_
 refine TSim.cmp op2_eq ?_ ?_ rfl
 refine ESim.sub (op2_idx (fun _ _ => rfl)) ?_ ?_
 refine ESim.nameOf ?_
 decide +kernel
 exact ESim.int
 refine ESim.str ?_
 decide +kernel
 refine BTSim.last ?_
 refine TSim.cmp op2_in ?_ ?_ rfl
 refine ESim.sub (op2_idx (fun _ _ => rfl)) ?_ ?_
 refine ESim.nameOf ?_
 decide +kernel
 exact ESim.int
 refine ESim.nameOf ?_
 decide +kernel
 refine XSim.cons ?_ ?_
 refine SSim.expr ?_ no_inter (fun _ => rfl)
 refine ESim.pm call_append PySem.F.plainAttrs_list PySem.F.slot_list_append PySem.F.type_list_append ?_ ?_ (fun _ => rfl)
 refine ESim.nameOf ?_
 decide +kernel
 refine Args.cons ?_ ?_ (fun _ => rfl)
 refine ESim.sub (op2_idx (fun _ _ => rfl)) ?_ ?_
 refine ESim.nameOf ?_
 decide +kernel
 refine ESim.sub (op2_idx (fun _ _ => rfl)) ?_ ?_
 refine ESim.nameOf ?_
 decide +kernel
 exact ESim.int
 exact Args.none
 exact XSim.nil
 refine XSim.cons ?_ ?_
 refine SSim.iff ?_ ?_ ?_
 refine TSim.cmp op2_eq ?_ ?_ rfl
 refine ESim.nameOf ?_
 decide +kernel
 refine ESim.tup ?_ ?_
 refine LSim.cons ?_ ?_ ?_
 refine ESim.str ?_
 decide +kernel
 refine LSim.cons ?_ ?_ ?_
 refine ESim.nameOf ?_
 decide +kernel
 exact LSim.nil
 intro; rfl
 intro; rfl
 decide
 refine XSim.cons ?_ ?_
 refine SSim.ret ?_
 exact ESim.bool
 exact XSim.nil
 refine XSim.cons ?_ ?_
 refine SSim.expr ?_ no_inter (fun _ => rfl)
 refine ESim.pm call_extend PySem.F.plainAttrs_list PySem.F.slot_list_extend PySem.F.type_list_extend ?_ ?_ (fun _ => rfl)
 refine ESim.nameOf ?_
 decide +kernel
 refine Args.cons ?_ ?_ (fun _ => rfl)
 refine ESim.callF hF ?_ ?_ ?_ ?_
 decide
 decide
 decide
 refine Args.cons ?_ ?_ (fun _ => rfl)
 refine ESim.nameOf ?_
 decide +kernel
 exact Args.none
 exact Args.none
 exact XSim.nil
 exact XSim.nil
 exact XSim.nil
 refine XSim.cons ?_ ?_
 refine SSim.ret ?_
 exact ESim.bool
 exact XSim.nil
noncomputable def r_law_unknowns_right : List (Str × Nat) := [("source", 0), ("found", 1), ("book", 2), ("many", 3), ("some", 4), ("at", 5), ("later", 6), ("told", 7), ("due", 8), ("free", 9), ("T", 10)]
theorem rho_law_unknowns_right : RhoOk r_law_unknowns_right := by unfold RhoOk; decide +kernel
noncomputable def r_law_unknowns_right_0 : List (Str × Nat) := [("at", 11), ("book", 2)]
theorem rho_law_unknowns_right_0 : RhoOk r_law_unknowns_right_0 := by unfold RhoOk; decide +kernel
noncomputable def r_law_unknowns_right_1 : List (Str × Nat) := [("at", 12), ("found", 1)]
theorem rho_law_unknowns_right_1 : RhoOk r_law_unknowns_right_1 := by unfold RhoOk; decide +kernel
theorem k_law_unknowns_right : ∃ sc body, defOf 27 = some (sc, body) ∧ NameOk sc r_law_unknowns_right ["source"] ∧ ∀ (G : Gd) (d : Nat), AllF G lawP d → XSim G lawP d sc r_law_unknowns_right body c_law_unknowns_right := by
 refine ⟨_, _, rfl, ?_, ?_⟩
 exact ⟨rfl, rfl, rfl, by decide, by decide, by decide⟩
 intro G d hF
 unfold c_law_unknowns_right
 refine XSim.cons ?_ ?_
 refine SSim.asgT ?_ ?_ ?_ ?_
 refine TgSim.tup ?_ pat_cons
 refine TgsSim.cons ?_ ?_ (fun _ => rfl)
 refine TgSim.name ?_ ?_ rho_law_unknowns_right
 decide
 first | exact .inl (by decide) | exact .inr (by decide)
 refine TgsSim.cons ?_ ?_ (fun _ => rfl)
 refine TgSim.name ?_ ?_ rho_law_unknowns_right
 decide
 first | exact .inl (by decide) | exact .inr (by decide)
 exact TgsSim.nil
 refine ESim.tup ?_ ?_
 refine LSim.cons ?_ ?_ ?_
 refine ESim.new hF lawP_ok ?_ ?_ ?_ ?_
 decide
 decide
 decide
 exact Args.none
 refine LSim.cons ?_ ?_ ?_
 exact ESim.dict
 exact LSim.nil
 intro; rfl
 intro; rfl
 decide
 first | exact fun _ _ => rfl | (intro env h; cases env; cases h; rfl)
 first | exact fun _ _ => rfl | (intro env h; cases env; cases h; rfl)
 refine XSim.cons ?_ ?_
 refine SSim.asgN ?_ ?_ ?_ ?_ ?_
 decide
 first | exact .inl (by decide) | exact .inr (by decide)
 exact rho_law_unknowns_right
 refine ESim.binop op2_add ?_ ?_
 exact ESim.int
 refine ESim.callF hF ?_ ?_ ?_ ?_
 decide
 decide
 decide
 refine Args.cons ?_ ?_ (fun _ => rfl)
 refine ESim.nameOf ?_
 decide +kernel
 refine Args.cons ?_ ?_ (fun _ => rfl)
 exact ESim.int
 exact Args.none
 first | exact fun _ _ => rfl | (intro env h; cases env; cases h; rfl)
 refine XSim.cons ?_ ?_
 refine SSim.asgComp ?_ ?_ rho_law_unknowns_right (kd := .rng) (ρ' := r_law_unknowns_right_1) ⟨rfl, by decide, by decide, by decide, by decide, by decide⟩ PatOk.var ?_ ?_ ?_ ?_ ?_ (fun _ _ => rfl) ?_
 decide
 first | exact .inl (by decide) | exact .inr (by decide)
 refine TgSim.own ?_ ?_ rho_law_unknowns_right_1
 decide
 decide
 refine SrcSim.rng ?_ ?_
 refine Args.cons ?_ ?_ (fun _ => rfl)
 refine ESim.nameOf ?_
 decide +kernel
 exact Args.none
 decide
 exact CondSim.none
 refine ESim.callM hF lawP_ok ?_ ?_ (fun _ => rfl)
 refine ESim.nameOf ?_
 decide +kernel
 exact Args.none
 constructor
 (intro env h; cases env; cases h; rfl)
 refine XSim.cons ?_ ?_
 refine SSim.for (kd := .rng) ?_ ?_ ?_ ?_ (fun _ _ => rfl)
 refine TgSim.name ?_ ?_ rho_law_unknowns_right
 decide
 first | exact .inl (by decide) | exact .inr (by decide)
 refine SrcSim.rng ?_ ?_
 refine Args.cons ?_ ?_ (fun _ => rfl)
 refine ESim.binop op2_sub ?_ ?_
 refine ESim.nameOf ?_
 decide +kernel
 exact ESim.int
 exact Args.none
 decide
 refine XSim.cons ?_ ?_
 refine SSim.asgN ?_ ?_ ?_ ?_ ?_
 decide
 first | exact .inl (by decide) | exact .inr (by decide)
 exact rho_law_unknowns_right
 refine ESim.sub (op2_idx (fun _ _ => rfl)) ?_ ?_
 refine ESim.nameOf ?_
 decide +kernel
 refine ESim.binop op2_add ?_ ?_
 refine ESim.binop op2_add ?_ ?_
 refine ESim.nameOf ?_
 decide +kernel
 exact ESim.int
 refine ESim.callF hF ?_ ?_ ?_ ?_
 decide
 decide
 decide
 refine Args.cons ?_ ?_ (fun _ => rfl)
 refine ESim.nameOf ?_
 decide +kernel
 refine Args.cons ?_ ?_ (fun _ => rfl)
 refine ESim.binop op2_sub ?_ ?_
 refine ESim.binop op2_sub ?_ ?_
 refine ESim.nameOf ?_
 decide +kernel
 exact ESim.int
 refine ESim.nameOf ?_
 decide +kernel
 exact Args.none
 first | exact fun _ _ => rfl | (intro env h; cases env; cases h; rfl)
 refine XSim.cons ?_ ?_
 refine SSim.asgN ?_ ?_ ?_ ?_ ?_
 decide
 first | exact .inl (by decide) | exact .inr (by decide)
 exact rho_law_unknowns_right
 refine ESim.gc ?_
 refine ESim.callF hF ?_ ?_ ?_ ?_
 decide
 decide
 decide
 refine Args.cons ?_ ?_ (fun _ => rfl)
 refine ESim.nameOf ?_
 decide +kernel
 refine Args.cons ?_ ?_ (fun _ => rfl)
 refine ESim.lst ?_ ?_
 refine LSim.cons ?_ ?_ ?_
 exact ESim.none
 refine LSim.cons ?_ ?_ ?_
 refine ESim.nameOf ?_
 decide +kernel
 refine LSim.cons ?_ ?_ ?_
 refine ESim.nameOf ?_
 decide +kernel
 refine LSim.cons ?_ ?_ ?_
 refine ESim.tup ?_ ?_
 refine LSim.cons ?_ ?_ ?_
 refine ESim.str ?_
 decide +kernel
 refine LSim.cons ?_ ?_ ?_
 refine ESim.nameOf ?_
 decide +kernel
 exact LSim.nil
 intro; rfl
 intro; rfl
 decide
 refine LSim.cons ?_ ?_ ?_
 refine ESim.tup ?_ ?_
 refine LSim.cons ?_ ?_ ?_
 refine ESim.str ?_
 decide +kernel
 refine LSim.cons ?_ ?_ ?_
 refine ESim.tup ?_ ?_
 refine LSim.cons ?_ ?_ ?_
 refine ESim.tup ?_ ?_
 refine LSim.cons ?_ ?_ ?_
 refine ESim.str ?_
 decide +kernel
 exact LSim.nil
 intro; rfl
 decide
 refine LSim.cons ?_ ?_ ?_
 refine ESim.nameOf ?_
 decide +kernel
 exact LSim.nil
 intro; rfl
 intro; rfl
 decide
 exact LSim.nil
 intro; rfl
 intro; rfl
 decide
 refine LSim.cons ?_ ?_ ?_
 refine ESim.tup ?_ ?_
 refine LSim.cons ?_ ?_ ?_
 refine ESim.str ?_
 decide +kernel
 refine LSim.cons ?_ ?_ ?_
 refine ESim.str ?_
 decide +kernel
 exact LSim.nil
 intro; rfl
 intro; rfl
 decide
 refine LSim.cons ?_ ?_ ?_
 refine ESim.tup ?_ ?_
 refine LSim.cons ?_ ?_ ?_
 refine ESim.str ?_
 decide +kernel
 refine LSim.cons ?_ ?_ ?_
 refine ESim.str ?_
 decide +kernel
 refine LSim.cons ?_ ?_ ?_
 exact ESim.bool
 refine LSim.cons ?_ ?_ ?_
 refine ESim.nameOf ?_
 decide +kernel
 exact LSim.nil
 intro; rfl
 intro; rfl
 intro; rfl
 intro; rfl
 decide
 refine LSim.cons ?_ ?_ ?_
 refine ESim.tup ?_ ?_
 refine LSim.cons ?_ ?_ ?_
 refine ESim.str ?_
 decide +kernel
 refine LSim.cons ?_ ?_ ?_
 refine ESim.str ?_
 decide +kernel
 refine LSim.cons ?_ ?_ ?_
 refine ESim.tup ?_ ?_
 exact LSim.nil
 decide
 refine LSim.cons ?_ ?_ ?_
 refine ESim.tup ?_ ?_
 refine LSim.cons ?_ ?_ ?_
 refine ESim.nameOf ?_
 decide +kernel
 refine LSim.cons ?_ ?_ ?_
 refine ESim.tup ?_ ?_
 refine LSim.cons ?_ ?_ ?_
 refine ESim.str ?_
 decide +kernel
 exact LSim.nil
 intro; rfl
 decide
 exact LSim.nil
 intro; rfl
 intro; rfl
 decide
 exact LSim.nil
 intro; rfl
 intro; rfl
 intro; rfl
 intro; rfl
 decide
 exact LSim.nil
 intro; rfl
 intro; rfl
 intro; rfl
 intro; rfl
 intro; rfl
 intro; rfl
 intro; rfl
 intro; rfl
 decide
 exact Args.none
 first | exact fun _ _ => rfl | (intro env h; cases env; cases h; rfl)
 refine XSim.cons ?_ ?_
 refine SSim.iff ?_ ?_ ?_
 refine TSim.op1 (.inr ⟨rfl, rfl⟩) ?_ rfl
 refine ESim.nameOf ?_
 decide +kernel
 refine XSim.cons ?_ ?_
 refine SSim.expr ?_ no_inter (fun _ => rfl)
 refine ESim.gc ?_
 refine ESim.callM hF lawP_ok ?_ ?_ (fun _ => rfl)
 refine ESim.nameOf ?_
 decide +kernel
 refine Args.cons ?_ ?_ (fun _ => rfl)
 refine ESim.sub (op2_idx (fun _ _ => rfl)) ?_ ?_
 refine ESim.nameOf ?_
 decide +kernel
 refine ESim.nameOf ?_
 decide +kernel
 refine Args.cons ?_ ?_ (fun _ => rfl)
 refine ESim.nameOf ?_
 decide +kernel
 exact Args.none
 refine XSim.cons ?_ ?_
 refine SSim.setI ?_ ?_ ?_ ?_
 refine ESim.nameOf ?_
 decide +kernel
 refine ESim.nameOf ?_
 decide +kernel
 refine ESim.nameOf ?_
 decide +kernel
 first | exact fun _ _ => rfl | (intro env h; cases env; cases h; rfl)
 exact XSim.nil
 exact XSim.nil
 exact XSim.nil
 constructor
 refine XSim.cons ?_ ?_
 refine SSim.for (kd := .rng) ?_ ?_ ?_ ?_ (fun _ _ => rfl)
 refine TgSim.name ?_ ?_ rho_law_unknowns_right
 decide
 first | exact .inl (by decide) | exact .inr (by decide)
 refine SrcSim.rng ?_ ?_
 refine Args.cons ?_ ?_ (fun _ => rfl)
 refine ESim.nameOf ?_
 decide +kernel
 exact Args.none
 decide
 refine XSim.cons ?_ ?_
 refine SSim.asgN ?_ ?_ ?_ ?_ ?_
 decide
 first | exact .inl (by decide) | exact .inr (by decide)
 exact rho_law_unknowns_right
 refine ESim.tup ?_ ?_
 refine LSim.cons ?_ ?_ ?_
 refine ESim.str ?_
 decide +kernel
 refine LSim.cons ?_ ?_ ?_
 refine ESim.nameOf ?_
 decide +kernel
 exact LSim.nil
 intro; rfl
 intro; rfl
 decide
 first | exact fun _ _ => rfl | (intro env h; cases env; cases h; rfl)
 refine XSim.cons ?_ ?_
 refine SSim.whl ?_ ?_
 refine TSim.boolop ?_
 refine BTSim.and ?_ ?_
 refine TSim.cmp op2_eq ?_ ?_ rfl
 refine ESim.sub (op2_idx (fun _ _ => rfl)) ?_ ?_
 refine ESim.nameOf ?_
 decide +kernel
 exact ESim.int
 refine ESim.str ?_
 decide +kernel
 refine BTSim.last ?_
 refine TSim.cmp op2_in ?_ ?_ rfl
 refine ESim.sub (op2_idx (fun _ _ => rfl)) ?_ ?_
 refine ESim.nameOf ?_
 decide +kernel
 exact ESim.int
 refine ESim.nameOf ?_
 decide +kernel
 refine XSim.cons ?_ ?_
 refine SSim.asgN ?_ ?_ ?_ ?_ ?_
 decide
 first | exact .inl (by decide) | exact .inr (by decide)
 exact rho_law_unknowns_right
 refine ESim.sub (op2_idx (fun _ _ => rfl)) ?_ ?_
 refine ESim.nameOf ?_
 decide +kernel
 refine ESim.sub (op2_idx (fun _ _ => rfl)) ?_ ?_
 refine ESim.nameOf ?_
 decide +kernel
 exact ESim.int
 first | exact fun _ _ => rfl | (intro env h; cases env; cases h; rfl)
 exact XSim.nil
 refine XSim.cons ?_ ?_
 refine SSim.iff ?_ ?_ ?_
 refine TSim.cmp op2_ne ?_ ?_ rfl
 refine ESim.callM hF lawP_ok ?_ ?_ (fun _ => rfl)
 refine ESim.nameOf ?_
 decide +kernel
 refine Args.cons ?_ ?_ (fun _ => rfl)
 refine ESim.sub (op2_idx (fun _ _ => rfl)) ?_ ?_
 refine ESim.nameOf ?_
 decide +kernel
 refine ESim.nameOf ?_
 decide +kernel
 exact Args.none
 refine ESim.nameOf ?_
 decide +kernel
 refine XSim.cons ?_ ?_
 refine SSim.ret ?_
 exact ESim.bool
 exact XSim.nil
 exact XSim.nil
 exact XSim.nil
 constructor
 refine XSim.cons ?_ ?_
 refine SSim.asgComp ?_ ?_ rho_law_unknowns_right (kd := .rng) (ρ' := r_law_unknowns_right_0) ⟨rfl, by decide, by decide, by decide, by decide, by decide⟩ PatOk.var ?_ ?_ ?_ ?_ ?_ (fun _ _ => rfl) ?_
 decide
 first | exact .inl (by decide) | exact .inr (by decide)
 refine TgSim.own ?_ ?_ rho_law_unknowns_right_0
 decide
 decide
 refine SrcSim.rng ?_ ?_
 refine Args.cons ?_ ?_ (fun _ => rfl)
 refine ESim.nameOf ?_
 decide +kernel
 exact Args.none
 decide
 refine CondSim.one ?_
 refine TSim.cmp op2_notIn ?_ ?_ rfl
 refine ESim.nameOf ?_
 decide +kernel
 refine ESim.nameOf ?_
 decide +kernel
 refine ESim.nameOf ?_
 decide +kernel
 constructor
 (intro env h; cases env; cases h; rfl)
 refine XSim.cons ?_ ?_
 refine SSim.asgN ?_ ?_ ?_ ?_ ?_
 decide
 first | exact .inl (by decide) | exact .inr (by decide)
 exact rho_law_unknowns_right
 refine ESim.tup ?_ ?_
 refine LSim.cons ?_ ?_ ?_
 refine ESim.str ?_
 decide +kernel
 refine LSim.cons ?_ ?_ ?_
 refine ESim.tup ?_ ?_
 refine LSim.cons ?_ ?_ ?_
 refine ESim.callF hF ?_ ?_ ?_ ?_
 decide
 decide
 decide
 refine Args.cons ?_ ?_ (fun _ => rfl)
 refine ESim.nameOf ?_
 decide +kernel
 refine Args.cons ?_ ?_ (fun _ => rfl)
 refine ESim.nameOf ?_
 decide +kernel
 exact Args.none
 refine LSim.cons ?_ ?_ ?_
 refine ESim.tup ?_ ?_
 refine LSim.cons ?_ ?_ ?_
 refine ESim.str ?_
 decide +kernel
 refine LSim.cons ?_ ?_ ?_
 refine ESim.callF hF ?_ ?_ ?_ ?_
 decide
 decide
 decide
 refine Args.cons ?_ ?_ (fun _ => rfl)
 refine ESim.nameOf ?_
 decide +kernel
 refine Args.cons ?_ ?_ (fun _ => rfl)
 refine ESim.nameOf ?_
 decide +kernel
 exact Args.none
 exact LSim.nil
 intro; rfl
 intro; rfl
 decide
 refine LSim.cons ?_ ?_ ?_
 refine ESim.tup ?_ ?_
 refine LSim.cons ?_ ?_ ?_
 refine ESim.str ?_
 decide +kernel
 exact LSim.nil
 intro; rfl
 decide
 exact LSim.nil
 intro; rfl
 intro; rfl
 intro; rfl
 decide
 exact LSim.nil
 intro; rfl
 intro; rfl
 decide
 first | exact fun _ _ => rfl | (intro env h; cases env; cases h; rfl)
 refine XSim.cons ?_ ?_
 refine SSim.for (kd := .vals) ?_ ?_ ?_ ?_ (fun _ _ => rfl)
 refine TgSim.name ?_ ?_ rho_law_unknowns_right
 decide
 first | exact .inl (by decide) | exact .inr (by decide)
 refine SrcSim.vals ?_ (fun _ _ _ _ _ => rfl)
 refine ESim.nameOf ?_
 decide +kernel
 refine XSim.cons ?_ ?_
 refine SSim.iff ?_ ?_ ?_
 refine TSim.boolop ?_
 refine BTSim.or ?_ ?_
 refine TSim.cmp op2_ne ?_ ?_ rfl
 refine ESim.gc ?_
 refine ESim.callM hF lawP_ok ?_ ?_ (fun _ => rfl)
 refine ESim.nameOf ?_
 decide +kernel
 refine Args.cons ?_ ?_ (fun _ => rfl)
 refine ESim.tup ?_ ?_
 refine LSim.cons ?_ ?_ ?_
 refine ESim.str ?_
 decide +kernel
 refine LSim.cons ?_ ?_ ?_
 refine ESim.nameOf ?_
 decide +kernel
 exact LSim.nil
 intro; rfl
 intro; rfl
 decide
 refine Args.cons ?_ ?_ (fun _ => rfl)
 refine ESim.nameOf ?_
 decide +kernel
 exact Args.none
 refine ESim.gc ?_
 refine ESim.callF hF ?_ ?_ ?_ ?_
 decide
 decide
 decide
 refine Args.cons ?_ ?_ (fun _ => rfl)
 refine ESim.nameOf ?_
 decide +kernel
 refine Args.cons ?_ ?_ (fun _ => rfl)
 refine ESim.nameOf ?_
 decide +kernel
 refine Args.cons ?_ ?_ (fun _ => rfl)
 refine ESim.nameOf ?_
 decide +kernel
 exact Args.none
 refine BTSim.last ?_
 refine TSim.not ?_
 refine TSim.val ?_ (fun _ _ => rfl)
 refine ESim.gc ?_
 refine ESim.callM hF lawP_ok ?_ ?_ (fun _ => rfl)
 refine ESim.nameOf ?_
 decide +kernel
 refine Args.cons ?_ ?_ (fun _ => rfl)
 refine ESim.tup ?_ ?_
 refine LSim.cons ?_ ?_ ?_
 refine ESim.str ?_
 decide +kernel
 refine LSim.cons ?_ ?_ ?_
 refine ESim.nameOf ?_
 decide +kernel
 exact LSim.nil
 intro; rfl
 intro; rfl
 decide
 refine Args.cons ?_ ?_ (fun _ => rfl)
 refine ESim.sub (op2_idx (fun _ _ => rfl)) ?_ ?_
 refine ESim.nameOf ?_
 decide +kernel
 refine ESim.nameOf ?_
 decide +kernel
 exact Args.none
 refine XSim.cons ?_ ?_
 refine SSim.ret ?_
 exact ESim.bool
 exact XSim.nil
 exact XSim.nil
 exact XSim.nil
 constructor
 refine XSim.cons ?_ ?_
 refine SSim.ret ?_
 exact ESim.bool
 exact XSim.nil
noncomputable def r_law_unknowns_told : List (Str × Nat) := [("found", 0), ("one", 1), ("other", 2), ("last", 3), ("number", 4)]
theorem rho_law_unknowns_told : RhoOk r_law_unknowns_told := by unfold RhoOk; decide +kernel
noncomputable def r_law_unknowns_told_0 : List (Str × Nat) := [("T", 5), ("found", 0)]
theorem rho_law_unknowns_told_0 : RhoOk r_law_unknowns_told_0 := by unfold RhoOk; decide +kernel
theorem k_law_unknowns_told : ∃ sc body, defOf 28 = some (sc, body) ∧ NameOk sc r_law_unknowns_told [] ∧ ∀ (G : Gd) (d : Nat), AllF G lawP d → XSim G lawP d sc r_law_unknowns_told body c_law_unknowns_told := by
 refine ⟨_, _, rfl, ?_, ?_⟩
 exact ⟨rfl, rfl, rfl, by decide, by decide, by decide⟩
 intro G d hF
 unfold c_law_unknowns_told
 refine XSim.cons ?_ ?_
 refine SSim.asgN ?_ ?_ ?_ ?_ ?_
 decide
 first | exact .inl (by decide) | exact .inr (by decide)
 exact rho_law_unknowns_told
 refine ESim.new hF lawP_ok ?_ ?_ ?_ ?_
 decide
 decide
 decide
 exact Args.none
 first | exact fun _ _ => rfl | (intro env h; cases env; cases h; rfl)
 refine XSim.cons ?_ ?_
 refine SSim.asgT ?_ ?_ ?_ ?_
 refine TgSim.tup ?_ pat_cons
 refine TgsSim.cons ?_ ?_ (fun _ => rfl)
 refine TgSim.name ?_ ?_ rho_law_unknowns_told
 decide
 first | exact .inl (by decide) | exact .inr (by decide)
 refine TgsSim.cons ?_ ?_ (fun _ => rfl)
 refine TgSim.name ?_ ?_ rho_law_unknowns_told
 decide
 first | exact .inl (by decide) | exact .inr (by decide)
 refine TgsSim.cons ?_ ?_ (fun _ => rfl)
 refine TgSim.name ?_ ?_ rho_law_unknowns_told
 decide
 first | exact .inl (by decide) | exact .inr (by decide)
 refine TgsSim.cons ?_ ?_ (fun _ => rfl)
 refine TgSim.name ?_ ?_ rho_law_unknowns_told
 decide
 first | exact .inl (by decide) | exact .inr (by decide)
 exact TgsSim.nil
 refine ESim.tup ?_ ?_
 refine LSim.cons ?_ ?_ ?_
 refine ESim.callM hF lawP_ok ?_ ?_ (fun _ => rfl)
 refine ESim.nameOf ?_
 decide +kernel
 exact Args.none
 refine LSim.cons ?_ ?_ ?_
 refine ESim.callM hF lawP_ok ?_ ?_ (fun _ => rfl)
 refine ESim.nameOf ?_
 decide +kernel
 exact Args.none
 refine LSim.cons ?_ ?_ ?_
 refine ESim.callM hF lawP_ok ?_ ?_ (fun _ => rfl)
 refine ESim.nameOf ?_
 decide +kernel
 exact Args.none
 refine LSim.cons ?_ ?_ ?_
 refine ESim.callM hF lawP_ok ?_ ?_ (fun _ => rfl)
 refine ESim.nameOf ?_
 decide +kernel
 exact Args.none
 exact LSim.nil
 intro; rfl
 intro; rfl
 intro; rfl
 intro; rfl
 decide
 first | exact fun _ _ => rfl | (intro env h; cases env; cases h; rfl)
 first | exact fun _ _ => rfl | (intro env h; cases env; cases h; rfl)
 refine XSim.cons ?_ ?_
 refine SSim.expr ?_ no_inter (fun _ => rfl)
 refine ESim.gc ?_
 refine ESim.callM hF lawP_ok ?_ ?_ (fun _ => rfl)
 refine ESim.nameOf ?_
 decide +kernel
 refine Args.cons ?_ ?_ (fun _ => rfl)
 refine ESim.nameOf ?_
 decide +kernel
 refine Args.cons ?_ ?_ (fun _ => rfl)
 refine ESim.nameOf ?_
 decide +kernel
 exact Args.none
 refine XSim.cons ?_ ?_
 refine SSim.expr ?_ no_inter (fun _ => rfl)
 refine ESim.gc ?_
 refine ESim.callM hF lawP_ok ?_ ?_ (fun _ => rfl)
 refine ESim.nameOf ?_
 decide +kernel
 refine Args.cons ?_ ?_ (fun _ => rfl)
 refine ESim.nameOf ?_
 decide +kernel
 refine Args.cons ?_ ?_ (fun _ => rfl)
 refine ESim.tup ?_ ?_
 refine LSim.cons ?_ ?_ ?_
 refine ESim.str ?_
 decide +kernel
 refine LSim.cons ?_ ?_ ?_
 refine ESim.nameOf ?_
 decide +kernel
 exact LSim.nil
 intro; rfl
 intro; rfl
 decide
 exact Args.none
 refine XSim.cons ?_ ?_
 refine SSim.iff ?_ ?_ ?_
 refine TSim.cmp op2_ne ?_ ?_ rfl
 refine ESim.comp (kd := .vals) (ρ' := r_law_unknowns_told_0) ⟨rfl, by decide, by decide, by decide, by decide, by decide⟩ PatOk.var ?_ ?_ ?_ ?_ ?_ (fun _ _ => rfl)
 refine TgSim.own ?_ ?_ rho_law_unknowns_told_0
 decide
 decide
 refine SrcSim.vals ?_ (fun _ _ _ _ _ => rfl)
 refine ESim.lst ?_ ?_
 refine LSim.cons ?_ ?_ ?_
 refine ESim.nameOf ?_
 decide +kernel
 refine LSim.cons ?_ ?_ ?_
 refine ESim.nameOf ?_
 decide +kernel
 refine LSim.cons ?_ ?_ ?_
 refine ESim.nameOf ?_
 decide +kernel
 exact LSim.nil
 intro; rfl
 intro; rfl
 intro; rfl
 decide
 exact CondSim.none
 refine ESim.callM hF lawP_ok ?_ ?_ (fun _ => rfl)
 refine ESim.nameOf ?_
 decide +kernel
 refine Args.cons ?_ ?_ (fun _ => rfl)
 refine ESim.nameOf ?_
 decide +kernel
 exact Args.none
 constructor
 refine ESim.lst ?_ ?_
 refine LSim.cons ?_ ?_ ?_
 refine ESim.tup ?_ ?_
 refine LSim.cons ?_ ?_ ?_
 refine ESim.str ?_
 decide +kernel
 refine LSim.cons ?_ ?_ ?_
 refine ESim.nameOf ?_
 decide +kernel
 exact LSim.nil
 intro; rfl
 intro; rfl
 decide
 refine LSim.cons ?_ ?_ ?_
 refine ESim.tup ?_ ?_
 refine LSim.cons ?_ ?_ ?_
 refine ESim.str ?_
 decide +kernel
 refine LSim.cons ?_ ?_ ?_
 refine ESim.nameOf ?_
 decide +kernel
 exact LSim.nil
 intro; rfl
 intro; rfl
 decide
 refine LSim.cons ?_ ?_ ?_
 refine ESim.nameOf ?_
 decide +kernel
 exact LSim.nil
 intro; rfl
 intro; rfl
 intro; rfl
 decide
 refine XSim.cons ?_ ?_
 refine SSim.ret ?_
 exact ESim.bool
 exact XSim.nil
 exact XSim.nil
 refine XSim.cons ?_ ?_
 refine SSim.iff ?_ ?_ ?_
 refine TSim.boolop ?_
 refine BTSim.or ?_ ?_
 refine TSim.cmp op2_ne ?_ ?_ rfl
 refine ESim.callM hF lawP_ok ?_ ?_ (fun _ => rfl)
 refine ESim.nameOf ?_
 decide +kernel
 refine Args.cons ?_ ?_ (fun _ => rfl)
 refine ESim.nameOf ?_
 decide +kernel
 exact Args.none
 refine ESim.nameOf ?_
 decide +kernel
 refine BTSim.last ?_
 refine TSim.cmp op2_ne ?_ ?_ rfl
 refine ESim.callM hF lawP_ok ?_ ?_ (fun _ => rfl)
 refine ESim.nameOf ?_
 decide +kernel
 refine Args.cons ?_ ?_ (fun _ => rfl)
 refine ESim.tup ?_ ?_
 refine LSim.cons ?_ ?_ ?_
 refine ESim.str ?_
 decide +kernel
 refine LSim.cons ?_ ?_ ?_
 refine ESim.tup ?_ ?_
 refine LSim.cons ?_ ?_ ?_
 refine ESim.nameOf ?_
 decide +kernel
 exact LSim.nil
 intro; rfl
 decide
 exact LSim.nil
 intro; rfl
 intro; rfl
 decide
 exact Args.none
 refine ESim.tup ?_ ?_
 refine LSim.cons ?_ ?_ ?_
 refine ESim.str ?_
 decide +kernel
 refine LSim.cons ?_ ?_ ?_
 refine ESim.tup ?_ ?_
 refine LSim.cons ?_ ?_ ?_
 refine ESim.nameOf ?_
 decide +kernel
 exact LSim.nil
 intro; rfl
 decide
 exact LSim.nil
 intro; rfl
 intro; rfl
 decide
 refine XSim.cons ?_ ?_
 refine SSim.ret ?_
 exact ESim.bool
 exact XSim.nil
 exact XSim.nil
 refine XSim.cons ?_ ?_
 refine SSim.expr ?_ no_inter (fun _ => rfl)
 refine ESim.gc ?_
 refine ESim.callM hF lawP_ok ?_ ?_ (fun _ => rfl)
 refine ESim.nameOf ?_
 decide +kernel
 refine Args.cons ?_ ?_ (fun _ => rfl)
 refine ESim.nameOf ?_
 decide +kernel
 refine Args.cons ?_ ?_ (fun _ => rfl)
 refine ESim.tup ?_ ?_
 refine LSim.cons ?_ ?_ ?_
 refine ESim.str ?_
 decide +kernel
 refine LSim.cons ?_ ?_ ?_
 refine ESim.str ?_
 decide +kernel
 exact LSim.nil
 intro; rfl
 intro; rfl
 decide
 exact Args.none
 refine XSim.cons ?_ ?_
 refine SSim.iff ?_ ?_ ?_
 refine TSim.boolop ?_
 refine BTSim.or ?_ ?_
 refine TSim.cmp op2_ne ?_ ?_ rfl
 refine ESim.callM hF lawP_ok ?_ ?_ (fun _ => rfl)
 refine ESim.nameOf ?_
 decide +kernel
 refine Args.cons ?_ ?_ (fun _ => rfl)
 refine ESim.nameOf ?_
 decide +kernel
 exact Args.none
 refine ESim.tup ?_ ?_
 refine LSim.cons ?_ ?_ ?_
 refine ESim.str ?_
 decide +kernel
 refine LSim.cons ?_ ?_ ?_
 refine ESim.str ?_
 decide +kernel
 exact LSim.nil
 intro; rfl
 intro; rfl
 decide
 refine BTSim.or ?_ ?_
 refine TSim.not ?_
 refine TSim.val ?_ (fun _ _ => rfl)
 refine ESim.gc ?_
 refine ESim.callM hF lawP_ok ?_ ?_ (fun _ => rfl)
 refine ESim.nameOf ?_
 decide +kernel
 refine Args.cons ?_ ?_ (fun _ => rfl)
 refine ESim.nameOf ?_
 decide +kernel
 refine Args.cons ?_ ?_ (fun _ => rfl)
 refine ESim.nameOf ?_
 decide +kernel
 exact Args.none
 refine BTSim.last ?_
 refine TSim.val ?_ (fun _ _ => rfl)
 refine ESim.gc ?_
 refine ESim.callM hF lawP_ok ?_ ?_ (fun _ => rfl)
 refine ESim.nameOf ?_
 decide +kernel
 refine Args.cons ?_ ?_ (fun _ => rfl)
 refine ESim.nameOf ?_
 decide +kernel
 refine Args.cons ?_ ?_ (fun _ => rfl)
 refine ESim.nameOf ?_
 decide +kernel
 exact Args.none
 refine XSim.cons ?_ ?_
 refine SSim.ret ?_
 exact ESim.bool
 exact XSim.nil
 exact XSim.nil
 refine XSim.cons ?_ ?_
 refine SSim.ret ?_
 refine ESim.boolop ?_
 refine BSim.and ?_ ?_
 refine ESim.gc ?_
 refine ESim.callM hF lawP_ok ?_ ?_ (fun _ => rfl)
 refine ESim.nameOf ?_
 decide +kernel
 refine Args.cons ?_ ?_ (fun _ => rfl)
 refine ESim.nameOf ?_
 decide +kernel
 refine Args.cons ?_ ?_ (fun _ => rfl)
 refine ESim.tup ?_ ?_
 refine LSim.cons ?_ ?_ ?_
 refine ESim.str ?_
 decide +kernel
 refine LSim.cons ?_ ?_ ?_
 exact ESim.none
 refine LSim.cons ?_ ?_ ?_
 exact ESim.bool
 refine LSim.cons ?_ ?_ ?_
 refine ESim.tup ?_ ?_
 refine LSim.cons ?_ ?_ ?_
 refine ESim.str ?_
 decide +kernel
 refine LSim.cons ?_ ?_ ?_
 refine ESim.tup ?_ ?_
 refine LSim.cons ?_ ?_ ?_
 refine ESim.tup ?_ ?_
 refine LSim.cons ?_ ?_ ?_
 refine ESim.str ?_
 decide +kernel
 exact LSim.nil
 intro; rfl
 decide
 refine LSim.cons ?_ ?_ ?_
 refine ESim.nameOf ?_
 decide +kernel
 exact LSim.nil
 intro; rfl
 intro; rfl
 decide
 exact LSim.nil
 intro; rfl
 intro; rfl
 decide
 exact LSim.nil
 intro; rfl
 intro; rfl
 intro; rfl
 intro; rfl
 decide
 exact Args.none
 refine BSim.last ?_
 refine ESim.not ?_
 refine ESim.gc ?_
 refine ESim.callM hF lawP_ok ?_ ?_ (fun _ => rfl)
 refine ESim.nameOf ?_
 decide +kernel
 refine Args.cons ?_ ?_ (fun _ => rfl)
 refine ESim.nameOf ?_
 decide +kernel
 refine Args.cons ?_ ?_ (fun _ => rfl)
 refine ESim.tup ?_ ?_
 refine LSim.cons ?_ ?_ ?_
 refine ESim.str ?_
 decide +kernel
 exact LSim.nil
 intro; rfl
 decide
 exact Args.none
 exact XSim.nil
noncomputable def r_law_patterns : List (Str × Nat) := [("t", 0), ("u", 1), ("byte", 2), ("truth", 3), ("rows", 4)]
theorem rho_law_patterns : RhoOk r_law_patterns := by unfold RhoOk; decide +kernel
theorem k_law_patterns : ∃ sc body, defOf 30 = some (sc, body) ∧ NameOk sc r_law_patterns [] ∧ ∀ (G : Gd) (d : Nat), AllF G lawP d → XSim G lawP d sc r_law_patterns body c_law_patterns := by
 refine ⟨_, _, rfl, ?_, ?_⟩
 exact ⟨rfl, rfl, rfl, by decide, by decide, by decide⟩
 intro G d hF
 unfold c_law_patterns
 refine XSim.cons ?_ ?_
 refine SSim.asgT ?_ ?_ ?_ ?_
 refine TgSim.tup ?_ pat_cons
 refine TgsSim.cons ?_ ?_ (fun _ => rfl)
 refine TgSim.name ?_ ?_ rho_law_patterns
 decide
 first | exact .inl (by decide) | exact .inr (by decide)
 refine TgsSim.cons ?_ ?_ (fun _ => rfl)
 refine TgSim.name ?_ ?_ rho_law_patterns
 decide
 first | exact .inl (by decide) | exact .inr (by decide)
 refine TgsSim.cons ?_ ?_ (fun _ => rfl)
 refine TgSim.name ?_ ?_ rho_law_patterns
 decide
 first | exact .inl (by decide) | exact .inr (by decide)
 refine TgsSim.cons ?_ ?_ (fun _ => rfl)
 refine TgSim.name ?_ ?_ rho_law_patterns
 decide
 first | exact .inl (by decide) | exact .inr (by decide)
 exact TgsSim.nil
 refine ESim.tup ?_ ?_
 refine LSim.cons ?_ ?_ ?_
 refine ESim.tup ?_ ?_
 refine LSim.cons ?_ ?_ ?_
 refine ESim.str ?_
 decide +kernel
 refine LSim.cons ?_ ?_ ?_
 refine ESim.str ?_
 decide +kernel
 exact LSim.nil
 intro; rfl
 intro; rfl
 decide
 refine LSim.cons ?_ ?_ ?_
 refine ESim.tup ?_ ?_
 refine LSim.cons ?_ ?_ ?_
 refine ESim.str ?_
 decide +kernel
 refine LSim.cons ?_ ?_ ?_
 refine ESim.str ?_
 decide +kernel
 exact LSim.nil
 intro; rfl
 intro; rfl
 decide
 refine LSim.cons ?_ ?_ ?_
 refine ESim.tup ?_ ?_
 refine LSim.cons ?_ ?_ ?_
 refine ESim.str ?_
 decide +kernel
 refine LSim.cons ?_ ?_ ?_
 refine ESim.str ?_
 decide +kernel
 exact LSim.nil
 intro; rfl
 intro; rfl
 decide
 refine LSim.cons ?_ ?_ ?_
 refine ESim.tup ?_ ?_
 refine LSim.cons ?_ ?_ ?_
 refine ESim.str ?_
 decide +kernel
 exact LSim.nil
 intro; rfl
 decide
 exact LSim.nil
 intro; rfl
 intro; rfl
 intro; rfl
 intro; rfl
 decide
 first | exact fun _ _ => rfl | (intro env h; cases env; cases h; rfl)
 first | exact fun _ _ => rfl | (intro env h; cases env; cases h; rfl)
 refine XSim.cons ?_ ?_
 refine SSim.asgN ?_ ?_ ?_ ?_ ?_
 decide
 first | exact .inl (by decide) | exact .inr (by decide)
 exact rho_law_patterns
 refine ESim.lst ?_ ?_
 refine LSim.cons ?_ ?_ ?_
 refine ESim.nameOf ?_
 decide +kernel
 refine LSim.cons ?_ ?_ ?_
 refine ESim.nameOf ?_
 decide +kernel
 refine LSim.cons ?_ ?_ ?_
 refine ESim.nameOf ?_
 decide +kernel
 refine LSim.cons ?_ ?_ ?_
 refine ESim.tup ?_ ?_
 refine LSim.cons ?_ ?_ ?_
 refine ESim.str ?_
 decide +kernel
 refine LSim.cons ?_ ?_ ?_
 refine ESim.nameOf ?_
 decide +kernel
 exact LSim.nil
 intro; rfl
 intro; rfl
 decide
 refine LSim.cons ?_ ?_ ?_
 refine ESim.tup ?_ ?_
 refine LSim.cons ?_ ?_ ?_
 refine ESim.str ?_
 decide +kernel
 refine LSim.cons ?_ ?_ ?_
 refine ESim.nameOf ?_
 decide +kernel
 exact LSim.nil
 intro; rfl
 intro; rfl
 decide
 refine LSim.cons ?_ ?_ ?_
 refine ESim.tup ?_ ?_
 refine LSim.cons ?_ ?_ ?_
 refine ESim.str ?_
 decide +kernel
 refine LSim.cons ?_ ?_ ?_
 refine ESim.tup ?_ ?_
 refine LSim.cons ?_ ?_ ?_
 refine ESim.nameOf ?_
 decide +kernel
 refine LSim.cons ?_ ?_ ?_
 refine ESim.nameOf ?_
 decide +kernel
 exact LSim.nil
 intro; rfl
 intro; rfl
 decide
 exact LSim.nil
 intro; rfl
 intro; rfl
 decide
 refine LSim.cons ?_ ?_ ?_
 refine ESim.tup ?_ ?_
 refine LSim.cons ?_ ?_ ?_
 refine ESim.str ?_
 decide +kernel
 refine LSim.cons ?_ ?_ ?_
 refine ESim.tup ?_ ?_
 refine LSim.cons ?_ ?_ ?_
 refine ESim.nameOf ?_
 decide +kernel
 refine LSim.cons ?_ ?_ ?_
 refine ESim.nameOf ?_
 decide +kernel
 exact LSim.nil
 intro; rfl
 intro; rfl
 decide
 exact LSim.nil
 intro; rfl
 intro; rfl
 decide
 refine LSim.cons ?_ ?_ ?_
 refine ESim.tup ?_ ?_
 refine LSim.cons ?_ ?_ ?_
 refine ESim.str ?_
 decide +kernel
 refine LSim.cons ?_ ?_ ?_
 refine ESim.tup ?_ ?_
 refine LSim.cons ?_ ?_ ?_
 refine ESim.nameOf ?_
 decide +kernel
 refine LSim.cons ?_ ?_ ?_
 refine ESim.nameOf ?_
 decide +kernel
 exact LSim.nil
 intro; rfl
 intro; rfl
 decide
 exact LSim.nil
 intro; rfl
 intro; rfl
 decide
 exact LSim.nil
 intro; rfl
 intro; rfl
 intro; rfl
 intro; rfl
 intro; rfl
 intro; rfl
 intro; rfl
 intro; rfl
 decide
 first | exact fun _ _ => rfl | (intro env h; cases env; cases h; rfl)
 refine XSim.cons ?_ ?_
 refine SSim.ret ?_
 refine ESim.binop op2_add ?_ ?_
 refine ESim.nameOf ?_
 decide +kernel
 refine ESim.lst ?_ ?_
 refine LSim.cons ?_ ?_ ?_
 refine ESim.tup ?_ ?_
 refine LSim.cons ?_ ?_ ?_
 refine ESim.str ?_
 decide +kernel
 refine LSim.cons ?_ ?_ ?_
 refine ESim.tup ?_ ?_
 refine LSim.cons ?_ ?_ ?_
 refine ESim.nameOf ?_
 decide +kernel
 refine LSim.cons ?_ ?_ ?_
 refine ESim.nameOf ?_
 decide +kernel
 exact LSim.nil
 intro; rfl
 intro; rfl
 decide
 exact LSim.nil
 intro; rfl
 intro; rfl
 decide
 refine LSim.cons ?_ ?_ ?_
 refine ESim.tup ?_ ?_
 refine LSim.cons ?_ ?_ ?_
 refine ESim.str ?_
 decide +kernel
 refine LSim.cons ?_ ?_ ?_
 refine ESim.tup ?_ ?_
 refine LSim.cons ?_ ?_ ?_
 refine ESim.str ?_
 decide +kernel
 refine LSim.cons ?_ ?_ ?_
 refine ESim.tup ?_ ?_
 refine LSim.cons ?_ ?_ ?_
 refine ESim.nameOf ?_
 decide +kernel
 refine LSim.cons ?_ ?_ ?_
 refine ESim.nameOf ?_
 decide +kernel
 exact LSim.nil
 intro; rfl
 intro; rfl
 decide
 exact LSim.nil
 intro; rfl
 intro; rfl
 decide
 exact LSim.nil
 intro; rfl
 intro; rfl
 decide
 refine LSim.cons ?_ ?_ ?_
 refine ESim.tup ?_ ?_
 refine LSim.cons ?_ ?_ ?_
 refine ESim.str ?_
 decide +kernel
 refine LSim.cons ?_ ?_ ?_
 refine ESim.tup ?_ ?_
 refine LSim.cons ?_ ?_ ?_
 refine ESim.str ?_
 decide +kernel
 refine LSim.cons ?_ ?_ ?_
 refine ESim.tup ?_ ?_
 refine LSim.cons ?_ ?_ ?_
 refine ESim.nameOf ?_
 decide +kernel
 refine LSim.cons ?_ ?_ ?_
 refine ESim.nameOf ?_
 decide +kernel
 exact LSim.nil
 intro; rfl
 intro; rfl
 decide
 exact LSim.nil
 intro; rfl
 intro; rfl
 decide
 exact LSim.nil
 intro; rfl
 intro; rfl
 decide
 refine LSim.cons ?_ ?_ ?_
 refine ESim.tup ?_ ?_
 refine LSim.cons ?_ ?_ ?_
 refine ESim.str ?_
 decide +kernel
 refine LSim.cons ?_ ?_ ?_
 refine ESim.tup ?_ ?_
 refine LSim.cons ?_ ?_ ?_
 refine ESim.str ?_
 decide +kernel
 refine LSim.cons ?_ ?_ ?_
 refine ESim.tup ?_ ?_
 refine LSim.cons ?_ ?_ ?_
 refine ESim.nameOf ?_
 decide +kernel
 refine LSim.cons ?_ ?_ ?_
 refine ESim.nameOf ?_
 decide +kernel
 exact LSim.nil
 intro; rfl
 intro; rfl
 decide
 exact LSim.nil
 intro; rfl
 intro; rfl
 decide
 exact LSim.nil
 intro; rfl
 intro; rfl
 decide
 refine LSim.cons ?_ ?_ ?_
 refine ESim.tup ?_ ?_
 refine LSim.cons ?_ ?_ ?_
 refine ESim.str ?_
 decide +kernel
 refine LSim.cons ?_ ?_ ?_
 refine ESim.tup ?_ ?_
 refine LSim.cons ?_ ?_ ?_
 refine ESim.nameOf ?_
 decide +kernel
 refine LSim.cons ?_ ?_ ?_
 refine ESim.nameOf ?_
 decide +kernel
 exact LSim.nil
 intro; rfl
 intro; rfl
 decide
 exact LSim.nil
 intro; rfl
 intro; rfl
 decide
 exact LSim.nil
 intro; rfl
 intro; rfl
 intro; rfl
 intro; rfl
 intro; rfl
 decide
 exact XSim.nil
noncomputable def r_law_fits : List (Str × Nat) := [("pattern", 0), ("T", 1), ("left", 2), ("known", 3), ("here", 4), ("there", 5)]
theorem rho_law_fits : RhoOk r_law_fits := by unfold RhoOk; decide +kernel
theorem k_law_fits : ∃ sc body, defOf 31 = some (sc, body) ∧ NameOk sc r_law_fits ["pattern", "T"] ∧ ∀ (G : Gd) (d : Nat), AllF G lawP d → XSim G lawP d sc r_law_fits body c_law_fits := by
 refine ⟨_, _, rfl, ?_, ?_⟩
 exact ⟨rfl, rfl, rfl, by decide, by decide, by decide⟩
 intro G d hF
 unfold c_law_fits
 refine XSim.cons ?_ ?_
 refine SSim.asg2 ?_ ?_ ?_ ?_ ?_ rho_law_fits ?_ ?_ ?_ ?_
 decide
 first | exact .inl (by decide) | exact .inr (by decide)
 decide
 first | exact .inl (by decide) | exact .inr (by decide)
 decide
 refine ESim.tup ?_ ?_
 refine LSim.cons ?_ ?_ ?_
 refine ESim.lst ?_ ?_
 refine LSim.cons ?_ ?_ ?_
 refine ESim.tup ?_ ?_
 refine LSim.cons ?_ ?_ ?_
 refine ESim.nameOf ?_
 decide +kernel
 refine LSim.cons ?_ ?_ ?_
 refine ESim.nameOf ?_
 decide +kernel
 exact LSim.nil
 intro; rfl
 intro; rfl
 decide
 exact LSim.nil
 intro; rfl
 decide
 refine LSim.cons ?_ ?_ ?_
 exact ESim.dict
 exact LSim.nil
 intro; rfl
 intro; rfl
 decide
 first | exact fun _ _ => rfl | (intro env h; cases env; cases h; rfl)
 (intro env h _; cases env; cases h; rfl)
 (intro env h; cases env; cases h; rfl)
 refine XSim.cons ?_ ?_
 refine SSim.whl ?_ ?_
 refine TSim.neN (.inl ⟨rfl, rfl⟩) ?_ rfl
 refine ESim.nameOf ?_
 decide +kernel
 refine XSim.cons ?_ ?_
 refine SSim.asgT ?_ ?_ ?_ ?_
 refine TgSim.tup ?_ pat_cons
 refine TgsSim.cons ?_ ?_ (fun _ => rfl)
 refine TgSim.name ?_ ?_ rho_law_fits
 decide
 first | exact .inl (by decide) | exact .inr (by decide)
 refine TgsSim.cons ?_ ?_ (fun _ => rfl)
 refine TgSim.name ?_ ?_ rho_law_fits
 decide
 first | exact .inl (by decide) | exact .inr (by decide)
 exact TgsSim.nil
 refine ESim.pm call_pop PySem.F.plainAttrs_list PySem.F.slot_list_pop PySem.F.type_list_pop ?_ ?_ (fun _ => rfl)
 refine ESim.nameOf ?_
 decide +kernel
 exact Args.none
 first | exact fun _ _ => rfl | (intro env h; cases env; cases h; rfl)
 first | exact fun _ _ => rfl | (intro env h; cases env; cases h; rfl)
 refine XSim.cons ?_ ?_
 refine SSim.iff ?_ ?_ ?_
 refine TSim.cmp op2_eq ?_ ?_ rfl
 refine ESim.sub (op2_idx (fun _ _ => rfl)) ?_ ?_
 refine ESim.nameOf ?_
 decide +kernel
 exact ESim.int
 refine ESim.str ?_
 decide +kernel
 refine XSim.cons ?_ ?_
 refine SSim.iff ?_ ?_ ?_
 refine TSim.cmp op2_ne ?_ ?_ rfl
 refine ESim.pm call_setdefault PySem.F.plainAttrs_dict PySem.F.slot_dict_setdefault PySem.F.type_dict_setdefault ?_ ?_ (fun _ => rfl)
 refine ESim.nameOf ?_
 decide +kernel
 refine Args.cons ?_ ?_ (fun _ => rfl)
 refine ESim.sub (op2_idx (fun _ _ => rfl)) ?_ ?_
 refine ESim.nameOf ?_
 decide +kernel
 exact ESim.int
 refine Args.cons ?_ ?_ (fun _ => rfl)
 refine ESim.nameOf ?_
 decide +kernel
 exact Args.none
 refine ESim.nameOf ?_
 decide +kernel
 refine XSim.cons ?_ ?_
 refine SSim.ret ?_
 exact ESim.bool
 exact XSim.nil
 exact XSim.nil
 exact XSim.nil
 refine XSim.cons ?_ ?_
 refine SSim.iff ?_ ?_ ?_
 refine TSim.boolop ?_
 refine BTSim.or ?_ ?_
 refine TSim.cmp op2_ne ?_ ?_ rfl
 refine ESim.sub (op2_idx (fun _ _ => rfl)) ?_ ?_
 refine ESim.nameOf ?_
 decide +kernel
 exact ESim.int
 refine ESim.sub (op2_idx (fun _ _ => rfl)) ?_ ?_
 refine ESim.nameOf ?_
 decide +kernel
 exact ESim.int
 refine BTSim.last ?_
 refine TSim.boolop ?_
 refine BTSim.and ?_ ?_
 refine TSim.cmp op2_eq ?_ ?_ rfl
 refine ESim.sub (op2_idx (fun _ _ => rfl)) ?_ ?_
 refine ESim.nameOf ?_
 decide +kernel
 exact ESim.int
 refine ESim.str ?_
 decide +kernel
 refine BTSim.last ?_
 refine TSim.cmp op2_ne ?_ ?_ rfl
 refine ESim.nameOf ?_
 decide +kernel
 refine ESim.nameOf ?_
 decide +kernel
 refine XSim.cons ?_ ?_
 refine SSim.ret ?_
 exact ESim.bool
 exact XSim.nil
 refine XSim.cons ?_ ?_
 refine SSim.expr ?_ no_inter (fun _ => rfl)
 refine ESim.pm call_extend PySem.F.plainAttrs_list PySem.F.slot_list_extend PySem.F.type_list_extend ?_ ?_ (fun _ => rfl)
 refine ESim.nameOf ?_
 decide +kernel
 refine Args.cons ?_ ?_ (fun _ => rfl)
 refine ESim.listZip ?_ ?_ ?_
 refine Args.cons ?_ ?_ (fun _ => rfl)
 refine ESim.callF hF ?_ ?_ ?_ ?_
 decide
 decide
 decide
 refine Args.cons ?_ ?_ (fun _ => rfl)
 refine ESim.nameOf ?_
 decide +kernel
 exact Args.none
 refine Args.cons ?_ ?_ (fun _ => rfl)
 refine ESim.callF hF ?_ ?_ ?_ ?_
 decide
 decide
 decide
 refine Args.cons ?_ ?_ (fun _ => rfl)
 refine ESim.nameOf ?_
 decide +kernel
 exact Args.none
 exact Args.none
 decide
 decide
 exact Args.none
 exact XSim.nil
 exact XSim.nil
 exact XSim.nil
 refine XSim.cons ?_ ?_
 refine SSim.ret ?_
 exact ESim.bool
 exact XSim.nil
noncomputable def r_law_impl : List (Str × Nat) := [("number", 0), ("trait", 1), ("args", 2), ("T", 3), ("names", 4), ("params", 5)]
theorem rho_law_impl : RhoOk r_law_impl := by unfold RhoOk; decide +kernel
noncomputable def r_law_impl_0 : List (Str × Nat) := [("name", 6)]
theorem rho_law_impl_0 : RhoOk r_law_impl_0 := by unfold RhoOk; decide +kernel
theorem k_law_impl : ∃ sc body, defOf 32 = some (sc, body) ∧ NameOk sc r_law_impl ["number", "trait", "args", "T", "names"] ∧ ∀ (G : Gd) (d : Nat), AllF G lawP d → XSim G lawP d sc r_law_impl body c_law_impl := by
 refine ⟨_, _, rfl, ?_, ?_⟩
 exact ⟨rfl, rfl, rfl, by decide, by decide, by decide⟩
 intro G d hF
 unfold c_law_impl
 refine XSim.cons ?_ ?_
 refine SSim.asgN ?_ ?_ ?_ ?_ ?_
 decide
 first | exact .inl (by decide) | exact .inr (by decide)
 exact rho_law_impl
 refine ESim.lst ?_ ?_
 refine LSim.cons ?_ ?_ ?_
 refine ESim.tup ?_ ?_
 refine LSim.cons ?_ ?_ ?_
 refine ESim.str ?_
 decide +kernel
 refine LSim.cons ?_ ?_ ?_
 refine ESim.tup ?_ ?_
 exact LSim.nil
 decide
 exact LSim.nil
 intro; rfl
 intro; rfl
 decide
 refine LSim.cons ?_ ?_ ?_
 refine ESim.tup ?_ ?_
 refine LSim.cons ?_ ?_ ?_
 refine ESim.str ?_
 decide +kernel
 refine LSim.cons ?_ ?_ ?_
 refine ESim.tup ?_ ?_
 exact LSim.nil
 decide
 exact LSim.nil
 intro; rfl
 intro; rfl
 decide
 exact LSim.nil
 intro; rfl
 intro; rfl
 decide
 first | exact fun _ _ => rfl | (intro env h; cases env; cases h; rfl)
 refine XSim.cons ?_ ?_
 refine SSim.ret ?_
 refine ESim.new hF lawP_ok ?_ ?_ ?_ ?_
 decide
 decide
 decide
 refine Args.cons ?_ ?_ (fun _ => rfl)
 refine ESim.nameOf ?_
 decide +kernel
 refine Args.cons ?_ ?_ (fun _ => rfl)
 refine ESim.tup ?_ ?_
 exact LSim.nil
 decide
 refine Args.cons ?_ ?_ (fun _ => rfl)
 refine ESim.nameOf ?_
 decide +kernel
 refine Args.cons ?_ ?_ (fun _ => rfl)
 refine ESim.nameOf ?_
 decide +kernel
 refine Args.cons ?_ ?_ (fun _ => rfl)
 refine ESim.nameOf ?_
 decide +kernel
 refine Args.cons ?_ ?_ (fun _ => rfl)
 refine ESim.nameOf ?_
 decide +kernel
 refine Args.cons ?_ ?_ (fun _ => rfl)
 refine ESim.prim call_dictOf keep_type ?_ boot_dict ?_ ?_ ?_ ?_
 decide
 decide
 decide
 decide
 refine Args.cons ?_ ?_ (fun _ => rfl)
 refine ESim.comp (kd := .vals) (ρ' := r_law_impl_0) ⟨rfl, by decide, by decide, by decide, by decide, by decide⟩ PatOk.var ?_ ?_ ?_ ?_ ?_ (fun _ _ => rfl)
 refine TgSim.own ?_ ?_ rho_law_impl_0
 decide
 decide
 refine SrcSim.vals ?_ (fun _ _ _ _ _ => rfl)
 refine ESim.nameOf ?_
 decide +kernel
 exact CondSim.none
 refine ESim.tup ?_ ?_
 refine LSim.cons ?_ ?_ ?_
 refine ESim.nameOf ?_
 decide +kernel
 refine LSim.cons ?_ ?_ ?_
 refine ESim.binop op2_add ?_ ?_
 refine ESim.str ?_
 decide +kernel
 refine ESim.nameOf ?_
 decide +kernel
 exact LSim.nil
 intro; rfl
 intro; rfl
 decide
 constructor
 exact Args.none
 exact Args.none
 exact XSim.nil
noncomputable def r_law_meet_told : List (Str × Nat) := [("byte", 0), ("truth", 1), ("t", 2), ("rows", 3), ("args", 4), ("one", 5), ("others", 6), ("other", 7), ("due", 8), ("apart", 9), ("told", 10)]
theorem rho_law_meet_told : RhoOk r_law_meet_told := by unfold RhoOk; decide +kernel
theorem k_law_meet_told : ∃ sc body, defOf 33 = some (sc, body) ∧ NameOk sc r_law_meet_told [] ∧ ∀ (G : Gd) (d : Nat), AllF G lawP d → XSim G lawP d sc r_law_meet_told body c_law_meet_told := by
 refine ⟨_, _, rfl, ?_, ?_⟩
 exact ⟨rfl, rfl, rfl, by decide, by decide, by decide⟩
 intro G d hF
 unfold c_law_meet_told
 refine XSim.cons ?_ ?_
 refine SSim.asgT ?_ ?_ ?_ ?_
 refine TgSim.tup ?_ pat_cons
 refine TgsSim.cons ?_ ?_ (fun _ => rfl)
 refine TgSim.name ?_ ?_ rho_law_meet_told
 decide
 first | exact .inl (by decide) | exact .inr (by decide)
 refine TgsSim.cons ?_ ?_ (fun _ => rfl)
 refine TgSim.name ?_ ?_ rho_law_meet_told
 decide
 first | exact .inl (by decide) | exact .inr (by decide)
 refine TgsSim.cons ?_ ?_ (fun _ => rfl)
 refine TgSim.name ?_ ?_ rho_law_meet_told
 decide
 first | exact .inl (by decide) | exact .inr (by decide)
 exact TgsSim.nil
 refine ESim.tup ?_ ?_
 refine LSim.cons ?_ ?_ ?_
 refine ESim.tup ?_ ?_
 refine LSim.cons ?_ ?_ ?_
 refine ESim.str ?_
 decide +kernel
 refine LSim.cons ?_ ?_ ?_
 refine ESim.str ?_
 decide +kernel
 exact LSim.nil
 intro; rfl
 intro; rfl
 decide
 refine LSim.cons ?_ ?_ ?_
 refine ESim.tup ?_ ?_
 refine LSim.cons ?_ ?_ ?_
 refine ESim.str ?_
 decide +kernel
 exact LSim.nil
 intro; rfl
 decide
 refine LSim.cons ?_ ?_ ?_
 refine ESim.tup ?_ ?_
 refine LSim.cons ?_ ?_ ?_
 refine ESim.str ?_
 decide +kernel
 refine LSim.cons ?_ ?_ ?_
 refine ESim.str ?_
 decide +kernel
 exact LSim.nil
 intro; rfl
 intro; rfl
 decide
 exact LSim.nil
 intro; rfl
 intro; rfl
 intro; rfl
 decide
 first | exact fun _ _ => rfl | (intro env h; cases env; cases h; rfl)
 first | exact fun _ _ => rfl | (intro env h; cases env; cases h; rfl)
 refine XSim.cons ?_ ?_
 refine SSim.asgN ?_ ?_ ?_ ?_ ?_
 decide
 first | exact .inl (by decide) | exact .inr (by decide)
 exact rho_law_meet_told
 refine ESim.lst ?_ ?_
 refine LSim.cons ?_ ?_ ?_
 refine ESim.tup ?_ ?_
 refine LSim.cons ?_ ?_ ?_
 refine ESim.tup ?_ ?_
 refine LSim.cons ?_ ?_ ?_
 refine ESim.nameOf ?_
 decide +kernel
 exact LSim.nil
 intro; rfl
 decide
 refine LSim.cons ?_ ?_ ?_
 refine ESim.nameOf ?_
 decide +kernel
 refine LSim.cons ?_ ?_ ?_
 refine ESim.tup ?_ ?_
 refine LSim.cons ?_ ?_ ?_
 refine ESim.nameOf ?_
 decide +kernel
 exact LSim.nil
 intro; rfl
 decide
 refine LSim.cons ?_ ?_ ?_
 refine ESim.nameOf ?_
 decide +kernel
 refine LSim.cons ?_ ?_ ?_
 exact ESim.bool
 exact LSim.nil
 intro; rfl
 intro; rfl
 intro; rfl
 intro; rfl
 intro; rfl
 decide
 refine LSim.cons ?_ ?_ ?_
 refine ESim.tup ?_ ?_
 refine LSim.cons ?_ ?_ ?_
 refine ESim.tup ?_ ?_
 refine LSim.cons ?_ ?_ ?_
 refine ESim.nameOf ?_
 decide +kernel
 exact LSim.nil
 intro; rfl
 decide
 refine LSim.cons ?_ ?_ ?_
 refine ESim.nameOf ?_
 decide +kernel
 refine LSim.cons ?_ ?_ ?_
 refine ESim.tup ?_ ?_
 refine LSim.cons ?_ ?_ ?_
 refine ESim.nameOf ?_
 decide +kernel
 exact LSim.nil
 intro; rfl
 decide
 refine LSim.cons ?_ ?_ ?_
 refine ESim.nameOf ?_
 decide +kernel
 refine LSim.cons ?_ ?_ ?_
 exact ESim.bool
 exact LSim.nil
 intro; rfl
 intro; rfl
 intro; rfl
 intro; rfl
 intro; rfl
 decide
 refine LSim.cons ?_ ?_ ?_
 refine ESim.tup ?_ ?_
 refine LSim.cons ?_ ?_ ?_
 refine ESim.tup ?_ ?_
 refine LSim.cons ?_ ?_ ?_
 refine ESim.nameOf ?_
 decide +kernel
 exact LSim.nil
 intro; rfl
 decide
 refine LSim.cons ?_ ?_ ?_
 refine ESim.nameOf ?_
 decide +kernel
 refine LSim.cons ?_ ?_ ?_
 refine ESim.tup ?_ ?_
 refine LSim.cons ?_ ?_ ?_
 refine ESim.nameOf ?_
 decide +kernel
 exact LSim.nil
 intro; rfl
 decide
 refine LSim.cons ?_ ?_ ?_
 refine ESim.nameOf ?_
 decide +kernel
 refine LSim.cons ?_ ?_ ?_
 exact ESim.bool
 exact LSim.nil
 intro; rfl
 intro; rfl
 intro; rfl
 intro; rfl
 intro; rfl
 decide
 exact LSim.nil
 intro; rfl
 intro; rfl
 intro; rfl
 decide
 first | exact fun _ _ => rfl | (intro env h; cases env; cases h; rfl)
 refine XSim.cons ?_ ?_
 refine SSim.asgN ?_ ?_ ?_ ?_ ?_
 decide
 first | exact .inl (by decide) | exact .inr (by decide)
 exact rho_law_meet_told
 refine ESim.binop op2_add ?_ ?_
 refine ESim.nameOf ?_
 decide +kernel
 refine ESim.lst ?_ ?_
 refine LSim.cons ?_ ?_ ?_
 refine ESim.tup ?_ ?_
 refine LSim.cons ?_ ?_ ?_
 refine ESim.tup ?_ ?_
 refine LSim.cons ?_ ?_ ?_
 refine ESim.nameOf ?_
 decide +kernel
 exact LSim.nil
 intro; rfl
 decide
 refine LSim.cons ?_ ?_ ?_
 refine ESim.tup ?_ ?_
 refine LSim.cons ?_ ?_ ?_
 refine ESim.str ?_
 decide +kernel
 refine LSim.cons ?_ ?_ ?_
 refine ESim.nameOf ?_
 decide +kernel
 exact LSim.nil
 intro; rfl
 intro; rfl
 decide
 refine LSim.cons ?_ ?_ ?_
 refine ESim.tup ?_ ?_
 refine LSim.cons ?_ ?_ ?_
 refine ESim.nameOf ?_
 decide +kernel
 exact LSim.nil
 intro; rfl
 decide
 refine LSim.cons ?_ ?_ ?_
 refine ESim.tup ?_ ?_
 refine LSim.cons ?_ ?_ ?_
 refine ESim.str ?_
 decide +kernel
 refine LSim.cons ?_ ?_ ?_
 refine ESim.nameOf ?_
 decide +kernel
 exact LSim.nil
 intro; rfl
 intro; rfl
 decide
 refine LSim.cons ?_ ?_ ?_
 exact ESim.bool
 exact LSim.nil
 intro; rfl
 intro; rfl
 intro; rfl
 intro; rfl
 intro; rfl
 decide
 refine LSim.cons ?_ ?_ ?_
 refine ESim.tup ?_ ?_
 refine LSim.cons ?_ ?_ ?_
 refine ESim.tup ?_ ?_
 refine LSim.cons ?_ ?_ ?_
 refine ESim.nameOf ?_
 decide +kernel
 exact LSim.nil
 intro; rfl
 decide
 refine LSim.cons ?_ ?_ ?_
 refine ESim.nameOf ?_
 decide +kernel
 refine LSim.cons ?_ ?_ ?_
 refine ESim.tup ?_ ?_
 exact LSim.nil
 decide
 refine LSim.cons ?_ ?_ ?_
 refine ESim.nameOf ?_
 decide +kernel
 refine LSim.cons ?_ ?_ ?_
 exact ESim.bool
 exact LSim.nil
 intro; rfl
 intro; rfl
 intro; rfl
 intro; rfl
 intro; rfl
 decide
 exact LSim.nil
 intro; rfl
 intro; rfl
 decide
 first | exact fun _ _ => rfl | (intro env h; cases env; cases h; rfl)
 refine XSim.cons ?_ ?_
 refine SSim.asgN ?_ ?_ ?_ ?_ ?_
 decide
 first | exact .inl (by decide) | exact .inr (by decide)
 exact rho_law_meet_told
 refine ESim.binop op2_add ?_ ?_
 refine ESim.nameOf ?_
 decide +kernel
 refine ESim.lst ?_ ?_
 refine LSim.cons ?_ ?_ ?_
 refine ESim.tup ?_ ?_
 refine LSim.cons ?_ ?_ ?_
 refine ESim.tup ?_ ?_
 exact LSim.nil
 decide
 refine LSim.cons ?_ ?_ ?_
 refine ESim.tup ?_ ?_
 refine LSim.cons ?_ ?_ ?_
 refine ESim.str ?_
 decide +kernel
 refine LSim.cons ?_ ?_ ?_
 refine ESim.tup ?_ ?_
 refine LSim.cons ?_ ?_ ?_
 refine ESim.nameOf ?_
 decide +kernel
 refine LSim.cons ?_ ?_ ?_
 refine ESim.nameOf ?_
 decide +kernel
 exact LSim.nil
 intro; rfl
 intro; rfl
 decide
 exact LSim.nil
 intro; rfl
 intro; rfl
 decide
 refine LSim.cons ?_ ?_ ?_
 refine ESim.tup ?_ ?_
 exact LSim.nil
 decide
 refine LSim.cons ?_ ?_ ?_
 refine ESim.tup ?_ ?_
 refine LSim.cons ?_ ?_ ?_
 refine ESim.str ?_
 decide +kernel
 refine LSim.cons ?_ ?_ ?_
 refine ESim.tup ?_ ?_
 refine LSim.cons ?_ ?_ ?_
 refine ESim.nameOf ?_
 decide +kernel
 refine LSim.cons ?_ ?_ ?_
 refine ESim.nameOf ?_
 decide +kernel
 exact LSim.nil
 intro; rfl
 intro; rfl
 decide
 exact LSim.nil
 intro; rfl
 intro; rfl
 decide
 refine LSim.cons ?_ ?_ ?_
 exact ESim.bool
 exact LSim.nil
 intro; rfl
 intro; rfl
 intro; rfl
 intro; rfl
 intro; rfl
 decide
 refine LSim.cons ?_ ?_ ?_
 refine ESim.tup ?_ ?_
 refine LSim.cons ?_ ?_ ?_
 refine ESim.tup ?_ ?_
 exact LSim.nil
 decide
 refine LSim.cons ?_ ?_ ?_
 refine ESim.tup ?_ ?_
 refine LSim.cons ?_ ?_ ?_
 refine ESim.str ?_
 decide +kernel
 refine LSim.cons ?_ ?_ ?_
 refine ESim.nameOf ?_
 decide +kernel
 exact LSim.nil
 intro; rfl
 intro; rfl
 decide
 refine LSim.cons ?_ ?_ ?_
 refine ESim.tup ?_ ?_
 exact LSim.nil
 decide
 refine LSim.cons ?_ ?_ ?_
 refine ESim.nameOf ?_
 decide +kernel
 refine LSim.cons ?_ ?_ ?_
 exact ESim.bool
 exact LSim.nil
 intro; rfl
 intro; rfl
 intro; rfl
 intro; rfl
 intro; rfl
 decide
 exact LSim.nil
 intro; rfl
 intro; rfl
 decide
 first | exact fun _ _ => rfl | (intro env h; cases env; cases h; rfl)
 refine XSim.cons ?_ ?_
 refine SSim.for (kd := .vals) ?_ ?_ ?_ ?_ (fun _ _ => rfl)
 refine TgSim.tup ?_ pat_cons
 refine TgsSim.cons ?_ ?_ (fun _ => rfl)
 refine TgSim.name ?_ ?_ rho_law_meet_told
 decide
 first | exact .inl (by decide) | exact .inr (by decide)
 refine TgsSim.cons ?_ ?_ (fun _ => rfl)
 refine TgSim.name ?_ ?_ rho_law_meet_told
 decide
 first | exact .inl (by decide) | exact .inr (by decide)
 refine TgsSim.cons ?_ ?_ (fun _ => rfl)
 refine TgSim.name ?_ ?_ rho_law_meet_told
 decide
 first | exact .inl (by decide) | exact .inr (by decide)
 refine TgsSim.cons ?_ ?_ (fun _ => rfl)
 refine TgSim.name ?_ ?_ rho_law_meet_told
 decide
 first | exact .inl (by decide) | exact .inr (by decide)
 refine TgsSim.cons ?_ ?_ (fun _ => rfl)
 refine TgSim.name ?_ ?_ rho_law_meet_told
 decide
 first | exact .inl (by decide) | exact .inr (by decide)
 exact TgsSim.nil
 refine SrcSim.vals ?_ (fun _ _ _ _ _ => rfl)
 refine ESim.nameOf ?_
 decide +kernel
 refine XSim.cons ?_ ?_
 refine SSim.iff ?_ ?_ ?_
 refine TSim.cmp op2_ne ?_ ?_ rfl
 refine ESim.gc ?_
 refine ESim.callF hF ?_ ?_ ?_ ?_
 decide
 decide
 decide
 refine Args.cons ?_ ?_ (fun _ => rfl)
 refine ESim.callF hF ?_ ?_ ?_ ?_
 decide
 decide
 decide
 refine Args.cons ?_ ?_ (fun _ => rfl)
 exact ESim.int
 refine Args.cons ?_ ?_ (fun _ => rfl)
 refine ESim.str ?_
 decide +kernel
 refine Args.cons ?_ ?_ (fun _ => rfl)
 refine ESim.nameOf ?_
 decide +kernel
 refine Args.cons ?_ ?_ (fun _ => rfl)
 refine ESim.nameOf ?_
 decide +kernel
 refine Args.cons ?_ ?_ (fun _ => rfl)
 refine ESim.lst ?_ ?_
 exact LSim.nil
 decide
 exact Args.none
 refine Args.cons ?_ ?_ (fun _ => rfl)
 refine ESim.callF hF ?_ ?_ ?_ ?_
 decide
 decide
 decide
 refine Args.cons ?_ ?_ (fun _ => rfl)
 exact ESim.int
 refine Args.cons ?_ ?_ (fun _ => rfl)
 refine ESim.str ?_
 decide +kernel
 refine Args.cons ?_ ?_ (fun _ => rfl)
 refine ESim.nameOf ?_
 decide +kernel
 refine Args.cons ?_ ?_ (fun _ => rfl)
 refine ESim.nameOf ?_
 decide +kernel
 refine Args.cons ?_ ?_ (fun _ => rfl)
 refine ESim.lst ?_ ?_
 exact LSim.nil
 decide
 exact Args.none
 exact Args.none
 refine ESim.nameOf ?_
 decide +kernel
 refine XSim.cons ?_ ?_
 refine SSim.ret ?_
 exact ESim.bool
 exact XSim.nil
 exact XSim.nil
 exact XSim.nil
 constructor
 refine XSim.cons ?_ ?_
 refine SSim.asg2 ?_ ?_ ?_ ?_ ?_ rho_law_meet_told ?_ ?_ ?_ ?_
 decide
 first | exact .inl (by decide) | exact .inr (by decide)
 decide
 first | exact .inl (by decide) | exact .inr (by decide)
 decide
 refine ESim.tup ?_ ?_
 refine LSim.cons ?_ ?_ ?_
 refine ESim.callF hF ?_ ?_ ?_ ?_
 decide
 decide
 decide
 refine Args.cons ?_ ?_ (fun _ => rfl)
 exact ESim.int
 refine Args.cons ?_ ?_ (fun _ => rfl)
 exact ESim.none
 refine Args.cons ?_ ?_ (fun _ => rfl)
 refine ESim.tup ?_ ?_
 exact LSim.nil
 decide
 refine Args.cons ?_ ?_ (fun _ => rfl)
 refine ESim.nameOf ?_
 decide +kernel
 refine Args.cons ?_ ?_ (fun _ => rfl)
 refine ESim.lst ?_ ?_
 refine LSim.cons ?_ ?_ ?_
 refine ESim.str ?_
 decide +kernel
 refine LSim.cons ?_ ?_ ?_
 refine ESim.str ?_
 decide +kernel
 refine LSim.cons ?_ ?_ ?_
 refine ESim.str ?_
 decide +kernel
 exact LSim.nil
 intro; rfl
 intro; rfl
 intro; rfl
 decide
 exact Args.none
 refine LSim.cons ?_ ?_ ?_
 refine ESim.callF hF ?_ ?_ ?_ ?_
 decide
 decide
 decide
 refine Args.cons ?_ ?_ (fun _ => rfl)
 exact ESim.int
 refine Args.cons ?_ ?_ (fun _ => rfl)
 exact ESim.none
 refine Args.cons ?_ ?_ (fun _ => rfl)
 refine ESim.tup ?_ ?_
 exact LSim.nil
 decide
 refine Args.cons ?_ ?_ (fun _ => rfl)
 refine ESim.nameOf ?_
 decide +kernel
 refine Args.cons ?_ ?_ (fun _ => rfl)
 refine ESim.lst ?_ ?_
 refine LSim.cons ?_ ?_ ?_
 refine ESim.str ?_
 decide +kernel
 refine LSim.cons ?_ ?_ ?_
 refine ESim.str ?_
 decide +kernel
 exact LSim.nil
 intro; rfl
 intro; rfl
 decide
 exact Args.none
 exact LSim.nil
 intro; rfl
 intro; rfl
 decide
 first | exact fun _ _ => rfl | (intro env h; cases env; cases h; rfl)
 (intro env h _; cases env; cases h; rfl)
 (intro env h; cases env; cases h; rfl)
 refine XSim.cons ?_ ?_
 refine SSim.asg2 ?_ ?_ ?_ ?_ ?_ rho_law_meet_told ?_ ?_ ?_ ?_
 decide
 first | exact .inl (by decide) | exact .inr (by decide)
 decide
 first | exact .inl (by decide) | exact .inr (by decide)
 decide
 refine ESim.tup ?_ ?_
 refine LSim.cons ?_ ?_ ?_
 refine ESim.callF hF ?_ ?_ ?_ ?_
 decide
 decide
 decide
 refine Args.cons ?_ ?_ (fun _ => rfl)
 exact ESim.int
 refine Args.cons ?_ ?_ (fun _ => rfl)
 exact ESim.none
 refine Args.cons ?_ ?_ (fun _ => rfl)
 refine ESim.tup ?_ ?_
 exact LSim.nil
 decide
 refine Args.cons ?_ ?_ (fun _ => rfl)
 refine ESim.nameOf ?_
 decide +kernel
 refine Args.cons ?_ ?_ (fun _ => rfl)
 refine ESim.lst ?_ ?_
 refine LSim.cons ?_ ?_ ?_
 refine ESim.str ?_
 decide +kernel
 exact LSim.nil
 intro; rfl
 decide
 exact Args.none
 refine LSim.cons ?_ ?_ ?_
 refine ESim.callF hF ?_ ?_ ?_ ?_
 decide
 decide
 decide
 refine Args.cons ?_ ?_ (fun _ => rfl)
 exact ESim.int
 refine Args.cons ?_ ?_ (fun _ => rfl)
 refine ESim.str ?_
 decide +kernel
 refine Args.cons ?_ ?_ (fun _ => rfl)
 refine ESim.tup ?_ ?_
 exact LSim.nil
 decide
 refine Args.cons ?_ ?_ (fun _ => rfl)
 refine ESim.nameOf ?_
 decide +kernel
 refine Args.cons ?_ ?_ (fun _ => rfl)
 refine ESim.lst ?_ ?_
 refine LSim.cons ?_ ?_ ?_
 refine ESim.str ?_
 decide +kernel
 exact LSim.nil
 intro; rfl
 decide
 exact Args.none
 exact LSim.nil
 intro; rfl
 intro; rfl
 decide
 first | exact fun _ _ => rfl | (intro env h; cases env; cases h; rfl)
 (intro env h _; cases env; cases h; rfl)
 (intro env h; cases env; cases h; rfl)
 refine XSim.cons ?_ ?_
 refine SSim.iff ?_ ?_ ?_
 refine TSim.boolop ?_
 refine BTSim.or ?_ ?_
 refine TSim.gc ?_
 refine TSim.cmp op2_ne ?_ ?_ rfl
 refine ESim.callF hF ?_ ?_ ?_ ?_
 decide
 decide
 decide
 refine Args.cons ?_ ?_ (fun _ => rfl)
 refine ESim.nameOf ?_
 decide +kernel
 refine Args.cons ?_ ?_ (fun _ => rfl)
 refine ESim.nameOf ?_
 decide +kernel
 exact Args.none
 refine ESim.lst ?_ ?_
 refine LSim.cons ?_ ?_ ?_
 refine ESim.str ?_
 decide +kernel
 refine LSim.cons ?_ ?_ ?_
 refine ESim.str ?_
 decide +kernel
 exact LSim.nil
 intro; rfl
 intro; rfl
 decide
 refine BTSim.last ?_
 refine TSim.gc ?_
 refine TSim.neN (.inl ⟨rfl, rfl⟩) ?_ rfl
 refine ESim.callF hF ?_ ?_ ?_ ?_
 decide
 decide
 decide
 refine Args.cons ?_ ?_ (fun _ => rfl)
 refine ESim.nameOf ?_
 decide +kernel
 refine Args.cons ?_ ?_ (fun _ => rfl)
 refine ESim.nameOf ?_
 decide +kernel
 exact Args.none
 refine XSim.cons ?_ ?_
 refine SSim.ret ?_
 exact ESim.bool
 exact XSim.nil
 exact XSim.nil
 refine XSim.cons ?_ ?_
 refine SSim.ret ?_
 refine ESim.boolop ?_
 refine BSim.and ?_ ?_
 refine ESim.gc ?_
 refine ESim.neN (.inr ⟨rfl, rfl⟩) ?_ rfl
 refine ESim.callF hF ?_ ?_ ?_ ?_
 decide
 decide
 decide
 refine Args.cons ?_ ?_ (fun _ => rfl)
 refine ESim.nameOf ?_
 decide +kernel
 refine Args.cons ?_ ?_ (fun _ => rfl)
 refine ESim.nameOf ?_
 decide +kernel
 exact Args.none
 refine BSim.last ?_
 refine ESim.gc ?_
 refine ESim.neN (.inr ⟨rfl, rfl⟩) ?_ rfl
 refine ESim.callF hF ?_ ?_ ?_ ?_
 decide
 decide
 decide
 refine Args.cons ?_ ?_ (fun _ => rfl)
 refine ESim.nameOf ?_
 decide +kernel
 refine Args.cons ?_ ?_ (fun _ => rfl)
 refine ESim.nameOf ?_
 decide +kernel
 exact Args.none
 exact XSim.nil
noncomputable def r_law_impls_right : List (Str × Nat) := [("source", 0), ("heads", 1), ("rows", 2), ("number", 3), ("names", 4), ("trait", 5), ("one", 6), ("other", 7), ("others", 8), ("second", 9), ("meet", 10), ("due", 11)]
theorem rho_law_impls_right : RhoOk r_law_impls_right := by unfold RhoOk; decide +kernel
noncomputable def r_law_impls_right_0 : List (Str × Nat) := [("name", 12), ("names", 4), ("others", 8)]
theorem rho_law_impls_right_0 : RhoOk r_law_impls_right_0 := by unfold RhoOk; decide +kernel
noncomputable def r_law_impls_right_1 : List (Str × Nat) := [("T", 13), ("one", 6), ("other", 7)]
theorem rho_law_impls_right_1 : RhoOk r_law_impls_right_1 := by unfold RhoOk; decide +kernel
noncomputable def r_law_impls_right_2 : List (Str × Nat) := [("name", 14), ("source", 0)]
theorem rho_law_impls_right_2 : RhoOk r_law_impls_right_2 := by unfold RhoOk; decide +kernel
theorem k_law_impls_right : ∃ sc body, defOf 34 = some (sc, body) ∧ NameOk sc r_law_impls_right ["source"] ∧ ∀ (G : Gd) (d : Nat), AllF G lawP d → XSim G lawP d sc r_law_impls_right body c_law_impls_right := by
 refine ⟨_, _, rfl, ?_, ?_⟩
 exact ⟨rfl, rfl, rfl, by decide, by decide, by decide⟩
 intro G d hF
 unfold c_law_impls_right
 refine XSim.cons ?_ ?_
 refine SSim.asg2 ?_ ?_ ?_ ?_ ?_ rho_law_impls_right ?_ ?_ ?_ ?_
 decide
 first | exact .inl (by decide) | exact .inr (by decide)
 decide
 first | exact .inl (by decide) | exact .inr (by decide)
 decide
 refine ESim.tup ?_ ?_
 refine LSim.cons ?_ ?_ ?_
 refine ESim.callF hF ?_ ?_ ?_ ?_
 decide
 decide
 decide
 exact Args.none
 refine LSim.cons ?_ ?_ ?_
 refine ESim.lst ?_ ?_
 exact LSim.nil
 decide
 exact LSim.nil
 intro; rfl
 intro; rfl
 decide
 first | exact fun _ _ => rfl | (intro env h; cases env; cases h; rfl)
 (intro env h _; cases env; cases h; rfl)
 (intro env h; cases env; cases h; rfl)
 refine XSim.cons ?_ ?_
 refine SSim.for (kd := .rng) ?_ ?_ ?_ ?_ (fun _ _ => rfl)
 refine TgSim.name ?_ ?_ rho_law_impls_right
 decide
 first | exact .inl (by decide) | exact .inr (by decide)
 refine SrcSim.rng ?_ ?_
 refine Args.cons ?_ ?_ (fun _ => rfl)
 exact ESim.int
 exact Args.none
 decide
 refine XSim.cons ?_ ?_
 refine SSim.asgN ?_ ?_ ?_ ?_ ?_
 decide
 first | exact .inl (by decide) | exact .inr (by decide)
 exact rho_law_impls_right
 refine ESim.comp (kd := .vals) (ρ' := r_law_impls_right_2) ⟨rfl, by decide, by decide, by decide, by decide, by decide⟩ PatOk.var ?_ ?_ ?_ ?_ ?_ (fun _ _ => rfl)
 refine TgSim.own ?_ ?_ rho_law_impls_right_2
 decide
 decide
 refine SrcSim.vals ?_ (fun _ _ _ _ _ => rfl)
 refine ESim.lst ?_ ?_
 refine LSim.cons ?_ ?_ ?_
 refine ESim.str ?_
 decide +kernel
 refine LSim.cons ?_ ?_ ?_
 refine ESim.str ?_
 decide +kernel
 refine LSim.cons ?_ ?_ ?_
 refine ESim.str ?_
 decide +kernel
 exact LSim.nil
 intro; rfl
 intro; rfl
 intro; rfl
 decide
 refine CondSim.one ?_
 refine TSim.cmp op2_gt ?_ ?_ rfl
 refine ESim.callF hF ?_ ?_ ?_ ?_
 decide
 decide
 decide
 refine Args.cons ?_ ?_ (fun _ => rfl)
 refine ESim.nameOf ?_
 decide +kernel
 refine Args.cons ?_ ?_ (fun _ => rfl)
 exact ESim.int
 exact Args.none
 exact ESim.int
 refine ESim.nameOf ?_
 decide +kernel
 constructor
 first | exact fun _ _ => rfl | (intro env h; cases env; cases h; rfl)
 refine XSim.cons ?_ ?_
 refine SSim.asgN ?_ ?_ ?_ ?_ ?_
 decide
 first | exact .inl (by decide) | exact .inr (by decide)
 exact rho_law_impls_right
 refine ESim.gc ?_
 refine ESim.callF hF ?_ ?_ ?_ ?_
 decide
 decide
 decide
 refine Args.cons ?_ ?_ (fun _ => rfl)
 refine ESim.nameOf ?_
 decide +kernel
 refine Args.cons ?_ ?_ (fun _ => rfl)
 refine ESim.lst ?_ ?_
 refine LSim.cons ?_ ?_ ?_
 exact ESim.none
 refine LSim.cons ?_ ?_ ?_
 exact ESim.none
 refine LSim.cons ?_ ?_ ?_
 exact ESim.none
 refine LSim.cons ?_ ?_ ?_
 refine ESim.str ?_
 decide +kernel
 exact LSim.nil
 intro; rfl
 intro; rfl
 intro; rfl
 intro; rfl
 decide
 exact Args.none
 first | exact fun _ _ => rfl | (intro env h; cases env; cases h; rfl)
 refine XSim.cons ?_ ?_
 refine SSim.expr ?_ no_inter (fun _ => rfl)
 refine ESim.pm call_append PySem.F.plainAttrs_list PySem.F.slot_list_append PySem.F.type_list_append ?_ ?_ (fun _ => rfl)
 refine ESim.nameOf ?_
 decide +kernel
 refine Args.cons ?_ ?_ (fun _ => rfl)
 refine ESim.tup ?_ ?_
 refine LSim.cons ?_ ?_ ?_
 refine ESim.callF hF ?_ ?_ ?_ ?_
 decide
 decide
 decide
 refine Args.cons ?_ ?_ (fun _ => rfl)
 refine ESim.nameOf ?_
 decide +kernel
 refine Args.cons ?_ ?_ (fun _ => rfl)
 refine ESim.nameOf ?_
 decide +kernel
 refine Args.cons ?_ ?_ (fun _ => rfl)
 refine ESim.tup ?_ ?_
 exact LSim.nil
 decide
 refine Args.cons ?_ ?_ (fun _ => rfl)
 refine ESim.callF hF ?_ ?_ ?_ ?_
 decide
 decide
 decide
 refine Args.cons ?_ ?_ (fun _ => rfl)
 refine ESim.nameOf ?_
 decide +kernel
 refine Args.cons ?_ ?_ (fun _ => rfl)
 refine ESim.nameOf ?_
 decide +kernel
 exact Args.none
 refine Args.cons ?_ ?_ (fun _ => rfl)
 refine ESim.nameOf ?_
 decide +kernel
 exact Args.none
 refine LSim.cons ?_ ?_ ?_
 refine ESim.nameOf ?_
 decide +kernel
 refine LSim.cons ?_ ?_ ?_
 refine ESim.nameOf ?_
 decide +kernel
 exact LSim.nil
 intro; rfl
 intro; rfl
 intro; rfl
 decide
 exact Args.none
 exact XSim.nil
 constructor
 refine XSim.cons ?_ ?_
 refine SSim.asgL ?_ ?_ ?_ ?_
 refine TgsSim.cons ?_ ?_ (fun _ => rfl)
 refine TgSim.tup ?_ pat_cons
 refine TgsSim.cons ?_ ?_ (fun _ => rfl)
 refine TgSim.name ?_ ?_ rho_law_impls_right
 decide
 first | exact .inl (by decide) | exact .inr (by decide)
 refine TgsSim.cons ?_ ?_ (fun _ => rfl)
 refine TgSim.name ?_ ?_ rho_law_impls_right
 decide
 first | exact .inl (by decide) | exact .inr (by decide)
 refine TgsSim.cons ?_ ?_ (fun _ => rfl)
 refine TgSim.name ?_ ?_ rho_law_impls_right
 decide
 first | exact .inl (by decide) | exact .inr (by decide)
 exact TgsSim.nil
 refine TgsSim.cons ?_ ?_ (fun _ => rfl)
 refine TgSim.tup ?_ pat_cons
 refine TgsSim.cons ?_ ?_ (fun _ => rfl)
 refine TgSim.name ?_ ?_ rho_law_impls_right
 decide
 first | exact .inl (by decide) | exact .inr (by decide)
 refine TgsSim.cons ?_ ?_ (fun _ => rfl)
 refine TgSim.name ?_ ?_ rho_law_impls_right
 decide
 first | exact .inl (by decide) | exact .inr (by decide)
 refine TgsSim.cons ?_ ?_ (fun _ => rfl)
 refine TgSim.name ?_ ?_ rho_law_impls_right
 decide
 first | exact .inl (by decide) | exact .inr (by decide)
 exact TgsSim.nil
 exact TgsSim.nil
 refine ESim.nameOf ?_
 decide +kernel
 first | exact fun _ _ => rfl | (intro env h; cases env; cases h; rfl)
 first | exact fun _ _ => rfl | (intro env h; cases env; cases h; rfl)
 refine XSim.cons ?_ ?_
 refine SSim.asgN ?_ ?_ ?_ ?_ ?_
 decide
 first | exact .inl (by decide) | exact .inr (by decide)
 exact rho_law_impls_right
 refine ESim.gc ?_
 refine ESim.neN (.inl ⟨rfl, rfl⟩) ?_ rfl
 refine ESim.comp (kd := .vals) (ρ' := r_law_impls_right_1) ⟨rfl, by decide, by decide, by decide, by decide, by decide⟩ PatOk.var ?_ ?_ ?_ ?_ ?_ (fun _ _ => rfl)
 refine TgSim.own ?_ ?_ rho_law_impls_right_1
 decide
 decide
 refine SrcSim.vals ?_ (fun _ _ _ _ _ => rfl)
 refine ESim.callF hF ?_ ?_ ?_ ?_
 decide
 decide
 decide
 exact Args.none
 refine CondSim.one ?_
 refine TSim.boolop ?_
 refine BTSim.and ?_ ?_
 refine TSim.val ?_ (fun _ _ => rfl)
 refine ESim.callP hF ?_ ?_ ?_ ?_
 decide
 decide
 decide
 refine Args.cons ?_ ?_ (fun _ => rfl)
 refine ESim.fld ?_ ?_ (fun _ => rfl)
 refine ESim.nameOf ?_
 decide +kernel
 decide
 refine Args.cons ?_ ?_ (fun _ => rfl)
 refine ESim.nameOf ?_
 decide +kernel
 exact Args.none
 refine BTSim.last ?_
 refine TSim.val ?_ (fun _ _ => rfl)
 refine ESim.callP hF ?_ ?_ ?_ ?_
 decide
 decide
 decide
 refine Args.cons ?_ ?_ (fun _ => rfl)
 refine ESim.fld ?_ ?_ (fun _ => rfl)
 refine ESim.nameOf ?_
 decide +kernel
 decide
 refine Args.cons ?_ ?_ (fun _ => rfl)
 refine ESim.nameOf ?_
 decide +kernel
 exact Args.none
 refine ESim.nameOf ?_
 decide +kernel
 constructor
 first | exact fun _ _ => rfl | (intro env h; cases env; cases h; rfl)
 refine XSim.cons ?_ ?_
 refine SSim.iff ?_ ?_ ?_
 refine TSim.boolop ?_
 refine BTSim.or ?_ ?_
 refine TSim.cmp op2_ne ?_ ?_ rfl
 refine ESim.gc ?_
 refine ESim.callF hF ?_ ?_ ?_ ?_
 decide
 decide
 decide
 refine Args.cons ?_ ?_ (fun _ => rfl)
 refine ESim.nameOf ?_
 decide +kernel
 refine Args.cons ?_ ?_ (fun _ => rfl)
 refine ESim.nameOf ?_
 decide +kernel
 exact Args.none
 refine ESim.nameOf ?_
 decide +kernel
 refine BTSim.last ?_
 refine TSim.cmp op2_ne ?_ ?_ rfl
 refine ESim.gc ?_
 refine ESim.callF hF ?_ ?_ ?_ ?_
 decide
 decide
 decide
 refine Args.cons ?_ ?_ (fun _ => rfl)
 refine ESim.nameOf ?_
 decide +kernel
 refine Args.cons ?_ ?_ (fun _ => rfl)
 refine ESim.nameOf ?_
 decide +kernel
 exact Args.none
 refine ESim.nameOf ?_
 decide +kernel
 refine XSim.cons ?_ ?_
 refine SSim.ret ?_
 exact ESim.bool
 exact XSim.nil
 exact XSim.nil
 refine XSim.cons ?_ ?_
 refine SSim.asgComp ?_ ?_ rho_law_impls_right (kd := .vals) (ρ' := r_law_impls_right_0) ⟨rfl, by decide, by decide, by decide, by decide, by decide⟩ PatOk.var ?_ ?_ ?_ ?_ ?_ (fun _ _ => rfl) ?_
 decide
 first | exact .inl (by decide) | exact .inr (by decide)
 refine TgSim.own ?_ ?_ rho_law_impls_right_0
 decide
 decide
 refine SrcSim.vals ?_ (fun _ _ _ _ _ => rfl)
 refine ESim.lst ?_ ?_
 refine LSim.cons ?_ ?_ ?_
 refine ESim.str ?_
 decide +kernel
 refine LSim.cons ?_ ?_ ?_
 refine ESim.str ?_
 decide +kernel
 refine LSim.cons ?_ ?_ ?_
 refine ESim.str ?_
 decide +kernel
 exact LSim.nil
 intro; rfl
 intro; rfl
 intro; rfl
 decide
 refine CondSim.one ?_
 refine TSim.boolop ?_
 refine BTSim.and ?_ ?_
 refine TSim.cmp op2_in ?_ ?_ rfl
 refine ESim.nameOf ?_
 decide +kernel
 refine ESim.nameOf ?_
 decide +kernel
 refine BTSim.last ?_
 refine TSim.cmp op2_in ?_ ?_ rfl
 refine ESim.nameOf ?_
 decide +kernel
 refine ESim.nameOf ?_
 decide +kernel
 refine ESim.nameOf ?_
 decide +kernel
 constructor
 (intro env h; cases env; cases h; rfl)
 refine XSim.cons ?_ ?_
 refine SSim.ret ?_
 refine ESim.cmp op2_eq ?_ ?_ rfl
 refine ESim.callF hF ?_ ?_ ?_ ?_
 decide
 decide
 decide
 refine Args.cons ?_ ?_ (fun _ => rfl)
 refine ESim.nameOf ?_
 decide +kernel
 refine Args.cons ?_ ?_ (fun _ => rfl)
 refine ESim.nameOf ?_
 decide +kernel
 exact Args.none
 refine ESim.ite ?_ ?_ ?_
 refine TSim.boolop ?_
 refine BTSim.and ?_ ?_
 refine TSim.val ?_ (fun _ _ => rfl)
 refine ESim.nameOf ?_
 decide +kernel
 refine BTSim.and ?_ ?_
 refine TSim.op1 (.inl ⟨rfl, rfl⟩) ?_ rfl
 refine ESim.nameOf ?_
 decide +kernel
 refine BTSim.last ?_
 refine TSim.op1 (.inl ⟨rfl, rfl⟩) ?_ rfl
 refine ESim.nameOf ?_
 decide +kernel
 refine ESim.nameOf ?_
 decide +kernel
 refine ESim.lst ?_ ?_
 exact LSim.nil
 decide
 exact XSim.nil
noncomputable def r_law : List (Str × Nat) := [("script", 0), ("found", 1), ("byte", 2), ("source", 3), ("rows", 4), ("turn", 5), ("one", 6), ("other", 7)]
theorem rho_law : RhoOk r_law := by unfold RhoOk; decide +kernel
theorem k_law : ∃ sc body, defOf 35 = some (sc, body) ∧ NameOk sc r_law ["script"] ∧ ∀ (G : Gd) (d : Nat), AllF G lawP d → XSim G lawP d sc r_law body c_law := by
 refine ⟨_, _, rfl, ?_, ?_⟩
 exact ⟨rfl, rfl, rfl, by decide, by decide, by decide⟩
 intro G d hF
 unfold c_law
 refine XSim.cons ?_ ?_
 refine SSim.asg2 ?_ ?_ ?_ ?_ ?_ rho_law ?_ ?_ ?_ ?_
 decide
 first | exact .inl (by decide) | exact .inr (by decide)
 decide
 first | exact .inl (by decide) | exact .inr (by decide)
 decide
 refine ESim.tup ?_ ?_
 refine LSim.cons ?_ ?_ ?_
 refine ESim.new hF lawP_ok ?_ ?_ ?_ ?_
 decide
 decide
 decide
 exact Args.none
 refine LSim.cons ?_ ?_ ?_
 refine ESim.tup ?_ ?_
 refine LSim.cons ?_ ?_ ?_
 refine ESim.str ?_
 decide +kernel
 refine LSim.cons ?_ ?_ ?_
 refine ESim.str ?_
 decide +kernel
 exact LSim.nil
 intro; rfl
 intro; rfl
 decide
 exact LSim.nil
 intro; rfl
 intro; rfl
 decide
 first | exact fun _ _ => rfl | (intro env h; cases env; cases h; rfl)
 (intro env h _; cases env; cases h; rfl)
 (intro env h; cases env; cases h; rfl)
 refine XSim.cons ?_ ?_
 refine SSim.iff ?_ ?_ ?_
 refine TSim.val ?_ (fun _ _ => rfl)
 refine ESim.callM hF lawP_ok ?_ ?_ (fun _ => rfl)
 refine ESim.nameOf ?_
 decide +kernel
 refine Args.cons ?_ ?_ (fun _ => rfl)
 refine ESim.tup ?_ ?_
 refine LSim.cons ?_ ?_ ?_
 refine ESim.str ?_
 decide +kernel
 refine LSim.cons ?_ ?_ ?_
 exact ESim.none
 refine LSim.cons ?_ ?_ ?_
 exact ESim.bool
 refine LSim.cons ?_ ?_ ?_
 refine ESim.nameOf ?_
 decide +kernel
 exact LSim.nil
 intro; rfl
 intro; rfl
 intro; rfl
 intro; rfl
 decide
 refine Args.cons ?_ ?_ (fun _ => rfl)
 refine ESim.tup ?_ ?_
 refine LSim.cons ?_ ?_ ?_
 refine ESim.str ?_
 decide +kernel
 refine LSim.cons ?_ ?_ ?_
 exact ESim.none
 refine LSim.cons ?_ ?_ ?_
 exact ESim.bool
 refine LSim.cons ?_ ?_ ?_
 refine ESim.nameOf ?_
 decide +kernel
 exact LSim.nil
 intro; rfl
 intro; rfl
 intro; rfl
 intro; rfl
 decide
 exact Args.none
 refine XSim.cons ?_ ?_
 refine SSim.ret ?_
 exact ESim.bool
 exact XSim.nil
 exact XSim.nil
 refine XSim.cons ?_ ?_
 refine SSim.iff ?_ ?_ ?_
 refine TSim.boolop ?_
 refine BTSim.or ?_ ?_
 refine TSim.not ?_
 refine TSim.val ?_ (fun _ _ => rfl)
 refine ESim.gc ?_
 refine ESim.callF hF ?_ ?_ ?_ ?_
 decide
 decide
 decide
 refine Args.cons ?_ ?_ (fun _ => rfl)
 refine ESim.nameOf ?_
 decide +kernel
 exact Args.none
 refine BTSim.or ?_ ?_
 refine TSim.not ?_
 refine TSim.val ?_ (fun _ _ => rfl)
 refine ESim.callP hF ?_ ?_ ?_ ?_
 decide
 decide
 decide
 exact Args.none
 refine BTSim.last ?_
 refine TSim.not ?_
 refine TSim.val ?_ (fun _ _ => rfl)
 refine ESim.callP hF ?_ ?_ ?_ ?_
 decide
 decide
 decide
 exact Args.none
 refine XSim.cons ?_ ?_
 refine SSim.ret ?_
 exact ESim.bool
 exact XSim.nil
 exact XSim.nil
 refine XSim.cons ?_ ?_
 refine SSim.asg2 ?_ ?_ ?_ ?_ ?_ rho_law ?_ ?_ ?_ ?_
 decide
 first | exact .inl (by decide) | exact .inr (by decide)
 decide
 first | exact .inl (by decide) | exact .inr (by decide)
 decide
 refine ESim.tup ?_ ?_
 refine LSim.cons ?_ ?_ ?_
 refine ESim.callF hF ?_ ?_ ?_ ?_
 decide
 decide
 decide
 refine Args.cons ?_ ?_ (fun _ => rfl)
 refine ESim.nameOf ?_
 decide +kernel
 exact Args.none
 refine LSim.cons ?_ ?_ ?_
 refine ESim.callF hF ?_ ?_ ?_ ?_
 decide
 decide
 decide
 exact Args.none
 exact LSim.nil
 intro; rfl
 intro; rfl
 decide
 first | exact fun _ _ => rfl | (intro env h; cases env; cases h; rfl)
 (intro env h _; cases env; cases h; rfl)
 (intro env h; cases env; cases h; rfl)
 refine XSim.cons ?_ ?_
 refine SSim.for (kd := .rng) ?_ ?_ ?_ ?_ (fun _ _ => rfl)
 refine TgSim.name ?_ ?_ rho_law
 decide
 first | exact .inl (by decide) | exact .inr (by decide)
 refine SrcSim.rng ?_ ?_
 refine Args.cons ?_ ?_ (fun _ => rfl)
 exact ESim.int
 exact Args.none
 decide
 refine XSim.cons ?_ ?_
 refine SSim.asg2 ?_ ?_ ?_ ?_ ?_ rho_law ?_ ?_ ?_ ?_
 decide
 first | exact .inl (by decide) | exact .inr (by decide)
 decide
 first | exact .inl (by decide) | exact .inr (by decide)
 decide
 refine ESim.tup ?_ ?_
 refine LSim.cons ?_ ?_ ?_
 refine ESim.callF hF ?_ ?_ ?_ ?_
 decide
 decide
 decide
 refine Args.cons ?_ ?_ (fun _ => rfl)
 refine ESim.nameOf ?_
 decide +kernel
 refine Args.cons ?_ ?_ (fun _ => rfl)
 refine ESim.nameOf ?_
 decide +kernel
 exact Args.none
 refine LSim.cons ?_ ?_ ?_
 refine ESim.callF hF ?_ ?_ ?_ ?_
 decide
 decide
 decide
 refine Args.cons ?_ ?_ (fun _ => rfl)
 refine ESim.nameOf ?_
 decide +kernel
 refine Args.cons ?_ ?_ (fun _ => rfl)
 refine ESim.nameOf ?_
 decide +kernel
 exact Args.none
 exact LSim.nil
 intro; rfl
 intro; rfl
 decide
 first | exact fun _ _ => rfl | (intro env h; cases env; cases h; rfl)
 (intro env h _; cases env; cases h; rfl)
 (intro env h; cases env; cases h; rfl)
 refine XSim.cons ?_ ?_
 refine SSim.iff ?_ ?_ ?_
 refine TSim.cmp op2_ne ?_ ?_ rfl
 refine ESim.callM hF lawP_ok ?_ ?_ (fun _ => rfl)
 refine ESim.nameOf ?_
 decide +kernel
 refine Args.cons ?_ ?_ (fun _ => rfl)
 refine ESim.sub (op2_idx (fun _ _ => rfl)) ?_ ?_
 refine ESim.nameOf ?_
 decide +kernel
 exact ESim.int
 refine Args.cons ?_ ?_ (fun _ => rfl)
 refine ESim.sub (op2_idx (fun _ _ => rfl)) ?_ ?_
 refine ESim.nameOf ?_
 decide +kernel
 exact ESim.int
 exact Args.none
 refine ESim.cmp op2_eq ?_ ?_ rfl
 refine ESim.sub (op2_idx (fun _ _ => rfl)) ?_ ?_
 refine ESim.nameOf ?_
 decide +kernel
 exact ESim.int
 refine ESim.sub (op2_idx (fun _ _ => rfl)) ?_ ?_
 refine ESim.nameOf ?_
 decide +kernel
 exact ESim.int
 refine XSim.cons ?_ ?_
 refine SSim.ret ?_
 exact ESim.bool
 exact XSim.nil
 exact XSim.nil
 exact XSim.nil
 constructor
 refine XSim.cons ?_ ?_
 refine SSim.ret ?_
 refine ESim.boolop ?_
 refine BSim.and ?_ ?_
 refine ESim.callL hF ?_ ?_ ?_ ?_
 decide
 decide
 decide
 refine Args.cons ?_ ?_ (fun _ => rfl)
 refine ESim.nameOf ?_
 decide +kernel
 exact Args.none
 refine BSim.last ?_
 refine ESim.callL hF ?_ ?_ ?_ ?_
 decide
 decide
 decide
 refine Args.cons ?_ ?_ (fun _ => rfl)
 refine ESim.nameOf ?_
 decide +kernel
 exact Args.none
 exact XSim.nil
end Mine
end

section
set_option maxHeartbeats 8000000
open PySem PySem.W PyProof.Rows PySem.Calls PySem.Spec PySem.SeqAt
namespace Mine
noncomputable def r_law_alike_told : List (Str × Nat) := [("found", 0), ("rows", 1), ("pairs", 2), ("at", 3), ("to", 4)]
theorem rho_law_alike_told : RhoOk r_law_alike_told := by unfold RhoOk; decide +kernel
theorem k_law_alike_told : ∃ sc body, defOf 24 = some (sc, body) ∧ NameOk sc r_law_alike_told ["found"] ∧ ∀ (G : Gd) (d : Nat), AllF G lawP d → XSim G lawP d sc r_law_alike_told body c_law_alike_told := by
 refine ⟨_, _, rfl, ?_, ?_⟩
 exact ⟨rfl, rfl, rfl, by decide, by decide, by decide⟩
 intro G d hF
 unfold c_law_alike_told
 refine XSim.cons ?_ ?_
 refine SSim.asgN ?_ ?_ ?_ ?_ ?_
 decide
 first | exact .inl (by decide) | exact .inr (by decide)
 exact rho_law_alike_told
 refine ESim.callF hF ?_ ?_ ?_ ?_
 decide
 decide
 decide
 exact Args.none
 first | exact fun _ _ => rfl | (intro env h; cases env; cases h; rfl)
 refine XSim.cons ?_ ?_
 refine SSim.asgN ?_ ?_ ?_ ?_ ?_
 decide
 first | exact .inl (by decide) | exact .inr (by decide)
 exact rho_law_alike_told
 refine ESim.lst ?_ ?_
 refine LSim.cons ?_ ?_ ?_
 refine ESim.tup ?_ ?_
 refine LSim.cons ?_ ?_ ?_
 exact ESim.int
 refine LSim.cons ?_ ?_ ?_
 exact ESim.int
 exact LSim.nil
 intro; rfl
 intro; rfl
 decide
 refine LSim.cons ?_ ?_ ?_
 refine ESim.tup ?_ ?_
 refine LSim.cons ?_ ?_ ?_
 exact ESim.int
 refine LSim.cons ?_ ?_ ?_
 exact ESim.int
 exact LSim.nil
 intro; rfl
 intro; rfl
 decide
 refine LSim.cons ?_ ?_ ?_
 refine ESim.tup ?_ ?_
 refine LSim.cons ?_ ?_ ?_
 exact ESim.int
 refine LSim.cons ?_ ?_ ?_
 exact ESim.int
 exact LSim.nil
 intro; rfl
 intro; rfl
 decide
 refine LSim.cons ?_ ?_ ?_
 refine ESim.tup ?_ ?_
 refine LSim.cons ?_ ?_ ?_
 exact ESim.int
 refine LSim.cons ?_ ?_ ?_
 exact ESim.int
 exact LSim.nil
 intro; rfl
 intro; rfl
 decide
 refine LSim.cons ?_ ?_ ?_
 refine ESim.tup ?_ ?_
 refine LSim.cons ?_ ?_ ?_
 exact ESim.int
 refine LSim.cons ?_ ?_ ?_
 exact ESim.int
 exact LSim.nil
 intro; rfl
 intro; rfl
 decide
 refine LSim.cons ?_ ?_ ?_
 refine ESim.tup ?_ ?_
 refine LSim.cons ?_ ?_ ?_
 exact ESim.int
 refine LSim.cons ?_ ?_ ?_
 exact ESim.int
 exact LSim.nil
 intro; rfl
 intro; rfl
 decide
 refine LSim.cons ?_ ?_ ?_
 refine ESim.tup ?_ ?_
 refine LSim.cons ?_ ?_ ?_
 exact ESim.int
 refine LSim.cons ?_ ?_ ?_
 exact ESim.int
 exact LSim.nil
 intro; rfl
 intro; rfl
 decide
 refine LSim.cons ?_ ?_ ?_
 refine ESim.tup ?_ ?_
 refine LSim.cons ?_ ?_ ?_
 exact ESim.int
 refine LSim.cons ?_ ?_ ?_
 exact ESim.int
 exact LSim.nil
 intro; rfl
 intro; rfl
 decide
 refine LSim.cons ?_ ?_ ?_
 refine ESim.tup ?_ ?_
 refine LSim.cons ?_ ?_ ?_
 exact ESim.int
 refine LSim.cons ?_ ?_ ?_
 exact ESim.int
 exact LSim.nil
 intro; rfl
 intro; rfl
 decide
 refine LSim.cons ?_ ?_ ?_
 refine ESim.tup ?_ ?_
 refine LSim.cons ?_ ?_ ?_
 exact ESim.int
 refine LSim.cons ?_ ?_ ?_
 exact ESim.int
 exact LSim.nil
 intro; rfl
 intro; rfl
 decide
 refine LSim.cons ?_ ?_ ?_
 refine ESim.tup ?_ ?_
 refine LSim.cons ?_ ?_ ?_
 exact ESim.int
 refine LSim.cons ?_ ?_ ?_
 exact ESim.int
 exact LSim.nil
 intro; rfl
 intro; rfl
 decide
 refine LSim.cons ?_ ?_ ?_
 refine ESim.tup ?_ ?_
 refine LSim.cons ?_ ?_ ?_
 exact ESim.int
 refine LSim.cons ?_ ?_ ?_
 exact ESim.int
 exact LSim.nil
 intro; rfl
 intro; rfl
 decide
 exact LSim.nil
 intro; rfl
 intro; rfl
 intro; rfl
 intro; rfl
 intro; rfl
 intro; rfl
 intro; rfl
 intro; rfl
 intro; rfl
 intro; rfl
 intro; rfl
 intro; rfl
 decide
 first | exact fun _ _ => rfl | (intro env h; cases env; cases h; rfl)
 refine XSim.cons ?_ ?_
 refine SSim.asgN ?_ ?_ ?_ ?_ ?_
 decide
 first | exact .inl (by decide) | exact .inr (by decide)
 exact rho_law_alike_told
 refine ESim.binop op2_add ?_ ?_
 refine ESim.nameOf ?_
 decide +kernel
 refine ESim.lst ?_ ?_
 refine LSim.cons ?_ ?_ ?_
 refine ESim.tup ?_ ?_
 refine LSim.cons ?_ ?_ ?_
 exact ESim.int
 refine LSim.cons ?_ ?_ ?_
 exact ESim.int
 exact LSim.nil
 intro; rfl
 intro; rfl
 decide
 refine LSim.cons ?_ ?_ ?_
 refine ESim.tup ?_ ?_
 refine LSim.cons ?_ ?_ ?_
 exact ESim.int
 refine LSim.cons ?_ ?_ ?_
 exact ESim.int
 exact LSim.nil
 intro; rfl
 intro; rfl
 decide
 refine LSim.cons ?_ ?_ ?_
 refine ESim.tup ?_ ?_
 refine LSim.cons ?_ ?_ ?_
 exact ESim.int
 refine LSim.cons ?_ ?_ ?_
 exact ESim.int
 exact LSim.nil
 intro; rfl
 intro; rfl
 decide
 refine LSim.cons ?_ ?_ ?_
 refine ESim.tup ?_ ?_
 refine LSim.cons ?_ ?_ ?_
 exact ESim.int
 refine LSim.cons ?_ ?_ ?_
 exact ESim.int
 exact LSim.nil
 intro; rfl
 intro; rfl
 decide
 refine LSim.cons ?_ ?_ ?_
 refine ESim.tup ?_ ?_
 refine LSim.cons ?_ ?_ ?_
 exact ESim.int
 refine LSim.cons ?_ ?_ ?_
 exact ESim.int
 exact LSim.nil
 intro; rfl
 intro; rfl
 decide
 exact LSim.nil
 intro; rfl
 intro; rfl
 intro; rfl
 intro; rfl
 intro; rfl
 decide
 first | exact fun _ _ => rfl | (intro env h; cases env; cases h; rfl)
 refine XSim.cons ?_ ?_
 refine SSim.for (kd := .vals) ?_ ?_ ?_ ?_ (fun _ _ => rfl)
 refine TgSim.tup ?_ pat_cons
 refine TgsSim.cons ?_ ?_ (fun _ => rfl)
 refine TgSim.name ?_ ?_ rho_law_alike_told
 decide
 first | exact .inl (by decide) | exact .inr (by decide)
 refine TgsSim.cons ?_ ?_ (fun _ => rfl)
 refine TgSim.name ?_ ?_ rho_law_alike_told
 decide
 first | exact .inl (by decide) | exact .inr (by decide)
 exact TgsSim.nil
 refine SrcSim.vals ?_ (fun _ _ _ _ _ => rfl)
 refine ESim.nameOf ?_
 decide +kernel
 refine XSim.cons ?_ ?_
 refine SSim.iff ?_ ?_ ?_
 refine TSim.cmp op2_ne ?_ ?_ rfl
 refine ESim.callM hF lawP_ok ?_ ?_ (fun _ => rfl)
 refine ESim.nameOf ?_
 decide +kernel
 refine Args.cons ?_ ?_ (fun _ => rfl)
 refine ESim.sub (op2_idx (fun _ _ => rfl)) ?_ ?_
 refine ESim.sub (op2_idx (fun _ _ => rfl)) ?_ ?_
 refine ESim.nameOf ?_
 decide +kernel
 refine ESim.nameOf ?_
 decide +kernel
 exact ESim.int
 refine Args.cons ?_ ?_ (fun _ => rfl)
 refine ESim.sub (op2_idx (fun _ _ => rfl)) ?_ ?_
 refine ESim.sub (op2_idx (fun _ _ => rfl)) ?_ ?_
 refine ESim.nameOf ?_
 decide +kernel
 refine ESim.nameOf ?_
 decide +kernel
 exact ESim.int
 exact Args.none
 refine ESim.cmp op2_eq ?_ ?_ rfl
 refine ESim.sub (op2_idx (fun _ _ => rfl)) ?_ ?_
 refine ESim.sub (op2_idx (fun _ _ => rfl)) ?_ ?_
 refine ESim.nameOf ?_
 decide +kernel
 refine ESim.nameOf ?_
 decide +kernel
 exact ESim.int
 refine ESim.sub (op2_idx (fun _ _ => rfl)) ?_ ?_
 refine ESim.sub (op2_idx (fun _ _ => rfl)) ?_ ?_
 refine ESim.nameOf ?_
 decide +kernel
 refine ESim.nameOf ?_
 decide +kernel
 exact ESim.int
 refine XSim.cons ?_ ?_
 refine SSim.ret ?_
 exact ESim.bool
 exact XSim.nil
 exact XSim.nil
 exact XSim.nil
 constructor
 refine XSim.cons ?_ ?_
 refine SSim.ret ?_
 exact ESim.bool
 exact XSim.nil
noncomputable def r_law_closed : List (Str × Nat) := [("leaves", 0), ("pairs", 1)]
theorem rho_law_closed : RhoOk r_law_closed := by unfold RhoOk; decide +kernel
noncomputable def r_law_closed_0 : List (Str × Nat) := [("one", 2)]
theorem rho_law_closed_0 : RhoOk r_law_closed_0 := by unfold RhoOk; decide +kernel
noncomputable def r_law_closed_1 : List (Str × Nat) := [("one", 3)]
theorem rho_law_closed_1 : RhoOk r_law_closed_1 := by unfold RhoOk; decide +kernel
noncomputable def r_law_closed_2 : List (Str × Nat) := [("one", 4), ("other", 5), ("leaves", 0)]
theorem rho_law_closed_2 : RhoOk r_law_closed_2 := by unfold RhoOk; decide +kernel
theorem k_law_closed : ∃ sc body, defOf 29 = some (sc, body) ∧ NameOk sc r_law_closed [] ∧ ∀ (G : Gd) (d : Nat), AllF G lawP d → XSim G lawP d sc r_law_closed body c_law_closed := by
 refine ⟨_, _, rfl, ?_, ?_⟩
 exact ⟨rfl, rfl, rfl, by decide, by decide, by decide⟩
 intro G d hF
 unfold c_law_closed
 refine XSim.cons ?_ ?_
 refine SSim.asgN ?_ ?_ ?_ ?_ ?_
 decide
 first | exact .inl (by decide) | exact .inr (by decide)
 exact rho_law_closed
 refine ESim.lst ?_ ?_
 refine LSim.cons ?_ ?_ ?_
 refine ESim.tup ?_ ?_
 refine LSim.cons ?_ ?_ ?_
 refine ESim.str ?_
 decide +kernel
 refine LSim.cons ?_ ?_ ?_
 refine ESim.str ?_
 decide +kernel
 exact LSim.nil
 intro; rfl
 intro; rfl
 decide
 refine LSim.cons ?_ ?_ ?_
 refine ESim.tup ?_ ?_
 refine LSim.cons ?_ ?_ ?_
 refine ESim.str ?_
 decide +kernel
 exact LSim.nil
 intro; rfl
 decide
 exact LSim.nil
 intro; rfl
 intro; rfl
 decide
 first | exact fun _ _ => rfl | (intro env h; cases env; cases h; rfl)
 refine XSim.cons ?_ ?_
 refine SSim.asgComp2 (kd1 := .vals) (kd2 := .vals) (ρ' := r_law_closed_2) ?_ ?_ rho_law_closed ⟨rfl, by decide, by decide, by decide, by decide, by decide⟩ PatOk.var PatOk.var ?_ ?_ ?_ ?_ ?_ ?_ ?_ (fun _ _ => rfl) (fun _ _ => rfl) ?_
 decide
 first | exact .inl (by decide) | exact .inr (by decide)
 refine TgSim.own ?_ ?_ rho_law_closed_2
 decide
 decide
 refine SrcSim.vals ?_ (fun _ _ _ _ _ => rfl)
 refine ESim.nameOf ?_
 decide +kernel
 refine TgSim.own ?_ ?_ rho_law_closed_2
 decide
 decide
 refine SrcSim.vals ?_ (fun _ _ _ _ _ => rfl)
 refine ESim.nameOf ?_
 decide +kernel
 refine ESim.tup ?_ ?_
 refine LSim.cons ?_ ?_ ?_
 refine ESim.str ?_
 decide +kernel
 refine LSim.cons ?_ ?_ ?_
 refine ESim.tup ?_ ?_
 refine LSim.cons ?_ ?_ ?_
 refine ESim.nameOf ?_
 decide +kernel
 refine LSim.cons ?_ ?_ ?_
 refine ESim.nameOf ?_
 decide +kernel
 exact LSim.nil
 intro; rfl
 intro; rfl
 decide
 exact LSim.nil
 intro; rfl
 intro; rfl
 decide
 constructor
 constructor
 (intro env h; cases env; cases h; rfl)
 refine XSim.cons ?_ ?_
 refine SSim.ret ?_
 refine ESim.binop op2_add ?_ ?_
 refine ESim.binop op2_add ?_ ?_
 refine ESim.binop op2_add ?_ ?_
 refine ESim.nameOf ?_
 decide +kernel
 refine ESim.comp (kd := .vals) (ρ' := r_law_closed_0) ⟨rfl, by decide, by decide, by decide, by decide, by decide⟩ PatOk.var ?_ ?_ ?_ ?_ ?_ (fun _ _ => rfl)
 refine TgSim.own ?_ ?_ rho_law_closed_0
 decide
 decide
 refine SrcSim.vals ?_ (fun _ _ _ _ _ => rfl)
 refine ESim.nameOf ?_
 decide +kernel
 exact CondSim.none
 refine ESim.tup ?_ ?_
 refine LSim.cons ?_ ?_ ?_
 refine ESim.str ?_
 decide +kernel
 refine LSim.cons ?_ ?_ ?_
 refine ESim.nameOf ?_
 decide +kernel
 exact LSim.nil
 intro; rfl
 intro; rfl
 decide
 constructor
 refine ESim.nameOf ?_
 decide +kernel
 refine ESim.comp (kd := .vals) (ρ' := r_law_closed_1) ⟨rfl, by decide, by decide, by decide, by decide, by decide⟩ PatOk.var ?_ ?_ ?_ ?_ ?_ (fun _ _ => rfl)
 refine TgSim.own ?_ ?_ rho_law_closed_1
 decide
 decide
 refine SrcSim.vals ?_ (fun _ _ _ _ _ => rfl)
 refine ESim.nameOf ?_
 decide +kernel
 exact CondSim.none
 refine ESim.tup ?_ ?_
 refine LSim.cons ?_ ?_ ?_
 refine ESim.str ?_
 decide +kernel
 refine LSim.cons ?_ ?_ ?_
 refine ESim.nameOf ?_
 decide +kernel
 exact LSim.nil
 intro; rfl
 intro; rfl
 decide
 constructor
 exact XSim.nil
end Mine
end

section
set_option maxHeartbeats 8000000
open PySem PySem.W PyProof.Rows PySem.Calls PySem.Spec PySem.SeqAt
namespace Mine
theorem KRow.toF {K : Params → Frag} {G : Gd} {P : Params} {f : Nat} {a : Addr} {sc : Scope} {body : List Stmt} {names : List Str} {dv : List AV} (k : KRow K a sc body names dv) (hK : G.K = K P) (hX : G.K.In G.hb) (hf : G.fa f = a) : FRow G f sc body names dv := by
  obtain ⟨o, fd, ext, e1, e2, e3, e4, e5, e6, e7, e8, e9, e10⟩ := k.at_ P
  rw [← hK] at e1 e3
  refine ⟨o, fd, ext, by rw [hf]; exact e1, e2, codeRec_of hX e3, e4, e5, e6, e7, e8, e9, fun vals hv s hs => e10 vals hv s ?_⟩
  rw [← hK]; exact hs
noncomputable def KOk (f : Nat) (F : FC) : Prop := ∃ ρ sc body, defOf f = some (sc, body) ∧ NameOk sc ρ (nmOf f) ∧ F.params = (nmOf f).length ∧ F.dflt = dvOf f ∧ ∀ (G : Gd) (d : Nat), AllF G lawP d → XSim G lawP d sc ρ body F.body
theorem FSim.ofK {K : Params → Frag} (kf : KFacts K) {G : Gd} {P : Params} {d f : Nat} {F : FC} (k : KOk f F) (h36 : f < 36) (hfc : lawP.fc f = some F) (hK : G.K = K P) (hX : G.K.In G.hb) (hf : G.fa = faN) (ih : AllF G lawP d) : FSim G lawP d f := by
  obtain ⟨ρ, sc, body, k1, k2, k3, kd, k4⟩ := k
  have r := kf.row f h36
  unfold scOf bodyOf at r
  rw [k1] at r
  exact FSim.of hfc (r.toF hK hX (by rw [hf])) k2 k3 kd (k4 G d ih)
theorem ok_parts_of : KOk 0 f_parts_of := by
  obtain ⟨sc, body, a, b, c⟩ := k_parts_of
  exact ⟨r_parts_of, sc, body, a, b, rfl, rfl, c⟩
theorem ok_Infer_init : KOk 1 f_Infer_init := by
  obtain ⟨sc, body, a, b, c⟩ := k_Infer_init
  exact ⟨r_Infer_init, sc, body, a, b, rfl, rfl, c⟩
theorem ok_Infer_fresh : KOk 2 f_Infer_fresh := by
  obtain ⟨sc, body, a, b, c⟩ := k_Infer_fresh
  exact ⟨r_Infer_fresh, sc, body, a, b, rfl, rfl, c⟩
theorem ok_Infer_fresh_int : KOk 3 f_Infer_fresh_int := by
  obtain ⟨sc, body, a, b, c⟩ := k_Infer_fresh_int
  exact ⟨r_Infer_fresh_int, sc, body, a, b, rfl, rfl, c⟩
theorem ok_Infer_shallow : KOk 4 f_Infer_shallow := by
  obtain ⟨sc, body, a, b, c⟩ := k_Infer_shallow
  exact ⟨r_Infer_shallow, sc, body, a, b, rfl, rfl, c⟩
theorem ok_Infer_occurs : KOk 5 f_Infer_occurs := by
  obtain ⟨sc, body, a, b, c⟩ := k_Infer_occurs
  exact ⟨r_Infer_occurs, sc, body, a, b, rfl, rfl, c⟩
theorem ok_Infer_bind : KOk 6 f_Infer_bind := by
  obtain ⟨sc, body, a, b, c⟩ := k_Infer_bind
  exact ⟨r_Infer_bind, sc, body, a, b, rfl, rfl, c⟩
theorem ok_Infer_are_alike : KOk 7 f_Infer_are_alike := by
  obtain ⟨sc, body, a, b, c⟩ := k_Infer_are_alike
  exact ⟨r_Infer_are_alike, sc, body, a, b, rfl, rfl, c⟩
theorem ok_head_pairs : KOk 8 f_head_pairs := by
  obtain ⟨sc, body, a, b, c⟩ := k_head_pairs
  exact ⟨r_head_pairs, sc, body, a, b, rfl, rfl, c⟩
theorem ok_filled : KOk 9 f_filled := by
  obtain ⟨sc, body, a, b, c⟩ := k_filled
  exact ⟨r_filled, sc, body, a, b, rfl, rfl, c⟩
theorem ok_Both_init : KOk 10 f_Both_init := by
  obtain ⟨sc, body, a, b, c⟩ := k_Both_init
  exact ⟨r_Both_init, sc, body, a, b, rfl, rfl, c⟩
theorem ok_Both_seen : KOk 11 f_Both_seen := by
  obtain ⟨sc, body, a, b, c⟩ := k_Both_seen
  exact ⟨r_Both_seen, sc, body, a, b, rfl, rfl, c⟩
theorem ok_Both_holds_name : KOk 12 f_Both_holds_name := by
  obtain ⟨sc, body, a, b, c⟩ := k_Both_holds_name
  exact ⟨r_Both_holds_name, sc, body, a, b, rfl, rfl, c⟩
theorem ok_Both_bind : KOk 13 f_Both_bind := by
  obtain ⟨sc, body, a, b, c⟩ := k_Both_bind
  exact ⟨r_Both_bind, sc, body, a, b, rfl, rfl, c⟩
theorem ok_Both_unify : KOk 14 f_Both_unify := by
  obtain ⟨sc, body, a, b, c⟩ := k_Both_unify
  exact ⟨r_Both_unify, sc, body, a, b, rfl, rfl, c⟩
theorem ok_Both_all_unified : KOk 15 f_Both_all_unified := by
  obtain ⟨sc, body, a, b, c⟩ := k_Both_all_unified
  exact ⟨r_Both_all_unified, sc, body, a, b, rfl, rfl, c⟩
theorem ok_own_names : KOk 16 f_own_names := by
  obtain ⟨sc, body, a, b, c⟩ := k_own_names
  exact ⟨r_own_names, sc, body, a, b, rfl, rfl, c⟩
theorem ok_heads_meet : KOk 17 f_heads_meet := by
  obtain ⟨sc, body, a, b, c⟩ := k_heads_meet
  exact ⟨r_heads_meet, sc, body, a, b, rfl, rfl, c⟩
theorem ok_inherent_clashes : KOk 18 f_inherent_clashes := by
  obtain ⟨sc, body, a, b, c⟩ := k_inherent_clashes
  exact ⟨r_inherent_clashes, sc, body, a, b, rfl, rfl, c⟩
theorem ok_ImplRow_init : KOk 19 f_ImplRow_init := by
  obtain ⟨sc, body, a, b, c⟩ := k_ImplRow_init
  exact ⟨r_ImplRow_init, sc, body, a, b, rfl, rfl, c⟩
theorem ok_law_pool : KOk 20 f_law_pool := by
  obtain ⟨sc, body, a, b, c⟩ := k_law_pool
  exact ⟨r_law_pool, sc, body, a, b, rfl, rfl, c⟩
theorem ok_law_take : KOk 21 f_law_take := by
  obtain ⟨sc, body, a, b, c⟩ := k_law_take
  exact ⟨r_law_take, sc, body, a, b, rfl, rfl, c⟩
theorem ok_law_one : KOk 22 f_law_one := by
  obtain ⟨sc, body, a, b, c⟩ := k_law_one
  exact ⟨r_law_one, sc, body, a, b, rfl, rfl, c⟩
theorem ok_law_heads : KOk 23 f_law_heads := by
  obtain ⟨sc, body, a, b, c⟩ := k_law_heads
  exact ⟨r_law_heads, sc, body, a, b, rfl, rfl, c⟩
theorem ok_law_alike_told : KOk 24 f_law_alike_told := by
  obtain ⟨sc, body, a, b, c⟩ := k_law_alike_told
  exact ⟨r_law_alike_told, sc, body, a, b, rfl, rfl, c⟩
theorem ok_law_parts : KOk 25 f_law_parts := by
  obtain ⟨sc, body, a, b, c⟩ := k_law_parts
  exact ⟨r_law_parts, sc, body, a, b, rfl, rfl, c⟩
theorem ok_law_is_within : KOk 26 f_law_is_within := by
  obtain ⟨sc, body, a, b, c⟩ := k_law_is_within
  exact ⟨r_law_is_within, sc, body, a, b, rfl, rfl, c⟩
theorem ok_law_unknowns_right : KOk 27 f_law_unknowns_right := by
  obtain ⟨sc, body, a, b, c⟩ := k_law_unknowns_right
  exact ⟨r_law_unknowns_right, sc, body, a, b, rfl, rfl, c⟩
theorem ok_law_unknowns_told : KOk 28 f_law_unknowns_told := by
  obtain ⟨sc, body, a, b, c⟩ := k_law_unknowns_told
  exact ⟨r_law_unknowns_told, sc, body, a, b, rfl, rfl, c⟩
theorem ok_law_closed : KOk 29 f_law_closed := by
  obtain ⟨sc, body, a, b, c⟩ := k_law_closed
  exact ⟨r_law_closed, sc, body, a, b, rfl, rfl, c⟩
theorem ok_law_patterns : KOk 30 f_law_patterns := by
  obtain ⟨sc, body, a, b, c⟩ := k_law_patterns
  exact ⟨r_law_patterns, sc, body, a, b, rfl, rfl, c⟩
theorem ok_law_fits : KOk 31 f_law_fits := by
  obtain ⟨sc, body, a, b, c⟩ := k_law_fits
  exact ⟨r_law_fits, sc, body, a, b, rfl, rfl, c⟩
theorem ok_law_impl : KOk 32 f_law_impl := by
  obtain ⟨sc, body, a, b, c⟩ := k_law_impl
  exact ⟨r_law_impl, sc, body, a, b, rfl, rfl, c⟩
theorem ok_law_meet_told : KOk 33 f_law_meet_told := by
  obtain ⟨sc, body, a, b, c⟩ := k_law_meet_told
  exact ⟨r_law_meet_told, sc, body, a, b, rfl, rfl, c⟩
theorem ok_law_impls_right : KOk 34 f_law_impls_right := by
  obtain ⟨sc, body, a, b, c⟩ := k_law_impls_right
  exact ⟨r_law_impls_right, sc, body, a, b, rfl, rfl, c⟩
theorem ok_law : KOk 35 f_law := by
  obtain ⟨sc, body, a, b, c⟩ := k_law
  exact ⟨r_law, sc, body, a, b, rfl, rfl, c⟩
theorem allF {K : Params → Frag} (kf : KFacts K) {G : Gd} {P : Params} (hK : G.K = K P) (hX : G.K.In G.hb) (hf : G.fa = faN) : ∀ d, AllF G lawP d := by
  intro d
  induction d with
  | zero => intro d' e; cases e
  | succ d ih =>
    intro d' e f
    cases e
    match f with
    | 0 => exact FSim.ofK kf ok_parts_of (by omega) rfl hK hX hf ih
    | 1 => exact FSim.ofK kf ok_Infer_init (by omega) rfl hK hX hf ih
    | 2 => exact FSim.ofK kf ok_Infer_fresh (by omega) rfl hK hX hf ih
    | 3 => exact FSim.ofK kf ok_Infer_fresh_int (by omega) rfl hK hX hf ih
    | 4 => exact FSim.ofK kf ok_Infer_shallow (by omega) rfl hK hX hf ih
    | 5 => exact FSim.ofK kf ok_Infer_occurs (by omega) rfl hK hX hf ih
    | 6 => exact FSim.ofK kf ok_Infer_bind (by omega) rfl hK hX hf ih
    | 7 => exact FSim.ofK kf ok_Infer_are_alike (by omega) rfl hK hX hf ih
    | 8 => exact FSim.ofK kf ok_head_pairs (by omega) rfl hK hX hf ih
    | 9 => exact FSim.ofK kf ok_filled (by omega) rfl hK hX hf ih
    | 10 => exact FSim.ofK kf ok_Both_init (by omega) rfl hK hX hf ih
    | 11 => exact FSim.ofK kf ok_Both_seen (by omega) rfl hK hX hf ih
    | 12 => exact FSim.ofK kf ok_Both_holds_name (by omega) rfl hK hX hf ih
    | 13 => exact FSim.ofK kf ok_Both_bind (by omega) rfl hK hX hf ih
    | 14 => exact FSim.ofK kf ok_Both_unify (by omega) rfl hK hX hf ih
    | 15 => exact FSim.ofK kf ok_Both_all_unified (by omega) rfl hK hX hf ih
    | 16 => exact FSim.ofK kf ok_own_names (by omega) rfl hK hX hf ih
    | 17 => exact FSim.ofK kf ok_heads_meet (by omega) rfl hK hX hf ih
    | 18 => exact FSim.ofK kf ok_inherent_clashes (by omega) rfl hK hX hf ih
    | 19 => exact FSim.ofK kf ok_ImplRow_init (by omega) rfl hK hX hf ih
    | 20 => exact FSim.ofK kf ok_law_pool (by omega) rfl hK hX hf ih
    | 21 => exact FSim.ofK kf ok_law_take (by omega) rfl hK hX hf ih
    | 22 => exact FSim.ofK kf ok_law_one (by omega) rfl hK hX hf ih
    | 23 => exact FSim.ofK kf ok_law_heads (by omega) rfl hK hX hf ih
    | 24 => exact FSim.ofK kf ok_law_alike_told (by omega) rfl hK hX hf ih
    | 25 => exact FSim.ofK kf ok_law_parts (by omega) rfl hK hX hf ih
    | 26 => exact FSim.ofK kf ok_law_is_within (by omega) rfl hK hX hf ih
    | 27 => exact FSim.ofK kf ok_law_unknowns_right (by omega) rfl hK hX hf ih
    | 28 => exact FSim.ofK kf ok_law_unknowns_told (by omega) rfl hK hX hf ih
    | 29 => exact FSim.ofK kf ok_law_closed (by omega) rfl hK hX hf ih
    | 30 => exact FSim.ofK kf ok_law_patterns (by omega) rfl hK hX hf ih
    | 31 => exact FSim.ofK kf ok_law_fits (by omega) rfl hK hX hf ih
    | 32 => exact FSim.ofK kf ok_law_impl (by omega) rfl hK hX hf ih
    | 33 => exact FSim.ofK kf ok_law_meet_told (by omega) rfl hK hX hf ih
    | 34 => exact FSim.ofK kf ok_law_impls_right (by omega) rfl hK hX hf ih
    | 35 => exact FSim.ofK kf ok_law (by omega) rfl hK hX hf ih
    | k + 36 =>
      intro n A s σ H Vs vs loc V loc' H' hr
      unfold callBody at hr
      have e : lawP.fc (k + 36) = none := by
        show fcTab[k + 36]? = none
        rw [List.getElem?_eq_none_iff]
        exact Nat.le_add_left 36 k
      rw [e] at hr
      cases hr
end Mine
end

section
set_option maxHeartbeats 8000000
open PySem PySem.W PyProof.Rows PySem.Calls PySem.Spec PySem.SeqAt
namespace Mine
noncomputable def PlainLaw : Prop := ∀ ns : List Int, ns.length ≤ 63 → ∃ n l H, callBody lawP (run lawP n) 12 35 [.obj 0] [] [.frz (ns.map .int)] = some (.val (.bool true), l, H)
theorem ints_rep {h : Heap} {σ : List Addr} : ∀ {vs : List Value} {ns : List Int}, IntsAre vs ns → RepVs h σ (ns.map .int) vs
  | _, _, .nil => .nil
  | _, _, .cons _ _ r => .cons (.int _ _) (ints_rep r)
theorem law_codes (plain : PlainLaw) {KK : Params → Frag} (kf : KFacts KK) {q : Program} {loose : List Str} {mean : ExcName → Option Value} {w : World} {s₁ : Shared} {mg mb : Str → Option Value} {fa l : Addr} {vs : List Value} {ns : List Int} {cl : Str → Option Addr} {mean' : ExcName → Option Value} {args : List WData}
    (T : Top q loose mean mg mb s₁.heap) (KX : (KK w.params).In s₁.heap) (hmg : mg "law" = some (.ref fa)) (hL : s₁.heap.IsList l vs.toArray) (hI : IntsAre vs ns) (hn : ns.length ≤ 63) (hg : s₁.gens = #[])
    (hr : ∀ cls, PySem.Challenge.rw_xw0168_01.row.claim.raises args cls = false) (hp : PySem.Challenge.rw_xw0168_01.row.claim.post args (.bool true) args = true) :
    codeAny (model PySem.Challenge.rw_xw0168_01.row.prog w) callerA (.call (.ref fa) ⟨[.ref l], []⟩) (GoodW PySem.Challenge.rw_xw0168_01.row.claim cl mean' args s₁) s₁ := by
  let G : Gd := { prog := PySem.Challenge.rw_xw0168_01.row.prog, w := w, K := KK w.params, hb := s₁.heap, mg := mg, mb := mb, fa := faN, ca := caN }
  have g3 : ∃ b o, s₁.heap.get? b = some o ∧ sysModules < b := by
    obtain ⟨o, es, ep, e, _⟩ := T.g
    exact ⟨_, o, e, by decide⟩
  have ok : GdOk G := {
    K := KX
    cls := kf.cls _
    fns := kf.fnsN _
    mth := kf.mth _
    ini := kf.ini _
    glo := kf.glo _
    clg := kf.clg _
    gbl := kf.gbl _
    mst := kf.mst _
    g := T.g
    b := T.b
    lim := T.nolimit
    top := g3
    blt := T.builtins }
  have efa : fa = faN 35 := by
    have e := mg_of KX T.g (kf.glo w.params ("law", 35) (by decide))
    rw [show mg "law" = some (.ref fa) from hmg] at e
    cases e; rfl
  subst efa
  obtain ⟨n, l', H', hrun⟩ := plain ns hn
  have R : HRel G [l] [.frz (ns.map .int)] s₁.heap := by
    refine ⟨rfl, by simp, fun i o a hi ha nf => ?_, fun _ _ e => e, g3, ?_, fun i o a hi ha => ?_⟩
    · cases i with
      | zero => cases hi; cases nf
      | succ i => simp at hi
    · obtain ⟨b, o, e, z⟩ := g3
      exact ⟨get?_size _, Nat.lt_trans z (Heap.lt_size e)⟩
    · cases i with
      | zero => cases hi; cases ha; exact .frz hL (ints_rep hI)
      | succ i => simp at hi
  refine (allF kf rfl KX rfl 13) 12 rfl 35 n callerA s₁ [l] _ _ _ _ _ _ _ hrun ok ⟨rfl, by decide, by decide⟩ R (.cons (.obj rfl) .nil) _ ?_
  intro v h' tk σ' x R' rv
  cases rv
  exact ⟨.inl ⟨_, _, _, rfl, hr, .bool true, hp, fun _ => ⟨List.nodup_nil, fun _ m => nomatch m⟩⟩, R'.base, rfl, hg⟩
end Mine
end

section
set_option linter.unusedVariables false
open PySem PySem.W PyProof.Rows PySem.Calls
namespace Mine
noncomputable def Le {α : Type} (x y : Option α) : Prop := ∀ o, x = some o → y = some o
theorem Le.refl {α : Type} (x : Option α) : Le x x := fun _ e => e
theorem Le.none {α : Type} (x : Option α) : Le none x := fun _ e => nS e
theorem vb_le {x y : Option Out} {k k' : AV → AH → Option Out} (h : Le x y) (hk : ∀ v H, Le (k v H) (k' v H)) : Le (vb x k) (vb y k') := by
  intro o e
  obtain ⟨v, l, H, q, e⟩ := vb_some e
  rw [h _ q]
  exact hk _ _ o e
theorem strict_le {F : Option Out → Option Out} (h0 : F none = none) {x y : Option Out} (h : Le x y) : Le (F x) (F y) := by
  intro o e
  cases x with
  | none => exact nS (h0.symm.trans e)
  | some z => rw [h z rfl]; exact e
theorem body_le {x y : Option Out} (h : Le x y) {k k' : Loc → AH → Option Out} (hk : ∀ l H, Le (k l H) (k' l H)) : Le (match x with
        | some (.next, loc, H) => k loc H
        | some (.cont, loc, H) => k loc H
        | some (.ret v, loc, H) => some (.ret v, loc, H)
        | _ => none) (match (generalizing := false) y with
        | some (.next, loc, H) => k' loc H
        | some (.cont, loc, H) => k' loc H
        | some (.ret v, loc, H) => some (.ret v, loc, H)
        | _ => none) := by
  intro o e
  obtain ⟨z, q, e⟩ := body_some e
  rw [h z q]
  obtain ⟨r, l, H⟩ := z
  cases r with
  | next => exact hk _ _ _ e
  | cont => exact hk _ _ _ e
  | ret v => exact e
  | val _ => exact e
theorem seq_le {x y : Option Out} (h : Le x y) {k k' : Loc → AH → Option Out} (hk : ∀ l H, Le (k l H) (k' l H)) : Le (match x with
    | some (.next, loc, H) => k loc H
    | some (.val _, _, _) => none
    | other => other) (match (generalizing := false) y with
    | some (.next, loc, H) => k' loc H
    | some (.val _, _, _) => none
    | other => other) := by
  intro o e
  cases x with
  | none => exact nS e
  | some z =>
    rw [h z rfl]
    obtain ⟨r, l, H⟩ := z
    cases r with
    | next => exact hk _ _ _ e
    | _ => exact e
theorem tup_le {x y : Option Out} (h : Le x y) {k k' : List AV → AH → Option Out} (hk : ∀ l H, Le (k l H) (k' l H)) : Le (match x with
    | some (.val (.tup vs), _, H) => k vs H
    | _ => none) (match (generalizing := false) y with
    | some (.val (.tup vs), _, H) => k' vs H
    | _ => none) := by
  intro o e
  cases x with
  | none => exact nS e
  | some z =>
    rw [h z rfl]
    obtain ⟨r, l, H⟩ := z
    cases r with
    | val v =>
      cases v with
      | tup vs => exact hk _ _ _ e
      | _ => exact nS e
    | _ => exact nS e
theorem sn_le {x : Option (Option AV)} {a : Option Out} {f f' : AV → Option Out} (h : ∀ v, Le (f v) (f' v)) : Le (match x with
  | none => none
  | some none => a
  | some (some v) => f v) (match x with
  | none => none
  | some none => a
  | some (some v) => f' v) := by
  cases x with
  | none => exact Le.none _
  | some y => cases y with
    | none => exact Le.refl _
    | some v => exact h v
theorem am_le {x : Option Loc} {f f' : Loc → Option Out} (h : ∀ v, Le (f v) (f' v)) : Le (match x with
  | none => none
  | some v => f v) (match x with
  | none => none
  | some v => f' v) := by
  cases x with
  | none => exact Le.none _
  | some v => exact h v
theorem if_le {c : Prop} {_ : Decidable c} {x y : Option Out} (h : Le x y) : Le (if c then none else x) (if c then none else y) := by
  by_cases q : c
  · rw [if_pos q, if_pos q]; exact Le.none _
  · rw [if_neg q, if_neg q]; exact h
theorem bool_le {v : AV} {A A' B B' : Option Out} (ha : Le A A') (hb : Le B B') : Le (match v with
    | .bool true => A
    | .bool false => B
    | _ => none) (match v with
    | .bool true => A'
    | .bool false => B'
    | _ => none) := by
  cases v with
  | bool b => cases b with
    | true => exact ha
    | false => exact hb
  | _ => exact Le.none _
theorem tf_le {b : Bool} {A A' : Option Out} (h : Le A A') : Le (match b with
    | true => A
    | false => none) (match b with
    | true => A'
    | false => none) := by
  cases b with
  | true => exact h
  | false => exact Le.none _
theorem obj_le {v : AV} {f f' : Nat → Option Out} (h : ∀ i, Le (f i) (f' i)) : Le (match v with
    | .obj i => f i
    | _ => none) (match v with
    | .obj i => f' i
    | _ => none) := by
  cases v with
  | obj i => exact h i
  | _ => exact Le.none _
theorem inst_le {x : Option AO} {f f' : Addr → Nat → Option Out} (h : ∀ a b, Le (f a b) (f' a b)) : Le (match x with
      | some (.inst C dd) => f C dd
      | _ => none) (match x with
      | some (.inst C dd) => f' C dd
      | _ => none) := by
  cases x with
  | none => exact Le.none _
  | some o => cases o with
    | inst a b => exact h a b
    | _ => exact Le.none _
theorem on_le {x : Option Nat} {f f' : Nat → Option Out} (h : ∀ i, Le (f i) (f' i)) : Le (match x with
        | some i => f i
        | none => none) (match x with
        | some i => f' i
        | none => none) := by
  cases x with
  | none => exact Le.none _
  | some i => exact h i
theorem ct_le {x : Option (Addr × Nat)} {f f' : Addr → Nat → Option Out} (h : ∀ a b, Le (f a b) (f' a b)) : Le (match x with
    | some (C, i) => f C i
    | none => none) (match x with
    | some (C, i) => f' C i
    | none => none) := by
  cases x with
  | none => exact Le.none _
  | some i => exact h _ _
theorem fc_le {x : Option FC} {f f' : FC → Option Out} (h : ∀ i, Le (f i) (f' i)) : Le (match x with
        | some i => f i
        | none => none) (match x with
        | some i => f' i
        | none => none) := by
  cases x with
  | none => exact Le.none _
  | some i => exact h i
theorem lc_le {x : Option Loc} {f f' : Loc → Option Out} (h : ∀ i, Le (f i) (f' i)) : Le (match x with
        | some i => f i
        | none => none) (match x with
        | some i => f' i
        | none => none) := by
  cases x with
  | none => exact Le.none _
  | some i => exact h i
theorem vs_le {x : Option (List AV)} {f f' : List AV → Option Out} (h : ∀ i, Le (f i) (f' i)) : Le (match x with
        | some i => f i
        | none => none) (match x with
        | some i => f' i
        | none => none) := by
  cases x with
  | none => exact Le.none _
  | some i => exact h i
section
variable {P : Pg} {ih ih' : RunT}
noncomputable def LeR (ih ih' : RunT) : Prop := ∀ d d', d ≤ d' → ∀ c l H, Le (ih d c l H) (ih' d' c l H)
theorem callBody_le (hi : LeR ih ih') {d d' : Nat} (hd : d ≤ d') (f : Nat) (vs : List AV) (loc : Loc) (H : AH) : Le (callBody P ih d f vs loc H) (callBody P ih' d' f vs loc H) :=
  fc_le fun F => lc_le fun l0 => strict_le (F := fun x => match x with
      | some (.ret v, _, H') => some (.val v, loc, H')
      | some (.next, _, H') => some (.val .none, loc, H')
      | _ => none) rfl (hi _ _ hd _ _ _)
theorem args_le (hi : LeR ih ih') {d d' : Nat} (hd : d ≤ d') {a : AV} {k k' : List AV → Nat → Option Out} (hk : ∀ vs n n', n ≤ n' → Le (k vs n) (k' vs n')) :
    Le (match (generalizing := false) a, d with | .tup vs, n + 1 => k vs n | _, _ => none) (match (generalizing := false) a, d' with | .tup vs, n + 1 => k' vs n | _, _ => none) := by
  cases a with
  | tup vs =>
    cases d with
    | zero => exact Le.none _
    | succ n => cases d' with
      | zero => exact absurd hd (Nat.not_succ_le_zero _)
      | succ m => exact hk vs n m (Nat.le_of_succ_le_succ hd)
  | _ => exact Le.none _
theorem argL_le (hi : LeR ih ih') {d d' : Nat} (hd : d ≤ d') {a : AV} {k k' : Nat → Nat → Option Out} (hk : ∀ i n n', n ≤ n' → Le (k i n) (k' i n')) :
    Le (match (generalizing := false) a, d with | .tup [.obj i], n + 1 => k i n | _, _ => none) (match (generalizing := false) a, d' with | .tup [.obj i], n + 1 => k' i n | _, _ => none) := by
  cases a with
  | tup vs =>
    cases d with
    | zero =>
      intro o e
      rcases vs with _ | ⟨x, _ | ⟨y, r⟩⟩
      · exact nS e
      · cases x <;> exact nS e
      · cases x <;> exact nS e
    | succ n => cases d' with
      | zero => exact absurd hd (Nat.not_succ_le_zero _)
      | succ m =>
        rcases vs with _ | ⟨x, _ | ⟨y, r⟩⟩
        · exact Le.none _
        · cases x with
          | obj i => exact hk i n m (Nat.le_of_succ_le_succ hd)
          | _ => exact Le.none _
        · cases x <;> exact Le.none _
  | _ => exact Le.none _
theorem srcF_le (hi : LeR ih ih') {d d' : Nat} (hd : d ≤ d') (s : C) (loc : Loc) (H : AH) {k k' : Src → AH → Option Out} (hk : ∀ S H, Le (k S H) (k' S H)) : Le (srcF ih d s loc H k) (srcF ih' d' s loc H k') := by
  have gen : ∀ e : C, Le (vb (ih d e loc H) fun v H => match (itemsOf v H).isSome with
    | true => k (.vals v) H
    | false => none) (vb (ih' d' e loc H) fun v H => match (itemsOf v H).isSome with
    | true => k' (.vals v) H
    | false => none) := fun e => vb_le (hi _ _ hd _ _ _) fun v H => tf_le (hk _ _)
  cases s with
  | sRng l =>
    refine vb_le (hi _ _ hd _ _ _) fun v H => ?_
    cases v with
    | tup vs =>
      rcases vs with _ | ⟨x, _ | ⟨y, r⟩⟩
      · exact Le.none _
      · cases x with
        | int n =>
          dsimp only
          by_cases q : 0 ≤ n ∧ n ≤ 60000
          · rw [if_pos q, if_pos q]; exact hk _ _
          · rw [if_neg q]; exact Le.none _
        | _ => exact Le.none _
      · cases x <;> exact Le.none _
    | _ => exact Le.none _
  | sZip l =>
    refine vb_le (hi _ _ hd _ _ _) fun v H => ?_
    cases v with
    | tup vs =>
      rcases vs with _ | ⟨x, _ | ⟨y, _ | ⟨z, r⟩⟩⟩
      · exact Le.none _
      · exact Le.none _
      · exact tf_le (hk _ _)
      · exact Le.none _
    | _ => exact Le.none _
  | _ => exact gen _
theorem step_le (hi : LeR ih ih') : LeR (runStep P ih) (runStep P ih') := by
  intro d d' hd c l H
  have h0 := hi d d' hd
  cases c with
  | seq a b => exact seq_le (h0 _ _ _) fun _ _ => h0 _ _ _
  | whl t b => exact vb_le (h0 _ _ _) fun v H => bool_le (body_le (h0 _ _ _) fun _ _ => h0 _ _ _) (Le.refl _)
  | comp t s cond elt => exact if_le (srcF_le hi hd _ _ _ fun S H => tup_le (h0 _ _ _) fun _ _ => Le.refl _)
  | comp2 t1 s1 t2 s2 elt => exact if_le (srcF_le hi hd _ _ _ fun S H => tup_le (h0 _ _ _) fun _ _ => Le.refl _)
  | comp2L t S k t2 s2 elt acc => exact sn_le fun _ => am_le fun _ => if_le (srcF_le hi hd _ _ _ fun _ _ => tup_le (h0 _ _ _) fun _ _ => h0 _ _ _)
  | compL t S k cond elt acc => exact sn_le fun _ => am_le fun _ => vb_le (h0 _ _ _) fun v H => bool_le (if_le (vb_le (h0 _ _ _) fun _ _ => h0 _ _ _)) (h0 _ _ _)
  | «for» t s b => exact srcF_le hi hd s l H fun S H => h0 (.forL t S 0 b) l H
  | forL t S k b => exact sn_le fun _ => am_le fun _ => body_le (h0 _ _ _) fun _ _ => h0 _ _ _
  | gc e0 => exact strict_le (F := gcF H.length l) rfl (h0 _ _ _)
  | callF f a => exact vb_le (h0 _ _ _) fun v H => args_le hi hd fun vs n n' h => callBody_le hi h _ _ _ _
  | callP f a => exact vb_le (h0 _ _ _) fun v H => args_le hi hd fun vs n n' h => tf_le (strict_le (F := callPF l H) rfl (callBody_le hi h _ _ _ _))
  | callL f a => exact vb_le (h0 _ _ _) fun v H => argL_le hi hd fun k n n' h => vs_le fun _ => tf_le (strict_le (F := callLF k l H) rfl (callBody_le hi h _ _ _ _))
  | callM e0 m a => exact vb_le (h0 _ _ _) fun v H => obj_le fun _ => inst_le fun _ _ => on_le fun _ => vb_le (h0 _ _ _) fun v H => args_le hi hd fun vs n n' h => callBody_le hi h _ _ _ _
  | new k a =>
    exact ct_le fun cc f => vb_le (h0 _ _ _) fun v H => args_le hi hd fun vs n n' h => strict_le (F := fun x => match x with
        | some (.val .none, _, H') => some (.val (.obj (H.length + 1)), l, H')
        | _ => none) rfl (callBody_le hi h _ _ _ _)
  | and a b => exact vb_le (h0 _ _ _) fun v H => bool_le (vb_le (h0 _ _ _) fun _ _ => Le.refl _) (Le.refl _)
  | or a b => exact vb_le (h0 _ _ _) fun v H => bool_le (Le.refl _) (vb_le (h0 _ _ _) fun _ _ => Le.refl _)
  | ite a b c => exact vb_le (h0 _ _ _) fun v H => bool_le (vb_le (h0 _ _ _) fun _ _ => Le.refl _) (vb_le (h0 _ _ _) fun _ _ => Le.refl _)
  | iff a b c => exact vb_le (h0 _ _ _) fun v H => bool_le (h0 _ _ _) (h0 _ _ _)
  | pm p e l => exact vb_le (h0 _ _ _) fun v H => tf_le (vb_le (h0 _ _ _) fun _ _ => Le.refl _)
  | cons a b => exact vb_le (h0 _ _ _) fun _ _ => vb_le (h0 _ _ _) fun _ _ => Le.refl _
  | op2 o a b => exact vb_le (h0 _ _ _) fun _ _ => vb_le (h0 _ _ _) fun _ _ => Le.refl _
  | _ =>
    first
      | exact Le.refl _
      | exact vb_le (h0 _ _ _) fun _ _ => Le.refl _
      | exact vb_le (h0 _ _ _) fun _ _ => vb_le (h0 _ _ _) fun _ _ => Le.refl _
      | exact vb_le (h0 _ _ _) fun _ _ => vb_le (h0 _ _ _) fun _ _ => vb_le (h0 _ _ _) fun _ _ => Le.refl _
end
theorem run_le (P : Pg) : ∀ n m, n ≤ m → LeR (run P n) (run P m)
  | 0, _, _ => fun _ _ _ _ _ _ => Le.none _
  | n + 1, 0, h => absurd h (Nat.not_succ_le_zero _)
  | n + 1, m + 1, h => step_le (run_le P n m (Nat.le_of_succ_le_succ h))
end Mine
end

section
set_option linter.unusedVariables false
open PySem PySem.W PyProof.Rows PySem.Calls
namespace Mine
noncomputable def EvE (d : Nat) (c : C) (loc : Loc) (H : AH) (v : AV) (H' : AH) : Prop := ∃ n l, run lawP n d c loc H = some (.val v, l, H')
noncomputable def EvS (d : Nat) (c : C) (loc : Loc) (H : AH) (r : Res) (loc' : Loc) (H' : AH) : Prop := ∃ n, run lawP n d c loc H = some (r, loc', H')
noncomputable def EvF (d f : Nat) (vs : List AV) (H : AH) (v : AV) (H' : AH) : Prop := ∃ n, ∀ l, callBody lawP (run lawP n) d f vs l H = some (.val v, l, H')
theorem up {n m d : Nat} {c : C} {loc : Loc} {H : AH} {o : Out} (h : run lawP n d c loc H = some o) (k : n ≤ m) : run lawP m d c loc H = some o := run_le lawP n m k d d (Nat.le_refl _) c loc H o h
theorem upB {n m d f : Nat} {vs : List AV} {l : Loc} {H : AH} {o : Out} (h : callBody lawP (run lawP n) d f vs l H = some o) (k : n ≤ m) : callBody lawP (run lawP m) d f vs l H = some o :=
  callBody_le (fun d d' hd c l H => run_le lawP n m k d d' hd c l H) (Nat.le_refl _) f vs l H o h
theorem EvF.deep {d d' f : Nat} {vs : List AV} {H : AH} {v : AV} {H' : AH} (h : EvF d f vs H v H') (k : d ≤ d') : EvF d' f vs H v H' := by
  obtain ⟨n, h⟩ := h
  exact ⟨n, fun l => callBody_le (fun d d' hd c l H => run_le lawP n n (Nat.le_refl _) d d' hd c l H) k f vs l H _ (h l)⟩
theorem EvF.of {n d f : Nat} {vs : List AV} {l l' : Loc} {H : AH} {v : AV} {H' : AH} (h : callBody lawP (run lawP n) d f vs l H = some (.val v, l', H')) : EvF d f vs H v H' := by
  obtain ⟨F, l0, z, e1, e2, e3, h⟩ := callBody_inv h
  exact ⟨n, fun l2 => callBody_of e1 e2 e3 (callK_loc h)⟩
section
variable {d : Nat} {loc loc' l1 : Loc} {H H1 H2 H3 H' : AH} {v x y w : AV} {vs ws : List AV} {a b c e l r t : C} {R : Res}
theorem vb_ev {x : Option Out} {v : AV} {l : Loc} {H : AH} {k : AV → AH → Option Out} {o : Option Out} (h : x = some (.val v, l, H)) (hk : k v H = o) : vb x k = o := by
  rw [h]; exact hk
theorem vb_val {v : AV} {l : Loc} {H : AH} {k : AV → AH → Option Out} : vb (some (.val v, l, H)) k = k v H := rfl
theorem EvE.lit : EvE d (.lit v) loc H v H := ⟨1, loc, rfl⟩
theorem EvE.var {i : Nat} (h : loc[i]? = some (some v)) : EvE d (.var i) loc H v H := ⟨1, loc, by dsimp only [run_succ, runStep]; rw [h]⟩
theorem EvE.nil : EvE d .nil loc H (.tup []) H := ⟨1, loc, rfl⟩
theorem EvE.cons (h1 : EvE d a loc H v H1) (h2 : EvE d r loc H1 (.tup vs) H2) : EvE d (.cons a r) loc H (.tup (v :: vs)) H2 := by
  obtain ⟨n1, l1, h1⟩ := h1; obtain ⟨n2, l2, h2⟩ := h2
  refine ⟨max n1 n2 + 1, loc, ?_⟩
  refine vb_ev (up h1 (Nat.le_max_left _ _)) ?_; refine vb_ev (up h2 (Nat.le_max_right _ _)) ?_
  first | rfl | skip
theorem EvE.tupE (h1 : EvE d l loc H (.tup vs) H1) : EvE d (.tupE l) loc H (.tup vs) H1 := by
  obtain ⟨n1, l1, h1⟩ := h1
  exact ⟨n1 + 1, loc, by refine vb_ev h1 ?_; rfl⟩
theorem EvE.listE (h1 : EvE d l loc H (.tup vs) H1) : EvE d (.listE l) loc H (.obj H1.length) (H1 ++ [.list vs]) := by
  obtain ⟨n1, l1, h1⟩ := h1
  exact ⟨n1 + 1, loc, by refine vb_ev h1 ?_; rfl⟩
theorem EvE.dictE : EvE d .dictE loc H (.obj H.length) (H ++ [.dict []]) := ⟨1, loc, rfl⟩
theorem EvE.fld {f : Str} {i dd : Nat} {cc : Addr} {fs : List (Str × AV)} (h1 : EvE d e loc H (.obj i) H1) (h2 : H1[i]? = some (.inst cc dd)) (h3 : H1[dd]? = some (.attrs fs)) (h4 : fs.lookup f = some v) : EvE d (.fld e f) loc H v H1 := by
  obtain ⟨n1, l1, h1⟩ := h1
  exact ⟨n1 + 1, loc, by refine vb_ev h1 ?_; (try dsimp only); rw [h2]; (try dsimp only); rw [h3]; (try dsimp only); rw [h4]⟩
theorem EvE.op1 {o : Op1} (h1 : EvE d a loc H x H1) : EvE d (.op1 o a) loc H (op1F o x) H1 := by
  obtain ⟨n1, l1, h1⟩ := h1
  exact ⟨n1 + 1, loc, by refine vb_ev h1 ?_; rfl⟩
theorem EvE.op2 {o : Op2} (h1 : EvE d a loc H x H1) (h2 : EvE d b loc H1 y H2) (h3 : op2F o x y H2 = some (v, H3)) : EvE d (.op2 o a b) loc H v H3 := by
  obtain ⟨n1, l1, h1⟩ := h1; obtain ⟨n2, l2, h2⟩ := h2
  refine ⟨max n1 n2 + 1, loc, ?_⟩
  refine vb_ev (up h1 (Nat.le_max_left _ _)) ?_; refine vb_ev (up h2 (Nat.le_max_right _ _)) ?_; (try dsimp only); rw [h3]
theorem EvE.and_t (h1 : EvE d a loc H (.bool true) H1) (h2 : EvE d b loc H1 y H2) : EvE d (.and a b) loc H y H2 := by
  obtain ⟨n1, l1, h1⟩ := h1; obtain ⟨n2, l2, h2⟩ := h2
  refine ⟨max n1 n2 + 1, loc, ?_⟩
  refine vb_ev (up h1 (Nat.le_max_left _ _)) ?_; (try dsimp only); rw [up h2 (Nat.le_max_right _ _), vb_val]
theorem EvE.and_f (h1 : EvE d a loc H (.bool false) H1) : EvE d (.and a b) loc H (.bool false) H1 := by
  obtain ⟨n1, l1, h1⟩ := h1
  exact ⟨n1 + 1, loc, by refine vb_ev h1 ?_; rfl⟩
theorem EvE.or_f (h1 : EvE d a loc H (.bool false) H1) (h2 : EvE d b loc H1 y H2) : EvE d (.or a b) loc H y H2 := by
  obtain ⟨n1, l1, h1⟩ := h1; obtain ⟨n2, l2, h2⟩ := h2
  refine ⟨max n1 n2 + 1, loc, ?_⟩
  refine vb_ev (up h1 (Nat.le_max_left _ _)) ?_; (try dsimp only); rw [up h2 (Nat.le_max_right _ _), vb_val]
theorem EvE.or_t (h1 : EvE d a loc H (.bool true) H1) : EvE d (.or a b) loc H (.bool true) H1 := by
  obtain ⟨n1, l1, h1⟩ := h1
  exact ⟨n1 + 1, loc, by refine vb_ev h1 ?_; rfl⟩
theorem EvE.not {z : Bool} (h1 : EvE d a loc H (.bool z) H1) : EvE d (.not a) loc H (.bool (!z)) H1 := by
  obtain ⟨n1, l1, h1⟩ := h1
  exact ⟨n1 + 1, loc, by refine vb_ev h1 ?_; rfl⟩
theorem EvE.ite {z : Bool} (h1 : EvE d t loc H (.bool z) H1) (h2 : EvE d (if z then a else b) loc H1 y H2) : EvE d (.ite t a b) loc H y H2 := by
  obtain ⟨n1, l1, h1⟩ := h1; obtain ⟨n2, l2, h2⟩ := h2
  refine ⟨max n1 n2 + 1, loc, ?_⟩
  refine vb_ev (up h1 (Nat.le_max_left _ _)) ?_
  first | rfl | skip
  have h2 := up h2 (Nat.le_max_right n1 n2)
  cases z with
  | true => dsimp only; rw [show run lawP (max n1 n2) d a loc H1 = _ from h2, vb_val]
  | false => dsimp only; rw [show run lawP (max n1 n2) d b loc H1 = _ from h2, vb_val]
theorem EvE.callF {f : Nat} (h1 : EvE (d + 1) l loc H (.tup vs) H1) (h2 : EvF d f vs H1 v H2) : EvE (d + 1) (.callF f l) loc H v H2 := by
  obtain ⟨n1, l1, h1⟩ := h1; obtain ⟨n2, h2⟩ := h2
  refine ⟨max n1 n2 + 1, loc, ?_⟩
  refine vb_ev (up h1 (Nat.le_max_left _ _)) ?_
  first | rfl | skip
  exact upB (h2 loc) (Nat.le_max_right _ _)
theorem EvE.callM {m : Str} {i dd f : Nat} {cc : Addr} (h0 : EvE (d + 1) e loc H (.obj i) H1) (hi : H1[i]? = some (.inst cc dd)) (hp : pickM H1 dd (lawP.mt cc m) m = some f) (h1 : EvE (d + 1) l loc H1 (.tup vs) H2) (h2 : EvF d f (.obj i :: vs) H2 v H3) : EvE (d + 1) (.callM e m l) loc H v H3 := by
  obtain ⟨n0, l0, h0⟩ := h0; obtain ⟨n1, l1, h1⟩ := h1; obtain ⟨n2, h2⟩ := h2
  refine ⟨max n0 (max n1 n2) + 1, loc, ?_⟩
  refine vb_ev (up h0 (Nat.le_max_left _ _)) ?_; (try dsimp only); rw [hi]; (try dsimp only); rw [hp]; dsimp only
  rw [up h1 (Nat.le_trans (Nat.le_max_left _ _) (Nat.le_max_right _ _)), vb_val]
  exact upB (h2 loc) (Nat.le_trans (Nat.le_max_right _ _) (Nat.le_max_right _ _))
theorem EvE.prim {p : Prim} (h1 : EvE d l loc H (.tup vs) H1) (h2 : primF p vs H1 = some (v, H2)) : EvE d (.prim p l) loc H v H2 := by
  obtain ⟨n1, l1, h1⟩ := h1
  exact ⟨n1 + 1, loc, by refine vb_ev h1 ?_; (try dsimp only); rw [h2]⟩
theorem EvE.pm {p : PM} (h0 : EvE d e loc H x H1) (ho : pmOk p x H1 = true) (h1 : EvE d l loc H1 (.tup vs) H2) (h2 : pmF p x vs H2 = some (v, H3)) : EvE d (.pm p e l) loc H v H3 := by
  obtain ⟨n0, l0, h0⟩ := h0; obtain ⟨n1, l1, h1⟩ := h1
  refine ⟨max n0 n1 + 1, loc, ?_⟩
  refine vb_ev (up h0 (Nat.le_max_left _ _)) ?_; (try dsimp only); rw [ho]; (try dsimp only); rw [up h1 (Nat.le_max_right _ _), vb_val]; (try dsimp only); rw [h2]
theorem EvE.gc (h1 : EvE d e loc H v H1) (hv : pureA 50 v = true) (hk : (H1.take H.length).all (lowO H.length) = true) : EvE d (.gc e) loc H v (H1.take H.length) := by
  obtain ⟨n1, l1, h1⟩ := h1
  exact ⟨n1 + 1, loc, by dsimp only [run_succ, runStep]; rw [h1]; unfold gcF; (try dsimp only); rw [hv, hk]; rfl⟩
theorem EvE.neN {n0 : Bool} {i : Nat} (h1 : EvE d e loc H (.obj i) H1) (h2 : H1[i]? = some (.list vs)) : EvE d (.neN n0 e) loc H (.bool (n0 != vs.isEmpty)) H1 := by
  obtain ⟨n1, l1, h1⟩ := h1
  exact ⟨n1 + 1, loc, by refine vb_ev h1 ?_; (try dsimp only); unfold listOfV; (try dsimp only); rw [h2]⟩
theorem EvE.callP {f : Nat} {Hx : AH} (h1 : EvE (d + 1) l loc H (.tup vs) H1) (hp : pureAs 50 vs = true) (h2 : EvF d f vs [] v Hx) (hv : flatA v = true) : EvE (d + 1) (.callP f l) loc H v H1 := by
  obtain ⟨n1, l1, h1⟩ := h1; obtain ⟨n2, h2⟩ := h2
  refine ⟨max n1 n2 + 1, loc, ?_⟩
  refine vb_ev (up h1 (Nat.le_max_left _ _)) ?_; (try dsimp only); rw [hp]; dsimp only
  rw [upB (h2 loc) (Nat.le_max_right _ _)]; unfold callPF; (try dsimp only); rw [hv]; rfl
theorem EvE.callL {f k : Nat} {H0 : AH} (h1 : EvE (d + 1) l loc H (.tup [.obj k]) H1) (hk : H1[k]? = some (.list vs)) (hp : vs.all flatA = true) (h2 : EvF d f [.obj 0] [.list vs] v H0) (h3 : H0[0]? = some (.list ws)) (hv : flatA v = true) (hw : ws.all flatA = true) :
    EvE (d + 1) (.callL f l) loc H v (H1.set k (.list ws)) := by
  obtain ⟨n1, l1, h1⟩ := h1; obtain ⟨n2, h2⟩ := h2
  refine ⟨max n1 n2 + 1, loc, ?_⟩
  refine vb_ev (up h1 (Nat.le_max_left _ _)) ?_; dsimp only
  have e1 : listOfV (.obj k) H1 = some vs := by unfold listOfV; (try dsimp only); rw [hk]
  rw [e1]; (try dsimp only); rw [hp]; dsimp only
  rw [upB (h2 loc) (Nat.le_max_right _ _)]; unfold callLF; dsimp only
  have e2 : listOfV (.obj 0) H0 = some ws := by unfold listOfV; (try dsimp only); rw [h3]
  rw [e2]; (try dsimp only); rw [hv, hw]; rfl
theorem EvS.skip : EvS d .skip loc H .next loc H := ⟨1, rfl⟩
theorem EvS.seq (h1 : EvS d a loc H .next l1 H1) (h2 : EvS d b l1 H1 R loc' H') : EvS d (.seq a b) loc H R loc' H' := by
  obtain ⟨n1, h1⟩ := h1; obtain ⟨n2, h2⟩ := h2
  refine ⟨max n1 n2 + 1, ?_⟩
  dsimp only [run_succ, runStep]
  rw [up h1 (Nat.le_max_left _ _)]
  exact up h2 (Nat.le_max_right _ _)
theorem EvS.seq_ret (h1 : EvS d a loc H (.ret v) l1 H1) : EvS d (.seq a b) loc H (.ret v) l1 H1 := by
  obtain ⟨n1, h1⟩ := h1
  exact ⟨n1 + 1, by dsimp only [run_succ, runStep]; rw [h1]⟩
theorem EvS.expr (h1 : EvE d e loc H v H1) (hv : flatA v = true) : EvS d (.expr e) loc H .next loc H1 := by
  obtain ⟨n1, l1, h1⟩ := h1
  refine ⟨n1 + 1, ?_⟩
  refine vb_ev h1 ?_
  first | rfl | skip
  cases v <;> first | rfl | cases hv
theorem EvS.asg (h1 : EvE d e loc H v H1) (h2 : asgV t v loc = some loc') : EvS d (.asg t e) loc H .next loc' H1 := by
  obtain ⟨n1, l1, h1⟩ := h1
  exact ⟨n1 + 1, by refine vb_ev h1 ?_; (try dsimp only); rw [h2]⟩
theorem EvS.asgL {i : Nat} (h1 : EvE d e loc H (.obj i) H1) (h2 : H1[i]? = some (.list vs)) (h3 : asgV t (.tup vs) loc = some loc') : EvS d (.asgL t e) loc H .next loc' H1 := by
  obtain ⟨n1, l1, h1⟩ := h1
  exact ⟨n1 + 1, by refine vb_ev h1 ?_; (try dsimp only); rw [h2]; (try dsimp only); rw [h3]⟩
theorem EvS.setI (h1 : EvE d e loc H v H1) (h2 : EvE d a loc H1 x H2) (h3 : EvE d b loc H2 y H3) (h4 : setItemA x y v H3 = some H') : EvS d (.setI a b e) loc H .next loc H' := by
  obtain ⟨n1, l1, h1⟩ := h1; obtain ⟨n2, l2, h2⟩ := h2; obtain ⟨n3, l3, h3⟩ := h3
  refine ⟨max n1 (max n2 n3) + 1, ?_⟩
  refine vb_ev (up h1 (Nat.le_max_left _ _)) ?_; refine vb_ev (up h2 (Nat.le_trans (Nat.le_max_left _ _) (Nat.le_max_right _ _))) ?_; refine vb_ev (up h3 (Nat.le_trans (Nat.le_max_right _ _) (Nat.le_max_right _ _))) ?_; (try dsimp only); rw [h4]
theorem EvS.ret (h1 : EvE d e loc H v H1) : EvS d (.ret e) loc H (.ret v) loc H1 := by
  obtain ⟨n1, l1, h1⟩ := h1
  exact ⟨n1 + 1, by refine vb_ev h1 ?_; rfl⟩
theorem EvS.iff {z : Bool} (h1 : EvE d t loc H (.bool z) H1) (h2 : EvS d (if z then a else b) loc H1 R loc' H') : EvS d (.iff t a b) loc H R loc' H' := by
  obtain ⟨n1, l1, h1⟩ := h1; obtain ⟨n2, h2⟩ := h2
  refine ⟨max n1 n2 + 1, ?_⟩
  refine vb_ev (up h1 (Nat.le_max_left _ _)) ?_
  first | rfl | skip
  have h2 := up h2 (Nat.le_max_right n1 n2)
  cases z with
  | true => exact h2
  | false => exact h2
theorem EvS.whl_f (h1 : EvE d t loc H (.bool false) H1) : EvS d (.whl t b) loc H .next loc H1 := by
  obtain ⟨n1, l1, h1⟩ := h1
  exact ⟨n1 + 1, by refine vb_ev h1 ?_; rfl⟩
theorem EvS.whl_t (h1 : EvE d t loc H (.bool true) H1) (h2 : EvS d b loc H1 .next l1 H2) (h3 : EvS d (.whl t b) l1 H2 R loc' H') : EvS d (.whl t b) loc H R loc' H' := by
  obtain ⟨n1, l1, h1⟩ := h1; obtain ⟨n2, h2⟩ := h2; obtain ⟨n3, h3⟩ := h3
  refine ⟨max n1 (max n2 n3) + 1, ?_⟩
  refine vb_ev (up h1 (Nat.le_max_left _ _)) ?_; (try dsimp only); rw [up h2 (Nat.le_trans (Nat.le_max_left _ _) (Nat.le_max_right _ _))]
  exact up h3 (Nat.le_trans (Nat.le_max_right _ _) (Nat.le_max_right _ _))
theorem EvS.whl_ret (h1 : EvE d t loc H (.bool true) H1) (h2 : EvS d b loc H1 (.ret v) l1 H2) : EvS d (.whl t b) loc H (.ret v) l1 H2 := by
  obtain ⟨n1, l1, h1⟩ := h1; obtain ⟨n2, h2⟩ := h2
  refine ⟨max n1 n2 + 1, ?_⟩
  refine vb_ev (up h1 (Nat.le_max_left _ _)) ?_; (try dsimp only); rw [up h2 (Nat.le_max_right _ _)]
theorem EvS.for_rng {k : Int} (h1 : EvE d e loc H (.tup [.int k]) H1) (h0 : 0 ≤ k ∧ k ≤ 60000) (h2 : EvS d (.forL t (.rng k) 0 b) loc H1 R loc' H') : EvS d (.for t (.sRng e) b) loc H R loc' H' := by
  obtain ⟨n1, l1, h1⟩ := h1; obtain ⟨n2, h2⟩ := h2
  refine ⟨max n1 n2 + 1, ?_⟩
  dsimp only [run_succ, runStep, srcF]
  rw [up h1 (Nat.le_max_left _ _), vb_val]; (try dsimp only); rw [if_pos h0]
  exact up h2 (Nat.le_max_right _ _)
theorem EvS.for_var {i j : Nat} (h1 : loc[i]? = some (some (.obj j))) (hj : H[j]? = some (.list vs)) (h2 : EvS d (.forL t (.vals (.obj j)) 0 b) loc H R loc' H') : EvS d (.for t (.var i) b) loc H R loc' H' := by
  obtain ⟨n2, h2⟩ := h2
  refine ⟨n2 + 1 + 1, ?_⟩
  have e1 : run lawP (n2 + 1) d (.var i) loc H = some (.val (.obj j), loc, H) := by dsimp only [run_succ, runStep]; rw [h1]
  refine vb_ev e1 ?_
  dsimp only
  have e2 : (itemsOf (.obj j) H).isSome = true := by unfold itemsOf; (try dsimp only); rw [hj]; rfl
  rw [e2]
  exact up h2 (Nat.le_succ _)
theorem EvS.forL_end {S : Src} {k : Nat} (h : srcNext S k H = some none) : EvS d (.forL t S k b) loc H .next loc H := ⟨1, by dsimp only [run_succ, runStep]; rw [h]⟩
theorem EvS.forL_next {S : Src} {k : Nat} (h : srcNext S k H = some (some v)) (ha : asgV t v loc = some l1) {l2 : Loc} (h2 : EvS d b l1 H .next l2 H1) (h3 : EvS d (.forL t S (k + 1) b) l2 H1 R loc' H') : EvS d (.forL t S k b) loc H R loc' H' := by
  obtain ⟨n2, h2⟩ := h2; obtain ⟨n3, h3⟩ := h3
  refine ⟨max n2 n3 + 1, ?_⟩
  dsimp only [run_succ, runStep]; rw [h]; (try dsimp only); rw [ha]; (try dsimp only); rw [up h2 (Nat.le_max_left _ _)]
  exact up h3 (Nat.le_max_right _ _)
theorem EvF.of_ret {f : Nat} {F : FC} {l0 : Loc} (hF : lawP.fc f = some F) (hb : bindA F vs = some l0) (h : EvS d F.body l0 H (.ret v) loc' H') : EvF d f vs H v H' := by
  obtain ⟨n, h⟩ := h
  refine ⟨n, fun l => ?_⟩
  unfold callBody
  rw [hF]; (try dsimp only); rw [hb]; (try dsimp only); rw [h]
theorem EvF.of_next {f : Nat} {F : FC} {l0 : Loc} (hF : lawP.fc f = some F) (hb : bindA F vs = some l0) (h : EvS d F.body l0 H .next loc' H') : EvF d f vs H .none H' := by
  obtain ⟨n, h⟩ := h
  refine ⟨n, fun l => ?_⟩
  unfold callBody
  rw [hF]; (try dsimp only); rw [hb]; (try dsimp only); rw [h]
theorem EvE.comp_rng {k : Int} {t cond elt : C} {H0 : AH} (hf : slotsFree t loc = true) (h1 : EvE d e loc H (.tup [.int k]) H1) (h0 : 0 ≤ k ∧ k ≤ 60000) (h2 : EvE d (.compL t (.rng k) 0 cond elt []) loc H1 (.tup vs) H2) : EvE d (.comp t (.sRng e) cond elt) loc H (.obj H2.length) (H2 ++ [.list vs]) := by
  obtain ⟨n1, l1, h1⟩ := h1; obtain ⟨n2, l2, h2⟩ := h2
  refine ⟨max n1 n2 + 1, loc, ?_⟩
  dsimp only [run_succ, runStep, srcF]; rw [hf]
  simp only [Bool.not_true, Bool.false_eq_true, if_false]
  rw [up h1 (Nat.le_max_left _ _), vb_val]; (try dsimp only); rw [if_pos h0, up h2 (Nat.le_max_right _ _)]
theorem EvE.comp_vals {t cond elt s : C} (hs : ∀ (ih : RunT) (d : Nat) (loc : Loc) (H : AH) (k : Src → AH → Option Out), srcF ih d s loc H k = vb (ih d s loc H) fun v H => match (itemsOf v H).isSome with
    | true => k (.vals v) H
    | false => none) (hf : slotsFree t loc = true) (h1 : EvE d s loc H x H1) (h0 : (itemsOf x H1).isSome = true) (h2 : EvE d (.compL t (.vals x) 0 cond elt []) loc H1 (.tup vs) H2) : EvE d (.comp t s cond elt) loc H (.obj H2.length) (H2 ++ [.list vs]) := by
  obtain ⟨n1, l1, h1⟩ := h1; obtain ⟨n2, l2, h2⟩ := h2
  refine ⟨max n1 n2 + 1, loc, ?_⟩
  dsimp only [run_succ, runStep]; rw [hf]
  simp only [Bool.not_true, Bool.false_eq_true, if_false]
  rw [hs, up h1 (Nat.le_max_left _ _), vb_val, h0]
  dsimp only
  rw [up h2 (Nat.le_max_right _ _)]
theorem EvE.compL_end {S : Src} {k : Nat} {cond elt : C} {acc : List AV} (h : srcNext S k H = some none) : EvE d (.compL t S k cond elt acc) loc H (.tup acc) H := ⟨1, loc, by dsimp only [run_succ, runStep]; rw [h]⟩
theorem EvE.compL_t {S : Src} {k : Nat} {cond elt : C} {acc : List AV} (h : srcNext S k H = some (some v)) (ha : asgV t v loc = some l1) (hc : EvE d cond l1 H (.bool true) H1) (hz : acc.length ≤ 60000) (he : EvE d elt l1 H1 x H2) (hn : EvE d (.compL t S (k + 1) cond elt (acc ++ [x])) loc H2 (.tup vs) H3) :
    EvE d (.compL t S k cond elt acc) loc H (.tup vs) H3 := by
  obtain ⟨n1, k1, hc⟩ := hc; obtain ⟨n2, k2, he⟩ := he; obtain ⟨n3, k3, hn⟩ := hn
  refine ⟨max n1 (max n2 n3) + 1, k3, ?_⟩
  dsimp only [run_succ, runStep]; rw [h]; (try dsimp only); rw [ha]; dsimp only
  rw [up hc (Nat.le_max_left _ _), vb_val]; (try dsimp only); rw [if_neg (by omega), up he (Nat.le_trans (Nat.le_max_left _ _) (Nat.le_max_right _ _)), vb_val]
  exact up hn (Nat.le_trans (Nat.le_max_right _ _) (Nat.le_max_right _ _))
theorem EvE.compL_f {S : Src} {k : Nat} {cond elt : C} {acc : List AV} (h : srcNext S k H = some (some v)) (ha : asgV t v loc = some l1) (hc : EvE d cond l1 H (.bool false) H1) (hn : EvE d (.compL t S (k + 1) cond elt acc) loc H1 (.tup vs) H3) :
    EvE d (.compL t S k cond elt acc) loc H (.tup vs) H3 := by
  obtain ⟨n1, k1, hc⟩ := hc; obtain ⟨n3, k3, hn⟩ := hn
  refine ⟨max n1 n3 + 1, k3, ?_⟩
  dsimp only [run_succ, runStep]; rw [h]; (try dsimp only); rw [ha]; dsimp only
  rw [up hc (Nat.le_max_left _ _), vb_val]
  exact up hn (Nat.le_max_right _ _)
end
end Mine
end

section
set_option linter.unusedVariables false
open PySem PySem.W PyProof.Rows PySem.Calls
namespace Mine
theorem idxL {H : AH} {k : Nat} {vs : List AV} {i : Int} {v : AV} (h : H[k]? = some (.list vs)) (hi : 0 ≤ i ∧ i < 60000) (hv : vs[i.toNat]? = some v) : op2F .idx (.obj k) (.int i) H = some (v, H) := by
  unfold op2F; dsimp only; rw [h]; dsimp only; rw [if_pos hi, hv]; rfl
theorem idxF {H : AH} {k : Nat} {vs : List AV} {i : Int} {v : AV} (h : H[k]? = some (.frz vs)) (hi : 0 ≤ i ∧ i < 60000) (hv : vs[i.toNat]? = some v) : op2F .idx (.obj k) (.int i) H = some (v, H) := by
  unfold op2F; dsimp only; rw [h]; dsimp only; rw [if_pos hi, hv]; rfl
theorem idxT {H : AH} {vs : List AV} {i : Int} {v : AV} (hi : 0 ≤ i ∧ i < 60000) (hv : vs[i.toNat]? = some v) : op2F .idx (.tup vs) (.int i) H = some (v, H) := by
  unfold op2F; dsimp only; rw [if_pos hi, hv]; rfl
theorem setL {H : AH} {k : Nat} {vs : List AV} {j : Int} {v : AV} (h : H[k]? = some (.list vs)) (hj : 0 ≤ j ∧ j < (vs.length : Int) ∧ j < 60000) : setItemA (.obj k) (.int j) v H = some (H.set k (.list (vs.set j.toNat v))) := by
  unfold setItemA; dsimp only; rw [h]; dsimp only; rw [if_pos hj]
theorem get_self {H : AH} {k : Nat} {o o' : AO} (h : H[k]? = some o) : (H.set k o')[k]? = some o' := List.getElem?_set_self (List.getElem?_eq_some_iff.mp h).1
noncomputable def PoolOk (o : AO) : Prop := ∃ a b : Int, o = .list [.int a, .int b] ∧ 0 ≤ a ∧ 0 ≤ b
theorem int_prim {d : Nat} {e : C} {loc : Loc} {H H1 : AH} {i : Int} (h : EvE d e loc H (.int i) H1) : EvE d (.prim .int (.cons e .nil)) loc H (.int i) H1 :=
  EvE.prim (EvE.cons h EvE.nil) rfl
theorem modI {H : AH} {x y : Int} (h : y ≠ 0) : op2F .mod (.int x) (.int y) H = some (.int (Int.fmod x y), H) := by
  unfold op2F; dsimp only; rw [if_neg h]
theorem fdivI {H : AH} {x y : Int} (h : y ≠ 0) (h2 : y.natAbs < 1073741824) : op2F .fdiv (.int x) (.int y) H = some (.int (Int.fdiv x y), H) := by
  unfold op2F; dsimp only; rw [if_neg h, if_pos h2]
theorem mulI {H : AH} {x y : Int} (h : y.natAbs < 18446744073709551616) : op2F .mul (.int x) (.int y) H = some (.int (x * y), H) := by
  unfold op2F; dsimp only; rw [if_pos h]
theorem take_ok {d k : Nat} {H : AH} {o : AO} {top : Int} (h : H[k]? = some o) (p : PoolOk o) (ht : 0 < top) (ht2 : top < 1000000) :
    ∃ (r : Int) (o' : AO), 0 ≤ r ∧ r < top ∧ PoolOk o' ∧ EvF d 21 [.obj k, .int top] H (.int r) (H.set k o') := by
  obtain ⟨a, b, rfl, ha, hb⟩ := p
  have t0 : top ≠ 0 := by omega
  by_cases q : 0 < a
  · refine ⟨Int.fmod a top, .list [.int (Int.fdiv a top), .int b], Int.fmod_nonneg ha (by omega), Int.fmod_lt_of_pos _ ht, ⟨_, _, rfl, ?_, hb⟩, ?_⟩
    · rw [Int.fdiv_eq_ediv_of_nonneg _ (by omega)]; exact Int.ediv_nonneg ha (by omega)
    refine EvF.of_ret (F := f_law_take) (l0 := [some (.obj k), some (.int top), none]) rfl rfl (loc' := [some (.obj k), some (.int top), some (.int (Int.fmod a top))]) ?_
    refine EvS.seq_ret (EvS.iff (z := true) (H1 := H) (EvE.op2 (EvE.op2 (EvE.var rfl) EvE.lit (idxL h (by decide) rfl)) EvE.lit ?_) ?_)
    · show some (AV.bool (decide (0 < a)), H) = _
      rw [decide_eq_true q]
    · rw [if_pos rfl]
      refine EvS.seq (EvS.asg (EvE.op2 (int_prim (EvE.op2 (EvE.var rfl) EvE.lit (idxL h (by decide) rfl))) (EvE.var rfl) (modI t0)) rfl) ?_
      refine EvS.seq (EvS.setI (EvE.op2 (EvE.op2 (EvE.var rfl) EvE.lit (idxL h (by decide) rfl)) (EvE.var rfl) (fdivI t0 (by omega))) (EvE.var rfl) EvE.lit (setL h ⟨by decide, (show (0 : Int) < 2 by decide), by decide⟩)) ?_
      exact EvS.seq_ret (EvS.ret (EvE.var rfl))
  · generalize hb1 : Int.fmod (b * 39373 + 7) 2147483647 = b1
    have hb2 : 0 ≤ b1 := by rw [← hb1]; exact Int.fmod_nonneg (by omega) (by omega)
    have hb3 : b1 < 2147483647 := by rw [← hb1]; exact Int.fmod_lt_of_pos _ (by omega)
    generalize hx : Int.fdiv (Int.fmod (b1 * b1) 2147483629) 32 = x
    refine ⟨Int.fmod x top, .list [.int a, .int b1], ?_, Int.fmod_lt_of_pos _ ht, ⟨_, _, rfl, ha, hb2⟩, ?_⟩
    · refine Int.fmod_nonneg ?_ (by omega)
      rw [← hx, Int.fdiv_eq_ediv_of_nonneg _ (by omega)]
      exact Int.ediv_nonneg (Int.fmod_nonneg (Int.mul_nonneg hb2 hb2) (by omega)) (by omega)
    refine EvF.of_ret (F := f_law_take) (l0 := [some (.obj k), some (.int top), none]) rfl rfl (loc' := [some (.obj k), some (.int top), none]) ?_
    refine EvS.seq (EvS.iff (z := false) (H1 := H) (EvE.op2 (EvE.op2 (EvE.var rfl) EvE.lit (idxL h (by decide) rfl)) EvE.lit ?_) EvS.skip) ?_
    · show some (AV.bool (decide (0 < a)), H) = _
      rw [decide_eq_false q]
    refine EvS.seq (EvS.setI (H' := H.set k (.list [.int a, .int b1])) (EvE.op2 (int_prim (EvE.op2 (EvE.op2 (EvE.op2 (EvE.var rfl) EvE.lit (idxL h (by decide) rfl)) EvE.lit (mulI (by decide))) EvE.lit rfl)) EvE.lit (modI (by decide))) (EvE.var rfl) EvE.lit ?_) ?_
    · rw [hb1]; exact setL h ⟨by decide, (show (1 : Int) < 2 by decide), by decide⟩
    have h' : (H.set k (.list [.int a, .int b1]))[k]? = some (.list [.int a, .int b1]) := get_self h
    refine EvS.seq_ret (EvS.ret (EvE.op2 (EvE.op2 (EvE.op2 (int_prim (EvE.op2 (EvE.op2 (EvE.var rfl) EvE.lit (idxL h' (by decide) rfl)) (EvE.op2 (EvE.var rfl) EvE.lit (idxL h' (by decide) rfl)) (mulI (by omega)))) EvE.lit (modI (by decide))) EvE.lit (fdivI (by decide) (by decide))) (EvE.var rfl) ?_))
    rw [hx]; exact modI t0
theorem one_ok {d k j : Nat} {H : AH} {o : AO} {vs : List AV} (h : H[k]? = some o) (p : PoolOk o) (hj : H[j]? = some (.list vs)) (jk : k ≠ j) (hv : vs ≠ []) (hl : vs.length ≤ 1000) :
    ∃ (r : Nat) (v : AV) (o' : AO), vs[r]? = some v ∧ PoolOk o' ∧ EvF (d + 1) 22 [.obj k, .obj j] H v (H.set k o') := by
  have hp : 0 < vs.length := List.length_pos_iff.mpr hv
  obtain ⟨r, o', r0, r1, p', e⟩ := take_ok (d := d) (top := (vs.length : Int)) h p (by omega) (by omega)
  obtain ⟨r, rfl⟩ := Int.eq_ofNat_of_zero_le r0
  have hr : r < vs.length := by omega
  refine ⟨r, vs[r], o', List.getElem?_eq_getElem hr, p', ?_⟩
  refine EvF.of_ret (F := f_law_one) (l0 := [some (.obj k), some (.obj j)]) rfl rfl (loc' := [some (.obj k), some (.obj j)]) (EvS.seq_ret (EvS.ret (EvE.op2 (EvE.var rfl) (EvE.callF (EvE.cons (EvE.var rfl) (EvE.cons (EvE.prim (EvE.cons (EvE.var rfl) EvE.nil) (v := .int (vs.length : Int)) (H2 := H) ?_) EvE.nil)) e) ?_)))
  · show lenF [.obj j] H = _
    unfold lenF; dsimp only; rw [hj]; dsimp only; rw [if_pos (by omega)]
  · refine idxL (vs := vs) ?_ ⟨r0, by omega⟩ (List.getElem?_eq_getElem hr)
    rw [List.getElem?_set_ne jk]; exact hj
theorem pool_ok {d : Nat} {H : AH} (ns : List Int) (h : H[0]? = some (.frz (ns.map .int))) (hn : ns.length ≤ 63) : ∃ o, PoolOk o ∧ EvF d 20 [.obj 0] H (.obj H.length) (H ++ [o]) := by
  have main : ∀ cell : Int, EvE d (.ite (.op2 .gt (.prim .len (.cons (.var 0) .nil)) (.lit (.int 0))) (.op2 .idx (.var 0) (.lit (.int 0))) (.lit (.int 0))) [some (.obj 0), none, none] H (.int cell) H → ∃ o, PoolOk o ∧ EvF d 20 [.obj 0] H (.obj H.length) (H ++ [o]) := by
    intro cell e
    generalize hm : (if cell < -1 - cell then -1 - cell else cell) = m
    have hm0 : 0 ≤ m := by rw [← hm]; split <;> omega
    have b01 : ∀ z : Bool, (0 : Int) ≤ (if z = true then 1 else 0) ∧ ((if z = true then 1 else 0 : Int)).natAbs < 18446744073709551616 := by decide
    refine ⟨.list [.int (m * (if decide ((1000000000000000000 : Int) ≤ m) = true then 1 else 0)), .int (Int.fmod ((Int.fmod m 2147483629 + 17) * 48271) 2147483647)], ⟨_, _, rfl, Int.mul_nonneg hm0 (b01 _).1, ?_⟩, ?_⟩
    · exact Int.fmod_nonneg (Int.mul_nonneg (Int.add_nonneg (Int.fmod_nonneg hm0 (by omega)) (by omega)) (by omega)) (by omega)
    refine EvF.of_ret (F := f_law_pool) (l0 := [some (.obj 0), none, none]) rfl rfl (loc' := [some (.obj 0), some (.int cell), some (.int m)]) ?_
    refine EvS.seq (EvS.asg e rfl) ?_
    refine EvS.seq (EvS.asg (v := .int m) (H1 := H) (EvE.prim (EvE.cons (int_prim (EvE.var rfl)) (EvE.cons (int_prim (EvE.op2 EvE.lit (EvE.var rfl) rfl)) EvE.nil)) ?_) rfl) ?_
    · show some (AV.int (if cell < -1 - cell then -1 - cell else cell), H) = _
      rw [hm]
    refine EvS.seq_ret (EvS.ret (EvE.listE (EvE.cons (EvE.op2 (EvE.var rfl) (EvE.prim (EvE.cons (EvE.op2 (EvE.var rfl) EvE.lit rfl) EvE.nil) rfl) (mulI (b01 _).2)) (EvE.cons (EvE.op2 (int_prim (EvE.op2 (EvE.op2 (EvE.op2 (EvE.var rfl) EvE.lit (modI (by decide))) EvE.lit rfl) EvE.lit (mulI (by decide)))) EvE.lit (modI (by decide))) EvE.nil))))
  have hlen : ∀ n : Nat, ns.length = n → EvE d (.prim .len (.cons (.var 0) .nil)) [some (.obj 0), none, none] H (.int n) H := fun n e => by
    refine EvE.prim (EvE.cons (EvE.var rfl) EvE.nil) ?_
    show lenF [.obj 0] H = _
    unfold lenF; dsimp only; rw [h]; dsimp only; rw [List.length_map, if_pos (by omega), e]
  cases ns with
  | nil =>
    refine main 0 (EvE.ite (z := false) (H1 := H) (EvE.op2 (hlen 0 rfl) EvE.lit rfl) EvE.lit)
  | cons x xs =>
    refine main x (EvE.ite (z := true) (H1 := H) (EvE.op2 (hlen (xs.length + 1) rfl) EvE.lit ?_) (EvE.op2 (EvE.var rfl) EvE.lit (idxF h (by decide) rfl)))
    show some (AV.bool (decide ((0 : Int) < ((xs.length + 1 : Nat) : Int))), H) = _
    rw [decide_eq_true (by omega)]
end Mine
end

section
set_option linter.unusedVariables false
open PySem PySem.W PyProof.Rows PySem.Calls
namespace Mine
inductive Ty where
  | v (i : Nat)
  | bool
  | u8
  | box (i : Nat)
  | pr (i : Nat)
  | ref (i : Nat)
  | adt (i : Nat)
  | tr (a b : Nat)
noncomputable def vv (i : Nat) : AV := .tup [.str (Str.ofString "var"), .int (i : Nat)]
noncomputable def bb : AV := .tup [.str (Str.ofString "bool")]
noncomputable def Ty.av : Ty → AV
  | .v i => vv i
  | .bool => bb
  | .u8 => .tup [.str (Str.ofString "int"), .str (Str.ofString "u8")]
  | .box i => .tup [.str (Str.ofString "box"), vv i]
  | .pr i => .tup [.str (Str.ofString "tuple"), .tup [bb, vv i]]
  | .ref i => .tup [.str (Str.ofString "ref"), .str (Str.ofString "'a"), .bool true, vv i]
  | .adt i => .tup [.str (Str.ofString "adt"), .str (Str.ofString "S"), .tup [], .tup [vv i, bb]]
  | .tr a b => .tup [.str (Str.ofString "tuple"), .tup [vv a, .tup [.str (Str.ofString "box"), vv b], bb]]
noncomputable def Ty.parts : Ty → List Ty
  | .v _ => []
  | .bool => []
  | .u8 => []
  | .box i => [.v i]
  | .pr i => [.bool, .v i]
  | .ref i => [.v i]
  | .adt i => [.v i, .bool]
  | .tr a b => [.v a, .box b, .bool]
noncomputable def Ty.vs : Ty → List Nat
  | .v i => [i]
  | .bool => []
  | .u8 => []
  | .box i => [i]
  | .pr i => [i]
  | .ref i => [i]
  | .adt i => [i]
  | .tr a b => [a, b]
noncomputable def Ty.isV : Ty → Bool
  | .v _ => true
  | _ => false
noncomputable def Ty.hd : Ty → Str
  | .v _ => Str.ofString "var"
  | .bool => Str.ofString "bool"
  | .u8 => Str.ofString "int"
  | .box _ => Str.ofString "box"
  | .pr _ => Str.ofString "tuple"
  | .ref _ => Str.ofString "ref"
  | .adt _ => Str.ofString "adt"
  | .tr _ _ => Str.ofString "tuple"
theorem parts_ok {d : Nat} {H : AH} (t : Ty) : EvF d 0 [t.av] H (.tup (t.parts.map Ty.av)) H := by
  refine EvF.of (n := 30) (l := []) (l' := []) ?_
  cases t <;> kernel_rfl
theorem lparts_ok {d : Nat} {H : AH} (t : Ty) : EvF d 25 [t.av] H (.tup (t.parts.map Ty.av)) H := by
  refine EvF.of (n := 30) (l := []) (l' := []) ?_
  cases t <;> kernel_rfl
noncomputable abbrev As := List (Nat × Ty)
noncomputable def kv (L : As) (i : Nat) : AV := match L.lookup i with
  | none => .none
  | some t => t.av
noncomputable def KL (n : Nat) (L : As) : List AV := (List.range n).map (kv L)
theorem KL_len {n : Nat} {L : As} : (KL n L).length = n := by unfold KL; rw [List.length_map, List.length_range]
theorem KL_get {n i : Nat} {K : As} (h : i < n) : (KL n K)[i]? = some (kv K i) := by
  unfold KL
  rw [List.getElem?_map, List.getElem?_range h]; rfl
inductive Ch (K : As) : Ty → Ty → Prop
  | step {i : Nat} {t t' : Ty} : K.lookup i = some t → Ch K t t' → Ch K (.v i) t'
  | free {i : Nat} : K.lookup i = none → Ch K (.v i) (.v i)
  | stop {t : Ty} : t.isV = false → Ch K t t
noncomputable def Ty.bd (n : Nat) (t : Ty) : Prop := ∀ j ∈ t.vs, j < n
noncomputable def KB (n : Nat) (K : As) : Prop := ∀ i t, K.lookup i = some t → i < n ∧ ∀ j ∈ t.vs, i < j ∧ j < n
structure HK (n : Nat) (K : As) (H : AH) : Prop where
  i2 : ∃ c, H[2]? = some (.inst c 1) ∧ lawP.mt c (Str.ofString "shallow") = some 4 ∧ lawP.mt c (Str.ofString "occurs") = some 5 ∧ lawP.mt c (Str.ofString "bind") = some 6
  i1 : ∃ fs, H[1]? = some (.attrs fs) ∧ fs.lookup (Str.ofString "known") = some (.obj 4) ∧ fs.lookup (Str.ofString "shallow") = none ∧ fs.lookup (Str.ofString "occurs") = none ∧ fs.lookup (Str.ofString "bind") = none
  i4 : H[4]? = some (.list (KL n K))
theorem av_idx0 (t : Ty) (H : AH) : op2F .idx t.av (.int 0) H = some (.str t.hd, H) := by
  cases t <;> exact idxT (by decide) rfl
theorem v_idx1 (i : Nat) (H : AH) : op2F .idx (Ty.v i).av (.int 1) H = some (.int (i : Nat), H) := idxT (by decide) rfl
theorem in_vars (t : Ty) (H : AH) : op2F .isIn (.str t.hd) (.tup [.str (Str.ofString "var"), .str (Str.ofString "intvar")]) H = some (.bool t.isV, H) := by
  cases t <;> kernel_rfl
theorem known_at {d n : Nat} {K : As} {H : AH} {loc : Loc} (hk : HK n K H) {e : C} {i : Nat} (h0 : loc[0]? = some (some (.obj 2))) (he : EvE d e loc H (.int (i : Nat)) H) (hi : i < n) (hn : n ≤ 6) : EvE d (.op2 .idx (.fld (.var 0) (Str.ofString "known")) e) loc H (kv K i) H := by
  obtain ⟨fs, e1, e2, _⟩ := hk.i1
  obtain ⟨c, e3, _⟩ := hk.i2
  exact EvE.op2 (EvE.fld (EvE.var h0) e3 e1 e2) he (idxL hk.i4 ⟨by simp, by omega⟩ (by rw [Int.toNat_natCast]; exact KL_get hi))
theorem av_notNone (t : Ty) : op1F .notNone t.av = .bool true := by cases t <;> rfl
theorem KB.bd {n i : Nat} {K : As} {t : Ty} (kb : KB n K) (e : K.lookup i = some t) : t.bd n := fun j hj => ((kb i t e).2 j hj).2
theorem Ch.bd {n : Nat} {K : As} (kb : KB n K) {t t' : Ty} (c : Ch K t t') : t.bd n → t'.bd n := by
  induction c with
  | step e c ih => intro _; exact ih (kb.bd e)
  | free e => exact id
  | stop e => exact id
theorem shallow_loop {d n : Nat} {K : As} {H : AH} (hk : HK n K H) (kb : KB n K) (hn : n ≤ 6) {t t' : Ty} (c : Ch K t t') : t.bd n →
    EvS d (.whl (.and (.op2 .isIn (.op2 .idx (.var 1) (.lit (.int 0))) (.tupE (.cons (.lit (.str (Str.ofString "var"))) (.cons (.lit (.str (Str.ofString "intvar"))) .nil)))) (.op1 .notNone (.op2 .idx (.fld (.var 0) (Str.ofString "known")) (.op2 .idx (.var 1) (.lit (.int 1)))))) (.seq (.asg (.var 1) (.op2 .idx (.fld (.var 0) (Str.ofString "known")) (.op2 .idx (.var 1) (.lit (.int 1)))))
    .skip)) [some (.obj 2), some t.av] H .next [some (.obj 2), some t'.av] H := by
  have tst : ∀ t : Ty, EvE d (.op2 .isIn (.op2 .idx (.var 1) (.lit (.int 0))) (.tupE (.cons (.lit (.str (Str.ofString "var"))) (.cons (.lit (.str (Str.ofString "intvar"))) .nil)))) [some (.obj 2), some t.av] H (.bool t.isV) H := fun t =>
    EvE.op2 (EvE.op2 (EvE.var rfl) EvE.lit (av_idx0 t H)) (EvE.tupE (EvE.cons EvE.lit (EvE.cons EvE.lit EvE.nil))) (in_vars t H)
  induction c with
  | @step i t t' e c ih =>
    intro hb
    have hb : i < n := hb i (List.mem_cons_self ..)
    have kn := known_at (d := d) (loc := [some (.obj 2), some (Ty.v i).av]) hk rfl (EvE.op2 (EvE.var (i := 1) rfl) EvE.lit (v_idx1 i H)) hb hn
    have ek : kv K i = t.av := by unfold kv; rw [e]
    rw [ek] at kn
    have nn := EvE.op1 (o := .notNone) kn
    rw [av_notNone] at nn
    exact EvS.whl_t (EvE.and_t (tst (.v i)) nn) (EvS.seq (EvS.asg kn rfl) EvS.skip) (ih (kb.bd e))
  | @free i e =>
    intro hb
    have hb : i < n := hb i (List.mem_cons_self ..)
    have kn := known_at (d := d) (loc := [some (.obj 2), some (Ty.v i).av]) hk rfl (EvE.op2 (EvE.var (i := 1) rfl) EvE.lit (v_idx1 i H)) hb hn
    have ek : kv K i = .none := by unfold kv; rw [e]
    rw [ek] at kn
    exact EvS.whl_f (EvE.and_t (tst (.v i)) (EvE.op1 (o := .notNone) kn))
  | @stop t h =>
    intro hb
    have := tst t
    rw [h] at this
    exact EvS.whl_f (EvE.and_f this)
theorem shallow_ok {d n : Nat} {K : As} {H : AH} (hk : HK n K H) (kb : KB n K) (hn : n ≤ 6) {t t' : Ty} (c : Ch K t t') (hb : t.bd n) : EvF d 4 [.obj 2, t.av] H t'.av H :=
  EvF.of_ret (F := f_Infer_shallow) (l0 := [some (.obj 2), some t.av]) rfl rfl (EvS.seq (shallow_loop hk kb hn c hb) (EvS.seq_ret (EvS.ret (EvE.var rfl))))
inductive Wi (K : As) (u : Nat) : List Ty → Bool → Nat → Prop
  | nil : Wi K u [] false 0
  | hit {t : Ty} {r : List Ty} : Ch K t (.v u) → Wi K u (t :: r) true 0
  | go {t t' : Ty} {r : List Ty} {b : Bool} {c : Nat} : Ch K t t' → t' ≠ .v u → Wi K u (t'.parts.reverse ++ r) b c → Wi K u (t :: r) b (c + 1)
noncomputable def wl (st : List Ty) : AO := .list (st.reverse.map Ty.av)
theorem av_eq (t : Ty) (u : Nat) (H : AH) : op2F .eq t.av (vv u) H = some (.bool (match t with
  | .v i => ((i : Int) == (u : Int))
  | _ => false), H) := by
  cases t with
  | v i =>
    show bv H (eqH H (vv i) (vv u)) = _
    unfold bv eqH vv
    dsimp only
    rw [if_pos (by kernel_rfl)]
    show some (AV.bool (eqPs [.str (Str.ofString "var"), .int (i : Nat)] [.str (Str.ofString "var"), .int (u : Nat)]), H) = _
    rw [eqPs_cc, eqPs_cc, eqP_ss, eqP_ii, beq_self_eq_true, Bool.true_and, show eqPs [] [] = true from rfl, Bool.and_true]
  | _ => kernel_rfl
theorem av_eqT (u : Nat) (H : AH) : op2F .eq (Ty.v u).av (vv u) H = some (.bool true, H) := by
  rw [av_eq]
  dsimp only
  rw [show ((u : Int) == (u : Int)) = true from beq_self_eq_true _]
theorem av_eqF {t : Ty} {u : Nat} (h : t ≠ .v u) (H : AH) : op2F .eq t.av (vv u) H = some (.bool false, H) := by
  rw [av_eq]
  cases t with
  | v i =>
    dsimp only
    have : ((i : Int) == (u : Int)) = false := by
      rw [beq_eq_false_iff_ne]
      intro e
      exact h (by rw [Int.ofNat.inj e])
    rw [this]
  | _ => rfl
end Mine
end

section
set_option linter.unusedVariables false
open PySem PySem.W PyProof.Rows PySem.Calls
namespace Mine
theorem get_app {H : AH} {k : Nat} {o : AO} {X : AH} (h : H[k]? = some o) : (H ++ X)[k]? = some o := by
  rw [List.getElem?_append_left (List.getElem?_eq_some_iff.mp h).1]; exact h
theorem HK.app {n : Nat} {K : As} {H X : AH} (hk : HK n K H) : HK n K (H ++ X) := by
  obtain ⟨⟨c, e1, e2⟩, ⟨fs, e3, e4⟩, e5⟩ := hk
  exact ⟨⟨c, get_app e1, e2⟩, ⟨fs, get_app e3, e4⟩, get_app e5⟩
theorem get_last (H : AH) (o : AO) : (H ++ [o])[H.length]? = some o := by
  rw [List.getElem?_append_right (Nat.le_refl _), Nat.sub_self]; rfl
theorem set_last (H : AH) (o o' : AO) : (H ++ [o]).set H.length o' = H ++ [o'] := by
  rw [List.set_append_right _ _ (Nat.le_refl _), Nat.sub_self]; rfl
theorem pop_wl {H : AH} {t : Ty} {r : List Ty} (h : r.length ≤ 50000) : pmF .pop (.obj H.length) [] (H ++ [wl (t :: r)]) = some (t.av, H ++ [wl r]) := by
  unfold pmF popF onL
  dsimp only
  rw [get_last]
  unfold wl
  dsimp only
  have e : (t :: r).reverse.map Ty.av = r.reverse.map Ty.av ++ [t.av] := by simp
  rw [e, List.getLast?_concat]
  dsimp only
  rw [if_pos (by simp; omega), List.dropLast_concat, set_last]
theorem ext_wl {H : AH} {p r : List Ty} (h : r.length ≤ 50000) (hp : p.length ≤ 3) : pmF .extend (.obj H.length) [.tup (p.map Ty.av)] (H ++ [wl r]) = some (.none, H ++ [wl (p.reverse ++ r)]) := by
  unfold pmF extendF onL
  dsimp only
  rw [get_last]
  unfold wl
  dsimp only
  rw [if_pos (by simp; omega), set_last]
  congr 5
  simp
theorem app_wl {H : AH} {t : Ty} {r : List Ty} (h : r.length ≤ 50000) : pmF .append (.obj H.length) [t.av] (H ++ [wl r]) = some (.none, H ++ [wl (t :: r)]) := by
  unfold pmF appendF onL
  dsimp only
  rw [get_last]
  unfold wl
  dsimp only
  rw [if_pos (by simp; omega), set_last]
  simp
theorem isL_wl {H : AH} {r : List Ty} {p : PM} (hp : pmOk p (.obj H.length) (H ++ [wl r]) = isL (.obj H.length) (H ++ [wl r])) : pmOk p (.obj H.length) (H ++ [wl r]) = true := by
  rw [hp]
  unfold isL
  dsimp only
  rw [get_last]
  rfl
theorem wl_empty {r : List Ty} : ((r.reverse.map Ty.av).isEmpty) = r.isEmpty := by cases r <;> simp
theorem neN_wl {d : Nat} {H : AH} {loc : Loc} {r : List Ty} (h : loc[3]? = some (some (.obj H.length))) : EvE d (.neN true (.var 3)) loc (H ++ [wl r]) (.bool (!r.isEmpty)) (H ++ [wl r]) := by
  have := EvE.neN (n0 := true) (EvE.var (d := d) (H := H ++ [wl r]) h) (get_last H (wl r))
  rw [wl_empty] at this
  simpa using this
theorem parts_le (t : Ty) : t.parts.length ≤ 3 := by cases t <;> simp [Ty.parts]
theorem parts_bd {n : Nat} {t : Ty} (h : t.bd n) : ∀ y ∈ t.parts, y.bd n := by
  unfold Ty.bd at h ⊢
  cases t <;> simp [Ty.parts, Ty.vs] at h ⊢ <;> simp [h]
noncomputable def occW : C := (.whl (.neN true (.var 3)) (.seq (.asg (.var 5) (.callM (.var 0) (Str.ofString "shallow") (.cons (.pm .pop (.var 3) .nil) .nil)))
    (.seq (.iff (.op2 .eq (.var 5) (.var 1)) (.seq (.ret (.lit (.bool true)))
    .skip) .skip)
    (.seq (.asg (.var 4) (.op2 .add (.var 4) (.lit (.int 1))))
    (.seq (.iff (.op2 .gt (.var 4) (.lit (.int 4000))) (.seq (.sRng (.lit .none))
    .skip) .skip)
    (.seq (.expr (.pm .extend (.var 3) (.cons (.callF 0 (.cons (.var 5) .nil)) .nil)))
    .skip))))))
theorem len_r {t : Ty} {r : List Ty} {c : Nat} (h : (t :: r).length + c ≤ 40000) : r.length ≤ 50000 :=
  Nat.le_trans (Nat.le_trans (Nat.le_succ _) (Nat.le_trans (Nat.le_add_right _ c) h)) (by decide)
theorem len_go {t : Ty} {p r : List Ty} {c : Nat} (h : (t :: r).length + 3 * (c + 1) ≤ 40000) (hp : p.length ≤ 3) : (p.reverse ++ r).length + 3 * c ≤ 40000 := by
  rw [List.length_append, List.length_reverse]
  rw [List.length_cons] at h
  omega
theorem s_le {s c : Nat} (h : s + (c + 1) ≤ 4000) : ¬ (4000 : Int) < ((s + 1 : Nat) : Int) := by omega
theorem occ_loop {d n u : Nat} {K : As} {H : AH} (hk : HK n K H) (kb : KB n K) (hn : n ≤ 6) {st : List Ty} {b : Bool} {c : Nat} (w : Wi K u st b c) : (∀ t ∈ st, t.bd n) → ∀ (T : AV) (s : Nat) (x : Option AV), s + c ≤ 4000 → st.length + 3 * c ≤ 40000 →
    ∃ loc' ys, EvS (d + 1) occW [some (.obj 2), some (vv u), some T, some (.obj H.length), some (.int s), x] (H ++ [wl st]) (if b then .ret (.bool true) else .next) loc' (H ++ [.list ys]) := by
  induction w with
  | nil =>
    intro hb T s x hs hl
    exact ⟨_, _, EvS.whl_f (neN_wl rfl)⟩
  | @hit t r ch =>
    intro hb T s x hs hl
    have hr : r.length ≤ 50000 := len_r hl
    refine ⟨[some (.obj 2), some (vv u), some T, some (.obj H.length), some (.int s), some (vv u)], r.reverse.map Ty.av, ?_⟩
    rw [if_pos rfl]
    obtain ⟨cc, e1, e2, _⟩ := (hk.app (X := [wl (t :: r)])).i2
    obtain ⟨fs, e3, _, e4, _⟩ := (hk.app (X := [wl (t :: r)])).i1
    refine EvS.whl_ret (neN_wl rfl) (EvS.seq (EvS.asg (v := vv u) (H1 := H ++ [wl r]) (loc' := [some (.obj 2), some (vv u), some T, some (.obj H.length), some (.int s), some (vv u)]) (EvE.callM (EvE.var rfl) e1 ?_ (EvE.cons (EvE.pm (EvE.var rfl) (isL_wl rfl) EvE.nil (pop_wl hr)) EvE.nil) (shallow_ok hk.app kb hn ch (hb t (List.mem_cons_self ..)))) rfl) ?_)
    · unfold pickM; rw [e3]; dsimp only; rw [e4, e2]; rfl
    refine EvS.seq_ret (EvS.iff (z := true) (EvE.op2 (EvE.var rfl) (EvE.var rfl) (av_eqT u _)) ?_)
    rw [if_pos rfl]
    exact EvS.seq_ret (EvS.ret EvE.lit)
  | @go t t' r b c ch hne w ih =>
    intro hb T s x hs hl
    have hr : r.length ≤ 50000 := len_r hl
    have hbt := hb t (List.mem_cons_self ..)
    have hb' := ch.bd kb hbt
    obtain ⟨loc', ys, hz⟩ := ih (by
      intro y hy
      rcases List.mem_append.mp hy with hy | hy
      · exact parts_bd hb' y (List.mem_reverse.mp hy)
      · exact hb y (List.mem_cons_of_mem _ hy)) T (s + 1) (some t'.av) ((Nat.succ_add_eq_add_succ s c).symm ▸ hs) (len_go hl (parts_le t'))
    refine ⟨loc', ys, ?_⟩
    obtain ⟨cc, e1, e2, _⟩ := (hk.app (X := [wl (t :: r)])).i2
    obtain ⟨fs, e3, _, e4, _⟩ := (hk.app (X := [wl (t :: r)])).i1
    refine EvS.whl_t (neN_wl rfl) (EvS.seq (EvS.asg (v := t'.av) (H1 := H ++ [wl r]) (loc' := [some (.obj 2), some (vv u), some T, some (.obj H.length), some (.int s), some t'.av]) (EvE.callM (EvE.var rfl) e1 ?_ (EvE.cons (EvE.pm (EvE.var rfl) (isL_wl rfl) EvE.nil (pop_wl hr)) EvE.nil) (shallow_ok hk.app kb hn ch hbt)) rfl) ?_) hz
    · unfold pickM; rw [e3]; dsimp only; rw [e4, e2]; rfl
    refine EvS.seq (EvS.iff (z := false) (EvE.op2 (EvE.var rfl) (EvE.var rfl) (av_eqF hne _)) EvS.skip) ?_
    refine EvS.seq (EvS.asg (v := .int ((s + 1 : Nat) : Int)) (loc' := [some (.obj 2), some (vv u), some T, some (.obj H.length), some (.int ((s + 1 : Nat) : Int)), some t'.av]) (EvE.op2 (EvE.var rfl) EvE.lit rfl) rfl) ?_
    refine EvS.seq (EvS.iff (z := false) (H1 := H ++ [wl r]) (EvE.op2 (EvE.var rfl) EvE.lit ?_) EvS.skip) ?_
    · show some (AV.bool (decide ((4000 : Int) < ((s + 1 : Nat) : Int))), _) = _
      rw [decide_eq_false (s_le hs)]
    exact EvS.seq (EvS.expr (EvE.pm (EvE.var rfl) (isL_wl rfl) (EvE.cons (EvE.callF (EvE.cons (EvE.var rfl) EvE.nil) (parts_ok t')) EvE.nil) (ext_wl hr (parts_le t'))) rfl) EvS.skip
theorem occurs_ok {d n u : Nat} {K : As} {H : AH} (hk : HK n K H) (kb : KB n K) (hn : n ≤ 6) {T : Ty} {b : Bool} {c : Nat} (w : Wi K u [T] b c) (hT : T.bd n) (hc : c ≤ 4000) : ∃ ys, EvF (d + 1) 5 [.obj 2, vv u, T.av] H (.bool b) (H ++ [.list ys]) := by
  obtain ⟨loc', ys, h⟩ := occ_loop (d := d) hk kb hn w (fun t ht => by rw [List.mem_singleton.mp ht]; exact hT) T.av 0 none (Nat.le_trans (Nat.le_of_eq (Nat.zero_add c)) hc) (by simp; omega)
  refine ⟨ys, ?_⟩
  have base : EvS (d + 1) (.asg (.cons (.var 3) (.cons (.var 4) .nil)) (.tupE (.cons (.listE (.cons (.var 2) .nil)) (.cons (.lit (.int 0)) .nil)))) [some (.obj 2), some (vv u), some T.av, none, none, none] H .next [some (.obj 2), some (vv u), some T.av, some (.obj H.length), some (.int (0 : Nat)), none] (H ++ [wl [T]]) :=
    EvS.asg (EvE.tupE (EvE.cons (EvE.listE (EvE.cons (EvE.var rfl) EvE.nil)) (EvE.cons EvE.lit EvE.nil))) rfl
  cases b with
  | true => exact EvF.of_ret (F := f_Infer_occurs) (l0 := [some (.obj 2), some (vv u), some T.av, none, none, none]) rfl rfl (EvS.seq base (EvS.seq_ret h))
  | false => exact EvF.of_ret (F := f_Infer_occurs) (l0 := [some (.obj 2), some (vv u), some T.av, none, none, none]) rfl rfl (EvS.seq base (EvS.seq h (EvS.seq_ret (EvS.ret EvE.lit))))
end Mine
end

section
set_option linter.unusedVariables false
open PySem PySem.W PyProof.Rows PySem.Calls
namespace Mine
noncomputable def bkd (K : As) : List (AV × AV) := K.map fun p => (.int (p.1 : Nat), p.2.av)
theorem bkd_keys (K : As) : (bkd K).all (fun e => isIntKey e.1) = true := by
  rw [List.all_eq_true]
  intro e he
  obtain ⟨p, _, rfl⟩ := List.mem_map.mp he
  rfl
theorem dFind_bk (K : As) (i : Nat) : dFind (.int i) (bkd K) = (K.lookup i).map Ty.av := by
  induction K with
  | nil => rfl
  | cons p K ih =>
    obtain ⟨j, t⟩ := p
    show (if eqP (.int (j : Nat)) (.int (i : Nat)) then some t.av else dFind (.int i) (bkd K)) = _
    rw [List.lookup_cons, ih]
    have e : eqP (.int (j : Nat)) (.int (i : Nat)) = (i == j) := by
      show ((j : Int) == (i : Int)) = (i == j)
      rw [Bool.eq_iff_iff, beq_iff_eq, beq_iff_eq]
      omega
    rw [e]
    cases (i == j) <;> rfl
theorem dget_bk (K : As) (i : Nat) : dGet (.int i) (bkd K) = some ((K.lookup i).map Ty.av) := by
  unfold dGet keysOk
  dsimp only
  rw [if_pos (bkd_keys K), dFind_bk]
theorem in_bk {K : As} {H : AH} (h : H[6]? = some (.dict (bkd K))) (i : Nat) : op2F .isIn (.int i) (.obj 6) H = some (.bool (K.lookup i).isSome, H) := by
  unfold op2F inH bv
  dsimp only
  rw [h]
  dsimp only
  rw [dget_bk]
  cases K.lookup i <;> rfl
theorem notin_bk {K : As} {H : AH} (h : H[6]? = some (.dict (bkd K))) (i : Nat) : op2F .notIn (.int i) (.obj 6) H = some (.bool (!(K.lookup i).isSome), H) := by
  unfold op2F inH bv
  dsimp only
  rw [h]
  dsimp only
  rw [dget_bk]
  cases K.lookup i <;> rfl
theorem idx_bk {K : As} {H : AH} (h : H[6]? = some (.dict (bkd K))) {i : Nat} {t : Ty} (e : K.lookup i = some t) : op2F .idx (.obj 6) (.int i) H = some (t.av, H) := by
  unfold op2F
  dsimp only
  rw [h]
  dsimp only
  rw [dget_bk, e]
  rfl
theorem hd_var (t : Ty) (H : AH) : op2F .eq (.str t.hd) (.str (Str.ofString "var")) H = some (.bool t.isV, H) := by
  cases t <;> kernel_rfl
noncomputable def FinK (K : As) (t : Ty) : Prop := ∀ i, t = .v i → K.lookup i = none
theorem Ch.fin {K : As} {t t' : Ty} (c : Ch K t t') : FinK K t' := by
  induction c with
  | step e c ih => exact ih
  | free e => intro i h; cases h; exact e
  | stop e => intro i h; subst h; cases e
noncomputable def withW : C := (.whl (.neN true (.var 3)) (.seq (.asg (.var 4) (.pm .pop (.var 3) .nil))
    (.seq (.iff (.and (.op2 .eq (.op2 .idx (.var 4) (.lit (.int 0))) (.lit (.str (Str.ofString "var")))) (.op2 .isIn (.op2 .idx (.var 4) (.lit (.int 1))) (.var 0))) (.seq (.expr (.pm .append (.var 3) (.cons (.op2 .idx (.var 0) (.op2 .idx (.var 4) (.lit (.int 1)))) .nil)))
    .skip) (.seq (.iff (.op2 .eq (.var 4) (.tupE (.cons (.lit (.str (Str.ofString "var"))) (.cons (.var 1) .nil)))) (.seq (.ret (.lit (.bool true)))
    .skip) (.seq (.expr (.pm .extend (.var 3) (.cons (.callF 25 (.cons (.var 4) .nil)) .nil)))
    .skip))
    .skip))
    .skip)))
noncomputable def WL (d : Nat) (H : AH) (u : Nat) (R : Res) (st : List Ty) : Prop := ∀ (T : AV) (x : Option AV), ∃ loc' ys, EvS (d + 1) withW [some (.obj 6), some (.int (u : Nat)), some T, some (.obj H.length), x] (H ++ [wl st]) R loc' (H ++ [.list ys])
theorem WL.chain {d u : Nat} {K : As} {H : AH} {R : Res} (hb : H[6]? = some (.dict (bkd K))) {t t' : Ty} (c : Ch K t t') {r : List Ty} (hr : r.length ≤ 50000) (h : WL d H u R (t' :: r)) : WL d H u R (t :: r) := by
  induction c with
  | @step i t1 t2 e c ih =>
    intro T x
    obtain ⟨loc', ys, h⟩ := ih h T (some (vv i))
    refine ⟨loc', ys, ?_⟩
    have hb' := get_app (X := [wl r]) hb
    refine EvS.whl_t (neN_wl rfl) (EvS.seq (EvS.asg (loc' := [some (.obj 6), some (.int (u : Nat)), some T, some (.obj H.length), some (vv i)]) (EvE.pm (EvE.var rfl) (isL_wl rfl) EvE.nil (pop_wl hr)) rfl) (EvS.seq (EvS.iff (z := true) (H1 := H ++ [wl r]) ?_ ?_) EvS.skip)) h
    · refine EvE.and_t (EvE.op2 (EvE.op2 (EvE.var rfl) EvE.lit (av_idx0 (.v i) _)) EvE.lit (hd_var (.v i) _)) ?_
      have := in_bk hb' i
      rw [e] at this
      exact EvE.op2 (EvE.op2 (EvE.var rfl) EvE.lit (v_idx1 i _)) (EvE.var rfl) this
    · rw [if_pos rfl]
      exact EvS.seq (EvS.expr (EvE.pm (EvE.var rfl) (isL_wl rfl) (EvE.cons (EvE.op2 (EvE.var rfl) (EvE.op2 (EvE.var rfl) EvE.lit (v_idx1 i _)) (idx_bk hb' e)) EvE.nil) (app_wl hr)) rfl) EvS.skip
  | free e => exact h
  | stop e => exact h
theorem with_test {d : Nat} {K : As} {H : AH} (hb : H[6]? = some (.dict (bkd K))) {t : Ty} (f : FinK K t) {loc : Loc} (h0 : loc[0]? = some (some (.obj 6))) (h4 : loc[4]? = some (some t.av)) :
    EvE d (.and (.op2 .eq (.op2 .idx (.var 4) (.lit (.int 0))) (.lit (.str (Str.ofString "var")))) (.op2 .isIn (.op2 .idx (.var 4) (.lit (.int 1))) (.var 0))) loc H (.bool false) H := by
  have a := EvE.op2 (o := .eq) (EvE.op2 (o := .idx) (d := d) (EvE.var (H := H) h4) EvE.lit (av_idx0 t _)) (EvE.lit (v := .str (Str.ofString "var"))) (hd_var t _)
  cases e : t.isV with
  | false => rw [e] at a; exact EvE.and_f a
  | true =>
    rw [e] at a
    cases t with
    | v i =>
      have := in_bk hb i
      rw [f i rfl] at this
      exact EvE.and_t a (EvE.op2 (EvE.op2 (EvE.var h4) EvE.lit (v_idx1 i _)) (EvE.var h0) this)
    | _ => cases e
theorem WL.hit {d u : Nat} {K : As} {H : AH} (hb : H[6]? = some (.dict (bkd K))) {r : List Ty} (hr : r.length ≤ 50000) (f : FinK K (.v u)) : WL d H u (.ret (.bool true)) (.v u :: r) := by
  intro T x
  have hb' := get_app (X := [wl r]) hb
  refine ⟨[some (.obj 6), some (.int (u : Nat)), some T, some (.obj H.length), some (vv u)], r.reverse.map Ty.av, EvS.whl_ret (neN_wl rfl) (EvS.seq (EvS.asg (loc' := [some (.obj 6), some (.int (u : Nat)), some T, some (.obj H.length), some (vv u)]) (EvE.pm (EvE.var rfl) (isL_wl rfl) EvE.nil (pop_wl hr)) rfl) (EvS.seq_ret (EvS.iff (z := false) (with_test hb' f rfl rfl) ?_)))⟩
  rw [if_neg (by decide)]
  refine EvS.seq_ret (EvS.iff (z := true) (EvE.op2 (EvE.var rfl) (EvE.tupE (EvE.cons EvE.lit (EvE.cons (EvE.var rfl) EvE.nil))) (av_eqT u _)) ?_)
  rw [if_pos rfl]
  exact EvS.seq_ret (EvS.ret EvE.lit)
theorem WL.go {d u : Nat} {K : As} {H : AH} {R : Res} (hb : H[6]? = some (.dict (bkd K))) {t : Ty} {r : List Ty} (hr : r.length ≤ 50000) (f : FinK K t) (hne : t ≠ .v u) (h : WL d H u R (t.parts.reverse ++ r)) : WL d H u R (t :: r) := by
  intro T x
  have hb' := get_app (X := [wl r]) hb
  obtain ⟨loc', ys, h⟩ := h T (some t.av)
  refine ⟨loc', ys, EvS.whl_t (neN_wl rfl) (EvS.seq (EvS.asg (loc' := [some (.obj 6), some (.int (u : Nat)), some T, some (.obj H.length), some t.av]) (EvE.pm (EvE.var rfl) (isL_wl rfl) EvE.nil (pop_wl hr)) rfl) (EvS.seq (EvS.iff (z := false) (with_test hb' f rfl rfl) ?_) EvS.skip)) h⟩
  rw [if_neg (by decide)]
  refine EvS.seq (EvS.iff (z := false) (EvE.op2 (EvE.var rfl) (EvE.tupE (EvE.cons EvE.lit (EvE.cons (EvE.var rfl) EvE.nil))) (av_eqF hne _)) ?_) EvS.skip
  rw [if_neg (by decide)]
  exact EvS.seq (EvS.expr (EvE.pm (EvE.var rfl) (isL_wl rfl) (EvE.cons (EvE.callF (EvE.cons (EvE.var rfl) EvE.nil) (lparts_ok t)) EvE.nil) (ext_wl hr (parts_le t))) rfl) EvS.skip
theorem with_loop {d u : Nat} {K : As} {H : AH} (hb : H[6]? = some (.dict (bkd K))) {st : List Ty} {b : Bool} {c : Nat} (w : Wi K u st b c) : st.length + 3 * c ≤ 40000 → WL d H u (if b then .ret (.bool true) else .next) st := by
  induction w with
  | nil => intro _ T x; exact ⟨_, _, EvS.whl_f (neN_wl rfl)⟩
  | @hit t r ch =>
    intro hl
    have hr : r.length ≤ 50000 := len_r hl
    exact WL.chain hb ch hr (WL.hit hb hr ch.fin)
  | @go t t' r b c ch hne w ih =>
    intro hl
    have hr : r.length ≤ 50000 := len_r hl
    have := parts_le t'
    exact WL.chain hb ch hr (WL.go hb hr ch.fin hne (ih (len_go hl this)))
theorem within_ok {d u : Nat} {K : As} {H : AH} (hb : H[6]? = some (.dict (bkd K))) {T : Ty} {b : Bool} {c : Nat} (w : Wi K u [T] b c) (hc : c ≤ 4000) : ∃ ys, EvF (d + 1) 26 [.obj 6, .int (u : Nat), T.av] H (.bool b) (H ++ [.list ys]) := by
  obtain ⟨loc', ys, h⟩ := with_loop (d := d) hb w (by simp; omega) T.av none
  refine ⟨ys, ?_⟩
  have base : EvS (d + 1) (.asg (.var 3) (.listE (.cons (.var 2) .nil))) [some (.obj 6), some (.int (u : Nat)), some T.av, none, none] H .next [some (.obj 6), some (.int (u : Nat)), some T.av, some (.obj H.length), none] (H ++ [wl [T]]) :=
    EvS.asg (EvE.listE (EvE.cons (EvE.var rfl) EvE.nil)) rfl
  cases b with
  | true => exact EvF.of_ret (F := f_law_is_within) (l0 := [some (.obj 6), some (.int (u : Nat)), some T.av, none, none]) rfl rfl (EvS.seq base (EvS.seq_ret h))
  | false => exact EvF.of_ret (F := f_law_is_within) (l0 := [some (.obj 6), some (.int (u : Nat)), some T.av, none, none]) rfl rfl (EvS.seq base (EvS.seq h (EvS.seq_ret (EvS.ret EvE.lit))))
noncomputable def Ty.w (n : Nat) : Ty → Nat
  | .v i => 4 * (n - i)
  | .bool => 1
  | .u8 => 1
  | .box i => 4 * (n - i) + 1
  | .pr i => 4 * (n - i) + 2
  | .ref i => 4 * (n - i) + 1
  | .adt i => 4 * (n - i) + 2
  | .tr a b => 4 * (n - a) + 4 * (n - b) + 3
noncomputable def NTr (K : As) : Prop := ∀ i t, K.lookup i = some t → ∀ a b, t ≠ .tr a b
noncomputable def Wt (n : Nat) (st : List Ty) : Nat := (st.map (Ty.w n)).sum
theorem w_lt {n i j c : Nat} (h : i < j) (hj : i < n) (hc : c ≤ 4) : 4 * (n - j) + c ≤ 4 * (n - i) :=
  Nat.le_trans (Nat.add_le_add_left hc _) (Nat.mul_le_mul_left 4 (Nat.sub_lt_sub_left hj h))
theorem w_one {n i c : Nat} (hi : i < n) (hc : c ≤ 4) : c ≤ 4 * (n - i) := Nat.le_trans hc (Nat.mul_le_mul_left 4 (Nat.sub_pos_of_lt hi))
theorem ch_var {n : Nat} {K : As} (kb : KB n K) (nt : NTr K) : ∀ m i, n - i ≤ m → i < n → ∃ t', Ch K (.v i) t' ∧ t'.w n ≤ 4 * (n - i) := by
  intro m
  induction m with
  | zero => exact fun i h h2 => absurd h (Nat.not_le.mpr (Nat.sub_pos_of_lt h2))
  | succ m ih =>
    intro i h hi
    cases e : K.lookup i with
    | none => exact ⟨_, .free e, Nat.le_refl _⟩
    | some t =>
      obtain ⟨_, hj⟩ := kb i t e
      have nt := nt i t e
      cases t with
      | v j =>
        have := hj j (List.mem_cons_self ..)
        have lt := Nat.sub_lt_sub_left hi this.1
        obtain ⟨t', c, w⟩ := ih j (Nat.le_of_lt_succ (Nat.lt_of_lt_of_le lt h)) this.2
        exact ⟨t', .step e c, Nat.le_trans w (Nat.mul_le_mul_left 4 (Nat.le_of_lt lt))⟩
      | bool => exact ⟨_, .step e (.stop rfl), w_one hi (show 1 ≤ 4 by decide)⟩
      | u8 => exact ⟨_, .step e (.stop rfl), w_one hi (show 1 ≤ 4 by decide)⟩
      | tr a b => exact absurd rfl (nt a b)
      | _ j => exact ⟨_, .step e (.stop rfl), w_lt (hj j (List.mem_cons_self ..)).1 hi (by decide)⟩
theorem ch_tot {n : Nat} {K : As} (kb : KB n K) (nt : NTr K) {t : Ty} (h : t.bd n) : ∃ t', Ch K t t' ∧ t'.w n ≤ t.w n := by
  cases e : t.isV with
  | false => exact ⟨t, .stop e, Nat.le_refl _⟩
  | true =>
    cases t with
    | v i => exact ch_var kb nt (n - i) i (Nat.le_refl _) (h i (List.mem_cons_self ..))
    | _ => cases e
theorem w_parts {n : Nat} {t : Ty} (h : t.bd n) : Wt n t.parts.reverse + 1 ≤ t.w n := by
  unfold Ty.bd at h
  cases t <;> simp [Wt, Ty.parts, Ty.w, Ty.vs] at h ⊢ <;> omega
theorem wi_tot {n u : Nat} {K : As} (kb : KB n K) (nt : NTr K) : ∀ m (st : List Ty), (∀ t ∈ st, t.bd n) → Wt n st ≤ m → ∃ b c, Wi K u st b c ∧ c ≤ m := by
  intro m
  induction m with
  | zero =>
    intro st hb hw
    cases st with
    | nil => exact ⟨_, _, .nil, Nat.le_refl _⟩
    | cons t r =>
      have := w_parts (hb t (List.mem_cons_self ..))
      have e : Wt n (t :: r) = t.w n + Wt n r := by unfold Wt; simp
      rw [e] at hw
      exact absurd (Nat.le_trans (Nat.le_trans this (Nat.le_add_right _ _)) hw) (Nat.not_succ_le_zero _)
  | succ m ih =>
    intro st hb hw
    cases st with
    | nil => exact ⟨_, _, .nil, Nat.zero_le _⟩
    | cons t r =>
      have hbt := hb t (List.mem_cons_self ..)
      obtain ⟨t', c, w⟩ := ch_tot kb nt hbt
      have hb' := c.bd kb hbt
      by_cases q : t' = .v u
      · subst q; exact ⟨_, _, .hit c, Nat.zero_le _⟩
      · have e1 := w_parts hb'
        have e2 : Wt n (t :: r) = t.w n + Wt n r := by unfold Wt; simp
        have e3 : Wt n (t'.parts.reverse ++ r) = Wt n t'.parts.reverse + Wt n r := by unfold Wt; simp
        obtain ⟨b, cc, hz, hc⟩ := ih (t'.parts.reverse ++ r) (by
          intro y hy
          rcases List.mem_append.mp hy with hy | hy
          · exact parts_bd hb' y (List.mem_reverse.mp hy)
          · exact hb y (List.mem_cons_of_mem _ hy)) (by
            rw [e3]; rw [e2] at hw
            exact Nat.le_of_succ_le_succ (Nat.le_trans (by rw [← Nat.succ_add]; exact Nat.add_le_add_right (Nat.le_trans e1 w) _) hw))
        exact ⟨b, cc + 1, .go c q hz, Nat.succ_le_succ hc⟩
end Mine
end

section
set_option linter.unusedVariables false
open PySem PySem.W PyProof.Rows PySem.Calls
namespace Mine
noncomputable def okT (o : Option Out) : Bool := match o with
  | some (.val (.bool true), _, _) => true
  | _ => false
theorem EvF.of_okT {n d f : Nat} {vs : List AV} {l : Loc} {H : AH} (h : okT (callBody lawP (run lawP n) d f vs l H) = true) : ∃ H', EvF d f vs H (.bool true) H' := by
  match e : callBody lawP (run lawP n) d f vs l H, h with
  | some (.val (.bool true), l', H'), _ => exact ⟨H', EvF.of e⟩
noncomputable def iC : Addr := match lawP.ct 0 with
  | some (c, _) => c
  | none => 0
noncomputable def atA : AO := .attrs [(Str.ofString "ended", .obj 3), (Str.ofString "known", .obj 4), (Str.ofString "is_number", .obj 5)]
theorem told28 : okT (callBody lawP (run lawP 200) 9 28 [] [] []) = true := by kernel_rfl
theorem told33 : okT (callBody lawP (run lawP 400) 9 33 [] [] []) = true := by kernel_rfl
theorem told24 (S : AO) : okT (callBody lawP (run lawP 200) 9 24 [.obj 2] [] [S, atA, .inst iC 1, .list [], .list [], .list []]) = true := by kernel_rfl
theorem new_ok {d : Nat} (S : AO) (loc : Loc) : EvE (d + 1) (.new 0 .nil) loc [S] (.obj 2) [S, atA, .inst iC 1, .list [], .list [], .list []] :=
  ⟨30, loc, by kernel_rfl⟩
end Mine
end

section
set_option linter.unusedVariables false
open PySem PySem.W PyProof.Rows PySem.Calls
namespace Mine
noncomputable def tT : AV := .tup [.str (Str.ofString "param"), .str (Str.ofString "T")]
noncomputable def tU : AV := .tup [.str (Str.ofString "param"), .str (Str.ofString "U")]
noncomputable def tY : AV := .tup [.str (Str.ofString "int"), .str (Str.ofString "u8")]
noncomputable def tB : AV := .tup [.str (Str.ofString "bool")]
noncomputable def bx (t : AV) : AV := .tup [.str (Str.ofString "box"), t]
noncomputable def pa (a b : AV) : AV := .tup [.str (Str.ofString "tuple"), .tup [a, b]]
noncomputable def pats : List AV := [tT, tY, tB, bx tT, bx tY, pa tT tY, pa tB tT, pa tT tT, pa tT tU, bx (pa tT tU), bx (pa tU tU), bx (pa tY tT), pa tU tT]
noncomputable def clo : List AV := [tY, tB, bx tY, bx tB, pa tY tY, pa tY tB, pa tB tY, pa tB tB, bx (pa tY tY), bx (pa tY tB), bx (pa tB tY), bx (pa tB tB)]
noncomputable def prm : AO := .list [.tup [.str (Str.ofString "T"), .tup []], .tup [.str (Str.ofString "U"), .tup []]]
noncomputable def rC : Addr := match lawP.ct 2 with
  | some (c, _) => c
  | none => 0
noncomputable def implA (num trait t m p : AV) : AO := .attrs [(Str.ofString "number", num), (Str.ofString "regions", .tup []), (Str.ofString "params", p), (Str.ofString "trait", trait), (Str.ofString "trait_args", .tup []), (Str.ofString "self_type", t), (Str.ofString "methods", m), (Str.ofString "spot", .int 0)]
noncomputable def HI (o L1 L2 L3 L4 D5 N6 c8 d9 D12 N13 c15 d16 : AO) (t1 t2 p q : AV) : AH := [o, L1, L2, L3, L4, D5, N6, prm, c8, d9, implA (.int 0) t1 p (.obj 9) (.obj 7), .inst rC 10, D12, N13, prm, c15, d16, implA (.int 1) t2 q (.obj 16) (.obj 14), .inst rC 17]
noncomputable def resM (k : Nat) (o : Option Out) : Option (Bool × AH) := match o with
  | some (.val (.bool b), _, H) => some (b, H.take k)
  | _ => none
noncomputable def resB (o : Option Out) : Option Bool := match o with
  | some (.val (.bool b), _, _) => some b
  | _ => none
end Mine
end

section
open PySem PySem.W PyProof.Rows PySem.Calls
namespace Mine
section
variable (P : Pg)
noncomputable def q_lit (ih : RunT) (d : Nat) (v : AV) (loc : Loc) (H : AH) : Option Out := some (.val v, loc, H)
noncomputable def q_var (ih : RunT) (d : Nat) (i : Nat) (loc : Loc) (H : AH) : Option Out := match loc[i]? with
    | some (some v) => some (.val v, loc, H)
    | _ => none
noncomputable def q_nil (ih : RunT) (d : Nat)  (loc : Loc) (H : AH) : Option Out := some (.val (.tup []), loc, H)
noncomputable def q_cons (ih : RunT) (d : Nat) (a : C) (r : C) (loc : Loc) (H : AH) : Option Out := vb (ih d a loc H) fun v H => vb (ih d r loc H) fun w H => match w with
    | .tup vs => some (.val (.tup (v :: vs)), loc, H)
    | _ => none
noncomputable def q_tupE (ih : RunT) (d : Nat) (l : C) (loc : Loc) (H : AH) : Option Out := vb (ih d l loc H) fun v H => match v with
    | .tup vs => some (.val (.tup vs), loc, H)
    | _ => none
noncomputable def q_listE (ih : RunT) (d : Nat) (l : C) (loc : Loc) (H : AH) : Option Out := vb (ih d l loc H) fun v H => match v with
    | .tup vs => some (.val (.obj H.length), loc, H ++ [.list vs])
    | _ => none
noncomputable def q_dictE (ih : RunT) (d : Nat)  (loc : Loc) (H : AH) : Option Out := some (.val (.obj H.length), loc, H ++ [.dict []])
noncomputable def q_fld (ih : RunT) (d : Nat) (e : C) (f : Str) (loc : Loc) (H : AH) : Option Out := vb (ih d e loc H) fun v H => match v with
    | .obj i => match H[i]? with
      | some (.inst _ dd) => match H[dd]? with
        | some (.attrs fs) => match fs.lookup f with
          | some v => some (.val v, loc, H)
          | none => none
        | _ => none
      | _ => none
    | _ => none
noncomputable def q_op1 (ih : RunT) (d : Nat) (o : Op1) (a : C) (loc : Loc) (H : AH) : Option Out := vb (ih d a loc H) fun v H => some (.val (op1F o v), loc, H)
noncomputable def q_op2 (ih : RunT) (d : Nat) (o : Op2) (a : C) (b : C) (loc : Loc) (H : AH) : Option Out := vb (ih d a loc H) fun x H => vb (ih d b loc H) fun y H => match op2F o x y H with
    | some (v, H) => some (.val v, loc, H)
    | none => none
noncomputable def q_and (ih : RunT) (d : Nat) (a : C) (b : C) (loc : Loc) (H : AH) : Option Out := vb (ih d a loc H) fun x H => match x with
    | .bool true => vb (ih d b loc H) fun y H => some (.val y, loc, H)
    | .bool false => some (.val (.bool false), loc, H)
    | _ => none
noncomputable def q_or (ih : RunT) (d : Nat) (a : C) (b : C) (loc : Loc) (H : AH) : Option Out := vb (ih d a loc H) fun x H => match x with
    | .bool true => some (.val (.bool true), loc, H)
    | .bool false => vb (ih d b loc H) fun y H => some (.val y, loc, H)
    | _ => none
noncomputable def q_not (ih : RunT) (d : Nat) (a : C) (loc : Loc) (H : AH) : Option Out := vb (ih d a loc H) fun x H => match x with
    | .bool b => some (.val (.bool (!b)), loc, H)
    | _ => none
noncomputable def q_ite (ih : RunT) (d : Nat) (t : C) (a : C) (b : C) (loc : Loc) (H : AH) : Option Out := vb (ih d t loc H) fun x H => match x with
    | .bool true => vb (ih d a loc H) fun y H => some (.val y, loc, H)
    | .bool false => vb (ih d b loc H) fun y H => some (.val y, loc, H)
    | _ => none
noncomputable def q_callF (ih : RunT) (d : Nat) (f : Nat) (l : C) (loc : Loc) (H : AH) : Option Out := vb (ih d l loc H) fun a H => match a, d with
    | .tup vs, d' + 1 => callBody P ih d' f vs loc H
    | _, _ => none
noncomputable def q_callM (ih : RunT) (d : Nat) (e : C) (m : Str) (l : C) (loc : Loc) (H : AH) : Option Out := vb (ih d e loc H) fun o H => match o with
    | .obj i => match H[i]? with
      | some (.inst C dd) => match pickM H dd (P.mt C m) m with
        | some f => vb (ih d l loc H) fun a H => match a, d with
          | .tup vs, d' + 1 => callBody P ih d' f (.obj i :: vs) loc H
          | _, _ => none
        | none => none
      | _ => none
    | _ => none
noncomputable def q_new (ih : RunT) (d : Nat) (k : Nat) (l : C) (loc : Loc) (H : AH) : Option Out := match P.ct k with
    | some (C, f) => vb (ih d l loc H) fun a H => match a, d with
      | .tup vs, d' + 1 => match callBody P ih d' f (.obj (H.length + 1) :: vs) loc (H ++ [.attrs [], .inst C H.length]) with
        | some (.val .none, _, H') => some (.val (.obj (H.length + 1)), loc, H')
        | _ => none
      | _, _ => none
    | none => none
noncomputable def q_prim (ih : RunT) (d : Nat) (p : Prim) (l : C) (loc : Loc) (H : AH) : Option Out := vb (ih d l loc H) fun a H => match a with
    | .tup vs => match primF p vs H with
      | some (v, H) => some (.val v, loc, H)
      | none => none
    | _ => none
noncomputable def q_pm (ih : RunT) (d : Nat) (p : PM) (e : C) (l : C) (loc : Loc) (H : AH) : Option Out := vb (ih d e loc H) fun o H => match pmOk p o H with
    | true => vb (ih d l loc H) fun a H => match a with
      | .tup vs => match pmF p o vs H with
        | some (v, H) => some (.val v, loc, H)
        | none => none
      | _ => none
    | false => none
noncomputable def q_comp (ih : RunT) (d : Nat) (t : C) (s : C) (cond : C) (elt : C) (loc : Loc) (H : AH) : Option Out := if !slotsFree t loc then none else srcF ih d s loc H fun S H => match ih d (.compL t S 0 cond elt []) loc H with
    | some (.val (.tup vs), _, H) => some (.val (.obj H.length), loc, H ++ [.list vs])
    | _ => none
noncomputable def q_compL (ih : RunT) (d : Nat) (t : C) (S : Src) (k : Nat) (cond : C) (elt : C) (acc : List AV) (loc : Loc) (H : AH) : Option Out := match srcNext S k H with
    | none => none
    | some none => some (.val (.tup acc), loc, H)
    | some (some v) => match asgV t v loc with
      | none => none
      | some loc' => vb (ih d cond loc' H) fun b H => match b with
        | .bool true => if 60000 < acc.length then none else vb (ih d elt loc' H) fun x H => ih d (.compL t S (k + 1) cond elt (acc ++ [x])) loc H
        | .bool false => ih d (.compL t S (k + 1) cond elt acc) loc H
        | _ => none
noncomputable def q_sRng (ih : RunT) (d : Nat) (x0 : C) (loc : Loc) (H : AH) : Option Out := none
noncomputable def q_sZip (ih : RunT) (d : Nat) (x0 : C) (loc : Loc) (H : AH) : Option Out := none
noncomputable def q_skip (ih : RunT) (d : Nat)  (loc : Loc) (H : AH) : Option Out := some (.next, loc, H)
noncomputable def q_seq (ih : RunT) (d : Nat) (a : C) (b : C) (loc : Loc) (H : AH) : Option Out := match ih d a loc H with
    | some (.next, loc, H) => ih d b loc H
    | some (.val _, _, _) => none
    | r => r
noncomputable def q_expr (ih : RunT) (d : Nat) (e : C) (loc : Loc) (H : AH) : Option Out := vb (ih d e loc H) fun v H => match v with
    | .tup _ => none
    | .obj _ => none
    | _ => some (.next, loc, H)
noncomputable def q_asg (ih : RunT) (d : Nat) (t : C) (e : C) (loc : Loc) (H : AH) : Option Out := vb (ih d e loc H) fun v H => match asgV t v loc with
    | some loc' => some (.next, loc', H)
    | none => none
noncomputable def q_asgL (ih : RunT) (d : Nat) (t : C) (e : C) (loc : Loc) (H : AH) : Option Out := vb (ih d e loc H) fun v H => match v with
    | .obj i => match H[i]? with
      | some (.list vs) => match asgV t (.tup vs) loc with
        | some loc' => some (.next, loc', H)
        | none => none
      | _ => none
    | _ => none
noncomputable def q_setF (ih : RunT) (d : Nat) (o : C) (f : Str) (e : C) (loc : Loc) (H : AH) : Option Out := vb (ih d e loc H) fun v H => vb (ih d o loc H) fun x H => match x with
    | .obj i => match setField i f v H with
      | some H => some (.next, loc, H)
      | none => none
    | _ => none
noncomputable def q_setI (ih : RunT) (d : Nat) (o : C) (k : C) (e : C) (loc : Loc) (H : AH) : Option Out := vb (ih d e loc H) fun v H => vb (ih d o loc H) fun x H => vb (ih d k loc H) fun y H => match setItemA x y v H with
    | some H => some (.next, loc, H)
    | none => none
noncomputable def q_ret (ih : RunT) (d : Nat) (e : C) (loc : Loc) (H : AH) : Option Out := vb (ih d e loc H) fun v H => some (.ret v, loc, H)
noncomputable def q_iff (ih : RunT) (d : Nat) (t : C) (a : C) (b : C) (loc : Loc) (H : AH) : Option Out := vb (ih d t loc H) fun x H => match x with
    | .bool true => ih d a loc H
    | .bool false => ih d b loc H
    | _ => none
noncomputable def q_whl (ih : RunT) (d : Nat) (t : C) (b : C) (loc : Loc) (H : AH) : Option Out := vb (ih d t loc H) fun x H => match x with
    | .bool true => match ih d b loc H with
      | some (.next, loc, H) => ih d (.whl t b) loc H
      | some (.cont, loc, H) => ih d (.whl t b) loc H
      | some (.ret v, loc, H) => some (.ret v, loc, H)
      | _ => none
    | .bool false => some (.next, loc, H)
    | _ => none
noncomputable def q_for (ih : RunT) (d : Nat) (t : C) (s : C) (b : C) (loc : Loc) (H : AH) : Option Out := srcF ih d s loc H fun S H => ih d (.forL t S 0 b) loc H
noncomputable def q_forL (ih : RunT) (d : Nat) (t : C) (S : Src) (k : Nat) (b : C) (loc : Loc) (H : AH) : Option Out := match srcNext S k H with
    | none => none
    | some none => some (.next, loc, H)
    | some (some v) => match asgV t v loc with
      | none => none
      | some loc => match ih d b loc H with
        | some (.next, loc, H) => ih d (.forL t S (k + 1) b) loc H
        | some (.cont, loc, H) => ih d (.forL t S (k + 1) b) loc H
        | some (.ret v, loc, H) => some (.ret v, loc, H)
        | _ => none
noncomputable def q_cont (ih : RunT) (d : Nat)  (loc : Loc) (H : AH) : Option Out := some (.cont, loc, H)
noncomputable def q_gc (ih : RunT) (d : Nat) (e : C) (loc : Loc) (H : AH) : Option Out := gcF H.length loc (ih d e loc H)
noncomputable def q_neN (ih : RunT) (d : Nat) (n : Bool) (e : C) (loc : Loc) (H : AH) : Option Out := vb (ih d e loc H) fun v H => match listOfV v H with
    | some vs => some (.val (.bool (n != vs.isEmpty)), loc, H)
    | none => none
noncomputable def q_callP (ih : RunT) (d : Nat) (f : Nat) (l : C) (loc : Loc) (H : AH) : Option Out := vb (ih d l loc H) fun a H => match a, d with
    | .tup vs, d' + 1 => match pureAs 50 vs with
      | true => callPF loc H (callBody P ih d' f vs loc [])
      | false => none
    | _, _ => none
noncomputable def q_callL (ih : RunT) (d : Nat) (f : Nat) (l : C) (loc : Loc) (H : AH) : Option Out := vb (ih d l loc H) fun a H => match a, d with
    | .tup [.obj k], d' + 1 => match listOfV (.obj k) H with
      | some vs => match vs.all flatA with
        | true => callLF k loc H (callBody P ih d' f [.obj 0] loc [.list vs])
        | false => none
      | none => none
    | _, _ => none
noncomputable def q_comp2 (ih : RunT) (d : Nat) (t1 : C) (s1 : C) (t2 : C) (s2 : C) (elt : C) (loc : Loc) (H : AH) : Option Out := if !slotsFree (.cons t1 t2) loc then none else srcF ih d s1 loc H fun S H => match ih d (.comp2L t1 S 0 t2 s2 elt []) loc H with
    | some (.val (.tup vs), _, H) => some (.val (.obj H.length), loc, H ++ [.list vs])
    | _ => none
noncomputable def q_comp2L (ih : RunT) (d : Nat) (t1 : C) (S : Src) (k : Nat) (t2 : C) (s2 : C) (elt : C) (acc : List AV) (loc : Loc) (H : AH) : Option Out := match srcNext S k H with
    | none => none
    | some none => some (.val (.tup acc), loc, H)
    | some (some v) => match asgV t1 v loc with
      | none => none
      | some loc' => if !slotsFree t2 loc' then none else srcF ih d s2 loc' H fun S2 H => match ih d (.compL t2 S2 0 (.lit (.bool true)) elt acc) loc' H with
        | some (.val (.tup acc'), _, H) => ih d (.comp2L t1 S (k + 1) t2 s2 elt acc') loc H
        | _ => none
end
noncomputable def rStep (P : Pg) (c : C) : RunT → Nat → Loc → AH → Option Out := @C.rec (fun _ => RunT → Nat → Loc → AH → Option Out)
  (fun y0 ih d loc H => q_lit ih d y0 loc H)
  (fun y0 ih d loc H => q_var ih d y0 loc H)
  (fun ih d loc H => q_nil ih d  loc H)
  (fun y0 y1 _ _ ih d loc H => q_cons ih d y0 y1 loc H)
  (fun y0 _ ih d loc H => q_tupE ih d y0 loc H)
  (fun y0 _ ih d loc H => q_listE ih d y0 loc H)
  (fun ih d loc H => q_dictE ih d  loc H)
  (fun y0 y1 _ ih d loc H => q_fld ih d y0 y1 loc H)
  (fun y0 y1 _ ih d loc H => q_op1 ih d y0 y1 loc H)
  (fun y0 y1 y2 _ _ ih d loc H => q_op2 ih d y0 y1 y2 loc H)
  (fun y0 y1 _ _ ih d loc H => q_and ih d y0 y1 loc H)
  (fun y0 y1 _ _ ih d loc H => q_or ih d y0 y1 loc H)
  (fun y0 _ ih d loc H => q_not ih d y0 loc H)
  (fun y0 y1 y2 _ _ _ ih d loc H => q_ite ih d y0 y1 y2 loc H)
  (fun y0 y1 _ ih d loc H => q_callF P ih d y0 y1 loc H)
  (fun y0 y1 y2 _ _ ih d loc H => q_callM P ih d y0 y1 y2 loc H)
  (fun y0 y1 _ ih d loc H => q_new P ih d y0 y1 loc H)
  (fun y0 y1 _ ih d loc H => q_prim ih d y0 y1 loc H)
  (fun y0 y1 y2 _ _ ih d loc H => q_pm ih d y0 y1 y2 loc H)
  (fun y0 y1 y2 y3 _ _ _ _ ih d loc H => q_comp ih d y0 y1 y2 y3 loc H)
  (fun y0 y1 y2 y3 y4 y5 _ _ _ ih d loc H => q_compL ih d y0 y1 y2 y3 y4 y5 loc H)
  (fun y0 _ ih d loc H => q_sRng ih d y0 loc H)
  (fun y0 _ ih d loc H => q_sZip ih d y0 loc H)
  (fun ih d loc H => q_skip ih d  loc H)
  (fun y0 y1 _ _ ih d loc H => q_seq ih d y0 y1 loc H)
  (fun y0 _ ih d loc H => q_expr ih d y0 loc H)
  (fun y0 y1 _ _ ih d loc H => q_asg ih d y0 y1 loc H)
  (fun y0 y1 _ _ ih d loc H => q_asgL ih d y0 y1 loc H)
  (fun y0 y1 y2 _ _ ih d loc H => q_setF ih d y0 y1 y2 loc H)
  (fun y0 y1 y2 _ _ _ ih d loc H => q_setI ih d y0 y1 y2 loc H)
  (fun y0 _ ih d loc H => q_ret ih d y0 loc H)
  (fun y0 y1 y2 _ _ _ ih d loc H => q_iff ih d y0 y1 y2 loc H)
  (fun y0 y1 _ _ ih d loc H => q_whl ih d y0 y1 loc H)
  (fun y0 y1 y2 _ _ _ ih d loc H => q_for ih d y0 y1 y2 loc H)
  (fun y0 y1 y2 y3 _ _ ih d loc H => q_forL ih d y0 y1 y2 y3 loc H)
  (fun ih d loc H => q_cont ih d  loc H)
  (fun y0 _ ih d loc H => q_gc ih d y0 loc H)
  (fun y0 y1 _ ih d loc H => q_neN ih d y0 y1 loc H)
  (fun y0 y1 _ ih d loc H => q_callP P ih d y0 y1 loc H)
  (fun y0 y1 _ ih d loc H => q_callL P ih d y0 y1 loc H)
  (fun y0 y1 y2 y3 y4 _ _ _ _ _ ih d loc H => q_comp2 ih d y0 y1 y2 y3 y4 loc H)
  (fun y0 y1 y2 y3 y4 y5 y6 _ _ _ _ ih d loc H => q_comp2L ih d y0 y1 y2 y3 y4 y5 y6 loc H)
  c
noncomputable def runR (P : Pg) (n : Nat) : RunT := @Nat.rec (fun _ => RunT) (fun _ _ _ _ => none) (fun _ ih d c loc H => rStep P c ih d loc H) n
theorem rStep_eq (P : Pg) (ih : RunT) (d : Nat) (c : C) (loc : Loc) (H : AH) : rStep P c ih d loc H = runStep P ih d c loc H := by
  cases c <;> rfl
theorem runR_eq (P : Pg) : ∀ n, runR P n = run P n
  | 0 => rfl
  | n + 1 => by funext d c loc H; show rStep P c (runR P n) d loc H = runStep P (run P n) d c loc H; rw [runR_eq P n, rStep_eq]
end Mine
end

section
set_option linter.unusedVariables false
open PySem PySem.W PyProof.Rows PySem.Calls
namespace Mine
noncomputable def ftb : List (List Bool) := [[true, true, true, true, true, true, true, true, true, true, true, true],
  [true, false, false, false, false, false, false, false, false, false, false, false],
  [false, true, false, false, false, false, false, false, false, false, false, false],
  [false, false, true, true, false, false, false, false, true, true, true, true],
  [false, false, true, false, false, false, false, false, false, false, false, false],
  [false, false, false, false, true, false, true, false, false, false, false, false],
  [false, false, false, false, false, false, true, true, false, false, false, false],
  [false, false, false, false, true, false, false, true, false, false, false, false],
  [false, false, false, false, true, true, true, true, false, false, false, false],
  [false, false, false, false, false, false, false, false, true, true, true, true],
  [false, false, false, false, false, false, false, false, true, false, false, true],
  [false, false, false, false, false, false, false, false, true, true, false, false],
  [false, false, false, false, true, true, true, true, false, false, false, false]]
noncomputable def mtb : List (List Bool) := [[true, true, true, true, true, true, true, true, true, true, true, true, true],
  [true, true, false, false, false, false, false, false, false, false, false, false, false],
  [true, false, true, false, false, false, false, false, false, false, false, false, false],
  [true, false, false, true, true, false, false, false, false, true, true, true, false],
  [true, false, false, true, true, false, false, false, false, false, false, false, false],
  [true, false, false, false, false, true, true, true, true, false, false, false, true],
  [true, false, false, false, false, true, true, true, true, false, false, false, true],
  [true, false, false, false, false, true, true, true, true, false, false, false, true],
  [true, false, false, false, false, true, true, true, true, false, false, false, true],
  [true, false, false, true, false, false, false, false, false, true, true, true, false],
  [true, false, false, true, false, false, false, false, false, true, true, true, false],
  [true, false, false, true, false, false, false, false, false, true, true, true, false],
  [true, false, false, false, false, true, true, true, true, false, false, false, true]]
theorem fits_all : (pats.map fun p => clo.map fun T => resB (callBody lawP (run lawP 100) 8 31 [p, T] [] [])) = ftb.map fun r => r.map some := by rw [← runR_eq]; kernel_rfl
noncomputable def MeetRow (p : AV) (r : List Bool) : Prop := ∀ (o L1 L2 L3 L4 D5 N6 c8 d9 D12 N13 c15 d16 : AO) (t1 t2 : AV),
  (pats.map fun q => (resM 19 (callBody lawP (run lawP 100) 10 17 [.obj 11, .obj 18] [] (HI o L1 L2 L3 L4 D5 N6 c8 d9 D12 N13 c15 d16 t1 t2 p q)), resM 19 (callBody lawP (run lawP 100) 10 17 [.obj 18, .obj 11] [] (HI o L1 L2 L3 L4 D5 N6 c8 d9 D12 N13 c15 d16 t1 t2 p q)))) =
  (pats.zip r).map fun y => (some (y.2, HI o L1 L2 L3 L4 D5 N6 c8 d9 D12 N13 c15 d16 t1 t2 p y.1), some (y.2, HI o L1 L2 L3 L4 D5 N6 c8 d9 D12 N13 c15 d16 t1 t2 p y.1))
theorem meet_row_0 : MeetRow (tT) [true, true, true, true, true, true, true, true, true, true, true, true, true] := by intro o L1 L2 L3 L4 D5 N6 c8 d9 D12 N13 c15 d16 t1 t2; rw [← runR_eq]; kernel_rfl
theorem meet_row_1 : MeetRow (tY) [true, true, false, false, false, false, false, false, false, false, false, false, false] := by intro o L1 L2 L3 L4 D5 N6 c8 d9 D12 N13 c15 d16 t1 t2; rw [← runR_eq]; kernel_rfl
theorem meet_row_2 : MeetRow (tB) [true, false, true, false, false, false, false, false, false, false, false, false, false] := by intro o L1 L2 L3 L4 D5 N6 c8 d9 D12 N13 c15 d16 t1 t2; rw [← runR_eq]; kernel_rfl
theorem meet_row_3 : MeetRow (bx tT) [true, false, false, true, true, false, false, false, false, true, true, true, false] := by intro o L1 L2 L3 L4 D5 N6 c8 d9 D12 N13 c15 d16 t1 t2; rw [← runR_eq]; kernel_rfl
theorem meet_row_4 : MeetRow (bx tY) [true, false, false, true, true, false, false, false, false, false, false, false, false] := by intro o L1 L2 L3 L4 D5 N6 c8 d9 D12 N13 c15 d16 t1 t2; rw [← runR_eq]; kernel_rfl
theorem meet_row_5 : MeetRow (pa tT tY) [true, false, false, false, false, true, true, true, true, false, false, false, true] := by intro o L1 L2 L3 L4 D5 N6 c8 d9 D12 N13 c15 d16 t1 t2; rw [← runR_eq]; kernel_rfl
theorem meet_row_6 : MeetRow (pa tB tT) [true, false, false, false, false, true, true, true, true, false, false, false, true] := by intro o L1 L2 L3 L4 D5 N6 c8 d9 D12 N13 c15 d16 t1 t2; rw [← runR_eq]; kernel_rfl
theorem meet_row_7 : MeetRow (pa tT tT) [true, false, false, false, false, true, true, true, true, false, false, false, true] := by intro o L1 L2 L3 L4 D5 N6 c8 d9 D12 N13 c15 d16 t1 t2; rw [← runR_eq]; kernel_rfl
theorem meet_row_8 : MeetRow (pa tT tU) [true, false, false, false, false, true, true, true, true, false, false, false, true] := by intro o L1 L2 L3 L4 D5 N6 c8 d9 D12 N13 c15 d16 t1 t2; rw [← runR_eq]; kernel_rfl
theorem meet_row_9 : MeetRow (bx (pa tT tU)) [true, false, false, true, false, false, false, false, false, true, true, true, false] := by intro o L1 L2 L3 L4 D5 N6 c8 d9 D12 N13 c15 d16 t1 t2; rw [← runR_eq]; kernel_rfl
theorem meet_row_10 : MeetRow (bx (pa tU tU)) [true, false, false, true, false, false, false, false, false, true, true, true, false] := by intro o L1 L2 L3 L4 D5 N6 c8 d9 D12 N13 c15 d16 t1 t2; rw [← runR_eq]; kernel_rfl
theorem meet_row_11 : MeetRow (bx (pa tY tT)) [true, false, false, true, false, false, false, false, false, true, true, true, false] := by intro o L1 L2 L3 L4 D5 N6 c8 d9 D12 N13 c15 d16 t1 t2; rw [← runR_eq]; kernel_rfl
theorem meet_row_12 : MeetRow (pa tU tT) [true, false, false, false, false, true, true, true, true, false, false, false, true] := by intro o L1 L2 L3 L4 D5 N6 c8 d9 D12 N13 c15 d16 t1 t2; rw [← runR_eq]; kernel_rfl
theorem meet_all : ∀ x ∈ pats.zip mtb, MeetRow x.1 x.2 := by
  unfold pats mtb
  simp only [List.zip_cons_cons, List.zip_nil_left, List.forall_mem_cons]
  exact ⟨meet_row_0, meet_row_1, meet_row_2, meet_row_3, meet_row_4, meet_row_5, meet_row_6, meet_row_7, meet_row_8, meet_row_9, meet_row_10, meet_row_11, meet_row_12, fun _ h => nomatch h⟩
end Mine
end

section
set_option linter.unusedVariables false
open PySem PySem.W PyProof.Rows PySem.Calls
namespace Mine
noncomputable def HI2 (o L1 L2 L3 L4 D5 N6 c8 d9 D12 N13 c15 d16 : AO) (t1 t2 p q : AV) (x y : AO) : AH := [o, L1, L2, L3, L4, D5, N6, prm, c8, d9, implA (.int 0) t1 p (.obj 9) (.obj 7), .inst rC 10, D12, N13, prm, c15, d16, implA (.int 1) t2 q (.obj 16) (.obj 14), .inst rC 17, x, y]
noncomputable def MeetRow2 (p : AV) (r : List Bool) : Prop := ∀ (o L1 L2 L3 L4 D5 N6 c8 d9 D12 N13 c15 d16 : AO) (t1 t2 : AV) (x z : AO),
  (pats.map fun q => resM 21 (callBody lawP (run lawP 100) 9 17 [.obj 11, .obj 18] [] (HI2 o L1 L2 L3 L4 D5 N6 c8 d9 D12 N13 c15 d16 t1 t2 p q x z))) =
  (pats.zip r).map fun y => some (y.2, HI2 o L1 L2 L3 L4 D5 N6 c8 d9 D12 N13 c15 d16 t1 t2 p y.1 x z)
theorem meet2_row_0 : MeetRow2 (tT) [true, true, true, true, true, true, true, true, true, true, true, true, true] := by intro o L1 L2 L3 L4 D5 N6 c8 d9 D12 N13 c15 d16 t1 t2 x y; rw [← runR_eq]; kernel_rfl
theorem meet2_row_1 : MeetRow2 (tY) [true, true, false, false, false, false, false, false, false, false, false, false, false] := by intro o L1 L2 L3 L4 D5 N6 c8 d9 D12 N13 c15 d16 t1 t2 x y; rw [← runR_eq]; kernel_rfl
theorem meet2_row_2 : MeetRow2 (tB) [true, false, true, false, false, false, false, false, false, false, false, false, false] := by intro o L1 L2 L3 L4 D5 N6 c8 d9 D12 N13 c15 d16 t1 t2 x y; rw [← runR_eq]; kernel_rfl
theorem meet2_row_3 : MeetRow2 (bx tT) [true, false, false, true, true, false, false, false, false, true, true, true, false] := by intro o L1 L2 L3 L4 D5 N6 c8 d9 D12 N13 c15 d16 t1 t2 x y; rw [← runR_eq]; kernel_rfl
theorem meet2_row_4 : MeetRow2 (bx tY) [true, false, false, true, true, false, false, false, false, false, false, false, false] := by intro o L1 L2 L3 L4 D5 N6 c8 d9 D12 N13 c15 d16 t1 t2 x y; rw [← runR_eq]; kernel_rfl
theorem meet2_row_5 : MeetRow2 (pa tT tY) [true, false, false, false, false, true, true, true, true, false, false, false, true] := by intro o L1 L2 L3 L4 D5 N6 c8 d9 D12 N13 c15 d16 t1 t2 x y; rw [← runR_eq]; kernel_rfl
theorem meet2_row_6 : MeetRow2 (pa tB tT) [true, false, false, false, false, true, true, true, true, false, false, false, true] := by intro o L1 L2 L3 L4 D5 N6 c8 d9 D12 N13 c15 d16 t1 t2 x y; rw [← runR_eq]; kernel_rfl
theorem meet2_row_7 : MeetRow2 (pa tT tT) [true, false, false, false, false, true, true, true, true, false, false, false, true] := by intro o L1 L2 L3 L4 D5 N6 c8 d9 D12 N13 c15 d16 t1 t2 x y; rw [← runR_eq]; kernel_rfl
theorem meet2_row_8 : MeetRow2 (pa tT tU) [true, false, false, false, false, true, true, true, true, false, false, false, true] := by intro o L1 L2 L3 L4 D5 N6 c8 d9 D12 N13 c15 d16 t1 t2 x y; rw [← runR_eq]; kernel_rfl
theorem meet2_row_9 : MeetRow2 (bx (pa tT tU)) [true, false, false, true, false, false, false, false, false, true, true, true, false] := by intro o L1 L2 L3 L4 D5 N6 c8 d9 D12 N13 c15 d16 t1 t2 x y; rw [← runR_eq]; kernel_rfl
theorem meet2_row_10 : MeetRow2 (bx (pa tU tU)) [true, false, false, true, false, false, false, false, false, true, true, true, false] := by intro o L1 L2 L3 L4 D5 N6 c8 d9 D12 N13 c15 d16 t1 t2 x y; rw [← runR_eq]; kernel_rfl
theorem meet2_row_11 : MeetRow2 (bx (pa tY tT)) [true, false, false, true, false, false, false, false, false, true, true, true, false] := by intro o L1 L2 L3 L4 D5 N6 c8 d9 D12 N13 c15 d16 t1 t2 x y; rw [← runR_eq]; kernel_rfl
theorem meet2_row_12 : MeetRow2 (pa tU tT) [true, false, false, false, false, true, true, true, true, false, false, false, true] := by intro o L1 L2 L3 L4 D5 N6 c8 d9 D12 N13 c15 d16 t1 t2 x y; rw [← runR_eq]; kernel_rfl
theorem meet2_all : ∀ x ∈ pats.zip mtb, MeetRow2 x.1 x.2 := by
  unfold pats mtb
  simp only [List.zip_cons_cons, List.zip_nil_left, List.forall_mem_cons]
  exact ⟨meet2_row_0, meet2_row_1, meet2_row_2, meet2_row_3, meet2_row_4, meet2_row_5, meet2_row_6, meet2_row_7, meet2_row_8, meet2_row_9, meet2_row_10, meet2_row_11, meet2_row_12, fun _ h => nomatch h⟩
end Mine
end

section
set_option linter.unusedVariables false
open PySem PySem.W PyProof.Rows PySem.Calls
namespace Mine
noncomputable def SL (n : Nat) : List AV := (List.range n).map vv
noncomputable def HU (n : Nat) (K : As) (o : AO) : AH := [o, atA, .inst iC 1, .list [], .list (KL n K), .list (List.replicate n (.bool false)), .dict (bkd K), .list (SL n)]
theorem HK_HU (n : Nat) (K : As) (o : AO) : HK n K (HU n K o) :=
  ⟨⟨iC, rfl, by kernel_rfl, by kernel_rfl, by kernel_rfl⟩, ⟨_, rfl, by kernel_rfl, by kernel_rfl, by kernel_rfl, by kernel_rfl⟩, rfl⟩
theorem SL_get {n i : Nat} (h : i < n) : (SL n)[i]? = some (vv i) := by
  unfold SL
  rw [List.getElem?_map, List.getElem?_range h]; rfl
theorem lowAs_all {n : Nat} {l : List AV} (h : ∀ x ∈ l, lowA n x = true) : lowAs n l = true := by
  induction l with
  | nil => unfold lowAs; rfl
  | cons x l ih => unfold lowAs; rw [h x (List.mem_cons_self ..), ih fun y hy => h y (List.mem_cons_of_mem _ hy)]; rfl
theorem low_vv (m i : Nat) : lowA m (vv i) = true := by kernel_rfl
theorem low_av (m : Nat) (t : Ty) : lowA m t.av = true := by cases t <;> kernel_rfl
theorem low_pool {m : Nat} {o : AO} (p : PoolOk o) : lowO m o = true := by obtain ⟨a, b, rfl, _⟩ := p; kernel_rfl
theorem low_HU {m n : Nat} {K : As} {o : AO} (hm : 8 ≤ m) (p : PoolOk o) : (HU n K o).all (lowO m) = true := by
  unfold HU
  simp only [List.all_cons, List.all_nil, Bool.and_true, Bool.and_eq_true]
  refine ⟨low_pool p, ?_, ?_, by kernel_rfl, ?_, ?_, ?_, ?_⟩
  · unfold atA lowO
    simp only [List.all_cons, List.all_nil, Bool.and_true, Bool.and_eq_true]
    refine ⟨?_, ?_, ?_⟩ <;> (unfold lowA; exact decide_eq_true (by omega))
  · unfold lowO; exact decide_eq_true (by omega)
  · unfold lowO
    refine lowAs_all fun x hx => ?_
    obtain ⟨i, _, rfl⟩ := List.mem_map.mp hx
    unfold kv
    split
    · unfold lowA; rfl
    · exact low_av _ _
  · unfold lowO
    refine lowAs_all fun x hx => ?_
    rw [List.eq_of_mem_replicate hx]; unfold lowA; rfl
  · unfold lowO
    rw [List.all_eq_true]
    intro e he
    obtain ⟨q, _, rfl⟩ := List.mem_map.mp he
    rw [low_av, Bool.and_true]; unfold lowA; rfl
  · unfold lowO
    refine lowAs_all fun x hx => ?_
    obtain ⟨i, _, rfl⟩ := List.mem_map.mp hx
    exact low_vv _ _
theorem pure_av (t : Ty) : pureA 50 t.av = true := by cases t <;> kernel_rfl
theorem kv_app {K : As} {k : Nat} {t : Ty} (h : K.lookup k = none) (i : Nat) : kv (K ++ [(k, t)]) i = if i = k then t.av else kv K i := by
  unfold kv
  rw [List.lookup_append]
  by_cases q : i = k
  · subst q
    rw [if_pos rfl, h]
    simp [List.lookup]
  · rw [if_neg q]
    have : ([(k, t)] : As).lookup i = none := by
      rw [List.lookup_cons, show (i == k) = false from beq_eq_false_iff_ne.mpr q]; rfl
    rw [this, Option.or_none]
theorem KL_set {n k : Nat} {K : As} {t : Ty} (hk : k < n) (h : K.lookup k = none) : (KL n K).set k t.av = KL n (K ++ [(k, t)]) := by
  apply List.ext_getElem?
  intro i
  rw [List.getElem?_set, KL_len]
  by_cases hi : i < n
  · rw [KL_get hi, KL_get hi, kv_app h]
    by_cases q : k = i
    · subst q; rw [if_pos rfl, if_pos rfl, if_pos hk]
    · rw [if_neg q, if_neg (fun e => q e.symm)]
  · rw [if_neg (by omega), List.getElem?_eq_none (by rw [KL_len]; omega), List.getElem?_eq_none (by rw [KL_len]; omega)]
theorem dPut_bk {K : As} {k : Nat} {t : Ty} (h : K.lookup k = none) : dPut (.int k) t.av (bkd K) = bkd (K ++ [(k, t)]) := by
  induction K with
  | nil => rfl
  | cons p K ih =>
    obtain ⟨j, s⟩ := p
    rw [List.lookup_cons] at h
    have e : eqP (.int (j : Nat)) (.int (k : Nat)) = (k == j) := by
      show ((j : Int) == (k : Int)) = (k == j)
      rw [Bool.eq_iff_iff, beq_iff_eq, beq_iff_eq]
      omega
    show (if eqP (.int (j : Nat)) (.int (k : Nat)) then (AV.int (j : Nat), t.av) :: bkd K else (AV.int (j : Nat), s.av) :: dPut (.int k) t.av (bkd K)) = _
    rw [e]
    cases q : (k == j) with
    | true => rw [q] at h; cases h
    | false =>
      rw [q] at h
      rw [if_neg (by decide), ih h]
      rfl
structure In (n k : Nat) (K : As) : Prop where
  kb : KB n K
  nt : NTr K
  lo : ∀ i t, K.lookup i = some t → i < k
  le : K.length ≤ k
theorem In.none {n k : Nat} {K : As} (h : In n k K) {i : Nat} (hi : k ≤ i) : K.lookup i = none := by
  cases e : K.lookup i with
  | none => rfl
  | some t => exact absurd (h.lo i t e) (Nat.not_lt.mpr hi)
theorem In.mono {n k k' : Nat} {K : As} (h : In n k K) (hk : k ≤ k') : In n k' K := ⟨h.kb, h.nt, fun i t e => Nat.lt_of_lt_of_le (h.lo i t e) hk, Nat.le_trans h.le hk⟩
theorem In.app {n k : Nat} {K : As} (h : In n k K) (hk : k < n) {t : Ty} (ht : ∀ a b, t ≠ .tr a b) (hv : ∀ j ∈ t.vs, k < j ∧ j < n) : In n (k + 1) (K ++ [(k, t)]) := by
  have key : ∀ i s, (K ++ [(k, t)]).lookup i = some s → K.lookup i = some s ∨ (i = k ∧ s = t) := by
    intro i s e
    rw [List.lookup_append] at e
    cases q : K.lookup i with
    | some z => rw [q] at e; exact Or.inl e
    | none =>
      rw [q, Option.none_or, List.lookup_cons] at e
      cases q2 : (i == k) with
      | true => rw [q2] at e; exact Or.inr ⟨by simpa using q2, (Option.some.inj e).symm⟩
      | false => exact nS (q2 ▸ e)
  refine ⟨fun i s e => ?_, fun i s e => ?_, fun i s e => ?_, ?_⟩
  · rcases key i s e with e | ⟨rfl, rfl⟩
    · exact h.kb i s e
    · exact ⟨hk, hv⟩
  · rcases key i s e with e | ⟨rfl, rfl⟩
    · exact h.nt i s e
    · exact ht
  · rcases key i s e with e | ⟨rfl, rfl⟩
    · exact Nat.lt_succ_of_lt (h.lo i s e)
    · exact Nat.lt_succ_self _
  · rw [List.length_append]; exact Nat.succ_le_succ h.le
theorem wi_bind {n k : Nat} {K : As} (h : In n k K) {t : Ty} (ht : ∀ a b, t ≠ .tr a b) (hv : ∀ j ∈ t.vs, k < j ∧ j < n) : ∃ c, c ≤ 3 ∧ Wi K k [t] false c := by
  have fr : ∀ j, k < j → ∀ r b c, Wi K k r b c → Wi K k (.v j :: r) b (c + 1) := fun j hj r b c w =>
    .go (.free (h.none (Nat.le_of_lt hj))) (by intro e; cases e; exact Nat.lt_irrefl _ hj) w
  have bo : ∀ r b c, Wi K k r b c → Wi K k (.bool :: r) b (c + 1) := fun r b c w => .go (.stop rfl) (by simp) w
  have st : ∀ t : Ty, t.isV = false → ∀ b c, Wi K k (t.parts.reverse ++ []) b c → Wi K k [t] b (c + 1) := fun t e b c w => .go (.stop e) (by intro q; subst q; cases e) w
  cases t with
  | v j => exact ⟨1, by decide, fr j (hv j (List.mem_cons_self ..)).1 _ _ _ .nil⟩
  | bool => exact ⟨1, by decide, st .bool rfl _ _ .nil⟩
  | u8 => exact ⟨1, by decide, st .u8 rfl _ _ .nil⟩
  | box j => exact ⟨2, by decide, st (.box j) rfl _ _ (fr j (hv j (List.mem_cons_self ..)).1 _ _ _ .nil)⟩
  | pr j => exact ⟨3, by decide, st (.pr j) rfl _ _ (fr j (hv j (List.mem_cons_self ..)).1 _ _ _ (bo _ _ _ .nil))⟩
  | ref j => exact ⟨2, by decide, st (.ref j) rfl _ _ (fr j (hv j (List.mem_cons_self ..)).1 _ _ _ .nil)⟩
  | adt j => exact ⟨3, by decide, st (.adt j) rfl _ _ (bo _ _ _ (fr j (hv j (List.mem_cons_self ..)).1 _ _ _ .nil))⟩
  | tr a b => exact absurd rfl (ht a b)
theorem gc_ok {d : Nat} {e : C} {loc : Loc} {H H2 X : AH} {v : AV} (h : EvE d e loc H v (H2 ++ X)) (hl : H2.length = H.length) (hv : pureA 50 v = true) (hk : H2.all (lowO H.length) = true) : EvE d (.gc e) loc H v H2 := by
  have e2 : (H2 ++ X).take H.length = H2 := by rw [← hl]; exact List.take_left' rfl
  have := EvE.gc h hv (by rw [e2]; exact hk)
  rw [e2] at this
  exact this
theorem in60 {k n : Nat} (h : k < n) (hn : n ≤ 6) : 0 ≤ (k : Int) ∧ (k : Int) < 60000 := by omega
theorem bind_ok {d n k : Nat} {K : As} {o : AO} (h : In n k K) (hk : k < n) (hn : n ≤ 6) (p : PoolOk o) {t : Ty} (ht : ∀ a b, t ≠ .tr a b) (hv : ∀ j ∈ t.vs, k < j ∧ j < n) :
    EvF (d + 2) 6 [.obj 2, vv k, t.av] (HU n K o) .none ((HU n K o).set 4 (.list (KL n (K ++ [(k, t)])))) := by
  obtain ⟨c, hc, w⟩ := wi_bind h ht hv
  obtain ⟨ys, oc⟩ := occurs_ok (d := d) (HK_HU n K o) h.kb hn w (fun j hj => (hv j hj).2) (Nat.le_trans hc (by decide))
  refine EvF.of_next (F := f_Infer_bind) (l0 := [some (.obj 2), some (vv k), some t.av]) rfl rfl (loc' := [some (.obj 2), some (vv k), some t.av]) ?_
  refine EvS.seq (EvS.iff (z := false) (H1 := HU n K o) (EvE.and_f (EvE.op2 (EvE.op2 (EvE.var rfl) EvE.lit (av_idx0 (.v k) _)) EvE.lit (by kernel_rfl))) EvS.skip) ?_
  refine EvS.seq (EvS.iff (z := false) (gc_ok (EvE.callM (EvE.var rfl) (cc := iC) (dd := 1) rfl (by kernel_rfl) (EvE.cons (EvE.var rfl) (EvE.cons (EvE.var rfl) EvE.nil)) oc) rfl rfl (low_HU (Nat.le_refl _) p)) EvS.skip) ?_
  refine EvS.seq (EvS.setI (EvE.var rfl) (EvE.fld (v := .obj 4) (EvE.var rfl) (i := 2) (cc := iC) (dd := 1) rfl rfl (by kernel_rfl)) (EvE.op2 (EvE.var rfl) EvE.lit (v_idx1 k _)) ?_) EvS.skip
  rw [setL (vs := KL n K) rfl ⟨(in60 hk hn).1, by rw [KL_len]; exact Int.ofNat_lt.mpr hk, (in60 hk hn).2⟩, Int.toNat_natCast, KL_set hk (h.none (Nat.le_refl _))]
noncomputable def lc (n : Nat) (x5 x6 x7 x8 x9 x10 : Option AV) : Loc := [some (.obj 0), some (.obj 2), some (.obj 6), some (.int (n : Nat)), some (.obj 7), x5, x6, x7, x8, x9, x10, none, none]
noncomputable def DL (j : Nat) : List AV := [.none, vv j, vv j, (Ty.box j).av, (Ty.pr j).av, Ty.u8.av, (Ty.ref j).av, (Ty.adt j).av]
theorem DL_mem {j r : Nat} {v : AV} (h : (DL j)[r]? = some v) : v = .none ∨ ∃ t : Ty, v = t.av ∧ (∀ a b, t ≠ .tr a b) ∧ ∀ x ∈ t.vs, x = j := by
  have h := List.mem_of_getElem? h
  unfold DL at h
  simp only [List.mem_cons, List.not_mem_nil, or_false] at h
  rcases h with h | h | h | h | h | h | h | h
  · exact Or.inl h
  · exact Or.inr ⟨.v j, h, by simp, by simp [Ty.vs]⟩
  · exact Or.inr ⟨.v j, h, by simp, by simp [Ty.vs]⟩
  · exact Or.inr ⟨.box j, h, by simp, by simp [Ty.vs]⟩
  · exact Or.inr ⟨.pr j, h, by simp, by simp [Ty.vs]⟩
  · exact Or.inr ⟨.u8, h, by simp, by simp [Ty.vs]⟩
  · exact Or.inr ⟨.ref j, h, by simp, by simp [Ty.vs]⟩
  · exact Or.inr ⟨.adt j, h, by simp, by simp [Ty.vs]⟩
noncomputable def dispC : C := (.cons (.lit .none) (.cons (.var 6) (.cons (.var 6) (.cons (.tupE (.cons (.lit (.str (Str.ofString "box"))) (.cons (.var 6) .nil))) (.cons (.tupE (.cons (.lit (.str (Str.ofString "tuple"))) (.cons (.tupE (.cons (.tupE (.cons (.lit (.str (Str.ofString "bool"))) .nil)) (.cons (.var 6) .nil))) .nil))) (.cons (.tupE (.cons (.lit (.str (Str.ofString "int"))) (.cons (.lit (.str (Str.ofString "u8"))) .nil))) (.cons (.tupE (.cons (.lit (.str (Str.ofString "ref"))) (.cons (.lit (.str (Str.ofString "'a"))) (.cons (.lit (.bool true)) (.cons (.var 6) .nil))))) (.cons (.tupE (.cons (.lit (.str (Str.ofString "adt"))) (.cons (.lit (.str (Str.ofString "S"))) (.cons (.tupE .nil) (.cons (.tupE (.cons (.var 6) (.cons (.tupE (.cons (.lit (.str (Str.ofString "bool"))) .nil)) .nil))) .nil))))) .nil))))))))
theorem disp_ok {d j : Nat} {loc : Loc} {H : AH} (h : loc[6]? = some (some (vv j))) : EvE d dispC loc H (.tup (DL j)) H := by
  have v := EvE.var (d := d) (H := H) h
  refine EvE.cons EvE.lit (EvE.cons v (EvE.cons v (EvE.cons (H1 := H) ?_ (EvE.cons (H1 := H) ?_ (EvE.cons (H1 := H) ?_ (EvE.cons (H1 := H) ?_ (EvE.cons (H1 := H) ?_ EvE.nil)))))))
  · exact EvE.tupE (EvE.cons EvE.lit (EvE.cons v EvE.nil))
  · exact EvE.tupE (EvE.cons EvE.lit (EvE.cons (EvE.tupE (EvE.cons (EvE.tupE (EvE.cons EvE.lit EvE.nil)) (EvE.cons v EvE.nil))) EvE.nil))
  · exact EvE.tupE (EvE.cons EvE.lit (EvE.cons EvE.lit EvE.nil))
  · exact EvE.tupE (EvE.cons EvE.lit (EvE.cons EvE.lit (EvE.cons EvE.lit (EvE.cons v EvE.nil))))
  · exact EvE.tupE (EvE.cons EvE.lit (EvE.cons EvE.lit (EvE.cons (EvE.tupE EvE.nil) (EvE.cons (EvE.tupE (EvE.cons v (EvE.cons (EvE.tupE (EvE.cons EvE.lit EvE.nil)) EvE.nil))) EvE.nil))))
noncomputable def bindB : C := (.seq (.asg (.var 6) (.op2 .idx (.var 4) (.op2 .add (.op2 .add (.var 5) (.lit (.int 1))) (.callF 21 (.cons (.var 0) (.cons (.op2 .sub (.op2 .sub (.var 3) (.lit (.int 1))) (.var 5)) .nil))))))
    (.seq (.asg (.var 7) (.gc (.callF 22 (.cons (.var 0) (.cons (.listE dispC) .nil)))))
    (.seq (.iff (.op1 .notNone (.var 7)) (.seq (.expr (.gc (.callM (.var 1) (Str.ofString "bind") (.cons (.op2 .idx (.var 4) (.var 5)) (.cons (.var 7) .nil)))))
    (.seq (.setI (.var 2) (.var 5) (.var 7))
    .skip)) .skip)
    .skip)))
theorem n1_le {n : Nat} (hn : n ≤ 6) : (n : Int) - 1 ≤ 60000 := by omega
theorem nn_le {n : Nat} (hn : n ≤ 6) : (n : Int) ≤ 60000 := by omega
theorem n1_lt {k n : Nat} (h : k + 1 < n) : (k : Int) < (n : Int) - 1 := by omega
theorem n1_ge {k n : Nat} (h : n - 1 ≤ k) : ¬ (k : Int) < (n : Int) - 1 := by omega
theorem sn_end {N : Int} {k : Nat} {H : AH} (h : N ≤ 60000) (q : ¬ (k : Int) < N) : srcNext (.rng N) k H = some none := by
  unfold srcNext
  dsimp only
  rw [if_pos h, if_neg q]
theorem sn_go {N : Int} {k : Nat} {H : AH} (h : N ≤ 60000) (q : (k : Int) < N) : srcNext (.rng N) k H = some (some (.int (k : Nat))) := by
  unfold srcNext
  dsimp only
  rw [if_pos h, if_pos q]
theorem k_60 {k n : Nat} (h : k + 1 < n) (hn : n ≤ 6) : k ≤ 60000 := by omega
theorem top_lo {k n : Nat} (h : k + 1 < n) : 0 < (n : Int) - 1 - (k : Nat) := by omega
theorem bind_turn {d n k : Nat} {K : As} {o : AO} (h : In n k K) (hk : k + 1 < n) (hn : n ≤ 6) (p : PoolOk o) (x6 x7 : Option AV) :
    ∃ K' o' y6 y7, In n (k + 1) K' ∧ PoolOk o' ∧ EvS (d + 3) bindB (lc n (some (.int (k : Nat))) x6 x7 none none none) (HU n K o) .next (lc n (some (.int (k : Nat))) y6 y7 none none none) (HU n K' o') := by
  obtain ⟨r, o1, r0, r1, p1, tk⟩ := take_ok (d := d + 2) (H := HU n K o) (k := 0) (top := (n : Int) - 1 - (k : Nat)) rfl p (top_lo hk) (by omega)
  obtain ⟨r, rfl⟩ := Int.eq_ofNat_of_zero_le r0
  have hj : k + 1 + r < n := by omega
  obtain ⟨q, v, o2, hq, p2, on⟩ := one_ok (d := d + 1) (H := HU n K o1 ++ [.list (DL (k + 1 + r))]) (k := 0) (j := 8) (vs := DL (k + 1 + r)) rfl p1 rfl (by decide) (by simp [DL]) (by simp [DL])
  have s1 : ∀ x7, EvS (d + 3) (.asg (.var 6) (.op2 .idx (.var 4) (.op2 .add (.op2 .add (.var 5) (.lit (.int 1))) (.callF 21 (.cons (.var 0) (.cons (.op2 .sub (.op2 .sub (.var 3) (.lit (.int 1))) (.var 5)) .nil)))))) (lc n (some (.int (k : Nat))) x6 x7 none none none) (HU n K o) .next (lc n (some (.int (k : Nat))) (some (vv (k + 1 + r))) x7 none none none) (HU n K o1) := fun x7 =>
    EvS.asg (EvE.op2 (EvE.var rfl) (EvE.op2 (EvE.op2 (EvE.var rfl) EvE.lit rfl) (EvE.callF (EvE.cons (EvE.var rfl) (EvE.cons (EvE.op2 (EvE.op2 (EvE.var rfl) EvE.lit rfl) (EvE.var rfl) rfl) EvE.nil)) tk) rfl) (idxL (vs := SL n) rfl (in60 hj hn) (by rw [show ((k : Nat) + 1 + (r : Nat) : Int) = ((k + 1 + r : Nat) : Int) from rfl, Int.toNat_natCast]; exact SL_get hj))) rfl
  have hv : pureA 50 v = true := by
    rcases DL_mem hq with rfl | ⟨t, rfl, _⟩
    · kernel_rfl
    · exact pure_av t
  have s2 : EvS (d + 3) (.asg (.var 7) (.gc (.callF 22 (.cons (.var 0) (.cons (.listE dispC) .nil))))) (lc n (some (.int (k : Nat))) (some (vv (k + 1 + r))) x7 none none none) (HU n K o1) .next (lc n (some (.int (k : Nat))) (some (vv (k + 1 + r))) (some v) none none none) (HU n K o2) :=
    EvS.asg (gc_ok (X := [.list (DL (k + 1 + r))]) (EvE.callF (EvE.cons (EvE.var rfl) (EvE.cons (EvE.listE (disp_ok rfl)) EvE.nil)) on) rfl hv (low_HU (Nat.le_refl _) p2)) rfl
  rcases DL_mem hq with rfl | ⟨t, rfl, ht, hx⟩
  · exact ⟨K, o2, _, _, h.mono (Nat.le_succ _), p2, EvS.seq (s1 _) (EvS.seq s2 (EvS.seq (EvS.iff (z := false) (H1 := HU n K o2) (EvE.op1 (o := .notNone) (x := .none) (EvE.var rfl)) EvS.skip) EvS.skip))⟩
  · have hx : ∀ j ∈ t.vs, k < j ∧ j < n := fun j hj2 => by rw [hx j hj2]; exact ⟨Nat.lt_of_lt_of_le (Nat.lt_succ_self k) (Nat.le_add_right _ _), hj⟩
    refine ⟨K ++ [(k, t)], o2, some (vv (k + 1 + r)), some t.av, h.app (Nat.lt_of_succ_lt hk) ht hx, p2, EvS.seq (s1 _) (EvS.seq s2 (EvS.seq (EvS.iff (z := true) (H1 := HU n K o2) ?_ ?_) EvS.skip))⟩
    · have := EvE.op1 (o := .notNone) (EvE.var (d := d + 3) (i := 7) (loc := lc n (some (.int (k : Nat))) (some (vv (k + 1 + r))) (some t.av) none none none) (H := HU n K o2) rfl)
      rw [av_notNone] at this
      exact this
    rw [if_pos rfl]
    refine EvS.seq (EvS.expr (v := .none) (H1 := (HU n K o2).set 4 (.list (KL n (K ++ [(k, t)])))) (gc_ok (X := []) (EvE.callM (f := 6) (EvE.var rfl) (cc := iC) (dd := 1) rfl (by kernel_rfl) (EvE.cons (EvE.op2 (EvE.var rfl) (EvE.var rfl) (idxL (vs := SL n) rfl (in60 (Nat.lt_of_succ_lt hk) hn) (by rw [Int.toNat_natCast]; exact SL_get (Nat.lt_of_succ_lt hk)))) (EvE.cons (EvE.var rfl) EvE.nil)) ?_) rfl rfl ?_) rfl) ?_
    · rw [List.append_nil]; exact bind_ok h (Nat.lt_of_succ_lt hk) hn p2 ht hx
    · show ((HU n (K ++ [(k, t)]) o2).set 6 (.dict (bkd K))).all (lowO 8) = true
      have a := low_HU (m := 8) (n := n) (K := K ++ [(k, t)]) (Nat.le_refl _) p2
      have b := low_HU (m := 8) (n := n) (K := K) (Nat.le_refl _) p2
      rw [List.all_eq_true] at a b ⊢
      intro x hx
      rcases List.mem_or_eq_of_mem_set hx with hx | hx
      · exact a x hx
      · subst hx; exact b _ (by unfold HU; simp)
    · refine EvS.seq (EvS.setI (EvE.var rfl) (EvE.var rfl) (EvE.var rfl) ?_) EvS.skip
      unfold setItemA
      dsimp only
      rw [show ((HU n K o2).set 4 (.list (KL n (K ++ [(k, t)]))))[6]? = some (.dict (bkd K)) from rfl]
      dsimp only
      rw [dget_bk]
      dsimp only
      rw [if_pos (by unfold bkd; rw [List.length_map]; exact Nat.le_trans h.le (k_60 hk hn)), dPut_bk (h.none (Nat.le_refl _))]
      rfl
theorem k_lt {k m n : Nat} (h : k + (m + 1) = n - 1) : k + 1 < n := Nat.add_lt_of_lt_sub (h ▸ Nat.lt_add_of_pos_right (Nat.succ_pos m))
theorem bind_loop {d n : Nat} (hn : n ≤ 6) (h2 : 2 ≤ n) : ∀ m k K o x5 x6 x7, k + m = n - 1 → In n k K → PoolOk o →
    ∃ K' o' y5 y6 y7, In n (n - 1) K' ∧ PoolOk o' ∧ EvS (d + 3) (.forL (.var 5) (.rng ((n : Int) - 1)) k bindB) (lc n x5 x6 x7 none none none) (HU n K o) .next (lc n y5 y6 y7 none none none) (HU n K' o') := by
  intro m
  induction m with
  | zero =>
    intro k K o x5 x6 x7 hm h p
    refine ⟨K, o, x5, x6, x7, h.mono (Nat.le_of_eq hm), p, EvS.forL_end ?_⟩
    exact sn_end (n1_le hn) (n1_ge (Nat.le_of_eq hm.symm))
  | succ m ih =>
    intro k K o x5 x6 x7 hm h p
    have lt : k + 1 < n := k_lt hm
    obtain ⟨K1, o1, y6, y7, h1, p1, e1⟩ := bind_turn (d := d) h lt hn p x6 x7
    obtain ⟨K2, o2, z5, z6, z7, h2, p2, e2⟩ := ih (k + 1) K1 o1 (some (.int (k : Nat))) y6 y7 ((Nat.succ_add_eq_add_succ k m).trans hm) h1 p1
    refine ⟨K2, o2, z5, z6, z7, h2, p2, EvS.forL_next (v := .int (k : Nat)) ?_ rfl e1 e2⟩
    exact sn_go (n1_le hn) (n1_lt lt)
end Mine
end

section
set_option linter.unusedVariables false
open PySem PySem.W PyProof.Rows PySem.Calls
namespace Mine
theorem eqP_vv (i : Nat) : eqP (vv i) (vv i) = true := by
  unfold vv
  rw [eqP_tt, eqPs_cc, eqPs_cc, eqP_ss, eqP_ii, beq_self_eq_true, beq_self_eq_true]; rfl
theorem eqPs_cons {v : AV} {xs : List AV} (h : eqP v v = true) (k : eqPs xs xs = true) : eqPs (v :: xs) (v :: xs) = true := by
  rw [eqPs_cc, h, k]; rfl
theorem eqP_str (x : Str) : eqP (.str x) (.str x) = true := beq_self_eq_true x
theorem eqP_tup {xs : List AV} (h : eqPs xs xs = true) : eqP (.tup xs) (.tup xs) = true := h
theorem av_tup (t : Ty) : ∃ xs, t.av = .tup xs ∧ pureAs 50 xs = true ∧ eqPs xs xs = true := by
  have nl : eqPs [] [] = true := rfl
  have b1 : eqP bb bb = true := eqP_tup (eqPs_cons (eqP_str _) nl)
  have two : ∀ {x y}, eqP x x = true → eqP y y = true → eqP (.tup [x, y]) (.tup [x, y]) = true := fun h k => eqP_tup (eqPs_cons h (eqPs_cons k nl))
  cases t with
  | v i => exact ⟨_, rfl, rfl, eqPs_cons (eqP_str _) (eqPs_cons (by rw [eqP_ii]; exact beq_self_eq_true _) nl)⟩
  | bool => exact ⟨_, rfl, rfl, eqPs_cons (eqP_str _) nl⟩
  | u8 => exact ⟨_, rfl, rfl, eqPs_cons (eqP_str _) (eqPs_cons (eqP_str _) nl)⟩
  | box i => exact ⟨_, rfl, rfl, eqPs_cons (eqP_str _) (eqPs_cons (eqP_vv i) nl)⟩
  | pr i => exact ⟨_, rfl, rfl, eqPs_cons (eqP_str _) (eqPs_cons (two b1 (eqP_vv i)) nl)⟩
  | ref i => exact ⟨_, rfl, rfl, eqPs_cons (eqP_str _) (eqPs_cons (eqP_str _) (eqPs_cons rfl (eqPs_cons (eqP_vv i) nl)))⟩
  | adt i => exact ⟨_, rfl, rfl, eqPs_cons (eqP_str _) (eqPs_cons (eqP_str _) (eqPs_cons rfl (eqPs_cons (two (eqP_vv i) b1) nl)))⟩
  | tr a b => exact ⟨_, rfl, rfl, eqPs_cons (eqP_str _) (eqPs_cons (eqP_tup (eqPs_cons (eqP_vv a) (eqPs_cons (two (eqP_str _) (eqP_vv b)) (eqPs_cons b1 nl)))) nl)⟩
theorem av_ne (t : Ty) (H : AH) : op2F .ne t.av t.av H = some (.bool false, H) := by
  obtain ⟨xs, e, p, q⟩ := av_tup t
  rw [e]
  show bv H ((if pureAs 50 xs && pureAs 50 xs then some (eqPs xs xs) else none).map (!·)) = _
  rw [p, q]
  rfl
noncomputable def dueW : C := (.whl (.and (.op2 .eq (.op2 .idx (.var 8) (.lit (.int 0))) (.lit (.str (Str.ofString "var")))) (.op2 .isIn (.op2 .idx (.var 8) (.lit (.int 1))) (.var 2))) (.seq (.asg (.var 8) (.op2 .idx (.var 2) (.op2 .idx (.var 8) (.lit (.int 1)))))
    .skip))
theorem due_whl {d n : Nat} {K : As} {o : AO} {t t' : Ty} (c : Ch K t t') (x5 x6 x7 : Option AV) : EvS d dueW (lc n x5 x6 x7 (some t.av) none none) (HU n K o) .next (lc n x5 x6 x7 (some t'.av) none none) (HU n K o) := by
  have hd : ∀ t : Ty, EvE d (.op2 .eq (.op2 .idx (.var 8) (.lit (.int 0))) (.lit (.str (Str.ofString "var")))) (lc n x5 x6 x7 (some t.av) none none) (HU n K o) (.bool t.isV) (HU n K o) := fun t =>
    EvE.op2 (EvE.op2 (EvE.var rfl) EvE.lit (av_idx0 t _)) EvE.lit (hd_var t _)
  induction c with
  | @step i t t' e c ih =>
    have b := in_bk (H := HU n K o) rfl i
    rw [e] at b
    exact EvS.whl_t (EvE.and_t (hd (.v i)) (EvE.op2 (EvE.op2 (EvE.var rfl) EvE.lit (v_idx1 i _)) (EvE.var rfl) b)) (EvS.seq (EvS.asg (EvE.op2 (EvE.var rfl) (EvE.op2 (EvE.var rfl) EvE.lit (v_idx1 i _)) (idx_bk rfl e)) rfl) EvS.skip) ih
  | @free i e =>
    have b := in_bk (H := HU n K o) rfl i
    rw [e] at b
    exact EvS.whl_f (EvE.and_t (hd (.v i)) (EvE.op2 (EvE.op2 (EvE.var rfl) EvE.lit (v_idx1 i _)) (EvE.var rfl) b))
  | @stop t e =>
    have := hd t
    rw [e] at this
    exact EvS.whl_f (EvE.and_f this)
noncomputable def dueB : C := (.seq (.asg (.var 8) (.tupE (.cons (.lit (.str (Str.ofString "var"))) (.cons (.var 5) .nil))))
    (.seq dueW
    (.seq (.iff (.op2 .ne (.callM (.var 1) (Str.ofString "shallow") (.cons (.op2 .idx (.var 4) (.var 5)) .nil)) (.var 8)) (.seq (.ret (.lit (.bool false)))
    .skip) .skip)
    .skip)))
theorem kn_lt {k m n : Nat} (h : k + (m + 1) = n) : k < n := h ▸ Nat.lt_add_of_pos_right (Nat.succ_pos m)
theorem kn_up {k m n : Nat} (h : k + (m + 1) = n) : k + 1 + m = n := (Nat.succ_add_eq_add_succ k m).trans h
theorem nat_ge {k n : Nat} (h : k + 0 = n) : ¬ (k : Int) < (n : Nat) := fun z => Nat.lt_irrefl _ (Nat.lt_of_lt_of_eq (Int.ofNat_lt.mp z) h.symm)
theorem due_turn {d n k : Nat} {K : As} {o : AO} (h : In n n K) (hk : k < n) (hn : n ≤ 6) (x6 x7 x8 : Option AV) :
    ∃ y8, EvS (d + 1) dueB (lc n (some (.int (k : Nat))) x6 x7 x8 none none) (HU n K o) .next (lc n (some (.int (k : Nat))) x6 x7 y8 none none) (HU n K o) := by
  have hb : (Ty.v k).bd n := fun j hj => by rw [List.mem_singleton.mp hj]; exact hk
  obtain ⟨t', c, _⟩ := ch_tot h.kb h.nt hb
  refine ⟨some t'.av, EvS.seq (EvS.asg (v := (Ty.v k).av) (loc' := lc n (some (.int (k : Nat))) x6 x7 (some (Ty.v k).av) none none) (EvE.tupE (EvE.cons EvE.lit (EvE.cons (EvE.var rfl) EvE.nil))) rfl) (EvS.seq (due_whl c _ _ _) (EvS.seq (EvS.iff (z := false) (EvE.op2 (EvE.callM (f := 4) (EvE.var rfl) (cc := iC) (dd := 1) rfl (by kernel_rfl) (EvE.cons (EvE.op2 (EvE.var rfl) (EvE.var rfl) (idxL (vs := SL n) (v := (Ty.v k).av) rfl (in60 hk hn) (by rw [Int.toNat_natCast]; exact SL_get hk))) EvE.nil) (shallow_ok (HK_HU n K o) h.kb hn c hb)) (EvE.var rfl) (av_ne t' _)) EvS.skip) EvS.skip))⟩
theorem due_loop {d n : Nat} {K : As} {o : AO} (h : In n n K) (hn : n ≤ 6) : ∀ m k x5 x6 x7 x8, k + m = n →
    ∃ y5 y8, EvS (d + 1) (.forL (.var 5) (.rng (n : Nat)) k dueB) (lc n x5 x6 x7 x8 none none) (HU n K o) .next (lc n y5 x6 x7 y8 none none) (HU n K o) := by
  intro m
  induction m with
  | zero =>
    intro k x5 x6 x7 x8 hm
    refine ⟨x5, x8, EvS.forL_end ?_⟩
    exact sn_end (nn_le hn) (nat_ge hm)
  | succ m ih =>
    intro k x5 x6 x7 x8 hm
    obtain ⟨y8, e1⟩ := due_turn (d := d) (o := o) h (kn_lt hm) hn x6 x7 x8
    obtain ⟨z5, z8, e2⟩ := ih (k + 1) (some (.int (k : Nat))) x6 x7 y8 (kn_up hm)
    exact ⟨z5, z8, EvS.forL_next (v := .int (k : Nat)) (sn_go (nn_le hn) (Int.ofNat_lt.mpr (kn_lt hm))) rfl e1 e2⟩
noncomputable def Fr (n : Nat) (K : As) (v : AV) : Prop := ∃ i : Nat, v = .int i ∧ i < n ∧ K.lookup i = none
theorem free_loop {d n : Nat} {K : As} {o : AO} (hn : n ≤ 6) (x5 x6 x7 x8 : Option AV) : ∀ m k acc, k + m = n → acc.length ≤ k → (∀ v ∈ acc, Fr n K v) →
    ∃ F, F.length ≤ n ∧ (∀ v ∈ F, Fr n K v) ∧ EvE d (.compL (.var 11) (.rng (n : Nat)) k (.op2 .notIn (.var 11) (.var 2)) (.var 11) acc) (lc n x5 x6 x7 x8 none none) (HU n K o) (.tup F) (HU n K o) := by
  intro m
  induction m with
  | zero =>
    intro k acc hm hl ha
    refine ⟨acc, hm ▸ hl, ha, EvE.compL_end ?_⟩
    exact sn_end (nn_le hn) (nat_ge hm)
  | succ m ih =>
    intro k acc hm hl ha
    have lt : k < n := kn_lt hm
    have sn : srcNext (.rng (n : Nat)) k (HU n K o) = some (some (.int (k : Nat))) := sn_go (nn_le hn) (Int.ofNat_lt.mpr lt)
    have b := notin_bk (K := K) (H := HU n K o) rfl k
    cases e : K.lookup k with
    | none =>
      rw [e] at b
      obtain ⟨F, hF, hf, ev⟩ := ih (k + 1) (acc ++ [.int (k : Nat)]) (kn_up hm) (by rw [List.length_append]; exact Nat.succ_le_succ hl) (by
        intro v hv
        rcases List.mem_append.mp hv with hv | hv
        · exact ha v hv
        · rw [List.mem_singleton.mp hv]; exact ⟨k, rfl, lt, e⟩)
      exact ⟨F, hF, hf, EvE.compL_t sn rfl (EvE.op2 (EvE.var rfl) (EvE.var rfl) b) (Nat.le_trans hl (Nat.le_trans (Nat.le_of_lt lt) (Nat.le_trans hn (by decide)))) (EvE.var rfl) ev⟩
    | some t =>
      rw [e] at b
      obtain ⟨F, hF, hf, ev⟩ := ih (k + 1) acc (kn_up hm) (Nat.le_succ_of_le hl) ha
      exact ⟨F, hF, hf, EvE.compL_f sn rfl (EvE.op2 (EvE.var rfl) (EvE.var rfl) b) ev⟩
noncomputable def lastB : C := (.seq (.iff (.or (.op2 .ne (.gc (.callM (.var 1) (Str.ofString "occurs") (.cons (.tupE (.cons (.lit (.str (Str.ofString "var"))) (.cons (.var 5) .nil))) (.cons (.var 10) .nil)))) (.gc (.callF 26 (.cons (.var 2) (.cons (.var 5) (.cons (.var 10) .nil)))))) (.not (.gc (.callM (.var 1) (Str.ofString "occurs") (.cons (.tupE (.cons (.lit (.str (Str.ofString "var"))) (.cons (.var 5) .nil))) (.cons (.op2 .idx (.var 4) (.var 5)) .nil)))))) (.seq (.ret (.lit (.bool false)))
    .skip) .skip)
    .skip)
theorem ne_bool (b : Bool) (H : AH) : op2F .ne (.bool b) (.bool b) H = some (.bool false, H) := by cases b <;> rfl
theorem w_le (T : Ty) (n : Nat) : T.w n ≤ 8 * n + 3 := by
  have q := fun i => Nat.mul_le_mul_left 4 (Nat.sub_le n i)
  have one : 1 ≤ 4 * n + 4 * n + 3 := Nat.le_trans (by decide) (Nat.le_add_left 3 _)
  have p : ∀ i c, c ≤ 3 → 4 * (n - i) + c ≤ 4 * n + 4 * n + 3 := fun i c h => Nat.add_le_add (Nat.le_trans (q i) (Nat.le_add_right _ _)) h
  rw [show 8 * n = 4 * n + 4 * n from Nat.add_mul 4 4 n]
  cases T with
  | v i => exact p i 0 (by decide)
  | bool => exact one
  | u8 => exact one
  | tr a b => exact Nat.add_le_add_right (Nat.add_le_add (q a) (q b)) 3
  | _ i => exact p i _ (by decide)
theorem w_60 {n : Nat} (hn : n ≤ 6) : 8 * n + 3 ≤ 4000 := by omega
theorem last_turn {d n u : Nat} {K : As} {o : AO} (h : In n n K) (hn : n ≤ 6) (p : PoolOk o) (hu : u < n) (fu : K.lookup u = none) {F : List AV} (hF : ∀ v ∈ F, Fr n K v) {T : Ty} (hT : T.bd n) (x6 x7 x8 : Option AV) :
    EvS (d + 3) lastB (lc n (some (.int (u : Nat))) x6 x7 x8 (some (.obj 8)) (some T.av)) (HU n K o ++ [.list F]) .next (lc n (some (.int (u : Nat))) x6 x7 x8 (some (.obj 8)) (some T.av)) (HU n K o ++ [.list F]) := by
  obtain ⟨b, c, w, hc⟩ := wi_tot (u := u) h.kb h.nt (Wt n [T]) [T] (fun t ht => by rw [List.mem_singleton.mp ht]; exact hT) (Nat.le_refl _)
  have hw : Wt n [T] ≤ 4000 := by
    unfold Wt
    simp only [List.map_cons, List.map_nil, List.sum_cons, List.sum_nil]
    exact Nat.le_trans (Nat.add_zero _ ▸ w_le T n) (w_60 hn)
  have hk := (HK_HU n K o).app (X := [.list F])
  obtain ⟨y1, o1⟩ := occurs_ok (d := d + 1) hk h.kb hn w hT (Nat.le_trans hc hw)
  obtain ⟨y2, o2⟩ := within_ok (d := d + 1) (H := HU n K o ++ [.list F]) rfl w (Nat.le_trans hc hw)
  have hb : (Ty.v u).bd n := fun j hj => by rw [List.mem_singleton.mp hj]; exact hu
  obtain ⟨y3, o3⟩ := occurs_ok (d := d + 1) (T := .v u) hk h.kb hn (.hit (.free fu)) hb (Nat.zero_le _)
  have low : (HU n K o ++ [AO.list F]).all (lowO (HU n K o ++ [AO.list F]).length) = true := by
    show (HU n K o ++ [AO.list F]).all (lowO 9) = true
    rw [List.all_append, low_HU (by decide) p, Bool.true_and]
    simp only [List.all_cons, List.all_nil, Bool.and_true]
    unfold lowO
    refine lowAs_all fun x hx => ?_
    obtain ⟨i, rfl, _⟩ := hF x hx
    unfold lowA; rfl
  refine EvS.seq (EvS.iff (z := false) (H1 := HU n K o ++ [AO.list F]) (EvE.or_f (EvE.op2 (gc_ok (H2 := HU n K o ++ [AO.list F]) (EvE.callM (f := 5) (EvE.var rfl) (cc := iC) (dd := 1) rfl (by kernel_rfl) (EvE.cons (v := vv u) (EvE.tupE (EvE.cons EvE.lit (EvE.cons (EvE.var rfl) EvE.nil))) (EvE.cons (EvE.var rfl) EvE.nil)) o1) rfl rfl low) (gc_ok (H2 := HU n K o ++ [AO.list F]) (EvE.callF (EvE.cons (EvE.var rfl) (EvE.cons (EvE.var rfl) (EvE.cons (EvE.var rfl) EvE.nil))) o2) rfl rfl low) (ne_bool b _)) (EvE.not (z := true) (gc_ok (H2 := HU n K o ++ [AO.list F]) (EvE.callM (f := 5) (EvE.var rfl) (cc := iC) (dd := 1) rfl (by kernel_rfl) (EvE.cons (v := vv u) (EvE.tupE (EvE.cons EvE.lit (EvE.cons (EvE.var rfl) EvE.nil))) (EvE.cons (EvE.op2 (EvE.var rfl) (EvE.var rfl) (idxL (vs := SL n) (v := (Ty.v u).av) rfl ⟨by omega, by omega⟩ (by rw [Int.toNat_natCast]; exact SL_get hu))) EvE.nil)) o3) rfl rfl low))) EvS.skip) EvS.skip
theorem last_loop {d n : Nat} {K : As} {o : AO} (h : In n n K) (hn : n ≤ 6) (p : PoolOk o) {F : List AV} (hF : ∀ v ∈ F, Fr n K v) (hl : F.length ≤ n) {T : Ty} (hT : T.bd n) (x6 x7 x8 : Option AV) : ∀ m k x5, k + m = F.length →
    ∃ y5, EvS (d + 3) (.forL (.var 5) (.vals (.obj 8)) k lastB) (lc n x5 x6 x7 x8 (some (.obj 8)) (some T.av)) (HU n K o ++ [.list F]) .next (lc n y5 x6 x7 x8 (some (.obj 8)) (some T.av)) (HU n K o ++ [.list F]) := by
  have sn : ∀ k, srcNext (.vals (.obj 8)) k (HU n K o ++ [.list F]) = some (F[k]?) := by
    intro k
    unfold srcNext itemsOf
    dsimp only
    rw [show (HU n K o ++ [AO.list F])[8]? = some (.list F) from rfl]
    dsimp only
    rw [if_pos (Nat.le_trans hl (Nat.le_trans hn (by decide)))]
  intro m
  induction m with
  | zero =>
    intro k x5 hm
    refine ⟨x5, EvS.forL_end ?_⟩
    rw [sn, List.getElem?_eq_none (show F.length ≤ k from Nat.le_of_eq hm.symm)]
  | succ m ih =>
    intro k x5 hm
    have lt : k < F.length := kn_lt hm
    obtain ⟨u, hu, hu2, fu⟩ := hF F[k] (List.getElem_mem (kn_lt hm))
    obtain ⟨y5, e2⟩ := ih (k + 1) (some (.int (u : Nat))) (kn_up hm)
    refine ⟨y5, EvS.forL_next (v := .int (u : Nat)) ?_ rfl (last_turn h hn p hu2 fu hF hT x6 x7 x8) e2⟩
    rw [sn, List.getElem?_eq_getElem (kn_lt hm), hu]
end Mine
end

section
set_option linter.unusedVariables false
open PySem PySem.W PyProof.Rows PySem.Calls
namespace Mine
theorem fresh_ok {d r : Nat} (hr : r < 5) (o : AO) : EvS (d + 3) (.asg (.var 4) (.comp (.var 12) (.sRng (.cons (.var 3) .nil)) (.lit (.bool true)) (.callM (.var 1) (Str.ofString "fresh") .nil))) [some (.obj 0), some (.obj 2), some (.obj 6), some (.int ((r + 2 : Nat) : Int)), none, none, none, none, none, none, none, none, none] [o, atA, .inst iC 1, .list [], .list [], .list [], .dict []] .next (lc (r + 2) none none none none none none) (HU (r + 2) [] o) := by
  match r, hr with
  | 0, _ => exact ⟨60, by kernel_rfl⟩
  | 1, _ => exact ⟨60, by kernel_rfl⟩
  | 2, _ => exact ⟨60, by kernel_rfl⟩
  | 3, _ => exact ⟨60, by kernel_rfl⟩
  | 4, _ => exact ⟨60, by kernel_rfl⟩
theorem SL_ne {n : Nat} (h : 2 ≤ n) : SL n ≠ [] := by
  intro e
  have := SL_get (n := n) (i := 0) (by exact Nat.le_of_lt ‹_›)
  rw [e] at this
  cases this
theorem SL_len {n : Nat} : (SL n).length = n := by unfold SL; rw [List.length_map, List.length_range]
theorem SL_mem {n r : Nat} {v : AV} (h : (SL n)[r]? = some v) : ∃ a, a < n ∧ v = vv a := by
  obtain ⟨a, ha, rfl⟩ := List.mem_map.mp (List.mem_of_getElem? h)
  exact ⟨a, List.mem_range.mp ha, rfl⟩
theorem one_SL {d n : Nat} {K : As} {o : AO} {X : AH} (p : PoolOk o) (h2 : 2 ≤ n) (hn : n ≤ 6) : ∃ a o', a < n ∧ PoolOk o' ∧ EvF (d + 1) 22 [.obj 0, .obj 7] (HU n K o ++ X) (vv a) (HU n K o' ++ X) := by
  obtain ⟨r, v, o', hr, p', e⟩ := one_ok (d := d) (H := HU n K o ++ X) (k := 0) (j := 7) (vs := SL n) rfl p rfl (by decide) (SL_ne h2) (by rw [SL_len]; omega)
  obtain ⟨a, ha, rfl⟩ := SL_mem hr
  exact ⟨a, o', ha, p', e⟩
theorem unknowns_ok {d : Nat} {o : AO} (p : PoolOk o) : ∃ n K F o', PoolOk o' ∧ EvF (d + 3) 27 [.obj 0] [o] (.bool true) (HU n K o' ++ [.list F]) := by
  obtain ⟨r, o1, r0, r1, p1, tk⟩ := take_ok (d := d + 2) (H := [o, atA, .inst iC 1, .list [], .list [], .list [], .dict []]) (k := 0) (top := 5) rfl p (by omega) (by decide)
  obtain ⟨r, rfl⟩ := Int.eq_ofNat_of_zero_le r0
  have fr := fresh_ok (d := d) (r := r) (by omega) o1
  have h2 : 2 ≤ r + 2 := by simp
  have hn : r + 2 ≤ 6 := by omega
  have e23 : op2F .add (.int 2) (.int (r : Nat)) [o1, atA, .inst iC 1, .list [], .list [], .list [], .dict []] = some (.int ((r + 2 : Nat) : Int), [o1, atA, .inst iC 1, .list [], .list [], .list [], .dict []]) := by
    show some (AV.int (2 + (r : Nat)), _) = _
    rw [show (2 + (r : Nat) : Int) = ((r + 2 : Nat) : Int) by omega]
  generalize r + 2 = n at fr h2 hn e23
  obtain ⟨K, o2, b5, b6, b7, hI, p2, e3⟩ := bind_loop (d := d) hn h2 (n - 1) 0 [] o1 none none none (by simp) ⟨(fun _ _ h => nomatch h), (fun _ _ h => nomatch h), (fun _ _ h => nomatch h), Nat.le_refl _⟩ p1
  have hI := hI.mono (show n - 1 ≤ n by simp)
  obtain ⟨c5, c8, e4⟩ := due_loop (d := d + 2) (o := o2) hI hn n 0 b5 b6 b7 none (by omega)
  obtain ⟨F, hl, hF, e5⟩ := free_loop (d := d + 3) (K := K) (o := o2) hn c5 b6 b7 c8 n 0 [] (by omega) (Nat.le_refl _) (fun _ h => nomatch h)
  obtain ⟨a, o3, ha, p3, e6⟩ := one_SL (d := d + 1) (n := n) (K := K) (X := [.list F]) p2 h2 hn
  obtain ⟨b, o4, hb, p4, e7⟩ := one_SL (d := d + 1) (n := n) (K := K) (X := [.list F]) p3 h2 hn
  obtain ⟨y5, e8⟩ := last_loop (d := d) hI hn p4 hF hl (T := .tr a b) (by intro j hj; simp [Ty.vs] at hj; omega) b6 b7 c8 F.length 0 c5 (by simp)
  refine ⟨n, K, F, o4, p4, ?_⟩
  refine EvF.of_ret (F := f_law_unknowns_right) (l0 := [some (.obj 0), none, none, none, none, none, none, none, none, none, none, none, none]) rfl rfl (loc' := lc n y5 b6 b7 c8 (some (.obj 8)) (some (Ty.tr a b).av)) ?_
  refine EvS.seq (EvS.asg (loc' := [some (.obj 0), some (.obj 2), some (.obj 6), none, none, none, none, none, none, none, none, none, none]) (EvE.tupE (EvE.cons (new_ok o _) (EvE.cons EvE.dictE EvE.nil))) rfl) ?_
  refine EvS.seq (EvS.asg (v := .int (n : Nat)) (loc' := [some (.obj 0), some (.obj 2), some (.obj 6), some (.int (n : Nat)), none, none, none, none, none, none, none, none, none]) (EvE.op2 EvE.lit (EvE.callF (EvE.cons (EvE.var rfl) (EvE.cons EvE.lit EvE.nil)) tk) e23) rfl) ?_
  refine EvS.seq fr ?_
  refine EvS.seq (EvS.for_rng (EvE.cons (EvE.op2 (EvE.var rfl) EvE.lit rfl) EvE.nil) ⟨by omega, by omega⟩ e3) ?_
  refine EvS.seq (EvS.for_rng (EvE.cons (EvE.var rfl) EvE.nil) ⟨by omega, by omega⟩ e4) ?_
  refine EvS.seq (EvS.asg (loc' := lc n c5 b6 b7 c8 (some (.obj 8)) none) (EvE.comp_rng (H0 := []) rfl (EvE.cons (EvE.var rfl) EvE.nil) ⟨by omega, by omega⟩ e5) rfl) ?_
  refine EvS.seq (EvS.asg (v := (Ty.tr a b).av) (loc' := lc n c5 b6 b7 c8 (some (.obj 8)) (some (Ty.tr a b).av)) (EvE.tupE (EvE.cons EvE.lit (EvE.cons (EvE.tupE (EvE.cons (EvE.callF (EvE.cons (EvE.var rfl) (EvE.cons (EvE.var rfl) EvE.nil)) e6) (EvE.cons (EvE.tupE (EvE.cons EvE.lit (EvE.cons (EvE.callF (EvE.cons (EvE.var rfl) (EvE.cons (EvE.var rfl) EvE.nil)) e7) EvE.nil))) (EvE.cons (EvE.tupE (EvE.cons EvE.lit EvE.nil)) EvE.nil)))) EvE.nil))) rfl) ?_
  refine EvS.seq (EvS.for_var (j := 8) rfl rfl e8) ?_
  exact EvS.seq_ret (EvS.ret EvE.lit)
end Mine
end

section
set_option linter.unusedVariables false
open PySem PySem.W PyProof.Rows PySem.Calls
namespace Mine
noncomputable def sa : AV := .str (Str.ofString "a")
noncomputable def sb : AV := .str (Str.ofString "b")
noncomputable def sc : AV := .str (Str.ofString "c")
noncomputable def sA : AV := .str (Str.ofString "A")
noncomputable def CAB : AO := .list [sc, sa, sb]
noncomputable def nm (x y z : Bool) : List AV := (if x then [sc] else []) ++ (if y then [sa] else []) ++ (if z then [sb] else [])
noncomputable def imp (v : AV) : AV := match v with
  | .str s => .str (Str.ofString "impl::" ++ s)
  | v => v
noncomputable def cm (x y z : Bool) : AO := .list ((nm x y z).map fun v => .tup [v, imp v])
noncomputable def dt (x y z : Bool) : AO := .dict ((nm x y z).map fun v => (v, imp v))
theorem take_cond {d : Nat} {o : AO} {R : AH} {loc : Loc} (h0 : loc[0]? = some (some (.obj 0))) (p : PoolOk o) : ∃ b o', PoolOk o' ∧ EvE (d + 1) (.op2 .gt (.callF 21 (.cons (.var 0) (.cons (.lit (.int 3)) .nil))) (.lit (.int 0))) loc (o :: R) (.bool b) (o' :: R) := by
  obtain ⟨r, o', r0, r1, p', e⟩ := take_ok (d := d) (H := o :: R) (k := 0) (top := 3) rfl p (by omega) (by omega)
  exact ⟨decide (0 < r), o', p', EvE.op2 (EvE.callF (EvE.cons (EvE.var h0) (EvE.cons EvE.lit EvE.nil)) e) EvE.lit rfl⟩
theorem compL_if {d : Nat} {S : Src} {k : Nat} {t cond elt : C} {loc l1 : Loc} {H H1 H3 : AH} {v x : AV} {acc vs : List AV} {b : Bool} (h : srcNext S k H = some (some v)) (ha : asgV t v loc = some l1) (hc : EvE d cond l1 H (.bool b) H1) (hz : acc.length ≤ 60000) (he : EvE d elt l1 H1 x H1) (hn : EvE d (.compL t S (k + 1) cond elt (acc ++ if b then [x] else [])) loc H1 (.tup vs) H3) :
    EvE d (.compL t S k cond elt acc) loc H (.tup vs) H3 := by
  cases b with
  | true => exact EvE.compL_t h ha hc hz he hn
  | false => exact EvE.compL_f h ha hc (by simpa using hn)
noncomputable def namesC : C := (.comp (.var 14) (.listE (.cons (.lit (.str (Str.ofString "c"))) (.cons (.lit (.str (Str.ofString "a"))) (.cons (.lit (.str (Str.ofString "b"))) .nil)))) (.op2 .gt (.callF 21 (.cons (.var 0) (.cons (.lit (.int 3)) .nil))) (.lit (.int 0))) (.var 14))
theorem names_ok {d : Nat} {o : AO} {R : AH} {x1 x2 x3 x4 x5 x6 x7 x8 x9 x10 x11 x12 x13 : Option AV} (p : PoolOk o) : ∃ x y z o', PoolOk o' ∧ EvE (d + 1) namesC [some (.obj 0), x1, x2, x3, x4, x5, x6, x7, x8, x9, x10, x11, x12, x13, none] (o :: R) (.obj (R.length + 2)) (o' :: (R ++ [CAB, .list (nm x y z)])) := by
  obtain ⟨x, o1, p1, e1⟩ := take_cond (d := d) (R := R ++ [CAB]) (loc := [some (.obj 0), x1, x2, x3, x4, x5, x6, x7, x8, x9, x10, x11, x12, x13, some sc]) rfl p
  obtain ⟨y, o2, p2, e2⟩ := take_cond (d := d) (R := R ++ [CAB]) (loc := [some (.obj 0), x1, x2, x3, x4, x5, x6, x7, x8, x9, x10, x11, x12, x13, some sa]) rfl p1
  obtain ⟨z, o3, p3, e3⟩ := take_cond (d := d) (R := R ++ [CAB]) (loc := [some (.obj 0), x1, x2, x3, x4, x5, x6, x7, x8, x9, x10, x11, x12, x13, some sb]) rfl p2
  refine ⟨x, y, z, o3, p3, ?_⟩
  have gl : ∀ o : AO, (o :: (R ++ [CAB]))[(o :: R).length]? = some CAB := fun o => get_last (o :: R) CAB
  have sn : ∀ (o' : AO) k, srcNext (.vals (.obj (o :: R).length)) k (o' :: (R ++ [CAB])) = some (([sc, sa, sb] : List AV)[k]?) := by
    intro o' k
    have g : (o' :: (R ++ [CAB]))[(o :: R).length]? = some CAB := gl o'
    unfold srcNext itemsOf
    dsimp only
    rw [g]
    unfold CAB
    dsimp only
    rw [if_pos (by decide)]
  have cl : EvE (d + 1) (.compL (.var 14) (.vals (.obj (o :: R).length)) 0 (.op2 .gt (.callF 21 (.cons (.var 0) (.cons (.lit (.int 3)) .nil))) (.lit (.int 0))) (.var 14) []) [some (.obj 0), x1, x2, x3, x4, x5, x6, x7, x8, x9, x10, x11, x12, x13, none] (o :: (R ++ [CAB])) (.tup (nm x y z)) (o3 :: (R ++ [CAB])) := by
    refine compL_if (sn o 0) rfl e1 (by decide) (EvE.var rfl) ?_
    refine compL_if (sn o1 1) rfl e2 (by cases x <;> decide) (EvE.var rfl) ?_
    refine compL_if (sn o2 2) rfl e3 (by cases x <;> cases y <;> decide) (EvE.var rfl) ?_
    rw [List.nil_append]
    exact EvE.compL_end (sn o3 3)
  have := EvE.comp_vals (d := d + 1) (t := .var 14) (s := (.listE (.cons (.lit (.str (Str.ofString "c"))) (.cons (.lit (.str (Str.ofString "a"))) (.cons (.lit (.str (Str.ofString "b"))) .nil))))) (x := .obj (o :: R).length) (H := o :: R) (H1 := o :: (R ++ [CAB])) (loc := [some (.obj 0), x1, x2, x3, x4, x5, x6, x7, x8, x9, x10, x11, x12, x13, none]) (fun _ _ _ _ _ => rfl) rfl (EvE.listE (EvE.cons EvE.lit (EvE.cons EvE.lit (EvE.cons EvE.lit EvE.nil)))) (by unfold itemsOf; dsimp only; rw [gl]; rfl) cl
  have e : (o3 :: (R ++ [CAB])).length = R.length + 2 := by simp
  rw [e] at this
  have e2 : o3 :: (R ++ [CAB]) ++ [.list (nm x y z)] = o3 :: (R ++ [CAB, .list (nm x y z)]) := by simp
  rw [e2] at this
  exact this
theorem impl_A {d : Nat} (x y z : Bool) (a0 a1 a2 a3 a4 a5 : AO) (trait p : AV) : EvF (d + 1) 32 [.int 0, trait, .tup [], p, .obj 6] [a0, a1, a2, a3, a4, a5, .list (nm x y z)] (.obj 11) [a0, a1, a2, a3, a4, a5, .list (nm x y z), prm, cm x y z, dt x y z, implA (.int 0) trait p (.obj 9) (.obj 7), .inst rC 10] := by
  refine EvF.of (n := 60) (l := []) (l' := []) ?_
  cases x <;> cases y <;> cases z <;> kernel_rfl
theorem impl_B {d : Nat} (x y z : Bool) (a0 a1 a2 a3 a4 a5 a6 a7 a8 a9 a10 a11 a12 : AO) (trait p : AV) : EvF (d + 1) 32 [.int 1, trait, .tup [], p, .obj 13] [a0, a1, a2, a3, a4, a5, a6, a7, a8, a9, a10, a11, a12, .list (nm x y z)] (.obj 18) [a0, a1, a2, a3, a4, a5, a6, a7, a8, a9, a10, a11, a12, .list (nm x y z), prm, cm x y z, dt x y z, implA (.int 1) trait p (.obj 16) (.obj 14), .inst rC 17] := by
  refine EvF.of (n := 60) (l := []) (l' := []) ?_
  cases x <;> cases y <;> cases z <;> kernel_rfl
noncomputable def LA : AO := .list (pats.take 8)
noncomputable def LB : AO := .list (pats.drop 8)
theorem pats_ok {d : Nat} (o : AO) : EvF d 30 [] [o] (.obj 3) [o, LA, LB, .list pats] :=
  EvF.of (n := 60) (l := []) (l' := []) (by kernel_rfl)
noncomputable def tup3 (i j : Nat) (t : AV) : AV := .tup [.obj i, .obj j, t]
noncomputable def H5 (o : AO) : AH := [o, LA, LB, .list pats, .list []]
noncomputable def H12 (o : AO) (x y z : Bool) (t p : AV) : AH := [o, LA, LB, .list pats, .list [tup3 11 6 t], CAB, .list (nm x y z), prm, cm x y z, dt x y z, implA (.int 0) t p (.obj 9) (.obj 7), .inst rC 10]
noncomputable def H19 (o : AO) (x y z : Bool) (t p : AV) (x' y' z' : Bool) (t' p' : AV) : AH := HI o LA LB (.list pats) (.list [tup3 11 6 t, tup3 18 13 t']) CAB (.list (nm x y z)) (cm x y z) (dt x y z) CAB (.list (nm x' y' z')) (cm x' y' z') (dt x' y' z') t t' p p'
noncomputable def LowM (m : Nat) (x : AO) : Prop := lowO m x = true
theorem low_nm (m : Nat) (x y z : Bool) : lowO m (.list (nm x y z)) = true := by cases x <;> cases y <;> cases z <;> kernel_rfl
theorem low_cm (m : Nat) (x y z : Bool) : lowO m (cm x y z) = true := by cases x <;> cases y <;> cases z <;> kernel_rfl
theorem low_dt (m : Nat) (x y z : Bool) : lowO m (dt x y z) = true := by cases x <;> cases y <;> cases z <;> kernel_rfl
theorem low_pats (m : Nat) : lowO m (.list pats) = true := by kernel_rfl
theorem low_LA (m : Nat) : lowO m LA = true := by kernel_rfl
theorem low_LB (m : Nat) : lowO m LB = true := by kernel_rfl
theorem low_prm (m : Nat) : lowO m prm = true := by kernel_rfl
theorem low_CAB (m : Nat) : lowO m CAB = true := by kernel_rfl
theorem pats_mem {i : Nat} {p : AV} (h : pats[i]? = some p) : (∀ m, lowA m p = true) ∧ pureA 50 p = true := by
  have h := List.mem_of_getElem? h
  unfold pats at h
  simp only [List.mem_cons, List.not_mem_nil, or_false] at h
  rcases h with h | h | h | h | h | h | h | h | h | h | h | h | h <;> subst h <;> exact ⟨fun m => by kernel_rfl, by kernel_rfl⟩
noncomputable def Tr (t : AV) : Prop := t = .none ∨ t = sA
theorem Tr.low {t : AV} (h : Tr t) (m : Nat) : lowA m t = true := by rcases h with rfl | rfl <;> kernel_rfl
end Mine
end

section
set_option linter.unusedVariables false
open PySem PySem.W PyProof.Rows PySem.Calls
namespace Mine
theorem low_impl {m i j : Nat} {n : Int} {t p : AV} (ht : lowA m t = true) (hp : lowA m p = true) (hi : i < m) (hj : j < m) : lowO m (implA (.int n) t p (.obj i) (.obj j)) = true := by
  unfold implA lowO
  simp only [List.all_cons, List.all_nil, Bool.and_true, Bool.and_eq_true]
  refine ⟨by unfold lowA; rfl, by unfold lowA lowAs; rfl, ?_, ht, by unfold lowA lowAs; rfl, hp, ?_, by unfold lowA; rfl⟩
  · unfold lowA; exact decide_eq_true hj
  · unfold lowA; exact decide_eq_true hi
theorem low_tup3 {m i j : Nat} {t : AV} (ht : lowA m t = true) (hi : i < m) (hj : j < m) : lowA m (tup3 i j t) = true := by
  unfold tup3
  simp only [lowA, lowAs, ht, Bool.and_true, Bool.and_eq_true]
  exact ⟨decide_eq_true hi, decide_eq_true hj⟩
theorem low_inst {m j : Nat} {c : Addr} (h : j < m) : lowO m (.inst c j) = true := by unfold lowO; exact decide_eq_true h
theorem low_emp (m : Nat) : lowO m (.list []) = true := by unfold lowO lowAs; rfl
theorem low_one {m : Nat} {v : AV} (h : lowA m v = true) : lowO m (.list [v]) = true := by show lowAs m [v] = true; simp only [lowAs, h, Bool.and_true]
theorem low_two {m : Nat} {v w : AV} (h : lowA m v = true) (h2 : lowA m w = true) : lowO m (.list [v, w]) = true := by show lowAs m [v, w] = true; simp only [lowAs, h, h2, Bool.and_true]
noncomputable def traitC : C := (.gc (.callF 22 (.cons (.var 0) (.cons (.listE (.cons (.lit .none) (.cons (.lit .none) (.cons (.lit .none) (.cons (.lit (.str (Str.ofString "A"))) .nil))))) .nil))))
theorem trait_ok {d : Nat} {o : AO} {R : AH} {loc : Loc} (h0 : loc[0]? = some (some (.obj 0))) (p : PoolOk o) (hl : R.length ≤ 500) (low : ∀ o', PoolOk o' → (o' :: R).all (lowO (o :: R).length) = true) : ∃ t o', Tr t ∧ PoolOk o' ∧ EvE (d + 3) traitC loc (o :: R) t (o' :: R) := by
  obtain ⟨r, v, o', hr, p', e⟩ := one_ok (d := d + 1) (H := o :: R ++ [.list [.none, .none, .none, sA]]) (k := 0) (j := (o :: R).length) (vs := [.none, .none, .none, sA]) rfl p (get_last _ _) (by simp) (by simp) (by decide)
  have tr : Tr v := by
    have h := List.mem_of_getElem? hr
    simp only [List.mem_cons, List.not_mem_nil, or_false] at h
    rcases h with h | h | h | h
    · exact Or.inl h
    · exact Or.inl h
    · exact Or.inl h
    · exact Or.inr h
  refine ⟨v, o', tr, p', gc_ok (H2 := o' :: R) (X := [.list [.none, .none, .none, sA]]) (EvE.callF (EvE.cons (EvE.var h0) (EvE.cons (EvE.listE (EvE.cons EvE.lit (EvE.cons EvE.lit (EvE.cons EvE.lit (EvE.cons EvE.lit EvE.nil))))) EvE.nil)) e) rfl ?_ (low o' p')⟩
  rcases tr with rfl | rfl <;> kernel_rfl
theorem pat_ok {d : Nat} {o : AO} {R : AH} (p : PoolOk o) (h : (o :: R)[3]? = some (.list pats)) : ∃ (i : Nat) (q : AV) (o' : AO), pats[i]? = some q ∧ PoolOk o' ∧ EvF (d + 1) 22 [.obj 0, .obj 3] (o :: R) q (o' :: R) := by
  obtain ⟨r, v, o', hr, p', e⟩ := one_ok (d := d) (H := o :: R) (k := 0) (j := 3) (vs := pats) rfl p h (by decide) (by simp [pats]) (by decide)
  exact ⟨r, v, o', hr, p', e⟩
noncomputable def rowC : C := (.expr (.pm .append (.var 2) (.cons (.tupE (.cons (.callF 32 (.cons (.var 3) (.cons (.var 5) (.cons (.tupE .nil) (.cons (.callF 22 (.cons (.var 0) (.cons (.var 1) .nil))) (.cons (.var 4) .nil)))))) (.cons (.var 4) (.cons (.var 5) .nil)))) .nil)))
noncomputable def turnC : C := (.seq (.asg (.var 4) namesC) (.seq (.asg (.var 5) traitC) (.seq rowC .skip)))
noncomputable def lA (n : Int) (a b c d : Option AV) : Loc := [some (.obj 0), some (.obj 3), some (.obj 4), some (.int n), a, b, none, none, none, none, none, none, none, none, none]
theorem turn_A {d : Nat} {o : AO} (p : PoolOk o) : ∃ (x y z : Bool) (t : AV) (i : Nat) (q : AV) (o' : AO), Tr t ∧ pats[i]? = some q ∧ PoolOk o' ∧ EvS (d + 3) turnC (lA 0 none none none none) (H5 o) .next (lA 0 (some (.obj 6)) (some t) none none) (H12 o' x y z t q) := by
  obtain ⟨x, y, z, o1, p1, e1⟩ := names_ok (d := d + 2) (R := [LA, LB, .list pats, .list []]) (x1 := some (.obj 3)) (x2 := some (.obj 4)) (x3 := some (.int 0)) (x4 := none) (x5 := none) (x6 := none) (x7 := none) (x8 := none) (x9 := none) (x10 := none) (x11 := none) (x12 := none) (x13 := none) p
  obtain ⟨t, o2, ht, p2, e2⟩ := trait_ok (d := d) (R := [LA, LB, .list pats, .list [], CAB, .list (nm x y z)]) (loc := lA 0 (some (.obj 6)) none none none) rfl p1 (by simp) (by
    intro o' p'
    simp only [List.all_cons, List.all_nil, Bool.and_true, Bool.and_eq_true]
    exact ⟨low_pool p', low_LA _, low_LB _, low_pats _, low_emp _, low_CAB _, low_nm _ x y z⟩)
  obtain ⟨i, q, o3, hq, p3, e3⟩ := pat_ok (d := d + 1) (R := [LA, LB, .list pats, .list [], CAB, .list (nm x y z)]) p2 rfl
  refine ⟨x, y, z, t, i, q, o3, ht, hq, p3, ?_⟩
  refine EvS.seq (EvS.asg (loc' := lA 0 (some (.obj 6)) none none none) e1 rfl) (EvS.seq (EvS.asg (loc' := lA 0 (some (.obj 6)) (some t) none none) e2 rfl) (EvS.seq (EvS.expr (v := .none) (EvE.pm (EvE.var rfl) rfl (EvE.cons (EvE.tupE (EvE.cons (EvE.callF (EvE.cons (EvE.var rfl) (EvE.cons (EvE.var rfl) (EvE.cons (EvE.tupE EvE.nil) (EvE.cons (EvE.callF (EvE.cons (EvE.var rfl) (EvE.cons (EvE.var rfl) EvE.nil)) e3) (EvE.cons (EvE.var rfl) EvE.nil))))) (impl_A x y z o3 LA LB (.list pats) (.list []) CAB t q)) (EvE.cons (EvE.var rfl) (EvE.cons (EvE.var rfl) EvE.nil)))) EvE.nil) rfl) rfl) EvS.skip))
theorem turn_B {d : Nat} {o : AO} (p : PoolOk o) (x y z : Bool) {t q : AV} {i : Nat} (ht : Tr t) (hq : pats[i]? = some q) : ∃ (x' y' z' : Bool) (t' : AV) (i' : Nat) (q' : AV) (o' : AO), Tr t' ∧ pats[i']? = some q' ∧ PoolOk o' ∧ EvS (d + 3) turnC (lA 1 (some (.obj 6)) (some t) none none) (H12 o x y z t q) .next (lA 1 (some (.obj 13)) (some t') none none) (H19 o' x y z t q x' y' z' t' q') := by
  obtain ⟨x', y', z', o1, p1, e1⟩ := names_ok (d := d + 2) (R := [LA, LB, .list pats, .list [tup3 11 6 t], CAB, .list (nm x y z), prm, cm x y z, dt x y z, implA (.int 0) t q (.obj 9) (.obj 7), .inst rC 10]) (x1 := some (.obj 3)) (x2 := some (.obj 4)) (x3 := some (.int 1)) (x4 := some (.obj 6)) (x5 := some t) (x6 := none) (x7 := none) (x8 := none) (x9 := none) (x10 := none) (x11 := none) (x12 := none) (x13 := none) p
  obtain ⟨t', o2, ht', p2, e2⟩ := trait_ok (d := d) (R := [LA, LB, .list pats, .list [tup3 11 6 t], CAB, .list (nm x y z), prm, cm x y z, dt x y z, implA (.int 0) t q (.obj 9) (.obj 7), .inst rC 10, CAB, .list (nm x' y' z')]) (loc := lA 1 (some (.obj 13)) (some t) none none) rfl p1 (by simp) (by
    intro o' p'
    show List.all _ (lowO 14) = true
    simp only [List.all_cons, List.all_nil, Bool.and_true, Bool.and_eq_true]
    exact ⟨low_pool p', low_LA _, low_LB _, low_pats _, low_one (low_tup3 (ht.low _) (by omega) (by omega)), low_CAB _, low_nm _ x y z, low_prm _, low_cm _ _ _ _, low_dt _ _ _ _, low_impl (ht.low _) ((pats_mem hq).1 _) (by omega) (by omega), low_inst (by omega), low_CAB _, low_nm _ x' y' z'⟩)
  obtain ⟨i', q', o3, hq', p3, e3⟩ := pat_ok (d := d + 1) (R := [LA, LB, .list pats, .list [tup3 11 6 t], CAB, .list (nm x y z), prm, cm x y z, dt x y z, implA (.int 0) t q (.obj 9) (.obj 7), .inst rC 10, CAB, .list (nm x' y' z')]) p2 rfl
  refine ⟨x', y', z', t', i', q', o3, ht', hq', p3, ?_⟩
  refine EvS.seq (EvS.asg (loc' := lA 1 (some (.obj 13)) (some t) none none) e1 rfl) (EvS.seq (EvS.asg (loc' := lA 1 (some (.obj 13)) (some t') none none) e2 rfl) (EvS.seq (EvS.expr (v := .none) (EvE.pm (EvE.var rfl) rfl (EvE.cons (EvE.tupE (EvE.cons (EvE.callF (EvE.cons (EvE.var rfl) (EvE.cons (EvE.var rfl) (EvE.cons (EvE.tupE EvE.nil) (EvE.cons (EvE.callF (EvE.cons (EvE.var rfl) (EvE.cons (EvE.var rfl) EvE.nil)) e3) (EvE.cons (EvE.var rfl) EvE.nil))))) (impl_B x' y' z' o3 LA LB (.list pats) (.list [tup3 11 6 t]) CAB (.list (nm x y z)) prm (cm x y z) (dt x y z) (implA (.int 0) t q (.obj 9) (.obj 7)) (.inst rC 10) CAB t' q')) (EvE.cons (EvE.var rfl) (EvE.cons (EvE.var rfl) EvE.nil)))) EvE.nil) rfl) rfl) EvS.skip))
theorem low_H19 {m : Nat} (hm : 19 ≤ m) {o : AO} (p : PoolOk o) (x y z x' y' z' : Bool) {t q t' q' : AV} {i i' : Nat} (ht : Tr t) (hq : pats[i]? = some q) (ht' : Tr t') (hq' : pats[i']? = some q') : (H19 o x y z t q x' y' z' t' q').all (lowO m) = true := by
  unfold H19 HI
  simp only [List.all_cons, List.all_nil, Bool.and_true, Bool.and_eq_true]
  exact ⟨low_pool p, low_LA _, low_LB _, low_pats _, low_two (low_tup3 (ht.low _) (by omega) (by omega)) (low_tup3 (ht'.low _) (by omega) (by omega)), low_CAB _, low_nm _ x y z, low_prm _, low_cm _ _ _ _, low_dt _ _ _ _, low_impl (ht.low _) ((pats_mem hq).1 _) (by omega) (by omega), low_inst (by omega), low_CAB _, low_nm _ x' y' z', low_prm _, low_cm _ _ _ _, low_dt _ _ _ _, low_impl (ht'.low _) ((pats_mem hq').1 _) (by omega) (by omega), low_inst (by omega)⟩
end Mine
end

section
set_option linter.unusedVariables false
open PySem PySem.W PyProof.Rows PySem.Calls
namespace Mine
theorem EvF.of_resB {n d f : Nat} {vs : List AV} {l : Loc} {H : AH} {b : Bool} (h : resB (callBody lawP (run lawP n) d f vs l H) = some b) : ∃ H', EvF d f vs H (.bool b) H' := by
  match e : callBody lawP (run lawP n) d f vs l H, h with
  | some (.val (.bool b'), l', H'), h => cases h; exact ⟨H', EvF.of e⟩
theorem EvF.of_resM {n d f k : Nat} {vs : List AV} {l : Loc} {H H1 : AH} {b : Bool} (h : resM k (callBody lawP (run lawP n) d f vs l H) = some (b, H1)) : ∃ X, EvF d f vs H (.bool b) (H1 ++ X) := by
  match e : callBody lawP (run lawP n) d f vs l H, h with
  | some (.val (.bool b'), l', H'), h =>
    unfold resM at h
    dsimp only at h
    injection h with h
    injection h with h1 h2
    subst h1
    refine ⟨H'.drop k, ?_⟩
    rw [← h2, List.take_append_drop]
    exact EvF.of e
noncomputable def ft (i k : Nat) : Bool := ((ftb[i]?).getD [])[k]?.getD false
noncomputable def mt (i j : Nat) : Bool := ((mtb[i]?).getD [])[j]?.getD false
theorem fits_ok {i k : Nat} {q T : AV} (hq : pats[i]? = some q) (hk : clo[k]? = some T) : ∃ Hx, EvF 8 31 [q, T] [] (.bool (ft i k)) Hx := by
  have h1 := congrArg (fun l => l[i]?) fits_all
  simp only [List.getElem?_map, hq, Option.map_some] at h1
  cases e : ftb[i]? with
  | none => rw [e] at h1; cases h1
  | some r =>
    rw [e, Option.map_some] at h1
    injection h1 with h1
    have h2 := congrArg (fun l => l[k]?) h1
    simp only [List.getElem?_map, hk, Option.map_some] at h2
    cases e2 : r[k]? with
    | none => rw [e2] at h2; cases h2
    | some b =>
      rw [e2, Option.map_some] at h2
      injection h2 with h2
      have e3 : ft i k = b := by unfold ft; rw [e]; show (r[k]?).getD false = b; rw [e2]; rfl
      rw [e3]
      exact EvF.of_resB h2
theorem tab_row {i j : Nat} {q q' : AV} (hq : pats[i]? = some q) (hq' : pats[j]? = some q') : ∃ r, (q, r) ∈ pats.zip mtb ∧ (pats.zip r)[j]? = some (q', mt i j) := by
  have hi : i < 13 := (List.getElem?_eq_some_iff.mp hq).1
  have hj : j < 13 := (List.getElem?_eq_some_iff.mp hq').1
  obtain ⟨r, e⟩ : ∃ r, mtb[i]? = some r := ⟨_, List.getElem?_eq_getElem (show i < mtb.length from hi)⟩
  have hl : ∀ r ∈ mtb, r.length = 13 := by decide +kernel
  have hj2 : j < r.length := by rw [hl r (List.mem_of_getElem? e)]; exact hj
  refine ⟨r, List.mem_of_getElem? (List.getElem?_zip_eq_some.mpr ⟨hq, e⟩), List.getElem?_zip_eq_some.mpr ⟨hq', ?_⟩⟩
  dsimp only
  unfold mt
  rw [e]
  show _ = some (r[j]?.getD false)
  rw [List.getElem?_eq_getElem hj2]
  rfl
section
variable (o L1 L2 L3 L4 D5 N6 c8 d9 D12 N13 c15 d16 : AO) (t1 t2 : AV)
theorem meet_ok {i j : Nat} {q q' : AV} (hq : pats[i]? = some q) (hq' : pats[j]? = some q') :
    (∃ X, EvF 10 17 [.obj 11, .obj 18] (HI o L1 L2 L3 L4 D5 N6 c8 d9 D12 N13 c15 d16 t1 t2 q q') (.bool (mt i j)) (HI o L1 L2 L3 L4 D5 N6 c8 d9 D12 N13 c15 d16 t1 t2 q q' ++ X)) ∧
    (∃ X, EvF 10 17 [.obj 18, .obj 11] (HI o L1 L2 L3 L4 D5 N6 c8 d9 D12 N13 c15 d16 t1 t2 q q') (.bool (mt i j)) (HI o L1 L2 L3 L4 D5 N6 c8 d9 D12 N13 c15 d16 t1 t2 q q' ++ X)) := by
  obtain ⟨r, hr, hz⟩ := tab_row hq hq'
  have h := congrArg (fun l => l[j]?) (meet_all _ hr o L1 L2 L3 L4 D5 N6 c8 d9 D12 N13 c15 d16 t1 t2)
  simp only [List.getElem?_map, hq', hz, Option.map_some] at h
  injection h with h
  injection h with h1 h2
  exact ⟨EvF.of_resM h1, EvF.of_resM h2⟩
theorem meet2_ok (x z : AO) {i j : Nat} {q q' : AV} (hq : pats[i]? = some q) (hq' : pats[j]? = some q') :
    ∃ X, EvF 9 17 [.obj 11, .obj 18] (HI2 o L1 L2 L3 L4 D5 N6 c8 d9 D12 N13 c15 d16 t1 t2 q q' x z) (.bool (mt i j)) (HI2 o L1 L2 L3 L4 D5 N6 c8 d9 D12 N13 c15 d16 t1 t2 q q' x z ++ X) := by
  obtain ⟨r, hr, hz⟩ := tab_row hq hq'
  have h := congrArg (fun l => l[j]?) (meet2_all _ hr o L1 L2 L3 L4 D5 N6 c8 d9 D12 N13 c15 d16 t1 t2 x z)
  simp only [List.getElem?_map, hq', hz, Option.map_some] at h
  injection h with h
  exact EvF.of_resM h
end
noncomputable def resX (k : Nat) (o : Option Out) : Option (Nat × AH × Option AO) := match o with
  | some (.val (.obj i), _, H) => some (i, H.take k, H[i]?)
  | _ => none
theorem clo_run (o L1 L2 L3 L4 D5 N6 c8 d9 D12 N13 c15 d16 : AO) (t1 t2 p q : AV) : resX 19 (callBody lawP (run lawP 60) 5 29 [] [] (HI o L1 L2 L3 L4 D5 N6 c8 d9 D12 N13 c15 d16 t1 t2 p q)) = some (25, HI o L1 L2 L3 L4 D5 N6 c8 d9 D12 N13 c15 d16 t1 t2 p q, some (.list clo)) := by kernel_rfl
theorem EvF.of_resX {n d f k i : Nat} {vs : List AV} {l : Loc} {H H1 : AH} {x : AO} (h : resX k (callBody lawP (run lawP n) d f vs l H) = some (i, H1, some x)) : ∃ X, EvF d f vs H (.obj i) (H1 ++ X) ∧ (H1 ++ X)[i]? = some x := by
  match e : callBody lawP (run lawP n) d f vs l H, h with
  | some (.val (.obj i'), l', H'), h =>
    unfold resX at h
    dsimp only at h
    injection h with h
    injection h with h1 h2
    injection h2 with h2 h3
    subst h1
    refine ⟨H'.drop k, ?_⟩
    rw [← h2, List.take_append_drop]
    exact ⟨EvF.of e, h3⟩
noncomputable def noneF (i j : Nat) : Nat → Nat → Bool
  | _, 0 => true
  | k, m + 1 => !(ft i k && ft j k) && noneF i j (k + 1) m
theorem meet_tab : ∀ i < 13, ∀ j < 13, (true != noneF i j 0 12) = mt i j := by decide +kernel
noncomputable def lQ (t t' : AV) (a b : Option AV) : Loc := [some (.obj 0), some (.obj 3), some (.obj 4), some (.int 1), some (.obj 6), some t, some (.obj 11), some (.obj 18), some (.obj 13), some t', a, b, none, none, none]
noncomputable def lQ3 (t t' : AV) (T : AV) : Loc := [some (.obj 0), some (.obj 3), some (.obj 4), some (.int 1), some (.obj 6), some t, some (.obj 11), some (.obj 18), some (.obj 13), some t', none, none, none, some T, none]
noncomputable def fitC : C := (.and (.callP 31 (.cons (.fld (.var 6) (Str.ofString "self_type")) (.cons (.var 13) .nil))) (.callP 31 (.cons (.fld (.var 7) (Str.ofString "self_type")) (.cons (.var 13) .nil))))
theorem clo_pure {k : Nat} {T : AV} (h : clo[k]? = some T) : pureA 50 T = true := by
  have h := List.mem_of_getElem? h
  unfold clo at h
  simp only [List.mem_cons, List.not_mem_nil, or_false] at h
  rcases h with h | h | h | h | h | h | h | h | h | h | h | h <;> subst h <;> kernel_rfl
theorem fit_turn {o L1 L2 L3 L4 D5 N6 c8 d9 D12 N13 c15 d16 : AO} {t t' : AV} {i j k : Nat} {q q' T : AV} {X : AH} (hq : pats[i]? = some q) (hq' : pats[j]? = some q') (hk : clo[k]? = some T) :
    EvE 11 fitC (lQ3 t t' T) (HI o L1 L2 L3 L4 D5 N6 c8 d9 D12 N13 c15 d16 t t' q q' ++ X) (.bool (ft i k && ft j k)) (HI o L1 L2 L3 L4 D5 N6 c8 d9 D12 N13 c15 d16 t t' q q' ++ X) := by
  obtain ⟨x1, e1⟩ := fits_ok hq hk
  obtain ⟨x2, e2⟩ := fits_ok hq' hk
  have pp : ∀ {w : AV}, pureA 50 w = true → pureAs 50 [w, T] = true := fun h => by
    unfold pureAs pureAs pureAs; rw [h, clo_pure hk]; rfl
  have a : EvE 11 (.callP 31 (.cons (.fld (.var 6) (Str.ofString "self_type")) (.cons (.var 13) .nil))) (lQ3 t t' T) (HI o L1 L2 L3 L4 D5 N6 c8 d9 D12 N13 c15 d16 t t' q q' ++ X) (.bool (ft i k)) (HI o L1 L2 L3 L4 D5 N6 c8 d9 D12 N13 c15 d16 t t' q q' ++ X) :=
    EvE.callP (EvE.cons (v := q) (EvE.fld (i := 11) (cc := rC) (dd := 10) (EvE.var rfl) rfl rfl (by kernel_rfl)) (EvE.cons (EvE.var rfl) EvE.nil)) (pp (pats_mem hq).2) (e1.deep (by omega)) rfl
  have b : EvE 11 (.callP 31 (.cons (.fld (.var 7) (Str.ofString "self_type")) (.cons (.var 13) .nil))) (lQ3 t t' T) (HI o L1 L2 L3 L4 D5 N6 c8 d9 D12 N13 c15 d16 t t' q q' ++ X) (.bool (ft j k)) (HI o L1 L2 L3 L4 D5 N6 c8 d9 D12 N13 c15 d16 t t' q q' ++ X) :=
    EvE.callP (EvE.cons (v := q') (EvE.fld (i := 18) (cc := rC) (dd := 17) (EvE.var rfl) rfl rfl (by kernel_rfl)) (EvE.cons (EvE.var rfl) EvE.nil)) (pp (pats_mem hq').2) (e2.deep (by omega)) rfl
  cases e : ft i k with
  | false => rw [e] at a; exact EvE.and_f a
  | true => rw [e] at a; exact EvE.and_t a b
theorem fit_loop {o L1 L2 L3 L4 D5 N6 c8 d9 D12 N13 c15 d16 : AO} {t t' : AV} {i j : Nat} {q q' : AV} {X : AH} (hq : pats[i]? = some q) (hq' : pats[j]? = some q') (hX : (HI o L1 L2 L3 L4 D5 N6 c8 d9 D12 N13 c15 d16 t t' q q' ++ X)[25]? = some (.list clo)) :
    ∀ m k acc, k + m = 12 → acc.length ≤ k → ∃ vs, vs.isEmpty = (acc.isEmpty && noneF i j k m) ∧ EvE 11 (.compL (.var 13) (.vals (.obj 25)) k fitC (.var 13) acc) (lQ t t' none none) (HI o L1 L2 L3 L4 D5 N6 c8 d9 D12 N13 c15 d16 t t' q q' ++ X) (.tup vs) (HI o L1 L2 L3 L4 D5 N6 c8 d9 D12 N13 c15 d16 t t' q q' ++ X) := by
  have sn : ∀ k, srcNext (.vals (.obj 25)) k (HI o L1 L2 L3 L4 D5 N6 c8 d9 D12 N13 c15 d16 t t' q q' ++ X) = some (clo[k]?) := by
    intro k
    unfold srcNext itemsOf
    dsimp only
    rw [hX]
    dsimp only
    rw [if_pos (by decide)]
  intro m
  induction m with
  | zero =>
    intro k acc hm hl
    refine ⟨acc, by simp [noneF], EvE.compL_end ?_⟩
    rw [sn, List.getElem?_eq_none (by show clo.length ≤ k; simp [clo]; simp_all)]
  | succ m ih =>
    intro k acc hm hl
    have hk : k < clo.length := by simp [clo]; omega
    have ek : clo[k]? = some clo[k] := List.getElem?_eq_getElem hk
    obtain ⟨vs, hv, ev⟩ := ih (k + 1) (acc ++ if (ft i k && ft j k) then [clo[k]] else []) (by omega) (by cases (ft i k && ft j k) <;> simp <;> omega)
    refine ⟨vs, ?_, compL_if (by rw [sn, ek]) rfl (fit_turn hq hq' ek) (by omega) (EvE.var rfl) ev⟩
    rw [hv, show noneF i j k (m + 1) = (!(ft i k && ft j k) && noneF i j (k + 1) m) from rfl]
    cases (ft i k && ft j k) <;> simp
end Mine
end

section
set_option linter.unusedVariables false
open PySem PySem.W PyProof.Rows PySem.Calls
namespace Mine
noncomputable def meetC : C := (.gc (.neN true (.comp (.var 13) (.callF 29 .nil) fitC (.var 13))))
theorem meetC_ok {o : AO} (po : PoolOk o) (x y z x' y' z' : Bool) {t q t' q' : AV} {i j : Nat} (ht : Tr t) (hq : pats[i]? = some q) (ht' : Tr t') (hq' : pats[j]? = some q') :
    EvE 11 meetC (lQ t t' none none) (H19 o x y z t q x' y' z' t' q') (.bool (mt i j)) (H19 o x y z t q x' y' z' t' q') := by
  obtain ⟨X, e29, hX⟩ := EvF.of_resX (clo_run o LA LB (.list pats) (.list [tup3 11 6 t, tup3 18 13 t']) CAB (.list (nm x y z)) (cm x y z) (dt x y z) CAB (.list (nm x' y' z')) (cm x' y' z') (dt x' y' z') t t' q q')
  obtain ⟨vs, hv, ev⟩ := fit_loop hq hq' hX 12 0 [] (by omega) (Nat.le_refl _)
  have hi : i < 13 := (List.getElem?_eq_some_iff.mp hq).1
  have hj : j < 13 := (List.getElem?_eq_some_iff.mp hq').1
  have hc := EvE.comp_vals (s := .callF 29 .nil) (fun _ _ _ _ _ => rfl) rfl (EvE.callF EvE.nil (e29.deep (show 5 ≤ 10 by omega))) (by unfold itemsOf; dsimp only; rw [hX]; rfl) ev
  have hn := EvE.neN (n0 := true) hc (get_last _ _)
  rw [hv, List.isEmpty_nil, Bool.true_and, meet_tab i hi j hj, List.append_assoc] at hn
  exact gc_ok (H := H19 o x y z t q x' y' z' t' q') hn rfl rfl (low_H19 (Nat.le_refl _) po x y z x' y' z' ht hq ht' hq')
noncomputable def ABC : AO := .list [sa, sb, sc]
noncomputable def du (x y z : Bool) : List AV := (if y then [sa] else []) ++ (if z then [sb] else []) ++ (if x then [sc] else [])
noncomputable def dueC : C := (.comp (.var 12) (.listE (.cons (.lit (.str (Str.ofString "a"))) (.cons (.lit (.str (Str.ofString "b"))) (.cons (.lit (.str (Str.ofString "c"))) .nil)))) (.and (.op2 .isIn (.var 12) (.var 4)) (.op2 .isIn (.var 12) (.var 8))) (.var 12))
noncomputable def dueL (d : Nat) (o L1 L2 L3 L4 D5 c8 d9 D12 c15 d16 : AO) (t1 t2 p q : AV) (w : Option AV) (x y z x' y' z' : Bool) : Option Out := run lawP 60 d dueC (lQ t1 t2 w none) (HI o L1 L2 L3 L4 D5 (.list (nm x y z)) c8 d9 D12 (.list (nm x' y' z')) c15 d16 t1 t2 p q)
noncomputable def dueR (o L1 L2 L3 L4 D5 c8 d9 D12 c15 d16 : AO) (t1 t2 p q : AV) (w : Option AV) (x y z x' y' z' : Bool) : Option Out := some (.val (.obj 20), lQ t1 t2 w none, HI2 o L1 L2 L3 L4 D5 (.list (nm x y z)) c8 d9 D12 (.list (nm x' y' z')) c15 d16 t1 t2 p q ABC (.list (du (x && x') (y && y') (z && z'))))
theorem due_eq {d : Nat} (x y z x' y' z' : Bool) (o L1 L2 L3 L4 D5 c8 d9 D12 c15 d16 : AO) (t1 t2 p q : AV) (w : Option AV) : dueL d o L1 L2 L3 L4 D5 c8 d9 D12 c15 d16 t1 t2 p q w x y z x' y' z' = dueR o L1 L2 L3 L4 D5 c8 d9 D12 c15 d16 t1 t2 p q w x y z x' y' z' := by
  induction x <;> induction y <;> induction z <;> induction x' <;> induction y' <;> induction z' <;> kernel_rfl
theorem dueC_ok {d : Nat} (x y z x' y' z' : Bool) (o L1 L2 L3 L4 D5 c8 d9 D12 c15 d16 : AO) (t1 t2 p q : AV) (w : Option AV) :
    EvE d dueC (lQ t1 t2 w none) (HI o L1 L2 L3 L4 D5 (.list (nm x y z)) c8 d9 D12 (.list (nm x' y' z')) c15 d16 t1 t2 p q) (.obj 20) (HI2 o L1 L2 L3 L4 D5 (.list (nm x y z)) c8 d9 D12 (.list (nm x' y' z')) c15 d16 t1 t2 p q ABC (.list (du (x && x') (y && y') (z && z')))) :=
  ⟨60, lQ t1 t2 w none, due_eq x y z x' y' z' o L1 L2 L3 L4 D5 c8 d9 D12 c15 d16 t1 t2 p q w⟩
noncomputable def clC : C := (.comp (.var 2) (.prim .sortedD (.cons (.fld (.var 0) (Str.ofString "methods")) .nil)) (.op2 .isIn (.var 2) (.fld (.var 1) (Str.ofString "methods"))) (.var 2))
noncomputable def clL (d : Nat) (o L1 L2 L3 L4 D5 N6 c8 D12 N13 c15 a b : AO) (t1 t2 p q : AV) (x y z x' y' z' : Bool) : Option Out := run lawP 60 d clC [some (.obj 11), some (.obj 18), none] (HI2 o L1 L2 L3 L4 D5 N6 c8 (dt x y z) D12 N13 c15 (dt x' y' z') t1 t2 p q a b)
noncomputable def clR (o L1 L2 L3 L4 D5 N6 c8 D12 N13 c15 a b : AO) (t1 t2 p q : AV) (x y z x' y' z' : Bool) : Option Out := some (.val (.obj 22), [some (.obj 11), some (.obj 18), none], HI2 o L1 L2 L3 L4 D5 N6 c8 (dt x y z) D12 N13 c15 (dt x' y' z') t1 t2 p q a b ++ [.list (du x y z), .list (du (x && x') (y && y') (z && z'))])
theorem cl_eq {d : Nat} (x y z x' y' z' : Bool) (o L1 L2 L3 L4 D5 N6 c8 D12 N13 c15 a b : AO) (t1 t2 p q : AV) : clL d o L1 L2 L3 L4 D5 N6 c8 D12 N13 c15 a b t1 t2 p q x y z x' y' z' = clR o L1 L2 L3 L4 D5 N6 c8 D12 N13 c15 a b t1 t2 p q x y z x' y' z' := by
  induction x <;> induction y <;> induction z <;> induction x' <;> induction y' <;> induction z' <;> kernel_rfl
theorem clC_ok {d : Nat} (x y z x' y' z' : Bool) (o L1 L2 L3 L4 D5 N6 c8 D12 N13 c15 a b : AO) (t1 t2 p q : AV) :
    EvE d clC [some (.obj 11), some (.obj 18), none] (HI2 o L1 L2 L3 L4 D5 N6 c8 (dt x y z) D12 N13 c15 (dt x' y' z') t1 t2 p q a b) (.obj 22) (HI2 o L1 L2 L3 L4 D5 N6 c8 (dt x y z) D12 N13 c15 (dt x' y' z') t1 t2 p q a b ++ [.list (du x y z), .list (du (x && x') (y && y') (z && z'))]) :=
  ⟨60, [some (.obj 11), some (.obj 18), none], cl_eq x y z x' y' z' o L1 L2 L3 L4 D5 N6 c8 D12 N13 c15 a b t1 t2 p q⟩
noncomputable def isN (v : AV) : Bool := match v with
  | .none => true
  | _ => false
theorem op1_isNone (v : AV) : op1F .isNone v = .bool (isN v) := by cases v <;> rfl
theorem op1_notNone (v : AV) : op1F .notNone v = .bool (!isN v) := by cases v <;> rfl
noncomputable def H21 (o : AO) (x y z : Bool) (t p : AV) (x' y' z' : Bool) (t' p' : AV) : AH := HI2 o LA LB (.list pats) (.list [tup3 11 6 t, tup3 18 13 t']) CAB (.list (nm x y z)) (cm x y z) (dt x y z) CAB (.list (nm x' y' z')) (cm x' y' z') (dt x' y' z') t t' p p' ABC (.list (du (x && x') (y && y') (z && z')))
theorem low_du (m : Nat) (x y z : Bool) : lowO m (.list (du x y z)) = true := by cases x <;> cases y <;> cases z <;> kernel_rfl
theorem low_ABC (m : Nat) : lowO m ABC = true := by kernel_rfl
theorem low_H21 {m : Nat} (hm : 19 ≤ m) {o : AO} (p : PoolOk o) (x y z x' y' z' : Bool) {t q t' q' : AV} {i i' : Nat} (ht : Tr t) (hq : pats[i]? = some q) (ht' : Tr t') (hq' : pats[i']? = some q') : (H21 o x y z t q x' y' z' t' q').all (lowO m) = true := by
  show (H19 o x y z t q x' y' z' t' q' ++ [ABC, .list (du (x && x') (y && y') (z && z'))]).all (lowO m) = true
  rw [List.all_append, low_H19 hm p x y z x' y' z' ht hq ht' hq', Bool.true_and]
  simp only [List.all_cons, List.all_nil, Bool.and_true, Bool.and_eq_true]
  exact ⟨low_ABC _, low_du _ _ _ _⟩
noncomputable def want (g : Bool) (x y z : Bool) : List AV := if g then du x y z else []
theorem clash_ok {o : AO} (po : PoolOk o) (x y z x' y' z' : Bool) {t q t' q' : AV} {i j : Nat} (ht : Tr t) (hq : pats[i]? = some q) (ht' : Tr t') (hq' : pats[j]? = some q') :
    ∃ k X, EvF 10 18 [.obj 11, .obj 18] (H21 o x y z t q x' y' z' t' q') (.obj k) (H21 o x y z t q x' y' z' t' q' ++ X) ∧ (H21 o x y z t q x' y' z' t' q' ++ X)[k]? = some (.list (want (mt i j && isN t && isN t') (x && x') (y && y') (z && z'))) := by
  have f1 : EvE 10 (.op1 .notNone (.fld (.var 0) (Str.ofString "trait"))) [some (.obj 11), some (.obj 18), none] (H21 o x y z t q x' y' z' t' q') (.bool (!isN t)) (H21 o x y z t q x' y' z' t' q') := by
    have := EvE.op1 (o := .notNone) (EvE.fld (d := 10) (f := Str.ofString "trait") (i := 11) (cc := rC) (dd := 10) (v := t) (H1 := H21 o x y z t q x' y' z' t' q') (EvE.var (i := 0) (loc := [some (.obj 11), some (.obj 18), none]) rfl) rfl rfl (by kernel_rfl))
    rw [op1_notNone] at this
    exact this
  have f2 : EvE 10 (.op1 .notNone (.fld (.var 1) (Str.ofString "trait"))) [some (.obj 11), some (.obj 18), none] (H21 o x y z t q x' y' z' t' q') (.bool (!isN t')) (H21 o x y z t q x' y' z' t' q') := by
    have := EvE.op1 (o := .notNone) (EvE.fld (d := 10) (f := Str.ofString "trait") (i := 18) (cc := rC) (dd := 17) (v := t') (H1 := H21 o x y z t q x' y' z' t' q') (EvE.var (i := 1) (loc := [some (.obj 11), some (.obj 18), none]) rfl) rfl rfl (by kernel_rfl))
    rw [op1_notNone] at this
    exact this
  obtain ⟨Y, m2⟩ := meet2_ok o LA LB (.list pats) (.list [tup3 11 6 t, tup3 18 13 t']) CAB (.list (nm x y z)) (cm x y z) (dt x y z) CAB (.list (nm x' y' z')) (cm x' y' z') (dt x' y' z') t t' ABC (.list (du (x && x') (y && y') (z && z'))) hq hq'
  have f3 : EvE 10 (.not (.gc (.callF 17 (.cons (.var 0) (.cons (.var 1) .nil))))) [some (.obj 11), some (.obj 18), none] (H21 o x y z t q x' y' z' t' q') (.bool (!mt i j)) (H21 o x y z t q x' y' z' t' q') :=
    EvE.not (gc_ok (EvE.callF (EvE.cons (EvE.var rfl) (EvE.cons (EvE.var rfl) EvE.nil)) m2) rfl rfl (low_H21 (show 19 ≤ 21 by omega) po x y z x' y' z' ht hq ht' hq'))
  have tst : EvE 10 (.or (.op1 .notNone (.fld (.var 0) (Str.ofString "trait"))) (.or (.op1 .notNone (.fld (.var 1) (Str.ofString "trait"))) (.not (.gc (.callF 17 (.cons (.var 0) (.cons (.var 1) .nil))))))) [some (.obj 11), some (.obj 18), none] (H21 o x y z t q x' y' z' t' q') (.bool (!(mt i j && isN t && isN t'))) (H21 o x y z t q x' y' z' t' q') := by
    cases e1 : isN t with
    | false => rw [e1] at f1; rw [Bool.and_false, Bool.false_and]; exact EvE.or_t f1
    | true =>
      rw [e1] at f1
      cases e2 : isN t' with
      | false => rw [e2] at f2; rw [Bool.and_false]; exact EvE.or_f f1 (EvE.or_t f2)
      | true => rw [e2] at f2; rw [Bool.and_true, Bool.and_true]; exact EvE.or_f f1 (EvE.or_f f2 f3)
  cases e : (mt i j && isN t && isN t') with
  | false =>
    rw [e] at tst
    refine ⟨21, [.list []], EvF.of_ret (F := f_inherent_clashes) (l0 := [some (.obj 11), some (.obj 18), none]) rfl rfl (loc' := [some (.obj 11), some (.obj 18), none]) (EvS.seq_ret (EvS.iff (z := true) tst ?_)), rfl⟩
    rw [if_pos rfl]
    exact EvS.seq_ret (EvS.ret (EvE.listE EvE.nil))
  | true =>
    rw [e] at tst
    refine ⟨22, [.list (du x y z), .list (du (x && x') (y && y') (z && z'))], EvF.of_ret (F := f_inherent_clashes) (l0 := [some (.obj 11), some (.obj 18), none]) rfl rfl (loc' := [some (.obj 11), some (.obj 18), none]) (EvS.seq (EvS.iff (z := false) tst EvS.skip) (EvS.seq_ret (EvS.ret (clC_ok x y z x' y' z' _ _ _ _ _ _ _ _ _ _ _ _ _ _ _ _ _)))), rfl⟩
noncomputable def pickC : C := (.ite (.and (.var 10) (.and (.op1 .isNone (.var 5)) (.op1 .isNone (.var 9)))) (.var 11) (.listE .nil))
theorem get_app2 {H : AH} {k : Nat} {o : AO} (h : H[k]? = some o) (X : AH) : (H ++ X)[k]? = some o := get_app h
theorem pickC_ok {d : Nat} {H : AH} {t t' : AV} {g : Bool} {x y z : Bool} (h : H[20]? = some (.list (du x y z))) : ∃ k Y, EvE d pickC (lQ t t' (some (.bool g)) (some (.obj 20))) H (.obj k) (H ++ Y) ∧ (H ++ Y)[k]? = some (.list (want (g && isN t && isN t') x y z)) := by
  have f1 : EvE d (.op1 .isNone (.var 5)) (lQ t t' (some (.bool g)) (some (.obj 20))) H (.bool (isN t)) H := by
    have := EvE.op1 (o := .isNone) (EvE.var (d := d) (i := 5) (loc := lQ t t' (some (.bool g)) (some (.obj 20))) (H := H) rfl)
    rw [op1_isNone] at this
    exact this
  have f2 : EvE d (.op1 .isNone (.var 9)) (lQ t t' (some (.bool g)) (some (.obj 20))) H (.bool (isN t')) H := by
    have := EvE.op1 (o := .isNone) (EvE.var (d := d) (i := 9) (loc := lQ t t' (some (.bool g)) (some (.obj 20))) (H := H) rfl)
    rw [op1_isNone] at this
    exact this
  have f0 : EvE d (.var 10) (lQ t t' (some (.bool g)) (some (.obj 20))) H (.bool g) H := EvE.var rfl
  have tst : EvE d (.and (.var 10) (.and (.op1 .isNone (.var 5)) (.op1 .isNone (.var 9)))) (lQ t t' (some (.bool g)) (some (.obj 20))) H (.bool (g && isN t && isN t')) H := by
    cases g with
    | false => exact EvE.and_f f0
    | true =>
      cases e1 : isN t with
      | false => rw [e1] at f1; exact EvE.and_t f0 (EvE.and_f f1)
      | true => rw [e1] at f1; exact EvE.and_t f0 (EvE.and_t f1 f2)
  cases e : (g && isN t && isN t') with
  | true =>
    rw [e] at tst
    refine ⟨20, [], ?_, ?_⟩
    · rw [List.append_nil]; exact EvE.ite (z := true) tst (EvE.var rfl)
    · rw [List.append_nil]; exact h
  | false =>
    rw [e] at tst
    exact ⟨H.length, [.list []], EvE.ite (z := false) tst (EvE.listE EvE.nil), get_last _ _⟩
theorem want_eq (g x y z : Bool) (H : AH) {i j : Nat} (hi : H[i]? = some (.list (want g x y z))) (hj : H[j]? = some (.list (want g x y z))) : op2F .eq (.obj i) (.obj j) H = some (.bool true, H) := by
  unfold op2F bv eqH
  dsimp only
  rw [hi, hj]
  dsimp only
  cases g <;> cases x <;> cases y <;> cases z <;> kernel_rfl
theorem impls_ok {o : AO} (p : PoolOk o) : ∃ o' X, PoolOk o' ∧ EvF 11 34 [.obj 0] [o] (.bool true) (o' :: X) := by
  obtain ⟨x, y, z, t, i, q, o1, ht, hq, p1, e1⟩ := turn_A (d := 8) p
  obtain ⟨x', y', z', t', j, q', o2, ht', hq', p2, e2⟩ := turn_B (d := 8) p1 x y z ht hq
  obtain ⟨⟨Y1, m1⟩, ⟨Y2, m2⟩⟩ := meet_ok o2 LA LB (.list pats) (.list [tup3 11 6 t, tup3 18 13 t']) CAB (.list (nm x y z)) (cm x y z) (dt x y z) CAB (.list (nm x' y' z')) (cm x' y' z') (dt x' y' z') t t' hq hq'
  have lw := low_H19 (Nat.le_refl 19) p2 x y z x' y' z' ht hq ht' hq'
  obtain ⟨k, X, e5, g5⟩ := clash_ok p2 x y z x' y' z' ht hq ht' hq'
  obtain ⟨k2, Y, e6, g6⟩ := pickC_ok (d := 11) (H := H21 o2 x y z t q x' y' z' t' q' ++ X) (t := t) (t' := t') (g := mt i j) (x := x && x') (y := y && y') (z := z && z') (get_app2 (H := H21 o2 x y z t q x' y' z' t' q') rfl X)
  refine ⟨o2, (H21 o2 x y z t q x' y' z' t' q').tail ++ X ++ Y, p2, ?_⟩
  refine EvF.of_ret (F := f_law_impls_right) (l0 := [some (.obj 0), none, none, none, none, none, none, none, none, none, none, none, none, none, none]) rfl rfl (loc' := lQ t t' (some (.bool (mt i j))) (some (.obj 20))) ?_
  refine EvS.seq (EvS.asg (loc' := [some (.obj 0), some (.obj 3), some (.obj 4), none, none, none, none, none, none, none, none, none, none, none, none]) (EvE.tupE (EvE.cons (EvE.callF EvE.nil (pats_ok o)) (EvE.cons (EvE.listE EvE.nil) EvE.nil))) rfl) ?_
  refine EvS.seq (EvS.for_rng (k := 2) (EvE.cons EvE.lit EvE.nil) ⟨by omega, by omega⟩ (EvS.forL_next (v := .int 0) rfl rfl e1 (EvS.forL_next (v := .int 1) rfl rfl e2 (EvS.forL_end rfl)))) ?_
  refine EvS.seq (EvS.asgL (loc' := lQ t t' none none) (EvE.var rfl) (i := 4) rfl rfl) ?_
  refine EvS.seq (EvS.asg (loc' := lQ t t' (some (.bool (mt i j))) none) (meetC_ok p2 x y z x' y' z' ht hq ht' hq') rfl) ?_
  have r1 : EvE 11 (.op2 .ne (.gc (.callF 17 (.cons (.var 6) (.cons (.var 7) .nil)))) (.var 10)) (lQ t t' (some (.bool (mt i j))) none) (H19 o2 x y z t q x' y' z' t' q') (.bool false) (H19 o2 x y z t q x' y' z' t' q') :=
    EvE.op2 (gc_ok (EvE.callF (EvE.cons (EvE.var rfl) (EvE.cons (EvE.var rfl) EvE.nil)) m1) rfl rfl lw) (EvE.var rfl) (ne_bool _ _)
  have r2 : EvE 11 (.op2 .ne (.gc (.callF 17 (.cons (.var 7) (.cons (.var 6) .nil)))) (.var 10)) (lQ t t' (some (.bool (mt i j))) none) (H19 o2 x y z t q x' y' z' t' q') (.bool false) (H19 o2 x y z t q x' y' z' t' q') :=
    EvE.op2 (gc_ok (EvE.callF (EvE.cons (EvE.var rfl) (EvE.cons (EvE.var rfl) EvE.nil)) m2) rfl rfl lw) (EvE.var rfl) (ne_bool _ _)
  refine EvS.seq (EvS.iff (z := false) (EvE.or_f r1 r2) EvS.skip) ?_
  refine EvS.seq (EvS.asg (loc' := lQ t t' (some (.bool (mt i j))) (some (.obj 20))) (dueC_ok x y z x' y' z' _ _ _ _ _ _ _ _ _ _ _ _ _ _ _ _) rfl) ?_
  exact EvS.seq_ret (EvS.ret (EvE.op2 (EvE.callF (EvE.cons (EvE.var rfl) (EvE.cons (EvE.var rfl) EvE.nil)) e5) e6 (want_eq _ _ _ _ _ (get_app2 g5 Y) g6)))
end Mine
end

section
set_option linter.unusedVariables false
open PySem PySem.W PyProof.Rows PySem.Calls
namespace Mine
noncomputable def rf (a : AV) (m : Bool) (t : AV) : AV := .tup [.str (Str.ofString "ref"), a, .bool m, t]
noncomputable def ar (t : AV) (n : Int) : AV := .tup [.str (Str.ofString "array"), t, .int n]
noncomputable def ad (s : Str) (l : List AV) : AV := .tup [.str (Str.ofString "adt"), .str s, .tup [], .tup l]
noncomputable def hs : List (Str × AV) := [(Str.ofString "u8", tY), (Str.ofString "i8", .tup [.str (Str.ofString "int"), .str (Str.ofString "i8")]), (Str.ofString "bool", tB), (Str.ofString "never", .tup [.str (Str.ofString "never")]), (Str.ofString "T", tT), (Str.ofString "U", tU),
  (Str.ofString "0", .tup [.str (Str.ofString "tuple"), .tup []]), (Str.ofString "1", .tup [.str (Str.ofString "tuple"), .tup [tY]]), (Str.ofString "2", pa tY tB), (Str.ofString "2", pa tB tB),
  (Str.ofString "&", rf .none false tY), (Str.ofString "&", rf (.str (Str.ofString "'a")) false tB), (Str.ofString "&mut", rf .none true tY), (Str.ofString "box", bx tY), (Str.ofString "box", bx tB), (Str.ofString "3", ar tY 3), (Str.ofString "4", ar tY 4),
  (Str.ofString "S", ad (Str.ofString "S") [tY]), (Str.ofString "SS", ad (Str.ofString "S") [tY, tB]), (Str.ofString "P", ad (Str.ofString "P") [tB])]
noncomputable def hrow (a : Str × AV) : AV := .tup [.str a.1, a.2]
noncomputable def resE (o : Option Out) : Option (Bool × AH) := match o with
  | some (.val (.bool b), _, H) => some (b, H)
  | _ => none
theorem EvF.of_resE {n d f : Nat} {vs : List AV} {l : Loc} {H H1 : AH} {b : Bool} (h : resE (callBody lawP (run lawP n) d f vs l H) = some (b, H1)) : EvF d f vs H (.bool b) H1 := by
  match e : callBody lawP (run lawP n) d f vs l H, h with
  | some (.val (.bool b'), l', H'), h =>
    unfold resE at h
    dsimp only at h
    injection h with h
    injection h with h1 h2
    subst h1
    subst h2
    exact EvF.of e
noncomputable def AlRow (a : Str × AV) : Prop := ∀ (d : Nat) (H : AH), (hs.map fun b => resE (callBody lawP (run lawP 60) (d + 1) 7 [.obj 2, a.2, b.2] [] H)) = hs.map fun b => some (a.1 == b.1, H)
theorem al_all : ∀ a ∈ hs, AlRow a := by
  have h : ∀ (l : List (Str × AV)) , (∀ i (h : i < l.length), AlRow l[i]) → ∀ a ∈ l, AlRow a := fun l h a ha => by
    obtain ⟨i, hi, rfl⟩ := List.mem_iff_getElem.mp ha
    exact h i hi
  refine h hs fun i hi => ?_
  match i, hi with
  | 0, _ => intro d H; kernel_rfl
  | 1, _ => intro d H; kernel_rfl
  | 2, _ => intro d H; kernel_rfl
  | 3, _ => intro d H; kernel_rfl
  | 4, _ => intro d H; kernel_rfl
  | 5, _ => intro d H; kernel_rfl
  | 6, _ => intro d H; kernel_rfl
  | 7, _ => intro d H; kernel_rfl
  | 8, _ => intro d H; kernel_rfl
  | 9, _ => intro d H; kernel_rfl
  | 10, _ => intro d H; kernel_rfl
  | 11, _ => intro d H; kernel_rfl
  | 12, _ => intro d H; kernel_rfl
  | 13, _ => intro d H; kernel_rfl
  | 14, _ => intro d H; kernel_rfl
  | 15, _ => intro d H; kernel_rfl
  | 16, _ => intro d H; kernel_rfl
  | 17, _ => intro d H; kernel_rfl
  | 18, _ => intro d H; kernel_rfl
  | 19, _ => intro d H; kernel_rfl
  | n + 20, hn => exact absurd hn (by simp [hs])
theorem alike_ok {d : Nat} {H : AH} {a b : Str × AV} (ha : a ∈ hs) (hb : b ∈ hs) : EvF (d + 1) 7 [.obj 2, a.2, b.2] H (.bool (a.1 == b.1)) H := by
  obtain ⟨j, hj, rfl⟩ := List.mem_iff_getElem.mp hb
  have h := congrArg (fun l => l[j]?) (al_all a ha d H)
  simp only [List.getElem?_map, List.getElem?_eq_getElem hj, Option.map_some] at h
  injection h with h
  exact EvF.of_resE h
theorem heads_ok {d : Nat} (a0 a1 a2 a3 a4 a5 a6 : AO) : EvF d 23 [] [a0, a1, a2, a3, a4, a5, a6] (.obj 7) [a0, a1, a2, a3, a4, a5, a6, .list (hs.map hrow)] :=
  EvF.of (n := 80) (l := []) (l' := []) (by kernel_rfl)
noncomputable def H8 (S o : AO) : AH := [S, atA, .inst iC 1, .list [], .list [], .list [], o, .list (hs.map hrow)]
noncomputable def lW (x5 x6 x7 : Option AV) : Loc := [some (.obj 0), some (.obj 2), some tY, some (.obj 6), some (.obj 7), x5, x6, x7]
noncomputable def alC : C := (.seq (.asg (.cons (.var 6) (.cons (.var 7) .nil)) (.tupE (.cons (.callF 22 (.cons (.var 3) (.cons (.var 4) .nil))) (.cons (.callF 22 (.cons (.var 3) (.cons (.var 4) .nil))) .nil))))
    (.seq (.iff (.op2 .ne (.callM (.var 1) (Str.ofString "are_alike") (.cons (.op2 .idx (.var 6) (.lit (.int 1))) (.cons (.op2 .idx (.var 7) (.lit (.int 1))) .nil))) (.op2 .eq (.op2 .idx (.var 6) (.lit (.int 0))) (.op2 .idx (.var 7) (.lit (.int 0))))) (.seq (.ret (.lit (.bool false)))
    .skip) .skip)
    .skip))
theorem one_hs {d : Nat} {S o : AO} (p : PoolOk o) : ∃ a o', a ∈ hs ∧ PoolOk o' ∧ EvF (d + 1) 22 [.obj 6, .obj 7] (H8 S o) (hrow a) (H8 S o') := by
  obtain ⟨r, v, o', hr, p', e⟩ := one_ok (d := d) (H := H8 S o) (k := 6) (j := 7) (vs := hs.map hrow) rfl p rfl (by decide) (by simp [hs]) (by rw [List.length_map]; decide)
  obtain ⟨a, ha, rfl⟩ := List.mem_map.mp (List.mem_of_getElem? hr)
  exact ⟨a, o', ha, p', e⟩
theorem al_turn {d : Nat} {S o : AO} (p : PoolOk o) (x5 x6 x7 : Option AV) : ∃ y6 y7 o', PoolOk o' ∧ EvS (d + 3) alC (lW x5 x6 x7) (H8 S o) .next (lW x5 y6 y7) (H8 S o') := by
  obtain ⟨a, o1, ha, p1, e1⟩ := one_hs (d := d + 1) (S := S) p
  obtain ⟨b, o2, hb, p2, e2⟩ := one_hs (d := d + 1) (S := S) p1
  have i0 : ∀ (a : Str × AV) H, op2F .idx (hrow a) (.int 0) H = some (.str a.1, H) := fun a H => idxT (by decide) rfl
  have i1 : ∀ (a : Str × AV) H, op2F .idx (hrow a) (.int 1) H = some (a.2, H) := fun a H => idxT (by decide) rfl
  refine ⟨some (hrow a), some (hrow b), o2, p2, EvS.seq (EvS.asg (loc' := lW x5 (some (hrow a)) (some (hrow b))) (EvE.tupE (EvE.cons (EvE.callF (EvE.cons (EvE.var rfl) (EvE.cons (EvE.var rfl) EvE.nil)) e1) (EvE.cons (EvE.callF (EvE.cons (EvE.var rfl) (EvE.cons (EvE.var rfl) EvE.nil)) e2) EvE.nil))) rfl) (EvS.seq (EvS.iff (z := false) (H1 := H8 S o2) (EvE.op2 (EvE.callM (f := 7) (cc := iC) (dd := 1) (EvE.var rfl) rfl (by kernel_rfl) (EvE.cons (EvE.op2 (EvE.var rfl) EvE.lit (i1 a _)) (EvE.cons (EvE.op2 (EvE.var rfl) EvE.lit (i1 b _)) EvE.nil)) (alike_ok ha hb)) (EvE.op2 (y := .str b.1) (v := .bool (a.1 == b.1)) (EvE.op2 (EvE.var rfl) EvE.lit (i0 a _)) (EvE.op2 (EvE.var rfl) EvE.lit (i0 b _)) rfl) (ne_bool _ _)) EvS.skip) EvS.skip)⟩
theorem told24r (S : AO) : resM 6 (callBody lawP (run lawP 200) 9 24 [.obj 2] [] [S, atA, .inst iC 1, .list [], .list [], .list []]) = some (true, [S, atA, .inst iC 1, .list [], .list [], .list []]) := by kernel_rfl
theorem ref_ne {d : Nat} {H : AH} : EvF (d + 1) 7 [.obj 2, rf .none false tY, rf .none true tY] H (.bool false) H := EvF.of (n := 60) (l := []) (l' := []) (by kernel_rfl)
theorem callL_pool {f k : Nat} {loc : Loc} {S o : AO} {v : Bool} (p : PoolOk o) (h3 : loc[3]? = some (some (.obj 6))) (h : ∃ o' X, PoolOk o' ∧ EvF 11 f [.obj 0] [o] (.bool v) (o' :: X)) : ∃ o', PoolOk o' ∧ EvE 12 (.callL f (.cons (.var 3) .nil)) loc (H8 S o) (.bool v) (H8 S o') := by
  obtain ⟨a, b, rfl, ha, hb⟩ := p
  obtain ⟨o', X, p', e⟩ := h
  obtain ⟨a', b', rfl, ha', hb'⟩ := p'
  exact ⟨_, ⟨a', b', rfl, ha', hb'⟩, EvE.callL (ws := [.int a', .int b']) (EvE.cons (EvE.var h3) EvE.nil) rfl rfl e rfl rfl rfl⟩
theorem law_ok (ns : List Int) (hn : ns.length ≤ 63) : ∃ H, EvF 12 35 [.obj 0] [.frz (ns.map .int)] (.bool true) H := by
  obtain ⟨o, p, e20⟩ := pool_ok (d := 11) (H := [.frz (ns.map .int), atA, .inst iC 1, .list [], .list [], .list []]) ns rfl hn
  obtain ⟨X24, e24⟩ := EvF.of_resM (told24r (.frz (ns.map .int)))
  obtain ⟨X28, e28⟩ := EvF.of_okT told28
  obtain ⟨X33, e33⟩ := EvF.of_okT told33
  obtain ⟨a6, a7, o1, p1, t1⟩ := al_turn (d := 9) (S := .frz (ns.map .int)) p (some (.int 0)) none none
  obtain ⟨b6, b7, o2, p2, t2⟩ := al_turn (d := 9) (S := .frz (ns.map .int)) p1 (some (.int 1)) a6 a7
  obtain ⟨c6, c7, o3, p3, t3⟩ := al_turn (d := 9) (S := .frz (ns.map .int)) p2 (some (.int 2)) b6 b7
  obtain ⟨d6, d7, o4, p4, t4⟩ := al_turn (d := 9) (S := .frz (ns.map .int)) p3 (some (.int 3)) c6 c7
  obtain ⟨o5, p5, e27⟩ := callL_pool (f := 27) (k := 0) (loc := lW (some (.int 3)) d6 d7) (S := .frz (ns.map .int)) (v := true) p4 rfl (by
    obtain ⟨n, K, F, o', p', e⟩ := unknowns_ok (d := 8) p4
    exact ⟨o', _, p', e⟩)
  obtain ⟨o6, p6, e34⟩ := callL_pool (f := 34) (k := 0) (loc := lW (some (.int 3)) d6 d7) (S := .frz (ns.map .int)) (v := true) p5 rfl (impls_ok p5)
  refine ⟨H8 (.frz (ns.map .int)) o6, ?_⟩
  refine EvF.of_ret (F := f_law) (l0 := [some (.obj 0), none, none, none, none, none, none, none]) rfl rfl (loc' := lW (some (.int 3)) d6 d7) ?_
  refine EvS.seq (EvS.asg (loc' := [some (.obj 0), some (.obj 2), some tY, none, none, none, none, none]) (EvE.tupE (EvE.cons (new_ok _ _) (EvE.cons (EvE.tupE (EvE.cons EvE.lit (EvE.cons EvE.lit EvE.nil))) EvE.nil))) rfl) ?_
  refine EvS.seq (EvS.iff (z := false) (EvE.callM (f := 7) (cc := iC) (dd := 1) (EvE.var rfl) rfl (by kernel_rfl) (EvE.cons (EvE.tupE (EvE.cons EvE.lit (EvE.cons EvE.lit (EvE.cons EvE.lit (EvE.cons (EvE.var rfl) EvE.nil))))) (EvE.cons (EvE.tupE (EvE.cons EvE.lit (EvE.cons EvE.lit (EvE.cons EvE.lit (EvE.cons (EvE.var rfl) EvE.nil))))) EvE.nil)) ref_ne) EvS.skip) ?_
  have low : (([.frz (ns.map .int), atA, .inst iC 1, .list [], .list [], .list []] : AH)).all (lowO 6) = true := by
    simp only [List.all_cons, List.all_nil, Bool.and_true, Bool.and_eq_true]
    refine ⟨?_, by kernel_rfl, by kernel_rfl, low_emp _, low_emp _, low_emp _⟩
    show lowAs 6 (ns.map .int) = true
    refine lowAs_all fun x hx => ?_
    obtain ⟨i, _, rfl⟩ := List.mem_map.mp hx
    unfold lowA; rfl
  refine EvS.seq (EvS.iff (z := false) (EvE.or_f (EvE.not (z := true) (gc_ok (EvE.callF (EvE.cons (EvE.var rfl) EvE.nil) (e24.deep (by omega))) rfl rfl low)) (EvE.or_f (EvE.not (z := true) (EvE.callP EvE.nil (by kernel_rfl) (e28.deep (by omega)) rfl)) (EvE.not (z := true) (EvE.callP EvE.nil (by kernel_rfl) (e33.deep (by omega)) rfl)))) EvS.skip) ?_
  refine EvS.seq (EvS.asg (loc' := lW none none none) (EvE.tupE (EvE.cons (EvE.callF (EvE.cons (EvE.var rfl) EvE.nil) e20) (EvE.cons (EvE.callF EvE.nil (heads_ok _ _ _ _ _ _ _)) EvE.nil))) rfl) ?_
  refine EvS.seq (EvS.for_rng (k := 4) (EvE.cons EvE.lit EvE.nil) ⟨by omega, by simp⟩ (EvS.forL_next (v := .int 0) rfl rfl t1 (EvS.forL_next (v := .int 1) rfl rfl t2 (EvS.forL_next (v := .int 2) rfl rfl t3 (EvS.forL_next (v := .int 3) rfl rfl t4 (EvS.forL_end rfl)))))) ?_
  exact EvS.seq_ret (EvS.ret (EvE.and_t e27 e34))
end Mine
end

section
set_option Elab.async true
set_option maxHeartbeats 8000000
open PySem PySem.W PyProof.Rows PySem.Calls PySem.Spec PySem.SeqAt
namespace Mine
theorem el_s {a m i n : Nat} (e : a + 1 + m = n) (h : (i + 1) + m = n) : a + m = i + m := Nat.succ.inj (by rw [← Nat.succ_add, ← Nat.succ_add]; exact e.trans h.symm)
theorem el0 {p : List Value → Prop} {m n : Nat} (h : 0 + m = n) (k : p []) : ∀ vals : List Value, vals.length + m = n → p vals := fun vals e => by
  cases vals with
  | nil => exact k
  | cons v r => exact absurd (Nat.add_right_cancel (e.trans h.symm)) (Nat.succ_ne_zero _)
theorem el1 {p : List Value → Prop} {m n : Nat} (h : 1 + m = n) (k : ∀ v0 : Value, p [v0]) : ∀ vals : List Value, vals.length + m = n → p vals := fun vals e => by
  cases vals with
  | nil => exact absurd (Nat.add_right_cancel (e.trans h.symm)) (Nat.succ_ne_zero _).symm
  | cons v r => exact el0 (p := fun r => p (v :: r)) (m := m) rfl (k v) r (el_s (i := 0) e h)
theorem el2 {p : List Value → Prop} {m n : Nat} (h : 2 + m = n) (k : ∀ v0 v1 : Value, p [v0, v1]) : ∀ vals : List Value, vals.length + m = n → p vals := fun vals e => by
  cases vals with
  | nil => exact absurd (Nat.add_right_cancel (e.trans h.symm)) (Nat.succ_ne_zero _).symm
  | cons v r => exact el1 (p := fun r => p (v :: r)) (m := m) rfl (k v) r (el_s (i := 1) e h)
theorem el3 {p : List Value → Prop} {m n : Nat} (h : 3 + m = n) (k : ∀ v0 v1 v2 : Value, p [v0, v1, v2]) : ∀ vals : List Value, vals.length + m = n → p vals := fun vals e => by
  cases vals with
  | nil => exact absurd (Nat.add_right_cancel (e.trans h.symm)) (Nat.succ_ne_zero _).symm
  | cons v r => exact el2 (p := fun r => p (v :: r)) (m := m) rfl (k v) r (el_s (i := 2) e h)
theorem el4 {p : List Value → Prop} {m n : Nat} (h : 4 + m = n) (k : ∀ v0 v1 v2 v3 : Value, p [v0, v1, v2, v3]) : ∀ vals : List Value, vals.length + m = n → p vals := fun vals e => by
  cases vals with
  | nil => exact absurd (Nat.add_right_cancel (e.trans h.symm)) (Nat.succ_ne_zero _).symm
  | cons v r => exact el3 (p := fun r => p (v :: r)) (m := m) rfl (k v) r (el_s (i := 3) e h)
theorem el5 {p : List Value → Prop} {m n : Nat} (h : 5 + m = n) (k : ∀ v0 v1 v2 v3 v4 : Value, p [v0, v1, v2, v3, v4]) : ∀ vals : List Value, vals.length + m = n → p vals := fun vals e => by
  cases vals with
  | nil => exact absurd (Nat.add_right_cancel (e.trans h.symm)) (Nat.succ_ne_zero _).symm
  | cons v r => exact el4 (p := fun r => p (v :: r)) (m := m) rfl (k v) r (el_s (i := 4) e h)
theorem el6 {p : List Value → Prop} {m n : Nat} (h : 6 + m = n) (k : ∀ v0 v1 v2 v3 v4 v5 : Value, p [v0, v1, v2, v3, v4, v5]) : ∀ vals : List Value, vals.length + m = n → p vals := fun vals e => by
  cases vals with
  | nil => exact absurd (Nat.add_right_cancel (e.trans h.symm)) (Nat.succ_ne_zero _).symm
  | cons v r => exact el5 (p := fun r => p (v :: r)) (m := m) rfl (k v) r (el_s (i := 5) e h)
theorem el7 {p : List Value → Prop} {m n : Nat} (h : 7 + m = n) (k : ∀ v0 v1 v2 v3 v4 v5 v6 : Value, p [v0, v1, v2, v3, v4, v5, v6]) : ∀ vals : List Value, vals.length + m = n → p vals := fun vals e => by
  cases vals with
  | nil => exact absurd (Nat.add_right_cancel (e.trans h.symm)) (Nat.succ_ne_zero _).symm
  | cons v r => exact el6 (p := fun r => p (v :: r)) (m := m) rfl (k v) r (el_s (i := 6) e h)
theorem el8 {p : List Value → Prop} {m n : Nat} (h : 8 + m = n) (k : ∀ v0 v1 v2 v3 v4 v5 v6 v7 : Value, p [v0, v1, v2, v3, v4, v5, v6, v7]) : ∀ vals : List Value, vals.length + m = n → p vals := fun vals e => by
  cases vals with
  | nil => exact absurd (Nat.add_right_cancel (e.trans h.symm)) (Nat.succ_ne_zero _).symm
  | cons v r => exact el7 (p := fun r => p (v :: r)) (m := m) rfl (k v) r (el_s (i := 7) e h)
theorem plain_law : PlainLaw := by
  intro ns hn
  obtain ⟨H, n, h⟩ := law_ok ns hn
  exact ⟨n, [], H, h []⟩
theorem head.tw6474009502463322548 : True := ⟨⟩
theorem head.tw2350666744034440391 : True := ⟨⟩
theorem head.tw8929228282026156996 : True := ⟨⟩
theorem head.tw13335025841360890868 : True := ⟨⟩
theorem head.tw17474906238623947062 : True := ⟨⟩
theorem head.tw10008981339222156873 : True := ⟨⟩
theorem head.tw4992075536606663714 : True := ⟨⟩
theorem head.tw869964249740702211 : True := ⟨⟩
theorem head.tw13295602550337036981 : True := ⟨⟩
theorem head.tw10275917185175975021 : True := ⟨⟩
theorem head.tw16289325131906828649 : True := ⟨⟩
theorem head.tw7318791098327170449 : True := ⟨⟩
theorem head.tw13630207444239645078 : True := ⟨⟩
theorem head.tw748731779930912776 : True := ⟨⟩
theorem head.tw1039807614057055687 : True := ⟨⟩
theorem head.tw13470079964575554640 : True := ⟨⟩
theorem head.tw9388430590476628193 : True := ⟨⟩
theorem head.tw14969872817325187116 : True := ⟨⟩
theorem head.tw11821203517306503961 : True := ⟨⟩
theorem head.tw9495540839478616804 : True := ⟨⟩
theorem head.tw14699756766385990792 : True := ⟨⟩
theorem head.tw9818233190472326242 : True := ⟨⟩
theorem head.tw5617373736292572815 : True := ⟨⟩
theorem head.tw14112051064653734678 : True := ⟨⟩
theorem head.tw851385035628625539 : True := ⟨⟩
theorem head.tw16966009324859112401 : True := ⟨⟩
theorem head.tw5346772772824661884 : True := ⟨⟩
theorem head.tw7417405269818204032 : True := ⟨⟩
theorem head.tw17577399041416155939 : True := ⟨⟩
theorem head.tw2571168983127488356 : True := ⟨⟩
theorem head.tw9325057278558614444 : True := ⟨⟩
theorem head.tw9082462177598256812 : True := ⟨⟩
theorem head.tw7789450098604059249 : True := ⟨⟩
theorem head.tw649443455394278489 : True := ⟨⟩
theorem head.tw2237326684586592538 : True := ⟨⟩
theorem head.tw12903917746401883607 : True := ⟨⟩
theorem head.tw16072502192527678464 : True := ⟨⟩
theorem head.tw7287109101882759415 : True := ⟨⟩
theorem head.tw2340069552987342377 : True := ⟨⟩
theorem head.tw4709128311485490483 : True := ⟨⟩
theorem head.tw1499353310998574721 : True := ⟨⟩
theorem head.tw4693820183103290663 : True := ⟨⟩
theorem head.tw15841401105113185080 : True := ⟨⟩
theorem head.tw13295774097974887486 : True := ⟨⟩
theorem head.tw18416563613846182222 : True := ⟨⟩
theorem head.tw7450023128482652576 : True := ⟨⟩
theorem head.tw10875119458065257276 : True := ⟨⟩
theorem head.tw15296082917334920728 : True := ⟨⟩
theorem head.tw262713603470380999 : True := ⟨⟩
theorem head.tw6640010369347007910 : True := ⟨⟩
theorem head.tw3512634313551410195 : True := ⟨⟩
theorem head.tw6772502638888315869 : True := ⟨⟩
theorem head.tw9103479521544129834 : True := ⟨⟩
theorem head.tw18123143868385100064 : True := ⟨⟩
theorem head.tw1212124681294104184 : True := ⟨⟩
theorem head.tw7876399200375917224 : True := ⟨⟩
theorem head.tw14982685227137828758 : True := ⟨⟩
theorem head.tw12775505166333009402 : True := ⟨⟩
theorem head.tw11988142204041823098 : True := ⟨⟩
theorem head.tw10366927770000222440 : True := ⟨⟩
theorem head.tw9978949632667528635 : True := ⟨⟩
theorem head.tw930087139818521243 : True := ⟨⟩
theorem head.tw7712916153251135833 : True := ⟨⟩
theorem head.tw17002534310236347988 : True := ⟨⟩
theorem head.tw17905491414393134947 : True := ⟨⟩
theorem head.tw13689084217373910675 : True := ⟨⟩
theorem head.tw8476099583838051002 : True := ⟨⟩
theorem head.tw11005904730967762025 : True := ⟨⟩
theorem head.tw10706776884845955466 : True := ⟨⟩
theorem head.tw1618804561499322139 : True := ⟨⟩
theorem head.tw1276956409769668328 : True := ⟨⟩
theorem head.tw1495726902847802894 : True := ⟨⟩
theorem head.tw1909714482019496454 : True := ⟨⟩
theorem head.tw8912104118211102971 : True := ⟨⟩
theorem head.tw7090939061502383884 : True := ⟨⟩
theorem head.tw7906546307943345882 : True := ⟨⟩
theorem head.tw8187629637223713605 : True := ⟨⟩
theorem head.tw17197444120159719569 : True := ⟨⟩
theorem head.tw3368030927266983236 : True := ⟨⟩
theorem head.tw17015032458148788900 : True := ⟨⟩
theorem head.tw5207666765276788736 : True := ⟨⟩
theorem head.tw11427066125472700054 : True := ⟨⟩
theorem head.tw17725469503822016867 : True := ⟨⟩
theorem head.tw2529948359932261575 : True := ⟨⟩
theorem head.tw9145527808636388435 : True := ⟨⟩
theorem head.tw13955511503576765797 : True := ⟨⟩
theorem head.tw5986637957666399235 : True := ⟨⟩
theorem head.tw16111715859725283846 : True := ⟨⟩
theorem head.tw5104563664521345299 : True := ⟨⟩
theorem head.tw1211024037004892549 : True := ⟨⟩
theorem head.tw3547240966391284428 : True := ⟨⟩
theorem head.tw5331137831679937033 : True := ⟨⟩
theorem head.tw3083302935323014018 : True := ⟨⟩
theorem head.tw17826015225549371706 : True := ⟨⟩
theorem head.tw15895551434495452948 : True := ⟨⟩
theorem head.tw7758381527925395934 : True := ⟨⟩
theorem head.tw11105056867450500199 : True := ⟨⟩
theorem head.tw12147184966966947637 : True := ⟨⟩
theorem head.tw3944913497352057107 : True := ⟨⟩
theorem head.tw8097174177036852075 : True := ⟨⟩
theorem head.tw532055438628499158 : True := ⟨⟩
theorem head.tw4976181008148175253 : True := ⟨⟩
theorem head.tw17782148633632673465 : True := ⟨⟩
theorem head.tw16997897962222511 : True := ⟨⟩
theorem head.tw14139502460874162764 : True := ⟨⟩
theorem head.tw7658410731251134818 : True := ⟨⟩
theorem head.tw12032222614953749359 : True := ⟨⟩
theorem head.tw13078646160514809887 : True := ⟨⟩
theorem head.tw3986194592780655508 : True := ⟨⟩
theorem head.tw15253846138512369154 : True := ⟨⟩
theorem head.tw17789423225533864492 : True := ⟨⟩
theorem head.tw13294958713779813728 : True := ⟨⟩
theorem head.tw3991279037241028524 : True := ⟨⟩
theorem head.tw13510609219080548989 : True := ⟨⟩
theorem head.tw4009957668330374740 : True := ⟨⟩
theorem head.tw8159583801465064534 : True := ⟨⟩
theorem head.tw12841863872788715202 : True := ⟨⟩
theorem head.tw6880043348581005364 : True := ⟨⟩
theorem head.tw11434997419882176723 : True := ⟨⟩
theorem head.tw9515422150858430662 : True := ⟨⟩
theorem head.tw5319049981483164881 : True := ⟨⟩
theorem head.tw17552560543380974038 : True := ⟨⟩
theorem head.tw11296743742662292762 : True := ⟨⟩
theorem head.tw10079960370226730655 : True := ⟨⟩
theorem head.tw18384547517478447814 : True := ⟨⟩
theorem head.tw16172356507618199906 : True := ⟨⟩
theorem head.tw10015159338476511836 : True := ⟨⟩
theorem head.tw4972248218790579157 : True := ⟨⟩
theorem head.tw2591067827882107080 : True := ⟨⟩
theorem head.tw4975070653579243887 : True := ⟨⟩
theorem head.tw14393718171448925343 : True := ⟨⟩
theorem head.tw3746228215898030841 : True := ⟨⟩
theorem head.tw17854896373637125580 : True := ⟨⟩
theorem head.tw9702098958229961203 : True := ⟨⟩
theorem head.tw5506250874072839755 : True := ⟨⟩
theorem head.tw3304075619188804072 : True := ⟨⟩
theorem head.tw13896987355042952010 : True := ⟨⟩
theorem head.tw8185714761375850791 : True := ⟨⟩
theorem head.tw18007968972792079559 : True := ⟨⟩
theorem head.tw10533634037010066435 : True := ⟨⟩
theorem head.tw8812732774380208333 : True := ⟨⟩
theorem head.tw5092371620264689978 : True := ⟨⟩
theorem head.tw15064752311394979489 : True := ⟨⟩
theorem head.tw16031315777459398524 : True := ⟨⟩
theorem head.tw1852205218256702202 : True := ⟨⟩
theorem head.tw16172288393029767808 : True := ⟨⟩
theorem head.tw17142359554024780413 : True := ⟨⟩
theorem head.tw16572314662081343053 : True := ⟨⟩
theorem head.tw5508695066786827253 : True := ⟨⟩
theorem head.tw3501597964444990463 : True := ⟨⟩
theorem head.tw17411354535832351560 : True := ⟨⟩
theorem head.tw9114333099845857663 : True := ⟨⟩
theorem head.tw8603420104599213669 : True := ⟨⟩
theorem head.tw12987040726578829979 : True := ⟨⟩
theorem head.tw16640130746408290383 : True := ⟨⟩
theorem head.tw11714945338242495837 : True := ⟨⟩
theorem head.tw8997269238129315039 : True := ⟨⟩
theorem head.tw16894197260953374720 : True := ⟨⟩
theorem head.tw5944575059761466720 : True := ⟨⟩
theorem head.tw2994366008111725845 : True := ⟨⟩
theorem head.tw4311042196063409733 : True := ⟨⟩
theorem head.tw15468718075485040107 : True := ⟨⟩
theorem head.tw12763952150808568291 : True := ⟨⟩
theorem head.tw13180129090757240718 : True := ⟨⟩
theorem head.tw4691952243595246448 : True := ⟨⟩
theorem head.tw15037083628117588352 : True := ⟨⟩
theorem head.tw5723944856813171866 : True := ⟨⟩
theorem head.tw9658139154387788515 : True := ⟨⟩
theorem head.tw533756555076263647 : True := ⟨⟩
theorem head.tw11544532188706048022 : True := ⟨⟩
theorem head.tw14667470093908496907 : True := ⟨⟩
theorem head.tw7523532297153676066 : True := ⟨⟩
theorem head.tw12949380547846470161 : True := ⟨⟩
theorem head.tw16984083398119652359 : True := ⟨⟩
theorem head.tw6298033893332097587 : True := ⟨⟩
theorem head.tw4277651752456152607 : True := ⟨⟩
theorem head.tw14417885227837004991 : True := ⟨⟩
theorem head.tw10510622979536455646 : True := ⟨⟩
theorem head.tw8895791426145780158 : True := ⟨⟩
theorem head.tw14744981736328886265 : True := ⟨⟩
theorem head.tw1506576300011279404 : True := ⟨⟩
theorem head.tw12398312691204496596 : True := ⟨⟩
theorem head.tw6836605351468522007 : True := ⟨⟩
theorem head.tw11426403942048686318 : True := ⟨⟩
theorem head.tw4381510469713062047 : True := ⟨⟩
theorem head.tw14843749296085226474 : True := ⟨⟩
theorem head.tw11484358847640170188 : True := ⟨⟩
theorem head.tw9062998866958442273 : True := ⟨⟩
theorem head.tw17646911460466567920 : True := ⟨⟩
theorem head.tw497287684792784471 : True := ⟨⟩
theorem head.tw1748456618969930982 : True := ⟨⟩
theorem head.tw17265401458761052179 : True := ⟨⟩
theorem head.tw17508272824862286709 : True := ⟨⟩
theorem head.tw4433315090154635215 : True := ⟨⟩
theorem head.tw6846866878297920324 : True := ⟨⟩
theorem head.tw17212568112599259466 : True := ⟨⟩
theorem head.tw15895748673760503845 : True := ⟨⟩
theorem head.tw3088210815446039105 : True := ⟨⟩
theorem head.tw12201952087667049370 : True := ⟨⟩
theorem head.tw1463646239528298992 : True := ⟨⟩
theorem head.tw15506723302920939300 : True := ⟨⟩
theorem head.tw14643560169476415855 : True := ⟨⟩
theorem head.tw18433677622606106133 : True := ⟨⟩
theorem head.tw13199516396595161752 : True := ⟨⟩
theorem head.tw15204471325056678010 : True := ⟨⟩
theorem head.tw8758324158161630591 : True := ⟨⟩
theorem head.tw3547030090768783262 : True := ⟨⟩
theorem head.tw8535708456716222715 : True := ⟨⟩
theorem head.tw8382746154173761051 : True := ⟨⟩
theorem head.tw3160712208675142370 : True := ⟨⟩
theorem head.tw15148963937461231693 : True := ⟨⟩
theorem head.tw14518809818687928135 : True := ⟨⟩
theorem head.tw9407594320385231609 : True := ⟨⟩
theorem head.tw6846597200999610202 : True := ⟨⟩
theorem head.tw10504981510240967646 : True := ⟨⟩
theorem head.tw17698105195316432488 : True := ⟨⟩
theorem head.tw3556061257289618393 : True := ⟨⟩
theorem head.tw13942192884097748152 : True := ⟨⟩
theorem head.tw8534208459206503383 : True := ⟨⟩
theorem head.tw3980653432952411973 : True := ⟨⟩
theorem head.tw15798066900824788120 : True := ⟨⟩
theorem head.tw15510365090734361527 : True := ⟨⟩
theorem head.tw3749026756887285471 : True := ⟨⟩
theorem head.tw16874305072444578374 : True := ⟨⟩
theorem head.tw1315816938146588887 : True := ⟨⟩
theorem head.tw11290360913936777911 : True := ⟨⟩
theorem head.tw15735840784391694233 : True := ⟨⟩
theorem head.tw12858780395421280599 : True := ⟨⟩
theorem head.tw17525636777796739105 : True := ⟨⟩
theorem head.tw820421773197932041 : True := ⟨⟩
theorem head.tw6121141971511671821 : True := ⟨⟩
theorem head.tw9592777112578238593 : True := ⟨⟩
theorem head.tw1457377512435260902 : True := ⟨⟩
theorem head.tw10010264046613662565 : True := ⟨⟩
theorem head.tw13585267454733459922 : True := ⟨⟩
theorem head.tw69809265629811306 : True := ⟨⟩
theorem head.tw6587087628758450585 : True := ⟨⟩
theorem head.tw16847831306532103052 : True := ⟨⟩
theorem head.tw13954853420313727417 : True := ⟨⟩
theorem head.tw12740806245664736207 : True := ⟨⟩
theorem head.tw8874674299285249911 : True := ⟨⟩
theorem head.tw4839655697589452165 : True := ⟨⟩
theorem head.tw12892129938458570674 : True := ⟨⟩
theorem head.tw9074772780463953568 : True := ⟨⟩
theorem head.tw7661765248129044261 : True := ⟨⟩
theorem head.tw6889739017440866108 : True := ⟨⟩
theorem head.tw14512941343882779238 : True := ⟨⟩
theorem head.tw10812213935944405949 : True := ⟨⟩
theorem head.tw5438144065070405397 : True := ⟨⟩
theorem head.tw3794523003379204399 : True := ⟨⟩
theorem head.tw17700853532424174462 : True := ⟨⟩
theorem head.tw12870424476946447624 : True := ⟨⟩
theorem head.tw12822298378996975857 : True := ⟨⟩
theorem head.tw4746297304354101679 : True := ⟨⟩
theorem head.tw9162278640276766204 : True := ⟨⟩
theorem head.tw14527164170590304321 : True := ⟨⟩
theorem head.tw9746458257258439470 : True := ⟨⟩
theorem head.tw9196398404247428943 : True := ⟨⟩
theorem head.tw5638995163158488052 : True := ⟨⟩
theorem head.tw2491421050496283774 : True := ⟨⟩
theorem head.tw16714887947964762639 : True := ⟨⟩
theorem head.tw10668533816033670360 : True := ⟨⟩
theorem head.tw9984397402777080727 : True := ⟨⟩
theorem head.tw9820158181544301314 : True := ⟨⟩
theorem head.tw9464831228461672588 : True := ⟨⟩
theorem head.tw9280153536138602973 : True := ⟨⟩
theorem head.tw9186546921256032858 : True := ⟨⟩
theorem head.tw9101448428047585222 : True := ⟨⟩
theorem head.tw8866670633112419022 : True := ⟨⟩
theorem head.tw8715499118904818895 : True := ⟨⟩
theorem head.tw8627200689577751383 : True := ⟨⟩
theorem head.tw8414573866900348196 : True := ⟨⟩
theorem head.tw7833285031277912329 : True := ⟨⟩
theorem head.tw7512725033676591148 : True := ⟨⟩
theorem head.tw7253898381062576733 : True := ⟨⟩
theorem head.tw7119846925741900413 : True := ⟨⟩
theorem head.tw6737735255597943219 : True := ⟨⟩
theorem head.tw6507506987150044280 : True := ⟨⟩
theorem head.tw6211381574409162282 : True := ⟨⟩
theorem head.tw6202090305015876224 : True := ⟨⟩
theorem head.tw6110071263904590700 : True := ⟨⟩
theorem head.tw5973763720392745831 : True := ⟨⟩
theorem head.tw5651425540991249520 : True := ⟨⟩
theorem head.tw5487235932777146282 : True := ⟨⟩
theorem head.tw5401097623525119610 : True := ⟨⟩
theorem head.tw4964814941381164201 : True := ⟨⟩
theorem head.tw48543519692965452 : True := ⟨⟩
theorem head.tw466721876749952763 : True := ⟨⟩
theorem head.tw4607607821588926596 : True := ⟨⟩
theorem head.tw4415685298772064003 : True := ⟨⟩
theorem head.tw4196546014268931301 : True := ⟨⟩
theorem head.tw4160124254940468481 : True := ⟨⟩
theorem head.tw4063747431996464497 : True := ⟨⟩
theorem head.tw3973953319845086491 : True := ⟨⟩
theorem head.tw3715584954343283195 : True := ⟨⟩
theorem head.tw3688799982635324794 : True := ⟨⟩
theorem head.tw3665506230870052707 : True := ⟨⟩
theorem head.tw3615648651819825313 : True := ⟨⟩
theorem head.tw3453547403478019728 : True := ⟨⟩
theorem head.tw315434073420411817 : True := ⟨⟩
theorem head.tw3103639331685909893 : True := ⟨⟩
theorem head.tw3089916443595474862 : True := ⟨⟩
theorem head.tw300626226527484142 : True := ⟨⟩
theorem head.tw2879759524354350568 : True := ⟨⟩
theorem head.tw2694075680205673411 : True := ⟨⟩
theorem head.tw2581250870941146908 : True := ⟨⟩
theorem head.tw2400818531096893172 : True := ⟨⟩
theorem head.tw2393098407364606883 : True := ⟨⟩
theorem head.tw2249667046024356820 : True := ⟨⟩
theorem head.tw18051680202136193954 : True := ⟨⟩
theorem head.tw17844492200522320778 : True := ⟨⟩
theorem head.tw17674571679781333832 : True := ⟨⟩
theorem head.tw17464823870196871000 : True := ⟨⟩
theorem head.tw17243387458012846398 : True := ⟨⟩
theorem head.tw17113217626458354986 : True := ⟨⟩
theorem head.tw17093656651364094606 : True := ⟨⟩
theorem head.tw16922147877168347812 : True := ⟨⟩
theorem head.tw16817119741492734445 : True := ⟨⟩
theorem head.tw16800043278716471037 : True := ⟨⟩
theorem head.tw1620002657737552111 : True := ⟨⟩
theorem head.tw15894371620910866019 : True := ⟨⟩
theorem head.tw15782939476341012554 : True := ⟨⟩
theorem head.tw15112835437128306455 : True := ⟨⟩
theorem head.tw15035418422258542911 : True := ⟨⟩
theorem head.tw14943480678444902952 : True := ⟨⟩
theorem head.tw14788773977795034992 : True := ⟨⟩
theorem head.tw14699528089545365996 : True := ⟨⟩
theorem head.tw14679116673082234219 : True := ⟨⟩
theorem head.tw13743032657059413451 : True := ⟨⟩
theorem head.tw13353151263460963528 : True := ⟨⟩
theorem head.tw13337238644230332656 : True := ⟨⟩
theorem head.tw13246386896891170512 : True := ⟨⟩
theorem head.tw13198292447841614426 : True := ⟨⟩
theorem head.tw13086575352542018947 : True := ⟨⟩
theorem head.tw12865059321931465230 : True := ⟨⟩
theorem head.tw12851702773856589430 : True := ⟨⟩
theorem head.tw12475708393154427166 : True := ⟨⟩
theorem head.tw12352672977532951062 : True := ⟨⟩
theorem head.tw12310735299239354703 : True := ⟨⟩
theorem head.tw11862927689305589065 : True := ⟨⟩
theorem head.tw11692735721529064706 : True := ⟨⟩
theorem head.tw11628534518673281344 : True := ⟨⟩
theorem head.tw1134157569726261602 : True := ⟨⟩
theorem head.tw11194998557105285118 : True := ⟨⟩
theorem head.tw11124748197601291601 : True := ⟨⟩
theorem head.tw10987702880554017565 : True := ⟨⟩
theorem head.tw10898857373019930491 : True := ⟨⟩
theorem head.tw10865165270600546614 : True := ⟨⟩
theorem head.tw10786079294511566085 : True := ⟨⟩
theorem head.tw10519217271611395807 : True := ⟨⟩
theorem head.tw10431609616501453582 : True := ⟨⟩
theorem head : PySem.Challenge.rw_xw0168_01.Holds := by
  (w_on; o_law; k_head; (case hw => w_witness2))
  k_fill
  intro w s₀ s₁ mg mb G Y fa o pm cd doc dV kV ho hd hcd hD hmg hg args vals as hpre hlay hrd hwl hlo
  have KX := kIn_of Y
  have X := (Ground.X G).1
  have V := (Ground.X G).2
  refine Ground.open G ?_
  intro T B D TE TW
  obtain ⟨_, _, M⟩ := bmod_of_top T
  have TA := at_of_top T
  wrow_args hpre hlay hrd hwl hlo
  all_goals (
    first | refine callC_kw (enter_call ?_) | refine enter_call ?_ | refine callC_kw (enter_callW ?_) | refine enter_callW ?_
    w_top on
    try refine codeAny_mono ?_ (fun _ _ g => GoodW.toG g)
    have K0 := below_caller (Top.heap T))
  rename_i ns _ _ _ _ _ _ _ l vs _ hL _ _ _ hI _ hn _
  refine law_codes plain_law ?kf T KX hmg hL hI (by omega) hg (fun _ => rfl) (by kernel_rfl)
  case kf =>
    refine ⟨fun P => ?_, fun P => ?_, fun P => ?_, fun P => ?_, fun P => ?_, fun P => ?_, fun P => ⟨_, by rfl⟩, fun P => ?_, fun f hf => ?_⟩
    · intro c hc
      have : c = 0 ∨ c = 1 ∨ c = 2 := by omega
      rcases this with rfl | rfl | rfl <;> exact ⟨by kernel_rfl, by kernel_rfl, by kernel_rfl, by kernel_rfl, by kernel_rfl, by kernel_rfl, by kernel_rfl, by intro f hf; simp only [fieldNames, List.mem_cons, List.not_mem_nil, or_false] at hf; rcases hf with rfl | rfl | rfl | rfl | rfl | rfl | rfl | rfl | rfl | rfl | rfl | rfl <;> kernel_rfl⟩
    · intro e he
      simp only [mtTab, List.mem_cons, List.not_mem_nil, or_false] at he
      rcases he with rfl | rfl | rfl | rfl | rfl | rfl | rfl | rfl | rfl | rfl | rfl <;> kernel_rfl
    · intro e he
      simp only [initTab, List.mem_cons, List.not_mem_nil, or_false] at he
      rcases he with rfl | rfl | rfl <;> kernel_rfl
    · intro e he
      simp only [globTab, List.mem_cons, List.not_mem_nil, or_false] at he
      rcases he with rfl | rfl | rfl | rfl | rfl | rfl | rfl | rfl | rfl | rfl | rfl | rfl | rfl | rfl | rfl | rfl | rfl | rfl | rfl | rfl | rfl | rfl <;> kernel_rfl
    · intro e he
      simp only [clsTab, List.mem_cons, List.not_mem_nil, or_false] at he
      rcases he with rfl | rfl | rfl <;> kernel_rfl
    · intro e he
      simp only [bltNames, List.mem_cons, List.not_mem_nil, or_false] at he
      rcases he with rfl | rfl | rfl | rfl | rfl | rfl | rfl | rfl | rfl <;> kernel_rfl
    · intro a ha
      simp only [addrF, List.mem_cons, List.not_mem_nil, or_false] at ha
      rcases ha with rfl | rfl | rfl | rfl | rfl | rfl | rfl | rfl | rfl | rfl | rfl | rfl | rfl | rfl | rfl | rfl | rfl | rfl | rfl | rfl | rfl | rfl | rfl | rfl | rfl | rfl | rfl | rfl | rfl | rfl | rfl | rfl | rfl | rfl | rfl | rfl <;> exact ⟨by kernel_rfl, by kernel_rfl⟩
    · match f, hf with
      | 0, _ => show KRow _ 61 (scOf 0) (bodyOf 0) ["told"] []; exact ⟨fun P => ⟨_, _, [], rfl, rfl, rfl, rfl, rfl, rfl, rfl, rfl, fun _ _ => .nil, el1 rfl fun _ s X => BindsTo.of_eq rfl⟩⟩
      | 1, _ => show KRow _ 94 (scOf 1) (bodyOf 1) ["self"] []; exact ⟨fun P => ⟨_, _, [], rfl, rfl, rfl, rfl, rfl, rfl, rfl, rfl, fun _ _ => .nil, el1 rfl fun _ s X => BindsTo.of_eq rfl⟩⟩
      | 2, _ => show KRow _ 101 (scOf 2) (bodyOf 2) ["self"] []; exact ⟨fun P => ⟨_, _, [], rfl, rfl, rfl, rfl, rfl, rfl, rfl, rfl, fun _ _ => .nil, el1 rfl fun _ s X => BindsTo.of_eq rfl⟩⟩
      | 3, _ => show KRow _ 108 (scOf 3) (bodyOf 3) ["self"] []; exact ⟨fun P => ⟨_, _, [], rfl, rfl, rfl, rfl, rfl, rfl, rfl, rfl, fun _ _ => .nil, el1 rfl fun _ s X => BindsTo.of_eq rfl⟩⟩
      | 4, _ => show KRow _ 115 (scOf 4) (bodyOf 4) ["self", "told"] []; exact ⟨fun P => ⟨_, _, [], rfl, rfl, rfl, rfl, rfl, rfl, rfl, rfl, fun _ _ => .nil, el2 rfl fun _ _ s X => BindsTo.of_eq rfl⟩⟩
      | 5, _ => show KRow _ 127 (scOf 5) (bodyOf 5) ["self", "unknown", "told"] []; exact ⟨fun P => ⟨_, _, [], rfl, rfl, rfl, rfl, rfl, rfl, rfl, rfl, fun _ _ => .nil, el3 rfl fun _ _ _ s X => BindsTo.of_eq rfl⟩⟩
      | 6, _ => show KRow _ 134 (scOf 6) (bodyOf 6) ["self", "unknown", "told"] []; exact ⟨fun P => ⟨_, _, [], rfl, rfl, rfl, rfl, rfl, rfl, rfl, rfl, fun _ _ => .nil, el3 rfl fun _ _ _ s X => BindsTo.of_eq rfl⟩⟩
      | 7, _ => show KRow _ 141 (scOf 7) (bodyOf 7) ["self", "one", "other"] []; exact ⟨fun P => ⟨_, _, [], rfl, rfl, rfl, rfl, rfl, rfl, rfl, rfl, fun _ _ => .nil, el3 rfl fun _ _ _ s X => BindsTo.of_eq rfl⟩⟩
      | 8, _ => show KRow _ 169 (scOf 8) (bodyOf 8) ["one", "other"] []; exact ⟨fun P => ⟨_, _, [], rfl, rfl, rfl, rfl, rfl, rfl, rfl, rfl, fun _ _ => .nil, el2 rfl fun _ _ s X => BindsTo.of_eq rfl⟩⟩
      | 9, _ => show KRow _ 174 (scOf 9) (bodyOf 9) ["T", "found"] []; exact ⟨fun P => ⟨_, _, [], rfl, rfl, rfl, rfl, rfl, rfl, rfl, rfl, fun _ _ => .nil, el2 rfl fun _ _ s X => BindsTo.of_eq rfl⟩⟩
      | 10, _ => show KRow _ 188 (scOf 10) (bodyOf 10) ["self"] []; exact ⟨fun P => ⟨_, _, [], rfl, rfl, rfl, rfl, rfl, rfl, rfl, rfl, fun _ _ => .nil, el1 rfl fun _ s X => BindsTo.of_eq rfl⟩⟩
      | 11, _ => show KRow _ 195 (scOf 11) (bodyOf 11) ["self", "T"] []; exact ⟨fun P => ⟨_, _, [], rfl, rfl, rfl, rfl, rfl, rfl, rfl, rfl, fun _ _ => .nil, el2 rfl fun _ _ s X => BindsTo.of_eq rfl⟩⟩
      | 12, _ => show KRow _ 200 (scOf 12) (bodyOf 12) ["self", "T", "name"] []; exact ⟨fun P => ⟨_, _, [], rfl, rfl, rfl, rfl, rfl, rfl, rfl, rfl, fun _ _ => .nil, el3 rfl fun _ _ _ s X => BindsTo.of_eq rfl⟩⟩
      | 13, _ => show KRow _ 207 (scOf 13) (bodyOf 13) ["self", "name", "T"] []; exact ⟨fun P => ⟨_, _, [], rfl, rfl, rfl, rfl, rfl, rfl, rfl, rfl, fun _ _ => .nil, el3 rfl fun _ _ _ s X => BindsTo.of_eq rfl⟩⟩
      | 14, _ => show KRow _ 214 (scOf 14) (bodyOf 14) ["self", "one", "other"] []; exact ⟨fun P => ⟨_, _, [], rfl, rfl, rfl, rfl, rfl, rfl, rfl, rfl, fun _ _ => .nil, el3 rfl fun _ _ _ s X => BindsTo.of_eq rfl⟩⟩
      | 15, _ => show KRow _ 221 (scOf 15) (bodyOf 15) ["self", "some", "others"] []; exact ⟨fun P => ⟨_, _, [], rfl, rfl, rfl, rfl, rfl, rfl, rfl, rfl, fun _ _ => .nil, el3 rfl fun _ _ _ s X => BindsTo.of_eq rfl⟩⟩
      | 16, _ => show KRow _ 243 (scOf 16) (bodyOf 16) ["impl", "side"] []; exact ⟨fun P => ⟨_, _, [], rfl, rfl, rfl, rfl, rfl, rfl, rfl, rfl, fun _ _ => .nil, el2 rfl fun _ _ s X => BindsTo.of_eq rfl⟩⟩
      | 17, _ => show KRow _ 250 (scOf 17) (bodyOf 17) ["one", "other"] []; exact ⟨fun P => ⟨_, _, [], rfl, rfl, rfl, rfl, rfl, rfl, rfl, rfl, fun _ _ => .nil, el2 rfl fun _ _ s X => BindsTo.of_eq rfl⟩⟩
      | 18, _ => show KRow _ 255 (scOf 18) (bodyOf 18) ["one", "other"] []; exact ⟨fun P => ⟨_, _, [], rfl, rfl, rfl, rfl, rfl, rfl, rfl, rfl, fun _ _ => .nil, el2 rfl fun _ _ s X => BindsTo.of_eq rfl⟩⟩
      | 19, _ => show KRow _ 270 (scOf 19) (bodyOf 19) ["self", "number", "regions", "params", "trait", "trait_args", "self_type", "methods", "spot"] [.int 0]; exact ⟨fun P => ⟨_, _, [.int 0 532], rfl, rfl, rfl, rfl, rfl, rfl, rfl, rfl, fun _ _ => .cons (.int _ _) .nil, el8 rfl fun _ _ _ _ _ _ _ _ s X => binds_K X rfl rfl rfl rfl rfl⟩⟩
      | 20, _ => show KRow _ 284 (scOf 20) (bodyOf 20) ["script"] []; exact ⟨fun P => ⟨_, _, [], rfl, rfl, rfl, rfl, rfl, rfl, rfl, rfl, fun _ _ => .nil, el1 rfl fun _ s X => BindsTo.of_eq rfl⟩⟩
      | 21, _ => show KRow _ 291 (scOf 21) (bodyOf 21) ["source", "top"] []; exact ⟨fun P => ⟨_, _, [], rfl, rfl, rfl, rfl, rfl, rfl, rfl, rfl, fun _ _ => .nil, el2 rfl fun _ _ s X => BindsTo.of_eq rfl⟩⟩
      | 22, _ => show KRow _ 298 (scOf 22) (bodyOf 22) ["source", "things"] []; exact ⟨fun P => ⟨_, _, [], rfl, rfl, rfl, rfl, rfl, rfl, rfl, rfl, fun _ _ => .nil, el2 rfl fun _ _ s X => BindsTo.of_eq rfl⟩⟩
      | 23, _ => show KRow _ 305 (scOf 23) (bodyOf 23) [] []; exact ⟨fun P => ⟨_, _, [], rfl, rfl, rfl, rfl, rfl, rfl, rfl, rfl, fun _ _ => .nil, el0 rfl fun s X => BindsTo.of_eq rfl⟩⟩
      | 24, _ => show KRow _ 312 (scOf 24) (bodyOf 24) ["found"] []; exact ⟨fun P => ⟨_, _, [], rfl, rfl, rfl, rfl, rfl, rfl, rfl, rfl, fun _ _ => .nil, el1 rfl fun _ s X => BindsTo.of_eq rfl⟩⟩
      | 25, _ => show KRow _ 319 (scOf 25) (bodyOf 25) ["T"] []; exact ⟨fun P => ⟨_, _, [], rfl, rfl, rfl, rfl, rfl, rfl, rfl, rfl, fun _ _ => .nil, el1 rfl fun _ s X => BindsTo.of_eq rfl⟩⟩
      | 26, _ => show KRow _ 326 (scOf 26) (bodyOf 26) ["book", "number", "T"] []; exact ⟨fun P => ⟨_, _, [], rfl, rfl, rfl, rfl, rfl, rfl, rfl, rfl, fun _ _ => .nil, el3 rfl fun _ _ _ s X => BindsTo.of_eq rfl⟩⟩
      | 27, _ => show KRow _ 331 (scOf 27) (bodyOf 27) ["source"] []; exact ⟨fun P => ⟨_, _, [], rfl, rfl, rfl, rfl, rfl, rfl, rfl, rfl, fun _ _ => .nil, el1 rfl fun _ s X => BindsTo.of_eq rfl⟩⟩
      | 28, _ => show KRow _ 336 (scOf 28) (bodyOf 28) [] []; exact ⟨fun P => ⟨_, _, [], rfl, rfl, rfl, rfl, rfl, rfl, rfl, rfl, fun _ _ => .nil, el0 rfl fun s X => BindsTo.of_eq rfl⟩⟩
      | 29, _ => show KRow _ 341 (scOf 29) (bodyOf 29) [] []; exact ⟨fun P => ⟨_, _, [], rfl, rfl, rfl, rfl, rfl, rfl, rfl, rfl, fun _ _ => .nil, el0 rfl fun s X => BindsTo.of_eq rfl⟩⟩
      | 30, _ => show KRow _ 348 (scOf 30) (bodyOf 30) [] []; exact ⟨fun P => ⟨_, _, [], rfl, rfl, rfl, rfl, rfl, rfl, rfl, rfl, fun _ _ => .nil, el0 rfl fun s X => BindsTo.of_eq rfl⟩⟩
      | 31, _ => show KRow _ 355 (scOf 31) (bodyOf 31) ["pattern", "T"] []; exact ⟨fun P => ⟨_, _, [], rfl, rfl, rfl, rfl, rfl, rfl, rfl, rfl, fun _ _ => .nil, el2 rfl fun _ _ s X => BindsTo.of_eq rfl⟩⟩
      | 32, _ => show KRow _ 360 (scOf 32) (bodyOf 32) ["number", "trait", "args", "T", "names"] []; exact ⟨fun P => ⟨_, _, [], rfl, rfl, rfl, rfl, rfl, rfl, rfl, rfl, fun _ _ => .nil, el5 rfl fun _ _ _ _ _ s X => BindsTo.of_eq rfl⟩⟩
      | 33, _ => show KRow _ 367 (scOf 33) (bodyOf 33) [] []; exact ⟨fun P => ⟨_, _, [], rfl, rfl, rfl, rfl, rfl, rfl, rfl, rfl, fun _ _ => .nil, el0 rfl fun s X => BindsTo.of_eq rfl⟩⟩
      | 34, _ => show KRow _ 372 (scOf 34) (bodyOf 34) ["source"] []; exact ⟨fun P => ⟨_, _, [], rfl, rfl, rfl, rfl, rfl, rfl, rfl, rfl, fun _ _ => .nil, el1 rfl fun _ s X => BindsTo.of_eq rfl⟩⟩
      | 35, _ => show KRow _ 379 (scOf 35) (bodyOf 35) ["script"] []; exact ⟨fun P => ⟨_, _, [], rfl, rfl, rfl, rfl, rfl, rfl, rfl, rfl, fun _ _ => .nil, el1 rfl fun _ s X => BindsTo.of_eq rfl⟩⟩
      | n + 36, hn => exact absurd hn (by omega)
end Mine
end

theorem PySem.Challenge.cw_xw0168_01_holds : PySem.Challenge.rw_xw0168_01.Holds := by
  exact Mine.head
